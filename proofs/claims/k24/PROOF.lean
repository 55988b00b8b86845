import PyProof.Rows.All
import Wide.All
import OpenK.AllK
import Wide.FinOn
import HandS.ForMost
import HandS.Exc
import HandS.TryOnly
import HandS.ExcOwn
import HandS.WordsExc
import HandS.IsInst
import HandS.Zip
import HandS.Rev
import KE.DataFind
import HandS.TupAny
import HandS.RevTup
import HandS.ExcIs
import HandS.More
import HandS.TupLe
import HandS.CallLocal
import HandS.Small
import HandS.Wide
import PySem.Challenge.RW_wordfractions_k24_identities
set_option Elab.async false
set_option linter.all false
set_option maxRecDepth 100000
namespace Dl
open PySem L2

/-! ## values without addresses of tuples; the store of what may change -/
inductive D where
  | non | bl (b : Bool) | int (i : Int) | str (x : Str) | tup (xs : List D) | ref (l : Nat) | raw (v : V)
  deriving Inhabited

inductive Cell where
  | lst (xs : List D) | rol (xs : List D) | dic (kvs : List (Key × D)) | gone
  deriving Inhabited
def Cell.mut : Cell → Bool
  | .lst _ => true
  | .dic _ => true
  | _ => false
abbrev Store := List Cell
structure Exn where
  name : Str
  fs : List (Str × D)
inductive R (α : Type) where
  | ok (a : α) (S : Store) | ex (x : Exn) (S : Store) | no
abbrev Env := List (Option D)
abbrev M (α : Type) := Store → R α
def R.bind {α β : Type} : R α → (α → Store → R β) → R β
  | .ok a S, k => k a S
  | .ex x S, _ => .ex x S
  | .no, _ => .no
@[simp] theorem R.bind_ok {α β : Type} (a : α) (S : Store) (k : α → Store → R β) : (R.ok a S).bind k = k a S := rfl
@[simp] theorem R.bind_ex {α β : Type} (x : Exn) (S : Store) (k : α → Store → R β) : (R.ex x S).bind k = .ex x S := rfl
@[simp] theorem R.bind_no {α β : Type} (k : α → Store → R β) : (R.no).bind k = .no := rfl
abbrev EX := Env → Store → R D
abbrev TX := Env → Store → R Bool
abbrev AX := Env → Store → R (List D)
inductive Out where
  | nx (ρ : Env) (S : Store) | rt (d : D) (S : Store) | bk (ρ : Env) (S : Store) | ct (ρ : Env) (S : Store) | ex (x : Exn) (ρ : Env) (S : Store) | no
abbrev SX := Env → Store → Out
/-- an expression's outcome within a statement -/
def R.out {α : Type} (ρ : Env) : R α → (α → Store → Out) → Out
  | .ok a S, k => k a S
  | .ex x S, _ => .ex x ρ S
  | .no, _ => .no
@[simp] theorem R.out_ok {α : Type} (ρ : Env) (a : α) (S : Store) (k : α → Store → Out) : (R.ok a S).out ρ k = k a S := rfl
@[simp] theorem R.out_ex {α : Type} (ρ : Env) (x : Exn) (S : Store) (k : α → Store → Out) : (R.ex (α := α) x S).out ρ k = .ex x ρ S := rfl
@[simp] theorem R.out_no {α : Type} (ρ : Env) (k : α → Store → Out) : (R.no (α := α)).out ρ k = .no := rfl

/-! ## how they stand in the heap -/
/-- a tuple without a dict of its own -/
def TupAt (K : PySem.W.Frag) (H : Hp) (a : Addr) (vs : List V) : Prop :=
  (∃ o, H a = some (.frz o (.tup vs)) ∧ o.cls = .type "tuple" ∧ o.dict = none) ∨
    ∃ (o : Obj) (its : Array Value) (n : Nat), K.lookup a = some o ∧ o.cls = .type "tuple" ∧ o.dict = none ∧ o.data = .seq its n ∧ its.size ≤ sizeLine ∧ Vals vs its.toList
theorem TupAt.sq {K : PySem.W.Frag} {H : Hp} {a : Addr} {vs : List V} (h : TupAt K H a vs) : SqT K H a vs := by
  rcases h with ⟨o, h, _⟩ | ⟨o, its, n, h1, h2, _, h3, h4, h5⟩
  · exact .inl (.inr ⟨o, h⟩)
  · exact .inr ⟨o, its, n, h1, h2, h3, h4, h5⟩
/-- a list that nobody may write -/
def RolAt (K : PySem.W.Frag) (H : Hp) (a : Addr) (vs : List V) : Prop :=
  (∃ o, H a = some (.frz o (.lst vs))) ∨
    ∃ (o : Obj) (its : Array Value) (n : Nat), K.lookup a = some o ∧ o.cls = .type "list" ∧ o.dict = none ∧ o.data = .seq its n ∧ its.size ≤ sizeLine ∧ Vals vs its.toList
theorem RolAt.sq {K : PySem.W.Frag} {H : Hp} {a : Addr} {vs : List V} (h : RolAt K H a vs) : SqL K H a vs := by
  rcases h with ⟨o, h⟩ | h
  · exact .inl (.inr ⟨o, h⟩)
  · exact .inr h
mutual
inductive RD (K : PySem.W.Frag) (m : List Addr) (H : Hp) : V → D → Prop
  | non : RD K m H .non .non
  | bl (b : Bool) : RD K m H (.bl b) (.bl b)
  | int (i : Int) : RD K m H (.int i) (.int i)
  | str {x : Str} (h : x.length ≤ 16777216) : RD K m H (.str x) (.str x)
  | tup {a : Addr} {vs : List V} {ds : List D} (h : TupAt K H a vs) (r : RDs K m H vs ds) : RD K m H (.ref a) (.tup ds)
  | ref {a : Addr} {l : Nat} (h : m[l]? = some a) : RD K m H (.ref a) (.ref l)
  | raw (v : V) : RD K m H v (.raw v)
inductive RDs (K : PySem.W.Frag) (m : List Addr) (H : Hp) : List V → List D → Prop
  | nil : RDs K m H [] []
  | cons {v : V} {d : D} {vs : List V} {ds : List D} (h : RD K m H v d) (t : RDs K m H vs ds) : RDs K m H (v :: vs) (d :: ds)
end
structure Ext (K : PySem.W.Frag) (m : List Addr) (H : Hp) (m' : List Addr) (H' : Hp) : Prop where
  pre : ∃ r, m' = m ++ r
  tup : ∀ a vs, TupAt K H a vs → TupAt K H' a vs
theorem Ext.refl {K : PySem.W.Frag} {m : List Addr} {H : Hp} : Ext K m H m H := ⟨⟨[], by simp⟩, fun _ _ h => h⟩
theorem Ext.trans {K : PySem.W.Frag} {m m1 m2 : List Addr} {H H1 H2 : Hp} (a : Ext K m H m1 H1) (b : Ext K m1 H1 m2 H2) : Ext K m H m2 H2 := by
  obtain ⟨⟨r, e⟩, t⟩ := a
  obtain ⟨⟨r', e'⟩, t'⟩ := b
  exact ⟨⟨r ++ r', by rw [e', e, List.append_assoc]⟩, fun x vs h => t' x vs (t x vs h)⟩
theorem Ext.at {K : PySem.W.Frag} {m m' : List Addr} {H H' : Hp} (e : Ext K m H m' H') {l : Nat} {a : Addr} (h : m[l]? = some a) : m'[l]? = some a := by
  obtain ⟨⟨r, e⟩, _⟩ := e
  rw [e, List.getElem?_append_left (List.getElem?_eq_some_iff.mp h).1]
  exact h
theorem Ext.len {K : PySem.W.Frag} {m m' : List Addr} {H H' : Hp} (e : Ext K m H m' H') : m.length ≤ m'.length := by
  obtain ⟨⟨r, e⟩, _⟩ := e
  rw [e, List.length_append]
  exact Nat.le_add_right _ _
section
variable {K : PySem.W.Frag} {m m' : List Addr} {H H' : Hp}
mutual
theorem RD.mono (e : Ext K m H m' H') : ∀ {v : V} {d : D}, RD K m H v d → RD K m' H' v d
  | _, _, .non => .non
  | _, _, .bl b => .bl b
  | _, _, .int i => .int i
  | _, _, .str h => .str h
  | _, _, .tup h r => .tup (e.tup _ _ h) (RDs.mono e r)
  | _, _, .ref h => .ref (e.at h)
  | _, _, .raw v => .raw v
theorem RDs.mono (e : Ext K m H m' H') : ∀ {vs : List V} {ds : List D}, RDs K m H vs ds → RDs K m' H' vs ds
  | _, _, .nil => .nil
  | _, _, .cons h t => .cons (RD.mono e h) (RDs.mono e t)
end
theorem RDs.length : ∀ {vs : List V} {ds : List D}, RDs K m H vs ds → vs.length = ds.length
  | _, _, .nil => rfl
  | _, _, .cons _ t => congrArg Nat.succ (RDs.length t)
theorem RDs.get : ∀ {vs : List V} {ds : List D} {i : Nat} {d : D}, RDs K m H vs ds → ds[i]? = some d → ∃ v, vs[i]? = some v ∧ RD K m H v d
  | _, _, _, _, .nil, e => by simp at e
  | _, _, 0, _, .cons h _, e => by simp at e; subst e; exact ⟨_, rfl, h⟩
  | _, _, i + 1, d, .cons _ t, e => by
    obtain ⟨v, h1, h2⟩ := RDs.get (i := i) (d := d) t (by simpa using e)
    exact ⟨v, by simpa using h1, h2⟩
theorem RDs.append : ∀ {vs ws : List V} {ds es : List D}, RDs K m H vs ds → RDs K m H ws es → RDs K m H (vs ++ ws) (ds ++ es)
  | _, _, _, _, .nil, s => s
  | _, _, _, _, .cons h t, s => .cons h (RDs.append t s)
theorem RDs.one {v : V} {d : D} (h : RD K m H v d) : RDs K m H [v] [d] := .cons h .nil
theorem RDs.take : ∀ {vs : List V} {ds : List D} (n : Nat), RDs K m H vs ds → RDs K m H (vs.take n) (ds.take n)
  | _, _, 0, _ => .nil
  | _, _, _ + 1, .nil => .nil
  | _, _, n + 1, .cons h t => .cons h (RDs.take n t)
theorem RDs.drop : ∀ {vs : List V} {ds : List D} (n : Nat), RDs K m H vs ds → RDs K m H (vs.drop n) (ds.drop n)
  | _, _, 0, r => r
  | _, _, _ + 1, .nil => .nil
  | _, _, n + 1, .cons _ t => RDs.drop n t
theorem RDs.set {v : V} {d : D} (h : RD K m H v d) : ∀ {vs : List V} {ds : List D} (i : Nat), RDs K m H vs ds → RDs K m H (vs.set i v) (ds.set i d)
  | _, _, _, .nil => .nil
  | _, _, 0, .cons _ t => .cons h t
  | _, _, i + 1, .cons q t => .cons q (RDs.set h i t)
theorem RDs.reverse : ∀ {vs : List V} {ds : List D}, RDs K m H vs ds → RDs K m H vs.reverse ds.reverse
  | _, _, .nil => .nil
  | _, _, .cons h t => by
    rw [List.reverse_cons, List.reverse_cons]
    exact (RDs.reverse t).append (.one h)
theorem RDs.dropLast {vs : List V} {ds : List D} (r : RDs K m H vs ds) : RDs K m H vs.dropLast ds.dropLast := by
  rw [List.dropLast_eq_take, List.dropLast_eq_take, r.length]
  exact r.take _
theorem RDs.eraseIdx : ∀ {vs : List V} {ds : List D} (i : Nat), RDs K m H vs ds → RDs K m H (vs.eraseIdx i) (ds.eraseIdx i)
  | _, _, _, .nil => .nil
  | _, _, 0, .cons _ t => t
  | _, _, i + 1, .cons q t => .cons q (RDs.eraseIdx i t)
end

def CellOk (K : PySem.W.Frag) (m : List Addr) (H : Hp) (a : Addr) : Cell → Prop
  | .lst xs => ∃ vs, H a = some (.lst vs) ∧ RDs K m H vs xs
  | .rol xs => ∃ vs, RolAt K H a vs ∧ RDs K m H vs xs
  | .dic kvs => ∃ ws : List (Key × V), H a = some (.dK ws) ∧ ws.map (·.1) = kvs.map (·.1) ∧ RDs K m H (ws.map (·.2)) (kvs.map (·.2))
  | .gone => True
structure RS (K : PySem.W.Frag) (m : List Addr) (H : Hp) (S : Store) : Prop where
  len : m.length = S.length
  at_ : ∀ {l : Nat} {a : Addr} {c : Cell}, m[l]? = some a → S[l]? = some c → CellOk K m H a c
  inj : ∀ {l l' : Nat} {a : Addr} {c c' : Cell}, m[l]? = some a → m[l']? = some a → S[l]? = some c → S[l']? = some c' → c.mut = true → c'.mut = true → l = l'
/-- a cell that is read as a list -/
def lstAt (S : Store) (l : Nat) : Option (List D) := match S[l]? with
  | some (.lst xs) => some xs
  | some (.rol xs) => some xs
  | _ => none
section
variable {K : PySem.W.Frag} {m m' : List Addr} {H H' : Hp} {S : Store}
theorem RS.addr (r : RS K m H S) {l : Nat} (h : l < S.length) : ∃ a, m[l]? = some a := by
  rw [← r.len] at h
  exact ⟨m[l], List.getElem?_eq_getElem h⟩
theorem RS.lst (r : RS K m H S) {l : Nat} {a : Addr} {xs : List D} (h : m[l]? = some a) (e : lstAt S l = some xs) : ∃ vs, SqL K H a vs ∧ RDs K m H vs xs := by
  unfold lstAt at e
  split at e
  · cases e
    obtain ⟨vs, h1, h2⟩ := r.at_ h ‹_›
    exact ⟨vs, SqL.of h1, h2⟩
  · cases e
    obtain ⟨vs, h1, h2⟩ := r.at_ h ‹_›
    exact ⟨vs, h1.sq, h2⟩
  · cases e
theorem RS.wlst (r : RS K m H S) {l : Nat} {a : Addr} {xs : List D} (h : m[l]? = some a) (e : S[l]? = some (.lst xs)) : ∃ vs, H a = some (.lst vs) ∧ RDs K m H vs xs := r.at_ h e
theorem CellOk.mono {a : Addr} {c : Cell} (e : Ext K m H m' H') (h : CellOk K m H a c) (k : c.mut = true → H' a = H a) (kr : ∀ vs, RolAt K H a vs → RolAt K H' a vs) : CellOk K m' H' a c := by
  cases c with
  | lst xs =>
    obtain ⟨vs, h1, h2⟩ := h
    exact ⟨vs, by rw [k rfl]; exact h1, h2.mono e⟩
  | rol xs =>
    obtain ⟨vs, h1, h2⟩ := h
    exact ⟨vs, kr _ h1, h2.mono e⟩
  | dic kvs =>
    obtain ⟨ws, h1, h2, h3⟩ := h
    exact ⟨ws, by rw [k rfl]; exact h1, h2, h3.mono e⟩
  | gone => trivial
/-- a cell that changes is tracked as such -/
theorem CellOk.some {a : Addr} {c : Cell} (h : CellOk K m H a c) (k : c.mut = true) : ∃ o, H a = Option.some o ∧ ∀ ob u, o ≠ .frz ob u := by
  cases c with
  | lst xs => obtain ⟨vs, h1, _⟩ := h; exact ⟨_, h1, fun _ _ z => nomatch z⟩
  | dic kvs => obtain ⟨vs, h1, _⟩ := h; exact ⟨_, h1, fun _ _ z => nomatch z⟩
  | rol xs => cases k
  | gone => cases k
/-- what stood frozen is untouched by a new object -/
theorem tup_new {p : Addr} {o : HO} (hp : H p = none) : ∀ a vs, TupAt K H a vs → TupAt K (upd H p o) a vs := fun a vs h => by
  rcases h with ⟨ob, h, d⟩ | h
  · exact .inl ⟨ob, by rw [upd_ne (ne_of_none h hp)]; exact h, d⟩
  · exact .inr h
theorem rol_new {p : Addr} {o : HO} (hp : H p = none) : ∀ a vs, RolAt K H a vs → RolAt K (upd H p o) a vs := fun a vs h => by
  rcases h with ⟨ob, h⟩ | h
  · exact .inl ⟨ob, by rw [upd_ne (ne_of_none h hp)]; exact h⟩
  · exact .inr h
theorem tup_upd {p : Addr} {o u : HO} (hp : H p = some u) (hu : ∀ ob w, u ≠ .frz ob w) : ∀ a vs, TupAt K H a vs → TupAt K (upd H p o) a vs := fun a vs h => by
  rcases h with ⟨ob, h, d⟩ | h
  · exact .inl ⟨ob, by rw [upd_ne (ne_of h hp (fun z => hu _ _ z.symm))]; exact h, d⟩
  · exact .inr h
theorem rol_upd {p : Addr} {o u : HO} (hp : H p = some u) (hu : ∀ ob w, u ≠ .frz ob w) : ∀ a vs, RolAt K H a vs → RolAt K (upd H p o) a vs := fun a vs h => by
  rcases h with ⟨ob, h⟩ | h
  · exact .inl ⟨ob, by rw [upd_ne (ne_of h hp (fun z => hu _ _ z.symm))]; exact h⟩
  · exact .inr h
/-- a new object that the store does not know -/
theorem RS.new (r : RS K m H S) {p : Addr} {o : HO} (hp : H p = none) : Ext K m H m (upd H p o) ∧ RS K m (upd H p o) S := by
  have e : Ext K m H m (upd H p o) := ⟨⟨[], by simp⟩, tup_new hp⟩
  refine ⟨e, r.len, fun {l a c} h1 h2 => (r.at_ h1 h2).mono e (fun k => ?_) (rol_new hp _), r.inj⟩
  obtain ⟨u, h, _⟩ := (r.at_ h1 h2).some k
  rw [upd_ne (ne_of_none h hp)]
/-- a new cell -/
theorem RS.push (r : RS K m H S) {p : Addr} {o : HO} {c : Cell} (hp : H p = none) (hc : ∀ m', Ext K m H m' (upd H p o) → CellOk K m' (upd H p o) p c) : Ext K m H (m ++ [p]) (upd H p o) ∧ RS K (m ++ [p]) (upd H p o) (S ++ [c]) := by
  have e : Ext K m H (m ++ [p]) (upd H p o) := ⟨⟨[p], rfl⟩, tup_new hp⟩
  have hl := r.len
  refine ⟨e, by simp [hl], fun {l a c'} h1 h2 => ?_, fun {l l' a c' c''} h1 h2 h3 h4 h5 h6 => ?_⟩
  · by_cases z : l < S.length
    · rw [List.getElem?_append_left (by omega)] at h1
      rw [List.getElem?_append_left z] at h2
      refine (r.at_ h1 h2).mono e (fun k => ?_) (rol_new hp _)
      obtain ⟨u, h, _⟩ := (r.at_ h1 h2).some k
      rw [upd_ne (ne_of_none h hp)]
    · have hz : l = S.length := by
        have := (List.getElem?_eq_some_iff.mp h2).1
        simp at this
        omega
      subst hz
      rw [List.getElem?_append_right (by omega)] at h1
      rw [List.getElem?_append_right (by omega)] at h2
      simp [hl] at h1 h2
      subst h1; subst h2
      exact hc _ e
  · have old : ∀ {i : Nat} {x : Cell}, m[i]? = some a → S[i]? = some x → x.mut = true → a ≠ p := fun {i x} q1 q2 q3 => by
      obtain ⟨u, h, _⟩ := (r.at_ q1 q2).some q3
      exact ne_of_none h hp
    have lt : ∀ {i : Nat} {x : Cell}, (S ++ [c])[i]? = some x → i < S.length ∨ i = S.length := fun {i x} q => by
      have := (List.getElem?_eq_some_iff.mp q).1
      simp at this
      omega
    have low : ∀ {i : Nat} {x : Cell}, i < S.length → (m ++ [p])[i]? = some a → (S ++ [c])[i]? = some x → m[i]? = some a ∧ S[i]? = some x := fun {i x} q q1 q2 => by
      rw [List.getElem?_append_left (by omega)] at q1
      rw [List.getElem?_append_left q] at q2
      exact ⟨q1, q2⟩
    have top : (m ++ [p])[S.length]? = some a → a = p := fun q => by
      rw [List.getElem?_append_right (by omega)] at q
      simp [hl] at q
      exact q.symm
    rcases lt h3 with z | z
    · obtain ⟨a1, a2⟩ := low z h1 h3
      rcases lt h4 with z' | z'
      · obtain ⟨b1, b2⟩ := low z' h2 h4
        exact r.inj a1 b1 a2 b2 h5 h6
      · subst z'
        exact absurd (top h2) (old a1 a2 h5)
    · subst z
      rcases lt h4 with z' | z'
      · obtain ⟨b1, b2⟩ := low z' h2 h4
        exact absurd (top h1) (old b1 b2 h6)
      · exact z'.symm
/-- a cell is written -/
theorem RS.write (r : RS K m H S) {p : Addr} {o : HO} {l : Nat} {c c' : Cell} (hl : m[l]? = some p) (hc : S[l]? = some c) (k : c.mut = true) (k' : c'.mut = true) (hn : Ext K m H m (upd H p o) → CellOk K m (upd H p o) p c') :
    Ext K m H m (upd H p o) ∧ RS K m (upd H p o) (S.set l c') := by
  obtain ⟨u, hu, hf⟩ := (r.at_ hl hc).some k
  have e : Ext K m H m (upd H p o) := ⟨⟨[], by simp⟩, tup_upd hu hf⟩
  have lS : l < S.length := (List.getElem?_eq_some_iff.mp hc).1
  have get : ∀ {i : Nat} {x : Cell}, (S.set l c')[i]? = some x → (i = l ∧ x = c') ∨ (i ≠ l ∧ S[i]? = some x) := fun {i x} q => by
    by_cases z : i = l
    · subst z
      rw [List.getElem?_set_self lS] at q
      cases q
      exact .inl ⟨rfl, rfl⟩
    · rw [List.getElem?_set_ne (Ne.symm z)] at q
      exact .inr ⟨z, q⟩
  refine ⟨e, by rw [List.length_set]; exact r.len, fun {i a x} h1 h2 => ?_, fun {i i' a x x'} h1 h2 h3 h4 h5 h6 => ?_⟩
  · rcases get h2 with ⟨rfl, rfl⟩ | ⟨z, q⟩
    · rw [hl] at h1; cases h1
      exact hn e
    · refine (r.at_ h1 q).mono e (fun kx => ?_) (rol_upd hu hf _)
      have : a ≠ p := fun za => by
        subst za
        exact z (r.inj h1 hl q hc kx k)
      rw [upd_ne this]
  · rcases get h3 with ⟨rfl, rfl⟩ | ⟨z, q⟩
    · rcases get h4 with ⟨rfl, rfl⟩ | ⟨z', q'⟩
      · rfl
      · exact r.inj h1 h2 hc q' k h6
    · rcases get h4 with ⟨rfl, rfl⟩ | ⟨z', q'⟩
      · exact r.inj h1 h2 q hc h5 k
      · exact r.inj h1 h2 q q' h5 h6
end
/-- the slots -/
structure RE (K : PySem.W.Frag) (m : List Addr) (H : Hp) (σ : St) (ρ : Env) : Prop where
  len : σ.length = ρ.length
  at_ : ∀ {i : Nat} {d : D}, ρ[i]? = some (some d) → ∃ v, σ[i]? = some (some v) ∧ RD K m H v d
section
variable {K : PySem.W.Frag} {m m' : List Addr} {H H' : Hp} {σ : St} {ρ : Env}
theorem RE.mono (e : Ext K m H m' H') (r : RE K m H σ ρ) : RE K m' H' σ ρ := ⟨r.len, fun h => let ⟨v, h1, h2⟩ := r.at_ h; ⟨v, h1, h2.mono e⟩⟩
theorem RE.set (r : RE K m H σ ρ) {v : V} {d : D} (h : RD K m H v d) (i : Nat) : RE K m H (σ.set i (some v)) (ρ.set i (some d)) := by
  refine ⟨by rw [List.length_set, List.length_set]; exact r.len, fun {j d'} e => ?_⟩
  by_cases z : i = j
  · subst z
    have hl : i < ρ.length := by have := (List.getElem?_eq_some_iff.mp e).1; rwa [List.length_set] at this
    rw [List.getElem?_set_self hl] at e
    cases e
    exact ⟨v, by rw [List.getElem?_set_self (by rw [r.len]; exact hl)], h⟩
  · rw [List.getElem?_set_ne z] at e
    obtain ⟨w, h1, h2⟩ := r.at_ e
    exact ⟨w, by rw [List.getElem?_set_ne z]; exact h1, h2⟩
def wipeD (ρ : Env) : List Nat → Env
  | [] => ρ
  | v :: vs => (wipeD ρ vs).set v none
theorem RE.none (r : RE K m H σ ρ) (i : Nat) : RE K m H (σ.set i none) (ρ.set i none) := by
  refine ⟨by rw [List.length_set, List.length_set]; exact r.len, fun {j d'} e => ?_⟩
  by_cases z : i = j
  · subst z
    have hl : i < ρ.length := by have := (List.getElem?_eq_some_iff.mp e).1; rwa [List.length_set] at this
    rw [List.getElem?_set_self hl] at e
    cases e
  · rw [List.getElem?_set_ne z] at e
    obtain ⟨w, h1, h2⟩ := r.at_ e
    exact ⟨w, by rw [List.getElem?_set_ne z]; exact h1, h2⟩
theorem RE.wipe (r : RE K m H σ ρ) : ∀ vs : List Nat, RE K m H (wipe σ vs) (wipeD ρ vs)
  | [] => r
  | v :: vs => (RE.wipe r vs).none v
end
end Dl

set_option Elab.async false
set_option linter.all false
set_option maxRecDepth 100000
namespace Dl
open PySem L2

/-! ## readings -/
structure Cq where
  K : PySem.W.Frag
  mg : Str → Option Value
  W : WX
abbrev W0 : WX := fun _ _ _ _ => False
abbrev _root_.L2.Cx.cq (X : Cx) (W : WX) : Cq := ⟨X.K, X.mg, W⟩
def RX (c : Cq) (m : List Addr) (H : Hp) (x : Exn) (cls : Value) (dd : Option Addr) : Prop :=
  c.mg x.name = some cls ∧ match x.fs with
    | [] => dd = none
    | fs => ∃ d ws, dd = some d ∧ H d = some (.xd ws) ∧ ws.map (·.1) = fs.map (·.1) ∧ RDs c.K m H (ws.map (·.2)) (fs.map (·.2))
def Post {α β : Type} (c : Cq) (rel : List Addr → Hp → β → α → Prop) (m : List Addr) (H : Hp) (σ : St) (Q : β → Hp → Prop) : R α → Prop
  | .ok a S' => ∀ b H' m', Ext c.K m H m' H' → RS c.K m' H' S' → rel m' H' b a → Q b H'
  | .ex x S' => ∀ cls dd H' m', Ext c.K m H m' H' → RS c.K m' H' S' → RX c m' H' x cls dd → c.W cls dd σ H'
  | .no => False
def PostS (c : Cq) (m : List Addr) (H : Hp) (Dn : Ends) : Out → Prop
  | .nx ρ' S' => ∀ σ' H' m', Ext c.K m H m' H' → RE c.K m' H' σ' ρ' → RS c.K m' H' S' → Dn.nx σ' H'
  | .bk ρ' S' => ∀ σ' H' m', Ext c.K m H m' H' → RE c.K m' H' σ' ρ' → RS c.K m' H' S' → Dn.bk σ' H'
  | .ct ρ' S' => ∀ σ' H' m', Ext c.K m H m' H' → RE c.K m' H' σ' ρ' → RS c.K m' H' S' → Dn.ct σ' H'
  | .rt d S' => ∀ v H' m', Ext c.K m H m' H' → RS c.K m' H' S' → RD c.K m' H' v d → Dn.rt v H'
  | .ex x ρ' S' => ∀ cls dd σ' H' m', Ext c.K m H m' H' → RE c.K m' H' σ' ρ' → RS c.K m' H' S' → RX c m' H' x cls dd → c.W cls dd σ' H'
  | .no => False
abbrev relD (c : Cq) : List Addr → Hp → V → D → Prop := fun m H v d => RD c.K m H v d
abbrev relDs (c : Cq) : List Addr → Hp → List V → List D → Prop := fun m H v d => RDs c.K m H v d
abbrev relB {α : Type} : List Addr → Hp → α → α → Prop := fun _ _ a b => a = b
def rdE (c : Cq) (f : EX) : TE := fun σ H Q => ∃ m ρ S, RE c.K m H σ ρ ∧ RS c.K m H S ∧ Post c (relD c) m H σ Q (f ρ S)
def rdT (c : Cq) (f : TX) : TT := fun σ H Q => ∃ m ρ S, RE c.K m H σ ρ ∧ RS c.K m H S ∧ Post c relB m H σ Q (f ρ S)
def rdA (c : Cq) (f : AX) : TA := fun σ H Q => ∃ m ρ S, RE c.K m H σ ρ ∧ RS c.K m H S ∧ Post c (relDs c) m H σ Q (f ρ S)
def rdO (c : Cq) (f : Env → Store → R (Option Int)) : TO := fun σ H Q => ∃ m ρ S, RE c.K m H σ ρ ∧ RS c.K m H S ∧ Post c relB m H σ Q (f ρ S)
def rdS (c : Cq) (g : SX) : TS := fun Dn σ H => ∃ m ρ S, RE c.K m H σ ρ ∧ RS c.K m H S ∧ PostS c m H Dn (g ρ S)
def rdG (c : Cq) (tg : D → SX) : TG := fun v σ H Q => ∃ m ρ S d, RE c.K m H σ ρ ∧ RS c.K m H S ∧ RD c.K m H v d ∧ PostS c m H { nx := Q, rt := fun _ _ => False } (tg d ρ S)
/-- what a def promises: the mirror's answer -/
def rdF (c : Cq) (F : List D → M D) : Sp := fun vs H Q E => ∃ m ds S, RDs c.K m H vs ds ∧ RS c.K m H S ∧ Post { c with W := fun cls dd _ H => E cls dd H } (relD c) m H [] Q (F ds S)

section
variable {α β γ δ : Type} {c : Cq} {rel : List Addr → Hp → β → α → Prop} {rel' : List Addr → Hp → δ → γ → Prop} {m m1 : List Addr} {H H1 : Hp} {σ : St} {ρ : Env} {Q Q' : β → Hp → Prop} {Q2 : δ → Hp → Prop} {Dn : Ends}
theorem Post.mono (e : Ext c.K m H m1 H1) {r : R α} (h : Post c rel m H σ Q r) : Post c rel m1 H1 σ Q r := by
  cases r with
  | ok a S => exact fun b H' m' e' => h b H' m' (e.trans e')
  | ex x S => exact fun cls dd H' m' e' => h cls dd H' m' (e.trans e')
  | no => exact h
theorem Post.imp {r : R α} (h : Post c rel m H σ Q r) (k : ∀ b H', Q b H' → Q' b H') : Post c rel m H σ Q' r := by
  cases r with
  | ok a S => exact fun b H' m' e rs rl => k _ _ (h b H' m' e rs rl)
  | ex x S => exact h
  | no => exact h
theorem Post.bind {r : R α} {k : α → Store → R γ} (h : Post c rel' m H σ Q2 (r.bind k)) :
    Post c rel m H σ (fun b H1 => ∃ m1 a S1, Ext c.K m H m1 H1 ∧ RS c.K m1 H1 S1 ∧ rel m1 H1 b a ∧ Post c rel' m1 H1 σ Q2 (k a S1)) r := by
  cases r with
  | ok a S => exact fun b H' m' e rs rl => ⟨m', a, S, e, rs, rl, Post.mono e h⟩
  | ex x S => exact h
  | no => exact h
theorem PostS.mono (e : Ext c.K m H m1 H1) {o : Out} (h : PostS c m H Dn o) : PostS c m1 H1 Dn o := by
  cases o with
  | nx ρ S => exact fun σ' H' m' e' => h σ' H' m' (e.trans e')
  | bk ρ S => exact fun σ' H' m' e' => h σ' H' m' (e.trans e')
  | ct ρ S => exact fun σ' H' m' e' => h σ' H' m' (e.trans e')
  | rt d S => exact fun σ' H' m' e' => h σ' H' m' (e.trans e')
  | ex x ρ S => exact fun cls dd σ' H' m' e' => h cls dd σ' H' m' (e.trans e')
  | no => exact h
theorem Post.out {r : R α} {k : α → Store → Out} (re : RE c.K m H σ ρ) (h : PostS c m H Dn (r.out ρ k)) :
    Post c rel m H σ (fun b H1 => ∃ m1 a S1, Ext c.K m H m1 H1 ∧ RS c.K m1 H1 S1 ∧ rel m1 H1 b a ∧ RE c.K m1 H1 σ ρ ∧ PostS c m1 H1 Dn (k a S1)) r := by
  cases r with
  | ok a S => exact fun b H' m' e rs rl => ⟨m', a, S, e, rs, rl, re.mono e, PostS.mono e h⟩
  | ex x S => exact fun cls dd H' m' e rs rx => h cls dd σ H' m' e (re.mono e) rs rx
  | no => exact h
end
section
variable {X : Cx}
theorem PEwk {e : Expr} {t t' : TE} (h : PE X e t) (k : ∀ σ H Q, t' σ H Q → t σ H Q) : PE X e t' := ⟨fun pins s σ H Q I q => h.run pins s σ H Q I (k _ _ _ q)⟩
theorem PTwk {e : Expr} {t t' : TT} (h : PT X e t) (k : ∀ σ H Q, t' σ H Q → t σ H Q) : PT X e t' := ⟨fun pins s σ H Q I q => h.run pins s σ H Q I (k _ _ _ q)⟩
theorem PWwk {e : Expr} {t t' : TT} (h : PW X e t) (k : ∀ σ H Q, t' σ H Q → t σ H Q) : PW X e t' := ⟨fun wh pins s σ H Q I q => h.run wh pins s σ H Q I (k _ _ _ q)⟩
theorem PAwk {es : List Expr} {t t' : TA} (h : PA X es t) (k : ∀ σ H Q, t' σ H Q → t σ H Q) : PA X es t' := ⟨fun pos pins s σ H Q I q => h.run pos pins s σ H Q I (k _ _ _ q)⟩
theorem POwk {e : Option Expr} {t t' : TO} (h : PO X e t) (k : ∀ σ H Q, t' σ H Q → t σ H Q) : PO X e t' := ⟨fun pins s σ H Q I q => h.run pins s σ H Q I (k _ _ _ q)⟩
theorem PSwk {e : Stmt} {t t' : TS} (h : PS X e t) (k : ∀ D σ H, t' D σ H → t D σ H) : PS X e t' := ⟨fun pins s σ H D I q => h.run pins s σ H D I (k _ _ _ q)⟩
theorem PSswk {e : List Stmt} {t t' : TS} (h : PSs X e t) (k : ∀ D σ H, t' D σ H → t D σ H) : PSs X e t' := ⟨fun pins s σ H D I q => h.run pins s σ H D I (k _ _ _ q)⟩
theorem PGwk {e : Expr} {t t' : TG} (h : PG X e t) (k : ∀ v σ H Q, t' v σ H Q → t v σ H Q) : PG X e t' := ⟨fun pins s σ H v u Q I r q => h.run pins s σ H v u Q I r (k _ _ _ _ q)⟩
theorem PIwk {tg e : Expr} {t t' : TI} (h : PI X tg e t) (k : ∀ σ H Q, t' σ H Q → t σ H Q) : PI X tg e t' := ⟨fun pins s σ H Q I q => h.run pins s σ H Q I (k _ _ _ q)⟩
end

/-! ## expressions -/
def toR {α : Type} : Option (α × Store) → R α
  | some (a, S) => .ok a S
  | none => .no
@[simp] theorem toR_some {α : Type} (a : α) (S : Store) : toR (some (a, S)) = .ok a S := rfl
@[simp] theorem toR_none {α : Type} : toR (none : Option (α × Store)) = .no := rfl
def eV (i : Nat) : EX := fun ρ S => match ρ[i]? with
  | some (some d) => .ok d S
  | _ => .no
def eC (d : D) : EX := fun _ S => .ok d S
/-- two operands, by values -/
def e2 (g : D → D → Store → Option (D × Store)) (fa fb : EX) : EX := fun ρ S => (fa ρ S).bind fun x S1 => (fb ρ S1).bind fun y S2 => toR (g x y S2)
def e1 (g : D → Store → Option (D × Store)) (fa : EX) : EX := fun ρ S => (fa ρ S).bind fun x S1 => toR (g x S1)
def aN : AX := fun _ S => .ok [] S
def aC (fa : EX) (fr : AX) : AX := fun ρ S => (fa ρ S).bind fun x S1 => (fr ρ S1).bind fun xs S2 => .ok (x :: xs) S2
def eB (g : List D → Store → Option (D × Store)) (fa : AX) : EX := fun ρ S => (fa ρ S).bind fun xs S1 => toR (g xs S1)
def eF (F : List D → M D) (fa : AX) : EX := fun ρ S => (fa ρ S).bind fun xs S1 => F xs S1
/-- a method of a built-in type -/
def eM (g : D → List D → Store → Option (D × Store)) (fo : EX) (fa : AX) : EX := fun ρ S => (fo ρ S).bind fun x S1 => (fa ρ S1).bind fun xs S2 => toR (g x xs S2)
/-- by values -/
def VPost (K : PySem.W.Frag) (m : List Addr) (H : Hp) (Q : VK) : Option (D × Store) → Prop
  | some (d, S') => ∀ v H' m', Ext K m H m' H' → RS K m' H' S' → RD K m' H' v d → Q v H'
  | none => False
theorem VPost.of {c : Cq} {m : List Addr} {H : Hp} {σ : St} {Q : VK} {o : Option (D × Store)} (h : Post c (relD c) m H σ Q (toR o)) : VPost c.K m H Q o := by
  cases o with
  | none => exact h
  | some p => exact h
def rd1 (K : PySem.W.Frag) (g : D → Store → Option (D × Store)) : V → Hp → VK → Prop := fun v H Q => ∃ m x S, RD K m H v x ∧ RS K m H S ∧ VPost K m H Q (g x S)
def rd2 (K : PySem.W.Frag) (g : D → D → Store → Option (D × Store)) : R2 := fun v u H Q => ∃ m x y S, RD K m H v x ∧ RD K m H u y ∧ RS K m H S ∧ VPost K m H Q (g x y S)
def rdC (K : PySem.W.Frag) (g : List D → Store → Option (D × Store)) : List V → Hp → VK → Prop := fun vs H Q => ∃ m xs S, RDs K m H vs xs ∧ RS K m H S ∧ VPost K m H Q (g xs S)
def rdM (K : PySem.W.Frag) (g : D → List D → Store → Option (D × Store)) : V → List V → Hp → VK → Prop := fun v vs H Q => ∃ m x xs S, RD K m H v x ∧ RDs K m H vs xs ∧ RS K m H S ∧ VPost K m H Q (g x xs S)
section
variable {X : Cx} {W : WX} {a b e : Expr} {es : List Expr} {fa fb fe : EX} {fr fx : AX} {pos p : Pos}
theorem d_v (i : Nat) {x : Str} (hN : X.N[i]? = some x := by rfl) (hv : Vis X.env.scope x := by first | exact Or.inl rfl | exact Or.inr (Or.inl rfl) | exact Or.inr (Or.inr rfl)) (hd : (x == ("__debug__" : Str)) = false := by decide)
    (hcd : (x == ("__classdict__" : Str)) = false := by decide) : PE X (.Name x pos) (rdE (X.cq W) (eV i)) := PEwk (pv i hN hv hd hcd) fun σ H Q h => by
  obtain ⟨m, ρ, S, re, rs, h⟩ := h
  unfold eV at h
  split at h
  · rename_i d e
    obtain ⟨v, h1, h2⟩ := re.at_ e
    exact ⟨v, h1, h v H m .refl rs h2⟩
  · exact h.elim
theorem d_c {v : V} {d : D} (h : PE X e (tC v)) (r : ∀ m H, RD X.K m H v d) : PE X e (rdE (X.cq W) (eC d)) := PEwk h fun σ H Q h => by
  obtain ⟨m, ρ, S, re, rs, h⟩ := h
  exact h v H m .refl rs (r m H)
theorem d_int {i j} : PE X (.Constant (.int i) j pos) (rdE (X.cq W) (eC (.int i))) := d_c pe_int fun _ _ => .int i
theorem d_bl {i j} : PE X (.Constant (.bool i) j pos) (rdE (X.cq W) (eC (.bl i))) := d_c pe_bl fun _ _ => .bl i
theorem d_non {j} : PE X (.Constant .none j pos) (rdE (X.cq W) (eC .non)) := d_c pe_non fun _ _ => .non
theorem d_str {x : Str} {j} (h : x.length ≤ 16777216 := by decide +kernel) : PE X (.Constant (.str x) j pos) (rdE (X.cq W) (eC (.str x))) := d_c pe_str fun _ _ => .str h
/-- a builtin's name as a value -/
theorem d_blt {x : Str} {v : V} {u : Value} (hg : Gl X x) (hm : X.mg x = none) (hv : bootBuiltins x = some u) (r : RelV v u) (hn : x ≠ "__name__" := by decide) (hd : (x == ("__debug__" : Str)) = false := by decide) :
    PE X (.Name x pos) (rdE (X.cq W) (eC (.raw v))) := d_c (pe_bltn hg hm hv r hn hd) fun _ _ => .raw v
/-- a module's constant -/
theorem d_glob {x : Str} {v : V} {d : D} {u : Value} (hg : Gl X x) (hm : X.mg x = some u) (r : RelV v u) (rd : ∀ m H, RD X.K m H v d) (hd : (x == ("__debug__" : Str)) = false := by decide) :
    PE X (.Name x pos) (rdE (X.cq W) (eC d)) := d_c (pe_glob hg hm r hd) rd
theorem d_2h {r : R2} (h : PE X e (tOp r (rdE (X.cq W) fa) (rdE (X.cq W) fb))) {g : D → D → Store → Option (D × Store)} (k : ∀ v u H Q, rd2 X.K g v u H Q → r v u H Q) : PE X e (rdE (X.cq W) (e2 g fa fb)) := PEwk h fun σ H Q h => by
  obtain ⟨m, ρ, S, re, rs, h⟩ := h
  exact ⟨m, ρ, S, re, rs, (Post.bind h).imp fun v H1 ⟨m1, x, S1, e, rs1, rd, h1⟩ => ⟨m1, ρ, S1, re.mono e, rs1, (Post.bind h1).imp fun u H2 ⟨m2, y, S2, e2, rs2, rd2, h2⟩ =>
    k _ _ _ _ ⟨m2, x, y, S2, rd.mono e2, rd2, rs2, VPost.of h2⟩⟩⟩
theorem d_op {op : Operator} {g : D → D → Store → Option (D × Store)} (ho : OpR X (binaryOp op) (rd2 X.K g)) (ha : PE X a (rdE (X.cq W) fa)) (hb : PE X b (rdE (X.cq W) fb)) : PE X (.BinOp a op b pos) (rdE (X.cq W) (e2 g fa fb)) :=
  d_2h (pe_op ho ha hb) fun _ _ _ _ h => h
end
end Dl

set_option Elab.async false
set_option linter.all false
set_option maxRecDepth 100000
namespace HT
open PySem PyProof.Rows
theorem cat_tup0 {prog : Program} {w : World} {A : Around} {E : Value → Shared → Prop} {s : Shared} {t b : Addr} {ws : List Value} {Q : Value → Shared → Prop} (ht : IsTup s.heap t ([] : List Value).toArray) (hb : IsTup s.heap b ws.toArray)
    (h1 : Q (.ref b) s) : wpAny (model prog w) A (binaryOp .Add (.ref t) (.ref b)) Q E s := by
  obtain ⟨⟨cls, dd, data, sl⟩, ho, hc, n, hd⟩ := id ht
  obtain ⟨⟨cls2, dd2, data2, sl2⟩, ho2, hc2, n2, hd2⟩ := id hb
  simp only at hc hd hc2 hd2
  subst hc hd hc2 hd2
  exact concat_meets ⟨_, ho, rfl⟩ ⟨_, ho2, rfl⟩ noFill_tuple_add seq_tuple_add PySem.F.slot_tuple_add PySem.F.entry_tuple_add (PySem.F.args_tuple_add_2 _ _)
      (PyProof.Rows.tuple_addW0 t b ([] : List Value).toArray ws.toArray n n2 dd dd2 sl sl2 (by simp)) ⟨ho, ho2, h1⟩
end HT
namespace Dl
open PySem L2

/-! ## operations by values -/
def LIM : Nat := 16777216
theorem lim_eq : LIM = sizeLine := by rw [sizeLine_eq]; rfl
def catL (S : Store) (l k : Nat) : Option (D × Store) := match S[l]?, S[k]? with
    | some (.lst xs), some (.lst ys) => if xs.length + ys.length ≤ LIM then some (.ref S.length, S ++ [.lst (xs ++ ys)]) else none
    | _, _ => none
def gAdd : D → D → Store → Option (D × Store)
  | .int i, .int j, S => some (.int (i + j), S)
  | .str a, .str b, S => if a.length + b.length ≤ LIM then some (.str (a ++ b), S) else none
  | .tup (x :: xs), .tup ys, S => if (x :: xs).length + ys.length ≤ LIM then some (.tup (x :: xs ++ ys), S) else none
  | .tup [], .tup ys, S => some (.tup ys, S)
  | .ref l, .ref k, S => catL S l k
  | _, _, _ => none
def gSub : D → D → Store → Option (D × Store)
  | .int i, .int j, S => some (.int (i - j), S)
  | _, _, _ => none
def gMul : D → D → Store → Option (D × Store)
  | .int i, .int j, S => if (-(2 ^ 64) < i ∧ i < 2 ^ 64) ∨ (-(2 ^ 64) < j ∧ j < 2 ^ 64) then some (.int (i * j), S) else none
  | _, _, _ => none
def gFdiv : D → D → Store → Option (D × Store)
  | .int i, .int j, S => if 0 < j ∧ j < 1073741824 then some (.int (i / j), S) else none
  | _, _, _ => none
def gMod : D → D → Store → Option (D × Store)
  | .int i, .int j, S => if 0 < j then some (.int (i % j), S) else none
  | _, _, _ => none
def gPow : D → D → Store → Option (D × Store)
  | .int i, .int j, S => if 0 ≤ j ∧ j ≤ 1000000 ∧ i.natAbs < 2 ^ 64 then some (.int (i ^ j.toNat), S) else none
  | _, _, _ => none
section
variable {X : Cx}
theorem str_app_len (a b : Str) : (a ++ b).length = a.length + b.length := by
  show (a.cps ++ b.cps).size = a.cps.size + b.cps.size
  exact Array.size_append
/-- a new tuple, without a dict -/
theorem lay_tup {pins : List (Addr × Obj)} {σ : St} {H : Hp} {s : Shared} {xs : List V} {us : List Value} {Q : VK} {tk : Nat} {n : Nat} (I : Inv X pins σ H s) (hz : xs.length ≤ sizeLine) (r : Vals xs us)
    (q : ∀ o, o.cls = .type "tuple" → o.dict = none → Q (.ref s.heap.objs.size) (upd H s.heap.objs.size (.frz o (.tup xs)))) :
    EP X pins σ Q (.ref s.heap.objs.size) { s with heap := s.heap.push { cls := .type "tuple", data := .seq us.toArray n }, toks := tk } := by
  refine ⟨.ref s.heap.objs.size, _, I.laid (t' := tk) (o := .frz { cls := .type "tuple", data := .seq us.toArray n } (.tup xs)) (fun b ob q => Heap.get?_push_of_some _ q) (Nat.le_refl _) ?_, rfl, q _ rfl rfl⟩
  exact ⟨Heap.get?_push_size _ rfl, hz, us, r, _, Heap.get?_push_size _ rfl, rfl, _, rfl⟩
/-- what VPost asks, for a new tuple -/
theorem vp_tup {K : PySem.W.Frag} {m : List Addr} {H : Hp} {S : Store} {Q : VK} {p : Addr} {o : Obj} {xs : List V} {ds : List D} (rs : RS K m H S) (hp : H p = none) (hc : o.cls = .type "tuple") (hd : o.dict = none) (r : RDs K m H xs ds)
    (h : ∀ v H' m', Ext K m H m' H' → RS K m' H' S → RD K m' H' v (.tup ds) → Q v H') : Q (.ref p) (upd H p (.frz o (.tup xs))) := by
  obtain ⟨e, rs'⟩ := rs.new (o := .frz o (.tup xs)) hp
  exact h _ _ m e rs' (.tup (.inl ⟨o, upd_same, hc, hd⟩) (r.mono e))
/-- .. for a new list -/
theorem vp_lst {K : PySem.W.Frag} {m : List Addr} {H : Hp} {S : Store} {Q : VK} {p : Addr} {xs : List V} {ds : List D} (rs : RS K m H S) (hp : H p = none) (r : RDs K m H xs ds)
    (h : ∀ v H' m', Ext K m H m' H' → RS K m' H' (S ++ [.lst ds]) → RD K m' H' v (.ref S.length) → Q v H') : Q (.ref p) (upd H p (.lst xs)) := by
  obtain ⟨e, rs'⟩ := rs.push (o := .lst xs) (c := .lst ds) hp fun m' e' => ⟨xs, upd_same, r.mono e'⟩
  refine h _ _ _ e rs' (.ref ?_)
  rw [← rs.len, List.getElem?_append_right (Nat.le_refl _), Nat.sub_self]
  rfl
theorem o_add : OpR X (binaryOp .Add) (rd2 X.K gAdd) := by
  intro pins s σ H v u vv uu Q I rv ru ⟨m, x, y, S, hx, hy, rs, h⟩
  cases hx with
  | int i =>
    cases hy with
    | int j => exact op_add pins s σ H _ _ vv uu Q I rv ru ⟨i, j, rfl, rfl, h _ _ m .refl rs (.int _)⟩
    | _ => exact (show False from h).elim
  | str ha =>
    cases hy with
    | str hb =>
      change VPost X.K m H Q (ite _ _ _) at h
      split at h
      · rename_i hz
        exact op_add_str pins s σ H _ _ vv uu Q I rv ru ⟨_, _, rfl, rfl, by rw [← lim_eq]; exact hz, h _ _ m .refl rs (.str (by rw [str_app_len]; exact hz))⟩
      · exact h.elim
    | _ => exact (show False from h).elim
  | @tup a vs ds ha r =>
    cases hy with
    | @tup b ws es hb r' =>
      cases ds with
      | nil =>
        cases rv
        cases ru
        obtain ⟨its, r1, p1, _⟩ := I.tuple ha.sq
        obtain ⟨its2, r2, p2, _⟩ := I.tuple hb.sq
        cases r
        cases r1
        exact HT.cat_tup0 p1 p2 ⟨.ref b, H, I, rfl, h _ _ m .refl rs (.tup hb r')⟩
      | cons d ds =>
        change VPost X.K m H Q (ite _ _ _) at h
        split at h
        · rename_i hz
          cases rv
          cases ru
          obtain ⟨its, r1, p1, _⟩ := I.tuple ha.sq
          obtain ⟨its2, r2, p2, _⟩ := I.tuple hb.sq
          have l1 := r.length
          have l2 := r'.length
          have hne : vs ≠ [] := fun z => by rw [z] at l1; cases l1
          refine HT.cat_tup p1 p2 (fun z => hne (r1.nil_iff.mp z)) (fun z => ⟨.ref a, H, I, rfl, ?_⟩) (fun z => ?_) (by rw [← r1.length, ← r2.length, l1, l2, ← lim_eq]; exact hz)
          · have w := r2.nil_iff.mp z
            rw [w] at l2
            have w' : es = [] := List.eq_nil_of_length_eq_zero l2.symm
            subst w'
            refine h _ _ m .refl rs (.tup ha ?_)
            rw [List.append_nil]
            exact r
          · exact lay_tup (tk := s.toks) I (by rw [List.length_append, l1, l2, ← lim_eq]; exact hz) (r1.append r2) fun o hc hd => vp_tup rs (I.hok.fresh (Nat.le_refl _)) hc hd (r.append r') h
        · exact h.elim
    | _ => cases ds <;> exact (show False from h).elim
  | @ref a l ha =>
    cases hy with
    | @ref b k hb =>
      have h : VPost X.K m H Q (catL S l k) := h
      unfold catL at h
      split at h
      · rename_i xs ys e1 e2
        split at h
        · rename_i hz
          obtain ⟨vs, h1, r1⟩ := rs.wlst ha e1
          obtain ⟨ws, h2, r2⟩ := rs.wlst hb e2
          exact op_cat pins s σ H _ _ vv uu Q I rv ru ⟨a, b, vs, ws, rfl, rfl, h1, h2, by rw [r1.length, r2.length, ← lim_eq]; exact hz, fun p hp => vp_lst rs hp (r1.append r2) h⟩
        · exact h.elim
      · exact h.elim
    | _ => exact (show False from h).elim
  | _ => cases hy <;> exact (show False from h).elim
theorem o_int {op : Operator} {C : Int → Int → Prop} [∀ i j, Decidable (C i j)] {g : Int → Int → Int} {r : R2} {gg : D → D → Store → Option (D × Store)} (ho : OpR X (binaryOp op) r)
    (hr : ∀ i j H Q, C i j → Q (.int (g i j)) H → r (.int i) (.int j) H Q) (hg : ∀ x y S, gg x y S = match x, y with
      | .int i, .int j => if C i j then some (.int (g i j), S) else none
      | _, _ => none) : OpR X (binaryOp op) (rd2 X.K gg) := by
  intro pins s σ H v u vv uu Q I rv ru ⟨m, x, y, S, hx, hy, rs, h⟩
  rw [hg] at h
  cases hx with
  | int i =>
    cases hy with
    | int j =>
      by_cases hc : C i j
      · simp only [hc, if_true] at h
        exact ho pins s σ H _ _ vv uu Q I rv ru (hr i j H Q hc (h _ _ m .refl rs (.int _)))
      · simp only [hc, if_false] at h
        exact h.elim
    | _ => exact (show False from h).elim
  | _ => exact (show False from h).elim
theorem o_sub : OpR X (binaryOp .Sub) (rd2 X.K gSub) := o_int (C := fun _ _ => True) (g := fun i j => i - j) op_sub (fun i j H Q _ q => ⟨i, j, rfl, rfl, q⟩) fun x y S => by cases x <;> cases y <;> rfl
theorem o_mul : OpR X (binaryOp .Mult) (rd2 X.K gMul) := o_int (C := fun i j => (-(2 ^ 64) < i ∧ i < 2 ^ 64) ∨ (-(2 ^ 64) < j ∧ j < 2 ^ 64)) (g := fun i j => i * j) op_mul (fun i j H Q c q => ⟨i, j, rfl, rfl, c, q⟩) fun x y S => by cases x <;> cases y <;> rfl
theorem o_fdiv : OpR X (binaryOp .FloorDiv) (rd2 X.K gFdiv) := o_int (C := fun i j => 0 < j ∧ j < 1073741824) (g := fun i j => i / j) op_fdiv (fun i j H Q c q => ⟨i, j, rfl, rfl, c, q⟩) fun x y S => by cases x <;> cases y <;> rfl
theorem o_mod : OpR X (binaryOp .Mod) (rd2 X.K gMod) := o_int (C := fun i j => 0 < j) (g := fun i j => i % j) op_mod (fun i j H Q c q => ⟨i, j, rfl, rfl, c, q⟩) fun x y S => by cases x <;> cases y <;> rfl
theorem o_pow : OpR X (binaryOp .Pow) (rd2 X.K gPow) := o_int (C := fun i j => 0 ≤ j ∧ j ≤ 1000000 ∧ i.natAbs < 2 ^ 64) (g := fun i j => i ^ j.toNat) op_pow (fun i j H Q c q => ⟨i, j, rfl, rfl, c, q⟩) fun x y S => by cases x <;> cases y <;> rfl

/-! ### comparisons -/
end
end Dl

set_option Elab.async false
set_option linter.all false
set_option maxRecDepth 100000
namespace Dl
open PySem L2

/-! ## data -/
mutual
/-- no lists within -/
def D.flat : D → Bool
  | .tup xs => flats xs
  | .ref _ => false
  | .raw _ => false
  | _ => true
def flats : List D → Bool
  | [] => true
  | x :: xs => x.flat && flats xs
end
mutual
def D.dep : D → Nat
  | .tup xs => deps xs + 1
  | _ => 0
def deps : List D → Nat
  | [] => 0
  | x :: xs => max x.dep (deps xs)
end
mutual
/-- == -/
def deq : D → D → Bool
  | .non, .non => true
  | .bl a, .bl b => a == b
  | .bl a, .int j => (if a then 1 else 0) == j
  | .int i, .bl b => i == (if b then 1 else 0)
  | .int i, .int j => i == j
  | .str x, .str y => x == y
  | .tup xs, .tup ys => deqs xs ys
  | _, _ => false
def deqs : List D → List D → Bool
  | [], [] => true
  | x :: xs, y :: ys => deq x y && deqs xs ys
  | _, _ => false
end
mutual
def toPy : D → PyData
  | .non => .none
  | .bl b => .bool b
  | .int i => .int i
  | .str x => .str x
  | .tup xs => .tuple (toPys xs)
  | _ => .none
def toPys : List D → List PyData
  | [] => []
  | x :: xs => toPy x :: toPys xs
end
mutual
theorem plain_toPy : ∀ x : D, (toPy x).plain = true
  | .non => rfl
  | .bl _ => rfl
  | .int _ => rfl
  | .str _ => rfl
  | .tup xs => plains_toPys xs
  | .ref _ => rfl
  | .raw _ => rfl
theorem plains_toPys : ∀ xs : List D, PyData.plainAll (toPys xs) = true
  | [] => rfl
  | x :: xs => by
    show ((toPy x).plain && PyData.plainAll (toPys xs)) = true
    rw [plain_toPy x, plains_toPys xs] <;> rfl
end
mutual
theorem depth_toPy : ∀ x : D, (toPy x).depth = x.dep
  | .non => rfl
  | .bl _ => rfl
  | .int _ => rfl
  | .str _ => rfl
  | .tup xs => by
    show PyData.depthAll (toPys xs) + 1 = deps xs + 1
    rw [depths_toPys xs]
  | .ref _ => rfl
  | .raw _ => rfl
theorem depths_toPys : ∀ xs : List D, PyData.depthAll (toPys xs) = deps xs
  | [] => rfl
  | x :: xs => by
    show max (toPy x).depth (PyData.depthAll (toPys xs)) = max x.dep (deps xs)
    rw [depth_toPy x, depths_toPys xs]
end
mutual
theorem eqv_toPy : ∀ x y : D, x.flat = true → y.flat = true → PyData.eqv (toPy x) (toPy y) = deq x y
  | x, y, hx, hy => by
    cases x with
    | tup xs =>
      cases y with
      | tup ys =>
        show PyData.eqvAll (toPys xs) (toPys ys) = deqs xs ys
        exact eqvs_toPys xs ys hx hy
      | ref _ => cases hy
      | raw _ => cases hy
      | _ => rfl
    | ref _ => cases hx
    | raw _ => cases hx
    | _ =>
      cases y with
      | ref _ => cases hy
      | raw _ => cases hy
      | _ => rfl
theorem eqvs_toPys : ∀ xs ys : List D, flats xs = true → flats ys = true → PyData.eqvAll (toPys xs) (toPys ys) = deqs xs ys
  | [], [], _, _ => rfl
  | [], _ :: _, _, _ => rfl
  | _ :: _, [], _, _ => rfl
  | x :: xs, y :: ys, hx, hy => by
    have hx' : (x.flat && flats xs) = true := hx
    have hy' : (y.flat && flats ys) = true := hy
    rw [Bool.and_eq_true] at hx' hy'
    show (PyData.eqv (toPy x) (toPy y) && PyData.eqvAll (toPys xs) (toPys ys)) = (deq x y && deqs xs ys)
    rw [eqv_toPy x y hx'.1 hy'.1, eqvs_toPys xs ys hx'.2 hy'.2]
end
section
variable {K : PySem.W.Frag} {m : List Addr} {H : Hp}
mutual
theorem dp_of : ∀ {d : D} {v : V}, d.flat = true → RD K m H v d → Dp K H v (toPy d)
  | .non, _, _, r => by cases r; exact .non
  | .bl b, _, _, r => by cases r; exact .bl b
  | .int b, _, _, r => by cases r; exact .int b
  | .str b, _, _, r => by cases r; exact .str b
  | .tup xs, _, h, r => by
    cases r with
    | tup h1 h2 => exact .tup h1.sq (dps_of (show flats xs = true from h) h2)
theorem dps_of : ∀ {ds : List D} {vs : List V}, flats ds = true → RDs K m H vs ds → DpAll K H vs (toPys ds)
  | [], _, _, r => by cases r; exact .nil
  | d :: ds, _, h, r => by
    have h' : (d.flat && flats ds) = true := h
    rw [Bool.and_eq_true] at h'
    cases r with
    | cons h1 h2 => exact .cons (dp_of h'.1 h1) (dps_of h'.2 h2)
end
end
/-- a value as data: flat, or a list of flat ones -/
def asP (S : Store) (x : D) : Option PyData := if x.flat then some (toPy x) else match x with
  | .ref l => match lstAt S l with
    | some xs => if flats xs then some (.list (toPys xs)) else none
    | none => none
  | _ => none
theorem asP_flat {S : Store} {x : D} (h : x.flat = true) : asP S x = some (toPy x) := by unfold asP; rw [if_pos h]
theorem asP_of {K : PySem.W.Frag} {m : List Addr} {H : Hp} {S : Store} {x : D} {v : V} {p : PyData} (rs : RS K m H S) (r : RD K m H v x) (h : asP S x = some p) : Dp K H v p ∧ p.plain = true := by
  unfold asP at h
  split at h
  · rename_i hx
    cases h
    exact ⟨dp_of hx r, plain_toPy x⟩
  · split at h
    · rename_i l _
      split at h
      · rename_i xs e
        split at h
        · rename_i hf
          cases h
          cases r with
          | ref ha =>
            obtain ⟨vs, h1, h2⟩ := rs.lst ha e
            exact ⟨.lst h1 (dps_of hf h2), plains_toPys xs⟩
        · cases h
      · cases h
    · cases h
def gEqB (x y : D) (S : Store) : Option Bool := match asP S x, asP S y with
  | some p, some q => if p.depth ≤ 64 then some (PyData.eqv p q) else none
  | _, _ => none
def gEq (x y : D) (S : Store) : Option (D × Store) := (gEqB x y S).map fun b => (.bl b, S)
def gNe (x y : D) (S : Store) : Option (D × Store) := (gEqB x y S).map fun b => (.bl (!b), S)
theorem gEqB_flat {x y : D} {S : Store} (hx : x.flat = true) (hy : y.flat = true) (hd : x.dep ≤ 64) : gEqB x y S = some (deq x y) := by
  unfold gEqB
  rw [asP_flat hx, asP_flat hy]
  show (if (toPy x).depth ≤ 64 then some (PyData.eqv (toPy x) (toPy y)) else none) = _
  rw [depth_toPy, if_pos hd, eqv_toPy x y hx hy]
theorem gEq_flat {x y : D} {S : Store} (hx : x.flat = true) (hy : y.flat = true) (hd : x.dep ≤ 64) : gEq x y S = some (.bl (deq x y), S) := by unfold gEq; rw [gEqB_flat hx hy hd]; rfl
theorem gNe_flat {x y : D} {S : Store} (hx : x.flat = true) (hy : y.flat = true) (hd : x.dep ≤ 64) : gNe x y S = some (.bl (!deq x y), S) := by unfold gNe; rw [gEqB_flat hx hy hd]; rfl
@[simp] theorem gEq_int (i j : Int) (S : Store) : gEq (.int i) (.int j) S = some (.bl (i == j), S) := gEq_flat rfl rfl (Nat.zero_le _)
@[simp] theorem gEq_str (i j : Str) (S : Store) : gEq (.str i) (.str j) S = some (.bl (i == j), S) := gEq_flat rfl rfl (Nat.zero_le _)
@[simp] theorem gNe_int (i j : Int) (S : Store) : gNe (.int i) (.int j) S = some (.bl (!(i == j)), S) := gNe_flat rfl rfl (Nat.zero_le _)
@[simp] theorem gNe_str (i j : Str) (S : Store) : gNe (.str i) (.str j) S = some (.bl (!(i == j)), S) := gNe_flat rfl rfl (Nat.zero_le _)
section
variable {X : Cx}
theorem o_eqB {op : CmpOp} {f : Bool → Bool} {g : D → D → Store → Option (D × Store)} (hg : ∀ x y S, g x y S = (gEqB x y S).map fun b => (.bl (f b), S))
    (rule : ∀ {s : Shared} {a b : Value} {da db : PyData} {as bs : List Addr} {Q E : Value → Shared → Prop}, Reads s.heap a da as → Reads s.heap b db bs → da.plain = true → db.plain = true → X.A.units + min da.depth db.depth < cLine →
      Q (.bool (f (PyData.eqv da db))) s → wpAny (model X.prog X.w) X.A (compareOp op a b) Q E s) (hu : X.A.units + 64 < cLine) : OpR X (compareOp op) (rd2 X.K g) := by
  intro pins s σ H v u vv uu Q I rv ru ⟨m, x, y, S, hx, hy, rs, h⟩
  rw [hg] at h
  unfold gEqB at h
  split at h
  · rename_i p q e1 e2
    split at h
    · rename_i hd
      obtain ⟨d1, p1⟩ := asP_of rs hx e1
      obtain ⟨d2, p2⟩ := asP_of rs hy e2
      obtain ⟨as, r1⟩ := Dp.reads I _ _ _ d1 rv
      obtain ⟨bs, r2⟩ := Dp.reads I _ _ _ d2 ru
      have hm : min p.depth q.depth ≤ p.depth := Nat.min_le_left _ _
      exact rule r1 r2 p1 p2 (by omega) ⟨.bl _, H, I, rfl, h _ _ m .refl rs (.bl _)⟩
    · exact h.elim
  · exact h.elim
theorem o_eq (hu : X.A.units + 64 < cLine) : OpR X (compareOp .Eq) (rd2 X.K gEq) := o_eqB (f := fun b => b) (fun _ _ _ => rfl) PySem.SeqAt.eq_plain hu
theorem o_ne (hu : X.A.units + 64 < cLine) : OpR X (compareOp .NotEq) (rd2 X.K gNe) := o_eqB (f := fun b => !b) (fun _ _ _ => rfl) PySem.SeqAt.ne_plain hu

/-! ### order of ints and texts -/
def gLt : D → D → Store → Option (D × Store)
  | .int i, .int j, S => some (.bl (decide (i < j)), S)
  | .str a, .str b, S => some (.bl (decide (a.cps.toList < b.cps.toList)), S)
  | _, _, _ => none
def gLe : D → D → Store → Option (D × Store)
  | .int i, .int j, S => some (.bl (decide (i ≤ j)), S)
  | .str a, .str b, S => some (.bl (!decide (b.cps.toList < a.cps.toList)), S)
  | _, _, _ => none
def gGt : D → D → Store → Option (D × Store)
  | .int i, .int j, S => some (.bl (decide (j < i)), S)
  | .str a, .str b, S => some (.bl (decide (b.cps.toList < a.cps.toList)), S)
  | _, _, _ => none
def gGe : D → D → Store → Option (D × Store)
  | .int i, .int j, S => some (.bl (decide (j ≤ i)), S)
  | .str a, .str b, S => some (.bl (!decide (a.cps.toList < b.cps.toList)), S)
  | _, _, _ => none
theorem o_ord {op : CmpOp} {fi : Int → Int → Bool} {fs : Str → Str → Bool} {ri rs' : R2} {g : D → D → Store → Option (D × Store)} (hi : OpR X (compareOp op) ri) (hs : OpR X (compareOp op) rs')
    (ki : ∀ i j H Q, Q (.bl (fi i j)) H → ri (.int i) (.int j) H Q) (ks : ∀ i j H Q, Q (.bl (fs i j)) H → rs' (.str i) (.str j) H Q)
    (hg : ∀ x y S, g x y S = match x, y with
      | .int i, .int j => some (.bl (fi i j), S)
      | .str i, .str j => some (.bl (fs i j), S)
      | _, _ => none) : OpR X (compareOp op) (rd2 X.K g) := by
  intro pins s σ H v u vv uu Q I rv ru ⟨m, x, y, S, hx, hy, rs, h⟩
  rw [hg] at h
  cases hx with
  | int i =>
    cases hy with
    | int j => exact hi pins s σ H _ _ vv uu Q I rv ru (ki i j H Q (h _ _ m .refl rs (.bl _)))
    | _ => exact (show False from h).elim
  | str ha =>
    cases hy with
    | str hb => exact hs pins s σ H _ _ vv uu Q I rv ru (ks _ _ H Q (h _ _ m .refl rs (.bl _)))
    | _ => exact (show False from h).elim
  | _ => exact (show False from h).elim
theorem o_lt : OpR X (compareOp .Lt) (rd2 X.K gLt) := o_ord op_lt op_lt_str (fun i j H Q q => ⟨i, j, rfl, rfl, q⟩) (fun i j H Q q => ⟨i, j, rfl, rfl, q⟩) fun x y S => by cases x <;> cases y <;> rfl
theorem o_le : OpR X (compareOp .LtE) (rd2 X.K gLe) := o_ord op_le op_le_str (fun i j H Q q => ⟨i, j, rfl, rfl, q⟩) (fun i j H Q q => ⟨i, j, rfl, rfl, q⟩) fun x y S => by cases x <;> cases y <;> rfl
theorem o_gt : OpR X (compareOp .Gt) (rd2 X.K gGt) := o_ord op_gt op_gt_str (fun i j H Q q => ⟨i, j, rfl, rfl, q⟩) (fun i j H Q q => ⟨i, j, rfl, rfl, q⟩) fun x y S => by cases x <;> cases y <;> rfl
theorem o_ge : OpR X (compareOp .GtE) (rd2 X.K gGe) := o_ord op_ge op_ge_str (fun i j H Q q => ⟨i, j, rfl, rfl, q⟩) (fun i j H Q q => ⟨i, j, rfl, rfl, q⟩) fun x y S => by cases x <;> cases y <;> rfl

/-! ### in: a list or tuple of flat things, a sign of a text -/
def gInB : D → D → Store → Option Bool
  | .str a, .str b, _ => if a.length = 1 then some (decide (a.cps.getD 0 0 ∈ b.cps.toList)) else none
  | x, .tup ys, _ => if x.flat && flats ys && decide (x.dep ≤ 64) then some (ys.any fun y => deq y x) else none
  | x, .ref l, S => match lstAt S l with
    | some ys => if x.flat && flats ys && decide (x.dep ≤ 64) then some (ys.any fun y => deq y x) else none
    | none => none
  | _, _, _ => none
def gIn (x y : D) (S : Store) : Option (D × Store) := (gInB x y S).map fun b => (.bl b, S)
def gNin (x y : D) (S : Store) : Option (D × Store) := (gInB x y S).map fun b => (.bl (!b), S)
theorem any_toPys {x : D} (hx : x.flat = true) : ∀ {ys : List D}, flats ys = true → ((toPys ys).any fun y => PyData.eqv y (toPy x)) = ys.any fun y => deq y x
  | [], _ => rfl
  | y :: ys, h => by
    have h' : (y.flat && flats ys) = true := h
    rw [Bool.and_eq_true] at h'
    show (PyData.eqv (toPy y) (toPy x) || (toPys ys).any _) = (deq y x || ys.any _)
    rw [eqv_toPy y x h'.1 hx, any_toPys hx h'.2]
theorem sign_of {a : Str} (h : a.length = 1) : a = ⟨#[a.cps.getD 0 0]⟩ := by
  obtain ⟨⟨l⟩⟩ := a
  have h' : l.length = 1 := h
  match l, h' with
  | [c], _ => rfl
theorem o_inB {op : CmpOp} {f : Bool → Bool} {g : D → D → Store → Option (D × Store)} {rs' : R2} (hg : ∀ x y S, g x y S = (gInB x y S).map fun b => (.bl (f b), S)) (hs : OpR X (compareOp op) rs')
    (ks : ∀ (c : Nat) (z : Str) H Q, Q (.bl (f (decide (c ∈ z.cps.toList)))) H → rs' (.str ⟨#[c]⟩) (.str z) H Q)
    (rl : ∀ {s : Shared} {c x : Value} {xs : List PyData} {d : PyData} {as bs : List Addr} {Q E : Value → Shared → Prop}, Reads s.heap c (.list xs) as → Reads s.heap x d bs → PyData.plainAll xs = true → d.plain = true →
      X.A.units + 1 + min (PyData.depthAll xs) d.depth < cLine → Q (.bool (f (xs.any fun y => PyData.eqv y d))) s → wpAny (model X.prog X.w) X.A (compareOp op x c) Q E s)
    (rt : ∀ {s : Shared} {c x : Value} {xs : List PyData} {d : PyData} {as bs : List Addr} {Q E : Value → Shared → Prop}, Reads s.heap c (.tuple xs) as → Reads s.heap x d bs → PyData.plainAll xs = true → d.plain = true →
      X.A.units + 1 + min (PyData.depthAll xs) d.depth < cLine → Q (.bool (f (xs.any fun y => PyData.eqv y d))) s → wpAny (model X.prog X.w) X.A (compareOp op x c) Q E s)
    (hu : X.A.units + 65 < cLine) : OpR X (compareOp op) (rd2 X.K g) := by
  intro pins s σ H v u vv uu Q I rv ru ⟨m, x, y, S, hx, hy, rs, h⟩
  rw [hg] at h
  have room : ∀ (d : D) (ps : List PyData), d.dep ≤ 64 → X.A.units + 1 + min (PyData.depthAll ps) (toPy d).depth < cLine := fun d ps hd => by
    rw [depth_toPy]
    have hm : min (PyData.depthAll ps) d.dep ≤ d.dep := Nat.min_le_right _ _
    omega
  have seqT : ∀ {a : Addr} {vs : List V} {ys : List D} {c : Bool}, TupAt X.K H a vs → RDs X.K m H vs ys → u = .ref a → (x.flat && flats ys && decide (x.dep ≤ 64)) = true → Q (.bl (f (ys.any fun y => deq y x))) H →
      wpAny (model X.prog X.w) X.A (compareOp op vv uu) (EP X pins σ Q) X.xe s := fun {a vs ys c} ht r e hc q => by
    simp only [Bool.and_eq_true, decide_eq_true_eq] at hc
    obtain ⟨⟨h1, h2⟩, h3⟩ := hc
    subst e
    obtain ⟨as, r1⟩ := Dp.reads I _ _ _ (dp_of h1 hx) rv
    obtain ⟨bs, r2⟩ := Dp.reads I _ _ _ (Dp.tup ht.sq (dps_of h2 r)) ru
    exact rt r2 r1 (plains_toPys ys) (plain_toPy x) (room x _ h3) ⟨.bl _, H, I, rfl, by rw [any_toPys h1 h2]; exact q⟩
  have seqL : ∀ {a : Addr} {vs : List V} {ys : List D} {c : Bool}, SqL X.K H a vs → RDs X.K m H vs ys → u = .ref a → (x.flat && flats ys && decide (x.dep ≤ 64)) = true → Q (.bl (f (ys.any fun y => deq y x))) H →
      wpAny (model X.prog X.w) X.A (compareOp op vv uu) (EP X pins σ Q) X.xe s := fun {a vs ys c} ht r e hc q => by
    simp only [Bool.and_eq_true, decide_eq_true_eq] at hc
    obtain ⟨⟨h1, h2⟩, h3⟩ := hc
    subst e
    obtain ⟨as, r1⟩ := Dp.reads I _ _ _ (dp_of h1 hx) rv
    obtain ⟨bs, r2⟩ := Dp.reads I _ _ _ (Dp.lst ht (dps_of h2 r)) ru
    exact rl r2 r1 (plains_toPys ys) (plain_toPy x) (room x _ h3) ⟨.bl _, H, I, rfl, by rw [any_toPys h1 h2]; exact q⟩
  unfold gInB at h
  split at h
  · rename_i a b
    split at h
    · rename_i ha
      have e := sign_of ha
      cases hx
      cases hy
      rw [e] at rv
      exact hs pins s σ H _ _ vv uu Q I rv ru (ks _ _ H Q (h _ _ m .refl rs (.bl _)))
    · exact h.elim
  · rename_i ys _
    split at h
    · rename_i hc
      cases hy with
      | tup ht r => exact seqT (c := true) ht r rfl hc (h _ _ m .refl rs (.bl _))
    · exact h.elim
  · rename_i l
    split at h
    · rename_i ys e
      split at h
      · rename_i hc
        cases hy with
        | ref ha =>
          obtain ⟨vs, h1, h2⟩ := rs.lst ha e
          exact seqL (c := true) h1 h2 rfl hc (h _ _ m .refl rs (.bl _))
      · exact h.elim
    · exact h.elim
  · exact h.elim
theorem o_in (hu : X.A.units + 65 < cLine) : OpR X (compareOp .In) (rd2 X.K gIn) := o_inB (f := fun b => b) (fun _ _ _ => rfl) op_in_sign (fun c z H Q q => ⟨c, z, rfl, rfl, q⟩) PySem.SeqAt.in_list_data PySem.SeqAt.in_tuple_data hu
theorem o_nin (hu : X.A.units + 65 < cLine) : OpR X (compareOp .NotIn) (rd2 X.K gNin) := o_inB (f := fun b => !b) (fun _ _ _ => rfl) op_notIn_sign (fun c z H Q q => ⟨c, z, rfl, rfl, q⟩) PySem.SeqAt.notIn_list_data PySem.SeqAt.notIn_tuple_data hu
end
end Dl

set_option Elab.async false
set_option linter.all false
set_option maxRecDepth 100000
namespace Dl
open PySem L2

/-! ## items, slices -/
def gIx : D → D → Store → Option (D × Store)
  | .tup xs, .int i, S => (atI xs i).map fun d => (d, S)
  | .ref l, .int i, S => (lstAt S l).bind fun xs => (atI xs i).map fun d => (d, S)
  | .str x, .int i, S => (atI x.cps.toList i).map fun c => (.str ⟨#[c]⟩, S)
  | _, _, _ => none
def cutD {α : Type} (xs : List α) (lo hi : Option Int) : List α := (xs.drop (HT.sIx xs.length 0 lo)).take (HT.sIx xs.length xs.length hi - HT.sIx xs.length 0 lo)
def gSl : D → Option Int → Option Int → Store → Option (D × Store)
  | .tup xs, lo, hi, S => some (.tup (cutD xs lo hi), S)
  | .ref l, lo, hi, S => (lstAt S l).map fun xs => (.ref S.length, S ++ [.lst (cutD xs lo hi)])
  | .str x, lo, hi, S => some (.str (cutS x lo hi), S)
  | _, _, _, _ => none
theorem cutS_le (x : Str) (lo hi : Option Int) : (cutS x lo hi).length ≤ x.length := by
  show ((x.cps.toList.drop _).take _).toArray.size ≤ x.cps.size
  rw [List.size_toArray, List.length_take, List.length_drop, Array.length_toList]
  omega
section
variable {K : PySem.W.Frag} {m : List Addr} {H : Hp}
theorem RDs.atI {vs : List V} {ds : List D} (r : RDs K m H vs ds) {i : Int} {d : D} (h : atI ds i = some d) : ∃ v, L2.atI vs i = some v ∧ RD K m H v d := by
  unfold L2.atI at h ⊢
  rw [r.length]
  cases e : ixN ds.length i with
  | none => rw [e] at h; cases h
  | some j =>
    rw [e] at h
    exact r.get h
theorem RDs.cut {vs : List V} {ds : List D} (r : RDs K m H vs ds) (lo hi : Option Int) : RDs K m H (cutV vs lo hi) (cutD ds lo hi) := by
  unfold cutV cutD
  rw [r.length]
  exact (r.drop _).take _
end
section
variable {X : Cx}
theorem i_ix : IxR X (rd2 X.K gIx) := by
  intro value slice pins s σ H v u vv uu Q I rv ru ⟨m, x, y, S, hx, hy, rs, h⟩ hs
  cases hx with
  | @str a ha =>
    cases hy with
    | int i =>
      have h : VPost X.K m H Q ((L2.atI a.cps.toList i).map fun c => (.str ⟨#[c]⟩, S)) := h
      cases e : L2.atI a.cps.toList i with
      | none => rw [e] at h; exact h.elim
      | some c =>
        rw [e] at h
        exact ix_str value slice pins s σ H _ _ vv uu Q I rv ru ⟨a, i, c, rfl, rfl, by rw [← lim_eq]; exact ha, e, h _ _ m .refl rs (.str (by show (1 : Nat) ≤ _; decide))⟩ hs
    | _ => exact (show False from h).elim
  | @tup a vs ds ht r =>
    cases hy with
    | int i =>
      have h : VPost X.K m H Q ((L2.atI ds i).map fun c => (c, S)) := h
      cases e : L2.atI ds i with
      | none => rw [e] at h; exact h.elim
      | some d =>
        rw [e] at h
        obtain ⟨w, h1, h2⟩ := r.atI e
        exact ix_tup value slice pins s σ H _ _ vv uu Q I rv ru ⟨a, vs, i, w, rfl, rfl, ht.sq, h1, h _ _ m .refl rs h2⟩ hs
    | _ => exact (show False from h).elim
  | @ref a l hl =>
    cases hy with
    | int i =>
      have h : VPost X.K m H Q ((lstAt S l).bind fun xs => (L2.atI xs i).map fun c => (c, S)) := h
      cases e1 : lstAt S l with
      | none => rw [e1] at h; exact h.elim
      | some xs =>
        rw [e1] at h
        obtain ⟨vs, hq, r⟩ := rs.lst hl e1
        have h : VPost X.K m H Q ((L2.atI xs i).map fun c => (c, S)) := h
        cases e : L2.atI xs i with
        | none => rw [e] at h; exact h.elim
        | some d =>
          rw [e] at h
          obtain ⟨w, h1, h2⟩ := r.atI e
          exact ix_list value slice pins s σ H _ _ vv uu Q I rv ru ⟨a, vs, i, w, rfl, rfl, hq, h1, h _ _ m .refl rs h2⟩ hs
    | _ => exact (show False from h).elim
  | _ => exact (show False from h).elim
def rdSl (K : PySem.W.Frag) (g : D → Option Int → Option Int → Store → Option (D × Store)) : V → Option Int → Option Int → Hp → VK → Prop := fun v lo hi H Q => ∃ m x S, RD K m H v x ∧ RS K m H S ∧ VPost K m H Q (g x lo hi S)
theorem s_sl : SlR X (rdSl X.K gSl) := by
  intro pins s σ H v vv vl vu lo hi sl Q I rv hs pl pu ⟨m, x, S, hx, rs, h⟩
  cases hx with
  | @str a ha => exact sl_str pins s σ H _ vv vl vu lo hi sl Q I rv hs pl pu ⟨a, rfl, by rw [← lim_eq]; exact ha, h _ _ m .refl rs (.str (Nat.le_trans (cutS_le a lo hi) ha))⟩
  | @tup a vs ds ht r =>
    have h : VPost X.K m H Q (some (.tup (cutD ds lo hi), S)) := h
    by_cases hw : HT.sIx ds.length 0 lo = 0 ∧ HT.sIx ds.length ds.length hi = ds.length
    · cases rv
      obtain ⟨its, r1, p, hz⟩ := I.tuple ht.sq
      have hlen : its.toArray.size = vs.length := by rw [List.size_toArray]; exact r1.length.symm
      have ec : cutD ds lo hi = ds := by unfold cutD; rw [hw.1, hw.2, List.drop_zero, Nat.sub_zero, List.take_length]
      refine ⟨"tuple", _, PyProof.Rows.slot_tuple_getitem.lookup, p.typeIs, ?_⟩
      refine getItem_tuple_whole p hs pl pu (by rw [hlen, r.length]; exact hw) ⟨.ref a, H, I, rfl, h _ _ m .refl rs ?_⟩
      rw [ec]
      exact .tup ht r
    · cases rv
      obtain ⟨its, r1, p, hz⟩ := I.tuple ht.sq
      have hlen : its.toArray.size = vs.length := by rw [List.size_toArray]; exact r1.length.symm
      refine ⟨"tuple", _, PyProof.Rows.slot_tuple_getitem.lookup, p.typeIs, ?_⟩
      refine HT.getItem_tuple_cut p hs pl pu (by rw [hlen, r.length]; exact hw) ?_ (by rw [hlen]; exact hz)
      rw [hlen]
      exact lay_tup (tk := s.toks) I (Nat.le_trans (cutV_length vs lo hi) hz) ((r1.drop (HT.sIx vs.length 0 lo)).take (HT.sIx vs.length vs.length hi - HT.sIx vs.length 0 lo)) fun o hc hd =>
        vp_tup rs (I.hok.fresh (Nat.le_refl _)) hc hd (r.cut lo hi) h
  | @ref a l hl =>
    have h : VPost X.K m H Q ((lstAt S l).map fun xs => (.ref S.length, S ++ [.lst (cutD xs lo hi)])) := h
    cases e : lstAt S l with
    | none => rw [e] at h; exact h.elim
    | some xs =>
      rw [e] at h
      obtain ⟨vs, hq, r⟩ := rs.lst hl e
      exact sl_list pins s σ H _ vv vl vu lo hi sl Q I rv hs pl pu ⟨a, vs, rfl, hq, fun p hp => vp_lst rs hp (r.cut lo hi) h⟩
  | _ => exact (show False from h).elim
/-- o[i] = v -/
def gSet : D → D → D → Store → Option Store
  | .ref l, .int k, d, S => match S[l]? with
    | some (.lst xs) => (ixN xs.length k).map fun j => S.set l (.lst (xs.set j d))
    | _ => none
  | _, _, _, _ => none
def rdSet (K : PySem.W.Frag) (g : D → D → D → Store → Option Store) : V → V → V → Hp → (Hp → Prop) → Prop := fun o i v H Q => ∃ m x y z S, RD K m H o x ∧ RD K m H i y ∧ RD K m H v z ∧ RS K m H S ∧ match g x y z S with
  | some S' => ∀ H' m', Ext K m H m' H' → RS K m' H' S' → Q H'
  | none => False
theorem p_set : PSet X (rdSet X.K gSet) := by
  intro pins s σ H o i v ov iv u Q I ro ri rv ⟨m, x, y, z, S, hx, hy, hz, rs, h⟩
  unfold gSet at h
  cases hx with
  | @ref a l hl =>
    cases hy with
    | int k =>
      simp only at h
      cases e : S[l]? with
      | none => rw [e] at h; exact h.elim
      | some c =>
        cases c with
        | lst xs =>
          rw [e] at h
          simp only at h
          cases e2 : ixN xs.length k with
          | none => rw [e2] at h; exact h.elim
          | some j =>
            rw [e2] at h
            simp only [Option.map_some] at h
            obtain ⟨vs, h1, r⟩ := rs.wlst hl e
            refine set_list pins s σ H _ _ v ov iv u Q I ro ri rv ⟨a, vs, k, j, rfl, rfl, h1, by rw [r.length]; exact e2, ?_⟩
            obtain ⟨ex, rs'⟩ := rs.write (o := .lst (vs.set j v)) (c' := .lst (xs.set j z)) hl e rfl rfl fun ex => ⟨_, upd_same, (RDs.set hz j r).mono ex⟩
            exact h _ _ ex rs'
        | _ => rw [e] at h; exact h.elim
    | _ => exact h.elim
  | _ => exact h.elim
end
section
variable {X : Cx} {W : WX} {a b e : Expr} {es : List Expr} {fa fb fe : EX} {fr fx : AX} {pos p p2 : Pos}
theorem d_ix (ha : PE X a (rdE (X.cq W) fa)) (hb : PE X b (rdE (X.cq W) fb)) (hs : PlainIx b := by exact fun _ _ => rfl) : PE X (.Subscript a b pos) (rdE (X.cq W) (e2 gIx fa fb)) :=
  d_2h (pe_ix i_ix ha hb hs) fun _ _ _ _ h => h
def oN : Env → Store → R (Option Int) := fun _ S => .ok none S
def oI (fa : EX) : Env → Store → R (Option Int) := fun ρ S => (fa ρ S).bind fun d S1 => match d with
  | .int i => .ok (some i) S1
  | _ => .no
def eSl (fa : EX) (lo hi : Env → Store → R (Option Int)) : EX := fun ρ S => (fa ρ S).bind fun x S1 => (lo ρ S1).bind fun l S2 => (hi ρ S2).bind fun h S3 => toR (gSl x l h S3)
theorem d_oN : PO X none (rdO (X.cq W) oN) := POwk po_none fun σ H Q ⟨m, ρ, S, re, rs, h⟩ => h none H m .refl rs rfl
theorem d_oI (ha : PE X a (rdE (X.cq W) fa)) : PO X (some a) (rdO (X.cq W) (oI fa)) := POwk (po_some ha) fun σ H Q ⟨m, ρ, S, re, rs, h⟩ =>
  ⟨m, ρ, S, re, rs, (Post.bind h).imp fun v H1 ⟨m1, x, S1, e, rs1, rd, h1⟩ => by
    cases rd with
    | int i => exact ⟨i, rfl, h1 _ _ m1 .refl rs1 rfl⟩
    | _ => exact h1.elim⟩
theorem d_sl {lo hi : Option Expr} {fl fh : Env → Store → R (Option Int)} (ha : PE X a (rdE (X.cq W) fa)) (hl : PO X lo (rdO (X.cq W) fl)) (hh : PO X hi (rdO (X.cq W) fh)) :
    PE X (.Subscript a (.Slice lo hi none p2) pos) (rdE (X.cq W) (eSl fa fl fh)) := PEwk (pe_slice s_sl ha hl hh) fun σ H Q ⟨m, ρ, S, re, rs, h⟩ =>
  ⟨m, ρ, S, re, rs, (Post.bind h).imp fun v H1 ⟨m1, x, S1, e, rs1, rd, h1⟩ => ⟨m1, ρ, S1, re.mono e, rs1, (Post.bind h1).imp fun lv H2 ⟨m2, l, S2, e2, rs2, el, h2⟩ => by
    subst el
    exact ⟨m2, ρ, S2, (re.mono e).mono e2, rs2, (Post.bind h2).imp fun hv H3 ⟨m3, hh', S3, e3, rs3, eh, h3⟩ => by
      subst eh
      exact ⟨m3, x, S3, (rd.mono e2).mono e3, rs3, VPost.of h3⟩⟩⟩⟩
/-! ## arguments, displays, calls of builtins -/
theorem d_aN : PA X [] (rdA (X.cq W) aN) := PAwk pa_nil fun σ H Q ⟨m, ρ, S, re, rs, h⟩ => h [] H m .refl rs .nil
theorem d_aC (he : PE X e (rdE (X.cq W) fe)) (hr : PA X es (rdA (X.cq W) fr)) (hs : starEach (e :: es) X.env = (false, eval e X.env) :: starEach es X.env := by rfl) : PA X (e :: es) (rdA (X.cq W) (aC fe fr)) :=
  PAwk (pa_cons he hr hs) fun σ H Q ⟨m, ρ, S, re, rs, h⟩ => ⟨m, ρ, S, re, rs, (Post.bind h).imp fun v H1 ⟨m1, x, S1, e, rs1, rd, h1⟩ =>
    ⟨m1, ρ, S1, re.mono e, rs1, (Post.bind h1).imp fun vs H2 ⟨m2, xs, S2, e2, rs2, rds, h2⟩ => h2 _ _ m2 .refl rs2 (.cons (rd.mono e2) rds)⟩⟩
def gTpl (xs : List D) (S : Store) : Option (D × Store) := if xs.length ≤ LIM then some (.tup xs, S) else none
def gLsd (xs : List D) (S : Store) : Option (D × Store) := if xs.length ≤ LIM then some (.ref S.length, S ++ [.lst xs]) else none
theorem d_tup {k : Nat} (h : PA X es (rdA (X.cq W) fx)) : PE X (.Tuple es k pos) (rdE (X.cq W) (eB gTpl fx)) := by
  refine ⟨fun pins s σ H Q I ⟨m, ρ, S, re, rs, hq⟩ => ?_⟩
  refine wpAny_Tuple_spliced (thn (h.run pos pins s σ H _ I ⟨m, ρ, S, re, rs, Post.bind hq⟩) fun us s1 ⟨vs, H1, I1, r, m1, xs, S1, e, rs1, rds, h1⟩ => ?_)
  have h1 := VPost.of h1
  unfold gTpl at h1
  split at h1
  · rename_i hz
    have hz' : vs.length ≤ sizeLine := by rw [← lim_eq, rds.length]; exact hz
    exact ⟨by rw [← r.length]; exact hz', lay_tup (tk := s1.toks) I1 hz' r fun o hc hd => vp_tup rs1 (I1.hok.fresh (Nat.le_refl _)) hc hd rds h1⟩
  · exact h1.elim
theorem d_lst (h : PA X es (rdA (X.cq W) fx)) : PE X (.List es pos) (rdE (X.cq W) (eB gLsd fx)) := PEwk (pe_lst h) fun σ H Q ⟨m, ρ, S, re, rs, hq⟩ =>
  ⟨m, ρ, S, re, rs, (Post.bind hq).imp fun vs H1 ⟨m1, xs, S1, e, rs1, rds, h1⟩ => by
    have h1 := VPost.of h1
    unfold gLsd at h1
    split at h1
    · rename_i hz
      exact ⟨by rw [← lim_eq, rds.length]; exact hz, fun p hp => vp_lst rs1 hp rds h1⟩
    · exact h1.elim⟩
theorem d_callB {x : Str} {id : String} {g : List D → Store → Option (D × Store)} (hc : CallR X (.builtin id) (rdC X.K g)) (hg : Gl X x) (hm : X.mg x = none) (hv : bootBuiltins x = some (.builtin id)) (ha : PA X (e :: es) (rdA (X.cq W) fx)) (hn : x ≠ "__name__" := by decide)
    (hdb : (x == ("__debug__" : Str)) = false := by decide) (he : starEach (e :: es) X.env = (false, eval e X.env) :: starEach es X.env := by rfl) (hpl : (backTo pos (starEach es X.env)).any (·.1) = false := by rfl) :
    PE X (.Call (.Name x p) (e :: es) [] pos) (rdE (X.cq W) (eB g fx)) := PEwk (pe_callB hc hg hm hv ha hn hdb he hpl) fun σ H Q ⟨m, ρ, S, re, rs, h⟩ =>
  ⟨m, ρ, S, re, rs, (Post.bind h).imp fun vs H1 ⟨m1, xs, S1, e, rs1, rd, h1⟩ => ⟨m1, xs, S1, rd, rs1, VPost.of h1⟩⟩
theorem d_callT {x : Str} {T : String} {g : List D → Store → Option (D × Store)} (hc : CallR X (.type T) (rdC X.K g)) (hg : Gl X x) (hm : X.mg x = none) (hv : bootBuiltins x = some (.type T)) (ha : PA X (e :: es) (rdA (X.cq W) fx)) (hn : x ≠ "__name__" := by decide)
    (hdb : (x == ("__debug__" : Str)) = false := by decide) (he : starEach (e :: es) X.env = (false, eval e X.env) :: starEach es X.env := by rfl) (hpl : (backTo pos (starEach es X.env)).any (·.1) = false := by rfl) :
    PE X (.Call (.Name x p) (e :: es) [] pos) (rdE (X.cq W) (eB g fx)) := PEwk (pe_callTy hc hg hm hv ha hn hdb he hpl) fun σ H Q ⟨m, ρ, S, re, rs, h⟩ =>
  ⟨m, ρ, S, re, rs, (Post.bind h).imp fun vs H1 ⟨m1, xs, S1, e, rs1, rd, h1⟩ => ⟨m1, xs, S1, rd, rs1, VPost.of h1⟩⟩
/-- a method of a built-in type -/
theorem d_bm {o : Expr} {fo : EX} {T id : String} {name : Str} {apos cpos : Pos} {g : D → List D → Store → Option (D × Store)} (pa : PlainAttrs T) (slot : Slot T name id) (hty : typeOf (.builtin id) = pure (.type "method_descriptor")) (hm : MtR X id (rdM X.K g))
    (hT : ∀ v m H x S xs S1, RD X.K m H v x → RS X.K m H S → (g x xs S1).isSome = true → tyV X.K T v H)
    (ho : PE X o (rdE (X.cq W) fo)) (ha : PA X (e :: es) (rdA (X.cq W) fx)) : True := trivial
end
end Dl

set_option Elab.async false
set_option linter.all false
set_option maxRecDepth 100000
namespace Dl
open PySem L2

/-! ## built-in functions -/
inductive Ty where
  | non | bl | int | str | tup | lst | dic
  deriving DecidableEq
def Ty.name : Ty → String
  | .non => "NoneType" | .bl => "bool" | .int => "int" | .str => "str" | .tup => "tuple" | .lst => "list" | .dic => "dict"
def tyD (S : Store) : D → Option Ty
  | .non => some .non
  | .bl _ => some .bl
  | .int _ => some .int
  | .str _ => some .str
  | .tup _ => some .tup
  | .ref l => match S[l]? with
    | some (.lst _) => some .lst
    | some (.rol _) => some .lst
    | some (.dic _) => some .dic
    | _ => none
  | .raw _ => none
def isiB (t T : Ty) : Bool := decide (t = T) || (decide (t = .bl) && decide (T = .int))
theorem kit_all (t T : Ty) (hT : T ≠ .non) : kitB t.name T.name = some (isiB t T) := by
  cases T <;> first | exact absurd rfl hT | (cases t <;> decide +kernel)
def gIsi (T : Ty) : List D → Store → Option (D × Store)
  | [x, .raw (.ty n)], S => if n = T.name then (tyD S x).map fun t => (.bl (isiB t T), S) else none
  | _, _ => none
def gLen : List D → Store → Option (D × Store)
  | [.str x], S => some (.int x.length, S)
  | [.tup xs], S => some (.int xs.length, S)
  | [.ref l], S => (lstAt S l).map fun xs => (.int xs.length, S)
  | _, _ => none
def gAbs : List D → Store → Option (D × Store)
  | [.int i], S => some (.int (if i < 0 then -i else i), S)
  | _, _ => none
def gInt : List D → Store → Option (D × Store)
  | [.int i], S => some (.int i, S)
  | [.bl b], S => some (.int (if b then 1 else 0), S)
  | [.str x], S => if x.length ≤ 640 then (PySem.intText? x).map fun n => (.int n, S) else none
  | _, _ => none
def gStr : List D → Store → Option (D × Store)
  | [.int i], S => if i.natAbs.log2 < 1920 ∧ (toString i : Str).length ≤ LIM then some (.str (toString i), S) else none
  | _, _ => none
def gMax2 : List D → Store → Option (D × Store)
  | [.int i, .int j], S => some (.int (if j > i then j else i), S)
  | _, _ => none
def gMin2 : List D → Store → Option (D × Store)
  | [.int i, .int j], S => some (.int (if j < i then j else i), S)
  | _, _ => none
/-- list(xs): a new list -/
def gList : List D → Store → Option (D × Store)
  | [.tup xs], S => some (.ref S.length, S ++ [.lst xs])
  | [.ref l], S => (lstAt S l).map fun xs => (.ref S.length, S ++ [.lst xs])
  | _, _ => none
def gTuple : List D → Store → Option (D × Store)
  | [.tup xs], S => some (.tup xs, S)
  | [.ref l], S => (lstAt S l).map fun xs => (.tup xs, S)
  | _, _ => none
/-- all, any of a list of bools -/
def bools : List D → Option (List Bool)
  | [] => some []
  | .bl b :: r => (bools r).map (b :: ·)
  | _ => none
def gAll : List D → Store → Option (D × Store)
  | [.ref l], S => ((lstAt S l).bind bools).map fun bs => (.bl (bs.all id), S)
  | _, _ => none
def gAny : List D → Store → Option (D × Store)
  | [.ref l], S => ((lstAt S l).bind bools).map fun bs => (.bl (bs.any id), S)
  | _, _ => none
section
variable {X : Cx}
theorem tyx_of {K : PySem.W.Frag} {m : List Addr} {H : Hp} {S : Store} {v : V} {x : D} {t : Ty} (r : RD K m H v x) (rs : RS K m H S) (h : tyD S x = some t) : TyX K H v (.type t.name) := by
  cases r with
  | non => cases h; exact .base .non
  | bl b => cases h; exact .base (.bl b)
  | int b => cases h; exact .base (.int b)
  | str b => cases h; exact .base (.str _)
  | tup ht _ =>
    cases h
    rcases ht with ⟨o, h, _⟩ | ⟨o, its, n, h1, h2, _⟩
    · exact .fTuple h
    · exact .kTuple h1 h2
  | @ref a l hl =>
    unfold tyD at h
    simp only at h
    split at h
    · rename_i xs e
      cases h
      obtain ⟨vs, h1, _⟩ := rs.at_ hl e
      exact .base (.lst h1)
    · rename_i xs e
      cases h
      obtain ⟨vs, h1, _⟩ := rs.at_ hl e
      rcases h1 with ⟨o, h1⟩ | ⟨o, its, n, h1, h2, _⟩
      · exact .base (.frz h1)
      · exact .kList h1 h2
    · rename_i xs e
      cases h
      obtain ⟨vs, h1, _⟩ := rs.at_ hl e
      exact .base (.dK h1)
    · cases h
  | raw v => cases h
theorem c_isi (T : Ty) (hT : T ≠ .non) : CallR X (.builtin "isinstance") (rdC X.K (gIsi T)) := by
  intro pins s σ H vs us Q I r ⟨m, xs, S, hx, rs, h⟩
  unfold gIsi at h
  split at h
  · rename_i x n
    split at h
    · rename_i hn
      subst hn
      cases hx with
      | cons h1 h2 =>
        cases h2 with
        | cons h3 h4 =>
          cases h4
          cases h3
          cases e : tyD S x with
          | none => rw [e] at h; exact h.elim
          | some t =>
            rw [e] at h
            exact call_isi pins s σ H _ us Q I r ⟨_, _, _, .type T.name, isiB t T, rfl, .ty _, tyx_of h1 rs e, kit_ty (kit_all t T hT), h _ _ m .refl rs (.bl _)⟩
    · exact h.elim
  · exact h.elim
theorem c_len : CallR X (.builtin "len") (rdC X.K gLen) := by
  intro pins s σ H vs us Q I r ⟨m, xs, S, hx, rs, h⟩
  unfold gLen at h
  split at h
  · cases hx with
    | cons h1 h2 =>
      cases h2
      cases h1 with
      | str hz => exact call_len pins s σ H _ us Q I r ⟨_, _, rfl, ⟨by rw [← lim_eq]; exact hz, rfl⟩, h _ _ m .refl rs (.int _)⟩
  · cases hx with
    | cons h1 h2 =>
      cases h2
      cases h1 with
      | tup ht rd => exact call_len pins s σ H _ us Q I r ⟨_, _, rfl, .inr ⟨_, ht.sq, rfl⟩, by rw [rd.length]; exact h _ _ m .refl rs (.int _)⟩
  · rename_i l
    cases e : lstAt S l with
    | none => rw [e] at h; exact h.elim
    | some ys =>
      rw [e] at h
      cases hx with
      | cons h1 h2 =>
        cases h2
        cases h1 with
        | ref hl =>
          obtain ⟨ws, hq, rd⟩ := rs.lst hl e
          exact call_len pins s σ H _ us Q I r ⟨_, _, rfl, .inl ⟨_, hq, rfl⟩, by rw [rd.length]; exact h _ _ m .refl rs (.int _)⟩
  · exact h.elim
theorem c_abs : CallR X (.builtin "abs") (rdC X.K gAbs) := by
  intro pins s σ H vs us Q I r ⟨m, xs, S, hx, rs, h⟩
  unfold gAbs at h
  split at h
  · cases hx with
    | cons h1 h2 =>
      cases h2
      cases h1
      exact call_abs pins s σ H _ us Q I r ⟨_, rfl, h _ _ m .refl rs (.int _)⟩
  · exact h.elim
theorem c_int : CallR X (.type "int") (rdC X.K gInt) := by
  intro pins s σ H vs us Q I r ⟨m, xs, S, hx, rs, h⟩
  unfold gInt at h
  split at h
  · cases hx with
    | cons h1 h2 =>
      cases h2
      cases h1
      exact call_int1 pins s σ H _ us Q I r (.inl ⟨_, rfl, h _ _ m .refl rs (.int _)⟩)
  · cases hx with
    | cons h1 h2 =>
      cases h2
      cases h1
      exact call_int1 pins s σ H _ us Q I r (.inr ⟨_, rfl, h _ _ m .refl rs (.int _)⟩)
  · rename_i x
    split at h
    · rename_i hz
      cases e : PySem.intText? x with
      | none => rw [e] at h; exact h.elim
      | some n =>
        rw [e] at h
        cases hx with
        | cons h1 h2 =>
          cases h2
          cases h1
          exact call_int_str pins s σ H _ us Q I r ⟨_, n, rfl, e, hz, h _ _ m .refl rs (.int _)⟩
    · exact h.elim
  · exact h.elim
theorem c_str : CallR X (.type "str") (rdC X.K gStr) := by
  intro pins s σ H vs us Q I r ⟨m, xs, S, hx, rs, h⟩
  unfold gStr at h
  split at h
  · split at h
    · rename_i hz
      cases hx with
      | cons h1 h2 =>
        cases h2
        cases h1
        exact call_str_int pins s σ H _ us Q I r ⟨_, rfl, hz.1, h _ _ m .refl rs (.str hz.2)⟩
    · exact h.elim
  · exact h.elim
theorem c_max2 (hc : X.calm = true) : CallR X (.builtin "max") (rdC X.K gMax2) := by
  intro pins s σ H vs us Q I r ⟨m, xs, S, hx, rs, h⟩
  unfold gMax2 at h
  split at h
  · cases hx with
    | cons h1 h2 =>
      cases h2 with
      | cons h2 h3 =>
        cases h3
        cases h1
        cases h2
        exact call_max2 hc pins s σ H _ us Q I r ⟨_, _, rfl, h _ _ m .refl rs (.int _)⟩
  · exact h.elim
theorem c_min2 (hc : X.calm = true) : CallR X (.builtin "min") (rdC X.K gMin2) := by
  intro pins s σ H vs us Q I r ⟨m, xs, S, hx, rs, h⟩
  unfold gMin2 at h
  split at h
  · cases hx with
    | cons h1 h2 =>
      cases h2 with
      | cons h2 h3 =>
        cases h3
        cases h1
        cases h2
        exact call_min2 hc pins s σ H _ us Q I r ⟨_, _, rfl, h _ _ m .refl rs (.int _)⟩
  · exact h.elim
theorem c_list : CallR X (.type "list") (rdC X.K gList) := by
  intro pins s σ H vs us Q I r ⟨m, xs, S, hx, rs, h⟩
  unfold gList at h
  split at h
  · cases hx with
    | cons h1 h2 =>
      cases h2
      cases h1 with
      | tup ht rd => exact call_list_of pins s σ H _ us Q I r ⟨_, _, rfl, .inr ht.sq, fun p hp => vp_lst rs hp rd h⟩
  · rename_i l
    cases e : lstAt S l with
    | none => rw [e] at h; exact h.elim
    | some ys =>
      rw [e] at h
      cases hx with
      | cons h1 h2 =>
        cases h2
        cases h1 with
        | ref hl =>
          obtain ⟨ws, hq, rd⟩ := rs.lst hl e
          exact call_list_of pins s σ H _ us Q I r ⟨_, _, rfl, .inl hq, fun p hp => vp_lst rs hp rd h⟩
  · exact h.elim
theorem c_tuple : CallR X (.type "tuple") (rdC X.K gTuple) := by
  intro pins s σ H vs us Q I r ⟨m, xs, S, hx, rs, h⟩
  unfold gTuple at h
  split at h
  · cases hx with
    | cons h1 h2 =>
      cases h2
      cases h1 with
      | tup ht rd => exact call_tupleT pins s σ H _ us Q I r ⟨_, _, rfl, ht.sq, h _ _ m .refl rs (.tup ht rd)⟩
  · rename_i l
    cases e : lstAt S l with
    | none => rw [e] at h; exact h.elim
    | some ys =>
      rw [e] at h
      cases hx with
      | cons h1 h2 =>
        cases h2
        cases h1 with
        | ref hl =>
          obtain ⟨ws, hq, rd⟩ := rs.lst hl e
          obtain ⟨u, rfl, rx⟩ := vals1 r
          cases rx
          obtain ⟨its, r', pl, hz⟩ := I.list hq
          have hlen := r'.length
          refine call_tuple_list pl.isList (fun h' kp => ?_) (by simp only [List.size_toArray] <;> omega)
          have I1 : L2.Inv X pins σ H { s with heap := h' } := I.kept (t' := s.toks) kp
          exact lay_tup (s := { s with heap := h' }) (tk := s.toks) I1 hz r' fun o hc hd => vp_tup rs (I1.hok.fresh (Nat.le_refl _)) hc hd rd h
  · exact h.elim
theorem bools_of {K : PySem.W.Frag} {m : List Addr} {H : Hp} : ∀ {xs : List D} {vs : List V} {bs : List Bool}, RDs K m H vs xs → bools xs = some bs → vs = bs.map V.bl
  | [], _, _, r, h => by cases r; cases h; rfl
  | .bl b :: r, _, bs, rr, h => by
    cases rr with
    | cons h1 h2 =>
      cases h1
      have h : (bools r).map (b :: ·) = some bs := h
      cases e : bools r with
      | none => rw [e] at h; cases h
      | some cs =>
        rw [e] at h
        cases h
        rw [bools_of h2 e]
        rfl
  | .non :: _, _, _, _, h => nomatch h
  | .int _ :: _, _, _, _, h => nomatch h
  | .str _ :: _, _, _, _, h => nomatch h
  | .tup _ :: _, _, _, _, h => nomatch h
  | .ref _ :: _, _, _, _, h => nomatch h
  | .raw _ :: _, _, _, _, h => nomatch h
theorem c_all (hc : X.calm = true) : CallR X (.builtin "all") (rdC X.K gAll) := by
  intro pins s σ H vs us Q I r ⟨m, xs, S, hx, rs, h⟩
  unfold gAll at h
  split at h
  · rename_i l
    cases e : lstAt S l with
    | none => rw [e] at h; exact h.elim
    | some ys =>
      rw [e] at h
      simp only [Option.bind_some] at h
      cases e2 : bools ys with
      | none => rw [e2] at h; exact h.elim
      | some bs =>
        rw [e2] at h
        cases hx with
        | cons h1 h2 =>
          cases h2
          cases h1 with
          | ref hl =>
            obtain ⟨ws, hq, rd⟩ := rs.lst hl e
            have ew := bools_of rd e2
            subst ew
            exact cr_all hc pins s σ H _ us Q I r ⟨_, bs, rfl, hq, h _ _ m .refl rs (.bl _)⟩
  · exact h.elim
theorem c_any (hc : X.calm = true) : CallR X (.builtin "any") (rdC X.K gAny) := by
  intro pins s σ H vs us Q I r ⟨m, xs, S, hx, rs, h⟩
  unfold gAny at h
  split at h
  · rename_i l
    cases e : lstAt S l with
    | none => rw [e] at h; exact h.elim
    | some ys =>
      rw [e] at h
      simp only [Option.bind_some] at h
      cases e2 : bools ys with
      | none => rw [e2] at h; exact h.elim
      | some bs =>
        rw [e2] at h
        cases hx with
        | cons h1 h2 =>
          cases h2
          cases h1 with
          | ref hl =>
            obtain ⟨ws, hq, rd⟩ := rs.lst hl e
            have ew := bools_of rd e2
            subst ew
            exact cr_any hc pins s σ H _ us Q I r ⟨_, bs, rfl, hq, h _ _ m .refl rs (.bl _)⟩
  · exact h.elim
end

/-! ## methods of built-in types -/
def eMt (T : Ty) (g : D → List D → Store → Option (D × Store)) (fo : EX) (fa : AX) : EX := fun ρ S => (fo ρ S).bind fun x S1 => if tyD S1 x = some T then (fa ρ S1).bind fun xs S2 => toR (g x xs S2) else .no
section
variable {X : Cx} {W : WX} {o e : Expr} {es : List Expr} {fo fe : EX} {fx : AX} {apos cpos : Pos} {name : Str} {id : String} {T : Ty} {g : D → List D → Store → Option (D × Store)}
theorem ty_is {pins : List (Addr × Obj)} {σ : St} {H : Hp} {s : Shared} {m : List Addr} {S : Store} {v : V} {x : D} {u : Value} (I : L2.Inv X pins σ H s) (r : RelV v u) (rd : RD X.K m H v x) (rs : RS X.K m H S) (h : tyD S x = some T) (hT : T = .str ∨ T = .tup ∨ T = .lst ∨ T = .dic) :
    s.TypeIs u T.name ∧ ∀ a, u = .ref a → ∃ ob, s.heap.get? a = some ob ∧ ob.dict = none := by
  cases rd with
  | non => cases h; rcases hT with z | z | z | z <;> cases z
  | bl b => cases h; rcases hT with z | z | z | z <;> cases z
  | int b => cases h; rcases hT with z | z | z | z <;> cases z
  | str b =>
    cases h
    obtain ⟨t, rfl⟩ := r
    exact ⟨typeIs_str _ _ _, fun _ e => nomatch e⟩
  | @tup a _ _ ht _ =>
    cases h
    cases r
    rcases ht with ⟨ob, h, hc, hd⟩ | ⟨ob, its, n, h1, h2, h3, _⟩
    · obtain ⟨e, _⟩ := (show ObjOk X.prog X.w H s.heap a (.frz ob _) from I.hok a _ h)
      exact ⟨⟨ob, e, hc⟩, fun b eb => by cases eb; exact ⟨ob, e, hd⟩⟩
    · exact ⟨⟨ob, I.kIn a ob h1, h2⟩, fun b eb => by cases eb; exact ⟨ob, I.kIn _ ob h1, h3⟩⟩
  | @ref a l hl =>
    cases r
    unfold tyD at h
    simp only at h
    split at h
    · rename_i xs e
      cases h
      obtain ⟨vs, h1, _⟩ := rs.at_ hl e
      exact tyV_is (T := "list") (x := .ref a) I rfl (.inl ⟨rfl, _, SqL.of h1⟩)
    · rename_i xs e
      cases h
      obtain ⟨vs, h1, _⟩ := rs.at_ hl e
      exact tyV_is (T := "list") (x := .ref a) I rfl (.inl ⟨rfl, _, h1.sq⟩)
    · rename_i xs e
      cases h
      obtain ⟨vs, h1, _⟩ := rs.at_ hl e
      exact tyV_is (T := "dict") (x := .ref a) I rfl (.inr (.inr (.inl ⟨rfl, .inl ⟨_, h1⟩⟩)))
    · cases h
  | raw v => cases h
theorem d_m0 (pa : PlainAttrs T.name) (slot : Slot T.name name id) (hty : typeOf (.builtin id) = pure (.type "method_descriptor")) (hT : T = .str ∨ T = .tup ∨ T = .lst ∨ T = .dic) (hm : MtR X id (rdM X.K g)) (ho : PE X o (rdE (X.cq W) fo))
    (hbase : attributeBase o name X.env (eval o X.env) = eval o X.env := by rfl) (hline : (apos.endLine == cpos.line) = true := by rfl) : PE X (.Call (.Attribute o name apos) [] [] cpos) (rdE (X.cq W) (eMt T g fo aN)) := by
  refine ⟨fun pins s σ H Q I ⟨m, ρ, S, re, rs, h⟩ => ?_⟩
  refine wpAny_Call_method0_late hbase hline (thn (ho.run pins s σ H _ I ⟨m, ρ, S, re, rs, Post.bind h⟩) fun v s1 ⟨x, H1, I1, r1, m1, d, S1, e1, rs1, rd1, h1⟩ => ?_)
  split at h1
  · rename_i ht
    obtain ⟨q1, q2⟩ := ty_is I1 r1 rd1 rs1 ht hT
    exact ⟨T.name, id, pa, slot, hty, q1, q2, Calls.callWith_builtin rfl (PySem.evalArgs_none (hm pins s1 σ H1 x [] v [] Q I1 r1 .nil ⟨m1, d, [], S1, rd1, .nil, rs1, VPost.of h1⟩))⟩
  · exact h1.elim
theorem d_m (pa : PlainAttrs T.name) (slot : Slot T.name name id) (hty : typeOf (.builtin id) = pure (.type "method_descriptor")) (hT : T = .str ∨ T = .tup ∨ T = .lst ∨ T = .dic) (hm : MtR X id (rdM X.K g)) (ho : PE X o (rdE (X.cq W) fo)) (ha : PA X (e :: es) (rdA (X.cq W) fx))
    (hbase : attributeBase o name X.env (eval o X.env) = eval o X.env := by rfl)
    (hfew : ((backTo cpos (starEach (e :: es) X.env)).all (fun x => !x.1) && (backToKw cpos (keywordEach [] X.env)).all (fun x => x.1.isSome)
      && decide ((e :: es).length + ([] : List Keyword).length + (if ([] : List Keyword).isEmpty then 0 else 1) < 30)) = true := by rfl)
    (hline : (apos.endLine == cpos.line) = true := by rfl) (hs : starEach (e :: es) X.env = (false, eval e X.env) :: starEach es X.env := by rfl) (hplain : (backTo cpos (starEach es X.env)).any (·.1) = false := by rfl) :
    PE X (.Call (.Attribute o name apos) (e :: es) [] cpos) (rdE (X.cq W) (eMt T g fo fx)) := by
  refine ⟨fun pins s σ H Q I ⟨m, ρ, S, re, rs, h⟩ => ?_⟩
  refine wpAny_Call_method_late hbase hfew hline rfl (thn (ho.run pins s σ H _ I ⟨m, ρ, S, re, rs, Post.bind h⟩) fun v s1 ⟨x, H1, I1, r1, m1, d, S1, e1, rs1, rd1, h1⟩ => ?_)
  split at h1
  · rename_i ht
    obtain ⟨q1, q2⟩ := ty_is I1 r1 rd1 rs1 ht hT
    refine ⟨T.name, id, pa, slot, hty, q1, q2, ?_⟩
    have hA := ha.run cpos pins s1 σ H1 _ I1 ⟨m1, ρ, S1, re.mono e1, rs1, Post.bind h1⟩
    rw [hs] at hA ⊢
    refine Calls.callWith_builtin (by show (false || (backTo cpos (starEach es X.env)).any (·.1)) = false; rw [hplain] <;> rfl) (Calls.evalArgs_plain ?_)
    exact thn hA fun us s2 ⟨vs, H2, I2, r2, m2, xs, S2, e2, rs2, rd2, h2⟩ => hm pins s2 σ H2 x vs v us Q I2 r1 r2 ⟨m2, d, xs, S2, rd1.mono e2, rd2, rs2, VPost.of h2⟩
  · exact h1.elim
end
/-- xs.append(y) -/
def gAppend : D → List D → Store → Option (D × Store)
  | .ref l, [d], S => match S[l]? with
    | some (.lst xs) => if xs.length < LIM then some (.non, S.set l (.lst (xs ++ [d]))) else none
    | _ => none
  | _, _, _ => none
def gPop : D → List D → Store → Option (D × Store)
  | .ref l, [], S => match S[l]? with
    | some (.lst xs) => (xs[xs.length - 1]?).map fun d => (d, S.set l (.lst xs.dropLast))
    | _ => none
  | _, _, _ => none
/-- s.partition(c), c one sign -/
def partL (c : Nat) (xs : List Nat) : List Nat × List Nat × List Nat := if c ∈ xs then (xs.takeWhile (· != c), [c], (xs.dropWhile (· != c)).drop 1) else (xs, [], [])
def gPart : D → List D → Store → Option (D × Store)
  | .str a, [.str b], S => if b.length = 1 then
      let p := partL (b.cps.getD 0 0) a.cps.toList
      some (.tup [.str ⟨p.1.toArray⟩, .str ⟨p.2.1.toArray⟩, .str ⟨p.2.2.toArray⟩], S) else none
  | _, _, _ => none
/-- t.count(x), l.count(x) -/
def gCountT : D → List D → Store → Option (D × Store)
  | .tup xs, [d], S => if d.flat && flats xs && decide (d.dep ≤ 64) then some (.int (xs.countP fun y => deq y d : Nat), S) else none
  | _, _, _ => none
theorem takeWhile_at {c : Nat} : ∀ {l : List Nat} {i : Nat}, l[i]? = some c → (∀ k, k < i → l[k]? ≠ some c) → l.takeWhile (· != c) = l.take i
  | [], i, h, _ => by simp at h
  | k :: r, 0, h, _ => by
    have e : k = c := by simpa using h
    subst e
    rw [List.takeWhile_cons_of_neg (by simp)]
    rfl
  | k :: r, i + 1, h, hn => by
    have h1 : k ≠ c := fun e => hn 0 (by omega) (by simp [e])
    rw [List.takeWhile_cons_of_pos (by simp [h1]), takeWhile_at (l := r) (i := i) (by simpa using h) fun j hj => by have := hn (j + 1) (by omega); simpa using this]
    rfl
theorem dropWhile_at {c : Nat} : ∀ {l : List Nat} {i : Nat}, l[i]? = some c → (∀ k, k < i → l[k]? ≠ some c) → l.dropWhile (· != c) = c :: l.drop (i + 1)
  | [], i, h, _ => by simp at h
  | k :: r, 0, h, _ => by
    have e : k = c := by simpa using h
    subst e
    rw [List.dropWhile_cons_of_neg (by simp)]
    rfl
  | k :: r, i + 1, h, hn => by
    have h1 : k ≠ c := fun e => hn 0 (by omega) (by simp [e])
    rw [List.dropWhile_cons_of_pos (by simp [h1]), dropWhile_at (l := r) (i := i) (by simpa using h) fun j hj => by have := hn (j + 1) (by omega); simpa using this]
    rfl
theorem part_one (x : Str) (c : Nat) : Txt.partition x ⟨#[c]⟩ = (⟨(partL c x.cps.toList).1.toArray⟩, ⟨(partL c x.cps.toList).2.1.toArray⟩, ⟨(partL c x.cps.toList).2.2.toArray⟩) := by
  unfold Txt.partition
  rcases StrLaws.occ_head x ⟨#[c]⟩ 1 (Nat.le_refl 1) with ⟨h0, hn⟩ | ⟨i, r, h0, hi, hn⟩
  · have hfree : c ∉ x.cps.toList := fun hm => by
      obtain ⟨j, hj⟩ := List.getElem?_of_mem hm
      exact hn j ((StrLaws.subAt_one x c j).mpr hj)
    rw [h0]
    unfold partL
    rw [if_neg hfree]
    rfl
  · rw [h0]
    have hm := (StrLaws.subAt_one x c i).mp hi
    have hn' : ∀ k, k < i → x.cps.toList[k]? ≠ some c := fun k hk e => hn k hk ((StrLaws.subAt_one x c k).mpr e)
    have hmem : c ∈ x.cps.toList := List.mem_of_getElem? hm
    unfold partL
    rw [if_pos hmem, takeWhile_at hm hn', dropWhile_at hm hn']
    have hl : x.cps.toList.length = x.cps.size := Array.length_toList
    refine Prod.ext ?_ (Prod.ext rfl ?_)
    · apply congrArg Str.mk
      apply Array.toList_inj.mp
      show (x.cps.extract 0 i).toList = _
      simp
    · apply congrArg Str.mk
      apply Array.toList_inj.mp
      show (x.cps.extract (i + 1) x.cps.size).toList = _
      rw [Array.toList_extract]
      simp [List.extract_eq_take_drop]
      rw [← hl, ← List.length_drop]
      exact List.take_length
theorem partL_le (c : Nat) (xs : List Nat) : (partL c xs).1.length ≤ xs.length ∧ (partL c xs).2.1.length ≤ 1 ∧ (partL c xs).2.2.length ≤ xs.length := by
  unfold partL
  split
  · refine ⟨(List.takeWhile_sublist _).length_le, Nat.le_refl _, ?_⟩
    exact Nat.le_trans (List.drop_sublist _ _).length_le (List.dropWhile_sublist _).length_le
  · exact ⟨Nat.le_refl _, Nat.zero_le _, Nat.zero_le _⟩
section
variable {X : Cx}
theorem m_append : MtR X "list.append" (rdM X.K gAppend) := by
  intro pins s σ H v vs vv us Q I rv rvs ⟨m, x, xs, S, hx, hxs, rs, h⟩
  unfold gAppend at h
  split at h
  · rename_i l d
    split at h
    · rename_i ys e
      split at h
      · rename_i hz
        cases hx with
        | ref hl =>
          cases hxs with
          | cons h1 h2 =>
            cases h2
            obtain ⟨ws, hw, rw'⟩ := rs.wlst hl e
            refine mt_append pins s σ H _ _ vv us Q I rv rvs ⟨_, ws, _, rfl, rfl, hw, by rw [rw'.length, ← lim_eq]; exact hz, ?_⟩
            obtain ⟨ex, rs'⟩ := rs.write (o := .lst (ws ++ [_])) (c' := .lst (ys ++ [d])) hl e rfl rfl fun ex => ⟨_, upd_same, (rw'.mono ex).append (.one (h1.mono ex))⟩
            exact h _ _ m ex rs' .non
      · exact h.elim
    · exact h.elim
  · exact h.elim
theorem m_pop : MtR X "list.pop" (rdM X.K gPop) := by
  intro pins s σ H v vs vv us Q I rv rvs ⟨m, x, xs, S, hx, hxs, rs, h⟩
  unfold gPop at h
  split at h
  · rename_i l
    split at h
    · rename_i ys e
      cases hx with
      | ref hl =>
        cases hxs
        obtain ⟨ws, hw, rw'⟩ := rs.wlst hl e
        cases e2 : ys[ys.length - 1]? with
        | none => rw [e2] at h; exact h.elim
        | some d =>
          rw [e2] at h
          obtain ⟨w, e3, rd⟩ := rw'.get e2
          refine mt_pop pins s σ H _ _ vv us Q I rv rvs ⟨_, ws, w, rfl, rfl, hw, by rw [rw'.length]; exact e3, ?_⟩
          obtain ⟨ex, rs'⟩ := rs.write (o := .lst ws.dropLast) (c' := .lst ys.dropLast) hl e rfl rfl fun ex => ⟨_, upd_same, (rw'.mono ex).dropLast⟩
          exact h _ _ m ex rs' (rd.mono ex)
    · exact h.elim
  · exact h.elim
theorem m_part : MtR X "str.partition" (rdM X.K gPart) := by
  intro pins s σ H v vs vv us Q I rv rvs ⟨m, x, xs, S, hx, hxs, rs, h⟩
  unfold gPart at h
  split at h
  · rename_i a b
    split at h
    · rename_i hb
      cases hx with
      | str ha =>
        cases hxs with
        | cons h1 h2 =>
          cases h2
          cases h1 with
          | str hb2 =>
            obtain ⟨t, rfl⟩ := rv
            cases rvs with
            | cons r1 rs1 =>
              cases rs1
              obtain ⟨u, rfl⟩ := r1
              have hz : a.length ≤ sizeLine := by rw [← lim_eq]; exact ha
              refine call_meets F.slot_str_partition (typeIs_str _ _ _) F.entry_str_partition (F.args_str_partition_2 _ _) (meets_str_partition a b t u (by rw [hb]; rfl) hz) ?_
              have hp := part_one a (b.cps.getD 0 0)
              rw [← sign_of hb] at hp
              obtain ⟨l1, l2, l3⟩ := partL_le (b.cps.getD 0 0) a.cps.toList
              have la : a.cps.toList.length = a.length := by simp [Str.length]
              have go : ∀ {x y z : Str} {t u v : Tok} {k : Nat}, (x, y, z) = (⟨(partL (b.cps.getD 0 0) a.cps.toList).1.toArray⟩, ⟨(partL (b.cps.getD 0 0) a.cps.toList).2.1.toArray⟩, (⟨(partL (b.cps.getD 0 0) a.cps.toList).2.2.toArray⟩ : Str)) →
                  EP X pins σ Q (.ref s.heap.objs.size) { s with toks := k, heap := s.heap.push { cls := .type "tuple", data := .seq [Value.str x t, .str y u, .str z v].toArray } } := fun {x y z t u v k} e => by
                injection e with e1 e2
                injection e2 with e2 e3
                subst e1 e2 e3
                refine lay_tup (xs := [.str ⟨(partL (b.cps.getD 0 0) a.cps.toList).1.toArray⟩, .str ⟨(partL (b.cps.getD 0 0) a.cps.toList).2.1.toArray⟩, .str ⟨(partL (b.cps.getD 0 0) a.cps.toList).2.2.toArray⟩]) (tk := k) I (by show 3 ≤ sizeLine; decide) (.cons ⟨t, rfl⟩ (.cons ⟨u, rfl⟩ (.cons ⟨v, rfl⟩ .nil))) fun o hc hd => ?_
                have la' : a.cps.toList.length ≤ 16777216 := by rw [la]; exact ha
                exact vp_tup rs (I.hok.fresh (Nat.le_refl _)) hc hd (.cons (.str (by show (List.toArray _).size ≤ _; rw [List.size_toArray]; omega)) (.cons (.str (by show (List.toArray _).size ≤ _; rw [List.size_toArray]; omega)) (.cons (.str (by show (List.toArray _).size ≤ _; rw [List.size_toArray]; omega)) .nil))) h
              unfold Txt.partition at hp
              revert hp
              cases Builtin.Str.occurrences a b 0 a.length 1 with
              | nil => intro hp; exact go hp
              | cons i r => intro hp; exact go hp
    · exact h.elim
  · exact h.elim
theorem m_countT (hu : X.A.units + 65 < cLine) : MtR X "tuple.count" (rdM X.K gCountT) := by
  intro pins s σ H v vs vv us Q I rv rvs ⟨m, x, xs, S, hx, hxs, rs, h⟩
  unfold gCountT at h
  split at h
  · rename_i ys d
    split at h
    · rename_i hc
      simp only [Bool.and_eq_true, decide_eq_true_eq] at hc
      obtain ⟨⟨c1, c2⟩, c3⟩ := hc
      cases hx with
      | tup ht r =>
        cases hxs with
        | cons h1 h2 =>
          cases h2
          cases rv
          obtain ⟨u, rfl, ru⟩ := rvs.one
          obtain ⟨its, r', p, hz⟩ := I.tuple ht.sq
          obtain ⟨as, q1⟩ := Dp.readsAll I _ _ _ (dps_of c2 r) r'
          obtain ⟨bs, q2⟩ := Dp.reads I _ _ _ (dp_of c1 h1) ru
          have hm : min (PyData.depthAll (toPys ys)) (toPy d).depth ≤ (toPy d).depth := Nat.min_le_right _ _
          rw [depth_toPy] at hm
          refine PySem.SeqAt.count_tuple_data (vs := its.toArray) p (by simpa using q1) q2 (plains_toPys ys) (plain_toPy d) (by rw [depth_toPy]; omega) ?_
          have e : ((toPys ys).countP fun y => PyData.eqv y (toPy d)) = ys.countP fun y => deq y d := by
            clear h r r' q1 hm rvs
            induction ys with
            | nil => rfl
            | cons y ys ih =>
              have c2' : (y.flat && flats ys) = true := c2
              rw [Bool.and_eq_true] at c2'
              show ((toPy y :: toPys ys).countP _) = _
              rw [List.countP_cons, List.countP_cons, ih c2'.2, eqv_toPy y d c2'.1 c1]
          rw [e]
          exact ⟨.int _, H, I.tok _, ⟨_, rfl⟩, h _ _ m .refl rs (.int _)⟩
    · exact h.elim
  · exact h.elim
end
end Dl

set_option Elab.async false
set_option linter.all false
set_option maxRecDepth 100000
namespace Dl
open PySem PySem.Spec PyProof.Rows L2

/-! ## tests -/
def truD (S : Store) : D → Option Bool
  | .non => some false
  | .bl b => some b
  | .int i => some (i != 0)
  | .str x => some ((x.length : Int) != 0)
  | .tup xs => some (!xs.isEmpty)
  | .ref l => match S[l]? with
    | some (.lst xs) => some (!xs.isEmpty)
    | some (.rol xs) => some (!xs.isEmpty)
    | some (.dic kvs) => some (!kvs.isEmpty)
    | _ => none
  | .raw _ => none
def toT (S : Store) : Option Bool → R Bool
  | some b => .ok b S
  | none => .no
/-- an expression's truth -/
def tV (f : EX) : TX := fun ρ S => (f ρ S).bind fun d S1 => toT S1 (truD S1 d)
/-- an expression that is a bool -/
def tE (f : EX) : TX := fun ρ S => (f ρ S).bind fun d S1 => match d with
  | .bl b => .ok b S1
  | _ => .no
def tA (f g : TX) : TX := fun ρ S => (f ρ S).bind fun b S1 => if b then g ρ S1 else .ok false S1
def tO (f g : TX) : TX := fun ρ S => (f ρ S).bind fun b S1 => if b then .ok true S1 else g ρ S1
def tN (f : TX) : TX := fun ρ S => (f ρ S).bind fun b S1 => .ok (!b) S1
def eIf (t : TX) (f g : EX) : EX := fun ρ S => (t ρ S).bind fun b S1 => if b then f ρ S1 else g ρ S1
def eAnd (f g : EX) : EX := fun ρ S => (f ρ S).bind fun d S1 => (toT S1 (truD S1 d)).bind fun b S2 => if b then g ρ S2 else .ok d S2
def eOr (f g : EX) : EX := fun ρ S => (f ρ S).bind fun d S1 => (toT S1 (truD S1 d)).bind fun b S2 => if b then .ok d S2 else g ρ S2
def eNot (f : EX) : EX := fun ρ S => (f ρ S).bind fun d S1 => (toT S1 (truD S1 d)).bind fun b S2 => .ok (.bl (!b)) S2
/-- a < b < c -/
def eCh (g g' : D → D → Store → Option (D × Store)) (fa fb fc : EX) : EX := fun ρ S => (fa ρ S).bind fun x S1 => (fb ρ S1).bind fun y S2 => (toR (g x y S2)).bind fun z S3 => match z with
  | .bl true => (fc ρ S3).bind fun w S4 => toR (g' y w S4)
  | .bl false => .ok (.bl false) S3
  | _ => .no
section
variable {X : Cx} {W : WX} {a b c e : Expr} {rest : List Expr} {fa fb fc f g : EX} {ta tb : TX} {pos : Pos}
theorem tru_of {K : PySem.W.Frag} {m : List Addr} {H : Hp} {S : Store} {v : V} {x : D} {k : Bool} (r : RD K m H v x) (rs : RS K m H S) (h : truD S x = some k) : TruV K v H k := by
  cases r with
  | non => cases h; exact rfl
  | bl b => cases h; exact rfl
  | int b => cases h; exact rfl
  | str hz => cases h; exact ⟨by rw [← lim_eq]; exact hz, rfl⟩
  | @tup a vs ds ht r =>
    cases h
    refine .inr (.inl ⟨vs, ht.sq, ?_⟩)
    cases r <;> rfl
  | @ref a l hl =>
    unfold truD at h
    simp only at h
    split at h
    · rename_i xs e1
      cases h
      obtain ⟨vs, h1, r⟩ := rs.at_ hl e1
      refine .inl ⟨vs, SqL.of h1, ?_⟩
      cases r <;> rfl
    · rename_i xs e1
      cases h
      obtain ⟨vs, h1, r⟩ := rs.at_ hl e1
      refine .inl ⟨vs, h1.sq, ?_⟩
      cases r <;> rfl
    · rename_i kvs e1
      cases h
      obtain ⟨ws, h1, h2, r⟩ := rs.at_ hl e1
      refine .inr (.inr ⟨ws, h1, ?_⟩)
      cases kvs <;> cases ws <;> simp at h2 <;> rfl
    · cases h
  | raw v => cases h
theorem d_tv (ha : PE X a (rdE (X.cq W) fa)) (he : ∀ whole, isTrue a X.env whole = (do let v ← whole; standAt a.pos; holding [v] (truthy v)) := by exact fun _ => rfl) : PT X a (rdT (X.cq W) (tV fa)) :=
  PTwk (pt_truth ha he) fun σ H Q ⟨m, ρ, S, re, rs, h⟩ => ⟨m, ρ, S, re, rs, (Post.bind h).imp fun v H1 ⟨m1, x, S1, e1, rs1, rd, h1⟩ => by
    cases e : truD S1 x with
    | none => rw [e] at h1; exact h1.elim
    | some k =>
      rw [e] at h1
      exact ⟨k, tru_of rd rs1 e, h1 _ _ m1 .refl rs1 rfl⟩⟩
theorem d_te {t : TE} (h : PT X e (tTest t)) (k : ∀ σ H Q, rdE (X.cq W) f σ H Q → t σ H Q) : PT X e (rdT (X.cq W) (tE f)) :=
  PTwk h fun σ H Q ⟨m, ρ, S, re, rs, h⟩ => k _ _ _ ⟨m, ρ, S, re, rs, (Post.bind h).imp fun v H1 ⟨m1, x, S1, e1, rs1, rd, h1⟩ => by
    cases rd with
    | bl b => exact ⟨b, rfl, h1 _ _ m1 .refl rs1 rfl⟩
    | _ => exact h1.elim⟩
theorem k2 {r : R2} {g : D → D → Store → Option (D × Store)} (k : ∀ v u H Q, rd2 X.K g v u H Q → r v u H Q) : ∀ σ H Q, rdE (X.cq W) (e2 g fa fb) σ H Q → tOp r (rdE (X.cq W) fa) (rdE (X.cq W) fb) σ H Q := fun σ H Q ⟨m, ρ, S, re, rs, h⟩ =>
  ⟨m, ρ, S, re, rs, (Post.bind h).imp fun v H1 ⟨m1, x, S1, e, rs1, rd, h1⟩ => ⟨m1, ρ, S1, re.mono e, rs1, (Post.bind h1).imp fun u H2 ⟨m2, y, S2, e2, rs2, rd2, h2⟩ =>
    k _ _ _ _ ⟨m2, x, y, S2, rd.mono e2, rd2, rs2, VPost.of h2⟩⟩⟩
/-- a == b and its like: as a value, as a test -/
theorem d_cmp {op : CmpOp} {g : D → D → Store → Option (D × Store)} (ho : OpR X (compareOp op) (rd2 X.K g)) (ha : PE X a (rdE (X.cq W) fa)) (hb : PE X b (rdE (X.cq W) fb)) (hm : behindInMarks op b = false := by first | exact nomark _ | rfl) :
    PE X (.Compare a [op] [b] pos) (rdE (X.cq W) (e2 g fa fb)) := PEwk (pe_cmpR ho ha hb hm) (k2 fun _ _ _ _ h => h)
theorem d_tcmp {op : CmpOp} {g : D → D → Store → Option (D × Store)} (ho : OpR X (compareOp op) (rd2 X.K g)) (ha : PE X a (rdE (X.cq W) fa)) (hb : PE X b (rdE (X.cq W) fb)) (hm : behindInMarks op b = false := by first | exact nomark _ | rfl) :
    PT X (.Compare a [op] [b] pos) (rdT (X.cq W) (tE (e2 g fa fb))) := d_te (pt_cmpR ho ha hb hm) (k2 fun _ _ _ _ h => h)
theorem kCh {r r' : R2} {g g' : D → D → Store → Option (D × Store)} (k : ∀ v u H Q, rd2 X.K g v u H Q → r v u H Q) (k' : ∀ v u H Q, rd2 X.K g' v u H Q → r' v u H Q) :
    ∀ σ H Q, rdE (X.cq W) (eCh g g' fa fb fc) σ H Q → tChain r r' (rdE (X.cq W) fa) (rdE (X.cq W) fb) (rdE (X.cq W) fc) σ H Q := fun σ H Q ⟨m, ρ, S, re, rs, h⟩ =>
  ⟨m, ρ, S, re, rs, (Post.bind h).imp fun v H1 ⟨m1, x, S1, e, rs1, rd, h1⟩ => ⟨m1, ρ, S1, re.mono e, rs1, (Post.bind h1).imp fun u H2 ⟨m2, y, S2, e2, rs2, rd2, h2⟩ => by
    refine k _ _ _ _ ⟨m2, x, y, S2, rd.mono e2, rd2, rs2, ?_⟩
    cases eg : g x y S2 with
    | none => rw [eg] at h2; exact h2.elim
    | some p =>
      obtain ⟨z, S3⟩ := p
      rw [eg] at h2
      intro vz H3 m3 e3 rs3 rdz
      have h2 : Post _ _ m2 H2 σ Q (match z with
        | .bl true => (fc ρ S3).bind fun w S4 => toR (g' y w S4)
        | .bl false => .ok (.bl false) S3
        | _ => .no) := h2
      cases rdz with
      | bl k =>
        refine ⟨k, rfl, ?_⟩
        cases k with
        | true =>
          rw [if_pos rfl]
          have h3 := Post.mono e3 h2
          exact ⟨m3, ρ, S3, ((re.mono e).mono e2).mono e3, rs3, (Post.bind h3).imp fun w H4 ⟨m4, dw, S4, e4, rs4, rdw, h4⟩ => k' _ _ _ _ ⟨m4, y, dw, S4, (rd2.mono e3).mono e4, rdw, rs4, VPost.of h4⟩⟩
        | false =>
          rw [if_neg Bool.false_ne_true]
          exact h2 _ _ m3 e3 rs3 (.bl false)
      | _ => exact h2.elim⟩⟩
theorem d_ch {op op' : CmpOp} {g g' : D → D → Store → Option (D × Store)} (ho : OpR X (compareOp op) (rd2 X.K g)) (ho' : OpR X (compareOp op') (rd2 X.K g')) (ha : PE X a (rdE (X.cq W) fa)) (hb : PE X b (rdE (X.cq W) fb)) (hc : PE X c (rdE (X.cq W) fc))
    (hm : lastMarks [op, op'] [b, c] = false := by with_unfolding_all rfl) : PE X (.Compare a [op, op'] [b, c] pos) (rdE (X.cq W) (eCh g g' fa fb fc)) := PEwk (pe_chain ho ho' ha hb hc hm) (kCh (fun _ _ _ _ h => h) fun _ _ _ _ h => h)
theorem d_tch {op op' : CmpOp} {g g' : D → D → Store → Option (D × Store)} (ho : OpR X (compareOp op) (rd2 X.K g)) (ho' : OpR X (compareOp op') (rd2 X.K g')) (ha : PE X a (rdE (X.cq W) fa)) (hb : PE X b (rdE (X.cq W) fb)) (hc : PE X c (rdE (X.cq W) fc))
    (hm : lastMarks [op, op'] [b, c] = false := by with_unfolding_all rfl) : PT X (.Compare a [op, op'] [b, c] pos) (rdT (X.cq W) (tE (eCh g g' fa fb fc))) := d_te (pt_chain ho ho' ha hb hc hm) (kCh (fun _ _ _ _ h => h) fun _ _ _ _ h => h)
theorem d_and1 (ha : PT X a (rdT (X.cq W) ta)) : PW X (.BoolOp .And [a] pos) (rdT (X.cq W) ta) := pw_and1 ha
theorem d_or1 (ha : PT X a (rdT (X.cq W) ta)) : PW X (.BoolOp .Or [a] pos) (rdT (X.cq W) ta) := pw_or1 ha
theorem d_and (ha : PT X a (rdT (X.cq W) ta)) (hb : PW X (.BoolOp .And (b :: rest) pos) (rdT (X.cq W) tb)) : PW X (.BoolOp .And (a :: b :: rest) pos) (rdT (X.cq W) (tA ta tb)) :=
  PWwk (pw_and ha hb) fun σ H Q ⟨m, ρ, S, re, rs, h⟩ => ⟨m, ρ, S, re, rs, (Post.bind (rel := relB) h).imp fun k H1 ⟨m1, k', S1, e1, rs1, ek, h1⟩ => by
    subst ek
    cases k with
    | true => rw [if_pos rfl]; exact ⟨m1, ρ, S1, re.mono e1, rs1, h1⟩
    | false => rw [if_neg Bool.false_ne_true]; exact h1 _ _ m1 .refl rs1 rfl⟩
theorem d_or (ha : PT X a (rdT (X.cq W) ta)) (hb : PW X (.BoolOp .Or (b :: rest) pos) (rdT (X.cq W) tb)) : PW X (.BoolOp .Or (a :: b :: rest) pos) (rdT (X.cq W) (tO ta tb)) :=
  PWwk (pw_or ha hb) fun σ H Q ⟨m, ρ, S, re, rs, h⟩ => ⟨m, ρ, S, re, rs, (Post.bind (rel := relB) h).imp fun k H1 ⟨m1, k', S1, e1, rs1, ek, h1⟩ => by
    subst ek
    cases k with
    | true => rw [if_pos rfl]; exact h1 _ _ m1 .refl rs1 rfl
    | false => rw [if_neg Bool.false_ne_true]; exact ⟨m1, ρ, S1, re.mono e1, rs1, h1⟩⟩
theorem d_not (ha : PT X a (rdT (X.cq W) ta)) : PT X (.UnaryOp .Not a pos) (rdT (X.cq W) (tN ta)) :=
  PTwk (pt_not ha) fun σ H Q ⟨m, ρ, S, re, rs, h⟩ => ⟨m, ρ, S, re, rs, (Post.bind (rel := relB) h).imp fun k H1 ⟨m1, k', S1, e1, rs1, ek, h1⟩ => by
    subst ek
    exact h1 _ _ m1 .refl rs1 rfl⟩
theorem d_if {t : Expr} (ht : PT X t (rdT (X.cq W) ta)) (ha : PE X a (rdE (X.cq W) fa)) (hb : PE X b (rdE (X.cq W) fb)) : PE X (.IfExp t a b pos) (rdE (X.cq W) (eIf ta fa fb)) :=
  PEwk (pe_ifExp ht ha hb) fun σ H Q ⟨m, ρ, S, re, rs, h⟩ => ⟨m, ρ, S, re, rs, (Post.bind (rel := relB) h).imp fun k H1 ⟨m1, k', S1, e1, rs1, ek, h1⟩ => by
    subst ek
    cases k with
    | true => rw [if_pos rfl]; exact ⟨m1, ρ, S1, re.mono e1, rs1, h1⟩
    | false => rw [if_neg Bool.false_ne_true]; exact ⟨m1, ρ, S1, re.mono e1, rs1, h1⟩⟩
end
/-! .. as values, by truth -/
section
variable {X : Cx} {W : WX} {a b : Expr} {rest : List Expr} {fa fb : EX} {pos : Pos} {op : BoolOp}
theorem d_one (ha : PE X a (rdE (X.cq W) fa)) : PE X (.BoolOp op [a] pos) (rdE (X.cq W) fa) := pe_one ha
theorem d_vand (ha : PE X a (rdE (X.cq W) fa)) (hb : PE X (.BoolOp .And (b :: rest) pos) (rdE (X.cq W) fb)) : PE X (.BoolOp .And (a :: b :: rest) pos) (rdE (X.cq W) (eAnd fa fb)) := by
  refine ⟨fun pins s σ H Q I ⟨m, ρ, S, re, rs, h⟩ => ?_⟩
  refine BoolOp_and (thn (ha.run pins s σ H _ I ⟨m, ρ, S, re, rs, Post.bind h⟩) fun v s1 ⟨x, H1, I1, r1, m1, d, S1, e1, rs1, rd1, h1⟩ => ?_)
  cases e : truD S1 d with
  | none => rw [e] at h1; exact h1.elim
  | some k =>
    rw [e] at h1
    have h1 : Post (X.cq W) (relD (X.cq W)) m1 H1 σ Q (if k then fb ρ S1 else .ok d S1) := h1
    refine thn (tru_ok pins s1 σ H1 x v (fun c H2 => c = k ∧ H2 = H1) I1 r1 ⟨k, tru_of rd1 rs1 e, rfl, rfl⟩) fun c s2 hc => ?_
    obtain ⟨H2, I2, e1', e2⟩ := hc
    rw [e2] at I2
    subst e1'
    cases c with
    | true =>
      rw [if_pos rfl] at h1
      exact hb.run pins s2 σ H1 Q I2 ⟨m1, ρ, S1, re.mono e1, rs1, h1⟩
    | false =>
      rw [if_neg Bool.false_ne_true] at h1
      exact ⟨x, H1, I2, r1, h1 _ _ m1 .refl rs1 rd1⟩
theorem d_vor (ha : PE X a (rdE (X.cq W) fa)) (hb : PE X (.BoolOp .Or (b :: rest) pos) (rdE (X.cq W) fb)) : PE X (.BoolOp .Or (a :: b :: rest) pos) (rdE (X.cq W) (eOr fa fb)) := by
  refine ⟨fun pins s σ H Q I ⟨m, ρ, S, re, rs, h⟩ => ?_⟩
  refine BoolOp_or (thn (ha.run pins s σ H _ I ⟨m, ρ, S, re, rs, Post.bind h⟩) fun v s1 ⟨x, H1, I1, r1, m1, d, S1, e1, rs1, rd1, h1⟩ => ?_)
  cases e : truD S1 d with
  | none => rw [e] at h1; exact h1.elim
  | some k =>
    rw [e] at h1
    have h1 : Post (X.cq W) (relD (X.cq W)) m1 H1 σ Q (if k then .ok d S1 else fb ρ S1) := h1
    refine thn (tru_ok pins s1 σ H1 x v (fun c H2 => c = k ∧ H2 = H1) I1 r1 ⟨k, tru_of rd1 rs1 e, rfl, rfl⟩) fun c s2 hc => ?_
    obtain ⟨H2, I2, e1', e2⟩ := hc
    rw [e2] at I2
    subst e1'
    cases c with
    | false =>
      rw [if_neg Bool.false_ne_true] at h1
      exact hb.run pins s2 σ H1 Q I2 ⟨m1, ρ, S1, re.mono e1, rs1, h1⟩
    | true =>
      rw [if_pos rfl] at h1
      exact ⟨x, H1, I2, r1, h1 _ _ m1 .refl rs1 rd1⟩
theorem d_vnot (ha : PE X a (rdE (X.cq W) fa)) : PE X (.UnaryOp .Not a pos) (rdE (X.cq W) (eNot fa)) := by
  refine ⟨fun pins s σ H Q I ⟨m, ρ, S, re, rs, h⟩ => ?_⟩
  refine UnaryOp_ (thn (ha.run pins s σ H _ I ⟨m, ρ, S, re, rs, Post.bind h⟩) fun v s1 ⟨x, H1, I1, r1, m1, d, S1, e1, rs1, rd1, h1⟩ => ?_)
  cases e : truD S1 d with
  | none => rw [e] at h1; exact h1.elim
  | some k =>
    rw [e] at h1
    exact not_of (thn (tru_ok pins s1 σ H1 x v (fun c H2 => c = k ∧ H2 = H1) I1 r1 ⟨k, tru_of rd1 rs1 e, rfl, rfl⟩) fun c s2 ⟨H2, I2, e1', e2⟩ => by
      subst e1' e2
      exact ⟨.bl (!c), H2, I2, rfl, h1 _ _ m1 .refl rs1 (.bl _)⟩)
end
/-! a call of a def -/
section
variable {X : Cx} {W : WX} {e : Expr} {es : List Expr} {fx : AX} {pos p : Pos} {CX : CXT} {k : Nat} {f : Addr} {fd : FuncData} {ps : List Str} {x : Str} {F : List D → M D}
theorem d_call (G : FnOk X.prog X.w X.K X.mg X.base CX k f fd ps (rdF ⟨X.K, X.mg, W0⟩ F)) (hr : Room k X.A) (hg : Gl X x) (hm : X.mg x = some (.ref f)) (hk : PySem.W.keepIn X.K (.ref f) = true) (hb : Binds X.K fd ps []) (hx : ∀ σ, PassesAt CX X σ (WE W σ))
    (ha : PA X (e :: es) (rdA (X.cq W) fx)) (hdb : (x == ("__debug__" : Str)) = false := by decide) (he : starEach (e :: es) X.env = (false, eval e X.env) :: starEach es X.env := by rfl) (hpl : (backTo pos (starEach es X.env)).any (·.1) = false := by rfl) :
    PE X (.Call (.Name x p) (e :: es) [] pos) (rdE (X.cq W) (eF F fx)) := PEwk (pe_callS G hr hg hm hk hb hx ha hdb he hpl) fun σ H Q ⟨m, ρ, S, re, rs, h⟩ =>
  ⟨m, ρ, S, re, rs, (Post.bind h).imp fun vs H1 ⟨m1, xs, S1, e1, rs1, rds, h1⟩ => ⟨m1, xs, S1, rds, rs1, by
    cases er : F xs S1 with
    | ok d S2 => rw [er] at h1; exact h1
    | ex ex S2 => rw [er] at h1; exact h1
    | no => rw [er] at h1; exact h1⟩⟩
end
end Dl

set_option Elab.async false
set_option linter.all false
set_option maxRecDepth 100000
namespace Dl
open PySem PySem.Spec PyProof.Rows L2

/-! ## statements -/
def sP : SX := fun ρ S => .nx ρ S
def Out.seq (o : Out) (h : SX) : Out := match o with
  | .nx ρ' S' => h ρ' S'
  | o => o
def sQ (g h : SX) : SX := fun ρ S => (g ρ S).seq h
def sBk : SX := fun ρ S => .bk ρ S
def sCt : SX := fun ρ S => .ct ρ S
def sNo : SX := fun _ _ => .no
def sE (f : EX) : SX := fun ρ S => (f ρ S).out ρ fun _ S1 => .nx ρ S1
def sR (f : EX) : SX := fun ρ S => (f ρ S).out ρ fun d S1 => .rt d S1
def sIf (t : TX) (g h : SX) : SX := fun ρ S => (t ρ S).out ρ fun b S1 => if b then g ρ S1 else h ρ S1
/-- name = .. -/
def nm (i : Nat) : D → SX := fun d ρ S => .nx (ρ.set i (some d)) S
def tgO : Out → Out
  | .nx ρ S => .nx ρ S
  | .ex x ρ S => .ex x ρ S
  | _ => .no
def sA (f : EX) (tg : D → SX) : SX := fun ρ S => (f ρ S).out ρ fun d S1 => tgO (tg d ρ S1)
def sN (j : Nat) (f : EX) : SX := fun ρ S => (f ρ S).out ρ fun d S1 => .nx (ρ.set j (some d)) S1
/-- o[i] = .. -/
def tgIx (fo fi : EX) : D → SX := fun d ρ S => (fo ρ S).out ρ fun o S1 => (fi ρ S1).out ρ fun i S2 => match gSet o i d S2 with
  | some S3 => .nx ρ S3
  | none => .no
/-- several targets -/
def tgL : List (D → SX) → List D → SX
  | [], [] => sP
  | t :: ts, d :: ds => fun ρ S => match t d ρ S with
    | .nx ρ' S' => tgL ts ds ρ' S'
    | .ex x ρ' S' => .ex x ρ' S'
    | _ => .no
  | _, _ => sNo
def tgT (ts : List (D → SX)) : D → SX := fun d => match d with
  | .tup ds => if ds.length = ts.length then tgL ts ds else sNo
  | _ => sNo
section
variable {X : Cx} {W : WX} {st : Stmt} {rest : List Stmt} {g h : SX} {e o i : Expr} {f fo fi : EX} {t : Expr} {ft : TX} {pos : Pos} {a b : List Stmt}
theorem t_nil : PSs X [] (rdS (X.cq W) sP) := PSswk pss_nil fun Dn σ H ⟨m, ρ, S, re, rs, h⟩ => h σ H m .refl re rs
theorem seq_post {c : Cq} {m : List Addr} {H : Hp} {Dn : Ends} {o : Out} {h : SX} (q : PostS c m H Dn (o.seq h)) : PostS c m H { Dn with nx := rdS c h Dn } o := by
  cases o with
  | nx ρ' S' => exact fun σ' H' m' e re rs => ⟨m', ρ', S', re, rs, PostS.mono e q⟩
  | _ => exact q
theorem t_cons (h1 : PS X st (rdS (X.cq W) g)) (h2 : PSs X rest (rdS (X.cq W) h)) : PSs X (st :: rest) (rdS (X.cq W) (sQ g h)) := PSswk (pss_cons h1 h2) fun Dn σ H ⟨m, ρ, S, re, rs, q⟩ =>
  ⟨m, ρ, S, re, rs, seq_post q⟩
theorem t_one (h1 : PS X st (rdS (X.cq W) g)) : PSs X [st] (rdS (X.cq W) g) := pss_one h1
theorem t_pass : PS X (.Pass pos) (rdS (X.cq W) sP) := PSwk ps_pass fun Dn σ H ⟨m, ρ, S, re, rs, h⟩ => h σ H m .refl re rs
theorem t_break : PS X (.Break pos) (rdS (X.cq W) sBk) := PSwk ps_break fun Dn σ H ⟨m, ρ, S, re, rs, h⟩ => h σ H m .refl re rs
theorem t_continue : PS X (.Continue pos) (rdS (X.cq W) sCt) := PSwk ps_continue fun Dn σ H ⟨m, ρ, S, re, rs, h⟩ => h σ H m .refl re rs
theorem t_never : PS X st (rdS (X.cq W) sNo) := PSwk ps_never fun Dn σ H ⟨m, ρ, S, re, rs, h⟩ => h
theorem t_doc {x j pos pos'} : PS X (.Expr (.Constant (.str x) j pos) pos') (rdS (X.cq W) sP) := PSwk ps_doc fun Dn σ H ⟨m, ρ, S, re, rs, h⟩ => h σ H m .refl re rs
theorem t_expr (he : PE X e (rdE (X.cq W) f)) (hs : swapsWith e none pos.line X.env = pure false := by rfl) : PS X (.Expr e pos) (rdS (X.cq W) (sE f)) := PSwk (ps_expr he hs) fun Dn σ H ⟨m, ρ, S, re, rs, q⟩ =>
  ⟨m, ρ, S, re, rs, (Post.out re q).imp fun v H1 ⟨m1, d, S1, e1, rs1, rd, re1, q1⟩ => q1 σ H1 m1 .refl re1 rs1⟩
theorem t_ret (he : PE X e (rdE (X.cq W) f)) : PS X (.Return (some e) pos) (rdS (X.cq W) (sR f)) := PSwk (ps_ret he) fun Dn σ H ⟨m, ρ, S, re, rs, q⟩ =>
  ⟨m, ρ, S, re, rs, (Post.out re q).imp fun v H1 ⟨m1, d, S1, e1, rs1, rd, re1, q1⟩ => q1 v H1 m1 .refl rs1 rd⟩
theorem t_retN : PS X (.Return none pos) (rdS (X.cq W) (sR (eC .non))) := PSwk ps_retN fun Dn σ H ⟨m, ρ, S, re, rs, q⟩ => q .non H m .refl rs .non
theorem t_if (ht : PT X t (rdT (X.cq W) ft)) (ha : PSs X a (rdS (X.cq W) g)) (hb : PSs X b (rdS (X.cq W) h)) : PS X (.If t a b pos) (rdS (X.cq W) (sIf ft g h)) := PSwk (ps_if ht ha hb) fun Dn σ H ⟨m, ρ, S, re, rs, q⟩ =>
  ⟨m, ρ, S, re, rs, (Post.out (rel := relB) re q).imp fun k H1 ⟨m1, k', S1, e1, rs1, ek, re1, q1⟩ => by
    subst ek
    cases k with
    | true => rw [if_pos rfl]; exact ⟨m1, ρ, S1, re1, rs1, q1⟩
    | false => rw [if_neg Bool.false_ne_true]; exact ⟨m1, ρ, S1, re1, rs1, q1⟩⟩
/-! ### targets -/
theorem g_nm {j : Nat} {x : Str} (hN : X.N.Nodup) (hi : X.N[j]? = some x := by rfl) (hx : Loc X.env.scope x := by first | exact .inl rfl | exact .inr rfl) (hf : X.fn x = true ∨ X.env.scope.names.lookup x = some .local := by first | exact .inl rfl | exact .inr rfl) :
    PG X (.Name x pos) (rdG (X.cq W) (nm j)) := PGwk (pg_name hN hi hx hf) fun v σ H Q ⟨m, ρ, S, d, re, rs, rd, q⟩ => q _ H m .refl (re.set rd j) rs
def rdGs (c : Cq) (tg : List D → SX) : TGs := fun vs σ H Q => ∃ m ρ S ds, RE c.K m H σ ρ ∧ RS c.K m H S ∧ RDs c.K m H vs ds ∧ PostS c m H { nx := Q, rt := fun _ _ => False } (tg ds ρ S)
theorem g_nil : PGs X [] (rdGs (X.cq W) (tgL [])) := ⟨fun pins s σ H vs us Q I r ⟨m, ρ, S, ds, re, rs, rd, q⟩ => pgs_nil.run pins s σ H vs us Q I r (by
  cases rd with
  | nil => exact ⟨rfl, q σ H m .refl re rs⟩
  | cons _ _ => exact q.elim)⟩
theorem g_cons {es : List Expr} {tg : D → SX} {ts : List (D → SX)} (h1 : PG X e (rdG (X.cq W) tg)) (h2 : PGs X es (rdGs (X.cq W) (tgL ts)))
    (hs : (assignEach (e :: es) X.env).map (·.2) = assign e X.env :: (assignEach es X.env).map (·.2) := by rfl) : PGs X (e :: es) (rdGs (X.cq W) (tgL (tg :: ts))) := ⟨fun pins s σ H vs us Q I r ⟨m, ρ, S, ds, re, rs, rd, q⟩ =>
  (pgs_cons h1 h2 hs).run pins s σ H vs us Q I r (by
    cases rd with
    | nil => exact q.elim
    | @cons v d vs ds hd hds =>
      refine ⟨v, vs, rfl, m, ρ, S, d, re, rs, hd, ?_⟩
      have q : PostS (X.cq W) m H { nx := Q, rt := fun _ _ => False } (match tg d ρ S with
        | .nx ρ' S' => tgL ts ds ρ' S'
        | .ex x ρ' S' => .ex x ρ' S'
        | _ => .no) := q
      cases eo : tg d ρ S with
      | nx ρ' S' =>
        rw [eo] at q
        exact fun σ' H' m' e' re' rs' => ⟨m', ρ', S', ds, re', rs', hds.mono e', PostS.mono e' q⟩
      | ex x ρ' S' => rw [eo] at q; exact q
      | _ => rw [eo] at q; exact q.elim)⟩
theorem g_tup {es : List Expr} {k : Nat} {ts : List (D → SX)} (hc : X.calm = true) (h : PGs X es (rdGs (X.cq W) (tgL ts))) (hl : ts.length = es.length := by rfl)
    (hn : (assignEach es X.env).length = es.length := by rfl) (hst : (assignEach es X.env).findIdx? (·.1) = none := by rfl) : PG X (.Tuple es k pos) (rdG (X.cq W) (tgT ts)) := PGwk (pg_tup hc h hn hst) fun v σ H Q ⟨m, ρ, S, d, re, rs, rd, q⟩ => by
  cases rd with
  | @tup a vs ds ht r =>
    have q : PostS (X.cq W) m H { nx := Q, rt := fun _ _ => False } ((if ds.length = ts.length then tgL ts ds else sNo) ρ S) := q
    by_cases hz : ds.length = ts.length
    · rw [if_pos hz] at q
      exact ⟨a, vs, rfl, ht.sq, by rw [r.length, hz, hl], m, ρ, S, ds, re, rs, r, q⟩
    · rw [if_neg hz] at q
      exact q.elim
  | _ => exact q.elim
theorem g_ix (ho : PE X o (rdE (X.cq W) fo)) (hi : PE X i (rdE (X.cq W) fi))
    (ha : ∀ v, assign (.Subscript o i pos) X.env v = (do
      let ov ← holding [v] (eval o X.env)
      let iv ← holding [v, ov] (eval i X.env)
      standAt pos
      holding [v, ov, iv] (setItem ov iv v)
      release [v, ov, iv] []) := by intro _; rfl) : PG X (.Subscript o i pos) (rdG (X.cq W) (tgIx fo fi)) := PGwk (pg_sub ho hi p_set ha) fun v σ H Q ⟨m, ρ, S, d, re, rs, rd, q⟩ =>
  ⟨m, ρ, S, re, rs, (Post.out re q).imp fun vo H1 ⟨m1, x, S1, e1, rs1, rx, re1, q1⟩ => ⟨m1, ρ, S1, re1, rs1, (Post.out re1 q1).imp fun vi H2 ⟨m2, y, S2, e2, rs2, ry, re2, q2⟩ => by
    refine ⟨m2, x, y, d, S2, rx.mono e2, ry, (rd.mono e1).mono e2, rs2, ?_⟩
    cases eg : gSet x y d S2 with
    | none => rw [eg] at q2; exact q2.elim
    | some S3 =>
      rw [eg] at q2
      exact fun H3 m3 e3 rs3 => q2 σ H3 m3 e3 (re2.mono e3) rs3⟩⟩
/-- target = value -/
theorem t_asg {tg : Expr} {G : D → SX} (he : PE X e (rdE (X.cq W) f)) (hg : PG X tg (rdG (X.cq W) G)) (hs : swapsWithSole [tg] e pos.line X.env = pure false := by rfl) (hw : swappedStores [tg] e X.env = pure none := by rfl)
    (h1 : (assignEach [tg] X.env).map (·.2) = [assign tg X.env] := by rfl) : PS X (.Assign [tg] e pos) (rdS (X.cq W) (sA f G)) := PSwk (ps_asg he hg hs hw h1) fun Dn σ H ⟨m, ρ, S, re, rs, q⟩ =>
  ⟨m, ρ, S, re, rs, (Post.out re q).imp fun v H1 ⟨m1, d, S1, e1, rs1, rd, re1, q1⟩ => ⟨m1, ρ, S1, d, re1, rs1, rd, by
    cases eo : G d ρ S1 with
    | nx ρ' S' => rw [eo] at q1; exact q1
    | ex x ρ' S' => rw [eo] at q1; exact q1
    | _ => rw [eo] at q1; exact q1.elim⟩⟩
theorem t_set {j : Nat} {x : Str} {pos' : Pos} (hN : X.N.Nodup) (he : PE X e (rdE (X.cq W) f)) (hi : X.N[j]? = some x := by rfl) (hx : Loc X.env.scope x := by first | exact .inl rfl | exact .inr rfl) (hs : swapsWith e (some (.Name x pos')) pos.line X.env = pure false := by rfl)
    (hf : X.fn x = true ∨ X.env.scope.names.lookup x = some .local := by first | exact .inl rfl | exact .inr rfl) : PS X (.Assign [.Name x pos'] e pos) (rdS (X.cq W) (sN j f)) := PSwk (ps_set hN hi hx he hs hf) fun Dn σ H ⟨m, ρ, S, re, rs, q⟩ =>
  ⟨m, ρ, S, re, rs, (Post.out re q).imp fun v H1 ⟨m1, d, S1, e1, rs1, rd, re1, q1⟩ => q1 _ H1 m1 .refl (re1.set rd j) rs1⟩
end
end Dl

set_option Elab.async false
set_option linter.all false
set_option maxRecDepth 100000
namespace Dl
open PySem PySem.Spec PyProof.Rows L2

/-! ## what is walked -/
/-- lists that must stand as they are while they are walked -/
abbrev Chk := List (Nat × List D)
def chkOk (k : Chk) (S : Store) : Prop := ∀ p ∈ k, lstAt S p.1 = some p.2
/-- the items, and what must stand -/
abbrev IX := Env → Store → R (List D × Chk)
def ItOk (K : PySem.W.Frag) (m0 : List Addr) (H0 : Hp) (J : It) (xs : List D) (k : Chk) : Prop :=
  ∀ (i : Nat) (m : List Addr) (H : Hp) (S : Store), Ext K m0 H0 m H → RS K m H S → chkOk k S →
    (∀ d, xs[i]? = some d → J.go i H ∧ ∀ x H', J.yld i H x H' → ∃ m', Ext K m H m' H' ∧ RS K m' H' S ∧ RD K m' H' x d) ∧ (xs.length ≤ i → J.stop i H)
def PostI (c : Cq) (m : List Addr) (H : Hp) (σ : L2.St) (R' : It → Hp → Prop) : R (List D × Chk) → Prop
  | .ok p S' => ∀ J H' m', Ext c.K m H m' H' → RS c.K m' H' S' → ItOk c.K m' H' J p.1 p.2 → R' J H'
  | .ex x S' => ∀ cls dd H' m', Ext c.K m H m' H' → RS c.K m' H' S' → RX c m' H' x cls dd → c.W cls dd σ H'
  | .no => False
theorem PostI.mono {c : Cq} {m m1 : List Addr} {H H1 : Hp} {σ : L2.St} {R' : It → Hp → Prop} {r : R (List D × Chk)} (e : Ext c.K m H m1 H1) (h : PostI c m H σ R' r) : PostI c m1 H1 σ R' r := by
  cases r with
  | ok p S2 => exact fun J H2 m2 e2 => h J H2 m2 (e.trans e2)
  | ex x S2 => exact fun cls dd H2 m2 e2 => h cls dd H2 m2 (e.trans e2)
  | no => exact h
def rdI (c : Cq) (src : IX) : TI := fun σ H R' => ∃ m ρ S, RE c.K m H σ ρ ∧ RS c.K m H S ∧ PostI c m H σ R' (src ρ S)
def iL (f : EX) : IX := fun ρ S => (f ρ S).bind fun d S1 => match d with
  | .ref l => match lstAt S1 l with
    | some xs => .ok (xs, [(l, xs)]) S1
    | none => .no
  | _ => .no
def iT (f : EX) : IX := fun ρ S => (f ρ S).bind fun d S1 => match d with
  | .tup xs => .ok (xs, []) S1
  | _ => .no
def iS (f : EX) : IX := fun ρ S => (f ρ S).bind fun d S1 => match d with
  | .str x => .ok (x.cps.toList.map fun c => .str ⟨#[c]⟩, []) S1
  | _ => .no
def rng (lo : Int) (n : Nat) : List D := (List.range n).map fun i => .int (lo + (i : Nat))
def iR1 (f : EX) : IX := fun ρ S => (f ρ S).bind fun d S1 => match d with
  | .int j => if -(2 ^ 62) ≤ j ∧ j < 2 ^ 62 then .ok (rng 0 j.toNat, []) S1 else .no
  | _ => .no
def iR2 (f g : EX) : IX := fun ρ S => (f ρ S).bind fun d S1 => (g ρ S1).bind fun e S2 => match d, e with
  | .int i, .int j => if -(2 ^ 62) ≤ i ∧ i < 2 ^ 62 ∧ -(2 ^ 62) ≤ j ∧ j < 2 ^ 62 then .ok (rng i (j - i).toNat, []) S2 else .no
  | _, _ => .no
/-- reversed(..) of a list or a tuple -/
def iV (f : EX) : IX := fun ρ S => (f ρ S).bind fun d S1 => match d with
  | .ref l => match lstAt S1 l with
    | some xs => .ok (xs.reverse, [(l, xs)]) S1
    | none => .no
  | .tup xs => .ok (xs.reverse, []) S1
  | _ => .no
section
variable {X : Cx} {W : WX} {tg e a b : Expr} {f g : EX} {pos p : Pos}
theorem it_list {K : PySem.W.Frag} {m : List Addr} {H : Hp} {a : Addr} {l : Nat} {xs : List D} (h : m[l]? = some a) : ItOk K m H (Itl K a) xs [(l, xs)] := by
  intro i m' H' S e rs hk
  have q := hk (l, xs) (by simp)
  obtain ⟨vs, h1, r⟩ := rs.lst (e.at h) q
  refine ⟨fun d hd => ?_, fun hl => ⟨vs, h1, by rw [r.length]; exact hl⟩⟩
  obtain ⟨v, h2, rd⟩ := r.get hd
  refine ⟨⟨vs, v, h1, h2⟩, fun x H'' y => ?_⟩
  obtain ⟨eH, y⟩ := y
  subst eH
  have z := y vs h1
  rw [h2] at z
  cases z
  exact ⟨m', .refl, rs, rd⟩
theorem it_tup {K : PySem.W.Frag} {m : List Addr} {H : Hp} {a : Addr} {vs : List V} {xs : List D} (h : TupAt K H a vs) (r : RDs K m H vs xs) : ItOk K m H (Itt K a) xs [] := by
  intro i m' H' S e rs hk
  have h1 := (e.tup _ _ h).sq
  have r := r.mono e
  refine ⟨fun d hd => ?_, fun hl => ⟨vs, h1, by rw [r.length]; exact hl⟩⟩
  obtain ⟨v, h2, rd⟩ := r.get hd
  refine ⟨⟨vs, v, h1, h2⟩, fun x H'' y => ?_⟩
  obtain ⟨eH, y⟩ := y
  subst eH
  have z := y vs h1
  rw [h2] at z
  cases z
  exact ⟨m', .refl, rs, rd⟩
theorem it_rng {K : PySem.W.Frag} {m : List Addr} {H : Hp} {lo : Int} {n : Nat} : ItOk K m H (Itr lo n) (rng lo n) [] := by
  intro i m' H' S e rs hk
  unfold rng
  refine ⟨fun d hd => ?_, fun hl => by rw [List.length_map, List.length_range] at hl; exact hl⟩
  have hi : i < n := by have := (List.getElem?_eq_some_iff.mp hd).1; rwa [List.length_map, List.length_range] at this
  rw [List.getElem?_map, List.getElem?_range hi] at hd
  cases hd
  refine ⟨hi, fun x H'' y => ?_⟩
  obtain ⟨eH, y⟩ := y
  subst eH y
  exact ⟨m', .refl, rs, .int _⟩
theorem it_str {K : PySem.W.Frag} {m : List Addr} {H : Hp} {x : Str} : ItOk K m H (Its x) (x.cps.toList.map fun c => .str ⟨#[c]⟩) [] := by
  intro i m' H' S e rs hk
  refine ⟨fun d hd => ?_, fun hl => by rw [List.length_map, Array.length_toList] at hl; exact hl⟩
  rw [List.getElem?_map] at hd
  cases hc : x.cps.toList[i]? with
  | none => rw [hc] at hd; cases hd
  | some c =>
    rw [hc] at hd
    cases hd
    have hi : i < x.cps.size := by have := (List.getElem?_eq_some_iff.mp hc).1; rwa [Array.length_toList] at this
    refine ⟨hi, fun v H'' y => ?_⟩
    obtain ⟨eH, c', e1, y⟩ := y
    subst eH y
    rw [← Array.getElem?_toList, hc] at e1
    cases e1
    exact ⟨m', .refl, rs, .str (by show (1 : Nat) ≤ _; decide)⟩
theorem get_rev {α : Type} {xs : List α} {i : Nat} {d : α} (h : xs.reverse[i]? = some d) : i < xs.length ∧ xs[xs.length - 1 - i]? = some d := by
  have hi : i < xs.length := by have := (List.getElem?_eq_some_iff.mp h).1; rwa [List.length_reverse] at this
  rw [List.getElem?_reverse hi] at h
  exact ⟨hi, h⟩
theorem it_rev {K : PySem.W.Frag} {m : List Addr} {H : Hp} {a : Addr} {l : Nat} {xs : List D} (h : m[l]? = some a) : ItOk K m H (Itv K a xs.length) xs.reverse [(l, xs)] := by
  intro i m' H' S e rs hk
  have q := hk (l, xs) (by simp)
  obtain ⟨vs, h1, r⟩ := rs.lst (e.at h) q
  refine ⟨fun d hd => ?_, fun hl => by rw [List.length_reverse] at hl; exact hl⟩
  obtain ⟨hi, hd⟩ := get_rev hd
  obtain ⟨v, h2, rd⟩ := r.get hd
  refine ⟨⟨hi, vs, v, h1, h2⟩, fun x H'' y => ?_⟩
  obtain ⟨eH, y⟩ := y
  subst eH
  have z := y vs h1
  rw [h2] at z
  cases z
  exact ⟨m', .refl, rs, rd⟩
theorem it_revT {K : PySem.W.Frag} {m : List Addr} {H : Hp} {a : Addr} {vs : List V} {xs : List D} (h : TupAt K H a vs) (r : RDs K m H vs xs) : ItOk K m H (RT.ItvT K a xs.length) xs.reverse [] := by
  intro i m' H' S e rs hk
  have h1 := (e.tup _ _ h).sq
  have r := r.mono e
  refine ⟨fun d hd => ?_, fun hl => by rw [List.length_reverse] at hl; exact hl⟩
  obtain ⟨hi, hd⟩ := get_rev hd
  obtain ⟨v, h2, rd⟩ := r.get hd
  refine ⟨⟨hi, vs, v, h1, h2⟩, fun x H'' y => ?_⟩
  obtain ⟨eH, y⟩ := y
  subst eH
  have z := y vs h1
  rw [h2] at z
  cases z
  exact ⟨m', .refl, rs, rd⟩
/-- from an expression's outcome to what is walked -/
theorem src_bind {α : Type} {β : Type} {c : Cq} {rel : List Addr → Hp → β → α → Prop} {m : List Addr} {H : Hp} {σ : L2.St} {R' : It → Hp → Prop} {r : R α} {k : α → Store → R (List D × Chk)} (h : PostI c m H σ R' (r.bind k)) :
    Post c rel m H σ (fun b H1 => ∃ m1 a S1, Ext c.K m H m1 H1 ∧ RS c.K m1 H1 S1 ∧ rel m1 H1 b a ∧ PostI c m1 H1 σ R' (k a S1)) r := by
  cases r with
  | ok a S => exact fun b H' m' e rs rl => ⟨m', a, S, e, rs, rl, PostI.mono e h⟩
  | ex x S => exact h
  | no => exact h
theorem w_list (he : PE X e (rdE (X.cq W) f)) : PI X tg e (rdI (X.cq W) (iL f)) := PIwk (pi_list he) fun σ H R' ⟨m, ρ, S, re, rs, q⟩ =>
  ⟨m, ρ, S, re, rs, (src_bind (rel := relD (X.cq W)) q).imp fun v H1 ⟨m1, d, S1, e1, rs1, rd, q1⟩ => by
    cases rd with
    | @ref a l hl =>
      simp only at q1
      cases el : lstAt S1 l with
      | none => rw [el] at q1; exact q1.elim
      | some xs =>
        rw [el] at q1
        obtain ⟨vs, h1, r⟩ := rs1.lst hl el
        exact ⟨a, rfl, ⟨vs, h1⟩, q1 _ _ m1 .refl rs1 (it_list hl)⟩
    | _ => exact q1.elim⟩
theorem w_tup (he : PE X e (rdE (X.cq W) f)) : PI X tg e (rdI (X.cq W) (iT f)) := PIwk (pi_tup he) fun σ H R' ⟨m, ρ, S, re, rs, q⟩ =>
  ⟨m, ρ, S, re, rs, (src_bind (rel := relD (X.cq W)) q).imp fun v H1 ⟨m1, d, S1, e1, rs1, rd, q1⟩ => by
    cases rd with
    | @tup a vs ds ht r => exact ⟨a, rfl, ⟨vs, ht.sq⟩, q1 _ _ m1 .refl rs1 (it_tup ht r)⟩
    | _ => exact q1.elim⟩
theorem w_str (he : PE X e (rdE (X.cq W) f)) : PI X tg e (rdI (X.cq W) (iS f)) := PIwk (pi_str he) fun σ H R' ⟨m, ρ, S, re, rs, q⟩ =>
  ⟨m, ρ, S, re, rs, (src_bind (rel := relD (X.cq W)) q).imp fun v H1 ⟨m1, d, S1, e1, rs1, rd, q1⟩ => by
    cases rd with
    | str h => exact ⟨_, rfl, q1 _ _ m1 .refl rs1 it_str⟩
    | _ => exact q1.elim⟩
theorem w_rng1 (hg : Gl X "range") (hm : X.mg "range" = none) (ha : PE X a (rdE (X.cq W) f)) (hs : starEach [a] X.env = [(false, eval a X.env)] := by rfl) (hs2 : starEach [a] X.env = (false, eval a X.env) :: starEach [] X.env := by rfl) : PI X tg (.Call (.Name "range" p) [a] [] pos) (rdI (X.cq W) (iR1 f)) :=
  PIwk (pi_range1 hg hm (pa_cons ha pa_nil hs2) hs) fun σ H R' ⟨m, ρ, S, re, rs, q⟩ => ⟨m, ρ, S, re, rs, (src_bind (rel := relD (X.cq W)) q).imp fun v H1 ⟨m1, d, S1, e1, rs1, rd, q1⟩ => by
    cases rd with
    | int j =>
      simp only at q1
      split at q1
      · rename_i hz
        exact ⟨j, rfl, hz.1, hz.2, q1 _ _ m1 .refl rs1 it_rng⟩
      · exact q1.elim
    | _ => exact q1.elim⟩
theorem w_rng2 (hg : Gl X "range") (hm : X.mg "range" = none) (ha : PE X a (rdE (X.cq W) f)) (hb : PE X b (rdE (X.cq W) g)) (hs : starEach [a, b] X.env = [(false, eval a X.env), (false, eval b X.env)] := by rfl) (hs2 : starEach [b] X.env = [(false, eval b X.env)] := by rfl) (hs4 : starEach [b] X.env = (false, eval b X.env) :: starEach [] X.env := by rfl)
    (hs3 : starEach [a, b] X.env = (false, eval a X.env) :: starEach [b] X.env := by rfl) : PI X tg (.Call (.Name "range" p) [a, b] [] pos) (rdI (X.cq W) (iR2 f g)) :=
  PIwk (pi_range2 hg hm (pa_cons ha (pa_cons hb pa_nil hs4) hs3) hs hs2) fun σ H R' ⟨m, ρ, S, re, rs, q⟩ => ⟨m, ρ, S, re, rs, (src_bind (rel := relD (X.cq W)) q).imp fun v H1 ⟨m1, d, S1, e1, rs1, rd, q1⟩ =>
    ⟨m1, ρ, S1, re.mono e1, rs1, (src_bind (rel := relD (X.cq W)) q1).imp fun u H2 ⟨m2, d2, S2, e2, rs2, rd2, q2⟩ => by
      cases rd with
      | int i =>
        cases rd2 with
        | int j =>
          simp only at q2
          split at q2
          · rename_i hz
            exact ⟨i, j, rfl, hz, q2 _ _ m2 .refl rs2 it_rng⟩
          · exact q2.elim
        | _ => exact q2.elim
      | _ => cases rd2 <;> exact q2.elim⟩⟩
theorem w_rev (hg : Gl X "reversed") (hm : X.mg "reversed" = none) (ha : PE X a (rdE (X.cq W) f)) (hs : starEach [a] X.env = (false, eval a X.env) :: starEach [] X.env := by rfl) : PI X tg (.Call (.Name "reversed" p) [a] [] pos) (rdI (X.cq W) (iV f)) :=
  PIwk (RT.pi_revA hg hm ha hs) fun σ H R' ⟨m, ρ, S, re, rs, q⟩ => ⟨m, ρ, S, re, rs, (src_bind (rel := relD (X.cq W)) q).imp fun v H1 ⟨m1, d, S1, e1, rs1, rd, q1⟩ => by
    cases rd with
    | @ref a l hl =>
      simp only at q1
      cases el : lstAt S1 l with
      | none => rw [el] at q1; exact q1.elim
      | some xs =>
        rw [el] at q1
        obtain ⟨vs, h1, r⟩ := rs1.lst hl el
        exact ⟨a, vs, rfl, .inl ⟨h1, by rw [r.length]; exact q1 _ _ m1 .refl rs1 (it_rev hl)⟩⟩
    | @tup a vs ds ht r => exact ⟨a, vs, rfl, .inr ⟨ht.sq, by rw [r.length]; exact q1 _ _ m1 .refl rs1 (it_revT ht r)⟩⟩
    | _ => exact q1.elim⟩
end

/-! ## for, while -/
open Classical in
noncomputable def runF (tg : D → SX) (body : SX) (k : Chk) : List D → Env → Store → Out
  | [], ρ, S => if chkOk k S then .nx ρ S else .no
  | d :: ds, ρ, S => if chkOk k S then (match tgO (tg d ρ S) with
    | .nx ρ1 S1 => match body ρ1 S1 with
      | .nx ρ2 S2 => runF tg body k ds ρ2 S2
      | .ct ρ2 S2 => runF tg body k ds ρ2 S2
      | .bk ρ2 S2 => .nx ρ2 S2
      | o => o
    | o => o) else .no
noncomputable def sF (src : IX) (tg : D → SX) (body : SX) : SX := fun ρ S => (src ρ S).out ρ fun p S1 => runF tg body p.2 p.1 ρ S1
def runW (t : TX) (body : SX) : Nat → Env → Store → Out
  | 0, _, _ => .no
  | n + 1, ρ, S => (t ρ S).out ρ fun b S1 => if b then (match body ρ S1 with
      | .nx ρ2 S2 => runW t body n ρ2 S2
      | .ct ρ2 S2 => runW t body n ρ2 S2
      | .bk ρ2 S2 => .nx ρ2 S2
      | o => o) else .nx ρ S1
def sW (n : Nat) (t : TX) (body : SX) : SX := fun ρ S => runW t body n ρ S
section
variable {X : Cx} {W : WX} {tg iter t : Expr} {body : List Stmt} {src : IX} {G : D → SX} {g : SX} {ft : TX} {pos : Pos}
theorem t_for (hp : PassesOwn (model X.prog X.w) X.A X.env X.xe) (hc : X.calm = true) (hi : PI X tg iter (rdI (X.cq W) src)) (hg : PG X tg (rdG (X.cq W) G)) (hb : PSs X body (rdS (X.cq W) g))
    (hs : ∀ x, foldedSetIterable iter X.env x = pure x := by intro _; rfl) : PS X (.For tg iter body [] pos) (rdS (X.cq W) (sF src G g)) := PSwk (ps_for hp hc hi hg hb hs) fun Dn σ H ⟨m, ρ, S, re, rs, q⟩ => by
  refine ⟨m, ρ, S, re, rs, ?_⟩
  have q : PostS (X.cq W) m H Dn ((src ρ S).out ρ fun p S1 => runF G g p.2 p.1 ρ S1) := q
  cases es : src ρ S with
  | no => rw [es] at q; exact q.elim
  | ex x S' => rw [es] at q; exact fun cls dd H' m' e rs' rx => q cls dd σ H' m' e (re.mono e) rs' rx
  | ok p S' =>
    obtain ⟨xs, k⟩ := p
    rw [es] at q
    have q : PostS (X.cq W) m H Dn (runF G g k xs ρ S') := q
    intro J H1 m1 e1 rs1 it
    refine ⟨fun i n σ' H' => ∃ mm ρ' S', Ext X.K m1 H1 mm H' ∧ RE X.K mm H' σ' ρ' ∧ RS X.K mm H' S' ∧ n = xs.length - i ∧ i ≤ xs.length ∧ PostS (X.cq W) mm H' Dn (runF G g k (xs.drop i) ρ' S'),
      ⟨xs.length, m1, ρ, S', .refl, re.mono e1, rs1, by simp, Nat.zero_le _, by simpa using PostS.mono e1 q⟩, ?_⟩
    rintro i n σ' H' ⟨mm, ρ', S', e2, re2, rs2, rfl, hi, q2⟩
    by_cases hlt : i < xs.length
    · rw [List.drop_eq_getElem_cons hlt] at q2
      unfold runF at q2
      split at q2
      · rename_i hk
        obtain ⟨go, yl⟩ := (it i mm H' S' e2 rs2 hk).1 xs[i] (List.getElem?_eq_getElem hlt)
        refine .inr ⟨go, fun σ3 H3 => ∃ mm ρ' S', Ext X.K m1 H1 mm H3 ∧ RE X.K mm H3 σ3 ρ' ∧ RS X.K mm H3 S' ∧ PostS (X.cq W) mm H3 Dn (runF G g k (xs.drop (i + 1)) ρ' S'), fun σ3 H3 ⟨mm3, ρ3, S3, e3, re3, rs3, q3⟩ => ⟨xs.length - (i + 1), by omega, mm3, ρ3, S3, e3, re3, rs3, rfl, hlt, q3⟩, fun x H4 y => ?_⟩
        obtain ⟨m4, e4, rs4, rd4⟩ := yl x H4 y
        have q2 := PostS.mono e4 q2
        refine ⟨m4, ρ', S', xs[i], re2.mono e4, rs4, rd4, ?_⟩
        cases eo : G xs[i] ρ' S' with
        | nx ρ5 S5 =>
          rw [eo] at q2
          intro σ5 H5 m5 e5 re5 rs5
          have q2 : PostS (X.cq W) m5 H5 Dn (match g ρ5 S5 with
            | .nx ρ2 S2 => runF G g k (xs.drop (i + 1)) ρ2 S2
            | .ct ρ2 S2 => runF G g k (xs.drop (i + 1)) ρ2 S2
            | .bk ρ2 S2 => .nx ρ2 S2
            | o => o) := PostS.mono e5 q2
          refine ⟨m5, ρ5, S5, re5, rs5, ?_⟩
          have e15 : Ext X.K m1 H1 m5 H5 := (e2.trans e4).trans e5
          cases eb : g ρ5 S5 with
          | nx ρ6 S6 => rw [eb] at q2; exact fun σ6 H6 m6 e6 re6 rs6 => ⟨m6, ρ6, S6, e15.trans e6, re6, rs6, PostS.mono e6 q2⟩
          | ct ρ6 S6 => rw [eb] at q2; exact fun σ6 H6 m6 e6 re6 rs6 => ⟨m6, ρ6, S6, e15.trans e6, re6, rs6, PostS.mono e6 q2⟩
          | bk ρ6 S6 => rw [eb] at q2; exact q2
          | rt d S6 => rw [eb] at q2; exact q2
          | ex x ρ6 S6 => rw [eb] at q2; exact q2
          | no => rw [eb] at q2; exact q2
        | ex x ρ5 S5 => rw [eo] at q2; exact q2
        | _ => rw [eo] at q2; exact q2.elim
      · exact q2.elim
    · have hz : i = xs.length := by omega
      subst hz
      rw [List.drop_length] at q2
      unfold runF at q2
      split at q2
      · rename_i hk
        exact .inl ⟨(it xs.length mm H' S' e2 rs2 hk).2 (Nat.le_refl _), q2 σ' H' mm .refl re2 rs2⟩
      · exact q2.elim
theorem t_while (n : Nat) (hp : PassesOwn (model X.prog X.w) X.A X.env X.xe) (ht : PT X t (rdT (X.cq W) ft)) (hb : PSs X body (rdS (X.cq W) g)) : PS X (.While t body [] pos) (rdS (X.cq W) (sW n ft g)) := PSwk (ps_while hp ht hb) fun Dn σ H ⟨m, ρ, S, re, rs, q⟩ => by
  refine ⟨fun i σ' H' => ∃ mm ρ' S', RE X.K mm H' σ' ρ' ∧ RS X.K mm H' S' ∧ PostS (X.cq W) mm H' Dn (runW ft g i ρ' S'), ⟨n, m, ρ, S, re, rs, q⟩, ?_⟩
  rintro i σ' H' ⟨mm, ρ', S', re', rs', q'⟩
  cases i with
  | zero => exact q'.elim
  | succ i =>
    refine ⟨mm, ρ', S', re', rs', (Post.out (rel := relB) re' q').imp fun b H1 ⟨m1, b', S1, e1, rs1, eb, re1, q1⟩ => ?_⟩
    subst eb
    cases b with
    | false => rw [if_neg Bool.false_ne_true] at q1 ⊢; exact q1 σ' H1 m1 .refl re1 rs1
    | true =>
      rw [if_pos rfl] at q1 ⊢
      refine ⟨fun σ3 H3 => ∃ mm ρ' S', RE X.K mm H3 σ3 ρ' ∧ RS X.K mm H3 S' ∧ PostS (X.cq W) mm H3 Dn (runW ft g i ρ' S'), fun σ3 H3 h => ⟨i, Nat.lt_succ_self _, h⟩, m1, ρ', S1, re1, rs1, ?_⟩
      cases eb : g ρ' S1 with
      | nx ρ6 S6 => rw [eb] at q1; exact fun σ6 H6 m6 e6 re6 rs6 => ⟨m6, ρ6, S6, re6, rs6, PostS.mono e6 q1⟩
      | ct ρ6 S6 => rw [eb] at q1; exact fun σ6 H6 m6 e6 re6 rs6 => ⟨m6, ρ6, S6, re6, rs6, PostS.mono e6 q1⟩
      | bk ρ6 S6 => rw [eb] at q1; exact q1
      | rt d S6 => rw [eb] at q1; exact q1
      | ex x ρ6 S6 => rw [eb] at q1; exact q1
      | no => rw [eb] at q1; exact q1
end
end Dl

set_option Elab.async false
set_option linter.all false
set_option maxRecDepth 100000
namespace Dl
open PySem PySem.Spec PyProof.Rows L2

/-! ## list comprehensions: the target is names -/
/-- the slots of a comprehension's target: one name, or several -/
inductive Cg where
  | one (j : Nat) | many (js : List Nat)
def setsD (ρ : Env) : List Nat → List D → Env
  | j :: js, d :: ds => setsD (ρ.set j (some d)) js ds
  | _, _ => ρ
def Cg.put : Cg → D → Env → Option Env
  | .one j, d, ρ => some (ρ.set j (some d))
  | .many js, .tup ds, ρ => if ds.length = js.length then some (setsD ρ js ds) else none
  | _, _, _ => none
def Cg.slots : Cg → List Nat
  | .one j => [j]
  | .many js => js
def gNs : List Nat → TGs
  | [] => gNil
  | j :: js => gCons (gName j) (gNs js)
def Cg.tg (K : PySem.W.Frag) : Cg → TG
  | .one j => gName j
  | .many js => L2.gTup K js.length (gNs js)
open Classical in
noncomputable def runC (l : Nat) (ρ : Env) (g : Cg) (ft : TX) (fe : EX) (k : Chk) : List D → Store → R D
  | [], S => if chkOk k S then .ok (.ref l) S else .no
  | d :: ds, S => if chkOk k S then (match g.put d ρ with
    | some ρ1 => match ft ρ1 S with
      | .ok true S2 => match fe ρ1 S2 with
        | .ok e S3 => match S3[l]? with
          | some (.lst acc) => if acc.length < LIM then runC l ρ g ft fe k ds (S3.set l (.lst (acc ++ [e]))) else .no
          | _ => .no
        | _ => .no
      | .ok false S2 => runC l ρ g ft fe k ds S2
      | _ => .no
    | none => .no) else .no
/-- [elt for .. in .. if ..] -/
noncomputable def eLc (vs : List Nat) (src : IX) (g : Cg) (ft : TX) (fe : EX) : EX := fun ρ S => (src ρ S).bind fun p S1 => runC S1.length (wipeD ρ vs) g ft fe p.2 p.1 (S1 ++ [.lst []])
def tYesD : TX := fun _ S => .ok true S
section
theorem wipe_get {σ : L2.St} : ∀ {vs : List Nat} {i : Nat}, i ∈ vs → i < σ.length → (wipe σ vs)[i]? = some none
  | v :: vs, i, h, hl => by
    unfold wipe
    by_cases e : v = i
    · subst e
      exact List.getElem?_set_self (by rw [wipe_length]; exact hl)
    · rw [List.getElem?_set_ne e]
      rcases List.mem_cons.mp h with z | z
      · exact absurd z.symm e
      · exact wipe_get z hl
theorem wipe_out {σ : L2.St} : ∀ {vs : List Nat} {i : Nat}, i ∉ vs → (wipe σ vs)[i]? = σ[i]?
  | [], _, _ => rfl
  | v :: vs, i, h => by
    unfold wipe
    have e : v ≠ i := fun z => h (by simp [z])
    rw [List.getElem?_set_ne e]
    exact wipe_out fun z => h (List.mem_cons_of_mem _ z)
/-- slots among vs do not count -/
theorem wipe_same {σ σ' : L2.St} {vs : List Nat} (hl : σ'.length = σ.length) (h : ∀ i, i ∉ vs → σ'[i]? = σ[i]?) : wipe σ' vs = wipe σ vs := by
  apply List.ext_getElem?
  intro i
  by_cases hi : i ∈ vs
  · by_cases hz : i < σ.length
    · rw [wipe_get hi hz, wipe_get hi (by omega)]
    · rw [List.getElem?_eq_none (by rw [wipe_length]; omega), List.getElem?_eq_none (by rw [wipe_length]; omega)]
  · rw [wipe_out hi, wipe_out hi, h i hi]
def setsV (σ : L2.St) : List Nat → List V → L2.St
  | j :: js, v :: vs => setsV (σ.set j (some v)) js vs
  | _, _ => σ
theorem setsV_length : ∀ {js : List Nat} {ws : List V} {σ : L2.St}, (setsV σ js ws).length = σ.length
  | [], _, _ => rfl
  | _ :: _, [], _ => rfl
  | j :: js, w :: ws, σ => by
    show (setsV (σ.set j (some w)) js ws).length = _
    rw [setsV_length, List.length_set]
theorem setsV_out : ∀ {js : List Nat} {ws : List V} {σ : L2.St} {i : Nat}, i ∉ js → (setsV σ js ws)[i]? = σ[i]?
  | [], _, _, _, _ => rfl
  | _ :: _, [], _, _, _ => rfl
  | j :: js, w :: ws, σ, i, h => by
    show (setsV (σ.set j (some w)) js ws)[i]? = _
    rw [setsV_out fun z => h (List.mem_cons_of_mem _ z), List.getElem?_set_ne fun z => h (by simp [z])]
theorem RE.sets {K : PySem.W.Frag} {m : List Addr} {H : Hp} : ∀ {js : List Nat} {ws : List V} {ds : List D} {σ : L2.St} {ρ : Env}, RE K m H σ ρ → RDs K m H ws ds → RE K m H (setsV σ js ws) (setsD ρ js ds)
  | [], _, _, _, _, re, .nil => re
  | [], _, _, _, _, re, .cons _ _ => re
  | _ :: _, _, _, _, _, re, .nil => re
  | j :: js, _, _, _, _, re, .cons h t => by
    have q := RE.sets (js := js) (re.set h j) t
    exact q
theorem gNs_of {js : List Nat} : ∀ {ws : List V} {σ : L2.St} {H : Hp} {Q : L2.St → Hp → Prop}, ws.length = js.length → Q (setsV σ js ws) H → gNs js ws σ H Q := by
  induction js with
  | nil =>
    intro ws σ H Q hl q
    cases ws with
    | nil => exact ⟨rfl, q⟩
    | cons _ _ => cases hl
  | cons j js ih =>
    intro ws σ H Q hl q
    cases ws with
    | nil => cases hl
    | cons w ws => exact ⟨w, ws, rfl, ih (Nat.succ.inj hl) q⟩
theorem cg_of {K : PySem.W.Frag} {m : List Addr} {H : Hp} {g : Cg} {v : V} {d : D} {σ : L2.St} {ρ ρ1 : Env} {vs : List Nat} (hs : ∀ j ∈ g.slots, j ∈ vs) (re : RE K m H σ ρ) (rd : RD K m H v d) (hp : g.put d ρ = some ρ1) {Q : L2.St → Hp → Prop}
    (q : ∀ σ1, RE K m H σ1 ρ1 → wipe σ1 vs = wipe σ vs → Q σ1 H) : g.tg K v σ H Q := by
  cases g with
  | one j =>
    cases hp
    refine q _ (re.set rd j) (wipe_same (List.length_set ..) fun i hi => List.getElem?_set_ne fun z => hi (hs i ?_))
    rw [z]
    exact List.mem_singleton.mpr rfl
  | many js =>
    cases rd with
    | @tup a ws ds ht r =>
      have hp : (if ds.length = js.length then some (setsD ρ js ds) else none) = some ρ1 := hp
      split at hp
      · rename_i hz
        cases hp
        refine ⟨a, ws, rfl, ht.sq, by rw [r.length]; exact hz, gNs_of (by rw [r.length]; exact hz) (q _ (re.sets r) (wipe_same setsV_length fun i hi => setsV_out fun z => hi (hs i z)))⟩
      · cases hp
    | _ => cases hp
variable {X : Cx} {W : WX}
theorem lc_read {src : IX} {g : Cg} {ft : TX} {fe : EX} {vs : List Nat} (hs : ∀ j ∈ g.slots, j ∈ vs) (σ : L2.St) (H : Hp) (Q : VK) (h : rdE (X.cq W) (eLc vs src g ft fe) σ H Q) :
    tLc (rdI (X.cq W) src) (g.tg X.K) (rdT (X.cq W0) ft) (rdE (X.cq W0) fe) vs σ H Q := by
  obtain ⟨m, ρ, S, re, rs, h⟩ := h
  refine ⟨m, ρ, S, re, rs, ?_⟩
  have h : Post (X.cq W) (relD (X.cq W)) m H σ Q ((src ρ S).bind fun p S1 => runC S1.length (wipeD ρ vs) g ft fe p.2 p.1 (S1 ++ [.lst []])) := h
  cases es : src ρ S with
  | no => rw [es] at h; exact h.elim
  | ex x S' => rw [es] at h; exact h
  | ok p S' =>
    obtain ⟨xs, k⟩ := p
    rw [es] at h
    intro J H1 m1 e1 rs1 it D hD
    have h : Post (X.cq W) (relD (X.cq W)) m1 H1 σ Q (runC S'.length (wipeD ρ vs) g ft fe k xs (S' ++ [.lst []])) := Post.mono e1 h
    obtain ⟨e2, rs2⟩ := rs1.push (o := .lst []) (c := .lst []) hD fun m' e' => ⟨[], upd_same, .nil⟩
    have hl : (m1 ++ [D])[S'.length]? = some D := by
      rw [← rs1.len, List.getElem?_append_right (Nat.le_refl _), Nat.sub_self]
      rfl
    have re0 := re.mono e1
    refine ⟨fun i n H' => ∃ mm S2, Ext X.K m1 H1 mm H' ∧ RS X.K mm H' S2 ∧ mm[S'.length]? = some D ∧ n = xs.length - i ∧ i ≤ xs.length ∧ Post (X.cq W) (relD (X.cq W)) mm H' σ Q (runC S'.length (wipeD ρ vs) g ft fe k (xs.drop i) S2),
      ⟨xs.length, m1 ++ [D], S' ++ [.lst []], e2, rs2, hl, by simp, Nat.zero_le _, by simpa using Post.mono e2 h⟩, ?_⟩
    rintro i n H' ⟨mm, S2, e3, rs3, hl3, rfl, hi, h3⟩
    by_cases hlt : i < xs.length
    · rw [List.drop_eq_getElem_cons hlt] at h3
      unfold runC at h3
      split at h3
      · rename_i hk
        obtain ⟨go, yl⟩ := (it i mm H' S2 e3 rs3 hk).1 xs[i] (List.getElem?_eq_getElem hlt)
        refine .inr ⟨go, fun H3 => ∃ mm S3, Ext X.K m1 H1 mm H3 ∧ RS X.K mm H3 S3 ∧ mm[S'.length]? = some D ∧ Post (X.cq W) (relD (X.cq W)) mm H3 σ Q (runC S'.length (wipeD ρ vs) g ft fe k (xs.drop (i + 1)) S3),
          fun H3 ⟨mm3, S3, a1, a2, a3, a4⟩ => ⟨xs.length - (i + 1), by omega, mm3, S3, a1, a2, a3, rfl, hlt, a4⟩, fun x H4 y => ?_⟩
        obtain ⟨m4, e4, rs4, rd4⟩ := yl x H4 y
        have h3 := Post.mono e4 h3
        cases hp : g.put xs[i] (wipeD ρ vs) with
        | none => rw [hp] at h3; exact h3.elim
        | some ρ1 =>
          rw [hp] at h3
          simp only at h3
          have re4 : RE X.K m4 H4 (wipe σ vs) (wipeD ρ vs) := ((re0.mono e3).mono e4).wipe vs
          refine cg_of hs re4 rd4 hp fun σ1 re1 hw => ⟨by rw [hw]; exact wipe_same (wipe_length σ vs) fun i hi => wipe_out hi, m4, ρ1, S2, re1, rs4, ?_⟩
          cases et : ft ρ1 S2 with
          | no => rw [et] at h3; exact h3.elim
          | ex x S5 => rw [et] at h3; exact h3.elim
          | ok b S5 =>
            rw [et] at h3
            intro b' H5 m5 e5 rs5 eb
            subst eb
            have h3 := Post.mono (c := X.cq W) e5 h3
            have e15 := (e3.trans e4).trans e5
            cases b' with
            | false =>
              rw [if_neg Bool.false_ne_true]
              exact ⟨m5, S5, e15, rs5, e5.at (e4.at hl3), h3⟩
            | true =>
              rw [if_pos rfl]
              simp only at h3
              refine ⟨m5, ρ1, S5, re1.mono e5, rs5, ?_⟩
              cases ee : fe ρ1 S5 with
              | no => rw [ee] at h3; exact h3.elim
              | ex x S6 => rw [ee] at h3; exact h3.elim
              | ok d S6 =>
                rw [ee] at h3
                simp only at h3
                intro v H6 m6 e6 rs6 rd6
                have h3 := Post.mono (c := X.cq W) e6 h3
                have hl6 := e6.at (e5.at (e4.at hl3))
                split at h3
                · rename_i acc ea
                  split at h3
                  · rename_i hz
                    obtain ⟨ws, hw, rw'⟩ := rs6.wlst hl6 ea
                    obtain ⟨e7, rs7⟩ := rs6.write (o := .lst (ws ++ [v])) (c' := .lst (acc ++ [d])) hl6 ea rfl rfl fun ex => ⟨_, upd_same, (rw'.mono ex).append (.one (rd6.mono ex))⟩
                    exact ⟨ws, hw, by rw [rw'.length, ← lim_eq]; exact hz, m6, _, (e15.trans e6).trans e7, rs7, hl6, Post.mono (c := X.cq W) e7 h3⟩
                  · exact h3.elim
                · exact h3.elim
      · exact h3.elim
    · have hz : i = xs.length := by omega
      subst hz
      rw [List.drop_length] at h3
      unfold runC at h3
      split at h3
      · rename_i hk
        exact .inl ⟨(it xs.length mm H' S2 e3 rs3 hk).2 (Nat.le_refl _), h3 _ _ mm .refl rs3 (.ref hl3)⟩
      · exact h3.elim
variable {elt tg iter : Expr} {ifs : List Expr} {scope : Scope} {own : List (Str × Nat)} {pos : Pos} {src : IX} {g : Cg} {ft : TX} {fe : EX}
theorem d_lc (hc : X.calm = true) (hN : X.N.Nodup) (hi : PI X tg iter (rdI (X.cq W) src)) (ok : BlkOk X.N X.env.scope scope own) (hsl : ∀ j ∈ g.slots, j ∈ own.map (·.2))
    (hg : ∀ (s : Shared) (H : Hp) (C : Addr) (cl : List (Str × Addr)) (fp : List Addr), PG (X.blk s H scope (compEnvC scope cl C X.env) fp) tg (g.tg X.K)) (ht : ∀ (s : Shared) (H : Hp) (C : Addr) (cl : List (Str × Addr)) (fp : List Addr), PTs (X.blk s H scope (compEnvC scope cl C X.env) fp) ifs (rdT (X.cq W0) ft))
    (he : ∀ (s : Shared) (H : Hp) (C : Addr) (cl : List (Str × Addr)) (fp : List Addr), PE (X.blk s H scope (compEnvC scope cl C X.env) fp) elt (rdE (X.cq W0) fe)) (hs : ∀ x, foldedSetIterable iter X.env x = pure x := by intro _; rfl) :
    PE X (.ListComp elt [⟨tg, iter, ifs, 0⟩] scope pos) (rdE (X.cq W) (eLc (own.map (·.2)) src g ft fe)) := PEwk (pe_lc hc hN hi ok hg ht he hs) (lc_read hsl)
theorem t_setLc {i : Nat} {y : Str} {py spos : Pos} (hc : X.calm = true) (hN : X.N.Nodup) (hy : X.N[i]? = some y) (hyl : X.env.scope.names.lookup y = some .local)
    (hsw : swapsWith (.ListComp elt [⟨tg, iter, ifs, 0⟩] scope pos) (some (.Name y py)) spos.line X.env = pure true) (hi : PI X tg iter (rdI (X.cq W) src)) (ok : BlkOk X.N X.env.scope scope own) (hsl : ∀ j ∈ g.slots, j ∈ own.map (·.2))
    (hg : ∀ (s : Shared) (H : Hp) (C : Addr) (cl : List (Str × Addr)) (fp : List Addr), PG (X.blk s H scope (compEnvC scope cl C X.env) fp) tg (g.tg X.K)) (ht : ∀ (s : Shared) (H : Hp) (C : Addr) (cl : List (Str × Addr)) (fp : List Addr), PTs (X.blk s H scope (compEnvC scope cl C X.env) fp) ifs (rdT (X.cq W0) ft))
    (he : ∀ (s : Shared) (H : Hp) (C : Addr) (cl : List (Str × Addr)) (fp : List Addr), PE (X.blk s H scope (compEnvC scope cl C X.env) fp) elt (rdE (X.cq W0) fe)) (hs : ∀ x, foldedSetIterable iter X.env x = pure x := by intro _; rfl) :
    PS X (.Assign [.Name y py] (.ListComp elt [⟨tg, iter, ifs, 0⟩] scope pos) spos) (rdS (X.cq W) (sN i (eLc (own.map (·.2)) src g ft fe))) := PSwk (ps_setLc (i := i) hc hN hy hyl hsw hi ok hg ht he hs) fun Dn σ H ⟨m, ρ, S, re, rs, q⟩ =>
  lc_read hsl σ H _ ⟨m, ρ, S, re, rs, (Post.out (rel := relD (X.cq W)) re q).imp fun v H1 ⟨m1, d, S1, e1, rs1, rd, re1, q1⟩ => q1 _ H1 m1 .refl (re1.set rd i) rs1⟩
theorem u_nil : PTs X [] (rdT (X.cq W) tYesD) := ⟨fun pins s σ H Q I ⟨m, ρ, S, re, rs, h⟩ => pts_nil.run pins s σ H Q I (h _ H m .refl rs rfl)⟩
theorem u_one {c : Expr} (h : PT X c (rdT (X.cq W) ft)) : PTs X [c] (rdT (X.cq W) ft) := pts_one h
theorem v_one {j : Nat} {x : Str} (hN : X.N.Nodup) (hi : X.N[j]? = some x := by rfl) (hx : Loc X.env.scope x := by first | exact .inl rfl | exact .inr rfl) (hf : X.fn x = true ∨ X.env.scope.names.lookup x = some .local := by first | exact .inl rfl | exact .inr rfl) :
    PG X (.Name x pos) ((Cg.one j).tg X.K) := pg_name hN hi hx hf
theorem v_nil : PGs X [] (gNs []) := pgs_nil
theorem v_cons {j : Nat} {js : List Nat} {e : Expr} {es : List Expr} (h1 : PG X e (gName j)) (h2 : PGs X es (gNs js)) (hs : (assignEach (e :: es) X.env).map (·.2) = assign e X.env :: (assignEach es X.env).map (·.2) := by rfl) : PGs X (e :: es) (gNs (j :: js)) := pgs_cons h1 h2 hs
theorem v_many {js : List Nat} {es : List Expr} {k : Nat} (hc : X.calm = true) (h : PGs X es (gNs js)) (hn : (assignEach es X.env).length = js.length := by rfl) (hst : (assignEach es X.env).findIdx? (·.1) = none := by rfl) :
    PG X (.Tuple es k pos) ((Cg.many js).tg X.K) := pg_tup hc h hn hst
end
end Dl

set_option Elab.async false
set_option linter.all false
set_option maxRecDepth 100000
namespace Dl
open PySem PySem.Spec PyProof.Rows L2

/-! ## what a def leaves: new cells that nobody knows are forgotten -/
mutual
def D.wf (n : Nat) : D → Bool
  | .tup xs => wfs n xs
  | .ref l => decide (l < n)
  | _ => true
def wfs (n : Nat) : List D → Bool
  | [] => true
  | x :: xs => x.wf n && wfs n xs
end
def Cell.wf (n : Nat) : Cell → Bool
  | .lst xs => wfs n xs
  | .rol xs => wfs n xs
  | .dic kvs => wfs n (kvs.map (·.2))
  | .gone => true
def SWf (n : Nat) (S : Store) : Bool := S.all (Cell.wf n)
def newCell (n : Nat) : Option Cell → Option Cell
  | some (.lst xs) => if wfs n xs then some (.lst xs) else none
  | some (.dic kvs) => if wfs n (kvs.map (·.2)) then some (.dic kvs) else none
  | _ => none
def cmp (n : Nat) (d : D) (S' : Store) : R D :=
  if SWf n (S'.take n) then
    if d.wf n then .ok d (S'.take n)
    else match d with
      | .ref l => match newCell n (S'[l]?) with
        | some c => .ok (.ref n) (S'.take n ++ [c])
        | none => .ok d S'
      | _ => .ok d S'
  else .ok d S'
def runB (np ns : Nat) (g : SX) (ds : List D) (S : Store) : R D := if ds.length = np then (match g (ds.map some ++ List.replicate (ns - np) none) S with
  | .rt d S' => cmp S.length d S'
  | .nx _ S' => cmp S.length .non S'
  | .ex x _ S' => .ex x S'
  | _ => .no) else .no
section
variable {K : PySem.W.Frag} {m r : List Addr} {H : Hp}
mutual
theorem RD.low : ∀ {v : V} {d : D}, RD K (m ++ r) H v d → d.wf m.length = true → RD K m H v d
  | _, _, .non, _ => .non
  | _, _, .bl b, _ => .bl b
  | _, _, .int b, _ => .int b
  | _, _, .str h, _ => .str h
  | _, _, .tup h t, w => .tup h (RDs.low t w)
  | _, _, .ref h, w => .ref (by
      have w' := of_decide_eq_true w
      rwa [List.getElem?_append_left w'] at h)
  | _, _, .raw v, _ => .raw v
theorem RDs.low : ∀ {vs : List V} {ds : List D}, RDs K (m ++ r) H vs ds → wfs m.length ds = true → RDs K m H vs ds
  | _, _, .nil, _ => .nil
  | _, _, .cons h t, w => by
    have w' := Bool.and_eq_true_iff.mp w
    exact .cons (RD.low h w'.1) (RDs.low t w'.2)
end
theorem CellOk.low {a : Addr} {c : Cell} (h : CellOk K (m ++ r) H a c) (w : c.wf m.length = true) : CellOk K m H a c := by
  cases c with
  | lst xs => obtain ⟨vs, h1, h2⟩ := h; exact ⟨vs, h1, h2.low w⟩
  | rol xs => obtain ⟨vs, h1, h2⟩ := h; exact ⟨vs, h1, h2.low w⟩
  | dic kvs => obtain ⟨vs, h1, h2, h3⟩ := h; exact ⟨vs, h1, h2, h3.low w⟩
  | gone => trivial
theorem RS.low {S : Store} (h : RS K (m ++ r) H S) (w : SWf m.length (S.take m.length) = true) : RS K m H (S.take m.length) := by
  have hl := h.len
  rw [List.length_append] at hl
  have gm : ∀ {l : Nat} {a : Addr}, m[l]? = some a → (m ++ r)[l]? = some a := fun {l a} e => by
    rw [List.getElem?_append_left (List.getElem?_eq_some_iff.mp e).1]
    exact e
  have gS : ∀ {l : Nat} {c : Cell}, (S.take m.length)[l]? = some c → S[l]? = some c := fun {l c} e => by
    have z := (List.getElem?_eq_some_iff.mp e).1
    rw [List.length_take] at z
    rwa [List.getElem?_take_of_lt (by omega)] at e
  refine ⟨by rw [List.length_take]; omega, fun {l a c} h1 h2 => (h.at_ (gm h1) (gS h2)).low (List.all_eq_true.mp w c (List.mem_of_getElem? h2)), fun h1 h2 h3 h4 h5 h6 => h.inj (gm h1) (gm h2) (gS h3) (gS h4) h5 h6⟩
theorem newCell_mut {n : Nat} {o : Option Cell} {c : Cell} (h : newCell n o = some c) : o = some c ∧ c.wf n = true := by
  unfold newCell at h
  split at h
  · split at h
    · cases h; exact ⟨rfl, ‹_›⟩
    · cases h
  · split at h
    · cases h; exact ⟨rfl, ‹_›⟩
    · cases h
  · cases h
/-- new at the end -/
theorem RS.last {S : Store} {l : Nat} {a : Addr} {c : Cell} (h : RS K (m ++ r) H S) (w : SWf m.length (S.take m.length) = true) (hn : m.length ≤ l) (hl : (m ++ r)[l]? = some a) (hc : S[l]? = some c) (wc : c.wf m.length = true) :
    RS K (m ++ [a]) H (S.take m.length ++ [c]) := by
  have b := h.low w
  have hlen := b.len
  have e : Ext K m H (m ++ [a]) H := ⟨⟨[a], rfl⟩, fun _ _ h => h⟩
  have split1 : ∀ {i : Nat} {x : Addr}, (m ++ [a])[i]? = some x → m[i]? = some x ∨ (i = m.length ∧ x = a) := fun {i x} q => by
    by_cases z : i < m.length
    · rw [List.getElem?_append_left z] at q
      exact .inl q
    · have := (List.getElem?_eq_some_iff.mp q).1
      simp at this
      have e : i = m.length := by omega
      subst e
      rw [List.getElem?_append_right (Nat.le_refl _)] at q
      simp at q
      exact .inr ⟨rfl, q.symm⟩
  have split2 : ∀ {i : Nat} {x : Cell}, (S.take m.length ++ [c])[i]? = some x → (i < m.length ∧ (S.take m.length)[i]? = some x) ∨ (i = m.length ∧ x = c) := fun {i x} q => by
    by_cases z : i < m.length
    · rw [List.getElem?_append_left (by rw [← hlen]; exact z)] at q
      exact .inl ⟨z, q⟩
    · have := (List.getElem?_eq_some_iff.mp q).1
      rw [List.length_append, ← hlen] at this
      simp at this
      have e : i = m.length := by omega
      subst e
      rw [List.getElem?_append_right (by rw [← hlen]; exact Nat.le_refl _), ← hlen] at q
      simp at q
      exact .inr ⟨rfl, q.symm⟩
  have gm : ∀ {l : Nat} {a : Addr}, m[l]? = some a → (m ++ r)[l]? = some a := fun {l a} e => by
    rw [List.getElem?_append_left (List.getElem?_eq_some_iff.mp e).1]
    exact e
  have gS : ∀ {l : Nat} {c : Cell}, (S.take m.length)[l]? = some c → S[l]? = some c := fun {l c} e => by
    have z := (List.getElem?_eq_some_iff.mp e).1
    rw [List.length_take] at z
    rwa [List.getElem?_take_of_lt (by omega)] at e
  have lt : ∀ {i : Nat} {x : Addr}, m[i]? = some x → i < m.length := fun {i x} q => (List.getElem?_eq_some_iff.mp q).1
  refine ⟨by rw [List.length_append, List.length_append, ← hlen]; rfl, fun {i x y} h1 h2 => ?_, fun {i i' x y y'} h1 h2 h3 h4 h5 h6 => ?_⟩
  · rcases split1 h1 with q1 | ⟨q1, rfl⟩
    · rcases split2 h2 with ⟨z, q2⟩ | ⟨q2, rfl⟩
      · exact (b.at_ q1 q2).mono e (fun _ => rfl) fun _ z => z
      · exact absurd (lt q1) (by omega)
    · rcases split2 h2 with ⟨z, q2⟩ | ⟨q2, rfl⟩
      · exact absurd z (by omega)
      · exact ((h.at_ hl hc).low wc).mono e (fun _ => rfl) fun _ z => z
  · rcases split1 h1 with q1 | ⟨q1, e1⟩
    · rcases split2 h3 with ⟨z, q3⟩ | ⟨q3, _⟩
      · rcases split1 h2 with q2 | ⟨q2, e2⟩
        · rcases split2 h4 with ⟨z', q4⟩ | ⟨q4, _⟩
          · exact b.inj q1 q2 q3 q4 h5 h6
          · exact absurd (lt q2) (by omega)
        · rcases split2 h4 with ⟨z', q4⟩ | ⟨q4, e4⟩
          · exact absurd z' (by omega)
          · subst e2 e4
            have := h.inj (gm q1) hl (gS q3) hc h5 h6
            have := lt q1
            omega
      · exact absurd (lt q1) (by omega)
    · rcases split2 h3 with ⟨z, q3⟩ | ⟨q3, e3⟩
      · exact absurd z (by omega)
      · rcases split1 h2 with q2 | ⟨q2, e2⟩
        · rcases split2 h4 with ⟨z', q4⟩ | ⟨q4, _⟩
          · subst e1 e3
            have := h.inj hl (gm q2) hc (gS q4) h5 h6
            have := lt q2
            omega
          · exact absurd (lt q2) (by omega)
        · omega
end
theorem cmp_post {c : Cq} {m m' : List Addr} {H H' : Hp} {v : V} {d : D} {S S' : Store} {Q : VK} {σ : L2.St} (hm : m.length = S.length) (e : Ext c.K m H m' H') (rs : RS c.K m' H' S') (rd : RD c.K m' H' v d) (h : Post c (relD c) m H σ Q (cmp S.length d S')) : Q v H' := by
  obtain ⟨⟨r, rfl⟩, et⟩ := e
  rw [← hm] at h
  unfold cmp at h
  have e0 : Ext c.K m H m H' := ⟨⟨[], by simp⟩, et⟩
  have same : Post c (relD c) m H σ Q (.ok d S') → Q v H' := fun h => h v H' _ ⟨⟨r, rfl⟩, et⟩ rs rd
  split at h
  · rename_i w
    split at h
    · rename_i wd
      exact h v H' m e0 (rs.low w) (rd.low wd)
    · rename_i wd
      split at h
      · rename_i l
        split at h
        · rename_i cl hc
          obtain ⟨q1, q2⟩ := newCell_mut hc
          cases rd with
          | @ref a _ hl =>
            have hn : m.length ≤ l := by
              have := mt (fun z => decide_eq_true z) (show ¬ (D.ref l).wf m.length = true from wd)
              omega
            refine h _ H' (m ++ [a]) ⟨⟨[a], rfl⟩, et⟩ (rs.last w hn hl q1 q2) (.ref ?_)
            rw [List.getElem?_append_right (Nat.le_refl _), Nat.sub_self]
            rfl
        · exact same h
      · exact same h
  · exact same h
theorem re_start {K : PySem.W.Frag} {m : List Addr} {H : Hp} {N : List Str} {vs : List V} {ds : List D} (r : RDs K m H vs ds) : RE K m H (L2.start N vs) (ds.map some ++ List.replicate (N.length - ds.length) none) := by
  unfold L2.start
  have hl := r.length
  refine ⟨by simp [hl], fun {i d} h => ?_⟩
  by_cases z : i < ds.length
  · rw [List.getElem?_append_left (by simpa using z), List.getElem?_map] at h
    cases e : ds[i]? with
    | none => rw [e] at h; cases h
    | some d' =>
      rw [e] at h
      cases h
      obtain ⟨v, h1, h2⟩ := r.get e
      refine ⟨v, ?_, h2⟩
      rw [List.getElem?_append_left (by simp [hl]; exact z), List.getElem?_map, h1]
      rfl
  · rw [List.getElem?_append_right (by simpa using z), List.getElem?_replicate] at h
    split at h <;> cases h
theorem passB {X : Cx} {σ : L2.St} : PassesAt (L2.CX X.prog X.w) X σ (WE W0 σ) := fun _ _ _ _ _ _ h => by
  obtain ⟨_, _, _, _, _, _, _, _, _, _, _, _, z⟩ := h
  exact z.elim
section
variable {P : Program} {w : World} {K : PySem.W.Frag} {mg : Str → Option Value} {base : Heap}
/-- a def of the text keeps its mirror's promise -/
theorem fn_ok {x qual : Str} {st : Stmt} {f : Addr} {fd : FuncData} {N ps : List Str} {k : Nat} {g : SX} (F : Fun K x qual st f fd) (S : FnScope N ps (defScope st))
    (hbody : ∀ (cdv : Value) (A : Around) (outer : List PySem.Env) (s : Shared) (H : Hp) (E : XK), Room k (A.deeper (envOfC qual (defScope st) s.heap.objs.size f cdv)) →
      PSs (cxOf (L2.CX P w) P w K mg base N qual (defScope st) f cdv A outer s H E) (defBody st) (rdS ⟨K, mg, fun c d _ H => E c d H⟩ g)) :
    FnOk P w K mg base (L2.CX P w) (k + 1) f fd ps (rdF ⟨K, mg, W0⟩ (runB ps.length N.length g)) := by
  refine F.okX S (fun vs H Q E h => ?_) fun cdv A outer s H vs Q E hr h => ⟨_, hbody cdv A outer s H E hr, ?_⟩
  · obtain ⟨m, ds, S, r, rs, h⟩ := h
    rw [r.length]
    unfold runB at h
    split at h
    · assumption
    · exact h.elim
  · obtain ⟨m, ds, S, r, rs, h⟩ := h
    unfold runB at h
    split at h
    · rename_i hl
      refine ⟨m, ds.map some ++ List.replicate (N.length - ps.length) none, S, by rw [← hl]; exact re_start r, rs, ?_⟩
      cases eg : g (ds.map some ++ List.replicate (N.length - ps.length) none) S with
      | rt d S' => rw [eg] at h; exact fun v H' m' e rs' rd => cmp_post (σ := []) rs.len e rs' rd h
      | nx ρ' S' => rw [eg] at h; exact fun σ' H' m' e re' rs' => cmp_post (σ := []) rs.len e rs' .non h
      | ex xx ρ' S' => rw [eg] at h; exact fun cls dd σ' H' m' e re' rs' rx => h cls dd H' m' e rs' rx
      | _ => rw [eg] at h; exact h.elim
    · exact h.elim
/-- none is called with no calls left -/
theorem fn_zero {f : Addr} {fd : FuncData} {ps : List Str} : FnOk P w K mg base (L2.CX P w) 0 f fd ps (rdF ⟨K, mg, W0⟩ fun _ _ => .no) :=
  ⟨fun vs H Q E ⟨m, ds, S, r, rs, h⟩ => h.elim, fun A outer s H args us vs Q E _ _ _ _ ⟨m, ds, S, r, rs, h⟩ => h.elim⟩
end
/-- a promise without exceptions -/
def rdL (K : PySem.W.Frag) (F : List D → M D) : Sp := fun vs H Q _ => ∃ m ds S d S', RDs K m H vs ds ∧ RS K m H S ∧ F ds S = .ok d S' ∧ ∀ v H' m', Ext K m H m' H' → RS K m' H' S' → RD K m' H' v d → Q v H'
theorem rdL_F {K : PySem.W.Frag} {mg : Str → Option Value} {F : List D → M D} {vs : List V} {H : Hp} {Q : VK} {E : XK} (h : rdL K F vs H Q E) : rdF ⟨K, mg, W0⟩ F vs H Q E := by
  obtain ⟨m, ds, S, d, S', r, rs, e, k⟩ := h
  exact ⟨m, ds, S, r, rs, by rw [e]; exact k⟩
/-- THE END: a script's ints, True -/
theorem law_sp {K : PySem.W.Frag} {F : List D → M D} {H : Hp} {a : Addr} {ns : List Int} (hO : Only H) (hS : SqL K H a (ns.map V.int)) (h : ∃ S, F [.ref 0] [.rol (ns.map D.int)] = .ok (.bl true) S) :
    rdL K F [.ref a] H (fun v _ => v = .bl true) fun _ _ _ => False := by
  obtain ⟨S, h⟩ := h
  have rds : ∀ ns : List Int, RDs K [a] H (ns.map V.int) (ns.map D.int) := fun ns => by
    induction ns with
    | nil => exact .nil
    | cons n ns ih => exact .cons (.int n) ih
  have hR : RolAt K H a (ns.map V.int) := by
    rcases hS with hS | hS
    · rcases hS with hS | hS
      · rcases hO a with z | ⟨o, xs, z⟩
        · rw [z] at hS; cases hS
        · rw [z] at hS; cases hS
      · exact .inl hS
    · exact .inr hS
  refine ⟨[a], [.ref 0], [.rol (ns.map D.int)], .bl true, S, .cons (.ref rfl) .nil, ⟨rfl, fun {l a' c} h1 h2 => ?_, fun {l l' a' c c'} h1 h2 h3 h4 h5 h6 => ?_⟩, ?_⟩
  · cases l with
    | zero =>
      simp at h1 h2
      subst h1 h2
      exact ⟨_, hR, rds ns⟩
    | succ l => simp at h1
  · cases l with
    | zero => simp at h3; subst h3; cases h5
    | succ l => simp at h3
  · exact ⟨h, fun v H' m' e rs rd => by cases rd; rfl⟩
end Dl

set_option Elab.async false
set_option linter.all false
set_option maxRecDepth 100000
set_option maxHeartbeats 1000000
namespace Dl
open PySem PySem.Spec PyProof.Rows L2 RT
/-! ## list(reversed(xs)) -/
section
variable {prog : Program} {w : World} {A : Around} {E : Value → Shared → Prop} {s : Shared}
theorem extend_rev {it l S : Addr} {items : Array Value} {res : Value} {c₀ : Nat} {R : Result → Shared → Prop} (hh : A.handled = none) (hit : s.heap.IsRevIter it l ((items.size : Int) - 1)) (hl : s.heap.IsList l items) (hne : l ≠ it) (hn : items.size ≤ sizeLine)
    (hSi : S ≠ it) (hSl : S ≠ l) (hS : s.heap.get? S = some { cls := .type "list", data := .seq #[] c₀ })
    (hR : ∀ h' tk acc c', (∀ b o, b ≠ it → b ≠ S → s.heap.get? b = some o → h'.get? b = some o) → h'.get? S = some { cls := .type "list", dict := none, data := .seq acc c', slots := #[] } →
      ItemsOf (fun i v => items[items.size - 1 - i]? = some v) acc items.size → R (.ok (.ret res)) { s with heap := h', toks := tk }) :
    wpAny (model prog w) A.in1 (Builtin.List.listExtendWith (.ref S) (.ref it) res)
      (fun fin s' => match fin with | .done f => R (.ok f) s' | .again c' => c'.quiet = true ∧ codeAny (model prog w) A c' R s') (fun e s' => R (.error e) s') s := by
  have W := (Walks.listRev (prog := prog) (w := w) (A := A.in1) hh it l hne items).toS
  have hSf : S ∉ [it, l] := by simp only [List.mem_cons, List.not_mem_nil, or_false, not_or]; exact ⟨hSi, hSl⟩
  have hT : s.TypeIs (.ref it) "list_reverseiterator" := hit.typeIs
  have h1 : Builtin.List.listSameRef (.ref S) (.ref it) = false := by simp [Builtin.List.listSameRef, hSi]
  unfold Builtin.List.listExtendWith
  refine wpAny_bind (wpAny_typeOf hT ?_)
  rw [if_neg (by rw [h1]; decide)]
  refine wpAny_bind (wpAny_pyIter_revIter hit ?_)
  refine wpAny_bind (wpAny_holding ?_)
  unfold Builtin.List.listLengthHint
  refine wpAny_bind (wpAny_specialOf hT nolen_lri ?_)
  show wpAny _ A.in1 (specialOf (Value.ref it) (Str.ofString "__length_hint__") >>= _) _ _ _
  refine wpAny_bind (wpAny_specialOf hT hint_lri ?_)
  generalize hid : ("list_reverseiterator.__length_hint__" : String) = id0
  wp_delta
  rw [show splitId id0 = some ("list_reverseiterator", "__length_hint__") from by subst hid; decide +kernel]
  subst hid
  refine wpAny_bind (wpAny_isInstance (b := true) hT (by rw [isSubtype_type]; kernel_rfl) ?_)
  refine wpAny_pure ?_
  rw [if_neg (by decide)]
  have e0 : ((items.size : Nat) : Int) - 1 - ((0 : Nat) : Int) = (items.size : Int) - 1 := by omega
  refine wpAny_pure ⟨plainId_quiet F.plain_extend_loop _, codeAny_extend_loopS W hn _ hSf _ items.size 0 _ _ _ rfl (Nat.zero_le _) ⟨Nat.zero_le _, by rw [e0]; exact hit, hl⟩ hS (ItemsOf.nil _) fun s' acc' c' hm hS' hacc => ?_⟩
  rw [Moved.eq_with hm]
  refine hR s'.heap s'.toks acc' c' (fun b o hb hb2 e => hm.heap b o (fun hmem => ?_) e) hS' hacc
  rcases List.mem_cons.mp hmem with e' | hmem
  · exact hb2 e'
  · exact hb (List.mem_singleton.mp hmem)
theorem list_init_rev {it l S : Addr} {items : Array Value} {R : Result → Shared → Prop} (hh : A.handled = none) (hit : s.heap.IsRevIter it l ((items.size : Int) - 1)) (hl : s.heap.IsList l items) (hne : l ≠ it) (hn : items.size ≤ sizeLine)
    (hSi : S ≠ it) (hSl : S ≠ l) (hS : s.heap.get? S = some { cls := .type "list", data := .seq #[] })
    (hR : ∀ h' tk acc c', (∀ b o, b ≠ it → b ≠ S → s.heap.get? b = some o → h'.get? b = some o) → h'.get? S = some { cls := .type "list", dict := none, data := .seq acc c', slots := #[] } →
      ItemsOf (fun i v => items[items.size - 1 - i]? = some v) acc items.size → R (.ok (.ret .none)) { s with heap := h', toks := tk }) :
    wpAny (model prog w) A.in1 (Builtin.«list.__init__» ⟨[.ref S, .ref it], []⟩)
      (fun fin s' => match fin with | .done f => R (.ok f) s' | .again c' => c'.quiet = true ∧ codeAny (model prog w) A c' R s') (fun e s' => R (.error e) s') s := by
  show wpAny _ _ (do let old ← Builtin.List.listItems (.ref S); Builtin.List.listUpdate (.ref S) (fun _ => #[]); letGo old.toList.reverse; Builtin.List.listExtendWith (.ref S) (.ref it) .none) _ _ s
  refine wpAny_bind ?_
  unfold Builtin.List.listItems
  refine wpAny_bind (wpAny_seqItems hS rfl (wpAny_pure ?_))
  show wpAny _ _ (updateSeq S (fun _ => #[]) >>= fun _ => letGo (#[] : Array Value).toList.reverse >>= fun _ => Builtin.List.listExtendWith (.ref S) (.ref it) .none) _ _ s
  refine wpAny_bind (wpAny_updateSeq hS rfl ?_)
  have hS₂ := Heap.get?_update_self (Obj.mapSeq (fun _ => (#[] : Array Value))) hS rfl
  have oth : ∀ b o, b ≠ S → s.heap.get? b = some o → (s.heap.update S (Obj.mapSeq (fun _ => (#[] : Array Value)))).get? b = some o :=
    fun b o hb e => (Heap.get?_update_other _ _ (Ne.symm hb)).trans e
  refine wpAny_bind (wpAny_letGo ?_)
  obtain ⟨ol, hol, hcl, hdl⟩ := id hl
  refine extend_rev hh (hit.at fun o e => oth it o (Ne.symm hSi) e) ⟨ol, oth l _ (Ne.symm hSl) hol, hcl, hdl⟩ hne hn hSi hSl hS₂ fun h' tk acc' c' hk hS' hacc => ?_
  exact hR h' tk acc' c' (fun b o hb hb2 e => hk b o hb hb2 (oth b o hb2 e)) hS' hacc
theorem call_list_rev {it l : Addr} {items : Array Value} {Q : Value → Shared → Prop} (hh : A.handled = none) (hit : s.heap.IsRevIter it l ((items.size : Int) - 1)) (hl : s.heap.IsList l items) (hne : l ≠ it) (hn : items.size ≤ sizeLine)
    (hQ : ∀ h' tk acc' c', (∀ b o, b ≠ it → s.heap.get? b = some o → h'.get? b = some o) →
      h'.get? s.heap.objs.size = some { cls := .type "list", dict := none, data := .seq acc' c', slots := #[] } → ItemsOf (fun i v => items[items.size - 1 - i]? = some v) acc' items.size → Q (.ref s.heap.objs.size) { s with heap := h', toks := tk }) :
    wpAny (model prog w) A (call (.type "list") [.ref it]) Q E s := by
  refine callType_codes (Q₁ := fun obj s₁ => obj = .ref s.heap.objs.size ∧ s₁ = { s with heap := s.heap.push { cls := .type "list", data := .seq #[] } }) F.called_list (F.typeCall_list_1 _) F.entry_list_init
    (code_list_new _ ⟨rfl, rfl⟩) fun obj s₁ h₁ => ?_
  obtain ⟨rfl, rfl⟩ := h₁
  have hS : (s.heap.push { cls := .type "list", data := .seq #[] }).get? s.heap.objs.size = some { cls := .type "list", data := .seq #[] } := Heap.get?_push_size _ rfl
  obtain ⟨oi, hoi, _⟩ := id hit
  obtain ⟨ol, hol, _⟩ := id hl
  refine ⟨⟨_, hS, rfl⟩, F.args_list_init_2 _ _, list_init_rev (A := A.in1) hh (hit.at fun o e => Heap.get?_push_of_some _ e) (hl.push _) hne hn (Nat.ne_of_gt (Heap.lt_size hoi)) (Nat.ne_of_gt (Heap.lt_size hol)) hS fun h' tk acc' c' hk hS' hacc => ?_⟩
  exact ⟨rfl, hQ h' tk acc' c' (fun b o hb e => hk b o hb (Nat.ne_of_lt (Heap.lt_size e)) (Heap.get?_push_of_some _ e)) hS' hacc⟩
end
def gListRev : D → Store → Option (D × Store)
  | .ref l, S => (lstAt S l).map fun xs => (.ref S.length, S ++ [.lst xs.reverse])
  | _, _ => none
section
variable {X : Cx} {W : WX} {e : Expr} {f : EX} {p p2 pos pos2 : Pos}
theorem d_listRev (hc : X.calm = true) (hg : Gl X "list") (hm : X.mg "list" = none) (hg2 : Gl X "reversed") (hm2 : X.mg "reversed" = none) (he : PE X e (rdE (X.cq W) f))
    (hs : starEach [e] X.env = (false, eval e X.env) :: starEach [] X.env := by rfl)
    (hs2 : starEach [.Call (.Name "reversed" p2) [e] [] pos2] X.env = (false, eval (.Call (.Name "reversed" p2) [e] [] pos2) X.env) :: starEach [] X.env := by rfl) :
    PE X (.Call (.Name "list" p) [.Call (.Name "reversed" p2) [e] [] pos2] [] pos) (rdE (X.cq W) (e1 gListRev f)) := by
  refine ⟨fun pins s σ H Q I ⟨m, ρ, S, re, rs, h⟩ => ?_⟩
  refine Call_ (ld_blt I hg hm boot_list (PyProof.Rows.callWith_type1 (args_cons (Call_ (ld_blt I hg2 hm2 PyProof.Rows.boot_reversed (PyProof.Rows.callWith_type1 (args_cons (thn (he.run pins s σ H _ I ⟨m, ρ, S, re, rs, Post.bind h⟩) fun u s1 ⟨v, H1, I1, r1, q1⟩ => args_nil ?_) hs) hs rfl))) hs2) hs2 rfl))
  obtain ⟨m1, d, S1, e1, rs1, rd1, q⟩ := q1
  have q := VPost.of q
  cases rd1 with
  | @ref a l hla =>
    have q : VPost X.K m1 H1 Q ((lstAt S1 l).map fun xs => (.ref S1.length, S1 ++ [.lst xs.reverse])) := q
    cases el : lstAt S1 l with
    | none => rw [el] at q; exact q.elim
    | some xs =>
      rw [el] at q
      obtain ⟨vs, hq, rds⟩ := rs1.lst hla el
      obtain rfl : u = Value.ref a := r1
      obtain ⟨its, rv, p', hz⟩ := I1.list hq
      refine call_reversed_list p'.isList (args_nil ?_)
      have k0 : ∀ b o, s1.heap.get? b = some o → (s1.heap.push (revObj a ((its.toArray.size : Int) - 1))).get? b = some o := fun b o e => Heap.get?_push_of_some _ e
      have I2 : L2.Inv X pins σ H1 { s1 with heap := s1.heap.push (revObj a ((its.toArray.size : Int) - 1)) } := I1.kept (t' := s1.toks) k0
      obtain ⟨f0, f1, f2, f3, f4, f5⟩ := I1.fpOk (H' := H1) (b := s1.heap.objs.size) (Nat.le_refl _) (I1.hok.fresh (Nat.le_refl _))
      have hl := p'.isList
      obtain ⟨ol, hol, _⟩ := id hl
      have hne : a ≠ s1.heap.objs.size := Nat.ne_of_lt (Heap.lt_size hol)
      have hn : its.toArray.size ≤ sizeLine := by rw [List.size_toArray, ← rv.length]; exact hz
      have ksz : (s1.heap.push (revObj a ((its.toArray.size : Int) - 1))).objs.size = s1.heap.objs.size + 1 := Heap.size_push _ _
      refine call_list_rev (s := { s1 with heap := s1.heap.push (revObj a ((its.toArray.size : Int) - 1)) }) (I1.ok.hd hc) ⟨_, Heap.get?_push_size _ rfl, rfl, rfl⟩ (hl.push _) hne hn fun h' tk acc c' hk hS' hi => ?_
      have hfr : H1 (s1.heap.push (revObj a ((its.toArray.size : Int) - 1))).objs.size = none := I2.hok.fresh (Nat.le_refl _)
      refine ⟨.ref (s1.heap.push (revObj a ((its.toArray.size : Int) - 1))).objs.size, upd H1 _ (.lst vs.reverse), ?_, rfl, vp_lst rs1 hfr rds.reverse q⟩
      have I3 : L2.Inv X pins σ H1 { s1 with heap := h', toks := tk } := I2.turned (t' := tk) (fun b o hb e => hk b o hb e) f0 f1 f3 f4 f5
      obtain ⟨g0, g1, g2, g3, g4, g5⟩ := I2.fpOk (H' := H1) (b := (s1.heap.push (revObj a ((its.toArray.size : Int) - 1))).objs.size) (Nat.le_refl _) hfr
      have hS'' : h'.get? (s1.heap.push (revObj a ((its.toArray.size : Int) - 1))).objs.size = some { cls := .type "list", dict := none, data := .seq acc c', slots := #[] } := hS'
      generalize (s1.heap.push (revObj a ((its.toArray.size : Int) - 1))).objs.size = p0 at *
      refine L2.Inv.step (s := { s1 with heap := h', toks := tk }) (g' := s1.gens) (t' := tk) (d' := s1.drawn) (h' := h') (ch := [p0]) I3 (fun b hb => ?_) (fun b o _ _ _ q _ => q) (fun b o _ _ _ q _ => ⟨o.slots, q⟩) (fun b o hb q n => ?_) (fun b o _ q => ⟨o, q⟩) (fun b ws q => by rw [upd_ne (ne_of_none q hfr)]; exact q)
        (fun b o u q => by rw [upd_ne (ne_of_none q hfr)]; exact q) (fun b ps q => ⟨#[], by rw [upd_ne (ne_of_none q hfr), q]; simp⟩) (fun m hm => hm) (fun b u q => ?_) I1.bare
      · have e : b = p0 := by simpa using hb
        subst e
        exact ⟨g3, g1, g4, g5⟩
      · rw [upd_ne (fun z => hb (by simp [z]))]
        exact n
      · by_cases hb : b = p0
        · subst hb
          rw [upd_same] at q
          cases q
          refine ⟨by rw [List.length_reverse]; exact hz, acc.toList, c', RT.vals_rev rv hi, ?_⟩
          rw [Array.toArray_toList]
          exact hS''
        · rw [upd_ne hb] at q
          exact (I3.hok b u q).stay (fun c v _ r => r) (fun c r => by rw [upd_ne (ne_of_none r hfr)]; exact r) fun c ws r => by rw [upd_ne (ne_of_none r hfr)]; exact r
  | _ => exact q.elim
end
end Dl

set_option Elab.async false
set_option linter.all false
set_option maxRecDepth 100000
namespace Dl
open PySem PySem.Spec PyProof.Rows L2
/-! ## a walk over whatever stands there: a list, a tuple, a text -/
def iA (f : EX) : IX := fun ρ S => (f ρ S).bind fun d S1 => match d with
  | .ref l => match lstAt S1 l with
    | some xs => .ok (xs, [(l, xs)]) S1
    | none => .no
  | .tup xs => .ok (xs, []) S1
  | .str x => .ok (x.cps.toList.map fun c => .str ⟨#[c]⟩, []) S1
  | _ => .no
section
variable {X : Cx} {W : WX} {tg e : Expr} {f : EX}
theorem w_any (he : PE X e (rdE (X.cq W) f)) : PI X tg e (rdI (X.cq W) (iA f)) := by
  refine ⟨fun pins s σ H R' I ⟨m, ρ, S, re, rs, q⟩ => thn (he.run pins s σ H _ I ⟨m, ρ, S, re, rs, src_bind q⟩) fun v s1 ⟨x, H1, I1, r1, m1, d, S1, e1, rs1, rd, q1⟩ => ?_⟩
  cases rd with
  | @ref a l hl =>
    simp only at q1
    cases el : lstAt S1 l with
    | none => rw [el] at q1; exact q1.elim
    | some xs =>
      rw [el] at q1
      obtain ⟨vs, hq, r⟩ := rs1.lst hl el
      cases r1
      obtain ⟨its, rv, p, hz⟩ := I1.list hq
      refine wpAny_pyIter_list p.isList ?_
      refine ⟨s1.heap.objs.size, [s1.heap.objs.size], _, _, H1, rfl, I1.kept (t' := s1.toks) fun b o e => Heap.get?_push_of_some _ e, turn_list a _, ⟨_, Heap.get?_push_size _ rfl, rfl, rfl⟩, fun b hb => ?_, q1 _ _ m1 .refl rs1 (it_list hl)⟩
      have e : b = s1.heap.objs.size := by simpa using hb
      subst e
      exact I1.fpOk (Nat.le_refl _) (I1.hok.fresh (Nat.le_refl _))
  | @tup a vs ds ht r =>
    cases r1
    obtain ⟨its, rv, p, hz⟩ := I1.tuple ht.sq
    refine wpAny_pyIter_tuple (show s1.heap.IsTuple a its.toArray from p) ?_
    refine ⟨s1.heap.objs.size, [s1.heap.objs.size], _, _, H1, rfl, I1.kept (t' := s1.toks) fun b o e => Heap.get?_push_of_some _ e, turn_tuple a _, ⟨_, Heap.get?_push_size _ rfl, rfl, rfl⟩, fun b hb => ?_, q1 _ _ m1 .refl rs1 (it_tup ht r)⟩
    have e : b = s1.heap.objs.size := by simpa using hb
    subst e
    exact I1.fpOk (Nat.le_refl _) (I1.hok.fresh (Nat.le_refl _))
  | @str x h =>
    obtain ⟨t, rfl⟩ := r1
    have q : (fun J H' => R' J H') (Its x) H1 := q1 _ _ m1 .refl rs1 it_str
    cases ha : x.cps.all (· < 128)
    · exact wpAny_pyIter_wide ha (pi_one (tk := s1.toks) I1 _ (turn_str _ x t "str_iterator" (.inr rfl)) ⟨_, Heap.get?_push_size _ rfl, rfl, rfl⟩ q)
    · exact wpAny_pyIter_ascii ha (pi_one (tk := s1.toks) I1 _ (turn_str _ x t "str_ascii_iterator" (.inl rfl)) ⟨_, Heap.get?_push_size _ rfl, rfl, rfl⟩ q)
  | _ => exact q1.elim
end
theorem r65 {k : Nat} {A : Around} (r : Room k A) : A.units + 65 < cLine := by have := r.un; omega
end Dl

set_option Elab.async false
set_option linter.all false
set_option maxRecDepth 100000
namespace Dl
open PySem L2
/-! ## the mirror, evaluated from the outside in -/
def kE (ρ : Env) : R D → Out
  | .ok _ S => .nx ρ S
  | .ex x S => .ex x ρ S
  | .no => .no
def kR (ρ : Env) : R D → Out
  | .ok d S => .rt d S
  | .ex x S => .ex x ρ S
  | .no => .no
def kIf (g h : SX) (ρ : Env) : R Bool → Out
  | .ok b S => if b then g ρ S else h ρ S
  | .ex x S => .ex x ρ S
  | .no => .no
def kN (j : Nat) (ρ : Env) : R D → Out
  | .ok d S => .nx (ρ.set j (some d)) S
  | .ex x S => .ex x ρ S
  | .no => .no
def kA (tg : D → SX) (ρ : Env) : R D → Out
  | .ok d S => tgO (tg d ρ S)
  | .ex x S => .ex x ρ S
  | .no => .no
def kIx3 (ρ : Env) : Option Store → Out
  | some S => .nx ρ S
  | none => .no
def kIx2 (o d : D) (ρ : Env) : R D → Out
  | .ok i S => kIx3 ρ (gSet o i d S)
  | .ex x S => .ex x ρ S
  | .no => .no
def kIx1 (f : EX) (d : D) (ρ : Env) : R D → Out
  | .ok o S => kIx2 o d ρ (f ρ S)
  | .ex x S => .ex x ρ S
  | .no => .no
def kE1 (g : D → Store → Option (D × Store)) : R D → R D
  | .ok x S => toR (g x S)
  | .ex x S => .ex x S
  | .no => .no
def kE2 (g : D → D → Store → Option (D × Store)) (x : D) : R D → R D
  | .ok y S => toR (g x y S)
  | .ex x S => .ex x S
  | .no => .no
def kE21 (g : D → D → Store → Option (D × Store)) (fb : EX) (ρ : Env) : R D → R D
  | .ok x S => kE2 g x (fb ρ S)
  | .ex x S => .ex x S
  | .no => .no
def kB (g : List D → Store → Option (D × Store)) : R (List D) → R D
  | .ok xs S => toR (g xs S)
  | .ex x S => .ex x S
  | .no => .no
def kF (F : List D → M D) : R (List D) → R D
  | .ok xs S => F xs S
  | .ex x S => .ex x S
  | .no => .no
def kC (x : D) : R (List D) → R (List D)
  | .ok xs S => .ok (x :: xs) S
  | .ex x S => .ex x S
  | .no => .no
def kC1 (fr : AX) (ρ : Env) : R D → R (List D)
  | .ok x S => kC x (fr ρ S)
  | .ex x S => .ex x S
  | .no => .no
def kM (g : D → List D → Store → Option (D × Store)) (x : D) : R (List D) → R D
  | .ok xs S => toR (g x xs S)
  | .ex x S => .ex x S
  | .no => .no
def kM2 (g : D → List D → Store → Option (D × Store)) (fx : AX) (ρ : Env) (x : D) (S : Store) (T : Ty) : Option Ty → R D
  | some T' => if T' = T then kM g x (fx ρ S) else .no
  | none => .no
def kM1 (g : D → List D → Store → Option (D × Store)) (fx : AX) (ρ : Env) (T : Ty) : R D → R D
  | .ok x S => kM2 g fx ρ x S T (tyD S x)
  | .ex x S => .ex x S
  | .no => .no
def kS3 (x : D) (l : Option Int) : R (Option Int) → R D
  | .ok h S => toR (gSl x l h S)
  | .ex x S => .ex x S
  | .no => .no
def kS2 (x : D) (hi : Env → Store → R (Option Int)) (ρ : Env) : R (Option Int) → R D
  | .ok l S => kS3 x l (hi ρ S)
  | .ex x S => .ex x S
  | .no => .no
def kS1 (lo hi : Env → Store → R (Option Int)) (ρ : Env) : R D → R D
  | .ok x S => kS2 x hi ρ (lo ρ S)
  | .ex x S => .ex x S
  | .no => .no
def kO : R D → R (Option Int)
  | .ok d S => match d with
    | .int i => .ok (some i) S
    | _ => .no
  | .ex x S => .ex x S
  | .no => .no
def kV : R D → R Bool
  | .ok d S => toT S (truD S d)
  | .ex x S => .ex x S
  | .no => .no
def kT : R D → R Bool
  | .ok d S => match d with
    | .bl b => .ok b S
    | _ => .no
  | .ex x S => .ex x S
  | .no => .no
def kAn (u : TX) (ρ : Env) : R Bool → R Bool
  | .ok b S => if b then u ρ S else .ok false S
  | .ex x S => .ex x S
  | .no => .no
def kOr (u : TX) (ρ : Env) : R Bool → R Bool
  | .ok b S => if b then .ok true S else u ρ S
  | .ex x S => .ex x S
  | .no => .no
def kNo : R Bool → R Bool
  | .ok b S => .ok (!b) S
  | .ex x S => .ex x S
  | .no => .no
def kIfE (fa fb : EX) (ρ : Env) : R Bool → R D
  | .ok b S => if b then fa ρ S else fb ρ S
  | .ex x S => .ex x S
  | .no => .no
def kVa2 (fb : EX) (d : D) (ρ : Env) : R Bool → R D
  | .ok b S => if b then fb ρ S else .ok d S
  | .ex x S => .ex x S
  | .no => .no
def kVa (fb : EX) (ρ : Env) : R D → R D
  | .ok d S => kVa2 fb d ρ (toT S (truD S d))
  | .ex x S => .ex x S
  | .no => .no
def kVo2 (fb : EX) (d : D) (ρ : Env) : R Bool → R D
  | .ok b S => if b then .ok d S else fb ρ S
  | .ex x S => .ex x S
  | .no => .no
def kVo (fb : EX) (ρ : Env) : R D → R D
  | .ok d S => kVo2 fb d ρ (toT S (truD S d))
  | .ex x S => .ex x S
  | .no => .no
def kVn2 : R Bool → R D
  | .ok b S => .ok (.bl (!b)) S
  | .ex x S => .ex x S
  | .no => .no
def kVn : R D → R D
  | .ok d S => kVn2 (toT S (truD S d))
  | .ex x S => .ex x S
  | .no => .no
def kH3 (g' : D → D → Store → Option (D × Store)) (y : D) : R D → R D
  | .ok w S => toR (g' y w S)
  | .ex x S => .ex x S
  | .no => .no
def kH2 (g' : D → D → Store → Option (D × Store)) (fc : EX) (y : D) (ρ : Env) : R D → R D
  | .ok z S => match z with
    | .bl b => if b then kH3 g' y (fc ρ S) else .ok (.bl false) S
    | _ => .no
  | .ex x S => .ex x S
  | .no => .no
def kH1 (g g' : D → D → Store → Option (D × Store)) (fc : EX) (x : D) (ρ : Env) : R D → R D
  | .ok y S => kH2 g' fc y ρ (toR (g x y S))
  | .ex x S => .ex x S
  | .no => .no
def kH (g g' : D → D → Store → Option (D × Store)) (fb fc : EX) (ρ : Env) : R D → R D
  | .ok x S => kH1 g g' fc x ρ (fb ρ S)
  | .ex x S => .ex x S
  | .no => .no
/-- an equation that simp takes as a step of its own -/
theorem nr {α : Sort u} {a b : α} (h : a = b) : a = b := h
theorem seq_nx {h : SX} {ρ : Env} {S : Store} : (Out.nx ρ S).seq h = h ρ S := nr rfl
theorem seq_rt {h : SX} {d : D} {S : Store} : (Out.rt d S).seq h = .rt d S := nr rfl
theorem seq_bk {h : SX} {ρ : Env} {S : Store} : (Out.bk ρ S).seq h = .bk ρ S := nr rfl
theorem seq_ct {h : SX} {ρ : Env} {S : Store} : (Out.ct ρ S).seq h = .ct ρ S := nr rfl
theorem seq_ex {h : SX} {x : Exn} {ρ : Env} {S : Store} : (Out.ex x ρ S).seq h = .ex x ρ S := nr rfl
section
variable {ρ : Env} {S : Store} {g h : SX} {f fa fb fc fo : EX} {t u : TX} {fx fr : AX} {i j : Nat} {d x y : D} {tg : D → SX}
theorem sQ_ : sQ g h ρ S = (g ρ S).seq h := nr rfl
theorem sP_ : sP ρ S = .nx ρ S := nr rfl
theorem sE_ : sE f ρ S = kE ρ (f ρ S) := by show (f ρ S).out ρ _ = _; cases f ρ S <;> rfl
theorem sR_ : sR f ρ S = kR ρ (f ρ S) := by show (f ρ S).out ρ _ = _; cases f ρ S <;> rfl
theorem sIf_ : sIf t g h ρ S = kIf g h ρ (t ρ S) := by show (t ρ S).out ρ _ = _; cases t ρ S <;> rfl
theorem sN_ : sN j f ρ S = kN j ρ (f ρ S) := by show (f ρ S).out ρ _ = _; cases f ρ S <;> rfl
theorem sA_ : sA f tg ρ S = kA tg ρ (f ρ S) := by show (f ρ S).out ρ _ = _; cases f ρ S <;> rfl
theorem tgO_nx : tgO (.nx ρ S) = .nx ρ S := nr rfl
theorem nm_ : nm i d ρ S = .nx (ρ.set i (some d)) S := nr rfl
theorem tgIx_ : tgIx fo f d ρ S = kIx1 f d ρ (fo ρ S) := by
  show (fo ρ S).out ρ _ = _
  cases fo ρ S with
  | ok o S1 =>
    show (f ρ S1).out ρ _ = kIx2 o d ρ (f ρ S1)
    cases f ρ S1 with
    | ok i S2 =>
      show (match gSet o i d S2 with | some S3 => Out.nx ρ S3 | none => .no) = kIx3 ρ (gSet o i d S2)
      cases gSet o i d S2 <;> rfl
    | _ => rfl
  | _ => rfl
theorem eC_ : eC d ρ S = .ok d S := nr rfl
theorem eV0 {r : Env} : eV 0 (some d :: r) S = .ok d S := nr rfl
theorem eV1 {a : Option D} {r : Env} {n : Nat} : eV (n + 1) (a :: r) S = eV n r S := nr rfl
theorem e1_ {g : D → Store → Option (D × Store)} : e1 g fa ρ S = kE1 g (fa ρ S) := by show (fa ρ S).bind _ = _; cases fa ρ S <;> rfl
theorem e2_ {g : D → D → Store → Option (D × Store)} : e2 g fa fb ρ S = kE21 g fb ρ (fa ρ S) := by
  show (fa ρ S).bind _ = _
  cases fa ρ S with
  | ok x S1 =>
    show (fb ρ S1).bind _ = kE2 g x (fb ρ S1)
    cases fb ρ S1 <;> rfl
  | _ => rfl
theorem eB_ {g : List D → Store → Option (D × Store)} : eB g fx ρ S = kB g (fx ρ S) := by show (fx ρ S).bind _ = _; cases fx ρ S <;> rfl
theorem eF_ {F : List D → M D} : eF F fx ρ S = kF F (fx ρ S) := by show (fx ρ S).bind _ = _; cases fx ρ S <;> rfl
theorem aN_ : aN ρ S = .ok [] S := nr rfl
theorem aC_ : aC fa fr ρ S = kC1 fr ρ (fa ρ S) := by
  show (fa ρ S).bind _ = _
  cases fa ρ S with
  | ok x S1 =>
    show (fr ρ S1).bind _ = kC x (fr ρ S1)
    cases fr ρ S1 <;> rfl
  | _ => rfl
theorem eMt_ {T : Ty} {g : D → List D → Store → Option (D × Store)} : eMt T g fo fx ρ S = kM1 g fx ρ T (fo ρ S) := by
  show (fo ρ S).bind _ = _
  cases fo ρ S with
  | ok x S1 =>
    show (if tyD S1 x = some T then (fx ρ S1).bind fun xs S2 => toR (g x xs S2) else .no) = kM2 g fx ρ x S1 T (tyD S1 x)
    have q : (fx ρ S1).bind (fun xs S2 => toR (g x xs S2)) = kM g x (fx ρ S1) := by cases fx ρ S1 <;> rfl
    cases tyD S1 x with
    | none => rw [if_neg (fun z => nomatch z)]; rfl
    | some T' =>
      show _ = if T' = T then _ else _
      by_cases e : T' = T
      · rw [if_pos (by rw [e]), if_pos e, q]
      · rw [if_neg (fun z => e (Option.some.inj z)), if_neg e]
  | _ => rfl
theorem eSl_ {lo hi : Env → Store → R (Option Int)} : eSl fa lo hi ρ S = kS1 lo hi ρ (fa ρ S) := by
  show (fa ρ S).bind _ = _
  cases fa ρ S with
  | ok x S1 =>
    show (lo ρ S1).bind _ = kS2 x hi ρ (lo ρ S1)
    cases lo ρ S1 with
    | ok l S2 =>
      show (hi ρ S2).bind _ = kS3 x l (hi ρ S2)
      cases hi ρ S2 <;> rfl
    | _ => rfl
  | _ => rfl
theorem oN_ : oN ρ S = .ok none S := nr rfl
theorem oI_ : oI fa ρ S = kO (fa ρ S) := by show (fa ρ S).bind _ = _; cases fa ρ S <;> rfl
theorem tV_ : tV f ρ S = kV (f ρ S) := by show (f ρ S).bind _ = _; cases f ρ S <;> rfl
theorem tE_ : tE f ρ S = kT (f ρ S) := by show (f ρ S).bind _ = _; cases f ρ S <;> rfl
theorem tA_ : tA t u ρ S = kAn u ρ (t ρ S) := by show (t ρ S).bind _ = _; cases t ρ S <;> rfl
theorem tO_ : tO t u ρ S = kOr u ρ (t ρ S) := by show (t ρ S).bind _ = _; cases t ρ S <;> rfl
theorem tN_ : tN t ρ S = kNo (t ρ S) := by show (t ρ S).bind _ = _; cases t ρ S <;> rfl
theorem eIf_ : eIf t fa fb ρ S = kIfE fa fb ρ (t ρ S) := by show (t ρ S).bind _ = _; cases t ρ S <;> rfl
theorem eAnd_ : eAnd fa fb ρ S = kVa fb ρ (fa ρ S) := by
  show (fa ρ S).bind _ = _
  cases fa ρ S with
  | ok d S1 =>
    show (toT S1 (truD S1 d)).bind _ = kVa2 fb d ρ (toT S1 (truD S1 d))
    cases toT S1 (truD S1 d) <;> rfl
  | _ => rfl
theorem eOr_ : eOr fa fb ρ S = kVo fb ρ (fa ρ S) := by
  show (fa ρ S).bind _ = _
  cases fa ρ S with
  | ok d S1 =>
    show (toT S1 (truD S1 d)).bind _ = kVo2 fb d ρ (toT S1 (truD S1 d))
    cases toT S1 (truD S1 d) <;> rfl
  | _ => rfl
theorem eNot_ : eNot fa ρ S = kVn (fa ρ S) := by
  show (fa ρ S).bind _ = _
  cases fa ρ S with
  | ok d S1 =>
    show (toT S1 (truD S1 d)).bind _ = kVn2 (toT S1 (truD S1 d))
    cases toT S1 (truD S1 d) <;> rfl
  | _ => rfl
theorem eCh_ {g g' : D → D → Store → Option (D × Store)} : eCh g g' fa fb fc ρ S = kH g g' fb fc ρ (fa ρ S) := by
  show (fa ρ S).bind _ = _
  cases fa ρ S with
  | ok x S1 =>
    show (fb ρ S1).bind _ = kH1 g g' fc x ρ (fb ρ S1)
    cases fb ρ S1 with
    | ok y S2 =>
      show (toR (g x y S2)).bind _ = kH2 g' fc y ρ (toR (g x y S2))
      cases toR (g x y S2) with
      | ok z S3 =>
        cases z with
        | bl b =>
          cases b with
          | true =>
            show (fc ρ S3).bind _ = kH3 g' y (fc ρ S3)
            cases fc ρ S3 <;> rfl
          | false => rfl
        | _ => rfl
      | _ => rfl
    | _ => rfl
  | _ => rfl
/-! ### what goes on with an outcome -/
theorem kE_ : kE ρ (.ok d S) = .nx ρ S := nr rfl
theorem kR_ : kR ρ (.ok d S) = .rt d S := nr rfl
theorem kIf_t : kIf g h ρ (.ok true S) = g ρ S := nr rfl
theorem kIf_f : kIf g h ρ (.ok false S) = h ρ S := nr rfl
theorem kN_ : kN j ρ (.ok d S) = .nx (ρ.set j (some d)) S := nr rfl
theorem kA_ : kA tg ρ (.ok d S) = tgO (tg d ρ S) := nr rfl
theorem kIx1_ : kIx1 f d ρ (.ok x S) = kIx2 x d ρ (f ρ S) := nr rfl
theorem kIx2_ : kIx2 x d ρ (.ok y S) = kIx3 ρ (gSet x y d S) := nr rfl
theorem kIx3_ : kIx3 ρ (some S) = .nx ρ S := nr rfl
theorem kE1_ {g : D → Store → Option (D × Store)} : kE1 g (.ok x S) = toR (g x S) := nr rfl
theorem kE21_ {g : D → D → Store → Option (D × Store)} : kE21 g fb ρ (.ok x S) = kE2 g x (fb ρ S) := nr rfl
theorem kE2_ {g : D → D → Store → Option (D × Store)} : kE2 g x (.ok y S) = toR (g x y S) := nr rfl
theorem kB_ {g : List D → Store → Option (D × Store)} {xs : List D} : kB g (.ok xs S) = toR (g xs S) := nr rfl
theorem kF_ {F : List D → M D} {xs : List D} : kF F (.ok xs S) = F xs S := nr rfl
theorem kC1_ : kC1 fr ρ (.ok x S) = kC x (fr ρ S) := nr rfl
theorem kC_ {xs : List D} : kC x (.ok xs S) = .ok (x :: xs) S := nr rfl
theorem kM1_ {T : Ty} {g : D → List D → Store → Option (D × Store)} : kM1 g fx ρ T (.ok x S) = kM2 g fx ρ x S T (tyD S x) := nr rfl
theorem kM2_ {T : Ty} {g : D → List D → Store → Option (D × Store)} : kM2 g fx ρ x S T (some T) = kM g x (fx ρ S) := if_pos rfl
theorem kM_ {g : D → List D → Store → Option (D × Store)} {xs : List D} : kM g x (.ok xs S) = toR (g x xs S) := nr rfl
theorem kS1_ {lo hi : Env → Store → R (Option Int)} : kS1 lo hi ρ (.ok x S) = kS2 x hi ρ (lo ρ S) := nr rfl
theorem kS2_ {hi : Env → Store → R (Option Int)} {l : Option Int} : kS2 x hi ρ (.ok l S) = kS3 x l (hi ρ S) := nr rfl
theorem kS3_ {l h : Option Int} : kS3 x l (.ok h S) = toR (gSl x l h S) := nr rfl
theorem kO_ {i : Int} : kO (.ok (.int i) S) = .ok (some i) S := nr rfl
theorem kV_ : kV (.ok d S) = toT S (truD S d) := nr rfl
theorem kT_ {b : Bool} : kT (.ok (.bl b) S) = .ok b S := nr rfl
theorem kAn_t : kAn u ρ (.ok true S) = u ρ S := nr rfl
theorem kAn_f : kAn u ρ (.ok false S) = .ok false S := nr rfl
theorem kOr_t : kOr u ρ (.ok true S) = .ok true S := nr rfl
theorem kOr_f : kOr u ρ (.ok false S) = u ρ S := nr rfl
theorem kNo_ {b : Bool} : kNo (.ok b S) = .ok (!b) S := nr rfl
theorem kIfE_t : kIfE fa fb ρ (.ok true S) = fa ρ S := nr rfl
theorem kIfE_f : kIfE fa fb ρ (.ok false S) = fb ρ S := nr rfl
theorem kVa_ : kVa fb ρ (.ok d S) = kVa2 fb d ρ (toT S (truD S d)) := nr rfl
theorem kVa2_t : kVa2 fb d ρ (.ok true S) = fb ρ S := nr rfl
theorem kVa2_f : kVa2 fb d ρ (.ok false S) = .ok d S := nr rfl
theorem kVo_ : kVo fb ρ (.ok d S) = kVo2 fb d ρ (toT S (truD S d)) := nr rfl
theorem kVo2_t : kVo2 fb d ρ (.ok true S) = .ok d S := nr rfl
theorem kVo2_f : kVo2 fb d ρ (.ok false S) = fb ρ S := nr rfl
theorem kVn_ : kVn (.ok d S) = kVn2 (toT S (truD S d)) := nr rfl
theorem kVn2_ {b : Bool} : kVn2 (.ok b S) = .ok (.bl (!b)) S := nr rfl
theorem kH_ {g g' : D → D → Store → Option (D × Store)} : kH g g' fb fc ρ (.ok x S) = kH1 g g' fc x ρ (fb ρ S) := nr rfl
theorem kH1_ {g g' : D → D → Store → Option (D × Store)} : kH1 g g' fc x ρ (.ok y S) = kH2 g' fc y ρ (toR (g x y S)) := nr rfl
theorem kH2_t {g' : D → D → Store → Option (D × Store)} : kH2 g' fc y ρ (.ok (.bl true) S) = kH3 g' y (fc ρ S) := nr rfl
theorem kH2_f {g' : D → D → Store → Option (D × Store)} : kH2 g' fc y ρ (.ok (.bl false) S) = .ok (.bl false) S := nr rfl
theorem kH3_ {g' : D → D → Store → Option (D × Store)} : kH3 g' y (.ok x S) = toR (g' y x S) := nr rfl
theorem toT_some {b : Bool} : toT S (some b) = .ok b S := nr rfl
theorem truD_bl {b : Bool} : truD S (.bl b) = some b := nr rfl
theorem truD_int {b : Int} : truD S (.int b) = some (b != 0) := nr rfl
theorem truD_tup {xs : List D} : truD S (.tup xs) = some (!xs.isEmpty) := nr rfl
theorem tyD_str {a : Str} : tyD S (.str a) = some .str := nr rfl
theorem tyD_tup {a : List D} : tyD S (.tup a) = some .tup := nr rfl
theorem tyD_int {a : Int} : tyD S (.int a) = some .int := nr rfl
theorem tyD_bl {a : Bool} : tyD S (.bl a) = some .bl := nr rfl
theorem tyD_non : tyD S .non = some .non := nr rfl
theorem tyD_lst {l : Nat} {xs : List D} (h : S[l]? = some (.lst xs)) : tyD S (.ref l) = some .lst := by unfold tyD; simp only [h]
theorem lstAt_lst {l : Nat} {xs : List D} (h : S[l]? = some (.lst xs)) : lstAt S l = some xs := by unfold lstAt; rw [h]
theorem gAdd_int {a b : Int} : gAdd (.int a) (.int b) S = some (.int (a + b), S) := nr rfl
theorem gAdd_str {a b : Str} (h : a.length + b.length ≤ 16777216) : gAdd (.str a) (.str b) S = some (.str (a ++ b), S) := if_pos h
theorem gAdd_tup {xs ys : List D} (h0 : 0 < xs.length) (h : xs.length + ys.length ≤ 16777216) : gAdd (.tup xs) (.tup ys) S = some (.tup (xs ++ ys), S) := by
  cases xs with
  | nil => exact absurd h0 (Nat.lt_irrefl _)
  | cons x xs => exact if_pos h
theorem gAdd_tup0 {ys : List D} : gAdd (.tup []) (.tup ys) S = some (.tup ys, S) := nr rfl
theorem gAdd_lst {l k : Nat} {xs ys : List D} (h1 : S[l]? = some (.lst xs)) (h2 : S[k]? = some (.lst ys)) (h : xs.length + ys.length ≤ 16777216) : gAdd (.ref l) (.ref k) S = some (.ref S.length, S ++ [.lst (xs ++ ys)]) := by
  show catL S l k = _
  unfold catL
  rw [h1, h2]
  exact if_pos h
theorem gSub_int {a b : Int} : Dl.gSub (.int a) (.int b) S = some (.int (a - b), S) := nr rfl
theorem gMul_l {a b : Int} (h0 : 0 ≤ a) (h1 : a < 18446744073709551616) : gMul (.int a) (.int b) S = some (.int (a * b), S) := if_pos (.inl ⟨by omega, by omega⟩)
theorem gMul_r {a b : Int} (h0 : 0 ≤ b) (h1 : b < 18446744073709551616) : gMul (.int a) (.int b) S = some (.int (a * b), S) := if_pos (.inr ⟨by omega, by omega⟩)
theorem gFdiv_int {a b : Int} (h0 : 0 < b) (h1 : b < 1073741824) : gFdiv (.int a) (.int b) S = some (.int (a / b), S) := if_pos ⟨h0, h1⟩
theorem gMod_int {a b : Int} (h0 : 0 < b) : gMod (.int a) (.int b) S = some (.int (a % b), S) := if_pos h0
theorem gLt_int {a b : Int} : gLt (.int a) (.int b) S = some (.bl (decide (a < b)), S) := nr rfl
theorem gLe_int {a b : Int} : gLe (.int a) (.int b) S = some (.bl (decide (a ≤ b)), S) := nr rfl
theorem gGt_int {a b : Int} : gGt (.int a) (.int b) S = some (.bl (decide (b < a)), S) := nr rfl
theorem gGe_int {a b : Int} : gGe (.int a) (.int b) S = some (.bl (decide (b ≤ a)), S) := nr rfl
theorem gInt_int {a : Int} : gInt [.int a] S = some (.int a, S) := nr rfl
theorem gAbs_int {a : Int} : gAbs [.int a] S = some (.int (if a < 0 then -a else a), S) := nr rfl
theorem gLen_tup {xs : List D} : gLen [.tup xs] S = some (.int xs.length, S) := nr rfl
theorem gLen_str {x : Str} : gLen [.str x] S = some (.int x.length, S) := nr rfl
theorem gLen_lst {l : Nat} {xs : List D} (h : lstAt S l = some xs) : gLen [.ref l] S = some (.int xs.length, S) := by show Option.map _ (lstAt S l) = _; rw [h]; rfl
theorem gTpl_ {xs : List D} (h : xs.length ≤ 16777216) : gTpl xs S = some (.tup xs, S) := if_pos h
theorem gLsd_ {xs : List D} (h : xs.length ≤ 16777216) : gLsd xs S = some (.ref S.length, S ++ [.lst xs]) := if_pos h
theorem gIx_tup {xs : List D} {k : Int} (h : atI xs k = some d) : gIx (.tup xs) (.int k) S = some (d, S) := by show Option.map _ (atI xs k) = _; rw [h]; rfl
theorem gIx_lst {l : Nat} {xs : List D} {k : Int} (h : lstAt S l = some xs) (h2 : atI xs k = some d) : gIx (.ref l) (.int k) S = some (d, S) := by
  show (lstAt S l).bind (fun xs => (atI xs k).map fun d => (d, S)) = _
  rw [h]
  show Option.map _ (atI xs k) = _
  rw [h2]
  rfl
theorem gIx_str {x : Str} {k : Int} {c : Nat} (h : atI x.cps.toList k = some c) : gIx (.str x) (.int k) S = some (.str ⟨#[c]⟩, S) := by show Option.map _ (atI x.cps.toList k) = _; rw [h]; rfl
theorem gSet_lst {l : Nat} {xs : List D} {k : Int} {m : Nat} (h : S[l]? = some (.lst xs)) (h2 : ixN xs.length k = some m) : gSet (.ref l) (.int k) d S = some (S.set l (.lst (xs.set m d))) := by
  show (match S[l]? with | some (.lst xs) => (ixN xs.length k).map fun j => S.set l (.lst (xs.set j d)) | _ => none) = _
  rw [h]
  show Option.map _ (ixN xs.length k) = _
  rw [h2]
  rfl
theorem gAppend_ {l : Nat} {xs : List D} (h : S[l]? = some (.lst xs)) (hz : xs.length < 16777216) : gAppend (.ref l) [d] S = some (.non, S.set l (.lst (xs ++ [d]))) := by
  show (match S[l]? with | some (.lst xs) => if xs.length < LIM then some (D.non, S.set l (.lst (xs ++ [d]))) else none | _ => none) = _
  rw [h]
  exact if_pos hz
theorem tgT_ {ts : List (D → SX)} {ds : List D} (h : ds.length = ts.length) : tgT ts (.tup ds) ρ S = tgL ts ds ρ S := by
  show (if ds.length = ts.length then tgL ts ds else sNo) ρ S = _
  rw [if_pos h]
theorem tgL0 : tgL [] [] ρ S = .nx ρ S := nr rfl
theorem tgL1 {ts : List (D → SX)} {ds : List D} {j : Nat} : tgL (nm j :: ts) (d :: ds) ρ S = tgL ts ds (ρ.set j (some d)) S := nr rfl
/-! ### what a def leaves -/
theorem runB_rt {np ns : Nat} {ds : List D} {S' : Store} (h : ds.length = np) (hg : g (ds.map some ++ List.replicate (ns - np) none) S = .rt d S') : runB np ns g ds S = cmp S.length d S' := by
  unfold runB
  rw [if_pos h, hg]
theorem runB_nx {np ns : Nat} {ds : List D} {ρ' : Env} {S' : Store} (h : ds.length = np) (hg : g (ds.map some ++ List.replicate (ns - np) none) S = .nx ρ' S') : runB np ns g ds S = cmp S.length D.non S' := by
  unfold runB
  rw [if_pos h, hg]
theorem cmp_same {n : Nat} (h : S.length = n) (w : d.wf n = true) : cmp n d S = .ok d S := by
  unfold cmp
  rw [← h, List.take_length]
  split
  · rw [if_pos (by rw [h]; exact w)]
  · rfl
theorem cmp_more {n : Nat} {T : Store} (h : S.length = n) (wS : SWf n S = true) (w : d.wf n = true) : cmp n d (S ++ T) = .ok d S := by
  unfold cmp
  rw [← h, List.take_left' rfl]
  rw [if_pos (by rw [h]; exact wS), if_pos (by rw [h]; exact w)]
theorem cmp_new {n l : Nat} {T : Store} {xs : List D} (h : S.length = n) (wS : SWf n S = true) (hl : n ≤ l) (hx : (S ++ T)[l]? = some (.lst xs)) (w : wfs n xs = true) : cmp n (.ref l) (S ++ T) = .ok (.ref n) (S ++ [.lst xs]) := by
  unfold cmp
  have e : (S ++ T).take n = S := by rw [← h]; exact List.take_left' rfl
  rw [e, if_pos wS, if_neg (show ¬ (D.ref l).wf n = true from fun z => by
    have z' : l < n := of_decide_eq_true z
    omega)]
  simp only [hx, newCell, w, if_true]
mutual
theorem wf_flat {n : Nat} : ∀ {d : D}, d.flat = true → d.wf n = true
  | .non, _ => rfl
  | .bl _, _ => rfl
  | .int _, _ => rfl
  | .str _, _ => rfl
  | .tup xs, h => wfs_flat (show flats xs = true from h)
  | .ref _, h => nomatch h
  | .raw _, _ => rfl
theorem wfs_flat {n : Nat} : ∀ {ds : List D}, flats ds = true → wfs n ds = true
  | [], _ => rfl
  | d :: ds, h => by
    have h' : (d.flat && flats ds) = true := h
    rw [Bool.and_eq_true] at h'
    show (d.wf n && wfs n ds) = true
    rw [wf_flat h'.1, wfs_flat h'.2]
    rfl
end
/-- all cells hold flat data -/
def Cell.flat : Cell → Bool
  | .lst xs => flats xs
  | .rol xs => flats xs
  | .dic kvs => flats (kvs.map (·.2))
  | .gone => true
def SFlat (S : Store) : Prop := ∀ c ∈ S, Cell.flat c = true
theorem SFlat.wf {n : Nat} (h : SFlat S) : SWf n S = true := by
  refine List.all_eq_true.mpr fun c hc => ?_
  have q := h c hc
  cases c with
  | lst xs => exact wfs_flat q
  | rol xs => exact wfs_flat q
  | dic kvs => exact wfs_flat q
  | gone => rfl
theorem SFlat.set {c : Cell} (h : SFlat S) (hc : c.flat = true) : SFlat (S.set i c) := fun x hx => by
  rcases List.mem_or_eq_of_mem_set hx with q | q
  · exact h x q
  · rw [q]; exact hc
theorem SFlat.push {c : Cell} (h : SFlat S) (hc : c.flat = true) : SFlat (S ++ [c]) := fun x hx => by
  rcases List.mem_append.mp hx with q | q
  · exact h x q
  · rw [List.mem_singleton.mp q]; exact hc
end
end Dl

set_option Elab.async false
set_option linter.all false
set_option maxRecDepth 100000
namespace Dl
open PySem L2
/-! ## tools -/
theorem set_self {S : Store} {p : Nat} {c : Cell} (h : S[p]? = some c) : S.set p c = S := by
  apply List.ext_getElem?
  intro i
  by_cases e : p = i
  · subst e
    rw [List.getElem?_set_self (List.getElem?_eq_some_iff.mp h).1, h]
  · rw [List.getElem?_set_ne e]
theorem get_lt {α : Type} {S : List α} {p : Nat} {c : α} (h : S[p]? = some c) : p < S.length := (List.getElem?_eq_some_iff.mp h).1
theorem get_set {S : Store} {p : Nat} {c d : Cell} (h : S[p]? = some c) : (S.set p d)[p]? = some d := List.getElem?_set_self (get_lt h)
theorem get_app {α : Type} {S T : List α} {p : Nat} {c : α} (h : S[p]? = some c) : (S ++ T)[p]? = some c := by
  rw [List.getElem?_append_left (get_lt h)]
  exact h
theorem set_app {S T : Store} {p : Nat} {c d : Cell} (h : S[p]? = some c) : (S ++ T).set p d = S.set p d ++ T := List.set_append_left _ _ (get_lt h)
theorem get_end {S : Store} {c : Cell} : (S ++ [c])[S.length]? = some c := by rw [List.getElem?_append_right (Nat.le_refl _), Nat.sub_self]; rfl
theorem set_end {S : Store} {c d : Cell} : (S ++ [c]).set S.length d = S ++ [d] := by rw [List.set_append_right _ _ (Nat.le_refl _), Nat.sub_self]; rfl
theorem atI_of {α : Type} {xs : List α} {k : Int} {v : α} (h0 : 0 ≤ k) (h : xs[k.toNat]? = some v) : atI xs k = some v := by
  have e : k = ((k.toNat : Nat) : Int) := by omega
  rw [e]
  exact atI_nat h
theorem atI_in {α : Type} {xs : List α} {k : Int} (h0 : 0 ≤ k) (h1 : k < xs.length) : ∃ v, atI xs k = some v ∧ v ∈ xs := by
  have hk : k.toNat < xs.length := by omega
  exact ⟨xs[k.toNat], atI_of h0 (List.getElem?_eq_getElem hk), List.getElem_mem hk⟩
theorem chk_nil {S : Store} : chkOk [] S := fun _ h => nomatch h
theorem chk_one {S : Store} {l : Nat} {xs : List D} (h : lstAt S l = some xs) : chkOk [(l, xs)] S := fun p hp => by rw [List.mem_singleton.mp hp]; exact h
section
variable {tg : D → SX} {body : SX} {k : Chk} {d : D} {ds : List D} {ρ ρ1 ρ2 : Env} {S S1 S2 : Store}
theorem runF_nil (h : chkOk k S) : runF tg body k [] ρ S = .nx ρ S := by unfold runF; rw [if_pos h]
theorem runF_cons (h : chkOk k S) (ht : tg d ρ S = .nx ρ1 S1) (hb : body ρ1 S1 = .nx ρ2 S2) : runF tg body k (d :: ds) ρ S = runF tg body k ds ρ2 S2 := by
  rw [runF, if_pos h, ht]
  show (match body ρ1 S1 with | .nx ρ2 S2 => runF tg body k ds ρ2 S2 | .ct ρ2 S2 => runF tg body k ds ρ2 S2 | .bk ρ2 S2 => .nx ρ2 S2 | o => o) = _
  rw [hb]
theorem sF_ok {src : IX} {p : List D × Chk} {S' : Store} (h : src ρ S = .ok p S') : sF src tg body ρ S = runF tg body p.2 p.1 ρ S' := by
  show (src ρ S).out ρ _ = _
  rw [h]
  rfl
theorem iR1_ok {f : EX} {j : Int} {S' : Store} (h : f ρ S = .ok (.int j) S') (h0 : 0 ≤ j) (h1 : j < 1000000000) : iR1 f ρ S = .ok (rng 0 j.toNat, []) S' := by
  show (f ρ S).bind _ = _
  rw [h]
  exact if_pos ⟨by omega, by omega⟩
theorem iA_lst {f : EX} {l : Nat} {S' : Store} {xs : List D} (h : f ρ S = .ok (.ref l) S') (hl : lstAt S' l = some xs) : iA f ρ S = .ok (xs, [(l, xs)]) S' := by
  show (f ρ S).bind _ = _
  rw [h]
  show (match lstAt S' l with | some xs => R.ok (xs, [(l, xs)]) S' | none => .no) = _
  rw [hl]
theorem iA_tup {f : EX} {S' : Store} {xs : List D} (h : f ρ S = .ok (.tup xs) S') : iA f ρ S = .ok (xs, []) S' := by
  show (f ρ S).bind _ = _
  rw [h]
  rfl
theorem iA_str {f : EX} {S' : Store} {x : Str} (h : f ρ S = .ok (.str x) S') : iA f ρ S = .ok (x.cps.toList.map fun c => .str ⟨#[c]⟩, []) S' := by
  show (f ρ S).bind _ = _
  rw [h]
  rfl
/-- over a range -/
theorem rng_succ (n : Nat) (lo : Int) : rng lo (n + 1) = .int lo :: rng (lo + 1) n := by
  unfold rng
  rw [List.range_succ_eq_map, List.map_cons, List.map_map]
  congr 1
  · simp
  · apply List.map_congr_left
    intro i _
    show D.int (lo + ((i + 1 : Nat) : Int)) = .int (lo + 1 + (i : Nat))
    congr 1
    omega
theorem rng_length (n : Nat) (lo : Int) : (rng lo n).length = n := by unfold rng; rw [List.length_map, List.length_range]
/-- a comprehension over items that leaves the store as it is: the items' values -/
theorem runC_map {l : Nat} {g : Cg} {ft : TX} {fe : EX} (val : D → D) (keep : D → Bool) : ∀ (ds acc : List D) (T : Store), SFlat T → l = T.length → acc.length + ds.length ≤ 1000000 → (∀ S, chkOk k T → chkOk k (T ++ S)) → chkOk k T →
    (∀ d ∈ ds, ∃ ρ1, g.put d ρ = some ρ1 ∧ ∀ a, ft ρ1 (T ++ [.lst a]) = .ok (keep d) (T ++ [.lst a]) ∧ (keep d = true → fe ρ1 (T ++ [.lst a]) = .ok (val d) (T ++ [.lst a]))) →
    runC l ρ g ft fe k ds (T ++ [.lst acc]) = .ok (.ref l) (T ++ [.lst (acc ++ (ds.filter keep).map val)])
  | [], acc, T, hT, hl, hz, hk, hk0, _ => by
    unfold runC
    rw [if_pos (hk _ hk0)]
    simp
  | d :: ds, acc, T, hT, hl, hz, hk, hk0, hd => by
    obtain ⟨ρ1, h1, h2⟩ := hd d (List.mem_cons_self ..)
    obtain ⟨h3, h4⟩ := h2 acc
    have hz' : acc.length + (ds.length + 1) ≤ 1000000 := hz
    unfold runC
    rw [if_pos (hk _ hk0)]
    simp only [h1, h3]
    cases hkd : keep d with
    | false =>
      simp only
      rw [runC_map val keep ds acc T hT hl (by omega) hk hk0 fun x hx => hd x (List.mem_cons_of_mem _ hx), List.filter_cons_of_neg (by rw [hkd]; exact Bool.false_ne_true)]
    | true =>
      have h4' := h4 hkd
      subst hl
      simp only [h4', get_end]
      rw [if_pos (show acc.length < LIM by show acc.length < 16777216; omega), set_end, runC_map val keep ds (acc ++ [val d]) T hT rfl (by rw [List.length_append]; simp only [List.length_singleton]; omega) hk hk0 fun x hx => hd x (List.mem_cons_of_mem _ hx),
        List.filter_cons_of_pos hkd, List.map_cons, List.append_assoc]
      rfl
theorem eLc_ok {vs : List Nat} {src : IX} {g : Cg} {ft : TX} {fe : EX} {p : List D × Chk} {S' : Store} (h : src ρ S = .ok p S') : eLc vs src g ft fe ρ S = runC S'.length (wipeD ρ vs) g ft fe p.2 p.1 (S' ++ [.lst []]) := by
  show (src ρ S).bind _ = _
  rw [h]
  rfl
end
end Dl

set_option Elab.async false
set_option linter.all false
set_option maxRecDepth 100000
namespace Dl
open PySem L2
/-! ## exceptions -/
def sX (x : Str) : SX := fun ρ S => .ex ⟨x, []⟩ ρ S
/-- what the written part says of an own error class without own __init__ -/
structure XCls (K : PySem.W.Frag) (mg : Str → Option Value) (x : Str) (bm : List Value) (nid : String) (C : Addr) : Prop where
  m : mg x = some (.ref C)
  q : PySem.W.excIn K C bm nid = true
  k : PySem.W.keepIn K (.ref C) = true
  s : PySem.W.subIn K (.ref C) (.type "BaseException") = some true
  t : PySem.W.typeIn K (.ref C) = some (.type "type")
section
variable {X : Cx} {W : WX} {C : Addr} {bm : List Value} {B nid iid : String}
theorem t_raise {x m : Str} {j : Nat} {p p2 pos pos2 : Pos} (hc : X.calm = true) (tk : Takes X W) (F : ExcBaseFacts B nid iid bm) (T : XCls X.K X.mg x bm nid C) (hg : Gl X x) (hdb : (x == ("__debug__" : Str)) = false := by decide) :
    PS X (.Raise (some (.Call (.Name x p) [.Constant (.str m) j p2] [] pos)) none pos2) (rdS (X.cq W) (sX x)) :=
  PSwk (ps_raise hc tk (pmk_own F T.q T.m T.k (raises_own T.s T.t) hg hdb)) fun Dn σ H ⟨m, ρ, S, re, rs, h⟩ => h (.ref C) none σ H m .refl re rs ⟨T.m, rfl⟩
end
/-- a slot laid bare -/
def clr (i : Nat) : Out → Out
  | .nx ρ S => .nx (ρ.set i none) S
  | .bk ρ S => .bk (ρ.set i none) S
  | .ct ρ S => .ct (ρ.set i none) S
  | .rt d S => .rt d S
  | _ => .no
abbrev Tab := List (Str × Bool × (Addr → SX))
/-- try: g; except .. as slot i: by the table -/
def sTry (i : Nat) (L : Tab) (g : SX) : SX := fun ρ S => match g ρ S with
  | .ex x ρ1 S1 => match x.fs, L.lookup x.name with
    | [], some (true, su) => clr i (su 0 (ρ1.set i (some (.raw (.ref 0)))) S1)
    | [], some (false, _) => .ex x ρ1 S1
    | _, _ => .no
  | o => o
theorem re_unset {K : PySem.W.Frag} {m : List Addr} {H : Hp} {σ : St} {ρ : Env} (r : RE K m H σ ρ) (i : Nat) : RE K m H (σ.set i none) (ρ.set i none) := by
  refine ⟨by rw [List.length_set, List.length_set]; exact r.len, fun {j d'} e => ?_⟩
  by_cases z : i = j
  · subst z
    rw [List.getElem?_set] at e
    split at e
    · split at e
      · cases e
      · cases e
    · exact absurd rfl (by assumption)
  · rw [List.getElem?_set_ne z] at e
    obtain ⟨v, h1, h2⟩ := r.at_ e
    exact ⟨v, by rw [List.getElem?_set_ne z]; exact h1, h2⟩
structure TryEnt (X : Cx) (W : WX) (c : Value) (i : Nat) (suite : List Stmt) (p : Str × Bool × (Addr → SX)) : Prop where
  cls : ∃ C, X.mg p.1 = some (.ref C) ∧ PySem.W.exmOne X.K (.ref C) c = some p.2.1 ∧
    (p.2.1 = true → ∀ (a : Addr) (oe : Obj) (pn : List (Addr × Obj)), Zc (.ref C) none oe → (∃ vs, oe.data = .fields vs) → PSs (X.suite a ((a, oe) :: pn)) suite (rdS ((X.suite a ((a, oe) :: pn)).cq W0) (p.2.2 a)))
  sim : p.2.1 = true → ∀ (a : Addr) (ρ : Env) (S : Store), clr i (p.2.2 a (ρ.set i (some (.raw (.ref a)))) S) = clr i (p.2.2 0 (ρ.set i (some (.raw (.ref 0)))) S)
inductive Ents (X : Cx) (W : WX) (c : Value) (i : Nat) (suite : List Stmt) : Tab → Prop
  | nil : Ents X W c i suite []
  | cons {p : Str × Bool × (Addr → SX)} {L : Tab} (h : TryEnt X W c i suite p) (t : Ents X W c i suite L) : Ents X W c i suite (p :: L)
theorem Ents.all {X : Cx} {W : WX} {c : Value} {i : Nat} {suite : List Stmt} : ∀ {L : Tab}, Ents X W c i suite L → ∀ p ∈ L, TryEnt X W c i suite p
  | _, .cons h t, p, hp => by
    rcases List.mem_cons.mp hp with rfl | hp
    · exact h
    · exact t.all p hp
theorem ent_t {X : Cx} {W : WX} {c : Value} {i : Nat} {suite : List Stmt} {R : Str} {su : Addr → SX} {C : Addr} (m : X.mg R = some (.ref C)) (x : PySem.W.exmOne X.K (.ref C) c = some true)
    (h : ∀ (a : Addr) (oe : Obj) (pn : List (Addr × Obj)), Zc (.ref C) none oe → (∃ vs, oe.data = .fields vs) → PSs (X.suite a ((a, oe) :: pn)) suite (rdS ((X.suite a ((a, oe) :: pn)).cq W0) (su a)))
    (s : ∀ (a : Addr) (ρ : Env) (S : Store), clr i (su a (ρ.set i (some (.raw (.ref a)))) S) = clr i (su 0 (ρ.set i (some (.raw (.ref 0)))) S)) : TryEnt X W c i suite (R, true, su) := ⟨⟨C, m, x, fun _ => h⟩, fun _ => s⟩
theorem ent_f {X : Cx} {W : WX} {c : Value} {i : Nat} {suite : List Stmt} {R : Str} {su : Addr → SX} {C : Addr} (m : X.mg R = some (.ref C)) (x : PySem.W.exmOne X.K (.ref C) c = some false) : TryEnt X W c i suite (R, false, su) :=
  ⟨⟨C, m, x, fun h => nomatch h⟩, fun h => nomatch h⟩
theorem lookup_mem {α : Type} {x : Str} {v : α} : ∀ {L : List (Str × α)}, L.lookup x = some v → (x, v) ∈ L
  | (y, w) :: L, h => by
    rw [List.lookup_cons] at h
    cases e : x == y with
    | true => rw [e] at h; cases h; rw [show x = y from LawfulBEq.eq_of_beq e]; exact List.mem_cons_self ..
    | false => rw [e] at h; exact List.mem_cons_of_mem _ (lookup_mem h)
section
variable {X : Cx} {W : WX} {x n : Str} {c : Value} {i : Nat} {body suite : List Stmt} {b₀ : Stmt} {np pos pos' : Pos} {g : SX} {L : Tab}
theorem t_try (hs : X.stack = X.env :: X.outer) (hf : X.env.frame = some X.env.locals) (hN : X.N.Nodup) (hi : X.N[i]? = some n) (hln : X.env.kindOf n = some .local) (hc : Names X x c) (tk : Takes X W)
    (hb : ∀ (W : WX) (pn : List (Addr × Obj)) (xe : Value → Shared → Prop), Takes (X.tr pn xe) W → PassesOwn (model X.prog X.w) X.A X.env xe → PSs (X.tr pn xe) body (rdS ((X.tr pn xe).cq W) g))
    (hLs : Ents X W c i (b₀ :: suite) L) :
    PS X (.Try body [.ExceptHandler (some (.Name x np)) (some n) (b₀ :: suite) pos'] [] [] pos) (rdS (X.cq W) (sTry i L g)) := by
  have hL := hLs.all
  refine PSwk (ps_try_as (tb := fun W' => rdS ⟨X.K, X.mg, W'⟩ g) (ts := fun a cls d => fun D σ H => d = none ∧ ∃ p ∈ L, X.mg p.1 = some cls ∧ p.2.1 = true ∧ rdS ⟨X.K, X.mg, W0⟩ (p.2.2 a) D σ H) hs hf hN hi hln hc tk hb fun a oe cls d pn hz hv => ⟨fun pins s σ H D I ⟨hd, p, hp, hm, ht, q⟩ => ?_⟩) fun Dn σ H ⟨m, ρ, S, re, rs, h⟩ => ⟨m, ρ, S, re, rs, ?_⟩
  · obtain ⟨C, h1, h2, h3⟩ := (hL p hp).cls
    rw [h1] at hm
    cases hm
    subst hd
    exact (h3 ht a oe pn hz hv).run pins s σ H D I q
  · have h : PostS (X.cq W) m H Dn (match g ρ S with
      | .ex x ρ1 S1 => match x.fs, L.lookup x.name with
        | [], some (true, su) => clr i (su 0 (ρ1.set i (some (.raw (.ref 0)))) S1)
        | [], some (false, _) => .ex x ρ1 S1
        | _, _ => .no
      | o => o) := h
    cases e : g ρ S with
    | ex z ρ1 S1 =>
      rw [e] at h
      simp only at h
      intro cls dd σ1 H1 m1 ex1 re1 rs1 rx
      obtain ⟨rx1, rx2⟩ := rx
      split at h
      · rename_i su efs el
        have hm := lookup_mem el
        obtain ⟨C, h1, h2, h3⟩ := (hL _ hm).cls
        have sim := (hL _ hm).sim rfl
        rw [efs] at rx2
        have h1' : X.mg z.name = some (.ref C) := h1
        have rx1' : X.mg z.name = some cls := rx1
        rw [h1'] at rx1'
        cases rx1'
        refine ⟨true, h2, fun _ a ha => ⟨rx2, _, hm, h1, rfl, ?_⟩, (fun q => nomatch q)⟩
        refine ⟨m1, ρ1.set i (some (.raw (.ref a))), S1, re1.set (.raw _) i, rs1, ?_⟩
        rw [← sim a ρ1 S1] at h
        have h := PostS.mono (c := X.cq W) (m1 := m1) (H1 := H1) ex1 h
        revert h
        show PostS (X.cq W) m1 H1 Dn (clr i (su a _ S1)) → PostS _ m1 H1 _ (su a _ S1)
        cases su a (ρ1.set i (some (.raw (.ref a)))) S1 with
        | nx ρ' S' => exact fun h σ' H' m' e re rs => h _ H' m' e (re_unset re i) rs
        | bk ρ' S' => exact fun h σ' H' m' e re rs => h _ H' m' e (re_unset re i) rs
        | ct ρ' S' => exact fun h σ' H' m' e re rs => h _ H' m' e (re_unset re i) rs
        | rt d S' => exact fun h => h
        | ex x ρ' S' => exact fun h => h.elim
        | no => exact fun h => h.elim
      · rename_i su efs el
        have hm := lookup_mem el
        obtain ⟨C, h1, h2, h3⟩ := (hL _ hm).cls
        have h1' : X.mg z.name = some (.ref C) := h1
        have rx1' : X.mg z.name = some cls := rx1
        rw [h1'] at rx1'
        cases rx1'
        exact ⟨false, h2, (fun q => nomatch q), fun _ => h (.ref C) dd σ1 H1 m1 ex1 re1 rs1 ⟨h1', rx2⟩⟩
      · exact h.elim
    | nx ρ1 S1 => rw [e] at h; exact h
    | bk ρ1 S1 => rw [e] at h; exact h
    | ct ρ1 S1 => rw [e] at h; exact h
    | rt d S1 => rw [e] at h; exact h
    | no => rw [e] at h; exact h
end
/-- isinstance's answers, from what k_is finds -/
theorem kit_t {K : PySem.W.Frag} {R C : Addr} (hd : PySem.W.hasDictIn K C = true) (ht : PySem.W.typeIn K (.ref C) = some (.type "type")) (h : PySem.W.subIn K (.ref R) (.ref C) = some true) : PySem.W.kitOne K (.ref R) (.ref C) = some true := by
  obtain ⟨cd, hc, _⟩ := PySem.W.any_some hd
  have e2 : ((PySem.W.clsIn K C).isSome && PySem.W.typeIn K (.ref C) == some (.type "type")) = true := by rw [hc, ht] <;> rfl
  show (if (Value.ref R == Value.ref C) = true then some true else if ((PySem.W.clsIn K C).isSome && PySem.W.typeIn K (.ref C) == some (.type "type")) = true then PySem.W.subIn K (.ref R) (.ref C) else none) = some true
  by_cases e : (Value.ref R == Value.ref C) = true
  · rw [if_pos e]
  · rw [if_neg e, if_pos e2]; exact h
theorem kit_f {K : PySem.W.Frag} {R C : Addr} (hd : PySem.W.hasDictIn K C = true) (ht : PySem.W.typeIn K (.ref C) = some (.type "type")) (h : PySem.W.subIn K (.ref R) (.ref C) = some false) (hn : (Value.ref R == Value.ref C) = false) : PySem.W.kitOne K (.ref R) (.ref C) = some false := by
  obtain ⟨cd, hc, _⟩ := PySem.W.any_some hd
  have e2 : ((PySem.W.clsIn K C).isSome && PySem.W.typeIn K (.ref C) == some (.type "type")) = true := by rw [hc, ht] <;> rfl
  show (if (Value.ref R == Value.ref C) = true then some true else if ((PySem.W.clsIn K C).isSome && PySem.W.typeIn K (.ref C) == some (.type "type")) = true then PySem.W.subIn K (.ref R) (.ref C) else none) = some false
  rw [hn, if_neg Bool.false_ne_true, if_pos e2]
  exact h
theorem kit_b {K : PySem.W.Frag} {R : Addr} {T : String} {b : Bool} (hm : PySem.W.kitMeta T = true) (h : PySem.W.subIn K (.ref R) (.type T) = some b) : PySem.W.kitOne K (.ref R) (.type T) = some b := by
  show (if (Value.ref R == Value.type T) = true then some true else if PySem.W.kitMeta T = true then PySem.W.subIn K (.ref R) (.type T) else none) = some b
  rw [show (Value.ref R == Value.type T) = false from rfl, if_neg Bool.false_ne_true, if_pos hm]
  exact h
/-! ### isinstance of the error that the suite holds -/
def eIs (i : Nat) (a : Addr) (b : Bool) : EX := fun ρ S => match ρ[i]? with
  | some (some (.raw (.ref a'))) => if a' = a then .ok (.bl b) S else .no
  | _ => .no
def gIsE (a : Addr) (cv : V) (b : Bool) : List D → Store → Option (D × Store)
  | [.raw x, .raw y], S => if x = .ref a ∧ y = cv then some (.bl b, S) else none
  | _, _ => none
section
variable {X : Cx} {C : Addr} {a : Addr} {oe : Obj} {pn : List (Addr × Obj)} {cv : V} {cu : Value} {b : Bool}
theorem c_isE (E : ExcC X.K C) (hz : Zc (.ref C) none oe) (hf : ∃ vs, oe.data = .fields vs) (hk : PySem.W.kitOne X.K (.ref C) cu = some b) (hr : ∀ u, RelV cv u → u = cu) :
    CallR (X.suite a ((a, oe) :: pn)) (.builtin "isinstance") (rdC X.K (gIsE a cv b)) := by
  intro pins s σ H vs us Q I r ⟨m, xs, S, hx, rs, h⟩
  unfold gIsE at h
  split at h
  · rename_i x y
    split at h
    · rename_i hc
      obtain ⟨rfl, rfl⟩ := hc
      cases hx with
      | cons h1 h2 =>
        cases h2 with
        | cons h3 h4 =>
          cases h4
          cases h1 with
          | raw =>
            cases h3 with
            | raw => exact call_isE E hz hf pins s σ H _ us Q I r ⟨_, cu, b, rfl, hr, hk, h _ _ m .refl rs (.bl b)⟩
    · exact h.elim
  · exact h.elim
theorem d_isE {i : Nat} {e1 e2 : Expr} {p pos : Pos} (E : ExcC X.K C) (hz : Zc (.ref C) none oe) (hf : ∃ vs, oe.data = .fields vs) (hk : PySem.W.kitOne X.K (.ref C) cu = some b) (hr : ∀ u, RelV cv u → u = cu)
    (hg : Gl (X.suite a ((a, oe) :: pn)) "isinstance") (hm : X.mg "isinstance" = none) (hv : bootBuiltins "isinstance" = some (.builtin "isinstance"))
    (ha : PA (X.suite a ((a, oe) :: pn)) [e1, e2] (rdA ((X.suite a ((a, oe) :: pn)).cq W0) (aC (eV i) (aC (eC (.raw cv)) aN))))
    (he : starEach (e1 :: [e2]) X.env = (false, eval e1 X.env) :: starEach [e2] X.env := by rfl) (hpl : (backTo pos (starEach [e2] X.env)).any (·.1) = false := by rfl) :
    PE (X.suite a ((a, oe) :: pn)) (.Call (.Name "isinstance" p) [e1, e2] [] pos) (rdE ((X.suite a ((a, oe) :: pn)).cq W0) (eIs i a b)) := by
  refine PEwk (d_callB (c_isE (a := a) (pn := pn) E hz hf hk hr) hg hm hv ha (by decide) (by decide) he hpl) fun σ H Q ⟨m, ρ, S, re, rs, h⟩ => ⟨m, ρ, S, re, rs, ?_⟩
  unfold eIs at h
  split at h
  · rename_i a' e
    split at h
    · rename_i ea
      subst ea
      have e' : eB (gIsE a' cv b) (aC (eV i) (aC (eC (.raw cv)) aN)) ρ S = .ok (.bl b) S := by
        show (R.bind (R.bind (eV i ρ S) _) _) = _
        unfold eV
        rw [e]
        show toR (if V.ref a' = .ref a' ∧ cv = cv then some (D.bl b, S) else none) = _
        rw [if_pos ⟨rfl, rfl⟩]
        rfl
      rw [e']
      exact h
    · exact h.elim
  · exact h.elim
end
/-! ### the answer does not hang on the address -/
structure OffA (i : Nat) (a : Addr) (ρ ρ' : Env) : Prop where
  l : ρ.length = ρ'.length
  h : (ρ[i]? = some (some (.raw (.ref a))) ∧ ρ'[i]? = some (some (.raw (.ref 0)))) ∨ (ρ[i]? = none ∧ ρ'[i]? = none)
  o : ∀ j, j ≠ i → ρ[j]? = ρ'[j]?
def SimE (i : Nat) (a : Addr) {α : Type} (f f' : Env → Store → R α) : Prop := ∀ ρ ρ' S, OffA i a ρ ρ' → f ρ S = f' ρ' S
/-- outcomes alike but for slot i -/
def OutA (i : Nat) (a : Addr) : Out → Out → Prop
  | .nx ρ S, .nx ρ' S' => OffA i a ρ ρ' ∧ S = S'
  | .bk ρ S, .bk ρ' S' => OffA i a ρ ρ' ∧ S = S'
  | .ct ρ S, .ct ρ' S' => OffA i a ρ ρ' ∧ S = S'
  | .rt d S, .rt d' S' => d = d' ∧ S = S'
  | .ex _ _ _, .ex _ _ _ => True
  | .no, .no => True
  | _, _ => False
def SimS (i : Nat) (a : Addr) (g g' : SX) : Prop := ∀ ρ ρ' S, OffA i a ρ ρ' → OutA i a (g ρ S) (g' ρ' S)
section
variable {i j : Nat} {a : Addr} {f f' h h' : EX} {r r' : AX} {g g' k k' : SX}
theorem OffA.set {ρ ρ' : Env} (o : OffA i a ρ ρ') {d : Option D} (hj : j ≠ i) : OffA i a (ρ.set j d) (ρ'.set j d) :=
  ⟨by rw [List.length_set, List.length_set, o.l], by rw [List.getElem?_set_ne hj, List.getElem?_set_ne hj]; exact o.h, fun k hk => by
    by_cases e : j = k
    · subst e
      rw [List.getElem?_set, List.getElem?_set, o.l, if_pos rfl, if_pos rfl]
    · rw [List.getElem?_set_ne e, List.getElem?_set_ne e, o.o k hk]⟩
theorem m_eC {d : D} : SimE i a (eC d) (eC d) := fun _ _ _ _ => rfl
theorem m_eV (hj : j ≠ i) : SimE i a (eV j) (eV j) := fun ρ ρ' S o => by unfold eV; rw [o.o j hj]
theorem m_eIs {b : Bool} : SimE i a (eIs i a b) (eIs i 0 b) := fun ρ ρ' S o => by
  unfold eIs
  rcases o.h with ⟨e1, e2⟩ | ⟨e1, e2⟩
  · rw [e1, e2]; simp
  · rw [e1, e2]
theorem m_aN : SimE i a aN aN := fun _ _ _ _ => rfl
theorem m_aC (h1 : SimE i a f f') (h2 : SimE i a r r') : SimE i a (aC f r) (aC f' r') := fun ρ ρ' S o => by
  unfold aC
  rw [h1 ρ ρ' S o]
  congr 1
  funext x S1
  rw [h2 ρ ρ' S1 o]
theorem m_eB {q : List D → Store → Option (D × Store)} (h2 : SimE i a r r') : SimE i a (eB q r) (eB q r') := fun ρ ρ' S o => by
  unfold eB
  rw [h2 ρ ρ' S o]
theorem m_e2 {q : D → D → Store → Option (D × Store)} (h1 : SimE i a f f') (h2 : SimE i a h h') : SimE i a (Dl.e2 q f h) (Dl.e2 q f' h') := fun ρ ρ' S o => by
  unfold Dl.e2
  rw [h1 ρ ρ' S o]
  congr 1
  funext x S1
  rw [h2 ρ ρ' S1 o]
theorem m_eAnd (h1 : SimE i a f f') (h2 : SimE i a h h') : SimE i a (eAnd f h) (eAnd f' h') := fun ρ ρ' S o => by
  unfold eAnd
  rw [h1 ρ ρ' S o]
  congr 1
  funext x S1
  congr 1
  funext b S2
  rw [h2 ρ ρ' S2 o]
theorem m_eOr (h1 : SimE i a f f') (h2 : SimE i a h h') : SimE i a (eOr f h) (eOr f' h') := fun ρ ρ' S o => by
  unfold eOr
  rw [h1 ρ ρ' S o]
  congr 1
  funext x S1
  congr 1
  funext b S2
  rw [h2 ρ ρ' S2 o]
theorem m_eNot (h1 : SimE i a f f') : SimE i a (eNot f) (eNot f') := fun ρ ρ' S o => by
  unfold eNot
  rw [h1 ρ ρ' S o]
theorem m_sN (hj : j ≠ i) (h1 : SimE i a f f') : SimS i a (sN j f) (sN j f') := fun ρ ρ' S o => by
  unfold sN
  rw [h1 ρ ρ' S o]
  cases f' ρ' S with
  | ok d S1 => exact ⟨o.set hj, rfl⟩
  | ex x S1 => exact True.intro
  | no => exact True.intro
theorem m_sQ (h1 : SimS i a g g') (h2 : SimS i a k k') : SimS i a (sQ g k) (sQ g' k') := fun ρ ρ' S o => by
  have q := h1 ρ ρ' S o
  show OutA i a ((g ρ S).seq k) ((g' ρ' S).seq k')
  revert q
  cases g ρ S <;> cases g' ρ' S <;> intro q <;> first | exact q.elim | skip
  · obtain ⟨q1, rfl⟩ := q
    exact h2 _ _ _ q1
  all_goals exact q
theorem m_sR (h1 : SimE i a f f') : SimS i a (sR f) (sR f') := fun ρ ρ' S o => by
  unfold sR
  rw [h1 ρ ρ' S o]
  cases f' ρ' S with
  | ok d S1 => exact ⟨rfl, rfl⟩
  | ex x S1 => exact True.intro
  | no => exact True.intro
theorem set_off {ρ ρ' : Env} (o : OffA i a ρ ρ') : ρ.set i none = ρ'.set i none := by
  apply List.ext_getElem?
  intro k
  by_cases e : i = k
  · subst e
    rw [List.getElem?_set, List.getElem?_set, o.l, if_pos rfl, if_pos rfl]
  · rw [List.getElem?_set_ne e, List.getElem?_set_ne e, o.o k (Ne.symm e)]
theorem m_clr {o o' : Out} (q : OutA i a o o') : clr i o = clr i o' := by
  cases o <;> cases o' <;> first | exact q.elim | skip
  · obtain ⟨q1, rfl⟩ := q; show Out.nx _ _ = Out.nx _ _; rw [set_off q1]
  · obtain ⟨rfl, rfl⟩ := q; rfl
  · obtain ⟨q1, rfl⟩ := q; show Out.bk _ _ = Out.bk _ _; rw [set_off q1]
  · obtain ⟨q1, rfl⟩ := q; show Out.ct _ _ = Out.ct _ _; rw [set_off q1]
  · rfl
  · rfl
/-- the table's last field -/
theorem m_sim {su : Addr → SX} (h : ∀ a, SimS i a (su a) (su 0)) : ∀ (a : Addr) (ρ : Env) (S : Store), clr i (su a (ρ.set i (some (.raw (.ref a)))) S) = clr i (su 0 (ρ.set i (some (.raw (.ref 0)))) S) := fun a ρ S => by
  by_cases hl : i < ρ.length
  · exact m_clr (h a _ _ S ⟨by rw [List.length_set, List.length_set], Or.inl ⟨List.getElem?_set_self hl, List.getElem?_set_self hl⟩, fun j hj => by rw [List.getElem?_set_ne (Ne.symm hj), List.getElem?_set_ne (Ne.symm hj)]⟩)
  · have e : ∀ d, ρ.set i d = ρ := fun d => List.set_eq_of_length_le (by omega)
    rw [e, e]
    exact m_clr (h a ρ ρ S ⟨rfl, Or.inr ⟨List.getElem?_eq_none (by omega), List.getElem?_eq_none (by omega)⟩, fun j _ => rfl⟩)
end
end Dl

set_option Elab.async false
set_option linter.all false
set_option maxRecDepth 100000
namespace Dl
open PySem L2
/-! ## more methods -/
def gSplit : D → List D → Store → Option (D × Store)
  | .str a, [.str b], S => if b.length ≠ 0 ∧ a.length + 2 ≤ LIM ∧ ((Txt.split a b).all fun p => decide (p.length ≤ LIM)) = true then some (.ref S.length, S ++ [.lst ((Txt.split a b).map .str)]) else none
  | _, _, _ => none
def gCountS : D → List D → Store → Option (D × Store)
  | .str a, [.str b], S => some (.int (Txt.count a b), S)
  | _, _, _ => none
def gInsert : D → List D → Store → Option (D × Store)
  | .ref l, [.int i, d], S => match S[l]? with
    | some (.lst xs) => if xs.length < LIM ∧ 0 ≤ i ∧ i < 2 ^ 63 then some (.non, S.set l (.lst (xs.take i.toNat ++ [d] ++ xs.drop i.toNat))) else none
    | _ => none
  | _, _, _ => none
/-- a module's own table -/
def gTab (L : List (Str × D)) : D → D → Store → Option (D × Store)
  | _, .str s, S => (L.lookup s).map fun d => (d, S)
  | _, _, _ => none
section
variable {X : Cx}
theorem strs_rd {K : PySem.W.Frag} {m : List Addr} {H : Hp} : ∀ {xs : List Str}, (xs.all fun p => decide (p.length ≤ LIM)) = true → RDs K m H (xs.map V.str) (xs.map D.str)
  | [], _ => .nil
  | x :: xs, h => by
    rw [List.all_cons, Bool.and_eq_true] at h
    exact .cons (.str (of_decide_eq_true h.1)) (strs_rd h.2)
theorem m_split : MtR X "str.split" (rdM X.K gSplit) := by
  intro pins s σ H v vs vv us Q I rv rvs ⟨m, x, xs, S, hx, hxs, rs, h⟩
  unfold gSplit at h
  split at h
  · rename_i a b
    split at h
    · rename_i hc
      obtain ⟨h1, h2, h3⟩ := hc
      cases hx with
      | str ha =>
        cases hxs with
        | cons g1 g2 =>
          cases g2
          cases g1 with
          | str hb =>
            exact mt_split pins s σ H _ _ vv us Q I rv rvs ⟨a, b, rfl, rfl, by simpa using h1, by rw [← lim_eq]; exact h2, fun p hp => vp_lst rs hp (strs_rd h3) h⟩
    · exact h.elim
  · exact h.elim
theorem m_countS : MtR X "str.count" (rdM X.K gCountS) := by
  intro pins s σ H v vs vv us Q I rv rvs ⟨m, x, xs, S, hx, hxs, rs, h⟩
  unfold gCountS at h
  split at h
  · rename_i a b
    cases hx with
    | str ha =>
      cases hxs with
      | cons g1 g2 =>
        cases g2
        cases g1 with
        | str hb => exact mt_count pins s σ H _ _ vv us Q I rv rvs ⟨a, b, rfl, rfl, h _ _ m .refl rs (.int _)⟩
  · exact h.elim
theorem rds_take {K : PySem.W.Frag} {m : List Addr} {H : Hp} : ∀ {vs : List V} {ds : List D}, RDs K m H vs ds → ∀ n : Nat, RDs K m H (vs.take n) (ds.take n)
  | _, _, .nil, n => by rw [List.take_nil, List.take_nil]; exact .nil
  | _, _, .cons h t, 0 => .nil
  | _, _, .cons h t, n + 1 => .cons h (rds_take t n)
theorem rds_drop {K : PySem.W.Frag} {m : List Addr} {H : Hp} : ∀ {vs : List V} {ds : List D}, RDs K m H vs ds → ∀ n : Nat, RDs K m H (vs.drop n) (ds.drop n)
  | _, _, .nil, n => by rw [List.drop_nil, List.drop_nil]; exact .nil
  | _, _, .cons h t, 0 => .cons h t
  | _, _, .cons h t, n + 1 => rds_drop t n
theorem m_insert : MtR X "list.insert" (rdM X.K gInsert) := by
  intro pins s σ H v vs vv us Q I rv rvs ⟨m, x, xs, S, hx, hxs, rs, h⟩
  unfold gInsert at h
  split at h
  · rename_i l i d
    split at h
    · rename_i ys e
      split at h
      · rename_i hc
        obtain ⟨hz, h0, h1⟩ := hc
        cases hx with
        | ref hl =>
          cases hxs with
          | cons g1 g2 =>
            cases g1 with
            | int =>
              cases g2 with
              | cons g3 g4 =>
                cases g4
                obtain ⟨ws, hw, rw'⟩ := rs.wlst hl e
                refine mt_insert pins s σ H _ _ vv us Q I rv rvs ⟨_, ws, i, _, rfl, rfl, hw, by rw [rw'.length, ← lim_eq]; exact hz, h0, h1, ?_⟩
                obtain ⟨ex, rs'⟩ := rs.write (o := .lst (ws.take i.toNat ++ [_] ++ ws.drop i.toNat)) (c' := .lst (ys.take i.toNat ++ [d] ++ ys.drop i.toNat)) hl e rfl rfl fun ex => ⟨_, upd_same, ((rds_take (rw'.mono ex) _).append (.one (g3.mono ex))).append (rds_drop (rw'.mono ex) _)⟩
                exact h _ _ m ex rs' .non
      · exact h.elim
    · exact h.elim
  · exact h.elim
/-- what the written part says of such a table -/
structure TabK (K : PySem.W.Frag) (w : World) (p : Addr) (L : List (Str × D)) : Prop where
  at_ : ∀ q ∈ L, ∃ v, KDct K w p q.1 v ∧ ∀ m H, RD K m H v q.2
variable {W : WX} {a b : Expr} {fa fb : EX} {pos p1 : Pos}
/-- D[e], D a module's table -/
def eTab (L : List (Str × D)) (fb : EX) : EX := fun ρ S => (fb ρ S).bind fun y S1 => toR (gTab L .non y S1)
theorem d_tab {x : Str} {p : Addr} {L : List (Str × D)} (T : TabK X.K X.w p L) (hg : Gl X x) (hm : X.mg x = some (.ref p)) (hb : PE X b (rdE (X.cq W) fb)) (hd : (x == ("__debug__" : Str)) = false := by decide) (hs : PlainIx b := by exact fun _ _ => rfl) :
    PE X (.Subscript (.Name x p1) b pos) (rdE (X.cq W) (eTab L fb)) := by
  refine PEwk (pe_ix ix_kdict (pe_glob (v := .ref p) hg hm rfl hd) hb hs) fun σ H Q ⟨m, ρ, S, re, rs, h⟩ => ?_
  refine ⟨m, ρ, S, re, rs, (Post.bind h).imp fun u H2 ⟨m2, y, S2, e2, rs2, rd2', h2⟩ => ?_⟩
  replace h2 : VPost X.K m2 H2 Q (gTab L .non y S2) := VPost.of h2
  unfold gTab at h2
  split at h2
  · rename_i s
    cases e : L.lookup s with
    | none => rw [e] at h2; exact h2.elim
    | some d =>
      rw [e] at h2
      cases rd2' with
      | str hs =>
        obtain ⟨z, g1, g2⟩ := T.at_ _ (lookup_mem e)
        exact ⟨p, s, z, rfl, rfl, g1, h2 _ _ m2 .refl rs2 (g2 m2 H2)⟩
  · exact h2.elim
/-! ## a, b = a tuple or a list -/
def tgU (ts : List (D → SX)) : D → SX := fun d => match d with
  | .tup ds => if ds.length = ts.length then tgL ts ds else sNo
  | .ref l => fun ρ S => match lstAt S l with
    | some ds => if ds.length = ts.length then tgL ts ds ρ S else .no
    | none => .no
  | _ => sNo
theorem g_seq {es : List Expr} {k : Nat} {ts : List (D → SX)} (hc : X.calm = true) (h : PGs X es (rdGs (X.cq W) (tgL ts))) (hl : ts.length = es.length := by rfl)
    (hn : (assignEach es X.env).length = es.length := by rfl) (hst : (assignEach es X.env).findIdx? (·.1) = none := by rfl) : PG X (.Tuple es k pos) (rdG (X.cq W) (tgU ts)) := ⟨fun pins s σ H v u Q I r ⟨m, ρ, S, d, re, rs, rd, q⟩ => by
  cases d with
  | tup ds => exact (g_tup (pos := pos) (k := k) hc h hl hn hst).run pins s σ H v u Q I r ⟨m, ρ, S, _, re, rs, rd, q⟩
  | ref l =>
    have q : PostS (X.cq W) m H { nx := Q, rt := fun _ _ => False } (match lstAt S l with
      | some ds => if ds.length = ts.length then tgL ts ds ρ S else .no
      | none => .no) := q
    cases e : lstAt S l with
    | none => rw [e] at q; exact q.elim
    | some ds =>
      rw [e] at q
      by_cases hz : ds.length = ts.length
      · simp only [if_pos hz] at q
        cases rd with
        | ref hm =>
          obtain ⟨vs, h1, h2⟩ := rs.lst hm e
          exact (pg_lst (k := k) (pos := pos) hc h hn hst).run pins s σ H _ u Q I r ⟨_, vs, rfl, h1, by rw [h2.length, hz, hl], m, ρ, S, ds, re, rs, h2, q⟩
      · simp only [if_neg hz] at q
        exact q.elim
  | _ => exact q.elim⟩
end
end Dl

set_option Elab.async false
set_option linter.all false
set_option maxRecDepth 100000
namespace Dl
open PySem L2
/-! ## unary minus, extend, reverse, sum, is None -/
def gNeg : D → Store → Option (D × Store)
  | .int i, S => some (.int (-i), S)
  | _, _ => none
def gExtend : D → List D → Store → Option (D × Store)
  | .ref l, [.ref k], S => match S[l]?, S[k]? with
    | some (.lst xs), some (.lst ys) => if xs.length + ys.length ≤ LIM then some (.non, S.set l (.lst (xs ++ ys))) else none
    | _, _ => none
  | _, _, _ => none
def gReverse : D → List D → Store → Option (D × Store)
  | .ref l, [], S => match S[l]? with
    | some (.lst xs) => some (.non, S.set l (.lst xs.reverse))
    | _ => none
  | _, _, _ => none
def intsD : List D → Option (List Int)
  | [] => some []
  | .int i :: r => (intsD r).map (i :: ·)
  | _ :: _ => none
def gSum : List D → Store → Option (D × Store)
  | [.ref l], S => ((lstAt S l).bind intsD).map fun ns => (.int ns.sum, S)
  | _, _ => none
section
variable {X : Cx} {W : WX} {e : Expr} {f : EX} {pos : Pos}
theorem d_neg (he : PE X e (rdE (X.cq W) f)) : PE X (.UnaryOp .USub e pos) (rdE (X.cq W) (e1 gNeg f)) := PEwk (pe_un un_neg he) fun σ H Q ⟨m, ρ, S, re, rs, h⟩ =>
  ⟨m, ρ, S, re, rs, (Post.bind h).imp fun v H1 ⟨m1, x, S1, e1, rs1, rd, h1⟩ => by
    have h1 : VPost X.K m1 H1 Q (gNeg x S1) := VPost.of h1
    unfold gNeg at h1
    split at h1
    · cases rd with
      | int => exact ⟨_, rfl, h1 _ _ m1 .refl rs1 (.int _)⟩
    · exact h1.elim⟩
theorem m_extend : MtR X "list.extend" (rdM X.K gExtend) := by
  intro pins s σ H v vs vv us Q I rv rvs ⟨m, x, xs, S, hx, hxs, rs, h⟩
  unfold gExtend at h
  split at h
  · rename_i l k
    split at h
    · rename_i xs ys e1 e2
      split at h
      · rename_i hc
        cases hx with
        | ref hl =>
          cases hxs with
          | cons g1 g2 =>
            cases g2
            cases g1 with
            | ref hk =>
              obtain ⟨ws, hw, rw'⟩ := rs.wlst hl e1
              obtain ⟨us', hu, ru⟩ := rs.wlst hk e2
              refine mt_extend pins s σ H _ _ vv us Q I rv rvs ⟨_, _, ws, us', rfl, rfl, hw, hu, by rw [rw'.length, ru.length, ← lim_eq]; exact hc, ?_⟩
              obtain ⟨ex, rs'⟩ := rs.write (o := .lst (ws ++ us')) (c' := .lst (xs ++ ys)) hl e1 rfl rfl fun ex => ⟨_, upd_same, (rw'.mono ex).append (ru.mono ex)⟩
              exact h _ _ m ex rs' .non
      · exact h.elim
    · exact h.elim
  · exact h.elim
theorem rds_reverse {K : PySem.W.Frag} {m : List Addr} {H : Hp} : ∀ {vs : List V} {ds : List D}, RDs K m H vs ds → RDs K m H vs.reverse ds.reverse
  | _, _, .nil => .nil
  | _, _, .cons h t => by
    rw [List.reverse_cons, List.reverse_cons]
    exact (rds_reverse t).append (.one h)
theorem m_reverse : MtR X "list.reverse" (rdM X.K gReverse) := by
  intro pins s σ H v vs vv us Q I rv rvs ⟨m, x, xs, S, hx, hxs, rs, h⟩
  unfold gReverse at h
  split at h
  · rename_i l
    split at h
    · rename_i xs e1
      cases hx with
      | ref hl =>
        cases hxs
        obtain ⟨ws, hw, rw'⟩ := rs.wlst hl e1
        refine mt_reverse pins s σ H _ _ vv us Q I rv rvs ⟨_, ws, rfl, rfl, hw, ?_⟩
        obtain ⟨ex, rs'⟩ := rs.write (o := .lst ws.reverse) (c' := .lst xs.reverse) hl e1 rfl rfl fun ex => ⟨_, upd_same, rds_reverse (rw'.mono ex)⟩
        exact h _ _ m ex rs' .non
    · exact h.elim
  · exact h.elim
theorem ints_rd {K : PySem.W.Frag} {m : List Addr} {H : Hp} : ∀ {vs : List V} {ds : List D} {ns : List Int}, RDs K m H vs ds → intsD ds = some ns → vs = ns.map V.int
  | _, _, ns, .nil, h => by cases h; rfl
  | _, d :: ds, ns, .cons g t, h => by
    cases d with
    | int i =>
      have h' : (intsD ds).map (i :: ·) = some ns := h
      cases e : intsD ds with
      | none => rw [e] at h'; cases h'
      | some r =>
        rw [e] at h'
        cases h'
        cases g
        rw [ints_rd t e]
        rfl
    | _ => cases h
theorem c_sum (hc : X.calm = true) : CallR X (.builtin "sum") (rdC X.K gSum) := by
  intro pins s σ H vs us Q I r ⟨m, xs, S, hx, rs, h⟩
  unfold gSum at h
  split at h
  · rename_i l
    cases e : lstAt S l with
    | none => rw [e] at h; exact h.elim
    | some ds =>
      cases e2 : intsD ds with
      | none => rw [e] at h; simp only [Option.bind_some, e2] at h; exact h.elim
      | some ns =>
        rw [e] at h
        simp only [Option.bind_some, e2] at h
        cases hx with
        | cons h1 h2 =>
          cases h2
          cases h1 with
          | ref hl =>
            obtain ⟨ws, hw, rw'⟩ := rs.lst hl e
            have ew := ints_rd rw' e2
            subst ew
            exact cr_sum hc pins s σ H _ us Q I r ⟨_, ns, rfl, hw, h _ _ m .refl rs (.int _)⟩
  · exact h.elim
end
end Dl

set_option Elab.async false
set_option linter.all false
set_option maxRecDepth 100000
namespace Dl
open PySem L2
/-! ## dicts: a display with written keys, d[k], k in d, d[k] = v -/
def keyD : D → Option Key
  | .int i => some (.inl i)
  | .str s => some (.inr s)
  | _ => none
def findK (kvs : List (Key × D)) (k : Key) : Option D := (kvs.find? fun kv => decide (kv.1 = k)).map (·.2)
def gDget : D → D → Store → Option (D × Store)
  | .ref l, y, S => match S[l]?, keyD y with
    | some (.dic kvs), some k => (findK kvs k).map fun d => (d, S)
    | _, _ => none
  | _, _, _ => none
def gDin (f : Bool → Bool) : D → D → Store → Option (D × Store)
  | y, .ref l, S => match S[l]?, keyD y with
    | some (.dic kvs), some k => some (.bl (f (findK kvs k).isSome), S)
    | _, _ => none
  | _, _, _ => none
def aL : List (Key × EX) → AX
  | [] => aN
  | (_, f) :: r => aC f (aL r)
/-- {k: f, ..} -/
def eDct (L : List (Key × EX)) : EX := fun ρ S => (aL L ρ (S ++ [.dic []])).bind fun ds S1 => match S1[S.length]? with
  | some (.dic []) => if L.length ≤ 15 ∧ (L.map (·.1)).Nodup then .ok (.ref S.length) (S1.set S.length (.dic ((L.map (·.1)).zip ds))) else .no
  | _ => .no
theorem find_rd {K : PySem.W.Frag} {m : List Addr} {H : Hp} {k : Key} {d : D} : ∀ {kvs : List (Key × D)} {ws : List (Key × V)}, ws.map (·.1) = kvs.map (·.1) → RDs K m H (ws.map (·.2)) (kvs.map (·.2)) → findK kvs k = some d → ∃ v, valV ws k = some v ∧ RD K m H v d
  | [], _, _, _, h => nomatch h
  | (k1, d1) :: kvs, [], e, _, _ => nomatch e
  | (k1, d1) :: kvs, (k2, v2) :: ws, e, r, h => by
    cases r with
    | cons rh rt =>
      have e1 : k2 = k1 := (List.cons.inj e).1
      have e2 : ws.map (·.1) = kvs.map (·.1) := (List.cons.inj e).2
      subst e1
      by_cases z : k2 = k
      · rw [valV_pos (show (k2, v2).1 = k from z)]
        unfold findK at h
        rw [List.find?_cons_of_pos (by simpa using z)] at h
        cases h
        exact ⟨_, rfl, rh⟩
      · rw [valV_neg (show ¬ (k2, v2).1 = k from z)]
        unfold findK at h
        rw [List.find?_cons_of_neg (by simpa using z)] at h
        exact find_rd e2 rt h
theorem find_none {k : Key} : ∀ {kvs : List (Key × D)} {ws : List (Key × V)}, ws.map (·.1) = kvs.map (·.1) → findK kvs k = none → valV ws k = none
  | [], [], _, _ => rfl
  | [], _ :: _, e, _ => nomatch e
  | (k1, d1) :: kvs, [], e, _ => nomatch e
  | (k1, d1) :: kvs, (k2, v2) :: ws, e, h => by
    have e1 : k2 = k1 := (List.cons.inj e).1
    have e2 : ws.map (·.1) = kvs.map (·.1) := (List.cons.inj e).2
    subst e1
    by_cases z : k2 = k
    · unfold findK at h
      rw [List.find?_cons_of_pos (by simpa using z)] at h
      cases h
    · rw [valV_neg (show ¬ (k2, v2).1 = k from z)]
      unfold findK at h
      rw [List.find?_cons_of_neg (by simpa using z)] at h
      exact find_none e2 h
theorem key_rd {K : PySem.W.Frag} {m : List Addr} {H : Hp} {v : V} {d : D} {k : Key} (r : RD K m H v d) (h : keyD d = some k) : v = L2.kV k := by
  unfold keyD at h
  split at h
  · cases h; cases r; rfl
  · cases h; cases r; rfl
  · cases h
theorem val_none {k : Key} : ∀ {ws : List (Key × V)}, k ∉ ws.map (·.1) → valV ws k = none
  | [], _ => rfl
  | (k2, v2) :: ws, h => by
    rw [List.map_cons, List.mem_cons, not_or] at h
    rw [valV_neg (show ¬ (k2, v2).1 = k from fun e => h.1 e.symm)]
    exact val_none h.2
theorem merge_nd : ∀ (more acc : List (Key × V)), ((acc ++ more).map (·.1)).Nodup → mergeK acc more = acc ++ more
  | [], acc, _ => by rw [List.append_nil]; rfl
  | (k, v) :: more, acc, h => by
    have h' : ((acc ++ [(k, v)] ++ more).map (·.1)).Nodup := by rw [List.append_assoc]; exact h
    have hk : k ∉ acc.map (·.1) := fun q => by
      rw [List.map_append, List.map_cons] at h
      exact (List.nodup_append.mp h).2.2 k q k (List.mem_cons_self ..) rfl
    show mergeK (putK acc k v) more = _
    rw [putK_new v (val_none hk), merge_nd more (acc ++ [(k, v)]) h', List.append_assoc]
    rfl
theorem u1 {k : Nat} {A : Around} (r : Room k A) : A.units + 1 < cLine := by have := r.un; omega
section
variable {X : Cx} {W : WX} {o i e : Expr} {fo fi f : EX} {pos : Pos}
theorem d_dget (hu : X.A.units + 1 < cLine) (ho : PE X o (rdE (X.cq W) fo)) (hi : PE X i (rdE (X.cq W) fi)) (hs : NoSl i := by exact fun _ _ => rfl) : PE X (.Subscript o i pos) (rdE (X.cq W) (Dl.e2 gDget fo fi)) :=
  PEwk (pe_dget hu ho hi hs) fun σ H Q ⟨m, ρ, S, re, rs, h⟩ =>
  ⟨m, ρ, S, re, rs, (Post.bind h).imp fun v H1 ⟨m1, x, S1, e1, rs1, rd, h1⟩ => ⟨m1, ρ, S1, re.mono e1, rs1, (Post.bind h1).imp fun u H2 ⟨m2, y, S2, e2, rs2, rd2, h2⟩ => by
    have h2 : VPost X.K m2 H2 Q (gDget x y S2) := VPost.of h2
    have rd' := rd.mono e2
    unfold gDget at h2
    split at h2
    · split at h2
      · rename_i kvs k es ek
        cases ef : findK kvs k with
        | none => rw [ef] at h2; exact h2.elim
        | some d =>
          rw [ef] at h2
          cases rd' with
          | ref hl =>
            obtain ⟨ws, g1, g2, g3⟩ := rs2.at_ hl es
            obtain ⟨w, q1, q2⟩ := find_rd g2 g3 ef
            have eu := key_rd rd2 ek
            subst eu
            refine ⟨_, w, rfl, ?_, h2 _ _ m2 .refl rs2 q2⟩
            rw [← q1]
            exact DGet.k g1
      · exact h2.elim
    · exact h2.elim⟩⟩
inductive Ents2 (X : Cx) (W : WX) (pos : Pos) : List (Option Expr) → List Expr → List (Key × EX) → Prop
  | nil : Ents2 X W pos [] [] []
  | cons {k : Key} {ke v : Expr} {f : EX} {ks : List (Option Expr)} {vs : List Expr} {L : List (Key × EX)} (hk : PE X ke (tC (L2.kV k))) (hv : PE X v (rdE (X.cq W) f)) (t : Ents2 X W pos ks vs L) : Ents2 X W pos (some ke :: ks) (v :: vs) ((k, f) :: L)
def trsL (c : Cq) (L : List (Key × EX)) : List (TE × TE) := L.map fun kf => (tC (L2.kV kf.1), rdE c kf.2)
theorem Ents2.pps {ks : List (Option Expr)} {vs : List Expr} : ∀ {L : List (Key × EX)}, Ents2 X W pos ks vs L → PPs X pos ks vs (trsL (X.cq W) L) := by
  intro L h
  induction h with
  | nil => exact pps_nil
  | cons hk hv t ih => exact pps_cons hk hv ih
theorem Ents2.len {ks : List (Option Expr)} {vs : List Expr} {L : List (Key × EX)} (h : Ents2 X W pos ks vs L) : ks.length = L.length ∧ vs.length = L.length ∧ ks.all (·.isSome) = true := by
  induction h with
  | nil => exact ⟨rfl, rfl, rfl⟩
  | cons hk hv t ih =>
    obtain ⟨a, b, c⟩ := ih
    exact ⟨by rw [List.length_cons, List.length_cons, a], by rw [List.length_cons, List.length_cons, b], by rw [List.all_cons, c]; rfl⟩
theorem tPairs_imp : ∀ {trs : List (TE × TE)} {σ : St} {H : Hp} {Q Q' : List (V × V) → Hp → Prop}, (∀ (t : TE × TE), t ∈ trs → (∀ σ H (P P' : V → Hp → Prop), t.1 σ H P → (∀ v H', P v H' → P' v H') → t.1 σ H P') ∧ (∀ σ H (P P' : V → Hp → Prop), t.2 σ H P → (∀ v H', P v H' → P' v H') → t.2 σ H P')) → tPairs trs σ H Q → (∀ ps H', Q ps H' → Q' ps H') → tPairs trs σ H Q'
  | [], σ, H, Q, Q', _, h, k => k _ _ h
  | (tk, tv) :: r, σ, H, Q, Q', mn, h, k => by
    obtain ⟨m1, m2⟩ := mn _ (List.mem_cons_self ..)
    exact m1 σ H _ _ h fun x H1 h1 => m2 σ H1 _ _ h1 fun y H2 h2 => tPairs_imp (fun t ht => mn t (List.mem_cons_of_mem _ ht)) h2 fun ps H3 h3 => k _ _ h3
theorem trsL_mono (c : Cq) (L : List (Key × EX)) : ∀ (t : TE × TE), t ∈ trsL c L → (∀ σ H (P P' : V → Hp → Prop), t.1 σ H P → (∀ v H', P v H' → P' v H') → t.1 σ H P') ∧ (∀ σ H (P P' : V → Hp → Prop), t.2 σ H P → (∀ v H', P v H' → P' v H') → t.2 σ H P') := by
  intro t ht
  obtain ⟨kf, _, rfl⟩ := List.mem_map.mp ht
  exact ⟨fun σ H P P' h k => k _ _ h, fun σ H P P' ⟨m, ρ, S, re, rs, h⟩ k => ⟨m, ρ, S, re, rs, h.imp k⟩⟩
theorem pairs_post {c : Cq} : ∀ (L : List (Key × EX)) {m : List Addr} {H : Hp} {σ : St} {ρ : Env} {S : Store} {Q : List V → Hp → Prop}, RE c.K m H σ ρ → RS c.K m H S → Post c (relDs c) m H σ Q (aL L ρ S) → tPairs (trsL c L) σ H fun ps H3 => ∃ vs, ps = ((L.map fun kf => L2.kV kf.1).zip vs) ∧ vs.length = L.length ∧ Q vs H3
  | [], m, H, σ, ρ, S, Q, re, rs, h => ⟨[], rfl, rfl, h [] H m .refl rs .nil⟩
  | (k, f) :: L, m, H, σ, ρ, S, Q, re, rs, h => by
    show rdE c f σ H fun y H2 => tPairs (trsL c L) σ H2 fun ps H3 => ∃ vs, ((L2.kV k, y) :: ps) = _ ∧ _ ∧ Q vs H3
    have h : Post c (relDs c) m H σ Q ((f ρ S).bind fun x S1 => (aL L ρ S1).bind fun xs S2 => .ok (x :: xs) S2) := h
    refine ⟨m, ρ, S, re, rs, (Post.bind h).imp fun y H2 ⟨m1, x, S1, e1, rs1, rd, h1⟩ => ?_⟩
    have q := pairs_post L (re.mono e1) rs1 ((Post.bind h1).imp (rel := relDs c) (Q' := fun vs H3 => Q (y :: vs) H3) fun vs H3 ⟨m3, xs, S3, e3, rs3, rds, h3⟩ => h3 _ _ m3 .refl rs3 (.cons (rd.mono e3) rds))
    exact tPairs_imp (trsL_mono c L) q fun ps H3 ⟨vs, q1, q2, q3⟩ => ⟨y :: vs, by rw [q1]; rfl, by rw [List.length_cons, q2, List.length_cons], q3⟩
theorem zip_fst {α β : Type} : ∀ (ks : List α) (vs : List β), vs.length = ks.length → (ks.zip vs).map (·.1) = ks
  | [], _, _ => rfl
  | k :: ks, [], h => nomatch h
  | k :: ks, v :: vs, h => by
    show k :: (ks.zip vs).map (·.1) = k :: ks
    rw [zip_fst ks vs (Nat.succ.inj h)]
theorem zip_snd {α β : Type} : ∀ (ks : List α) (vs : List β), vs.length = ks.length → (ks.zip vs).map (·.2) = vs
  | [], [], _ => rfl
  | [], _ :: _, h => nomatch h
  | k :: ks, [], h => nomatch h
  | k :: ks, v :: vs, h => by
    show v :: (ks.zip vs).map (·.2) = v :: vs
    rw [zip_snd ks vs (Nat.succ.inj h)]
theorem zip_kv : ∀ (ks : List Key) (vs : List V), (ks.zip vs).map (fun kv => (L2.kV kv.1, kv.2)) = (ks.map L2.kV).zip vs
  | [], _ => rfl
  | _ :: _, [] => rfl
  | k :: ks, v :: vs => by
    show (L2.kV k, v) :: (ks.zip vs).map _ = (L2.kV k, v) :: (ks.map L2.kV).zip vs
    rw [zip_kv ks vs]
theorem d_dct {ks : List (Option Expr)} {vs : List Expr} {L : List (Key × EX)} (h : Ents2 X W pos ks vs L) (h0 : ks ≠ [] := by simp) (h15 : L.length ≤ 15 := by decide) : PE X (.Dict ks vs pos) (rdE (X.cq W) (eDct L)) := by
  obtain ⟨l1, l2, l3⟩ := h.len
  refine PEwk (pe_disp h.pps l3 (l1.trans l2.symm) h0 (by rw [l1]; exact h15)) fun σ H Q ⟨m, ρ, S, re, rs, q⟩ p hp => ?_
  obtain ⟨e1, rs1⟩ := rs.push (o := .dK []) (c := .dic []) hp fun m' e' => ⟨[], upd_same, rfl, .nil⟩
  have q : Post (X.cq W) (relD (X.cq W)) m H σ Q ((aL L ρ (S ++ [.dic []])).bind fun ds S1 => match S1[S.length]? with
    | some (.dic []) => if L.length ≤ 15 ∧ (L.map (·.1)).Nodup then .ok (.ref S.length) (S1.set S.length (.dic ((L.map (·.1)).zip ds))) else .no
    | _ => .no) := q
  have q1 := pairs_post L (re.mono e1) rs1 (Post.bind (rel := relDs (X.cq W)) (Post.mono e1 q))
  refine tPairs_imp (trsL_mono _ L) q1 fun ps H3 ⟨us, ep, lu, m1, ds, S1, e3, rs3, rds, h3⟩ => ?_
  have hl : m1[S.length]? = some p := by
    obtain ⟨r, rfl⟩ := e3.pre
    rw [List.getElem?_append_left (by rw [List.length_append, ← rs.len]; show _ < _ + 1; omega), ← rs.len, List.getElem?_append_right (Nat.le_refl _), Nat.sub_self]
    rfl
  cases es : S1[S.length]? with
  | none => rw [es] at h3; exact h3.elim
  | some c =>
    rw [es] at h3
    cases c with
    | dic kvs =>
      cases kvs with
      | nil =>
        simp only at h3
        by_cases hc : L.length ≤ 15 ∧ (L.map (·.1)).Nodup
        · rw [if_pos hc] at h3
          obtain ⟨ws, g1, g2, g3⟩ := rs3.at_ hl es
          have ews : ws = [] := List.map_eq_nil_iff.mp g2
          subst ews
          refine ⟨g1, (L.map (·.1)).zip us, by rw [ep, zip_kv, List.map_map]; rfl, by rw [List.length_zip, List.length_map]; omega, ?_⟩
          have nd : (((L.map (·.1)).zip us).map (·.1)).Nodup := by rw [zip_fst _ _ (by rw [List.length_map]; exact lu)]; exact hc.2
          rw [show mergeK [] ((L.map (·.1)).zip us) = (L.map (·.1)).zip us from merge_nd _ [] nd]
          have ld := rds.length
          obtain ⟨ex, rs4⟩ := rs3.write (o := .dK ((L.map (·.1)).zip us)) (c' := .dic ((L.map (·.1)).zip ds)) hl es rfl rfl fun ex => ⟨_, upd_same, by rw [zip_fst _ _ (by rw [List.length_map]; exact lu), zip_fst _ _ (by rw [List.length_map, ← ld]; exact lu)], by
            rw [zip_snd _ _ (by rw [List.length_map]; exact lu), zip_snd _ _ (by rw [List.length_map, ← ld]; exact lu)]
            exact rds.mono ex⟩
          exact h3 _ _ m1 ex rs4 (.ref hl)
        · rw [if_neg hc] at h3
          exact h3.elim
      | cons a b => exact h3.elim
    | lst xs => exact h3.elim
    | rol xs => exact h3.elim
    | gone => exact h3.elim
end
end Dl

set_option Elab.async false
set_option linter.all false
set_option maxRecDepth 100000
namespace Dl
open PySem L2
/-! ## is None, is True; x += i -/
/-- the fuel of a while -/
def WF : Nat := 100000
def nonD : D → Bool
  | .non => true
  | _ => false
def isD : D → D → Option Bool
  | .raw _, _ => none
  | x, .non => some (nonD x)
  | .bl a, .bl b => some (decide (a = b))
  | _, _ => none
def gIs (x y : D) (S : Store) : Option (D × Store) := (isD x y).map fun b => (.bl b, S)
def gIsN (x y : D) (S : Store) : Option (D × Store) := (isD x y).map fun b => (.bl (!b), S)
theorem is_non {K : PySem.W.Frag} {m : List Addr} {H : Hp} {v : V} {d : D} (r : RD K m H v d) (hr : ∀ u, d ≠ .raw u) : decide (v = .non) = nonD d := by
  cases r with
  | non => rfl
  | bl b => rfl
  | int i => rfl
  | str h => rfl
  | tup h r => rfl
  | ref h => rfl
  | raw v => exact absurd rfl (hr v)
section
variable {X : Cx}
theorem o_is : OpR X (compareOp .Is) (rd2 X.K gIs) := by
  intro pins s σ H v u vv uu Q I rv ru ⟨m, x, y, S, hx, hy, rs, h⟩
  unfold gIs isD at h
  split at h
  · exact h.elim
  · rename_i x' hr
    cases hy
    refine op_isN pins s σ H _ _ vv uu Q I rv ru ⟨rfl, ?_⟩
    rw [is_non hx (fun w e => hr w e)]
    exact h _ _ m .refl rs (.bl _)
  · cases hx
    cases hy
    exact op_is_bl pins s σ H _ _ vv uu Q I rv ru ⟨_, _, rfl, rfl, h _ _ m .refl rs (.bl _)⟩
  · exact h.elim
theorem o_isn : OpR X (compareOp .IsNot) (rd2 X.K gIsN) := by
  intro pins s σ H v u vv uu Q I rv ru ⟨m, x, y, S, hx, hy, rs, h⟩
  unfold gIsN isD at h
  split at h
  · exact h.elim
  · rename_i x' hr
    cases hy
    refine op_notN pins s σ H _ _ vv uu Q I rv ru ⟨rfl, ?_⟩
    rw [is_non hx (fun w e => hr w e)]
    exact h _ _ m .refl rs (.bl _)
  · cases hx
    cases hy
    exact op_isnot_bl pins s σ H _ _ vv uu Q I rv ru ⟨_, _, rfl, rfl, h _ _ m .refl rs (.bl _)⟩
  · exact h.elim
def gAugAdd : D → D → Store → Option (D × Store)
  | .int i, .int j, S => some (.int (i + j), S)
  | _, _, _ => none
def gAugSub : D → D → Store → Option (D × Store)
  | .int i, .int j, S => some (.int (i - j), S)
  | _, _, _ => none
/-- x op= f -/
def sAug (j : Nat) (g : D → D → Store → Option (D × Store)) (f : EX) : SX := fun ρ S => match ρ[j]? with
  | some (some d) => (f ρ S).out ρ fun y S1 => match g d y S1 with
    | some (z, S2) => .nx (ρ.set j (some z)) S2
    | none => .no
  | _ => .no
theorem ip_addD : PIp X .Add (fun v u H Q => rd2 X.K gAugAdd v u H Q) := fun pins s σ H x y v u Q I rx ry ⟨m, d, e, S, hx, hy, rs, h⟩ => by
  unfold gAugAdd at h
  split at h
  · cases hx
    cases hy
    exact ip_add pins s σ H _ _ v u Q I rx ry ⟨_, _, rfl, rfl, h _ _ m .refl rs (.int _)⟩
  · exact h.elim
theorem ip_subD : PIp X .Sub (fun v u H Q => rd2 X.K gAugSub v u H Q) := fun pins s σ H x y v u Q I rx ry ⟨m, d, e, S, hx, hy, rs, h⟩ => by
  unfold gAugSub at h
  split at h
  · cases hx
    cases hy
    exact ip_sub pins s σ H _ _ v u Q I rx ry ⟨_, _, rfl, rfl, h _ _ m .refl rs (.int _)⟩
  · exact h.elim
variable {W : WX} {e : Expr} {f : EX} {pos : Pos}
theorem t_aug {op : Operator} {g : D → D → Store → Option (D × Store)} {j : Nat} {x : Str} {pos' : Pos} (hN : X.N.Nodup) (ho : PIp X op (fun v u H Q => rd2 X.K g v u H Q)) (he : PE X e (rdE (X.cq W) f)) (hi : X.N[j]? = some x := by rfl) (hx : Loc X.env.scope x := by first | exact .inl rfl | exact .inr rfl)
    (hf : X.fn x = true ∨ X.env.scope.names.lookup x = some .local := by first | exact .inl rfl | exact .inr rfl) : PS X (.AugAssign (.Name x pos') op e pos) (rdS (X.cq W) (sAug j g f)) := PSwk (ps_aug hN hi hx he ho hf) fun Dn σ H ⟨m, ρ, S, re, rs, q⟩ => by
  have q : PostS (X.cq W) m H Dn (match ρ[j]? with
    | some (some d) => (f ρ S).out ρ fun y S1 => match g d y S1 with
      | some (z, S2) => .nx (ρ.set j (some z)) S2
      | none => .no
    | _ => .no) := q
  cases ed : ρ[j]? with
  | none => rw [ed] at q; exact q.elim
  | some od =>
    cases od with
    | none => rw [ed] at q; exact q.elim
    | some d =>
      rw [ed] at q
      obtain ⟨v, hv, rd⟩ := re.at_ ed
      refine ⟨v, hv, m, ρ, S, re, rs, (Post.out re q).imp fun u H1 ⟨m1, y, S1, e1, rs1, rdy, re1, q1⟩ => ⟨m1, d, y, S1, rd.mono e1, rdy, rs1, ?_⟩⟩
      cases eg : g d y S1 with
      | none => rw [eg] at q1; exact q1.elim
      | some p =>
        obtain ⟨z, S2⟩ := p
        rw [eg] at q1
        exact fun w H2 m2 ex rs2 rz => q1 _ H2 m2 ex ((re1.mono ex).set rz j) rs2
end
end Dl

set_option Elab.async false
set_option linter.all false
set_option maxRecDepth 100000
namespace Dl
open PySem L2
/-! ## a def's promise, shown by evaluation under an open end -/
abbrev Sp (r : R D) (Q : R D → Prop) : Prop := Q r
def fin (n : Nat) : Out → R D
  | .rt d S' => cmp n d S'
  | .nx _ S' => cmp n .non S'
  | .ex x _ S' => .ex x S'
  | _ => .no
def So (n : Nat) (Q : R D → Prop) (o : Out) : Prop := Q (fin n o)
/-- the store T, the pool P at p, behind it the def's own cells -/
def st (T : Store) (p : Nat) (P : List D) (L : List Cell) : Store := T.set p (.lst P) ++ L
/-- the store T, behind it the def's own cells -/
def sx (T : Store) (L : List Cell) : Store := T ++ L
section
variable {n np ns : Nat} {g : SX} {ds : List D} {S T : Store} {Q : R D → Prop} {p q k : Nat} {P P' : List D} {L M : List Cell} {c : Cell} {d : D} {ρ : Env} {x : Exn}
theorem runB_fin (h : ds.length = np) : runB np ns g ds S = fin S.length (g (ds.map some ++ List.replicate (ns - np) none) S) := by
  unfold runB
  rw [if_pos h]
  cases g (ds.map some ++ List.replicate (ns - np) none) S <;> rfl
theorem sp_run (h : ds.length = np) (k : ∀ Q' : R D → Prop, (∀ r, Q r → Q' r) → So S.length Q' (g (ds.map some ++ List.replicate (ns - np) none) S)) : Sp (runB np ns g ds S) Q := by
  show Q _
  rw [runB_fin h]
  exact k Q fun _ h => h
theorem st_in (hp : S[p]? = some (.lst P)) : S = st S p P [] := by
  unfold st
  rw [List.append_nil]
  apply List.ext_getElem?
  intro i
  by_cases e : p = i
  · subst e
    rw [List.getElem?_set_self (List.getElem?_eq_some_iff.mp hp).1, hp]
  · rw [List.getElem?_set_ne e]
theorem sx_in : S = sx S [] := (List.append_nil S).symm
/-- with a pool -/
theorem sp_pool (h : ds.length = np) (hp : S[p]? = some (.lst P)) (k : p < S.length → ∀ Q' : R D → Prop, (∀ r, Q r → Q' r) → So S.length Q' (g (ds.map some ++ List.replicate (ns - np) none) (st S p P []))) : Sp (runB np ns g ds S) Q :=
  sp_run h fun Q' hQ => by
    have z := k (List.getElem?_eq_some_iff.mp hp).1 Q' hQ
    rwa [← st_in hp] at z
/-- without one -/
theorem sp_plain (h : ds.length = np) (k : ∀ Q' : R D → Prop, (∀ r, Q r → Q' r) → So S.length Q' (g (ds.map some ++ List.replicate (ns - np) none) (sx S []))) : Sp (runB np ns g ds S) Q :=
  sp_run h fun Q' hQ => by
    have z := k Q' hQ
    rwa [← sx_in] at z
theorem So_rt : So n Q (.rt d S) = Q (cmp n d S) := nr rfl
theorem So_nx : So n Q (.nx ρ S) = Q (cmp n .non S) := nr rfl
theorem So_ex : So n Q (.ex x ρ S) = Q (.ex x S) := nr rfl
/-! ### the store's normal forms -/
theorem st_len : (st T p P L).length = T.length + L.length := by unfold st; rw [List.length_append, List.length_set]
theorem st_p (h : p < T.length) : (st T p P L)[p]? = some (.lst P) := by
  unfold st
  rw [List.getElem?_append_left (by rw [List.length_set]; exact h), List.getElem?_set_self h]
theorem st_k : (st T p P L)[T.length + k]? = L[k]? := by
  unfold st
  rw [List.getElem?_append_right (by rw [List.length_set]; omega), List.length_set, Nat.add_sub_cancel_left]
theorem st_0 : (st T p P L)[T.length]? = L[0]? := st_k (k := 0)
theorem st_q (h : q < T.length) (e : q ≠ p) : (st T p P L)[q]? = T[q]? := by
  unfold st
  rw [List.getElem?_append_left (by rw [List.length_set]; exact h), List.getElem?_set_ne (Ne.symm e)]
theorem st_set_p (h : p < T.length) : (st T p P L).set p (.lst P') = st T p P' L := by
  unfold st
  rw [List.set_append_left _ _ (by rw [List.length_set]; exact h), List.set_set]
theorem st_set_k : (st T p P L).set (T.length + k) c = st T p P (L.set k c) := by
  unfold st
  rw [List.set_append_right _ _ (by rw [List.length_set]; omega), List.length_set, Nat.add_sub_cancel_left]
theorem st_set_0 : (st T p P L).set T.length c = st T p P (L.set 0 c) := st_set_k (k := 0)
theorem st_push : st T p P L ++ M = st T p P (L ++ M) := List.append_assoc ..
theorem sx_len : (sx T L).length = T.length + L.length := List.length_append ..
theorem sx_k : (sx T L)[T.length + k]? = L[k]? := by
  unfold sx
  rw [List.getElem?_append_right (by omega), Nat.add_sub_cancel_left]
theorem sx_0 : (sx T L)[T.length]? = L[0]? := sx_k (k := 0)
theorem sx_q (h : q < T.length) : (sx T L)[q]? = T[q]? := by
  unfold sx
  rw [List.getElem?_append_left h]
theorem sx_set_q (h : q < T.length) : (sx T L).set q c = sx (T.set q c) L := by
  unfold sx
  rw [List.set_append_left _ _ h]
theorem sx_set_k : (sx T L).set (T.length + k) c = sx T (L.set k c) := by
  unfold sx
  rw [List.set_append_right _ _ (by omega), Nat.add_sub_cancel_left]
theorem sx_set_0 : (sx T L).set T.length c = sx T (L.set 0 c) := sx_set_k (k := 0)
theorem sx_push : sx T L ++ M = sx T (L ++ M) := List.append_assoc ..
/-! ### what a def leaves -/
theorem SWf_set (hS : SWf n T = true) (hc : c.wf n = true) : SWf n (T.set q c) = true := List.all_eq_true.mpr fun x hx => by
  rcases List.mem_or_eq_of_mem_set hx with z | z
  · exact List.all_eq_true.mp hS x z
  · rw [z]; exact hc
theorem fin_p (hT : SWf T.length T = true) (hP : wfs T.length P = true) (hd : d.wf T.length = true) : cmp T.length d (st T p P L) = .ok d (T.set p (.lst P)) := by
  unfold cmp st
  have e : (T.set p (Cell.lst P) ++ L).take T.length = T.set p (.lst P) := List.take_left' (List.length_set ..)
  rw [e, if_pos (SWf_set (c := .lst P) hT hP), if_pos hd]
theorem fin_pl {xs : List D} (hT : SWf T.length T = true) (hP : wfs T.length P = true) (hL : L[k]? = some (.lst xs)) (hx : wfs T.length xs = true) : cmp T.length (.ref (T.length + k)) (st T p P L) = .ok (.ref T.length) (T.set p (.lst P) ++ [.lst xs]) := by
  unfold cmp
  have e : (st T p P L).take T.length = T.set p (.lst P) := List.take_left' (List.length_set ..)
  rw [e, if_pos (SWf_set (c := .lst P) hT hP), if_neg (show ¬ (D.ref (T.length + k)).wf T.length = true from fun z => by
    have z' : T.length + k < T.length := of_decide_eq_true z
    omega)]
  simp only [st_k, hL, newCell, hx, if_true]
theorem fin_pl0 {xs : List D} (hT : SWf T.length T = true) (hP : wfs T.length P = true) (hx : wfs T.length xs = true) : cmp T.length (.ref T.length) (st T p P (.lst xs :: L)) = .ok (.ref T.length) (T.set p (.lst P) ++ [.lst xs]) := fin_pl (k := 0) hT hP rfl hx
theorem fin_x (hT : SWf T.length T = true) (hd : d.wf T.length = true) : cmp T.length d (sx T L) = .ok d T := by
  unfold cmp sx
  rw [List.take_left' rfl, if_pos hT, if_pos hd]
theorem fin_xl {xs : List D} (hT : SWf T.length T = true) (hL : L[k]? = some (.lst xs)) (hx : wfs T.length xs = true) : cmp T.length (.ref (T.length + k)) (sx T L) = .ok (.ref T.length) (T ++ [.lst xs]) := by
  unfold cmp
  have e : (sx T L).take T.length = T := List.take_left' rfl
  rw [e, if_pos hT, if_neg (show ¬ (D.ref (T.length + k)).wf T.length = true from fun z => by
    have z' : T.length + k < T.length := of_decide_eq_true z
    omega)]
  simp only [sx_k, hL, newCell, hx, if_true]
theorem fin_xl0 {xs : List D} (hT : SWf T.length T = true) (hx : wfs T.length xs = true) : cmp T.length (.ref T.length) (sx T (.lst xs :: L)) = .ok (.ref T.length) (T ++ [.lst xs]) := fin_xl (k := 0) hT rfl hx
theorem Qp (hT : SWf T.length T = true) (hP : wfs T.length P = true) (hd : d.wf T.length = true) (h : Q (.ok d (T.set p (.lst P)))) : Q (cmp T.length d (st T p P L)) := by rw [fin_p hT hP hd]; exact h
theorem Qpl {xs : List D} (hT : SWf T.length T = true) (hP : wfs T.length P = true) (hL : L[k]? = some (.lst xs)) (hx : wfs T.length xs = true) (h : Q (.ok (.ref T.length) (T.set p (.lst P) ++ [.lst xs]))) : Q (cmp T.length (.ref (T.length + k)) (st T p P L)) := by rw [fin_pl hT hP hL hx]; exact h
theorem Qpl0 {xs : List D} (hT : SWf T.length T = true) (hP : wfs T.length P = true) (hx : wfs T.length xs = true) (h : Q (.ok (.ref T.length) (T.set p (.lst P) ++ [.lst xs]))) : Q (cmp T.length (.ref T.length) (st T p P (.lst xs :: L))) := by rw [fin_pl0 hT hP hx]; exact h
theorem Qx (hT : SWf T.length T = true) (hd : d.wf T.length = true) (h : Q (.ok d T)) : Q (cmp T.length d (sx T L)) := by rw [fin_x hT hd]; exact h
theorem Qxl {xs : List D} (hT : SWf T.length T = true) (hL : L[k]? = some (.lst xs)) (hx : wfs T.length xs = true) (h : Q (.ok (.ref T.length) (T ++ [.lst xs]))) : Q (cmp T.length (.ref (T.length + k)) (sx T L)) := by rw [fin_xl hT hL hx]; exact h
theorem Qxl0 {xs : List D} (hT : SWf T.length T = true) (hx : wfs T.length xs = true) (h : Q (.ok (.ref T.length) (T ++ [.lst xs]))) : Q (cmp T.length (.ref T.length) (sx T (.lst xs :: L))) := by rw [fin_xl0 hT hx]; exact h
/-- nothing is new and nothing is bad -/
theorem fin_s (hS : S.length = n) (hd : d.wf n = true) : cmp n d S = .ok d S := cmp_same hS hd
end
/-! ### cells, read -/
def tyC : Option Cell → Option Ty
  | some (.lst _) => some .lst
  | some (.rol _) => some .lst
  | some (.dic _) => some .dic
  | _ => none
def lstC : Option Cell → Option (List D)
  | some (.lst xs) => some xs
  | some (.rol xs) => some xs
  | _ => none
def ixO (S : Store) : Option D → Option (D × Store)
  | some d => some (d, S)
  | none => none
def ixC (i : Int) (S : Store) : Option (List D) → Option (D × Store)
  | some xs => ixO S (atI xs i)
  | none => none
def ixS (S : Store) : Option Nat → Option (D × Store)
  | some c => some (.str ⟨#[c]⟩, S)
  | none => none
def lenC (S : Store) : Option (List D) → Option (D × Store)
  | some xs => some (.int xs.length, S)
  | none => none
def appC (l : Nat) (d : D) (S : Store) : Option Cell → Option (D × Store)
  | some (.lst xs) => if xs.length < LIM then some (.non, S.set l (.lst (xs ++ [d]))) else none
  | _ => none
def extC (l : Nat) (S : Store) : Option Cell → Option Cell → Option (D × Store)
  | some (.lst xs), some (.lst ys) => if xs.length + ys.length ≤ LIM then some (.non, S.set l (.lst (xs ++ ys))) else none
  | _, _ => none
def popC (l : Nat) (S : Store) : Option Cell → Option (D × Store)
  | some (.lst xs) => (xs[xs.length - 1]?).map fun d => (d, S.set l (.lst xs.dropLast))
  | _ => none
def setC (l : Nat) (k : Int) (d : D) (S : Store) : Option Cell → Option Store
  | some (.lst xs) => (ixN xs.length k).map fun j => S.set l (.lst (xs.set j d))
  | _ => none
def catC (S : Store) : Option Cell → Option Cell → Option (D × Store)
  | some (.lst xs), some (.lst ys) => if xs.length + ys.length ≤ LIM then some (.ref S.length, S ++ [.lst (xs ++ ys)]) else none
  | _, _ => none
def tupC (S : Store) : Option (List D) → Option (D × Store)
  | some xs => some (.tup xs, S)
  | none => none
def newC (S : Store) : Option (List D) → Option (D × Store)
  | some xs => some (.ref S.length, S ++ [.lst xs])
  | none => none
def slC (lo hi : Option Int) (S : Store) : Option (List D) → Option (D × Store)
  | some xs => some (.ref S.length, S ++ [.lst (cutD xs lo hi)])
  | none => none
def truC : Option Cell → Option Bool
  | some (.lst xs) => some (!xs.isEmpty)
  | some (.rol xs) => some (!xs.isEmpty)
  | some (.dic kvs) => some (!kvs.isEmpty)
  | _ => none
def isO (T : Ty) (S : Store) : Option Ty → Option (D × Store)
  | some t => some (.bl (isiB t T), S)
  | none => none
def sumO (S : Store) : Option (List Int) → Option (D × Store)
  | some is => some (.int is.sum, S)
  | none => none
def sumC (S : Store) : Option (List D) → Option (D × Store)
  | some xs => sumO S (intsD xs)
  | none => none
def iaC (l : Nat) (S : Store) : Option (List D) → R (List D × Chk)
  | some xs => .ok (xs, [(l, xs)]) S
  | none => .no
section
variable {S : Store} {l r : Nat} {i k : Int} {d e : D} {xs ys : List D} {x : Str} {T : Ty} {t : Ty} {lo hi : Option Int}
theorem tyD_ref : tyD S (.ref l) = tyC S[l]? := by
  show (match S[l]? with | some (.lst _) => some Ty.lst | some (.rol _) => some Ty.lst | some (.dic _) => some Ty.dic | _ => none) = tyC S[l]?
  cases S[l]? with
  | none => rfl
  | some c => cases c <;> rfl
theorem tyC_lst : tyC (some (.lst xs)) = some .lst := nr rfl
theorem tyC_rol : tyC (some (.rol xs)) = some .lst := nr rfl
theorem tyC_dic {kvs : List (Key × D)} : tyC (some (.dic kvs)) = some .dic := nr rfl
theorem lstAt_C : lstAt S l = lstC S[l]? := by
  unfold lstAt
  cases S[l]? with
  | none => rfl
  | some c => cases c <;> rfl
theorem lstC_lst : lstC (some (.lst xs)) = some xs := nr rfl
theorem lstC_rol : lstC (some (.rol xs)) = some xs := nr rfl
theorem gIx_r : gIx (.ref l) (.int i) S = ixC i S (lstC S[l]?) := by
  show (lstAt S l).bind (fun xs => (atI xs i).map fun d => (d, S)) = _
  rw [lstAt_C]
  cases lstC S[l]? with
  | none => rfl
  | some xs =>
    show (atI xs i).map (fun d => (d, S)) = ixO S (atI xs i)
    cases atI xs i <;> rfl
theorem ixC_s : ixC i S (some xs) = ixO S (atI xs i) := nr rfl
theorem ixO_s : ixO S (some d) = some (d, S) := nr rfl
theorem gIx_t : gIx (.tup xs) (.int i) S = ixO S (atI xs i) := by
  show (atI xs i).map (fun d => (d, S)) = _
  cases atI xs i <;> rfl
theorem gIx_s : gIx (.str x) (.int i) S = ixS S (atI x.cps.toList i) := by
  show (atI x.cps.toList i).map _ = _
  cases atI x.cps.toList i <;> rfl
theorem ixS_s {c : Nat} : ixS S (some c) = some (.str ⟨#[c]⟩, S) := nr rfl
theorem atI_0 {α : Type} {a : α} {as : List α} : atI (a :: as) 0 = some a := by
  have h : atI (a :: as) ((0 : Nat) : Int) = (a :: as)[0]? := atI_nat (by rfl)
  exact h
theorem atI_1 {α : Type} {a b : α} {as : List α} : atI (a :: b :: as) 1 = some b := atI_nat (j := 1) rfl
theorem atI_2 {α : Type} {a b c : α} {as : List α} : atI (a :: b :: c :: as) 2 = some c := atI_nat (j := 2) rfl
theorem atI_3 {α : Type} {a b c d : α} {as : List α} : atI (a :: b :: c :: d :: as) 3 = some d := atI_nat (j := 3) rfl
theorem atI_4 {α : Type} {a b c d e : α} {as : List α} : atI (a :: b :: c :: d :: e :: as) 4 = some e := atI_nat (j := 4) rfl
theorem atI_5 {α : Type} {a b c d e f : α} {as : List α} : atI (a :: b :: c :: d :: e :: f :: as) 5 = some f := atI_nat (j := 5) rfl
theorem gLen_r : gLen [.ref l] S = lenC S (lstC S[l]?) := by
  show (lstAt S l).map _ = _
  rw [lstAt_C]
  cases lstC S[l]? <;> rfl
theorem lenC_s : lenC S (some xs) = some (.int xs.length, S) := nr rfl
theorem gAppend_r : gAppend (.ref l) [d] S = appC l d S S[l]? := by
  show (match S[l]? with | some (.lst xs) => if xs.length < LIM then some (D.non, S.set l (.lst (xs ++ [d]))) else none | _ => none) = _
  cases S[l]? with
  | none => rfl
  | some c => cases c <;> rfl
theorem appC_s (h : xs.length < 16777216) : appC l d S (some (.lst xs)) = some (.non, S.set l (.lst (xs ++ [d]))) := if_pos h
theorem gExtend_r : gExtend (.ref l) [.ref r] S = extC l S S[l]? S[r]? := by
  show (match S[l]?, S[r]? with | some (.lst xs), some (.lst ys) => if xs.length + ys.length ≤ LIM then some (D.non, S.set l (.lst (xs ++ ys))) else none | _, _ => none) = _
  cases S[l]? with
  | none => rfl
  | some c =>
    cases S[r]? with
    | none => cases c <;> rfl
    | some c' => cases c <;> cases c' <;> rfl
theorem extC_s (h : xs.length + ys.length ≤ 16777216) : extC l S (some (.lst xs)) (some (.lst ys)) = some (.non, S.set l (.lst (xs ++ ys))) := if_pos h
theorem gPop_r : gPop (.ref l) [] S = popC l S S[l]? := by
  show (match S[l]? with | some (.lst xs) => (xs[xs.length - 1]?).map fun d => (d, S.set l (.lst xs.dropLast)) | _ => none) = _
  cases S[l]? with
  | none => rfl
  | some c => cases c <;> rfl
theorem popC_s : popC l S (some (.lst (xs ++ [d]))) = some (d, S.set l (.lst xs)) := by
  show ((xs ++ [d])[(xs ++ [d]).length - 1]?).map _ = _
  rw [List.length_append, List.length_singleton, Nat.add_sub_cancel, List.getElem?_append_right (Nat.le_refl _), Nat.sub_self, List.dropLast_concat]
  rfl
theorem gSet_r : gSet (.ref l) (.int k) d S = setC l k d S S[l]? := by
  show (match S[l]? with | some (.lst xs) => (ixN xs.length k).map fun j => S.set l (.lst (xs.set j d)) | _ => none) = _
  cases S[l]? with
  | none => rfl
  | some c => cases c <;> rfl
theorem setC_s {m : Nat} (h : ixN xs.length k = some m) : setC l k d S (some (.lst xs)) = some (S.set l (.lst (xs.set m d))) := by
  show (ixN xs.length k).map _ = _
  rw [h]
  rfl
theorem setC_0 {a : D} : setC l 0 d S (some (.lst (a :: xs))) = some (S.set l (.lst (d :: xs))) := setC_s (m := 0) (xs := a :: xs) (by unfold ixN; rw [if_pos (by decide), if_pos (by rw [List.length_cons]; omega)]; rfl)
theorem setC_2 {a b c : D} : setC l 2 d S (some (.lst (a :: b :: c :: xs))) = some (S.set l (.lst (a :: b :: d :: xs))) := setC_s (m := 2) (xs := a :: b :: c :: xs) (by unfold ixN; rw [if_pos (by decide), if_pos (by rw [List.length_cons, List.length_cons, List.length_cons]; omega)]; rfl)
theorem gAdd_r : gAdd (.ref l) (.ref r) S = catC S S[l]? S[r]? := by
  show catL S l r = _
  unfold catL
  cases S[l]? with
  | none => rfl
  | some c =>
    cases S[r]? with
    | none => cases c <;> rfl
    | some c' => cases c <;> cases c' <;> rfl
theorem catC_s (h : xs.length + ys.length ≤ 16777216) : catC S (some (.lst xs)) (some (.lst ys)) = some (.ref S.length, S ++ [.lst (xs ++ ys)]) := if_pos h
/-- tuples, the left one empty or not -/
theorem gAdd_t (h : xs.length + ys.length ≤ 16777216) : gAdd (.tup xs) (.tup ys) S = some (.tup (xs ++ ys), S) := by
  cases xs with
  | nil => rfl
  | cons x xs => exact if_pos h
theorem gTuple_r : gTuple [.ref l] S = tupC S (lstC S[l]?) := by
  show (lstAt S l).map _ = _
  rw [lstAt_C]
  cases lstC S[l]? <;> rfl
theorem tupC_s : tupC S (some xs) = some (.tup xs, S) := nr rfl
theorem gTuple_t : gTuple [.tup xs] S = some (.tup xs, S) := nr rfl
theorem gList_r : gList [.ref l] S = newC S (lstC S[l]?) := by
  show (lstAt S l).map _ = _
  rw [lstAt_C]
  cases lstC S[l]? <;> rfl
theorem gList_t : gList [.tup xs] S = some (.ref S.length, S ++ [.lst xs]) := nr rfl
theorem newC_s : newC S (some xs) = some (.ref S.length, S ++ [.lst xs]) := nr rfl
theorem gSl_r : gSl (.ref l) lo hi S = slC lo hi S (lstC S[l]?) := by
  show (lstAt S l).map _ = _
  rw [lstAt_C]
  cases lstC S[l]? <;> rfl
theorem slC_s : slC lo hi S (some xs) = some (.ref S.length, S ++ [.lst (cutD xs lo hi)]) := nr rfl
theorem gSl_t : gSl (.tup xs) lo hi S = some (.tup (cutD xs lo hi), S) := nr rfl
theorem gSl_s : gSl (.str x) lo hi S = some (.str (cutS x lo hi), S) := nr rfl
theorem truD_ref : truD S (.ref l) = truC S[l]? := by
  show (match S[l]? with | some (.lst xs) => some (!xs.isEmpty) | some (.rol xs) => some (!xs.isEmpty) | some (.dic kvs) => some (!kvs.isEmpty) | _ => none) = _
  cases S[l]? with
  | none => rfl
  | some c => cases c <;> rfl
theorem truC_lst : truC (some (.lst xs)) = some (!xs.isEmpty) := nr rfl
theorem truD_non : truD S .non = some false := nr rfl
theorem truD_str : truD S (.str x) = some ((x.length : Int) != 0) := nr rfl
theorem isi_str : gIsi .str [d, .raw (.ty "str")] S = isO .str S (tyD S d) := by
  show (tyD S d).map (fun t => (D.bl (isiB t .str), S)) = _
  cases tyD S d <;> rfl
theorem isi_int : gIsi .int [d, .raw (.ty "int")] S = isO .int S (tyD S d) := by
  show (tyD S d).map (fun t => (D.bl (isiB t .int), S)) = _
  cases tyD S d <;> rfl
theorem isi_bool : gIsi .bl [d, .raw (.ty "bool")] S = isO .bl S (tyD S d) := by
  show (tyD S d).map (fun t => (D.bl (isiB t .bl), S)) = _
  cases tyD S d <;> rfl
theorem isi_tup : gIsi .tup [d, .raw (.ty "tuple")] S = isO .tup S (tyD S d) := by
  show (tyD S d).map (fun t => (D.bl (isiB t .tup), S)) = _
  cases tyD S d <;> rfl
theorem isi_lst : gIsi .lst [d, .raw (.ty "list")] S = isO .lst S (tyD S d) := by
  show (tyD S d).map (fun t => (D.bl (isiB t .lst), S)) = _
  cases tyD S d <;> rfl
theorem isO_s : isO T S (some t) = some (.bl (isiB t T), S) := nr rfl
theorem isB_1 : isiB .str .str = true := nr rfl
theorem isB_2 : isiB .tup .str = false := nr rfl
theorem isB_3 : isiB .int .str = false := nr rfl
theorem isB_4 : isiB .lst .str = false := nr rfl
theorem isB_5 : isiB .non .str = false := nr rfl
theorem isB_6 : isiB .bl .str = false := nr rfl
theorem isB_7 : isiB .str .int = false := nr rfl
theorem isB_8 : isiB .tup .int = false := nr rfl
theorem isB_9 : isiB .int .int = true := nr rfl
theorem isB_10 : isiB .lst .int = false := nr rfl
theorem isB_11 : isiB .non .int = false := nr rfl
theorem isB_12 : isiB .bl .int = true := nr rfl
theorem isB_13 : isiB .str .tup = false := nr rfl
theorem isB_14 : isiB .tup .tup = true := nr rfl
theorem isB_15 : isiB .int .tup = false := nr rfl
theorem isB_16 : isiB .lst .tup = false := nr rfl
theorem isB_17 : isiB .non .tup = false := nr rfl
theorem isB_18 : isiB .bl .tup = false := nr rfl
theorem isB_19 : isiB .str .bl = false := nr rfl
theorem isB_20 : isiB .tup .bl = false := nr rfl
theorem isB_21 : isiB .int .bl = false := nr rfl
theorem isB_22 : isiB .bl .bl = true := nr rfl
theorem isB_23 : isiB .dic .str = false := nr rfl
theorem isB_24 : isiB .dic .tup = false := nr rfl
theorem isB_25 : isiB .lst .lst = true := nr rfl
theorem isB_26 : isiB .tup .lst = false := nr rfl
theorem gSum_r : gSum [.ref l] S = sumC S (lstC S[l]?) := by
  show ((lstAt S l).bind intsD).map _ = _
  rw [lstAt_C]
  cases lstC S[l]? with
  | none => rfl
  | some xs =>
    show (intsD xs).map (fun ns => (D.int ns.sum, S)) = sumO S (intsD xs)
    cases intsD xs <;> rfl
theorem sumC_s : sumC S (some xs) = sumO S (intsD xs) := nr rfl
theorem sumO_s {is : List Int} : sumO S (some is) = some (.int is.sum, S) := nr rfl
theorem gMin_ {a b : Int} : gMin2 [.int a, .int b] S = some (.int (if b < a then b else a), S) := nr rfl
theorem gMax_ {a b : Int} : gMax2 [.int a, .int b] S = some (.int (if b > a then b else a), S) := nr rfl
theorem qEq_int {a b : Int} : gEq (.int a) (.int b) S = some (.bl (decide (a = b)), S) := by
  rw [gEq_int]
  by_cases e : a = b
  · rw [decide_eq_true e, e, beq_self_eq_true]
  · rw [decide_eq_false e, beq_eq_false_iff_ne.mpr e]
theorem qNe_int {a b : Int} : gNe (.int a) (.int b) S = some (.bl (!decide (a = b)), S) := by
  rw [gNe_int]
  by_cases e : a = b
  · rw [decide_eq_true e, e, beq_self_eq_true]
  · rw [decide_eq_false e, beq_eq_false_iff_ne.mpr e]
theorem qEq_str {a b : Str} : gEq (.str a) (.str b) S = some (.bl (decide (a = b)), S) := by
  rw [gEq_str]
  by_cases e : a = b
  · rw [decide_eq_true e, e, beq_self_eq_true]
  · rw [decide_eq_false e, beq_eq_false_iff_ne.mpr e]
theorem qNe_str {a b : Str} : gNe (.str a) (.str b) S = some (.bl (!decide (a = b)), S) := by
  rw [gNe_str]
  by_cases e : a = b
  · rw [decide_eq_true e, e, beq_self_eq_true]
  · rw [decide_eq_false e, beq_eq_false_iff_ne.mpr e]
theorem gNeg_z : gNeg (.int i) S = some (.int (-i), S) := nr rfl
end
/-! ### slices -/
theorem sIx_nat (n d k : Nat) (h : k ≤ n) : HT.sIx n d (some (k : Int)) = k := by
  unfold HT.sIx
  simp only
  split
  · omega
  · rw [Int.toNat_natCast]; omega
theorem cut_take {α : Type} {xs : List α} {k : Int} (h0 : 0 ≤ k) : cutD xs none (some k) = xs.take k.toNat := by
  unfold cutD HT.sIx
  simp only
  rw [if_neg (by omega)]
  simp only [List.drop_zero, Nat.sub_zero]
  rcases Nat.le_total k.toNat xs.length with h | h
  · rw [Nat.min_eq_left h]
  · rw [Nat.min_eq_right h, List.take_length, List.take_of_length_le h]
theorem cut_drop {α : Type} {xs : List α} {k : Int} (h0 : 0 ≤ k) : cutD xs (some k) none = xs.drop k.toNat := by
  unfold cutD HT.sIx
  simp only
  rw [if_neg (by omega)]
  rcases Nat.le_total k.toNat xs.length with h | h
  · rw [Nat.min_eq_left h, List.take_of_length_le (by rw [List.length_drop]; omega)]
  · rw [Nat.min_eq_right h, List.drop_length, List.drop_of_length_le h, List.take_nil]
theorem cut_mid {α : Type} {xs : List α} {j k : Int} (h0 : 0 ≤ j) (h1 : j ≤ k) (h2 : k ≤ xs.length) : cutD xs (some j) (some k) = (xs.drop j.toNat).take (k.toNat - j.toNat) := by
  unfold cutD HT.sIx
  simp only
  rw [if_neg (by omega), if_neg (by omega), Nat.min_eq_left (by omega), Nat.min_eq_left (by omega)]
theorem cut_init {α : Type} {xs : List α} : cutD xs none (some (-1)) = xs.dropLast := by
  unfold cutD HT.sIx
  simp only
  rw [if_pos (by decide), List.drop_zero, List.dropLast_eq_take, Nat.sub_zero]
  congr 1
  omega
theorem atI_last {α : Type} {xs : List α} {a : α} : atI (xs ++ [a]) (-1) = some a := L2.atI_last _ _
/-! ### loops -/
def Tn (I : Env → Store → Prop) (P : Out → Prop) : Out → Prop
  | .nx ρ S => I ρ S
  | .ct ρ S => I ρ S
  | .bk ρ S => P (.nx ρ S)
  | .rt d S => P (.rt d S)
  | .ex x ρ S => P (.ex x ρ S)
  | .no => False
section
variable {tg : D → SX} {body h : SX} {k : Chk} {P : Out → Prop}
theorem Tn_nx {I : Env → Store → Prop} {ρ : Env} {S : Store} : Tn I P (.nx ρ S) = I ρ S := nr rfl
theorem Tn_ct {I : Env → Store → Prop} {ρ : Env} {S : Store} : Tn I P (.ct ρ S) = I ρ S := nr rfl
theorem Tn_bk {I : Env → Store → Prop} {ρ : Env} {S : Store} : Tn I P (.bk ρ S) = P (.nx ρ S) := nr rfl
theorem Tn_rt {I : Env → Store → Prop} {d : D} {S : Store} : Tn I P (.rt d S) = P (.rt d S) := nr rfl
theorem Tn_ex {I : Env → Store → Prop} {x : Exn} {ρ : Env} {S : Store} : Tn I P (.ex x ρ S) = P (.ex x ρ S) := nr rfl
theorem forQ' (I : Nat → Env → Store → Prop) {all : List D} (hs : ∀ j d ρ S, all[j]? = some d → I j ρ S → chkOk k S ∧ ∃ ρ1 S1, tg d ρ S = .nx ρ1 S1 ∧ Tn (I (j + 1)) P (body ρ1 S1))
    (he : ∀ ρ S, I all.length ρ S → chkOk k S ∧ P (.nx ρ S)) : ∀ (xs : List D) (i : Nat) (ρ : Env) (S : Store), all.drop i = xs → i + xs.length = all.length → I i ρ S → P (runF tg body k xs ρ S)
  | [], i, ρ, S, _, hi, h0 => by
    have hi : i = all.length := hi
    subst hi
    obtain ⟨h1, h2⟩ := he ρ S h0
    unfold runF
    rw [if_pos h1]
    exact h2
  | d :: ds, i, ρ, S, e, hi, h0 => by
    have hd : all[i]? = some d := by
      have := congrArg (fun l => l[0]?) e
      simpa using this
    have ht : all.drop (i + 1) = ds := by
      rw [← List.drop_drop, e]
      rfl
    have hi' : i + 1 + ds.length = all.length := by rw [← hi, List.length_cons]; omega
    obtain ⟨h1, ρ1, S1, h2, h3⟩ := hs i d ρ S hd h0
    unfold runF
    rw [if_pos h1, h2]
    show P (match body ρ1 S1 with
      | .nx ρ2 S2 => runF tg body k ds ρ2 S2
      | .ct ρ2 S2 => runF tg body k ds ρ2 S2
      | .bk ρ2 S2 => .nx ρ2 S2
      | o => o)
    cases eb : body ρ1 S1 with
    | nx ρ2 S2 => rw [eb] at h3; exact forQ' I hs he ds (i + 1) ρ2 S2 ht hi' h3
    | ct ρ2 S2 => rw [eb] at h3; exact forQ' I hs he ds (i + 1) ρ2 S2 ht hi' h3
    | bk ρ2 S2 => rw [eb] at h3; exact h3
    | rt d S2 => rw [eb] at h3; exact h3
    | ex x ρ2 S2 => rw [eb] at h3; exact h3
    | no => rw [eb] at h3; exact h3.elim
/-- a for loop by an invariant, something behind it -/
theorem forQ (I : Nat → Env → Store → Prop) {all : List D} {ρ : Env} {S : Store} (h0 : I 0 ρ S) (hs : ∀ j d ρ S, all[j]? = some d → I j ρ S → chkOk k S ∧ ∃ ρ1 S1, tg d ρ S = .nx ρ1 S1 ∧ Tn (I (j + 1)) (fun o => P (o.seq h)) (body ρ1 S1))
    (he : ∀ ρ S, I all.length ρ S → chkOk k S ∧ P (h ρ S)) : P ((runF tg body k all ρ S).seq h) :=
  forQ' (P := fun o => P (o.seq h)) I hs he all 0 ρ S rfl (Nat.zero_add _) h0
/-- the same, nothing behind it -/
theorem forQe (I : Nat → Env → Store → Prop) {all : List D} {ρ : Env} {S : Store} (h0 : I 0 ρ S) (hs : ∀ j d ρ S, all[j]? = some d → I j ρ S → chkOk k S ∧ ∃ ρ1 S1, tg d ρ S = .nx ρ1 S1 ∧ Tn (I (j + 1)) P (body ρ1 S1))
    (he : ∀ ρ S, I all.length ρ S → chkOk k S ∧ P (.nx ρ S)) : P (runF tg body k all ρ S) :=
  forQ' I hs he all 0 ρ S rfl (Nat.zero_add _) h0
/-- over a range from lo -/
theorem rng_get {lo : Int} {n j : Nat} {d : D} (h : (rng lo n)[j]? = some d) : j < n ∧ d = .int (lo + j) := by
  unfold rng at h
  rw [List.getElem?_map] at h
  by_cases z : j < n
  · rw [List.getElem?_range z] at h
    cases h
    exact ⟨z, rfl⟩
  · rw [List.getElem?_eq_none (by rw [List.length_range]; omega)] at h
    cases h
/-- a while loop: what is left falls -/
theorem whileQ' {t : TX} (I : Nat → Env → Store → Prop) (hs : ∀ j ρ S, I j ρ S → (∃ S1, t ρ S = .ok false S1 ∧ P (.nx ρ S1)) ∨ ∃ S1, t ρ S = .ok true S1 ∧ Tn (fun ρ S => ∃ i, i < j ∧ I i ρ S) P (body ρ S1)) :
    ∀ (m j : Nat) (ρ : Env) (S : Store), j < m → I j ρ S → P (runW t body m ρ S)
  | 0, j, _, _, h, _ => absurd h (Nat.not_lt_zero _)
  | m + 1, j, ρ, S, hj, h0 => by
    unfold runW
    rcases hs j ρ S h0 with ⟨S1, e, q⟩ | ⟨S1, e, q⟩
    · rw [e]; exact q
    · rw [e]
      show P (match body ρ S1 with
        | .nx ρ2 S2 => runW t body m ρ2 S2
        | .ct ρ2 S2 => runW t body m ρ2 S2
        | .bk ρ2 S2 => .nx ρ2 S2
        | o => o)
      cases eb : body ρ S1 with
      | nx ρ2 S2 => rw [eb] at q; obtain ⟨i, hi, q⟩ := q; exact whileQ' I hs m i ρ2 S2 (by omega) q
      | ct ρ2 S2 => rw [eb] at q; obtain ⟨i, hi, q⟩ := q; exact whileQ' I hs m i ρ2 S2 (by omega) q
      | bk ρ2 S2 => rw [eb] at q; exact q
      | rt d S2 => rw [eb] at q; exact q
      | ex x ρ2 S2 => rw [eb] at q; exact q
      | no => rw [eb] at q; exact q.elim
/-- a comprehension by an invariant: what stands in the new list after j turns, and in what store -/
theorem compQ {l : Nat} {ρ : Env} {g : Cg} {ft : TX} {fe : EX} (I : Nat → List D → Store → Prop) {all : List D} (hl : all.length ≤ 1000000)
    (hs : ∀ j d acc S, all[j]? = some d → acc.length ≤ j → S[l]? = some (.lst acc) → I j acc S → chkOk k S ∧ ∃ ρ1, g.put d ρ = some ρ1 ∧ ∃ b S2, ft ρ1 S = .ok b S2 ∧ S2[l]? = some (.lst acc) ∧
      (b = false → I (j + 1) acc S2) ∧ (b = true → ∃ e S3, fe ρ1 S2 = .ok e S3 ∧ S3[l]? = some (.lst acc) ∧ I (j + 1) (acc ++ [e]) (S3.set l (.lst (acc ++ [e])))))
    (he : ∀ acc S, I all.length acc S → chkOk k S) :
    ∀ (xs : List D) (i : Nat) (acc : List D) (S : Store), all.drop i = xs → i + xs.length = all.length → acc.length ≤ i → S[l]? = some (.lst acc) → I i acc S → ∃ acc' S', acc'.length ≤ all.length ∧ S'[l]? = some (.lst acc') ∧ I all.length acc' S' ∧ runC l ρ g ft fe k xs S = .ok (.ref l) S'
  | [], i, acc, S, _, hi, ha, hS, h0 => by
    have hi : i = all.length := hi
    subst hi
    refine ⟨acc, S, ha, hS, h0, ?_⟩
    unfold runC
    rw [if_pos (he acc S h0)]
  | d :: ds, i, acc, S, e, hi, ha, hS, h0 => by
    have hd : all[i]? = some d := by
      have := congrArg (fun l => l[0]?) e
      simpa using this
    have ht : all.drop (i + 1) = ds := by
      rw [← List.drop_drop, e]
      rfl
    have hi' : i + 1 + ds.length = all.length := by rw [← hi, List.length_cons]; omega
    have hlt : i < all.length := by rw [← hi, List.length_cons]; omega
    obtain ⟨h1, ρ1, h2, b, S2, h3, h4, h5, h6⟩ := hs i d acc S hd ha hS h0
    unfold runC
    rw [if_pos h1]
    simp only [h2, h3]
    cases b with
    | false => exact compQ I hl hs he ds (i + 1) acc S2 ht hi' (by omega) h4 (h5 rfl)
    | true =>
      obtain ⟨e, S3, h7, h8, h9⟩ := h6 rfl
      simp only [h7, h8]
      rw [if_pos (show acc.length < LIM by show acc.length < 16777216; omega)]
      exact compQ I hl hs he ds (i + 1) (acc ++ [e]) _ ht hi' (by rw [List.length_append, List.length_singleton]; omega) (List.getElem?_set_self (List.getElem?_eq_some_iff.mp h8).1) h9
end
/-! ### what is walked, evaluated -/
noncomputable def kFor (tg : D → SX) (body : SX) (ρ : Env) : R (List D × Chk) → Out
  | .ok p S => runF tg body p.2 p.1 ρ S
  | .ex x S => .ex x ρ S
  | .no => .no
def kR1 : R D → R (List D × Chk)
  | .ok d S => match d with
    | .int j => if -(2 ^ 62) ≤ j ∧ j < 2 ^ 62 then .ok (rng 0 j.toNat, []) S else .no
    | _ => .no
  | .ex x S => .ex x S
  | .no => .no
def kR3 (d : D) : R D → R (List D × Chk)
  | .ok e S => match d, e with
    | .int i, .int j => if -(2 ^ 62) ≤ i ∧ i < 2 ^ 62 ∧ -(2 ^ 62) ≤ j ∧ j < 2 ^ 62 then .ok (rng i (j - i).toNat, []) S else .no
    | _, _ => .no
  | .ex x S => .ex x S
  | .no => .no
def kR2 (g : EX) (ρ : Env) : R D → R (List D × Chk)
  | .ok d S => kR3 d (g ρ S)
  | .ex x S => .ex x S
  | .no => .no
def kAny : R D → R (List D × Chk)
  | .ok d S => match d with
    | .ref l => iaC l S (lstC S[l]?)
    | .tup xs => .ok (xs, []) S
    | .str x => .ok (x.cps.toList.map fun c => .str ⟨#[c]⟩, []) S
    | _ => .no
  | .ex x S => .ex x S
  | .no => .no
noncomputable def kLc (vs : List Nat) (g : Cg) (ft : TX) (fe : EX) (ρ : Env) : R (List D × Chk) → R D
  | .ok p S => runC S.length (wipeD ρ vs) g ft fe p.2 p.1 (S ++ [.lst []])
  | .ex x S => .ex x S
  | .no => .no
section
variable {src : IX} {tg : D → SX} {body : SX} {f g : EX} {ρ : Env} {S : Store} {i j : Int} {l : Nat} {xs : List D} {x : Str} {k : Chk} {vs : List Nat} {cg : Cg} {ft : TX} {fe : EX}
theorem sF_ : sF src tg body ρ S = kFor tg body ρ (src ρ S) := by show (src ρ S).out ρ _ = _; cases src ρ S <;> rfl
theorem kFor_ : kFor tg body ρ (.ok (xs, k) S) = runF tg body k xs ρ S := nr rfl
theorem iR1_ : iR1 f ρ S = kR1 (f ρ S) := by show (f ρ S).bind _ = _; cases f ρ S <;> rfl
theorem kR1_ (h0 : -4611686018427387904 ≤ j) (h1 : j < 4611686018427387904) : kR1 (.ok (.int j) S) = .ok (rng 0 j.toNat, []) S := if_pos ⟨h0, h1⟩
theorem iR2_ : iR2 f g ρ S = kR2 g ρ (f ρ S) := by
  show (f ρ S).bind _ = _
  cases f ρ S with
  | ok d S1 =>
    show (g ρ S1).bind _ = kR3 d (g ρ S1)
    cases g ρ S1 <;> rfl
  | _ => rfl
theorem kR2_ {d : D} : kR2 g ρ (.ok d S) = kR3 d (g ρ S) := nr rfl
theorem kR3_ (h0 : -4611686018427387904 ≤ i) (h1 : i < 4611686018427387904) (h2 : -4611686018427387904 ≤ j) (h3 : j < 4611686018427387904) : kR3 (.int i) (.ok (.int j) S) = .ok (rng i (j - i).toNat, []) S := if_pos ⟨h0, h1, h2, h3⟩
theorem iA_ : iA f ρ S = kAny (f ρ S) := by
  show (f ρ S).bind _ = _
  cases f ρ S with
  | ok d S1 =>
    cases d with
    | ref l =>
      show (match lstAt S1 l with | some xs => R.ok (xs, [(l, xs)]) S1 | none => .no) = iaC l S1 (lstC S1[l]?)
      rw [lstAt_C]
      cases lstC S1[l]? <;> rfl
    | _ => rfl
  | _ => rfl
theorem kAny_r : kAny (.ok (.ref l) S) = iaC l S (lstC S[l]?) := nr rfl
theorem kAny_t : kAny (.ok (.tup xs) S) = .ok (xs, []) S := nr rfl
theorem kAny_s : kAny (.ok (.str x) S) = .ok (x.cps.toList.map fun c => .str ⟨#[c]⟩, []) S := nr rfl
theorem iaC_s : iaC l S (some xs) = .ok (xs, [(l, xs)]) S := nr rfl
theorem eLc_ : eLc vs src cg ft fe ρ S = kLc vs cg ft fe ρ (src ρ S) := by show (src ρ S).bind _ = _; cases src ρ S <;> rfl
theorem kLc_ : kLc vs cg ft fe ρ (.ok (xs, k) S) = runC S.length (wipeD ρ vs) cg ft fe k xs (S ++ [.lst []]) := nr rfl
theorem wipeD_c {v : Nat} : wipeD ρ (v :: vs) = (wipeD ρ vs).set v none := nr rfl
theorem wipeD_n : wipeD ρ [] = ρ := nr rfl
theorem tYes_ : tYesD ρ S = .ok true S := nr rfl
theorem put_one {d : D} {m : Nat} : (Cg.one m).put d ρ = some (ρ.set m (some d)) := nr rfl
theorem sAug_ {m : Nat} {gg : D → D → Store → Option (D × Store)} {d : D} (h : ρ[m]? = some (some d)) : sAug m gg f ρ S = kN m ρ (kE2 gg d (f ρ S)) := by
  unfold sAug
  rw [h]
  show (f ρ S).out ρ _ = _
  cases f ρ S with
  | ok y S1 =>
    show (match gg d y S1 with | some (z, S2) => Out.nx (ρ.set m (some z)) S2 | none => .no) = kN m ρ (toR (gg d y S1))
    cases gg d y S1 <;> rfl
  | _ => rfl
theorem gAug_i : gAugAdd (.int i) (.int j) S = some (.int (i + j), S) := nr rfl
theorem sBk_ : sBk ρ S = .bk ρ S := nr rfl
theorem sCt_ : sCt ρ S = .ct ρ S := nr rfl
theorem sW_ {n : Nat} {t : TX} : sW n t body ρ S = runW t body n ρ S := nr rfl
/-- flat cells -/
inductive FL : List Cell → Prop
  | nil : FL []
  | cons {c : Cell} {L : List Cell} (h : c.flat = true) (t : FL L) : FL (c :: L)
end
theorem SOK_FL_wf {n : Nat} {c : Cell} (h : c.flat = true) : Cell.wf n c = true := by
  cases c with
  | lst xs => exact wfs_flat h
  | rol xs => exact wfs_flat h
  | dic kvs => exact wfs_flat h
  | gone => rfl
theorem FL.app : ∀ {L M : List Cell}, FL L → FL M → FL (L ++ M)
  | [], _, _, h => h
  | _ :: _, _, .cons h t, h' => .cons h (FL.app t h')
theorem FL.one {c : Cell} (h : c.flat = true) : FL [c] := .cons h .nil
theorem FL.set : ∀ {L : List Cell} {i : Nat} {c : Cell}, FL L → c.flat = true → FL (L.set i c)
  | [], _, _, _, _ => .nil
  | _ :: _, 0, _, .cons _ t, h => .cons h t
  | _ :: _, i + 1, _, .cons h0 t, h => .cons h0 (FL.set t h)
theorem FL.mem : ∀ {L : List Cell} {c : Cell}, FL L → c ∈ L → c.flat = true
  | _ :: _, _, .cons h t, hc => by
    rcases List.mem_cons.mp hc with rfl | hc
    · exact h
    · exact FL.mem t hc
section
variable {S : Store} {ρ : Env} {g : Cg} {fe : EX} {k : Chk} {ds : List D} {L : List Cell} {m p : Nat} {P : List D}
/-- a comprehension that leaves the store as it is -/
theorem comp_sx (val : D → D) (hz : ds.length ≤ 1000000) (hL : L[m]? = some (.lst [])) (hk : ∀ a, chkOk k (sx S (L.set m (.lst a))))
    (h : ∀ d ∈ ds, ∃ ρ1, g.put d ρ = some ρ1 ∧ ∀ a, fe ρ1 (sx S (L.set m (.lst a))) = .ok (val d) (sx S (L.set m (.lst a)))) :
    runC (S.length + m) ρ g tYesD fe k ds (sx S L) = .ok (.ref (S.length + m)) (sx S (L.set m (.lst (ds.map val)))) := by
  have hm := (List.getElem?_eq_some_iff.mp hL).1
  have e0 : L.set m (.lst []) = L := by
    apply List.ext_getElem?
    intro i
    by_cases e : m = i
    · subst e; rw [List.getElem?_set_self hm, hL]
    · rw [List.getElem?_set_ne e]
  obtain ⟨acc, T, h1, h2, ⟨rfl, rfl⟩, e⟩ := compQ (l := S.length + m) (ρ := ρ) (g := g) (ft := tYesD) (fe := fe) (k := k) (fun j acc T => acc = (ds.take j).map val ∧ T = sx S (L.set m (.lst acc))) (all := ds) hz (fun j d acc T hd ha hT hI => by
    obtain ⟨rfl, rfl⟩ := hI
    obtain ⟨ρ1, q1, q2⟩ := h d (List.mem_of_getElem? hd)
    refine ⟨hk _, ρ1, q1, true, _, rfl, hT, (fun z => nomatch z), fun _ => ⟨_, _, q2 _, hT, ?_, ?_⟩⟩
    · have hj := (List.getElem?_eq_some_iff.mp hd)
      rw [List.take_succ, hd, List.map_append]
      rfl
    · rw [sx_set_k, List.set_set]) (fun acc T hI => by rw [hI.2]; exact hk _) ds 0 [] (sx S L) rfl (Nat.zero_add _) (Nat.le_refl _) (by rw [sx_k]; exact hL) ⟨rfl, by rw [e0]⟩
  rw [e, List.take_length]
theorem comp_sx0 (val : D → D) (hz : ds.length ≤ 1000000) (hk : ∀ a, chkOk k (sx S (.lst a :: L)))
    (h : ∀ d ∈ ds, ∃ ρ1, g.put d ρ = some ρ1 ∧ ∀ a, fe ρ1 (sx S (.lst a :: L)) = .ok (val d) (sx S (.lst a :: L))) :
    runC S.length ρ g tYesD fe k ds (sx S (.lst [] :: L)) = .ok (.ref S.length) (sx S (.lst (ds.map val) :: L)) := comp_sx (m := 0) (L := .lst [] :: L) val hz rfl hk h
end
/-! ### dict displays -/
def dgC (k : Key) : Option Cell → Option D
  | some (.dic kvs) => findK kvs k
  | _ => none
theorem gDget_r {S : Store} {l : Nat} {s : Str} : gDget (.ref l) (.str s) S = ixO S (dgC (.inr s) S[l]?) := by
  show (match S[l]?, keyD (.str s) with | some (.dic kvs), some k => (findK kvs k).map fun d => (d, S) | _, _ => none) = _
  cases S[l]? with
  | none => rfl
  | some c =>
    cases c with
    | dic kvs =>
      show (findK kvs (.inr s)).map (fun d => (d, S)) = ixO S (findK kvs (.inr s))
      cases findK kvs (.inr s) <;> rfl
    | _ => rfl
theorem dgC_s {k : Key} {kvs : List (Key × D)} : dgC k (some (.dic kvs)) = findK kvs k := nr rfl
/-- a display of constants -/
theorem eDct_c {L : List (Key × EX)} {ds : List D} {ρ : Env} {S : Store} (h : aL L ρ (S ++ [.dic []]) = .ok ds (S ++ [.dic []])) (hL : L.length ≤ 15 ∧ (L.map (·.1)).Nodup) : eDct L ρ S = .ok (.ref S.length) (S ++ [.dic ((L.map (·.1)).zip ds)]) := by
  unfold eDct
  rw [h]
  simp only [R.bind_ok, get_end]
  rw [if_pos hL, set_end]
end Dl

set_option Elab.async false
set_option linter.all false
set_option maxRecDepth 100000
namespace Dl
open PySem L2
/-! ## a call of a def that a name holds -/
def heldF (a : Addr) : List (Addr × (List D → M D)) → Option (List D → M D)
  | [] => none
  | p :: r => if p.1 = a then some p.2 else heldF a r
/-- the def that stands in the i-th slot, called -/
def eFv (i : Nat) (cs : List (Addr × (List D → M D))) (fx : AX) : EX := fun ρ S => match ρ[i]? with
  | some (some (.raw (.ref a))) => match heldF a cs with
    | some F => (fx ρ S).bind fun xs S1 => F xs S1
    | none => .no
  | _ => .no
theorem heldF_mem {a : Addr} : ∀ {cs : List (Addr × (List D → M D))} {F : List D → M D}, heldF a cs = some F → (a, F) ∈ cs
  | [], _, h => nomatch h
  | p :: r, F, h => by
    unfold heldF at h
    split at h
    · rename_i e
      cases h
      rw [← e]
      exact List.mem_cons_self ..
    · exact List.mem_cons_of_mem _ (heldF_mem h)
section
variable {X : Cx} {W : WX} {e : Expr} {es : List Expr} {fx : AX} {pos p : Pos} {CX : CXT} {k i : Nat} {x : Str}
theorem d_callV {cs : List (Addr × (List D → M D))} (C : ∀ q ∈ cs, ∃ fd ps, FnOk X.prog X.w X.K X.mg X.base CX k q.1 fd ps (rdF ⟨X.K, X.mg, W0⟩ q.2) ∧ PySem.W.keepIn X.K (.ref q.1) = true ∧ Binds X.K fd ps []) (hr : Room k X.A)
    (hx : ∀ σ, PassesAt CX X σ (WE W σ)) (ha : PA X (e :: es) (rdA (X.cq W) fx)) (hN : X.N[i]? = some x := by rfl) (hv : Vis X.env.scope x := by first | exact Or.inl rfl | exact Or.inr (Or.inl rfl) | exact Or.inr (Or.inr rfl))
    (hdb : (x == ("__debug__" : Str)) = false := by decide) (hcd : (x == ("__classdict__" : Str)) = false := by decide)
    (he : starEach (e :: es) X.env = (false, eval e X.env) :: starEach es X.env := by rfl) (hpl : (backTo pos (starEach es X.env)).any (·.1) = false := by rfl) :
    PE X (.Call (.Name x p) (e :: es) [] pos) (rdE (X.cq W) (eFv i cs fx)) := by
  refine ⟨fun pins s σ H Q I ⟨m, ρ, S, re, rs, h⟩ => ?_⟩
  unfold eFv at h
  split at h
  · rename_i a er
    split at h
    · rename_i F eF
      obtain ⟨fd, ps, G, hk, hb⟩ := C _ (heldF_mem eF)
      obtain ⟨v, hs, rd⟩ := re.at_ er
      cases rd
      refine wpAny_Call_Name_kw (thn ((pe_var (pos := p) hN hv hdb hcd).run pins s σ H (fun v H1 => v = .ref a ∧ H1 = H) I ⟨.ref a, hs, rfl, rfl⟩) fun u s1 ⟨v, H1, I1, r1, q1⟩ => ?_)
      obtain ⟨q1, q2⟩ := q1
      subst q1 q2
      cases r1
      refine PySem.W.callWith_K (h₀ := X.base) I.ok.mod.kin hk (thn (ha.run pos pins s1 σ _ (fun vs H2 => rdF ⟨X.K, X.mg, W0⟩ F vs H2 Q (WE W σ)) I1 ⟨m, ρ, S, re, rs, (Post.bind h).imp fun vs H2 ⟨m2, xs, S2, e2, rs2, rds, h2⟩ => ⟨m2, xs, S2, rds, rs2, by
        cases er2 : F xs S2 with
        | ok d S3 => rw [er2] at h2; exact h2
        | ex ex S3 => rw [er2] at h2; exact h2
        | no => rw [er2] at h2; exact h2⟩⟩) fun us s2 ⟨vs, H2, I2, r, q⟩ => ⟨I2.kIn, run_fnS G hr hb (hx σ) I2 r q⟩) he hpl
    · exact h.elim
  · exact h.elim
end
/-! ## max of a list -/
def maxL : List Int → Int
  | [] => 0
  | [x] => x
  | x :: y :: r => if maxL (y :: r) < x then x else maxL (y :: r)
theorem maxL_mem : ∀ {xs : List Int}, xs ≠ [] → maxL xs ∈ xs
  | [], h => absurd rfl h
  | [x], _ => List.mem_cons_self ..
  | x :: y :: r, _ => by
    unfold maxL
    split
    · exact List.mem_cons_self ..
    · exact List.mem_cons_of_mem _ (maxL_mem (by simp))
theorem maxL_le : ∀ {xs : List Int} {y : Int}, y ∈ xs → y ≤ maxL xs
  | [x], y, h => by rw [List.mem_singleton.mp h]; exact Int.le_refl _
  | x :: z :: r, y, h => by
    unfold maxL
    have q : ∀ {w : Int}, w ∈ z :: r → w ≤ maxL (z :: r) := fun h => maxL_le h
    rcases List.mem_cons.mp h with e | h
    · subst e
      split <;> omega
    · have := q h
      split <;> omega
def gMaxL : List D → Store → Option (D × Store)
  | [.ref l], S => match (lstAt S l).bind intsD with
    | some (x :: r) => some (.int (maxL (x :: r)), S)
    | _ => none
  | _, _ => none
theorem ints_rdA {K : PySem.W.Frag} {m : List Addr} {H : Hp} : ∀ {xs : List D} {vs : List V} {ns : List Int}, RDs K m H vs xs → intsD xs = some ns → vs = ns.map V.int
  | [], _, _, r, h => by cases r; cases h; rfl
  | .int i :: r, _, ns, rr, h => by
    cases rr with
    | cons h1 h2 =>
      cases h1
      have h : (intsD r).map (i :: ·) = some ns := h
      cases e : intsD r with
      | none => rw [e] at h; cases h
      | some cs =>
        rw [e] at h
        cases h
        rw [ints_rdA h2 e]
        rfl
  | .non :: _, _, _, _, h => nomatch h
  | .bl _ :: _, _, _, _, h => nomatch h
  | .str _ :: _, _, _, _, h => nomatch h
  | .tup _ :: _, _, _, _, h => nomatch h
  | .ref _ :: _, _, _, _, h => nomatch h
  | .raw _ :: _, _, _, _, h => nomatch h
section
variable {X : Cx}
theorem c_maxL (hc : X.calm = true) : CallR X (.builtin "max") (rdC X.K gMaxL) := by
  intro pins s σ H vs us Q I r ⟨m, xs, S, hx, rs, h⟩
  unfold gMaxL at h
  split at h
  · rename_i l
    split at h
    · rename_i x ns e0
      cases e1 : lstAt S l with
      | none => rw [e1] at e0; exact nomatch e0
      | some ys =>
        rw [e1] at e0
        have e2 : intsD ys = some (x :: ns) := e0
        cases hx with
        | cons h1 h2 =>
          cases h2
          cases h1 with
          | ref hl =>
            obtain ⟨ws, hq, rd⟩ := rs.lst hl e1
            have ew := ints_rdA rd e2
            subst ew
            refine cr_max hc pins s σ H _ us Q I r ⟨_, x :: ns, rfl, hq, by rw [List.length_cons]; omega, fun mm h1 h2 => ?_⟩
            have e3 : mm = maxL (x :: ns) := Int.le_antisymm (maxL_le h1) (h2 _ (maxL_mem (by simp)))
            subst e3
            exact h _ _ m .refl rs (.int _)
    · exact h.elim
  · exact h.elim
end
/-! ## a list, times -/
def gRep : D → D → Store → Option (D × Store)
  | .ref l, .int k, S => match S[l]? with
    | some (.lst xs) => if -(2 ^ 63) ≤ k ∧ k < 2 ^ 63 ∧ xs.length * k.toNat ≤ LIM then some (.ref S.length, S ++ [.lst (List.replicate k.toNat xs).flatten]) else none
    | _ => none
  | _, _, _ => none
theorem RDs.rep {K : PySem.W.Frag} {m : List Addr} {H : Hp} {vs : List V} {ds : List D} (r : RDs K m H vs ds) : ∀ n : Nat, RDs K m H (List.replicate n vs).flatten (List.replicate n ds).flatten
  | 0 => .nil
  | n + 1 => by
    rw [List.replicate_succ, List.replicate_succ, List.flatten_cons, List.flatten_cons]
    exact r.append (RDs.rep r n)
theorem o_rep {X : Cx} : OpR X (binaryOp .Mult) (rd2 X.K gRep) := by
  intro pins s σ H v u vv uu Q I rv ru ⟨m, x, y, S, hx, hy, rs, h⟩
  unfold gRep at h
  split at h
  · rename_i l k
    split at h
    · rename_i xs e
      split at h
      · rename_i hc
        obtain ⟨c1, c2, c3⟩ := hc
        cases hx with
        | ref hl =>
          cases hy
          obtain ⟨ws, h1, r1⟩ := rs.wlst hl e
          exact op_rep pins s σ H _ _ vv uu Q I rv ru ⟨_, k, ws, rfl, rfl, h1, c1, c2, by rw [r1.length, ← lim_eq]; exact c3, fun p hp => vp_lst rs hp (r1.rep k.toNat) h⟩
      · exact h.elim
    · exact h.elim
  · exact h.elim
/-! ## // by a large number -/
def gFdivW : D → D → Store → Option (D × Store)
  | .int i, .int j, S => if 0 < j ∧ j.natAbs.log2 < 9000 then some (.int (i / j), S) else none
  | _, _, _ => none
theorem o_fdivW {X : Cx} : OpR X (binaryOp .FloorDiv) (rd2 X.K gFdivW) :=
  o_int (C := fun _ j => 0 < j ∧ j.natAbs.log2 < 9000) (g := fun i j => i / j) op_fdivW (fun i j H Q c q => ⟨i, j, rfl, rfl, c, q⟩) fun x y S => by cases x <;> cases y <;> rfl
/-! ## == with a wide bound -/
def gEqBW (lim : Nat) (x y : D) (S : Store) : Option Bool := match asP S x, asP S y with
  | some p, some q => if p.depth ≤ lim then some (PyData.eqv p q) else none
  | _, _ => none
def gEqW (lim : Nat) (x y : D) (S : Store) : Option (D × Store) := (gEqBW lim x y S).map fun b => (.bl b, S)
def gNeW (lim : Nat) (x y : D) (S : Store) : Option (D × Store) := (gEqBW lim x y S).map fun b => (.bl (!b), S)
section
variable {X : Cx}
theorem o_eqBW {lim : Nat} {op : CmpOp} {f : Bool → Bool} {g : D → D → Store → Option (D × Store)} (hg : ∀ x y S, g x y S = (gEqBW lim x y S).map fun b => (.bl (f b), S))
    (rule : ∀ {s : Shared} {a b : Value} {da db : PyData} {as bs : List Addr} {Q E : Value → Shared → Prop}, Reads s.heap a da as → Reads s.heap b db bs → da.plain = true → db.plain = true → X.A.units + min da.depth db.depth < cLine →
      Q (.bool (f (PyData.eqv da db))) s → wpAny (model X.prog X.w) X.A (compareOp op a b) Q E s) (hu : X.A.units + lim < cLine) : OpR X (compareOp op) (rd2 X.K g) := by
  intro pins s σ H v u vv uu Q I rv ru ⟨m, x, y, S, hx, hy, rs, h⟩
  rw [hg] at h
  unfold gEqBW at h
  split at h
  · rename_i p q e1 e2
    split at h
    · rename_i hd
      obtain ⟨d1, p1⟩ := asP_of rs hx e1
      obtain ⟨d2, p2⟩ := asP_of rs hy e2
      obtain ⟨as, r1⟩ := Dp.reads I _ _ _ d1 rv
      obtain ⟨bs, r2⟩ := Dp.reads I _ _ _ d2 ru
      have hm : min p.depth q.depth ≤ p.depth := Nat.min_le_left _ _
      exact rule r1 r2 p1 p2 (by omega) ⟨.bl _, H, I, rfl, h _ _ m .refl rs (.bl _)⟩
    · exact h.elim
  · exact h.elim
theorem o_eqW {lim : Nat} (hu : X.A.units + lim < cLine) : OpR X (compareOp .Eq) (rd2 X.K (gEqW lim)) := o_eqBW (f := fun b => b) (fun _ _ _ => rfl) PySem.SeqAt.eq_plain hu
theorem o_neW {lim : Nat} (hu : X.A.units + lim < cLine) : OpR X (compareOp .NotEq) (rd2 X.K (gNeW lim)) := o_eqBW (f := fun b => !b) (fun _ _ _ => rfl) PySem.SeqAt.ne_plain hu
end
theorem rW {k : Nat} {A : Around} (r : Room k A) : A.units + (199 + 16 * k) < cLine := by have := r.un; omega
theorem gEqBW_flat {lim : Nat} {x y : D} {S : Store} (hx : x.flat = true) (hy : y.flat = true) (hd : x.dep ≤ lim) : gEqBW lim x y S = some (deq x y) := by
  unfold gEqBW
  rw [asP_flat hx, asP_flat hy]
  show (if (toPy x).depth ≤ lim then some (PyData.eqv (toPy x) (toPy y)) else none) = _
  rw [depth_toPy, if_pos hd, eqv_toPy x y hx hy]
theorem gEqW_flat {lim : Nat} {x y : D} {S : Store} (hx : x.flat = true) (hy : y.flat = true) (hd : x.dep ≤ lim) : gEqW lim x y S = some (.bl (deq x y), S) := by unfold gEqW; rw [gEqBW_flat hx hy hd]; rfl
theorem gNeW_flat {lim : Nat} {x y : D} {S : Store} (hx : x.flat = true) (hy : y.flat = true) (hd : x.dep ≤ lim) : gNeW lim x y S = some (.bl (!deq x y), S) := by unfold gNeW; rw [gEqBW_flat hx hy hd]; rfl
/-! ## dicts: d[k] = v, d.get(k, z) -/
def putD (kvs : List (Key × D)) (k : Key) (d : D) : List (Key × D) :=
  if (kvs.any fun kv => decide (kv.1 = k)) = true then kvs.map (fun kv => if kv.1 = k then (kv.1, d) else kv) else kvs ++ [(k, d)]
def gSetX : D → D → D → Store → Option Store
  | .ref l, y, d, S => match S[l]?, y with
    | some (.lst xs), .int k => (ixN xs.length k).map fun j => S.set l (.lst (xs.set j d))
    | some (.dic kvs), y => (keyD y).bind fun k => if kvs.length < LIM then some (S.set l (.dic (putD kvs k d))) else none
    | _, _ => none
  | _, _, _, _ => none
theorem any_key {k : Key} : ∀ {ws : List (Key × V)} {kvs : List (Key × D)}, ws.map (·.1) = kvs.map (·.1) → (ws.any fun kv => decide (kv.1 = k)) = kvs.any fun kv => decide (kv.1 = k)
  | [], [], _ => rfl
  | [], _ :: _, h => nomatch h
  | _ :: _, [], h => nomatch h
  | (a, v) :: ws, (b, d) :: kvs, h => by
    have h1 : a = b := (List.cons.inj h).1
    subst h1
    rw [List.any_cons, List.any_cons, any_key (List.cons.inj h).2]
theorem put_keys {k : Key} {v : V} {d : D} {ws : List (Key × V)} {kvs : List (Key × D)} (h : ws.map (·.1) = kvs.map (·.1)) : (putK ws k v).map (·.1) = (putD kvs k d).map (·.1) := by
  unfold putK putD
  rw [any_key h]
  split
  · rw [List.map_map, List.map_map]
    have e1 : ws.map ((·.1) ∘ fun kv : Key × V => if kv.1 = k then (kv.1, v) else kv) = ws.map (·.1) := List.map_congr_left fun q _ => by
      show (if q.1 = k then (q.1, v) else q).1 = q.1
      split <;> rfl
    have e2 : kvs.map ((·.1) ∘ fun kv : Key × D => if kv.1 = k then (kv.1, d) else kv) = kvs.map (·.1) := List.map_congr_left fun q _ => by
      show (if q.1 = k then (q.1, d) else q).1 = q.1
      split <;> rfl
    rw [e1, e2, h]
  · rw [List.map_append, List.map_append, h]
    rfl
theorem put_vals {K : PySem.W.Frag} {m : List Addr} {H : Hp} {k : Key} {v : V} {d : D} (hv : RD K m H v d) : ∀ {ws : List (Key × V)} {kvs : List (Key × D)}, ws.map (·.1) = kvs.map (·.1) → RDs K m H (ws.map (·.2)) (kvs.map (·.2)) →
    RDs K m H ((ws.map fun kv => if kv.1 = k then (kv.1, v) else kv).map (·.2)) ((kvs.map fun kv => if kv.1 = k then (kv.1, d) else kv).map (·.2))
  | [], [], _, _ => .nil
  | [], _ :: _, h, _ => nomatch h
  | _ :: _, [], h, _ => nomatch h
  | (a, w) :: ws, (b, e) :: kvs, h, r => by
    have h1 : a = b := (List.cons.inj h).1
    subst h1
    cases r with
    | cons r1 r2 =>
      have ih := put_vals (k := k) hv (List.cons.inj h).2 r2
      by_cases z : a = k
      · simp only [List.map_cons, z, if_true]
        subst z
        exact .cons hv ih
      · simp only [List.map_cons, if_neg z]
        exact .cons r1 ih
theorem put_rd {K : PySem.W.Frag} {m : List Addr} {H : Hp} {k : Key} {v : V} {d : D} {ws : List (Key × V)} {kvs : List (Key × D)} (hv : RD K m H v d) (h : ws.map (·.1) = kvs.map (·.1)) (r : RDs K m H (ws.map (·.2)) (kvs.map (·.2))) :
    RDs K m H ((putK ws k v).map (·.2)) ((putD kvs k d).map (·.2)) := by
  unfold putK putD
  rw [any_key h]
  split
  · exact put_vals hv h r
  · rw [List.map_append, List.map_append]
    exact r.append (.one hv)
section
variable {X : Cx}
theorem p_setX (hu : X.A.units + 1 < cLine) : PSet X (rdSet X.K gSetX) := by
  intro pins s σ H o i v ov iv u Q I ro ri rv ⟨m, x, y, z, S, hx, hy, hz, rs, h⟩
  cases x with
  | ref l =>
    cases e : S[l]? with
    | none => unfold gSetX at h; simp only [e] at h
    | some c =>
      cases c with
      | lst xs =>
        cases y with
        | int k => exact p_set pins s σ H o i v ov iv u Q I ro ri rv ⟨m, .ref l, .int k, z, S, hx, hy, hz, rs, by unfold gSetX at h; simp only [e] at h; unfold gSet; simp only [e]; exact h⟩
        | _ => unfold gSetX at h; simp only [e] at h
      | dic kvs =>
        unfold gSetX at h
        simp only [e] at h
        cases ek : keyD y with
        | none => rw [ek] at h; exact h.elim
        | some k =>
          rw [ek] at h
          simp only [Option.bind_some] at h
          by_cases hc : kvs.length < LIM
          · rw [if_pos hc] at h
            cases hx with
            | ref hl =>
              obtain ⟨ws, g1, g2, g3⟩ := rs.at_ hl e
              have ei := key_rd hy ek
              subst ei
              have hw : ws.length = kvs.length := by have := congrArg List.length g2; rwa [List.length_map, List.length_map] at this
              refine set_dict hu pins s σ H _ _ v ov iv u Q I ro ri rv ⟨_, _, rfl, DPut.k g1 (by rw [hw, ← lim_eq]; exact hc), ?_⟩
              obtain ⟨ex, rs'⟩ := rs.write (o := .dK (putK ws k v)) (c' := .dic (putD kvs k z)) hl e rfl rfl fun ex => ⟨_, upd_same, put_keys g2, put_rd (hz.mono ex) g2 (g3.mono ex)⟩
              exact h _ _ ex rs'
          · rw [if_neg hc] at h; exact h.elim
      | _ => unfold gSetX at h; simp only [e] at h
  | _ => exact h.elim
/-- o[i] = .., a list or a dict -/
def tgIxX (fo fi : EX) : D → SX := fun d ρ S => (fo ρ S).out ρ fun o S1 => (fi ρ S1).out ρ fun i S2 => match gSetX o i d S2 with
  | some S3 => .nx ρ S3
  | none => .no
variable {W : WX} {o i e f : Expr} {fo fi fe ff : EX} {pos apos cpos : Pos}
theorem g_ixX (hu : X.A.units + 1 < cLine) (ho : PE X o (rdE (X.cq W) fo)) (hi : PE X i (rdE (X.cq W) fi))
    (ha : ∀ v, assign (.Subscript o i pos) X.env v = (do
      let ov ← holding [v] (eval o X.env)
      let iv ← holding [v, ov] (eval i X.env)
      standAt pos
      holding [v, ov, iv] (setItem ov iv v)
      release [v, ov, iv] []) := by intro _; rfl) : PG X (.Subscript o i pos) (rdG (X.cq W) (tgIxX fo fi)) := PGwk (pg_sub ho hi (p_setX hu) ha) fun v σ H Q ⟨m, ρ, S, d, re, rs, rd, q⟩ =>
  ⟨m, ρ, S, re, rs, (Post.out re q).imp fun vo H1 ⟨m1, x, S1, e1, rs1, rx, re1, q1⟩ => ⟨m1, ρ, S1, re1, rs1, (Post.out re1 q1).imp fun vi H2 ⟨m2, y, S2, e2, rs2, ry, re2, q2⟩ => by
    refine ⟨m2, x, y, d, S2, rx.mono e2, ry, (rd.mono e1).mono e2, rs2, ?_⟩
    cases eg : gSetX x y d S2 with
    | none => rw [eg] at q2; exact q2.elim
    | some S3 =>
      rw [eg] at q2
      exact fun H3 m3 e3 rs3 => q2 σ H3 m3 e3 (re2.mono e3) rs3⟩⟩
/-- d.get(k, z) -/
def gGetD (x y z : D) (S : Store) : Option (D × Store) := match x with
  | .ref l => match S[l]?, keyD y with
    | some (.dic kvs), some k => some ((findK kvs k).getD z, S)
    | _, _ => none
  | _ => none
def isDic (S : Store) (x : D) : Bool := match x with
  | .ref l => match S[l]? with
    | some (.dic _) => true
    | _ => false
  | _ => false
def eGetD (fo fe ff : EX) : EX := fun ρ S => (fo ρ S).bind fun x S1 => if isDic S1 x then (fe ρ S1).bind fun y S2 => (ff ρ S2).bind fun z S3 => toR (gGetD x y z S3) else .no
theorem find_get {K : PySem.W.Frag} {m : List Addr} {H : Hp} {k : Key} {z : V} {d : D} (hz : RD K m H z d) : ∀ {kvs : List (Key × D)} {ws : List (Key × V)}, ws.map (·.1) = kvs.map (·.1) → RDs K m H (ws.map (·.2)) (kvs.map (·.2)) → RD K m H ((valV ws k).getD z) ((findK kvs k).getD d)
  | [], [], _, _ => hz
  | (k1, d1) :: kvs, [], e, _ => nomatch e
  | [], _ :: _, e, _ => nomatch e
  | (k1, d1) :: kvs, (k2, v2) :: ws, e, r => by
    cases r with
    | cons rh rt =>
      have e1 : k2 = k1 := (List.cons.inj e).1
      subst e1
      by_cases z : k2 = k
      · rw [valV_pos (show (k2, v2).1 = k from z)]
        unfold findK
        rw [List.find?_cons_of_pos (by simpa using z)]
        exact rh
      · rw [valV_neg (show ¬ (k2, v2).1 = k from z)]
        unfold findK
        rw [List.find?_cons_of_neg (by simpa using z)]
        exact find_get hz (List.cons.inj e).2 rt
theorem d_getD (hu : X.A.units + 1 < cLine) (ho : PE X o (rdE (X.cq W) fo)) (he : PE X e (rdE (X.cq W) fe)) (hf : PE X f (rdE (X.cq W) ff)) (m2 : M2 X o "get" apos e f cpos) : PE X (.Call (.Attribute o "get" apos) [e, f] [] cpos) (rdE (X.cq W) (eGetD fo fe ff)) :=
  PEwk (pe_dget2 hu ho he hf m2) fun σ H Q ⟨m, ρ, S, re, rs, h⟩ =>
  ⟨m, ρ, S, re, rs, (Post.bind h).imp fun v H1 ⟨m1, x, S1, e1, rs1, rd, h1⟩ => by
    have re1 := re.mono e1
    by_cases hd : isDic S1 x = true
    · rw [if_pos hd] at h1
      unfold isDic at hd
      split at hd
      · rename_i l
        split at hd
        · rename_i kvs es
          cases rd with
          | ref hl =>
            obtain ⟨ws, g1, g2, g3⟩ := rs1.at_ hl es
            refine ⟨_, rfl, .inl ⟨ws, .inl g1⟩, m1, ρ, S1, re1, rs1, (Post.bind h1).imp fun u H2 ⟨m2, y, S2, e2, rs2, rd2, h2⟩ => ⟨m2, ρ, S2, re1.mono e2, rs2, (Post.bind h2).imp fun w H3 ⟨m3, z, S3, e3, rs3, rd3, h3⟩ => ?_⟩⟩
            have h3 : VPost X.K m3 H3 Q (gGetD (.ref l) y z S3) := VPost.of h3
            unfold gGetD at h3
            simp only at h3
            split at h3
            · rename_i kvs' k es' ek
              obtain ⟨ws', g1', g2', g3'⟩ := rs3.at_ ((e2.trans e3).at hl) es'
              have eu := key_rd (rd2.mono e3) ek
              subst eu
              exact ⟨_, DGet.k g1', h3 _ _ m3 .refl rs3 (find_get rd3 g2' g3')⟩
            · exact h3.elim
        · cases hd
      · cases hd
    · rw [if_neg hd] at h1
      exact h1.elim⟩
end
/-- two defs of unlike names stand at unlike places -/
theorem fn_ne {K : PySem.W.Frag} {a b : Addr} {oc oc' : Value} {od od' : Option Addr} {sl sl' : Array (Option Value)} {x y q q' : Str} {ar ar' : Arguments} {bo bo' : List Stmt} {sc sc' : Scope} {d1 d2 d3 d4 d5 d6 e1 e2 e3 e4 e5 e6 : Value} {an an' : Option Addr}
    (h1 : K.lookup a = some ⟨oc, od, .func (PySem.W.fnOf x q ar bo sc d1 d2 d3 d4 an d5 d6), sl⟩) (h2 : K.lookup b = some ⟨oc', od', .func (PySem.W.fnOf y q' ar' bo' sc' e1 e2 e3 e4 an' e5 e6), sl'⟩) (h : x ≠ y) : a ≠ b := fun e => by
  subst e
  have q := h1.symm.trans h2
  injection q with q
  injection q with _ _ q _
  injection q with q
  exact h (congrArg FuncData.name q)
/-! ## {}; a, b = x, y -/
def eD0 : EX := fun _ S => .ok (.ref S.length) (S ++ [.dic []])
def sPar (i j : Nat) (fx : AX) : SX := fun ρ S => (fx ρ S).out ρ fun xs S1 => match xs with
  | [d, e] => .nx ((ρ.set i (some d)).set j (some e)) S1
  | _ => .no
section
variable {X : Cx} {W : WX} {pos px py pt pt2 : Pos} {kt k2 i j : Nat} {x y : Str} {a b : Expr} {fx : AX}
theorem d_d0 : PE X (.Dict [] [] pos) (rdE (X.cq W) eD0) := PEwk pe_dnewK fun σ H Q ⟨m, ρ, S, re, rs, h⟩ p hp => by
  obtain ⟨e1, rs1⟩ := rs.push (o := .dK []) (c := .dic []) hp fun m' e' => ⟨[], upd_same, rfl, .nil⟩
  refine h _ _ _ e1 rs1 (.ref ?_)
  rw [← rs.len, List.getElem?_append_right (Nat.le_refl _), Nat.sub_self]
  rfl
theorem t_par (hc : X.calm = true) (hN : X.N.Nodup) (ha : PA X [a, b] (rdA (X.cq W) fx)) (hi : X.N[i]? = some x := by rfl) (hj : X.N[j]? = some y := by rfl) (hij : i ≠ j := by decide)
    (hx : X.env.scope.names.lookup x = some .local := by rfl) (hy : X.env.scope.names.lookup y = some .local := by rfl)
    (hw : swappedStores [.Tuple [.Name x px, .Name y py] kt pt] (.Tuple [a, b] k2 pt2) X.env = pure (some [x, y]) := by rfl)
    (hs : swapsWithSole [.Tuple [.Name x px, .Name y py] kt pt] (.Tuple [a, b] k2 pt2) pos.line X.env = pure false := by rfl) :
    PS X (.Assign [.Tuple [.Name x px, .Name y py] kt pt] (.Tuple [a, b] k2 pt2) pos) (rdS (X.cq W) (sPar i j fx)) := PSwk (ps_par hc hN hi hj hij hx hy ha hw hs) fun Dn σ H ⟨m, ρ, S, re, rs, q⟩ =>
  ⟨m, ρ, S, re, rs, (Post.out (rel := relDs (X.cq W)) re q).imp fun vs H1 ⟨m1, xs, S1, e1, rs1, rds, re1, q1⟩ => by
    cases rds with
    | nil => exact q1.elim
    | cons h1 t =>
      cases t with
      | nil => exact q1.elim
      | cons h2 t =>
        cases t with
        | nil => exact ⟨_, _, rfl, q1 _ _ m1 .refl ((re1.set h1 i).set h2 j) rs1⟩
        | cons _ _ => exact q1.elim⟩
end
end Dl

set_option Elab.async false
set_option linter.all false
set_option maxRecDepth 100000
namespace Dl
open PySem L2
/-! ## DlAA's forms, evaluated -/
def kX3 (ρ : Env) : Option Store → Out
  | some S => .nx ρ S
  | none => .no
def kX2 (o d : D) (ρ : Env) : R D → Out
  | .ok i S => kX3 ρ (gSetX o i d S)
  | .ex x S => .ex x ρ S
  | .no => .no
def kX1 (f : EX) (d : D) (ρ : Env) : R D → Out
  | .ok o S => kX2 o d ρ (f ρ S)
  | .ex x S => .ex x ρ S
  | .no => .no
def setX (l : Nat) (y d : D) (S : Store) : Option Cell → Option Store
  | some (.lst xs) => match y with
    | .int k => (ixN xs.length k).map fun j => S.set l (.lst (xs.set j d))
    | _ => none
  | some (.dic kvs) => (keyD y).bind fun k => if kvs.length < LIM then some (S.set l (.dic (putD kvs k d))) else none
  | _ => none
def kPar (i j : Nat) (ρ : Env) : R (List D) → Out
  | .ok xs S => match xs with
    | [d, e] => .nx ((ρ.set i (some d)).set j (some e)) S
    | _ => .no
  | .ex x S => .ex x ρ S
  | .no => .no
def kFv (cs : List (Addr × (List D → M D))) (r : R (List D)) : Option (Option D) → R D
  | some (some (.raw (.ref a))) => match heldF a cs with
    | some F => r.bind fun xs S1 => F xs S1
    | none => .no
  | _ => .no
def kG3 (x y : D) : R D → R D
  | .ok z S => toR (gGetD x y z S)
  | .ex x S => .ex x S
  | .no => .no
def kG2 (x : D) (ff : EX) (ρ : Env) : R D → R D
  | .ok y S => kG3 x y (ff ρ S)
  | .ex x S => .ex x S
  | .no => .no
def kG1b (x : D) (fe ff : EX) (ρ : Env) (S : Store) (b : Bool) : R D := if b then kG2 x ff ρ (fe ρ S) else .no
def kG1 (fe ff : EX) (ρ : Env) : R D → R D
  | .ok x S => kG1b x fe ff ρ S (isDic S x)
  | .ex x S => .ex x S
  | .no => .no
def isDC : Option Cell → Bool
  | some (.dic _) => true
  | _ => false
def getC (y z : D) (S : Store) : Option Cell → Option (D × Store)
  | some (.dic kvs) => match keyD y with
    | some k => some ((findK kvs k).getD z, S)
    | none => none
  | _ => none
def maxC (S : Store) : Option (List Int) → Option (D × Store)
  | some (x :: r) => some (.int (maxL (x :: r)), S)
  | _ => none
def repC (k : Int) (S : Store) : Option Cell → Option (D × Store)
  | some (.lst xs) => if -(2 ^ 63) ≤ k ∧ k < 2 ^ 63 ∧ xs.length * k.toNat ≤ LIM then some (.ref S.length, S ++ [.lst (List.replicate k.toNat xs).flatten]) else none
  | _ => none
section
variable {ρ : Env} {S : Store} {f g fe ff : EX} {fx : AX} {d y z e x : D} {l i j : Nat} {k : Int} {xs : List D} {a : Addr} {kvs : List (Key × D)} {s : Str}
theorem tgIxX_ : tgIxX f g d ρ S = kX1 g d ρ (f ρ S) := by
  show (f ρ S).out ρ _ = _
  cases f ρ S with
  | ok o S1 =>
    show (g ρ S1).out ρ _ = kX2 o d ρ (g ρ S1)
    cases g ρ S1 with
    | ok i S2 =>
      show (match gSetX o i d S2 with | some S3 => Out.nx ρ S3 | none => .no) = kX3 ρ (gSetX o i d S2)
      cases gSetX o i d S2 <;> rfl
    | _ => rfl
  | _ => rfl
theorem kX1_ : kX1 g d ρ (.ok x S) = kX2 x d ρ (g ρ S) := nr rfl
theorem kX2_ : kX2 x d ρ (.ok y S) = kX3 ρ (gSetX x y d S) := nr rfl
theorem kX3_ : kX3 ρ (some S) = .nx ρ S := nr rfl
theorem gSetX_r : gSetX (.ref l) y d S = setX l y d S S[l]? := by
  cases e : S[l]? with
  | none => unfold gSetX setX; simp only [e]
  | some c =>
    cases c with
    | lst xs => cases y <;> (unfold gSetX setX; simp only [e])
    | _ => unfold gSetX setX; simp only [e]
theorem setX_0 {a : D} : setX l (.int 0) d S (some (.lst (a :: xs))) = some (S.set l (.lst (d :: xs))) := by
  have h : ixN (a :: xs).length 0 = some 0 := by unfold ixN; rw [if_pos (by decide), if_pos (by rw [List.length_cons]; omega)]; rfl
  show (ixN (a :: xs).length 0).map _ = _
  rw [h]
  rfl
theorem setX_2 {a b c : D} : setX l (.int 2) d S (some (.lst (a :: b :: c :: xs))) = some (S.set l (.lst (a :: b :: d :: xs))) := by
  have h : ixN (a :: b :: c :: xs).length 2 = some 2 := by unfold ixN; rw [if_pos (by decide), if_pos (by rw [List.length_cons, List.length_cons, List.length_cons]; omega)]; rfl
  show (ixN (a :: b :: c :: xs).length 2).map _ = _
  rw [h]
  rfl
theorem setX_l {m : Nat} (h : ixN xs.length k = some m) : setX l (.int k) d S (some (.lst xs)) = some (S.set l (.lst (xs.set m d))) := by
  show (ixN xs.length k).map _ = _
  rw [h]
  rfl
theorem setX_s (h : kvs.length < 16777216) : setX l (.str s) d S (some (.dic kvs)) = some (S.set l (.dic (putD kvs (.inr s) d))) := if_pos h
theorem sPar_ : sPar i j fx ρ S = kPar i j ρ (fx ρ S) := by
  show (fx ρ S).out ρ _ = _
  cases fx ρ S <;> rfl
theorem kPar_ : kPar i j ρ (.ok [d, e] S) = .nx ((ρ.set i (some d)).set j (some e)) S := nr rfl
theorem eFv_ {cs : List (Addr × (List D → M D))} : eFv i cs fx ρ S = kFv cs (fx ρ S) ρ[i]? := by
  unfold eFv kFv
  rfl
theorem kFv_ {cs : List (Addr × (List D → M D))} {F : List D → M D} (h : heldF a cs = some F) : kFv cs (.ok xs S) (some (some (.raw (.ref a)))) = F xs S := by
  show (match heldF a cs with | some F => F xs S | none => .no) = _
  rw [h]
theorem eGetD_ : eGetD f fe ff ρ S = kG1 fe ff ρ (f ρ S) := by
  show (f ρ S).bind _ = _
  cases f ρ S with
  | ok x S1 =>
    show (if isDic S1 x then (fe ρ S1).bind _ else .no) = kG1b x fe ff ρ S1 (isDic S1 x)
    unfold kG1b
    split
    · cases fe ρ S1 with
      | ok y S2 =>
        show (ff ρ S2).bind _ = kG3 x y (ff ρ S2)
        cases ff ρ S2 <;> rfl
      | _ => rfl
    · rfl
  | _ => rfl
theorem kG1_ : kG1 fe ff ρ (.ok x S) = kG1b x fe ff ρ S (isDic S x) := nr rfl
theorem isDic_r : isDic S (.ref l) = isDC S[l]? := by
  unfold isDic isDC
  rfl
theorem isDC_d : isDC (some (.dic kvs)) = true := nr rfl
theorem kG1b_ : kG1b x fe ff ρ S true = kG2 x ff ρ (fe ρ S) := if_pos rfl
theorem kG2_ : kG2 x ff ρ (.ok y S) = kG3 x y (ff ρ S) := nr rfl
theorem kG3_ : kG3 x y (.ok z S) = toR (gGetD x y z S) := nr rfl
theorem gGetD_r : gGetD (.ref l) y z S = getC y z S S[l]? := by
  cases e : S[l]? with
  | none => unfold gGetD getC; simp only [e]
  | some c =>
    cases c with
    | dic kvs => unfold gGetD getC; simp only [e]; cases keyD y <;> rfl
    | _ => unfold gGetD getC; simp only [e]
theorem getC_s : getC (.str s) z S (some (.dic kvs)) = some ((findK kvs (.inr s)).getD z, S) := nr rfl
theorem gMaxL_r : gMaxL [.ref l] S = maxC S ((lstC S[l]?).bind intsD) := by
  show (match (lstAt S l).bind intsD with | some (x :: r) => some (D.int (maxL (x :: r)), S) | _ => none) = _
  rw [lstAt_C]
  rfl
theorem maxC_ {x : Int} {r : List Int} : maxC S (some (x :: r)) = some (.int (maxL (x :: r)), S) := nr rfl
theorem gRep_r : gRep (.ref l) (.int k) S = repC k S S[l]? := by
  cases e : S[l]? with
  | none => unfold gRep repC; simp only [e]
  | some c => cases c <;> (unfold gRep repC; simp only [e])
theorem repC_ (h0 : 0 ≤ k) (h : xs.length * k.toNat ≤ 16777216) (h1 : k < 1000000000) : repC k S (some (.lst xs)) = some (.ref S.length, S ++ [.lst (List.replicate k.toNat xs).flatten]) := if_pos ⟨by omega, by omega, h⟩
theorem eD0_ : eD0 ρ S = .ok (.ref S.length) (S ++ [.dic []]) := nr rfl
theorem gFdivW_ (h0 : 0 < j) (h1 : (j : Int).natAbs.log2 < 9000) : gFdivW (.int k) (.int j) S = some (.int (k / j), S) := if_pos ⟨by omega, h1⟩
end
end Dl

set_option Elab.async false
set_option linter.all false
set_option maxRecDepth 100000
set_option maxHeartbeats 1000000
namespace Dl
open PySem PySem.Spec PyProof.Rows L2 RT
/-! ## list(reversed(t)), t a tuple -/
theorem nolen_rt : typeLookup (.type "reversed") "__len__" = pure none := by rw [typeLookup_type, builtinLookup_eq_fast]; kernel_rfl
theorem hint_rt : typeLookup (.type "reversed") "__length_hint__" = pure (some (.builtin "reversed.__length_hint__")) := by rw [typeLookup_type, builtinLookup_eq_fast]; kernel_rfl
theorem IsTup.stays {h h' : Heap} {t : Addr} {items : Array Value} (x : IsTup h t items) (e : ∀ o, h.get? t = some o → h'.get? t = some o) : IsTup h' t items := let ⟨o, ho, r⟩ := x; ⟨o, e o ho, r⟩
theorem walks_rt {prog : Program} {w : World} {A : Around} (hh : A.handled = none) (I t : Addr) (hne : t ≠ I) (items : Array Value) (hz : items.size ≤ sizeLine) :
    Walks prog w A I [I, t] [I] items.size (fun i v => items[items.size - 1 - i]? = some v) (fun i h => i ≤ items.size ∧ IsRt h I t ((items.size : Int) - 1 - (i : Int)) ∧ IsTup h t items) where
  sub b hb := by
    rw [List.mem_singleton.mp hb]
    exact List.mem_cons_self ..
  frame i h h' x hk := ⟨x.1, x.2.1.at fun o e => hk I (List.mem_cons_self ..) o e, IsTup.stays x.2.2 fun o e => hk t (List.mem_cons_of_mem _ (List.mem_singleton.mpr rfl)) o e⟩
  item i s Q E hi x hQ := by
    have hit := x.2.1
    have h1 : (items.size : Int) - 1 - (i : Int) = ((items.size - 1 - i : Nat) : Int) := by omega
    rw [h1] at hit
    have hx : items[items.size - 1 - i]? = some (items[items.size - 1 - i]'(by omega)) := Array.getElem?_eq_getElem (by omega)
    refine next_rt_item hit x.2.2 hx hz fun h' hit' hs' => ?_
    have h2 : ((items.size - 1 - i : Nat) : Int) - 1 = (items.size : Int) - 1 - ((i + 1 : Nat) : Int) := by omega
    rw [h2] at hit'
    refine hQ _ h' _ hx ⟨hi, hit', IsTup.stays x.2.2 fun o eo => (hs'.2 t hne).trans eo⟩ fun b o hb eo => ?_
    exact hs'.extBut b o (fun z => hb (by rw [z]; exact List.mem_singleton.mpr rfl)) eo
  done s Q E x hQ := by
    have hit := x.2.1
    have h1 : (items.size : Int) - 1 - (items.size : Int) = -1 := by omega
    rw [h1] at hit
    refine next_rt_end hh hit fun h' he' => hQ h' s.toks fun b o hb eo => ?_
    exact he' b o (fun z => hb (by rw [z]; exact List.mem_singleton.mpr rfl)) eo
  self i s Q E x hQ := iter_rt x.2.1 hQ
theorem slot_rt_hint : Slot "reversed" "__length_hint__" "reversed.__length_hint__" :=
  .of (owner := "reversed") (n := "__length_hint__") hint_rt (by decide +kernel) (by decide +kernel) (by decide +kernel)
    (by first | exact .inl (by decide +kernel) | exact .inr (by decide +kernel)) (by rw [isSubtype_type]; kernel_rfl)
theorem entry_rt_hint : entryFor table "reversed.__length_hint__" = some Builtin.«reversed.__length_hint__» := entryFor_of_tree (by kernel_rfl)
theorem args_rt_hint (a : Value) : argsOk "reversed.__length_hint__" ⟨[a], []⟩ := by
  unfold argsOk; rw [signature?_of (id := "reversed.__length_hint__") (n := ['_', '_', 't', 'n', 'i', 'h', '_', 'h', 't', 'g', 'n', 'e', 'l', '_', '_']) (o := ['d', 'e', 's', 'r', 'e', 'v', 'e', 'r']) (by kernel_rfl) owner_rt]; kernel_rfl
section
variable {prog : Program} {w : World} {A : Around} {E : Value → Shared → Prop} {s : Shared} {it t : Addr} {items : Array Value}
theorem call_hint {Q : Value → Shared → Prop} (hit : IsRt s.heap it t ((items.size : Int) - 1)) (hl : IsTup s.heap t items) (hn : items.size ≤ sizeLine)
    (hQ : ∀ a b, Q (.int (items.size : Int) a) { s with toks := b }) : wpAny (model prog w) A (call (.builtin "reversed.__length_hint__") [.ref it]) Q E s := by
  obtain ⟨o, ho, hc, hd⟩ := id hit
  rw [sizeLine_eq] at hn
  refine wpAny_call_entry slot_rt_hint hit.typeIs entry_rt_hint ?_ (args_rt_hint _)
  unfold Builtin.«reversed.__length_hint__»
  refine wpAny_bind (wpAny_of_eq (a := (Value.ref it)) rfl ?_)
  refine wpAny_bind (wpAny_field ho hd (x := .ref t) rfl ?_)
  rw [if_neg (show ¬ ((Value.ref t == Value.none) = true) from fun z => by first | cases z | (revert z; simp [BEq.beq]) | (revert z; exact Bool.false_ne_true))]
  refine wpAny_bind (len_tuple hl (by omega) ?_)
  refine wpAny_bind (wpAny_pure ?_)
  refine wpAny_bind (wpAny_field (s := { s with toks := s.toks + 1 + 1 }) ho hd (x := rawInt ((items.size : Int) - 1)) rfl ?_)
  show wpAny _ _ (if (items.size : Int) < (items.size : Int) - 1 + 1 then _ else _) _ _ _
  rw [if_neg (by omega)]
  have e : (items.size : Int) - 1 + 1 = (items.size : Int) := by omega
  rw [e]
  refine wpAny_bind (wpAny_mkInt (wpAny_pure ⟨_, rfl, ?_⟩))
  exact hQ _ _
theorem hint_rtd {Q : Bool → Shared → Prop} (hit : IsRt s.heap it t ((items.size : Int) - 1)) (hl : IsTup s.heap t items) (hn : items.size ≤ sizeLine)
    (hQ : ∀ b, Q ((items.size : Int) != 0) { s with toks := b }) : wpAny (model prog w) A (Builtin.List.listLengthHint (.ref it)) Q E s := by
  have hT : s.TypeIs (.ref it) "reversed" := hit.typeIs
  unfold Builtin.List.listLengthHint
  refine wpAny_bind (wpAny_specialOf hT nolen_rt ?_)
  show wpAny _ A (specialOf (Value.ref it) (Str.ofString "__length_hint__") >>= _) _ _ _
  refine wpAny_bind (wpAny_specialOf hT hint_rt ?_)
  generalize hid : ("reversed.__length_hint__" : String) = name
  wp_delta
  rw [show splitId name = some ("reversed", "__length_hint__") from by subst hid; decide +kernel]
  subst hid
  refine wpAny_bind (wpAny_isInstance (b := true) hT (by rw [isSubtype_type]; kernel_rfl) ?_)
  rw [if_neg (by decide)]
  dsimp only
  rw [if_neg (by decide +kernel)]
  refine wpAny_bind (wpAny_rule ?_)
  rw [slot_rt_hint.bind]
  refine wpAny_bind (wpAny_pure ?_)
  refine wpAny_bind (wpAny_attempt (call_hint hit hl hn fun a b => ?_))
  dsimp only
  have h1 : Builtin.List.listFitsIndex (items.size : Int) = true := by
    rw [sizeLine_eq] at hn
    unfold Builtin.List.listFitsIndex
    simp only [Bool.and_eq_true, decide_eq_true_eq]
    omega
  have h2 : Builtin.List.listTooLong ((items.size : Int).toNat) = false := by
    unfold Builtin.List.listTooLong
    simp only [decide_eq_false_iff_not]
    omega
  have h3 : ¬ ((items.size : Int) < 0) := by omega
  have hA : asInt? (Value.int (items.size : Int) a) = pure (some (items.size : Int)) := by simp only [asInt?]
  rw [hA]
  have q := hQ b
  clear hQ
  generalize (items.size : Int) = z at h1 h2 h3 q ⊢
  refine wpAny_bind (wpAny_pure ?_)
  simp only [h1, h2, h3, Bool.not_true, Bool.false_eq_true, if_false]
  exact wpAny_pure q
end
section
variable {prog : Program} {w : World} {A : Around} {E : Value → Shared → Prop} {s : Shared} {it t S : Addr} {items : Array Value}
theorem extend_rt {res : Value} {c₀ : Nat} {R : Result → Shared → Prop} (hh : A.handled = none) (hit : IsRt s.heap it t ((items.size : Int) - 1)) (hl : IsTup s.heap t items) (hne : t ≠ it) (hn : items.size ≤ sizeLine)
    (hSi : S ≠ it) (hSl : S ≠ t) (hS : s.heap.get? S = some { cls := .type "list", data := .seq #[] c₀ })
    (hR : ∀ h' tk acc c', (∀ b o, b ≠ it → b ≠ S → s.heap.get? b = some o → h'.get? b = some o) → h'.get? S = some { cls := .type "list", dict := none, data := .seq acc c', slots := #[] } →
      ItemsOf (fun i v => items[items.size - 1 - i]? = some v) acc items.size → R (.ok (.ret res)) { s with heap := h', toks := tk }) :
    wpAny (model prog w) A.in1 (Builtin.List.listExtendWith (.ref S) (.ref it) res)
      (fun fin s' => match fin with | .done f => R (.ok f) s' | .again c' => c'.quiet = true ∧ codeAny (model prog w) A c' R s') (fun e s' => R (.error e) s') s := by
  have W := (walks_rt (prog := prog) (w := w) (A := A.in1) hh it t hne items hn).toS
  have hSf : S ∉ [it, t] := fun z => by
    rcases List.mem_cons.mp z with z | z
    · exact hSi z
    · exact hSl (List.mem_singleton.mp z)
  have hT : s.TypeIs (.ref it) "reversed" := hit.typeIs
  have hsame : Builtin.List.listSameRef (.ref S) (.ref it) = false := by simp [Builtin.List.listSameRef, hSi]
  unfold Builtin.List.listExtendWith
  refine wpAny_bind (wpAny_typeOf hT ?_)
  rw [if_neg (by rw [hsame]; decide)]
  refine wpAny_bind (iter_rt hit ?_)
  refine wpAny_bind (wpAny_holding ?_)
  refine hint_rtd hit hl hn fun tk => ?_
  have e0 : ((items.size : Nat) : Int) - 1 - ((0 : Nat) : Int) = (items.size : Int) - 1 := by omega
  by_cases h0 : items.size = 0
  · rw [if_neg (by rw [h0]; decide)]
    refine wpAny_pure ⟨plainId_quiet F.plain_extend_loop _, codeAny_extend_loopS W hn _ hSf _ items.size 0 _ _ _ rfl (Nat.zero_le _) ⟨Nat.zero_le _, by rw [e0]; exact hit, hl⟩ hS (ItemsOf.nil _) fun s' acc' c' hm hS' hacc => ?_⟩
    rw [Moved.eq_with hm]
    refine hR s'.heap s'.toks acc' c' (fun b o hb hb2 eo => hm.heap b o (fun hmem => ?_) eo) hS' hacc
    rcases List.mem_cons.mp hmem with z | hmem
    · exact hb2 z
    · exact hb (List.mem_singleton.mp hmem)
  · rw [if_pos (by rw [show ((items.size : Int) != 0) = true by simp [h0]]; rfl)]
    refine wpAny_bind (wpAny_rule ?_)
    refine wpAny_bind ?_
    show wpAny _ A.in1 (updateSeq S (·.push .none) >>= fun _ => updateSeq S (·.pop)) _ _ _
    refine wpAny_bind (wpAny_updateSeq (s := { s with toks := tk }) hS rfl ?_)
    have hS₂ := Heap.get?_update_self (Obj.mapSeq (·.push Value.none)) hS rfl
    refine wpAny_updateSeq (hz := by seq_fits) (s := { s with toks := tk, heap := s.heap.update S (Obj.mapSeq (·.push Value.none)) }) hS₂ rfl ?_
    have hS₃ := Heap.get?_update_self (Obj.mapSeq (·.pop)) hS₂ rfl
    have oth : ∀ b o, b ≠ S → s.heap.get? b = some o → ((s.heap.update S (Obj.mapSeq (·.push Value.none))).update S (Obj.mapSeq (·.pop))).get? b = some o :=
      fun b o hb e => (Heap.get?_update_other _ _ (Ne.symm hb)).trans ((Heap.get?_update_other _ _ (Ne.symm hb)).trans e)
    refine wpAny_pure ⟨plainId_quiet F.plain_extend_loop _, codeAny_extend_loopS W hn _ hSf _ items.size 0 _ _ _ rfl (Nat.zero_le _) ⟨Nat.zero_le _, by rw [e0]; exact hit.at fun o eo => oth it o (Ne.symm hSi) eo, IsTup.stays hl fun o eo => oth t o (Ne.symm hSl) eo⟩ hS₃ (ItemsOf.nil _) fun s' acc' c' hm hS' hacc => ?_⟩
    rw [Moved.eq_with hm]
    refine hR s'.heap s'.toks acc' c' (fun b o hb hb2 eo => hm.heap b o (fun hmem => ?_) (oth b o hb2 eo)) hS' hacc
    rcases List.mem_cons.mp hmem with z | hmem
    · exact hb2 z
    · exact hb (List.mem_singleton.mp hmem)
theorem list_init_rt {R : Result → Shared → Prop} (hh : A.handled = none) (hit : IsRt s.heap it t ((items.size : Int) - 1)) (hl : IsTup s.heap t items) (hne : t ≠ it) (hn : items.size ≤ sizeLine)
    (hSi : S ≠ it) (hSl : S ≠ t) (hS : s.heap.get? S = some { cls := .type "list", data := .seq #[] })
    (hR : ∀ h' tk acc c', (∀ b o, b ≠ it → b ≠ S → s.heap.get? b = some o → h'.get? b = some o) → h'.get? S = some { cls := .type "list", dict := none, data := .seq acc c', slots := #[] } →
      ItemsOf (fun i v => items[items.size - 1 - i]? = some v) acc items.size → R (.ok (.ret .none)) { s with heap := h', toks := tk }) :
    wpAny (model prog w) A.in1 (Builtin.«list.__init__» ⟨[.ref S, .ref it], []⟩)
      (fun fin s' => match fin with | .done f => R (.ok f) s' | .again c' => c'.quiet = true ∧ codeAny (model prog w) A c' R s') (fun e s' => R (.error e) s') s := by
  show wpAny _ _ (do let old ← Builtin.List.listItems (.ref S); Builtin.List.listUpdate (.ref S) (fun _ => #[]); letGo old.toList.reverse; Builtin.List.listExtendWith (.ref S) (.ref it) .none) _ _ s
  refine wpAny_bind ?_
  unfold Builtin.List.listItems
  refine wpAny_bind (wpAny_seqItems hS rfl (wpAny_pure ?_))
  show wpAny _ _ (updateSeq S (fun _ => #[]) >>= fun _ => letGo (#[] : Array Value).toList.reverse >>= fun _ => Builtin.List.listExtendWith (.ref S) (.ref it) .none) _ _ s
  refine wpAny_bind (wpAny_updateSeq hS rfl ?_)
  have hS₂ := Heap.get?_update_self (Obj.mapSeq (fun _ => (#[] : Array Value))) hS rfl
  have oth : ∀ b o, b ≠ S → s.heap.get? b = some o → (s.heap.update S (Obj.mapSeq (fun _ => (#[] : Array Value)))).get? b = some o :=
    fun b o hb eo => (Heap.get?_update_other _ _ (Ne.symm hb)).trans eo
  refine wpAny_bind (wpAny_letGo ?_)
  refine extend_rt hh (hit.at fun o eo => oth it o (Ne.symm hSi) eo) (IsTup.stays hl fun o eo => oth t o (Ne.symm hSl) eo) hne hn hSi hSl hS₂ fun h' tk acc' c' hk hS' hacc => ?_
  exact hR h' tk acc' c' (fun b o hb hb2 eo => hk b o hb hb2 (oth b o hb2 eo)) hS' hacc
theorem call_list_rt {Q : Value → Shared → Prop} (hh : A.handled = none) (hit : IsRt s.heap it t ((items.size : Int) - 1)) (hl : IsTup s.heap t items) (hne : t ≠ it) (hn : items.size ≤ sizeLine)
    (hQ : ∀ h' tk acc' c', (∀ b o, b ≠ it → s.heap.get? b = some o → h'.get? b = some o) →
      h'.get? s.heap.objs.size = some { cls := .type "list", dict := none, data := .seq acc' c', slots := #[] } → ItemsOf (fun i v => items[items.size - 1 - i]? = some v) acc' items.size → Q (.ref s.heap.objs.size) { s with heap := h', toks := tk }) :
    wpAny (model prog w) A (call (.type "list") [.ref it]) Q E s := by
  refine callType_codes (Q₁ := fun obj s₁ => obj = .ref s.heap.objs.size ∧ s₁ = { s with heap := s.heap.push { cls := .type "list", data := .seq #[] } }) F.called_list (F.typeCall_list_1 _) F.entry_list_init
    (code_list_new _ ⟨rfl, rfl⟩) fun obj s₁ h₁ => ?_
  obtain ⟨rfl, rfl⟩ := h₁
  have hS : (s.heap.push { cls := .type "list", data := .seq #[] }).get? s.heap.objs.size = some { cls := .type "list", data := .seq #[] } := Heap.get?_push_size _ rfl
  obtain ⟨oi, hoi, _⟩ := id hit
  obtain ⟨ol, hol, _⟩ := id hl
  refine ⟨⟨_, hS, rfl⟩, F.args_list_init_2 _ _, list_init_rt (A := A.in1) hh (hit.at fun o eo => Heap.get?_push_of_some _ eo) (IsTup.stays hl fun o eo => Heap.get?_push_of_some _ eo) hne hn (Nat.ne_of_gt (Heap.lt_size hoi)) (Nat.ne_of_gt (Heap.lt_size hol)) hS fun h' tk acc' c' hk hS' hacc => ?_⟩
  exact ⟨rfl, hQ h' tk acc' c' (fun b o hb eo => hk b o hb (Nat.ne_of_lt (Heap.lt_size eo)) (Heap.get?_push_of_some _ eo)) hS' hacc⟩
end
/-- list(reversed(x)), x a tuple -/
def gRevT : D → Store → Option (D × Store)
  | .tup xs, S => some (.ref S.length, S ++ [.lst xs.reverse])
  | _, _ => none
section
variable {X : Cx} {W : WX} {e : Expr} {f : EX} {p p2 pos pos2 : Pos}
theorem d_revT (hc : X.calm = true) (hg : Gl X "list") (hm : X.mg "list" = none) (hg2 : Gl X "reversed") (hm2 : X.mg "reversed" = none) (he : PE X e (rdE (X.cq W) f))
    (hs : starEach [e] X.env = (false, eval e X.env) :: starEach [] X.env := by rfl)
    (hs2 : starEach [.Call (.Name "reversed" p2) [e] [] pos2] X.env = (false, eval (.Call (.Name "reversed" p2) [e] [] pos2) X.env) :: starEach [] X.env := by rfl) :
    PE X (.Call (.Name "list" p) [.Call (.Name "reversed" p2) [e] [] pos2] [] pos) (rdE (X.cq W) (e1 gRevT f)) := by
  refine ⟨fun pins s σ H Q I ⟨m, ρ, S, re, rs, h⟩ => ?_⟩
  refine Call_ (ld_blt I hg hm boot_list (PyProof.Rows.callWith_type1 (args_cons (Call_ (ld_blt I hg2 hm2 PyProof.Rows.boot_reversed (PyProof.Rows.callWith_type1 (args_cons (thn (he.run pins s σ H _ I ⟨m, ρ, S, re, rs, Post.bind h⟩) fun u s1 ⟨v, H1, I1, r1, q1⟩ => args_nil ?_) hs) hs rfl))) hs2) hs2 rfl))
  obtain ⟨m1, d, S1, e1, rs1, rd1, q⟩ := q1
  have q := VPost.of q
  cases rd1 with
  | @tup a ws ds ht rds =>
    have q : VPost X.K m1 H1 Q (some (.ref S1.length, S1 ++ [.lst ds.reverse])) := q
    obtain rfl : u = Value.ref a := r1
    obtain ⟨its, rv, p', hz⟩ := I1.tuple ht.sq
    have hz2 : its.toArray.size ≤ sizeLine := by rw [List.size_toArray, ← rv.length]; exact hz
    have hlen := rv.length
    have hbig := line63
    have hvs : ws.length ≤ sizeLine := hz
    refine call_reversed_tup p' (fun A E Q k => len_tuple p' (by simp only [List.size_toArray] <;> omega) k) (args_nil ?_)
    have k0 : ∀ b o, s1.heap.get? b = some o → (s1.heap.push (rtObj a ((its.toArray.size : Int) - 1))).get? b = some o := fun b o eo => Heap.get?_push_of_some _ eo
    have I2 : L2.Inv X pins σ H1 { s1 with heap := s1.heap.push (rtObj a ((its.toArray.size : Int) - 1)), toks := s1.toks + 1 + 1 } := I1.kept (t' := s1.toks + 1 + 1) k0
    obtain ⟨f0, f1, f2, f3, f4, f5⟩ := I1.fpOk (H' := H1) (b := s1.heap.objs.size) (Nat.le_refl _) (I1.hok.fresh (Nat.le_refl _))
    obtain ⟨ol, hol, _⟩ := id p'
    have hne : a ≠ s1.heap.objs.size := Nat.ne_of_lt (Heap.lt_size hol)
    refine call_list_rt (s := { s1 with heap := s1.heap.push (rtObj a ((its.toArray.size : Int) - 1)), toks := s1.toks + 1 + 1 }) (I1.ok.hd hc) ⟨_, Heap.get?_push_size _ rfl, rfl, rfl⟩ (IsTup.stays p' fun o eo => k0 _ _ eo) hne hz2 fun h' tk acc c' hk hS' hi => ?_
    have hfr : H1 (s1.heap.push (rtObj a ((its.toArray.size : Int) - 1))).objs.size = none := I2.hok.fresh (Nat.le_refl _)
    refine ⟨.ref (s1.heap.push (rtObj a ((its.toArray.size : Int) - 1))).objs.size, upd H1 _ (.lst ws.reverse), ?_, rfl, vp_lst rs1 hfr rds.reverse q⟩
    have I3 : L2.Inv X pins σ H1 { s1 with heap := h', toks := tk } := I2.turned (t' := tk) (fun b o hb eo => hk b o hb eo) f0 f1 f3 f4 f5
    obtain ⟨g0, g1, g2, g3, g4, g5⟩ := I2.fpOk (H' := H1) (b := (s1.heap.push (rtObj a ((its.toArray.size : Int) - 1))).objs.size) (Nat.le_refl _) hfr
    have hS'' : h'.get? (s1.heap.push (rtObj a ((its.toArray.size : Int) - 1))).objs.size = some { cls := .type "list", dict := none, data := .seq acc c', slots := #[] } := hS'
    generalize (s1.heap.push (rtObj a ((its.toArray.size : Int) - 1))).objs.size = p0 at *
    refine L2.Inv.step (s := { s1 with heap := h', toks := tk }) (g' := s1.gens) (t' := tk) (d' := s1.drawn) (h' := h') (ch := [p0]) I3 (fun b hb => ?_) (fun b o _ _ _ q _ => q) (fun b o _ _ _ q _ => ⟨o.slots, q⟩) (fun b o hb q n => ?_) (fun b o _ q => ⟨o, q⟩) (fun b ws q => by rw [upd_ne (ne_of_none q hfr)]; exact q)
      (fun b o u q => by rw [upd_ne (ne_of_none q hfr)]; exact q) (fun b ps q => ⟨#[], by rw [upd_ne (ne_of_none q hfr), q]; simp⟩) (fun m hm => hm) (fun b u q => ?_) I1.bare
    · have e : b = p0 := by simpa using hb
      subst e
      exact ⟨g3, g1, g4, g5⟩
    · rw [upd_ne (fun z => hb (by simp [z]))]
      exact n
    · by_cases hb : b = p0
      · subst hb
        rw [upd_same] at q
        cases q
        refine ⟨by rw [List.length_reverse]; exact hvs, acc.toList, c', RT.vals_rev rv hi, ?_⟩
        rw [Array.toArray_toList]
        exact hS''
      · rw [upd_ne hb] at q
        exact (I3.hok b u q).stay (fun c v _ r => r) (fun c r => by rw [upd_ne (ne_of_none r hfr)]; exact r) fun c ws r => by rw [upd_ne (ne_of_none r hfr)]; exact r
  | _ => exact q.elim
end
end Dl

set_option Elab.async false
set_option linter.all false
set_option maxRecDepth 100000
namespace Lw
open PySem L2 Dl
/-! ## the mirror of the text, def by def -/
inductive FN where
  | is_atom_number | is_atom | sequent_of | make_axiom | by_over_right | by_under_right | by_pair_right | by_over_left | by_under_left | by_pair_left | by_cut | build_step | identity | _law_cell | _law_mix | _law_pool | _law_draw | _law_any_atom | _law_names | _law_some_atom | _law_kind | _law_size | _law_is_integer | _law_is_atom | _law_is_kind | _law_line | _law_axiom | _law_make | _law_identity | _law_shape | _law_follows | _law_right | _law_derives | _law_steps | _law_count | _law_entry | _law_table | _law_left_value | _law_value | _law_parts | _law_bases | _law_most | _law_world | law
def tfs : List FN := [.by_over_right, .by_under_right, .by_pair_right, .by_over_left, .by_under_left, .by_pair_left, .by_cut]
/-- where the defs of the tables stand -/
class Fa where
  a : FN → Addr
  inj : ∀ m ∈ tfs, ∀ n ∈ tfs, a m = a n → m = n
variable [Fa]
def k_MOST_IN_NUMBER : D := .int 6
def k_DIGITS : D := .str "0123456789"
def k_MOST_IN_NAME : D := .int 8
def k_LETTERS : D := .str "abcdefghijklmnopqrstuvwxyz"
def k_BUILDERS : List (Str × D) := [("over right", .raw (.ref (Fa.a .by_over_right))), ("under right", .raw (.ref (Fa.a .by_under_right))), ("pair right", .raw (.ref (Fa.a .by_pair_right))), ("over left", .raw (.ref (Fa.a .by_over_left))), ("under left", .raw (.ref (Fa.a .by_under_left))), ("pair left", .raw (.ref (Fa.a .by_pair_left))), ("cut", .raw (.ref (Fa.a .by_cut)))]
noncomputable def b_is_atom_number (F : FN → List D → M D) : SX := (sQ (sIf (tO (tN (tE (eCh gLe gLe (eC (.int 1)) (eB gLen (aC (eV 0) aN)) (eC k_MOST_IN_NUMBER)))) (tE (e2 gEq (e2 gIx (eV 0) (eC (.int 0))) (eC (.str "0"))))) (sR (eC (.bl false))) sP)
  (sR (eB gAll (aC (eLc [1] (iA (eV 0)) (.one 1) tYesD (e2 gIn (eV 1) (eC k_DIGITS))) aN))))
noncomputable def b_is_atom (F : FN → List D → M D) : SX := (sQ (sIf (tN (tV (eB (gIsi .str) (aC (eV 0) (aC (eC (.raw (.ty "str"))) aN))))) (sR (eC (.bl false))) sP)
  (sQ (sA (eMt .str gPart (eV 0) (aC (eC (.str ".")) aN)) (tgU [(nm 1), (nm 2), (nm 3)]))
  (sQ (sIf (tO (tN (tE (eCh gLe gLe (eC (.int 1)) (eB gLen (aC (eV 1) aN)) (eC k_MOST_IN_NAME)))) (tE (e2 gNin (e2 gIx (eV 1) (eC (.int 0))) (eC k_LETTERS)))) (sR (eC (.bl false))) sP)
  (sQ (sIf (tN (tV (eB gAll (aC (eLc [4] (iA (eV 1)) (.one 4) tYesD (eOr (e2 gIn (eV 4) (eC k_LETTERS)) (e2 gIn (eV 4) (eC k_DIGITS)))) aN)))) (sR (eC (.bl false))) sP)
  (sR (eOr (e2 gEq (eV 2) (eC (.str ""))) (eF (F .is_atom_number) (aC (eV 3) aN))))))))
noncomputable def b_sequent_of (F : FN → List D → M D) : SX := (sR (eB gTpl (aC (e2 gIx (eV 0) (eC (.int 1))) (aC (e2 gIx (eV 0) (eC (.int 2))) aN))))
noncomputable def b_make_axiom (F : FN → List D → M D) : SX := (sQ (sIf (tN (tV (eF (F .is_atom) (aC (eV 0) aN)))) (sX "FitError") sP)
  (sR (eB gTpl (aC (eC (.str "axiom")) (aC (eB gTpl (aC (eV 0) aN)) (aC (eV 0) (aC (eC (.int 0)) (aC (eC (.int 0)) (aC (eB gTpl aN) aN)))))))))
noncomputable def b_by_over_right (F : FN → List D → M D) : SX := (sQ (sA (eF (F .sequent_of) (aC (e2 gIx (eV 1) (eC (.int 0))) aN)) (tgU [(nm 2), (nm 3)]))
  (sR (eB gTpl (aC (eSl (eV 2) oN (oI (e1 gNeg (eC (.int 1))))) (aC (eB gTpl (aC (eC (.str "/")) (aC (eV 3) (aC (e2 gIx (eV 2) (e1 gNeg (eC (.int 1)))) aN)))) (aC (eC (.int 0)) aN))))))
noncomputable def b_by_under_right (F : FN → List D → M D) : SX := (sQ (sA (eF (F .sequent_of) (aC (e2 gIx (eV 1) (eC (.int 0))) aN)) (tgU [(nm 2), (nm 3)]))
  (sR (eB gTpl (aC (eSl (eV 2) (oI (eC (.int 1))) oN) (aC (eB gTpl (aC (eC (.str ">")) (aC (e2 gIx (eV 2) (eC (.int 0))) (aC (eV 3) aN)))) (aC (eC (.int 0)) aN))))))
noncomputable def b_by_pair_right (F : FN → List D → M D) : SX := (sQ (sA (eF (F .sequent_of) (aC (e2 gIx (eV 1) (eC (.int 0))) aN)) (tgU [(nm 2), (nm 3)]))
  (sQ (sA (eF (F .sequent_of) (aC (e2 gIx (eV 1) (eC (.int 1))) aN)) (tgU [(nm 4), (nm 5)]))
  (sR (eB gTpl (aC (e2 gAdd (eV 2) (eV 4)) (aC (eB gTpl (aC (eC (.str "*")) (aC (eV 3) (aC (eV 5) aN)))) (aC (eC (.int 0)) aN)))))))
noncomputable def b_by_over_left (F : FN → List D → M D) : SX := (sQ (sA (eF (F .sequent_of) (aC (e2 gIx (eV 1) (eC (.int 0))) aN)) (tgU [(nm 3), (nm 4)]))
  (sQ (sA (eF (F .sequent_of) (aC (e2 gIx (eV 1) (eC (.int 1))) aN)) (tgU [(nm 5), (nm 6)]))
  (sQ (sN 2 (eB gTpl (aC (eC (.str "/")) (aC (e2 gIx (eV 5) (eV 0)) (aC (eV 4) aN)))))
  (sR (eB gTpl (aC (e2 gAdd (e2 gAdd (e2 gAdd (eSl (eV 5) oN (oI (eV 0))) (eB gTpl (aC (eV 2) aN))) (eV 3)) (eSl (eV 5) (oI (e2 gAdd (eV 0) (eC (.int 1)))) oN)) (aC (eV 6) (aC (eB gLen (aC (eV 3) aN)) aN))))))))
noncomputable def b_by_under_left (F : FN → List D → M D) : SX := (sQ (sA (eF (F .sequent_of) (aC (e2 gIx (eV 1) (eC (.int 0))) aN)) (tgU [(nm 4), (nm 5)]))
  (sQ (sA (eF (F .sequent_of) (aC (e2 gIx (eV 1) (eC (.int 1))) aN)) (tgU [(nm 6), (nm 7)]))
  (sQ (sN 2 (e2 gSub (eV 0) (eB gLen (aC (eV 4) aN))))
  (sQ (sN 3 (eB gTpl (aC (eC (.str ">")) (aC (eV 5) (aC (e2 gIx (eV 6) (eV 2)) aN)))))
  (sR (eB gTpl (aC (e2 gAdd (e2 gAdd (e2 gAdd (eSl (eV 6) oN (oI (eV 2))) (eV 4)) (eB gTpl (aC (eV 3) aN))) (eSl (eV 6) (oI (e2 gAdd (eV 2) (eC (.int 1)))) oN)) (aC (eV 7) (aC (eB gLen (aC (eV 4) aN)) aN)))))))))
noncomputable def b_by_pair_left (F : FN → List D → M D) : SX := (sQ (sA (eF (F .sequent_of) (aC (e2 gIx (eV 1) (eC (.int 0))) aN)) (tgU [(nm 3), (nm 4)]))
  (sQ (sN 2 (eB gTpl (aC (eC (.str "*")) (aC (e2 gIx (eV 3) (eV 0)) (aC (e2 gIx (eV 3) (e2 gAdd (eV 0) (eC (.int 1)))) aN)))))
  (sR (eB gTpl (aC (e2 gAdd (e2 gAdd (eSl (eV 3) oN (oI (eV 0))) (eB gTpl (aC (eV 2) aN))) (eSl (eV 3) (oI (e2 gAdd (eV 0) (eC (.int 2)))) oN)) (aC (eV 4) (aC (eC (.int 0)) aN)))))))
noncomputable def b_by_cut (F : FN → List D → M D) : SX := (sQ (sA (eF (F .sequent_of) (aC (e2 gIx (eV 1) (eC (.int 0))) aN)) (tgU [(nm 2), (nm 3)]))
  (sQ (sA (eF (F .sequent_of) (aC (e2 gIx (eV 1) (eC (.int 1))) aN)) (tgU [(nm 4), (nm 5)]))
  (sR (eB gTpl (aC (e2 gAdd (e2 gAdd (eSl (eV 4) oN (oI (eV 0))) (eV 2)) (eSl (eV 4) (oI (e2 gAdd (eV 0) (eC (.int 1)))) oN)) (aC (eV 5) (aC (eB gLen (aC (eV 2) aN)) aN)))))))
noncomputable def b_build_step (F : FN → List D → M D) : SX := (sQ (sN 3 (eTab k_BUILDERS (eV 0)))
  (sQ (sA (eFv 3 [(Fa.a .by_over_right, F .by_over_right), (Fa.a .by_under_right, F .by_under_right), (Fa.a .by_pair_right, F .by_pair_right), (Fa.a .by_over_left, F .by_over_left), (Fa.a .by_under_left, F .by_under_left), (Fa.a .by_pair_left, F .by_pair_left), (Fa.a .by_cut, F .by_cut)] (aC (eV 1) (aC (eV 2) aN))) (tgU [(nm 4), (nm 5), (nm 6)]))
  (sR (eB gTpl (aC (eV 0) (aC (eV 4) (aC (eV 5) (aC (eV 1) (aC (eV 6) (aC (eV 2) aN))))))))))
noncomputable def b_identity (F : FN → List D → M D) : SX := (sQ (sIf (tV (eB (gIsi .str) (aC (eV 0) (aC (eC (.raw (.ty "str"))) aN)))) (sR (eF (F .make_axiom) (aC (eV 0) aN))) sP)
  (sQ (sA (eV 0) (tgU [(nm 2), (nm 3), (nm 4)]))
  (sQ (sIf (tE (e2 gEq (eV 2) (eC (.str "/")))) (sQ (sN 5 (eF (F .build_step) (aC (eC (.str "over left")) (aC (eC (.int 0)) (aC (eB gTpl (aC (eF (F .identity) (aC (eV 4) aN)) (aC (eF (F .identity) (aC (eV 3) aN)) aN))) aN)))))
  (sR (eF (F .build_step) (aC (eC (.str "over right")) (aC (eC (.int 0)) (aC (eB gTpl (aC (eV 5) aN)) aN)))))) sP)
  (sQ (sIf (tE (e2 gEq (eV 2) (eC (.str ">")))) (sQ (sN 5 (eF (F .build_step) (aC (eC (.str "under left")) (aC (eC (.int 1)) (aC (eB gTpl (aC (eF (F .identity) (aC (eV 3) aN)) (aC (eF (F .identity) (aC (eV 4) aN)) aN))) aN)))))
  (sR (eF (F .build_step) (aC (eC (.str "under right")) (aC (eC (.int 0)) (aC (eB gTpl (aC (eV 5) aN)) aN)))))) sP)
  (sQ (sN 1 (eF (F .build_step) (aC (eC (.str "pair right")) (aC (eC (.int 1)) (aC (eB gTpl (aC (eF (F .identity) (aC (eV 3) aN)) (aC (eF (F .identity) (aC (eV 4) aN)) aN))) aN)))))
  (sR (eF (F .build_step) (aC (eC (.str "pair left")) (aC (eC (.int 0)) (aC (eB gTpl (aC (eV 1) aN)) aN))))))))))
noncomputable def b__law_cell (F : FN → List D → M D) : SX := (sQ (sIf (tE (e2 gLt (eV 1) (eB gLen (aC (eV 0) aN)))) (sR (eB gInt (aC (e2 gIx (eV 0) (eV 1)) aN))) sP)
  (sR (eC (.int 0))))
noncomputable def b__law_mix (F : FN → List D → M D) : SX := (sQ (sN 0 (e2 gMod (eB gInt (aC (e2 gAdd (e2 gAdd (e2 gMul (eV 0) (eV 0)) (e2 gMul (eC (.int 3)) (eV 0))) (eC (.int 7919))) aN)) (eC (.int 1000003))))
  (sR (e2 gMod (eB gInt (aC (e2 gAdd (e2 gAdd (e2 gMul (eV 0) (eV 0)) (e2 gMul (eC (.int 5)) (eV 0))) (eC (.int 104729))) aN)) (eC (.int 998244353)))))
noncomputable def b__law_pool (F : FN → List D → M D) : SX := (sQ (sN 2 (eF (F ._law_cell) (aC (eV 0) (aC (eV 1) aN))))
  (sQ (sIf (tE (e2 gGe (eV 2) (e2 gPow (eC (.int 10)) (eC (.int 18))))) (sR (eB gLsd (aC (e2 gSub (eV 2) (e2 gPow (eC (.int 10)) (eC (.int 18)))) (aC (e2 gMul (eC (.int 40009)) (e2 gAdd (eV 1) (eC (.int 1)))) (aC (eC (.int 0)) aN))))) sP)
  (sR (eB gLsd (aC (eC (.int 0)) (aC (e2 gAdd (e2 gMod (eB gInt (aC (eB gAbs (aC (eV 2) aN)) aN)) (eC (.int 2000000011))) (e2 gMul (eC (.int 7919)) (eV 1))) (aC (eC (.int 0)) aN)))))))
noncomputable def b__law_draw (F : FN → List D → M D) : SX := (sQ (sIf (tE (e2 gGt (e2 gIx (eV 0) (eC (.int 0))) (eC (.int 0)))) (sQ (sN 2 (e2 gMod (eB gInt (aC (e2 gIx (eV 0) (eC (.int 0))) aN)) (eV 1)))
  (sQ (sA (e2 gFdiv (e2 gIx (eV 0) (eC (.int 0))) (eV 1)) (tgIxX (eV 0) (eC (.int 0))))
  (sR (eV 2)))) sP)
  (sQ (sA (e2 gAdd (e2 gIx (eV 0) (eC (.int 2))) (eC (.int 1))) (tgIxX (eV 0) (eC (.int 2))))
  (sR (e2 gMod (eB gInt (aC (e2 gFdiv (eF (F ._law_mix) (aC (e2 gAdd (e2 gIx (eV 0) (eC (.int 1))) (e2 gMul (eC (.int 7368787)) (e2 gIx (eV 0) (eC (.int 2))))) aN)) (eC (.int 8))) aN)) (eV 1)))))
noncomputable def b__law_any_atom (F : FN → List D → M D) : SX := (sQ (sN 1 (eC (.str "abcdefghijklmnopqrstuvwxyz")))
  (sQ (sN 2 (e2 gIx (eV 1) (eF (F ._law_draw) (aC (eV 0) (aC (eC (.int 26)) aN)))))
  (sQ (sF (iR1 (eF (F ._law_draw) (aC (eV 0) (aC (eC (.int 8)) aN)))) (nm 3) (sN 2 (e2 gAdd (eV 2) (e2 gIx (e2 gAdd (eV 1) (eC (.str "0123456789"))) (eF (F ._law_draw) (aC (eV 0) (aC (eC (.int 36)) aN)))))))
  (sQ (sIf (tE (e2 gEq (eF (F ._law_draw) (aC (eV 0) (aC (eC (.int 4)) aN))) (eC (.int 3)))) (sN 2 (e2 gAdd (e2 gAdd (eV 2) (eC (.str "."))) (eB gStr (aC (e2 gAdd (eC (.int 1)) (eF (F ._law_draw) (aC (eV 0) (aC (eC (.int 999999)) aN)))) aN)))) sP)
  (sR (eV 2))))))
noncomputable def b__law_names (F : FN → List D → M D) : SX := (sQ (sN 2 (eB gLsd aN))
  (sQ (sF (iR1 (eV 1)) (nm 3) (sQ (sN 4 (eF (F ._law_any_atom) (aC (eV 0) aN)))
  (sQ (sIf (tA (tE (e2 gGt (eV 3) (eC (.int 0)))) (tE (e2 gEq (eF (F ._law_draw) (aC (eV 0) (aC (eC (.int 4)) aN))) (eC (.int 3))))) (sN 4 (e2 gAdd (e2 gAdd (e2 gIx (eMt .str gSplit (e2 gIx (eV 2) (eC (.int 0))) (aC (eC (.str ".")) aN)) (eC (.int 0))) (eC (.str "."))) (eB gStr (aC (e2 gAdd (eC (.int 1)) (eF (F ._law_draw) (aC (eV 0) (aC (eC (.int 3)) aN)))) aN)))) sP)
  (sE (eMt .lst gAppend (eV 2) (aC (eV 4) aN))))))
  (sR (eV 2))))
noncomputable def b__law_some_atom (F : FN → List D → M D) : SX := (sQ (sIf (tE (e2 gEq (eF (F ._law_draw) (aC (eV 0) (aC (eC (.int 8)) aN))) (eC (.int 7)))) (sR (eF (F ._law_any_atom) (aC (eV 0) aN))) sP)
  (sR (e2 gIx (eV 1) (eF (F ._law_draw) (aC (eV 0) (aC (eB gLen (aC (eV 1) aN)) aN))))))
noncomputable def b__law_kind (F : FN → List D → M D) : SX := (sQ (sIf (tE (e2 gLe (eV 2) (eC (.int 1)))) (sR (eF (F ._law_some_atom) (aC (eV 0) (aC (eV 1) aN)))) sP)
  (sQ (sN 3 (e2 gAdd (eC (.int 1)) (eF (F ._law_draw) (aC (eV 0) (aC (e2 gSub (eV 2) (eC (.int 1))) aN)))))
  (sQ (sN 4 (e2 gIx (eC (.str "/>*")) (eF (F ._law_draw) (aC (eV 0) (aC (eC (.int 3)) aN)))))
  (sQ (sN 5 (eF (F ._law_kind) (aC (eV 0) (aC (eV 1) (aC (eV 3) aN)))))
  (sR (eB gTpl (aC (eV 4) (aC (eV 5) (aC (eF (F ._law_kind) (aC (eV 0) (aC (eV 1) (aC (e2 gSub (eV 2) (eV 3)) aN)))) aN)))))))))
noncomputable def b__law_size (F : FN → List D → M D) : SX := (sQ (sIf (tV (eB (gIsi .str) (aC (eV 0) (aC (eC (.raw (.ty "str"))) aN)))) (sR (eC (.int 1))) sP)
  (sR (e2 gAdd (eF (F ._law_size) (aC (e2 gIx (eV 0) (eC (.int 1))) aN)) (eF (F ._law_size) (aC (e2 gIx (eV 0) (eC (.int 2))) aN)))))
noncomputable def b__law_is_integer (F : FN → List D → M D) : SX := (sR (eAnd (eB (gIsi .int) (aC (eV 0) (aC (eC (.raw (.ty "int"))) aN))) (eNot (eB (gIsi .bl) (aC (eV 0) (aC (eC (.raw (.ty "bool"))) aN))))))
noncomputable def b__law_is_atom (F : FN → List D → M D) : SX := (sQ (sIf (tO (tN (tV (eB (gIsi .str) (aC (eV 0) (aC (eC (.raw (.ty "str"))) aN))))) (tE (e2 gEq (eV 0) (eC (.str ""))))) (sR (eC (.bl false))) sP)
  (sQ (sN 1 (e2 gIx (eMt .str gSplit (eV 0) (aC (eC (.str ".")) aN)) (eC (.int 0))))
  (sQ (sIf (tO (tE (e2 gEq (eB gLen (aC (eV 1) aN)) (eC (.int 0)))) (tO (tE (e2 gGt (eB gLen (aC (eV 1) aN)) (eC (.int 8)))) (tE (e2 gNin (e2 gIx (eV 1) (eC (.int 0))) (eC (.str "abcdefghijklmnopqrstuvwxyz")))))) (sR (eC (.bl false))) sP)
  (sQ (sIf (tE (e2 gGt (eB gLen (aC (eLc [3] (iA (eV 1)) (.one 3) (tE (e2 gNin (eV 3) (eC (.str "abcdefghijklmnopqrstuvwxyz0123456789")))) (eV 3)) aN)) (eC (.int 0)))) (sR (eC (.bl false))) sP)
  (sQ (sIf (tE (e2 gEq (eV 0) (eV 1))) (sR (eC (.bl true))) sP)
  (sQ (sN 2 (eSl (eV 0) (oI (e2 gAdd (eB gLen (aC (eV 1) aN)) (eC (.int 1)))) oN))
  (sQ (sIf (tO (tE (e2 gNe (eMt .str gCountS (eV 0) (aC (eC (.str ".")) aN)) (eC (.int 1)))) (tO (tE (e2 gEq (eB gLen (aC (eV 2) aN)) (eC (.int 0)))) (tO (tE (e2 gGt (eB gLen (aC (eV 2) aN)) (eC (.int 6)))) (tE (e2 gEq (e2 gIx (eV 2) (eC (.int 0))) (eC (.str "0"))))))) (sR (eC (.bl false))) sP)
  (sR (e2 gEq (eB gLen (aC (eLc [3] (iA (eV 2)) (.one 3) (tE (e2 gNin (eV 3) (eC (.str "0123456789")))) (eV 3)) aN)) (eC (.int 0)))))))))))
noncomputable def b__law_is_kind (F : FN → List D → M D) : SX := (sQ (sIf (tV (eB (gIsi .str) (aC (eV 0) (aC (eC (.raw (.ty "str"))) aN)))) (sR (eF (F ._law_is_atom) (aC (eV 0) aN))) sP)
  (sQ (sIf (tO (tN (tV (eB (gIsi .tup) (aC (eV 0) (aC (eC (.raw (.ty "tuple"))) aN))))) (tO (tE (e2 gNe (eB gLen (aC (eV 0) aN)) (eC (.int 3)))) (tE (e2 gLe (eV 1) (eC (.int 0)))))) (sR (eC (.bl false))) sP)
  (sQ (sIf (tO (tN (tV (eB (gIsi .str) (aC (e2 gIx (eV 0) (eC (.int 0))) (aC (eC (.raw (.ty "str"))) aN))))) (tE (e2 gNin (e2 gIx (eV 0) (eC (.int 0))) (eB gLsd (aC (eC (.str "/")) (aC (eC (.str ">")) (aC (eC (.str "*")) aN))))))) (sR (eC (.bl false))) sP)
  (sR (eAnd (eF (F ._law_is_kind) (aC (e2 gIx (eV 0) (eC (.int 1))) (aC (e2 gSub (eV 1) (eC (.int 1))) aN))) (eF (F ._law_is_kind) (aC (e2 gIx (eV 0) (eC (.int 2))) (aC (e2 gSub (eV 1) (eC (.int 1))) aN))))))))
noncomputable def b__law_line (F : FN → List D → M D) : SX := (sQ (sN 3 (e2 gIn (eV 0) (eB gLsd (aC (eC (.str "pair right")) (aC (eC (.str "over left")) (aC (eC (.str "under left")) (aC (eC (.str "cut")) aN)))))))
  (sQ (sIf (tE (e2 gNe (eB gLen (aC (eV 2) aN)) (e2 gAdd (eC (.int 1)) (eB gInt (aC (eV 3) aN))))) (sR (eC .non)) sP)
  (sQ (sA (e2 gIx (eV 2) (eC (.int 0))) (tgU [(nm 5), (nm 6)]))
  (sQ (sIf (tA (tE (e2 gEq (eV 0) (eC (.str "over right")))) (tA (tE (e2 gEq (eV 1) (eC (.int 0)))) (tE (e2 gGt (eB gLen (aC (eV 5) aN)) (eC (.int 1)))))) (sR (eB gTpl (aC (eSl (eV 5) oN (oI (e1 gNeg (eC (.int 1))))) (aC (eB gTpl (aC (eC (.str "/")) (aC (eV 6) (aC (e2 gIx (eV 5) (e1 gNeg (eC (.int 1)))) aN)))) (aC (eC (.int 0)) aN))))) sP)
  (sQ (sIf (tA (tE (e2 gEq (eV 0) (eC (.str "under right")))) (tA (tE (e2 gEq (eV 1) (eC (.int 0)))) (tE (e2 gGt (eB gLen (aC (eV 5) aN)) (eC (.int 1)))))) (sR (eB gTpl (aC (eSl (eV 5) (oI (eC (.int 1))) oN) (aC (eB gTpl (aC (eC (.str ">")) (aC (e2 gIx (eV 5) (eC (.int 0))) (aC (eV 6) aN)))) (aC (eC (.int 0)) aN))))) sP)
  (sQ (sIf (tA (tE (e2 gEq (eV 0) (eC (.str "pair left")))) (tE (eCh gLe gLt (eC (.int 0)) (eV 1) (e2 gSub (eB gLen (aC (eV 5) aN)) (eC (.int 1)))))) (sR (eB gTpl (aC (e2 gAdd (e2 gAdd (eSl (eV 5) oN (oI (eV 1))) (eB gTpl (aC (eB gTpl (aC (eC (.str "*")) (aC (e2 gIx (eV 5) (eV 1)) (aC (e2 gIx (eV 5) (e2 gAdd (eV 1) (eC (.int 1)))) aN)))) aN))) (eSl (eV 5) (oI (e2 gAdd (eV 1) (eC (.int 2)))) oN)) (aC (eV 6) (aC (eC (.int 0)) aN))))) sP)
  (sQ (sIf (tN (tV (eV 3))) (sR (eC .non)) sP)
  (sQ (sA (e2 gIx (eV 2) (eC (.int 1))) (tgU [(nm 7), (nm 8)]))
  (sQ (sN 4 (e2 gSub (eV 1) (eB gLen (aC (eV 5) aN))))
  (sQ (sIf (tA (tE (e2 gEq (eV 0) (eC (.str "pair right")))) (tE (e2 gEq (eV 1) (eB gLen (aC (eV 5) aN))))) (sR (eB gTpl (aC (e2 gAdd (eV 5) (eV 7)) (aC (eB gTpl (aC (eC (.str "*")) (aC (eV 6) (aC (eV 8) aN)))) (aC (eC (.int 0)) aN))))) sP)
  (sQ (sIf (tA (tE (e2 gEq (eV 0) (eC (.str "over left")))) (tE (eCh gLe gLt (eC (.int 0)) (eV 1) (eB gLen (aC (eV 7) aN))))) (sR (eB gTpl (aC (e2 gAdd (e2 gAdd (e2 gAdd (eSl (eV 7) oN (oI (eV 1))) (eB gTpl (aC (eB gTpl (aC (eC (.str "/")) (aC (e2 gIx (eV 7) (eV 1)) (aC (eV 6) aN)))) aN))) (eV 5)) (eSl (eV 7) (oI (e2 gAdd (eV 1) (eC (.int 1)))) oN)) (aC (eV 8) (aC (eB gLen (aC (eV 5) aN)) aN))))) sP)
  (sQ (sIf (tA (tE (e2 gEq (eV 0) (eC (.str "under left")))) (tE (eCh gLe gLt (eC (.int 0)) (eV 4) (eB gLen (aC (eV 7) aN))))) (sR (eB gTpl (aC (e2 gAdd (e2 gAdd (e2 gAdd (eSl (eV 7) oN (oI (eV 4))) (eV 5)) (eB gTpl (aC (eB gTpl (aC (eC (.str ">")) (aC (eV 6) (aC (e2 gIx (eV 7) (eV 4)) aN)))) aN))) (eSl (eV 7) (oI (e2 gAdd (eV 4) (eC (.int 1)))) oN)) (aC (eV 8) (aC (eB gLen (aC (eV 5) aN)) aN))))) sP)
  (sQ (sIf (tA (tE (e2 gEq (eV 0) (eC (.str "cut")))) (tA (tE (eCh gLe gLt (eC (.int 0)) (eV 1) (eB gLen (aC (eV 7) aN)))) (tE (e2 gEq (e2 gIx (eV 7) (eV 1)) (eV 6))))) (sR (eB gTpl (aC (e2 gAdd (e2 gAdd (eSl (eV 7) oN (oI (eV 1))) (eV 5)) (eSl (eV 7) (oI (e2 gAdd (eV 1) (eC (.int 1)))) oN)) (aC (eV 8) (aC (eB gLen (aC (eV 5) aN)) aN))))) sP)
  (sR (eC .non)))))))))))))))
noncomputable def b__law_axiom (F : FN → List D → M D) : SX := (sR (eB gTpl (aC (eC (.str "axiom")) (aC (eB gTpl (aC (eV 0) aN)) (aC (eV 0) (aC (eC (.int 0)) (aC (eC (.int 0)) (aC (eB gTpl aN) aN))))))))
noncomputable def b__law_make (F : FN → List D → M D) : SX := (sQ (sN 3 (eF (F ._law_line) (aC (eV 0) (aC (eV 1) (aC (eLc [4] (iA (eV 2)) (.one 4) tYesD (eB gTpl (aC (e2 gIx (eV 4) (eC (.int 1))) (aC (e2 gIx (eV 4) (eC (.int 2))) aN)))) aN)))))
  (sQ (sIf (tE (e2 gIs (eV 3) (eC .non))) (sR (eC .non)) sP)
  (sR (eB gTpl (aC (eV 0) (aC (e2 gIx (eV 3) (eC (.int 0))) (aC (e2 gIx (eV 3) (eC (.int 1))) (aC (eV 1) (aC (e2 gIx (eV 3) (eC (.int 2))) (aC (eB gTuple (aC (eV 2) aN)) aN))))))))))
noncomputable def b__law_identity (F : FN → List D → M D) : SX := (sQ (sIf (tV (eB (gIsi .str) (aC (eV 0) (aC (eC (.raw (.ty "str"))) aN)))) (sR (eF (F ._law_axiom) (aC (eV 0) aN))) sP)
  (sQ (sN 1 (eF (F ._law_identity) (aC (e2 gIx (eV 0) (eC (.int 1))) aN)))
  (sQ (sN 2 (eF (F ._law_identity) (aC (e2 gIx (eV 0) (eC (.int 2))) aN)))
  (sQ (sIf (tE (e2 gEq (e2 gIx (eV 0) (eC (.int 0))) (eC (.str "/")))) (sR (eF (F ._law_make) (aC (eC (.str "over right")) (aC (eC (.int 0)) (aC (eB gLsd (aC (eF (F ._law_make) (aC (eC (.str "over left")) (aC (eC (.int 0)) (aC (eB gLsd (aC (eV 2) (aC (eV 1) aN))) aN)))) aN)) aN))))) sP)
  (sQ (sIf (tE (e2 gEq (e2 gIx (eV 0) (eC (.int 0))) (eC (.str ">")))) (sR (eF (F ._law_make) (aC (eC (.str "under right")) (aC (eC (.int 0)) (aC (eB gLsd (aC (eF (F ._law_make) (aC (eC (.str "under left")) (aC (eC (.int 1)) (aC (eB gLsd (aC (eV 1) (aC (eV 2) aN))) aN)))) aN)) aN))))) sP)
  (sR (eF (F ._law_make) (aC (eC (.str "pair left")) (aC (eC (.int 0)) (aC (eB gLsd (aC (eF (F ._law_make) (aC (eC (.str "pair right")) (aC (eC (.int 1)) (aC (eB gLsd (aC (eV 1) (aC (eV 2) aN))) aN)))) aN)) aN))))))))))
noncomputable def b__law_shape (F : FN → List D → M D) : SX := (sQ (sIf (tO (tN (tV (eB (gIsi .tup) (aC (eV 0) (aC (eC (.raw (.ty "tuple"))) aN))))) (tO (tE (e2 gNe (eB gLen (aC (eV 0) aN)) (eC (.int 6)))) (tN (tV (eB (gIsi .str) (aC (e2 gIx (eV 0) (eC (.int 0))) (aC (eC (.raw (.ty "str"))) aN))))))) (sR (eC (.bl false))) sP)
  (sQ (sIf (tO (tN (tV (eB (gIsi .tup) (aC (e2 gIx (eV 0) (eC (.int 1))) (aC (eC (.raw (.ty "tuple"))) aN))))) (tO (tN (tV (eB (gIsi .tup) (aC (e2 gIx (eV 0) (eC (.int 5))) (aC (eC (.raw (.ty "tuple"))) aN))))) (tE (e2 gEq (eB gLen (aC (e2 gIx (eV 0) (eC (.int 1))) aN)) (eC (.int 0)))))) (sR (eC (.bl false))) sP)
  (sQ (sF (iA (e2 gIx (eV 0) (eC (.int 1)))) (nm 1) (sIf (tN (tV (eF (F ._law_is_kind) (aC (eV 1) (aC (eC (.int 40)) aN))))) (sR (eC (.bl false))) sP))
  (sR (eAnd (eF (F ._law_is_kind) (aC (e2 gIx (eV 0) (eC (.int 2))) (aC (eC (.int 40)) aN))) (eAnd (eF (F ._law_is_integer) (aC (e2 gIx (eV 0) (eC (.int 3))) aN)) (eF (F ._law_is_integer) (aC (e2 gIx (eV 0) (eC (.int 4))) aN))))))))
noncomputable def b__law_follows (F : FN → List D → M D) : SX := (sQ (sIf (tE (e2 gEq (e2 gIx (eV 0) (eC (.int 0))) (eC (.str "axiom")))) (sR (eAnd (eB (gIsi .str) (aC (e2 gIx (eV 0) (eC (.int 2))) (aC (eC (.raw (.ty "str"))) aN))) (e2 gEq (eSl (eV 0) (oI (eC (.int 1))) oN) (eB gTpl (aC (eB gTpl (aC (e2 gIx (eV 0) (eC (.int 2))) aN)) (aC (e2 gIx (eV 0) (eC (.int 2))) (aC (eC (.int 0)) (aC (eC (.int 0)) (aC (eB gTpl aN) aN))))))))) sP)
  (sQ (sF (iA (e2 gIx (eV 0) (eC (.int 5)))) (nm 1) (sIf (tN (tV (eF (F ._law_shape) (aC (eV 1) aN)))) (sR (eC (.bl false))) sP))
  (sQ (sN 2 (eF (F ._law_line) (aC (e2 gIx (eV 0) (eC (.int 0))) (aC (e2 gIx (eV 0) (eC (.int 3))) (aC (eLc [1] (iA (e2 gIx (eV 0) (eC (.int 5)))) (.one 1) tYesD (eB gTpl (aC (e2 gIx (eV 1) (eC (.int 1))) (aC (e2 gIx (eV 1) (eC (.int 2))) aN)))) aN)))))
  (sR (eAnd (e2 gNe (e2 gIx (eV 0) (eC (.int 0))) (eC (.str "cut"))) (eAnd (e2 gIsN (eV 2) (eC .non)) (e2 gEq (eV 2) (eB gTpl (aC (e2 gIx (eV 0) (eC (.int 1))) (aC (e2 gIx (eV 0) (eC (.int 2))) (aC (e2 gIx (eV 0) (eC (.int 4))) aN)))))))))))
noncomputable def b__law_right (F : FN → List D → M D) : SX := (sQ (sN 1 (eB gLsd (aC (eV 0) aN)))
  (sQ (sIf (tN (tV (eF (F ._law_shape) (aC (eV 0) aN)))) (sR (eC (.bl false))) sP)
  (sQ (sF (iR1 (eC (.int 400))) (nm 2) (sQ (sIf (tE (e2 gEq (eB gLen (aC (eV 1) aN)) (eC (.int 0)))) (sR (eC (.bl true))) sP)
  (sQ (sN 3 (eMt .lst gPop (eV 1) aN))
  (sQ (sIf (tN (tV (eF (F ._law_follows) (aC (eV 3) aN)))) (sR (eC (.bl false))) sP)
  (sN 1 (e2 gAdd (eV 1) (eB gList (aC (e2 gIx (eV 3) (eC (.int 5))) aN))))))))
  (sR (eC (.bl false))))))
noncomputable def b__law_derives (F : FN → List D → M D) : SX := (sR (eAnd (eF (F ._law_right) (aC (eV 0) aN)) (eAnd (e2 gEq (e2 gIx (eV 0) (eC (.int 1))) (eV 1)) (e2 gEq (e2 gIx (eV 0) (eC (.int 2))) (eV 2)))))
noncomputable def b__law_steps (F : FN → List D → M D) : SX := (sQ (sN 1 (eB gLsd (aC (eV 0) aN)))
  (sQ (sN 2 (eB gLsd aN))
  (sQ (sF (iR1 (eC (.int 400))) (nm 3) (sQ (sIf (tE (e2 gEq (eB gLen (aC (eV 1) aN)) (eC (.int 0)))) (sR (eV 2)) sP)
  (sQ (sN 4 (eMt .lst gPop (eV 1) aN))
  (sQ (sE (eMt .lst gAppend (eV 2) (aC (eV 4) aN)))
  (sN 1 (e2 gAdd (eV 1) (e1 gRevT (e2 gIx (eV 4) (eC (.int 5))))))))))
  (sR (eV 2)))))
noncomputable def b__law_count (F : FN → List D → M D) : SX := (sQ (sIf (tV (eB (gIsi .str) (aC (eV 0) (aC (eC (.raw (.ty "str"))) aN)))) (sR (eGetD (eV 1) (e2 gIx (eMt .str gSplit (eV 0) (aC (eC (.str ".")) aN)) (eC (.int 0))) (eC (.int 1)))) sP)
  (sQ (sN 2 (eF (F ._law_count) (aC (e2 gIx (eV 0) (eC (.int 1))) (aC (eV 1) aN))))
  (sQ (sN 3 (eF (F ._law_count) (aC (e2 gIx (eV 0) (eC (.int 2))) (aC (eV 1) aN))))
  (sQ (sIf (tE (e2 gEq (e2 gIx (eV 0) (eC (.int 0))) (eC (.str "*")))) (sR (eB gMin2 (aC (e2 gMul (eV 2) (eV 3)) (aC (e2 gPow (eC (.int 10)) (eC (.int 6))) aN)))) sP)
  (sQ (sIf (tE (e2 gEq (e2 gIx (eV 0) (eC (.int 0))) (eC (.str ">")))) (sPar 2 3 (aC (eV 3) (aC (eV 2) aN))) sP)
  (sQ (sN 4 (eC (.int 1)))
  (sQ (sF (iR1 (eB gMin2 (aC (eV 3) (aC (eC (.int 20)) aN)))) (nm 5) (sN 4 (eB gMin2 (aC (e2 gMul (eV 4) (eV 2)) (aC (e2 gPow (eC (.int 10)) (eC (.int 6))) aN)))))
  (sR (eV 4)))))))))
noncomputable def b__law_entry (F : FN → List D → M D) : SX := (sQ (sF (iR1 (eV 2)) (nm 3) (sN 0 (e2 gFdiv (eV 0) (eV 1))))
  (sR (e2 gMod (eB gInt (aC (eV 0) aN)) (eV 1))))
noncomputable def b__law_table (F : FN → List D → M D) : SX := (sQ (sPar 8 9 (aC (e2 gIx (eV 3) (eC (.int 1))) (aC (e2 gIx (eV 3) (eC (.int 2))) aN)))
  (sQ (sIf (tE (e2 gEq (e2 gIx (eV 3) (eC (.int 0))) (eC (.str ">")))) (sPar 8 9 (aC (e2 gIx (eV 3) (eC (.int 2))) (aC (e2 gIx (eV 3) (eC (.int 1))) aN))) sP)
  (sQ (sN 4 (eF (F ._law_count) (aC (eV 8) (aC (eV 1) aN))))
  (sQ (sIf (tE (e2 gEq (eV 4) (eC (.int 1)))) (sR (eC (.int 0))) sP)
  (sQ (sN 5 (eC (.int 0)))
  (sQ (sN 6 (eC (.int 1)))
  (sQ (sF (iR1 (eF (F ._law_count) (aC (eV 9) (aC (eV 1) aN)))) (nm 7) (sQ (sN 10 (e2 gAdd (eV 2) (eB gTpl (aC (eV 7) aN))))
  (sQ (sIf (tE (e2 gEq (e2 gIx (eV 3) (eC (.int 0))) (eC (.str ">")))) (sN 10 (e2 gAdd (eB gTpl (aC (eV 7) aN)) (eV 2))) sP)
  (sQ (sN 5 (e2 gAdd (eV 5) (e2 gMul (eV 6) (eF (F ._law_value) (aC (eV 0) (aC (eV 1) (aC (eV 10) aN)))))))
  (sN 6 (e2 gMul (eV 6) (eV 4)))))))
  (sR (eV 5)))))))))
noncomputable def b__law_left_value (F : FN → List D → M D) : SX := (sQ (sA (eV 0) (tgU [(nm 7), (nm 8), (nm 9), (nm 10), (nm 11), (nm 12)]))
  (sQ (sIf (tE (e2 gEq (eV 7) (eC (.str "pair left")))) (sQ (sN 13 (eF (F ._law_count) (aC (e2 gIx (e2 gIx (eV 8) (eV 10)) (eC (.int 2))) (aC (eV 1) aN))))
  (sQ (sN 14 (eB gTpl (aC (e2 gFdiv (e2 gIx (eV 2) (eV 10)) (eV 13)) (aC (e2 gMod (eB gInt (aC (e2 gIx (eV 2) (eV 10)) aN)) (eV 13)) aN))))
  (sR (eF (F ._law_value) (aC (e2 gIx (eV 12) (eC (.int 0))) (aC (eV 1) (aC (e2 gAdd (e2 gAdd (eSl (eV 2) oN (oI (eV 10))) (eV 14)) (eSl (eV 2) (oI (e2 gAdd (eV 10) (eC (.int 1)))) oN)) aN))))))) sP)
  (sQ (sN 3 (eV 10))
  (sQ (sN 4 (e2 gAdd (eV 10) (eV 11)))
  (sQ (sN 5 (eV 9))
  (sQ (sIf (tE (e2 gEq (eV 7) (eC (.str "over left")))) (sQ (sN 3 (e2 gAdd (eV 10) (eC (.int 1))))
  (sQ (sN 4 (e2 gAdd (e2 gAdd (eV 10) (eC (.int 1))) (eV 11)))
  (sN 5 (e2 gIx (e2 gIx (eV 8) (eV 10)) (eC (.int 1)))))) sP)
  (sQ (sIf (tE (e2 gEq (eV 7) (eC (.str "under left")))) (sQ (sN 3 (e2 gSub (eV 10) (eV 11)))
  (sQ (sN 4 (eV 10))
  (sN 5 (e2 gIx (e2 gIx (eV 8) (eV 10)) (eC (.int 2)))))) sP)
  (sQ (sN 6 (eF (F ._law_value) (aC (e2 gIx (eV 12) (eC (.int 0))) (aC (eV 1) (aC (eSl (eV 2) (oI (eV 3)) (oI (eV 4))) aN)))))
  (sQ (sIf (tE (e2 gNe (eV 7) (eC (.str "cut")))) (sN 6 (eF (F ._law_entry) (aC (e2 gIx (eV 2) (eV 10)) (aC (eF (F ._law_count) (aC (eV 5) (aC (eV 1) aN))) (aC (eV 6) aN))))) sP)
  (sQ (sIf (tE (e2 gEq (eV 7) (eC (.str "over left")))) (sN 3 (eV 10)) sP)
  (sQ (sIf (tE (e2 gEq (eV 7) (eC (.str "under left")))) (sN 4 (e2 gAdd (eV 10) (eC (.int 1)))) sP)
  (sR (eF (F ._law_value) (aC (e2 gIx (eV 12) (eC (.int 1))) (aC (eV 1) (aC (e2 gAdd (e2 gAdd (eSl (eV 2) oN (oI (eV 3))) (eB gTpl (aC (eV 6) aN))) (eSl (eV 2) (oI (eV 4)) oN)) aN))))))))))))))))
noncomputable def b__law_value (F : FN → List D → M D) : SX := (sQ (sA (eV 0) (tgU [(nm 3), (nm 4), (nm 5), (nm 6), (nm 7), (nm 8)]))
  (sQ (sIf (tE (e2 gEq (eV 3) (eC (.str "axiom")))) (sR (e2 gIx (eV 2) (eC (.int 0)))) sP)
  (sQ (sIf (tO (tE (e2 gEq (eV 3) (eC (.str "over right")))) (tE (e2 gEq (eV 3) (eC (.str "under right"))))) (sR (eF (F ._law_table) (aC (e2 gIx (eV 8) (eC (.int 0))) (aC (eV 1) (aC (eV 2) (aC (eV 5) aN)))))) sP)
  (sQ (sIf (tE (e2 gEq (eV 3) (eC (.str "pair right")))) (sQ (sN 9 (eF (F ._law_value) (aC (e2 gIx (eV 8) (eC (.int 0))) (aC (eV 1) (aC (eSl (eV 2) oN (oI (eV 6))) aN)))))
  (sR (e2 gAdd (e2 gMul (eV 9) (eF (F ._law_count) (aC (e2 gIx (eV 5) (eC (.int 2))) (aC (eV 1) aN)))) (eF (F ._law_value) (aC (e2 gIx (eV 8) (eC (.int 1))) (aC (eV 1) (aC (eSl (eV 2) (oI (eV 6)) oN) aN))))))) sP)
  (sR (eF (F ._law_left_value) (aC (eV 0) (aC (eV 1) (aC (eV 2) aN)))))))))
noncomputable def b__law_parts (F : FN → List D → M D) : SX := (sQ (sIf (tV (eB (gIsi .str) (aC (eV 0) (aC (eC (.raw (.ty "str"))) aN)))) (sR (eB gLsd (aC (eV 0) aN))) sP)
  (sR (e2 gAdd (e2 gAdd (eF (F ._law_parts) (aC (e2 gIx (eV 0) (eC (.int 1))) aN)) (eF (F ._law_parts) (aC (e2 gIx (eV 0) (eC (.int 2))) aN))) (eB gLsd (aC (eV 0) aN)))))
noncomputable def b__law_bases (F : FN → List D → M D) : SX := (sQ (sN 1 (eB gLsd aN))
  (sQ (sF (iA (eV 0)) (nm 2) (sIf (tA (tV (eB (gIsi .str) (aC (eV 2) (aC (eC (.raw (.ty "str"))) aN)))) (tE (e2 gNin (e2 gIx (eMt .str gSplit (eV 2) (aC (eC (.str ".")) aN)) (eC (.int 0))) (eV 1)))) (sE (eMt .lst gAppend (eV 1) (aC (e2 gIx (eMt .str gSplit (eV 2) (aC (eC (.str ".")) aN)) (eC (.int 0))) aN))) sP))
  (sR (eV 1))))
noncomputable def b__law_most (F : FN → List D → M D) : SX := (sR (eB gMaxL (aC (eLc [2] (iA (eV 0)) (.one 2) tYesD (eF (F ._law_count) (aC (eV 2) (aC (eV 1) aN)))) aN)))
noncomputable def b__law_world (F : FN → List D → M D) : SX := (sQ (sN 3 (eF (F ._law_bases) (aC (eV 1) aN)))
  (sQ (sN 4 eD0)
  (sQ (sF (iA (eV 3)) (nm 5) (sA (e2 gAdd (eC (.int 1)) (eF (F ._law_draw) (aC (eV 0) (aC (eC (.int 3)) aN)))) (tgIxX (eV 4) (eV 5))))
  (sQ (sF (iA (e2 gAdd (eV 3) (eV 3))) (nm 5) (sIf (tE (e2 gGt (eF (F ._law_most) (aC (eV 1) (aC (eV 4) aN))) (eV 2))) (sA (eB gMax2 (aC (eC (.int 1)) (aC (e2 gSub (e2 gDget (eV 4) (eV 5)) (eC (.int 1))) aN))) (tgIxX (eV 4) (eV 5))) sP))
  (sQ (sN 6 eD0)
  (sQ (sF (iA (eV 3)) (nm 5) (sIf (tO (tE (e2 gGt (e2 gDget (eV 4) (eV 5)) (eC (.int 1)))) (tE (e2 gEq (eF (F ._law_draw) (aC (eV 0) (aC (eC (.int 2)) aN))) (eC (.int 1))))) (sA (e2 gDget (eV 4) (eV 5)) (tgIxX (eV 6) (eV 5))) sP))
  (sR (eV 6))))))))
noncomputable def b_law (n : Nat) (F : FN → List D → M D) : SX := (sQ (sN 1 (eF (F ._law_pool) (aC (eV 0) (aC (eC (.int 0)) aN))))
  (sQ (sN 2 (eF (F ._law_names) (aC (eV 1) (aC (e2 gAdd (eC (.int 1)) (eF (F ._law_draw) (aC (eV 1) (aC (eC (.int 3)) aN)))) aN))))
  (sQ (sN 3 (e2 gAdd (eC (.int 1)) (eF (F ._law_draw) (aC (eV 1) (aC (eC (.int 8)) aN)))))
  (sQ (sIf (tE (e2 gEq (eF (F ._law_draw) (aC (eV 1) (aC (eC (.int 8)) aN))) (eC (.int 7)))) (sN 3 (e2 gAdd (eC (.int 9)) (eF (F ._law_draw) (aC (eV 1) (aC (eC (.int 32)) aN))))) sP)
  (sQ (sN 4 (eF (F ._law_kind) (aC (eV 1) (aC (eV 2) (aC (eV 3) aN)))))
  (sQ (sN 5 (eF (F ._law_kind) (aC (eV 1) (aC (eV 2) (aC (e2 gAdd (eC (.int 1)) (eF (F ._law_draw) (aC (eV 1) (aC (eC (.int 6)) aN)))) aN)))))
  (sQ (sN 6 (eC .non))
  (sQ (sF (iA (eB gLsd (aC (eV 4) (aC (eV 5) (aC (eV 4) aN))))) (nm 7) (sQ (sN 6 (eF (F .identity) (aC (eV 7) aN)))
  (sQ (sIf (tO (tN (tV (eF (F ._law_derives) (aC (eV 6) (aC (eB gTpl (aC (eV 7) aN)) (aC (eV 7) aN)))))) (tE (e2 (gNeW (199 + 16 * n)) (eV 6) (eF (F ._law_identity) (aC (eV 7) aN))))) (sR (eC (.bl false))) sP)
  (sIf (tE (e2 (gNeW (199 + 16 * n)) (eB gLen (aC (eF (F ._law_steps) (aC (eV 6) aN)) aN)) (e2 gSub (e2 gMul (eC (.int 3)) (eF (F ._law_size) (aC (eV 7) aN))) (eC (.int 2))))) (sR (eC (.bl false))) sP))))
  (sQ (sIf (tE (e2 gGt (eV 3) (eC (.int 8)))) (sR (eC (.bl true))) sP)
  (sQ (sN 8 (eF (F ._law_world) (aC (eV 1) (aC (eF (F ._law_parts) (aC (eV 4) aN)) (aC (eC (.int 16)) aN)))))
  (sQ (sF (iR1 (eF (F ._law_count) (aC (eV 4) (aC (eV 8) aN)))) (nm 9) (sIf (tE (e2 (gNeW (199 + 16 * n)) (eF (F ._law_value) (aC (eV 6) (aC (eV 8) (aC (eB gTpl (aC (eV 9) aN)) aN)))) (eV 9))) (sR (eC (.bl false))) sP))
  (sR (eC (.bl true))))))))))))))
noncomputable def tab : Nat → FN → List D → M D
  | 0, _ => fun _ _ => .no
  | n + 1, .is_atom_number => runB 1 2 (b_is_atom_number (tab n))
  | n + 1, .is_atom => runB 1 5 (b_is_atom (tab n))
  | n + 1, .sequent_of => runB 1 1 (b_sequent_of (tab n))
  | n + 1, .make_axiom => runB 1 1 (b_make_axiom (tab n))
  | n + 1, .by_over_right => runB 2 4 (b_by_over_right (tab n))
  | n + 1, .by_under_right => runB 2 4 (b_by_under_right (tab n))
  | n + 1, .by_pair_right => runB 2 6 (b_by_pair_right (tab n))
  | n + 1, .by_over_left => runB 2 7 (b_by_over_left (tab n))
  | n + 1, .by_under_left => runB 2 8 (b_by_under_left (tab n))
  | n + 1, .by_pair_left => runB 2 5 (b_by_pair_left (tab n))
  | n + 1, .by_cut => runB 2 6 (b_by_cut (tab n))
  | n + 1, .build_step => runB 3 7 (b_build_step (tab n))
  | n + 1, .identity => runB 1 6 (b_identity (tab n))
  | n + 1, ._law_cell => runB 2 2 (b__law_cell (tab n))
  | n + 1, ._law_mix => runB 1 1 (b__law_mix (tab n))
  | n + 1, ._law_pool => runB 2 3 (b__law_pool (tab n))
  | n + 1, ._law_draw => runB 2 3 (b__law_draw (tab n))
  | n + 1, ._law_any_atom => runB 1 4 (b__law_any_atom (tab n))
  | n + 1, ._law_names => runB 2 5 (b__law_names (tab n))
  | n + 1, ._law_some_atom => runB 2 2 (b__law_some_atom (tab n))
  | n + 1, ._law_kind => runB 3 6 (b__law_kind (tab n))
  | n + 1, ._law_size => runB 1 1 (b__law_size (tab n))
  | n + 1, ._law_is_integer => runB 1 1 (b__law_is_integer (tab n))
  | n + 1, ._law_is_atom => runB 1 4 (b__law_is_atom (tab n))
  | n + 1, ._law_is_kind => runB 2 2 (b__law_is_kind (tab n))
  | n + 1, ._law_line => runB 3 9 (b__law_line (tab n))
  | n + 1, ._law_axiom => runB 1 1 (b__law_axiom (tab n))
  | n + 1, ._law_make => runB 3 5 (b__law_make (tab n))
  | n + 1, ._law_identity => runB 1 3 (b__law_identity (tab n))
  | n + 1, ._law_shape => runB 1 2 (b__law_shape (tab n))
  | n + 1, ._law_follows => runB 1 3 (b__law_follows (tab n))
  | n + 1, ._law_right => runB 1 4 (b__law_right (tab n))
  | n + 1, ._law_derives => runB 3 3 (b__law_derives (tab n))
  | n + 1, ._law_steps => runB 1 5 (b__law_steps (tab n))
  | n + 1, ._law_count => runB 2 6 (b__law_count (tab n))
  | n + 1, ._law_entry => runB 3 4 (b__law_entry (tab n))
  | n + 1, ._law_table => runB 4 11 (b__law_table (tab n))
  | n + 1, ._law_left_value => runB 3 15 (b__law_left_value (tab n))
  | n + 1, ._law_value => runB 3 10 (b__law_value (tab n))
  | n + 1, ._law_parts => runB 1 1 (b__law_parts (tab n))
  | n + 1, ._law_bases => runB 1 3 (b__law_bases (tab n))
  | n + 1, ._law_most => runB 2 3 (b__law_most (tab n))
  | n + 1, ._law_world => runB 3 7 (b__law_world (tab n))
  | n + 1, .law => runB 1 10 (b_law n (tab n))
end Lw

set_option Elab.async false
set_option linter.all false
set_option maxRecDepth 100000
namespace Lw
open PySem L2 Dl
/-! ## the text by places -/
def topS (i : Nat) : Stmt := PySem.Challenge.pw_wordfractions_k24_identities.main.body.getD i (.Pass ⟨0, 0, 0, 0⟩)
abbrev st_is_atom_number : Stmt := topS 8
abbrev nl_is_atom_number : List Str := ["text", "char"]
abbrev st_is_atom : Stmt := topS 9
abbrev nl_is_atom : List Str := ["thing", "base", "dot", "number", "char"]
abbrev st_sequent_of : Stmt := topS 11
abbrev nl_sequent_of : List Str := ["derivation"]
abbrev st_make_axiom : Stmt := topS 12
abbrev nl_make_axiom : List Str := ["atom"]
abbrev st_by_over_right : Stmt := topS 13
abbrev nl_by_over_right : List Str := ["at", "parts", "premises", "goal"]
abbrev st_by_under_right : Stmt := topS 14
abbrev nl_by_under_right : List Str := ["at", "parts", "premises", "goal"]
abbrev st_by_pair_right : Stmt := topS 15
abbrev nl_by_pair_right : List Str := ["at", "parts", "left", "first", "right", "second"]
abbrev st_by_over_left : Stmt := topS 16
abbrev nl_by_over_left : List Str := ["at", "parts", "fraction", "taken", "argument", "premises", "goal"]
abbrev st_by_under_left : Stmt := topS 17
abbrev nl_by_under_left : List Str := ["at", "parts", "start", "fraction", "taken", "argument", "premises", "goal"]
abbrev st_by_pair_left : Stmt := topS 18
abbrev nl_by_pair_left : List Str := ["at", "parts", "pair", "premises", "goal"]
abbrev st_by_cut : Stmt := topS 19
abbrev nl_by_cut : List Str := ["at", "parts", "taken", "met", "premises", "goal"]
abbrev st_build_step : Stmt := topS 21
abbrev nl_build_step : List Str := ["rule", "at", "parts", "builder", "premises", "goal", "width"]
abbrev st_identity : Stmt := topS 23
abbrev nl_identity : List Str := ["kind", "paired", "sign", "first", "second", "applied"]
abbrev st__law_cell : Stmt := topS 25
abbrev nl__law_cell : List Str := ["script", "k"]
abbrev st__law_mix : Stmt := topS 26
abbrev nl__law_mix : List Str := ["x"]
abbrev st__law_pool : Stmt := topS 27
abbrev nl__law_pool : List Str := ["script", "k", "cell"]
abbrev st__law_draw : Stmt := topS 28
abbrev nl__law_draw : List Str := ["pool", "many", "digit"]
abbrev st__law_any_atom : Stmt := topS 29
abbrev nl__law_any_atom : List Str := ["pool", "small", "atom", "k"]
abbrev st__law_names : Stmt := topS 30
abbrev nl__law_names : List Str := ["pool", "many", "names", "k", "name"]
abbrev st__law_some_atom : Stmt := topS 31
abbrev nl__law_some_atom : List Str := ["pool", "names"]
abbrev st__law_kind : Stmt := topS 32
abbrev nl__law_kind : List Str := ["pool", "names", "size", "left", "sign", "first"]
abbrev st__law_size : Stmt := topS 33
abbrev nl__law_size : List Str := ["kind"]
abbrev st__law_is_integer : Stmt := topS 34
abbrev nl__law_is_integer : List Str := ["told"]
abbrev st__law_is_atom : Stmt := topS 35
abbrev nl__law_is_atom : List Str := ["told", "base", "tail", "c"]
abbrev st__law_is_kind : Stmt := topS 36
abbrev nl__law_is_kind : List Str := ["told", "depth"]
abbrev st__law_line : Stmt := topS 37
abbrev nl__law_line : List Str := ["rule", "at", "lines", "two", "spot", "row", "goal", "other", "end"]
abbrev st__law_axiom : Stmt := topS 38
abbrev nl__law_axiom : List Str := ["atom"]
abbrev st__law_make : Stmt := topS 39
abbrev nl__law_make : List Str := ["rule", "at", "parts", "made", "part"]
abbrev st__law_identity : Stmt := topS 40
abbrev nl__law_identity : List Str := ["kind", "first", "second"]
abbrev st__law_shape : Stmt := topS 41
abbrev nl__law_shape : List Str := ["step", "kind"]
abbrev st__law_follows : Stmt := topS 42
abbrev nl__law_follows : List Str := ["step", "part", "made"]
abbrev st__law_right : Stmt := topS 43
abbrev nl__law_right : List Str := ["paper", "rest", "k", "step"]
abbrev st__law_derives : Stmt := topS 44
abbrev nl__law_derives : List Str := ["paper", "premises", "goal"]
abbrev st__law_steps : Stmt := topS 45
abbrev nl__law_steps : List Str := ["paper", "rest", "found", "k", "step"]
abbrev st__law_count : Stmt := topS 46
abbrev nl__law_count : List Str := ["kind", "world", "base", "times", "made", "k"]
abbrev st__law_entry : Stmt := topS 47
abbrev nl__law_entry : List Str := ["told", "base", "place", "k"]
abbrev st__law_table : Stmt := topS 48
abbrev nl__law_table : List Str := ["part", "world", "values", "kind", "base", "total", "power", "b", "result", "wanted", "more"]
abbrev st__law_left_value : Stmt := topS 49
abbrev nl__law_left_value : List Str := ["paper", "world", "values", "start", "stop", "result", "told", "rule", "row", "goal", "at", "width", "parts", "many", "both"]
abbrev st__law_value : Stmt := topS 50
abbrev nl__law_value : List Str := ["paper", "world", "values", "rule", "row", "goal", "at", "width", "parts", "first"]
abbrev st__law_parts : Stmt := topS 51
abbrev nl__law_parts : List Str := ["kind"]
abbrev st__law_bases : Stmt := topS 52
abbrev nl__law_bases : List Str := ["kinds", "bases", "kind"]
abbrev st__law_most : Stmt := topS 53
abbrev nl__law_most : List Str := ["kinds", "world", "kind"]
abbrev st__law_world : Stmt := topS 54
abbrev nl__law_world : List Str := ["pool", "kinds", "limit", "bases", "world", "base", "made"]
abbrev st_law : Stmt := topS 55
abbrev nl_law : List Str := ["script", "pool", "names", "size", "kind", "other", "told", "one", "world", "value"]
theorem sc_is_atom_number : FnScope nl_is_atom_number ["text"] (defScope st_is_atom_number) := ⟨rfl, rfl, rfl, by decide +kernel, rfl, by decide +kernel, by decide +kernel⟩
theorem sc_is_atom : FnScope nl_is_atom ["thing"] (defScope st_is_atom) := ⟨rfl, rfl, rfl, by decide +kernel, rfl, by decide +kernel, by decide +kernel⟩
theorem sc_sequent_of : FnScope nl_sequent_of ["derivation"] (defScope st_sequent_of) := ⟨rfl, rfl, rfl, by decide +kernel, rfl, by decide +kernel, by decide +kernel⟩
theorem sc_make_axiom : FnScope nl_make_axiom ["atom"] (defScope st_make_axiom) := ⟨rfl, rfl, rfl, by decide +kernel, rfl, by decide +kernel, by decide +kernel⟩
theorem sc_by_over_right : FnScope nl_by_over_right ["at", "parts"] (defScope st_by_over_right) := ⟨rfl, rfl, rfl, by decide +kernel, rfl, by decide +kernel, by decide +kernel⟩
theorem sc_by_under_right : FnScope nl_by_under_right ["at", "parts"] (defScope st_by_under_right) := ⟨rfl, rfl, rfl, by decide +kernel, rfl, by decide +kernel, by decide +kernel⟩
theorem sc_by_pair_right : FnScope nl_by_pair_right ["at", "parts"] (defScope st_by_pair_right) := ⟨rfl, rfl, rfl, by decide +kernel, rfl, by decide +kernel, by decide +kernel⟩
theorem sc_by_over_left : FnScope nl_by_over_left ["at", "parts"] (defScope st_by_over_left) := ⟨rfl, rfl, rfl, by decide +kernel, rfl, by decide +kernel, by decide +kernel⟩
theorem sc_by_under_left : FnScope nl_by_under_left ["at", "parts"] (defScope st_by_under_left) := ⟨rfl, rfl, rfl, by decide +kernel, rfl, by decide +kernel, by decide +kernel⟩
theorem sc_by_pair_left : FnScope nl_by_pair_left ["at", "parts"] (defScope st_by_pair_left) := ⟨rfl, rfl, rfl, by decide +kernel, rfl, by decide +kernel, by decide +kernel⟩
theorem sc_by_cut : FnScope nl_by_cut ["at", "parts"] (defScope st_by_cut) := ⟨rfl, rfl, rfl, by decide +kernel, rfl, by decide +kernel, by decide +kernel⟩
theorem sc_build_step : FnScope nl_build_step ["rule", "at", "parts"] (defScope st_build_step) := ⟨rfl, rfl, rfl, by decide +kernel, rfl, by decide +kernel, by decide +kernel⟩
theorem sc_identity : FnScope nl_identity ["kind"] (defScope st_identity) := ⟨rfl, rfl, rfl, by decide +kernel, rfl, by decide +kernel, by decide +kernel⟩
theorem sc__law_cell : FnScope nl__law_cell ["script", "k"] (defScope st__law_cell) := ⟨rfl, rfl, rfl, by decide +kernel, rfl, by decide +kernel, by decide +kernel⟩
theorem sc__law_mix : FnScope nl__law_mix ["x"] (defScope st__law_mix) := ⟨rfl, rfl, rfl, by decide +kernel, rfl, by decide +kernel, by decide +kernel⟩
theorem sc__law_pool : FnScope nl__law_pool ["script", "k"] (defScope st__law_pool) := ⟨rfl, rfl, rfl, by decide +kernel, rfl, by decide +kernel, by decide +kernel⟩
theorem sc__law_draw : FnScope nl__law_draw ["pool", "many"] (defScope st__law_draw) := ⟨rfl, rfl, rfl, by decide +kernel, rfl, by decide +kernel, by decide +kernel⟩
theorem sc__law_any_atom : FnScope nl__law_any_atom ["pool"] (defScope st__law_any_atom) := ⟨rfl, rfl, rfl, by decide +kernel, rfl, by decide +kernel, by decide +kernel⟩
theorem sc__law_names : FnScope nl__law_names ["pool", "many"] (defScope st__law_names) := ⟨rfl, rfl, rfl, by decide +kernel, rfl, by decide +kernel, by decide +kernel⟩
theorem sc__law_some_atom : FnScope nl__law_some_atom ["pool", "names"] (defScope st__law_some_atom) := ⟨rfl, rfl, rfl, by decide +kernel, rfl, by decide +kernel, by decide +kernel⟩
theorem sc__law_kind : FnScope nl__law_kind ["pool", "names", "size"] (defScope st__law_kind) := ⟨rfl, rfl, rfl, by decide +kernel, rfl, by decide +kernel, by decide +kernel⟩
theorem sc__law_size : FnScope nl__law_size ["kind"] (defScope st__law_size) := ⟨rfl, rfl, rfl, by decide +kernel, rfl, by decide +kernel, by decide +kernel⟩
theorem sc__law_is_integer : FnScope nl__law_is_integer ["told"] (defScope st__law_is_integer) := ⟨rfl, rfl, rfl, by decide +kernel, rfl, by decide +kernel, by decide +kernel⟩
theorem sc__law_is_atom : FnScope nl__law_is_atom ["told"] (defScope st__law_is_atom) := ⟨rfl, rfl, rfl, by decide +kernel, rfl, by decide +kernel, by decide +kernel⟩
theorem sc__law_is_kind : FnScope nl__law_is_kind ["told", "depth"] (defScope st__law_is_kind) := ⟨rfl, rfl, rfl, by decide +kernel, rfl, by decide +kernel, by decide +kernel⟩
theorem sc__law_line : FnScope nl__law_line ["rule", "at", "lines"] (defScope st__law_line) := ⟨rfl, rfl, rfl, by decide +kernel, rfl, by decide +kernel, by decide +kernel⟩
theorem sc__law_axiom : FnScope nl__law_axiom ["atom"] (defScope st__law_axiom) := ⟨rfl, rfl, rfl, by decide +kernel, rfl, by decide +kernel, by decide +kernel⟩
theorem sc__law_make : FnScope nl__law_make ["rule", "at", "parts"] (defScope st__law_make) := ⟨rfl, rfl, rfl, by decide +kernel, rfl, by decide +kernel, by decide +kernel⟩
theorem sc__law_identity : FnScope nl__law_identity ["kind"] (defScope st__law_identity) := ⟨rfl, rfl, rfl, by decide +kernel, rfl, by decide +kernel, by decide +kernel⟩
theorem sc__law_shape : FnScope nl__law_shape ["step"] (defScope st__law_shape) := ⟨rfl, rfl, rfl, by decide +kernel, rfl, by decide +kernel, by decide +kernel⟩
theorem sc__law_follows : FnScope nl__law_follows ["step"] (defScope st__law_follows) := ⟨rfl, rfl, rfl, by decide +kernel, rfl, by decide +kernel, by decide +kernel⟩
theorem sc__law_right : FnScope nl__law_right ["paper"] (defScope st__law_right) := ⟨rfl, rfl, rfl, by decide +kernel, rfl, by decide +kernel, by decide +kernel⟩
theorem sc__law_derives : FnScope nl__law_derives ["paper", "premises", "goal"] (defScope st__law_derives) := ⟨rfl, rfl, rfl, by decide +kernel, rfl, by decide +kernel, by decide +kernel⟩
theorem sc__law_steps : FnScope nl__law_steps ["paper"] (defScope st__law_steps) := ⟨rfl, rfl, rfl, by decide +kernel, rfl, by decide +kernel, by decide +kernel⟩
theorem sc__law_count : FnScope nl__law_count ["kind", "world"] (defScope st__law_count) := ⟨rfl, rfl, rfl, by decide +kernel, rfl, by decide +kernel, by decide +kernel⟩
theorem sc__law_entry : FnScope nl__law_entry ["told", "base", "place"] (defScope st__law_entry) := ⟨rfl, rfl, rfl, by decide +kernel, rfl, by decide +kernel, by decide +kernel⟩
theorem sc__law_table : FnScope nl__law_table ["part", "world", "values", "kind"] (defScope st__law_table) := ⟨rfl, rfl, rfl, by decide +kernel, rfl, by decide +kernel, by decide +kernel⟩
theorem sc__law_left_value : FnScope nl__law_left_value ["paper", "world", "values"] (defScope st__law_left_value) := ⟨rfl, rfl, rfl, by decide +kernel, rfl, by decide +kernel, by decide +kernel⟩
theorem sc__law_value : FnScope nl__law_value ["paper", "world", "values"] (defScope st__law_value) := ⟨rfl, rfl, rfl, by decide +kernel, rfl, by decide +kernel, by decide +kernel⟩
theorem sc__law_parts : FnScope nl__law_parts ["kind"] (defScope st__law_parts) := ⟨rfl, rfl, rfl, by decide +kernel, rfl, by decide +kernel, by decide +kernel⟩
theorem sc__law_bases : FnScope nl__law_bases ["kinds"] (defScope st__law_bases) := ⟨rfl, rfl, rfl, by decide +kernel, rfl, by decide +kernel, by decide +kernel⟩
theorem sc__law_most : FnScope nl__law_most ["kinds", "world"] (defScope st__law_most) := ⟨rfl, rfl, rfl, by decide +kernel, rfl, by decide +kernel, by decide +kernel⟩
theorem sc__law_world : FnScope nl__law_world ["pool", "kinds", "limit"] (defScope st__law_world) := ⟨rfl, rfl, rfl, by decide +kernel, rfl, by decide +kernel, by decide +kernel⟩
theorem sc_law : FnScope nl_law ["script"] (defScope st_law) := ⟨rfl, rfl, rfl, by decide +kernel, rfl, by decide +kernel, by decide +kernel⟩
theorem boot_len_ : bootBuiltins "len" = some (.builtin "len") := by decide +kernel
theorem boot_all_ : bootBuiltins "all" = some (.builtin "all") := by decide +kernel
theorem boot_isinstance_ : bootBuiltins "isinstance" = some (.builtin "isinstance") := by decide +kernel
theorem boot_str_ : bootBuiltins "str" = some (.type "str") := by decide +kernel
theorem boot_int_ : bootBuiltins "int" = some (.type "int") := by decide +kernel
theorem boot_abs_ : bootBuiltins "abs" = some (.builtin "abs") := by decide +kernel
theorem boot_bool_ : bootBuiltins "bool" = some (.type "bool") := by decide +kernel
theorem boot_tuple_ : bootBuiltins "tuple" = some (.type "tuple") := by decide +kernel
theorem boot_list_ : bootBuiltins "list" = some (.type "list") := by decide +kernel
theorem boot_min_ : bootBuiltins "min" = some (.builtin "min") := by decide +kernel
theorem boot_max_ : bootBuiltins "max" = some (.builtin "max") := by decide +kernel
/-- a module's constant -/
structure Kon (K : PySem.W.Frag) (mg : Str → Option Value) (x : Str) (d : D) (v : V) (u : Value) : Prop where
  m : mg x = some u
  r : RelV v u
  d : ∀ m H, RD K m H v d
structure Txt [Fa] (w : World) (K : PySem.W.Frag) (mg : Str → Option Value) (fd : FN → FuncData) (cv : Nat → V) (cu : Nat → Value) (cl : Nat → Addr) (tb : Nat → Addr) : Prop where
  F_is_atom_number : Fun K "is_atom_number" "is_atom_number" st_is_atom_number (Fa.a .is_atom_number) (fd .is_atom_number)
  b_is_atom_number : Binds K (fd .is_atom_number) ["text"] []
  m_is_atom_number : mg "is_atom_number" = some (.ref (Fa.a .is_atom_number))
  F_is_atom : Fun K "is_atom" "is_atom" st_is_atom (Fa.a .is_atom) (fd .is_atom)
  b_is_atom : Binds K (fd .is_atom) ["thing"] []
  m_is_atom : mg "is_atom" = some (.ref (Fa.a .is_atom))
  F_sequent_of : Fun K "sequent_of" "sequent_of" st_sequent_of (Fa.a .sequent_of) (fd .sequent_of)
  b_sequent_of : Binds K (fd .sequent_of) ["derivation"] []
  m_sequent_of : mg "sequent_of" = some (.ref (Fa.a .sequent_of))
  F_make_axiom : Fun K "make_axiom" "make_axiom" st_make_axiom (Fa.a .make_axiom) (fd .make_axiom)
  b_make_axiom : Binds K (fd .make_axiom) ["atom"] []
  m_make_axiom : mg "make_axiom" = some (.ref (Fa.a .make_axiom))
  F_by_over_right : Fun K "by_over_right" "by_over_right" st_by_over_right (Fa.a .by_over_right) (fd .by_over_right)
  b_by_over_right : Binds K (fd .by_over_right) ["at", "parts"] []
  m_by_over_right : mg "by_over_right" = some (.ref (Fa.a .by_over_right))
  F_by_under_right : Fun K "by_under_right" "by_under_right" st_by_under_right (Fa.a .by_under_right) (fd .by_under_right)
  b_by_under_right : Binds K (fd .by_under_right) ["at", "parts"] []
  m_by_under_right : mg "by_under_right" = some (.ref (Fa.a .by_under_right))
  F_by_pair_right : Fun K "by_pair_right" "by_pair_right" st_by_pair_right (Fa.a .by_pair_right) (fd .by_pair_right)
  b_by_pair_right : Binds K (fd .by_pair_right) ["at", "parts"] []
  m_by_pair_right : mg "by_pair_right" = some (.ref (Fa.a .by_pair_right))
  F_by_over_left : Fun K "by_over_left" "by_over_left" st_by_over_left (Fa.a .by_over_left) (fd .by_over_left)
  b_by_over_left : Binds K (fd .by_over_left) ["at", "parts"] []
  m_by_over_left : mg "by_over_left" = some (.ref (Fa.a .by_over_left))
  F_by_under_left : Fun K "by_under_left" "by_under_left" st_by_under_left (Fa.a .by_under_left) (fd .by_under_left)
  b_by_under_left : Binds K (fd .by_under_left) ["at", "parts"] []
  m_by_under_left : mg "by_under_left" = some (.ref (Fa.a .by_under_left))
  F_by_pair_left : Fun K "by_pair_left" "by_pair_left" st_by_pair_left (Fa.a .by_pair_left) (fd .by_pair_left)
  b_by_pair_left : Binds K (fd .by_pair_left) ["at", "parts"] []
  m_by_pair_left : mg "by_pair_left" = some (.ref (Fa.a .by_pair_left))
  F_by_cut : Fun K "by_cut" "by_cut" st_by_cut (Fa.a .by_cut) (fd .by_cut)
  b_by_cut : Binds K (fd .by_cut) ["at", "parts"] []
  m_by_cut : mg "by_cut" = some (.ref (Fa.a .by_cut))
  F_build_step : Fun K "build_step" "build_step" st_build_step (Fa.a .build_step) (fd .build_step)
  b_build_step : Binds K (fd .build_step) ["rule", "at", "parts"] []
  m_build_step : mg "build_step" = some (.ref (Fa.a .build_step))
  F_identity : Fun K "identity" "identity" st_identity (Fa.a .identity) (fd .identity)
  b_identity : Binds K (fd .identity) ["kind"] []
  m_identity : mg "identity" = some (.ref (Fa.a .identity))
  F__law_cell : Fun K "_law_cell" "_law_cell" st__law_cell (Fa.a ._law_cell) (fd ._law_cell)
  b__law_cell : Binds K (fd ._law_cell) ["script", "k"] []
  m__law_cell : mg "_law_cell" = some (.ref (Fa.a ._law_cell))
  F__law_mix : Fun K "_law_mix" "_law_mix" st__law_mix (Fa.a ._law_mix) (fd ._law_mix)
  b__law_mix : Binds K (fd ._law_mix) ["x"] []
  m__law_mix : mg "_law_mix" = some (.ref (Fa.a ._law_mix))
  F__law_pool : Fun K "_law_pool" "_law_pool" st__law_pool (Fa.a ._law_pool) (fd ._law_pool)
  b__law_pool : Binds K (fd ._law_pool) ["script", "k"] []
  m__law_pool : mg "_law_pool" = some (.ref (Fa.a ._law_pool))
  F__law_draw : Fun K "_law_draw" "_law_draw" st__law_draw (Fa.a ._law_draw) (fd ._law_draw)
  b__law_draw : Binds K (fd ._law_draw) ["pool", "many"] []
  m__law_draw : mg "_law_draw" = some (.ref (Fa.a ._law_draw))
  F__law_any_atom : Fun K "_law_any_atom" "_law_any_atom" st__law_any_atom (Fa.a ._law_any_atom) (fd ._law_any_atom)
  b__law_any_atom : Binds K (fd ._law_any_atom) ["pool"] []
  m__law_any_atom : mg "_law_any_atom" = some (.ref (Fa.a ._law_any_atom))
  F__law_names : Fun K "_law_names" "_law_names" st__law_names (Fa.a ._law_names) (fd ._law_names)
  b__law_names : Binds K (fd ._law_names) ["pool", "many"] []
  m__law_names : mg "_law_names" = some (.ref (Fa.a ._law_names))
  F__law_some_atom : Fun K "_law_some_atom" "_law_some_atom" st__law_some_atom (Fa.a ._law_some_atom) (fd ._law_some_atom)
  b__law_some_atom : Binds K (fd ._law_some_atom) ["pool", "names"] []
  m__law_some_atom : mg "_law_some_atom" = some (.ref (Fa.a ._law_some_atom))
  F__law_kind : Fun K "_law_kind" "_law_kind" st__law_kind (Fa.a ._law_kind) (fd ._law_kind)
  b__law_kind : Binds K (fd ._law_kind) ["pool", "names", "size"] []
  m__law_kind : mg "_law_kind" = some (.ref (Fa.a ._law_kind))
  F__law_size : Fun K "_law_size" "_law_size" st__law_size (Fa.a ._law_size) (fd ._law_size)
  b__law_size : Binds K (fd ._law_size) ["kind"] []
  m__law_size : mg "_law_size" = some (.ref (Fa.a ._law_size))
  F__law_is_integer : Fun K "_law_is_integer" "_law_is_integer" st__law_is_integer (Fa.a ._law_is_integer) (fd ._law_is_integer)
  b__law_is_integer : Binds K (fd ._law_is_integer) ["told"] []
  m__law_is_integer : mg "_law_is_integer" = some (.ref (Fa.a ._law_is_integer))
  F__law_is_atom : Fun K "_law_is_atom" "_law_is_atom" st__law_is_atom (Fa.a ._law_is_atom) (fd ._law_is_atom)
  b__law_is_atom : Binds K (fd ._law_is_atom) ["told"] []
  m__law_is_atom : mg "_law_is_atom" = some (.ref (Fa.a ._law_is_atom))
  F__law_is_kind : Fun K "_law_is_kind" "_law_is_kind" st__law_is_kind (Fa.a ._law_is_kind) (fd ._law_is_kind)
  b__law_is_kind : Binds K (fd ._law_is_kind) ["told", "depth"] []
  m__law_is_kind : mg "_law_is_kind" = some (.ref (Fa.a ._law_is_kind))
  F__law_line : Fun K "_law_line" "_law_line" st__law_line (Fa.a ._law_line) (fd ._law_line)
  b__law_line : Binds K (fd ._law_line) ["rule", "at", "lines"] []
  m__law_line : mg "_law_line" = some (.ref (Fa.a ._law_line))
  F__law_axiom : Fun K "_law_axiom" "_law_axiom" st__law_axiom (Fa.a ._law_axiom) (fd ._law_axiom)
  b__law_axiom : Binds K (fd ._law_axiom) ["atom"] []
  m__law_axiom : mg "_law_axiom" = some (.ref (Fa.a ._law_axiom))
  F__law_make : Fun K "_law_make" "_law_make" st__law_make (Fa.a ._law_make) (fd ._law_make)
  b__law_make : Binds K (fd ._law_make) ["rule", "at", "parts"] []
  m__law_make : mg "_law_make" = some (.ref (Fa.a ._law_make))
  F__law_identity : Fun K "_law_identity" "_law_identity" st__law_identity (Fa.a ._law_identity) (fd ._law_identity)
  b__law_identity : Binds K (fd ._law_identity) ["kind"] []
  m__law_identity : mg "_law_identity" = some (.ref (Fa.a ._law_identity))
  F__law_shape : Fun K "_law_shape" "_law_shape" st__law_shape (Fa.a ._law_shape) (fd ._law_shape)
  b__law_shape : Binds K (fd ._law_shape) ["step"] []
  m__law_shape : mg "_law_shape" = some (.ref (Fa.a ._law_shape))
  F__law_follows : Fun K "_law_follows" "_law_follows" st__law_follows (Fa.a ._law_follows) (fd ._law_follows)
  b__law_follows : Binds K (fd ._law_follows) ["step"] []
  m__law_follows : mg "_law_follows" = some (.ref (Fa.a ._law_follows))
  F__law_right : Fun K "_law_right" "_law_right" st__law_right (Fa.a ._law_right) (fd ._law_right)
  b__law_right : Binds K (fd ._law_right) ["paper"] []
  m__law_right : mg "_law_right" = some (.ref (Fa.a ._law_right))
  F__law_derives : Fun K "_law_derives" "_law_derives" st__law_derives (Fa.a ._law_derives) (fd ._law_derives)
  b__law_derives : Binds K (fd ._law_derives) ["paper", "premises", "goal"] []
  m__law_derives : mg "_law_derives" = some (.ref (Fa.a ._law_derives))
  F__law_steps : Fun K "_law_steps" "_law_steps" st__law_steps (Fa.a ._law_steps) (fd ._law_steps)
  b__law_steps : Binds K (fd ._law_steps) ["paper"] []
  m__law_steps : mg "_law_steps" = some (.ref (Fa.a ._law_steps))
  F__law_count : Fun K "_law_count" "_law_count" st__law_count (Fa.a ._law_count) (fd ._law_count)
  b__law_count : Binds K (fd ._law_count) ["kind", "world"] []
  m__law_count : mg "_law_count" = some (.ref (Fa.a ._law_count))
  F__law_entry : Fun K "_law_entry" "_law_entry" st__law_entry (Fa.a ._law_entry) (fd ._law_entry)
  b__law_entry : Binds K (fd ._law_entry) ["told", "base", "place"] []
  m__law_entry : mg "_law_entry" = some (.ref (Fa.a ._law_entry))
  F__law_table : Fun K "_law_table" "_law_table" st__law_table (Fa.a ._law_table) (fd ._law_table)
  b__law_table : Binds K (fd ._law_table) ["part", "world", "values", "kind"] []
  m__law_table : mg "_law_table" = some (.ref (Fa.a ._law_table))
  F__law_left_value : Fun K "_law_left_value" "_law_left_value" st__law_left_value (Fa.a ._law_left_value) (fd ._law_left_value)
  b__law_left_value : Binds K (fd ._law_left_value) ["paper", "world", "values"] []
  m__law_left_value : mg "_law_left_value" = some (.ref (Fa.a ._law_left_value))
  F__law_value : Fun K "_law_value" "_law_value" st__law_value (Fa.a ._law_value) (fd ._law_value)
  b__law_value : Binds K (fd ._law_value) ["paper", "world", "values"] []
  m__law_value : mg "_law_value" = some (.ref (Fa.a ._law_value))
  F__law_parts : Fun K "_law_parts" "_law_parts" st__law_parts (Fa.a ._law_parts) (fd ._law_parts)
  b__law_parts : Binds K (fd ._law_parts) ["kind"] []
  m__law_parts : mg "_law_parts" = some (.ref (Fa.a ._law_parts))
  F__law_bases : Fun K "_law_bases" "_law_bases" st__law_bases (Fa.a ._law_bases) (fd ._law_bases)
  b__law_bases : Binds K (fd ._law_bases) ["kinds"] []
  m__law_bases : mg "_law_bases" = some (.ref (Fa.a ._law_bases))
  F__law_most : Fun K "_law_most" "_law_most" st__law_most (Fa.a ._law_most) (fd ._law_most)
  b__law_most : Binds K (fd ._law_most) ["kinds", "world"] []
  m__law_most : mg "_law_most" = some (.ref (Fa.a ._law_most))
  F__law_world : Fun K "_law_world" "_law_world" st__law_world (Fa.a ._law_world) (fd ._law_world)
  b__law_world : Binds K (fd ._law_world) ["pool", "kinds", "limit"] []
  m__law_world : mg "_law_world" = some (.ref (Fa.a ._law_world))
  F_law : Fun K "law" "law" st_law (Fa.a .law) (fd .law)
  b_law : Binds K (fd .law) ["script"] []
  m_law : mg "law" = some (.ref (Fa.a .law))
  n_len : mg "len" = none
  n_all : mg "all" = none
  n_isinstance : mg "isinstance" = none
  n_str : mg "str" = none
  n_int : mg "int" = none
  n_abs : mg "abs" = none
  n_range : mg "range" = none
  n_bool : mg "bool" = none
  n_tuple : mg "tuple" = none
  n_list : mg "list" = none
  n_reversed : mg "reversed" = none
  n_min : mg "min" = none
  n_max : mg "max" = none
  c_MOST_IN_NUMBER : Kon K mg "MOST_IN_NUMBER" k_MOST_IN_NUMBER (cv 0) (cu 0)
  c_DIGITS : Kon K mg "DIGITS" k_DIGITS (cv 1) (cu 1)
  c_MOST_IN_NAME : Kon K mg "MOST_IN_NAME" k_MOST_IN_NAME (cv 2) (cu 2)
  c_LETTERS : Kon K mg "LETTERS" k_LETTERS (cv 3) (cu 3)
  gm_FitError : mg "FitError" = some (.ref (cl 0))
  e_FitError : XCls K mg "FitError" [.type "ValueError", .type "Exception", .type "BaseException", .type "object"] "ValueError.__new__" (cl 0)
  tm_BUILDERS : mg "BUILDERS" = some (.ref (tb 0))
  t_BUILDERS : TabK K w (tb 0) k_BUILDERS
structure Oks [Fa] (P : Program) (w : World) (K : PySem.W.Frag) (mg : Str → Option Value) (base : Heap) (fd : FN → FuncData) (n : Nat) : Prop where
  o_is_atom_number : FnOk P w K mg base (L2.CX P w) n (Fa.a .is_atom_number) (fd .is_atom_number) ["text"] (rdF ⟨K, mg, W0⟩ (tab n .is_atom_number))
  o_is_atom : FnOk P w K mg base (L2.CX P w) n (Fa.a .is_atom) (fd .is_atom) ["thing"] (rdF ⟨K, mg, W0⟩ (tab n .is_atom))
  o_sequent_of : FnOk P w K mg base (L2.CX P w) n (Fa.a .sequent_of) (fd .sequent_of) ["derivation"] (rdF ⟨K, mg, W0⟩ (tab n .sequent_of))
  o_make_axiom : FnOk P w K mg base (L2.CX P w) n (Fa.a .make_axiom) (fd .make_axiom) ["atom"] (rdF ⟨K, mg, W0⟩ (tab n .make_axiom))
  o_by_over_right : FnOk P w K mg base (L2.CX P w) n (Fa.a .by_over_right) (fd .by_over_right) ["at", "parts"] (rdF ⟨K, mg, W0⟩ (tab n .by_over_right))
  o_by_under_right : FnOk P w K mg base (L2.CX P w) n (Fa.a .by_under_right) (fd .by_under_right) ["at", "parts"] (rdF ⟨K, mg, W0⟩ (tab n .by_under_right))
  o_by_pair_right : FnOk P w K mg base (L2.CX P w) n (Fa.a .by_pair_right) (fd .by_pair_right) ["at", "parts"] (rdF ⟨K, mg, W0⟩ (tab n .by_pair_right))
  o_by_over_left : FnOk P w K mg base (L2.CX P w) n (Fa.a .by_over_left) (fd .by_over_left) ["at", "parts"] (rdF ⟨K, mg, W0⟩ (tab n .by_over_left))
  o_by_under_left : FnOk P w K mg base (L2.CX P w) n (Fa.a .by_under_left) (fd .by_under_left) ["at", "parts"] (rdF ⟨K, mg, W0⟩ (tab n .by_under_left))
  o_by_pair_left : FnOk P w K mg base (L2.CX P w) n (Fa.a .by_pair_left) (fd .by_pair_left) ["at", "parts"] (rdF ⟨K, mg, W0⟩ (tab n .by_pair_left))
  o_by_cut : FnOk P w K mg base (L2.CX P w) n (Fa.a .by_cut) (fd .by_cut) ["at", "parts"] (rdF ⟨K, mg, W0⟩ (tab n .by_cut))
  o_build_step : FnOk P w K mg base (L2.CX P w) n (Fa.a .build_step) (fd .build_step) ["rule", "at", "parts"] (rdF ⟨K, mg, W0⟩ (tab n .build_step))
  o_identity : FnOk P w K mg base (L2.CX P w) n (Fa.a .identity) (fd .identity) ["kind"] (rdF ⟨K, mg, W0⟩ (tab n .identity))
  o__law_cell : FnOk P w K mg base (L2.CX P w) n (Fa.a ._law_cell) (fd ._law_cell) ["script", "k"] (rdF ⟨K, mg, W0⟩ (tab n ._law_cell))
  o__law_mix : FnOk P w K mg base (L2.CX P w) n (Fa.a ._law_mix) (fd ._law_mix) ["x"] (rdF ⟨K, mg, W0⟩ (tab n ._law_mix))
  o__law_pool : FnOk P w K mg base (L2.CX P w) n (Fa.a ._law_pool) (fd ._law_pool) ["script", "k"] (rdF ⟨K, mg, W0⟩ (tab n ._law_pool))
  o__law_draw : FnOk P w K mg base (L2.CX P w) n (Fa.a ._law_draw) (fd ._law_draw) ["pool", "many"] (rdF ⟨K, mg, W0⟩ (tab n ._law_draw))
  o__law_any_atom : FnOk P w K mg base (L2.CX P w) n (Fa.a ._law_any_atom) (fd ._law_any_atom) ["pool"] (rdF ⟨K, mg, W0⟩ (tab n ._law_any_atom))
  o__law_names : FnOk P w K mg base (L2.CX P w) n (Fa.a ._law_names) (fd ._law_names) ["pool", "many"] (rdF ⟨K, mg, W0⟩ (tab n ._law_names))
  o__law_some_atom : FnOk P w K mg base (L2.CX P w) n (Fa.a ._law_some_atom) (fd ._law_some_atom) ["pool", "names"] (rdF ⟨K, mg, W0⟩ (tab n ._law_some_atom))
  o__law_kind : FnOk P w K mg base (L2.CX P w) n (Fa.a ._law_kind) (fd ._law_kind) ["pool", "names", "size"] (rdF ⟨K, mg, W0⟩ (tab n ._law_kind))
  o__law_size : FnOk P w K mg base (L2.CX P w) n (Fa.a ._law_size) (fd ._law_size) ["kind"] (rdF ⟨K, mg, W0⟩ (tab n ._law_size))
  o__law_is_integer : FnOk P w K mg base (L2.CX P w) n (Fa.a ._law_is_integer) (fd ._law_is_integer) ["told"] (rdF ⟨K, mg, W0⟩ (tab n ._law_is_integer))
  o__law_is_atom : FnOk P w K mg base (L2.CX P w) n (Fa.a ._law_is_atom) (fd ._law_is_atom) ["told"] (rdF ⟨K, mg, W0⟩ (tab n ._law_is_atom))
  o__law_is_kind : FnOk P w K mg base (L2.CX P w) n (Fa.a ._law_is_kind) (fd ._law_is_kind) ["told", "depth"] (rdF ⟨K, mg, W0⟩ (tab n ._law_is_kind))
  o__law_line : FnOk P w K mg base (L2.CX P w) n (Fa.a ._law_line) (fd ._law_line) ["rule", "at", "lines"] (rdF ⟨K, mg, W0⟩ (tab n ._law_line))
  o__law_axiom : FnOk P w K mg base (L2.CX P w) n (Fa.a ._law_axiom) (fd ._law_axiom) ["atom"] (rdF ⟨K, mg, W0⟩ (tab n ._law_axiom))
  o__law_make : FnOk P w K mg base (L2.CX P w) n (Fa.a ._law_make) (fd ._law_make) ["rule", "at", "parts"] (rdF ⟨K, mg, W0⟩ (tab n ._law_make))
  o__law_identity : FnOk P w K mg base (L2.CX P w) n (Fa.a ._law_identity) (fd ._law_identity) ["kind"] (rdF ⟨K, mg, W0⟩ (tab n ._law_identity))
  o__law_shape : FnOk P w K mg base (L2.CX P w) n (Fa.a ._law_shape) (fd ._law_shape) ["step"] (rdF ⟨K, mg, W0⟩ (tab n ._law_shape))
  o__law_follows : FnOk P w K mg base (L2.CX P w) n (Fa.a ._law_follows) (fd ._law_follows) ["step"] (rdF ⟨K, mg, W0⟩ (tab n ._law_follows))
  o__law_right : FnOk P w K mg base (L2.CX P w) n (Fa.a ._law_right) (fd ._law_right) ["paper"] (rdF ⟨K, mg, W0⟩ (tab n ._law_right))
  o__law_derives : FnOk P w K mg base (L2.CX P w) n (Fa.a ._law_derives) (fd ._law_derives) ["paper", "premises", "goal"] (rdF ⟨K, mg, W0⟩ (tab n ._law_derives))
  o__law_steps : FnOk P w K mg base (L2.CX P w) n (Fa.a ._law_steps) (fd ._law_steps) ["paper"] (rdF ⟨K, mg, W0⟩ (tab n ._law_steps))
  o__law_count : FnOk P w K mg base (L2.CX P w) n (Fa.a ._law_count) (fd ._law_count) ["kind", "world"] (rdF ⟨K, mg, W0⟩ (tab n ._law_count))
  o__law_entry : FnOk P w K mg base (L2.CX P w) n (Fa.a ._law_entry) (fd ._law_entry) ["told", "base", "place"] (rdF ⟨K, mg, W0⟩ (tab n ._law_entry))
  o__law_table : FnOk P w K mg base (L2.CX P w) n (Fa.a ._law_table) (fd ._law_table) ["part", "world", "values", "kind"] (rdF ⟨K, mg, W0⟩ (tab n ._law_table))
  o__law_left_value : FnOk P w K mg base (L2.CX P w) n (Fa.a ._law_left_value) (fd ._law_left_value) ["paper", "world", "values"] (rdF ⟨K, mg, W0⟩ (tab n ._law_left_value))
  o__law_value : FnOk P w K mg base (L2.CX P w) n (Fa.a ._law_value) (fd ._law_value) ["paper", "world", "values"] (rdF ⟨K, mg, W0⟩ (tab n ._law_value))
  o__law_parts : FnOk P w K mg base (L2.CX P w) n (Fa.a ._law_parts) (fd ._law_parts) ["kind"] (rdF ⟨K, mg, W0⟩ (tab n ._law_parts))
  o__law_bases : FnOk P w K mg base (L2.CX P w) n (Fa.a ._law_bases) (fd ._law_bases) ["kinds"] (rdF ⟨K, mg, W0⟩ (tab n ._law_bases))
  o__law_most : FnOk P w K mg base (L2.CX P w) n (Fa.a ._law_most) (fd ._law_most) ["kinds", "world"] (rdF ⟨K, mg, W0⟩ (tab n ._law_most))
  o__law_world : FnOk P w K mg base (L2.CX P w) n (Fa.a ._law_world) (fd ._law_world) ["pool", "kinds", "limit"] (rdF ⟨K, mg, W0⟩ (tab n ._law_world))
  o_law : FnOk P w K mg base (L2.CX P w) n (Fa.a .law) (fd .law) ["script"] (rdF ⟨K, mg, W0⟩ (tab n .law))
section
variable {P : Program} {w : World} {K : PySem.W.Frag} {mg : Str → Option Value} {base : Heap} [Fa] {fd : FN → FuncData} {cv : Nat → V} {cu : Nat → Value} {cl tb : Nat → Addr} {n : Nat}
set_option maxHeartbeats 4000000 in
theorem ok_is_atom_number (T : Txt w K mg fd cv cu cl tb) (O : Oks P w K mg base fd n) : FnOk P w K mg base (L2.CX P w) (n + 1) (Fa.a .is_atom_number) (fd .is_atom_number) ["text"] (rdF ⟨K, mg, W0⟩ (tab (n + 1) .is_atom_number)) :=
  fn_ok (N := nl_is_atom_number) (g := b_is_atom_number (tab n)) T.F_is_atom_number sc_is_atom_number fun cdv A outer s H E hr =>
    (t_cons (t_if (PW.pt (d_or (d_not (d_tch o_le o_le d_int (d_callB c_len rfl T.n_len boot_len_ (d_aC (d_v 0) d_aN)) (d_glob rfl T.c_MOST_IN_NUMBER.m T.c_MOST_IN_NUMBER.r T.c_MOST_IN_NUMBER.d))) (d_or1 (d_tcmp (o_eq hr.units) (d_ix (d_v 0) d_int) d_str)))) (t_one (t_ret d_bl)) t_nil)
    (t_one (t_ret (d_callB (c_all rfl) rfl T.n_all boot_all_ (d_aC (d_lc (own := [("char", 1)]) (g := (.one 1)) rfl sc_is_atom_number.nd (w_any (d_v 0)) (blkOk_by (own := [("char", 1)]) (N := nl_is_atom_number) (sc := defScope st_is_atom_number) (by decide +kernel)) (by decide) (fun _ _ _ _ _ => (v_one sc_is_atom_number.nd)) (fun _ _ _ _ _ => u_nil) (fun _ _ _ _ _ => (d_cmp (o_in (r65 hr)) (d_v 1) (d_glob rfl T.c_DIGITS.m T.c_DIGITS.r T.c_DIGITS.d)))) d_aN)))))
set_option maxHeartbeats 4000000 in
theorem ok_is_atom (T : Txt w K mg fd cv cu cl tb) (O : Oks P w K mg base fd n) : FnOk P w K mg base (L2.CX P w) (n + 1) (Fa.a .is_atom) (fd .is_atom) ["thing"] (rdF ⟨K, mg, W0⟩ (tab (n + 1) .is_atom)) :=
  fn_ok (N := nl_is_atom) (g := b_is_atom (tab n)) T.F_is_atom sc_is_atom fun cdv A outer s H E hr =>
    (t_cons (t_if (d_not (d_tv (d_callB (c_isi .str (by decide)) rfl T.n_isinstance boot_isinstance_ (d_aC (d_v 0) (d_aC (d_blt rfl T.n_str boot_str_ rfl) d_aN))))) (t_one (t_ret d_bl)) t_nil)
    (t_cons (t_asg (d_m (T := .str) PySem.F.plainAttrs_str PySem.F.slot_str_partition PySem.F.type_str_partition (by decide) m_part (d_v 0) (d_aC d_str d_aN)) (g_seq rfl (g_cons (g_nm (j := 1) sc_is_atom.nd) (g_cons (g_nm (j := 2) sc_is_atom.nd) (g_cons (g_nm (j := 3) sc_is_atom.nd) g_nil)))))
    (t_cons (t_if (PW.pt (d_or (d_not (d_tch o_le o_le d_int (d_callB c_len rfl T.n_len boot_len_ (d_aC (d_v 1) d_aN)) (d_glob rfl T.c_MOST_IN_NAME.m T.c_MOST_IN_NAME.r T.c_MOST_IN_NAME.d))) (d_or1 (d_tcmp (o_nin (r65 hr)) (d_ix (d_v 1) d_int) (d_glob rfl T.c_LETTERS.m T.c_LETTERS.r T.c_LETTERS.d))))) (t_one (t_ret d_bl)) t_nil)
    (t_cons (t_if (d_not (d_tv (d_callB (c_all rfl) rfl T.n_all boot_all_ (d_aC (d_lc (own := [("char", 4)]) (g := (.one 4)) rfl sc_is_atom.nd (w_any (d_v 1)) (blkOk_by (own := [("char", 4)]) (N := nl_is_atom) (sc := defScope st_is_atom) (by decide +kernel)) (by decide) (fun _ _ _ _ _ => (v_one sc_is_atom.nd)) (fun _ _ _ _ _ => u_nil) (fun _ _ _ _ _ => (d_vor (d_cmp (o_in (r65 hr)) (d_v 4) (d_glob rfl T.c_LETTERS.m T.c_LETTERS.r T.c_LETTERS.d)) (d_one (d_cmp (o_in (r65 hr)) (d_v 4) (d_glob rfl T.c_DIGITS.m T.c_DIGITS.r T.c_DIGITS.d)))))) d_aN)))) (t_one (t_ret d_bl)) t_nil)
    (t_one (t_ret (d_vor (d_cmp (o_eq hr.units) (d_v 2) d_str) (d_one (d_call O.o_is_atom_number hr rfl T.m_is_atom_number T.F_is_atom_number.kp T.b_is_atom_number (fun σ => passAt (takes_of rfl rfl rfl rfl) σ) (d_aC (d_v 3) d_aN))))))))))
set_option maxHeartbeats 4000000 in
theorem ok_sequent_of (T : Txt w K mg fd cv cu cl tb) (O : Oks P w K mg base fd n) : FnOk P w K mg base (L2.CX P w) (n + 1) (Fa.a .sequent_of) (fd .sequent_of) ["derivation"] (rdF ⟨K, mg, W0⟩ (tab (n + 1) .sequent_of)) :=
  fn_ok (N := nl_sequent_of) (g := b_sequent_of (tab n)) T.F_sequent_of sc_sequent_of fun cdv A outer s H E hr =>
    (t_one (t_ret (d_tup (d_aC (d_ix (d_v 0) d_int) (d_aC (d_ix (d_v 0) d_int) d_aN)))))
set_option maxHeartbeats 4000000 in
theorem ok_make_axiom (T : Txt w K mg fd cv cu cl tb) (O : Oks P w K mg base fd n) : FnOk P w K mg base (L2.CX P w) (n + 1) (Fa.a .make_axiom) (fd .make_axiom) ["atom"] (rdF ⟨K, mg, W0⟩ (tab (n + 1) .make_axiom)) :=
  fn_ok (N := nl_make_axiom) (g := b_make_axiom (tab n)) T.F_make_axiom sc_make_axiom fun cdv A outer s H E hr =>
    (t_cons (t_if (d_not (d_tv (d_call O.o_is_atom hr rfl T.m_is_atom T.F_is_atom.kp T.b_is_atom (fun σ => passAt (takes_of rfl rfl rfl rfl) σ) (d_aC (d_v 0) d_aN)))) (t_one (t_raise rfl (takes_of rfl rfl rfl rfl) PySem.F.excBase_ValueError T.e_FitError rfl)) t_nil)
    (t_one (t_ret (d_tup (d_aC d_str (d_aC (d_tup (d_aC (d_v 0) d_aN)) (d_aC (d_v 0) (d_aC d_int (d_aC d_int (d_aC (d_tup d_aN) d_aN))))))))))
set_option maxHeartbeats 4000000 in
theorem ok_by_over_right (T : Txt w K mg fd cv cu cl tb) (O : Oks P w K mg base fd n) : FnOk P w K mg base (L2.CX P w) (n + 1) (Fa.a .by_over_right) (fd .by_over_right) ["at", "parts"] (rdF ⟨K, mg, W0⟩ (tab (n + 1) .by_over_right)) :=
  fn_ok (N := nl_by_over_right) (g := b_by_over_right (tab n)) T.F_by_over_right sc_by_over_right fun cdv A outer s H E hr =>
    (t_cons (t_asg (d_call O.o_sequent_of hr rfl T.m_sequent_of T.F_sequent_of.kp T.b_sequent_of (fun σ => passAt (takes_of rfl rfl rfl rfl) σ) (d_aC (d_ix (d_v 1) d_int) d_aN)) (g_seq rfl (g_cons (g_nm (j := 2) sc_by_over_right.nd) (g_cons (g_nm (j := 3) sc_by_over_right.nd) g_nil))))
    (t_one (t_ret (d_tup (d_aC (d_sl (d_v 2) d_oN (d_oI (d_neg d_int))) (d_aC (d_tup (d_aC d_str (d_aC (d_v 3) (d_aC (d_ix (d_v 2) (d_neg d_int)) d_aN)))) (d_aC d_int d_aN)))))))
set_option maxHeartbeats 4000000 in
theorem ok_by_under_right (T : Txt w K mg fd cv cu cl tb) (O : Oks P w K mg base fd n) : FnOk P w K mg base (L2.CX P w) (n + 1) (Fa.a .by_under_right) (fd .by_under_right) ["at", "parts"] (rdF ⟨K, mg, W0⟩ (tab (n + 1) .by_under_right)) :=
  fn_ok (N := nl_by_under_right) (g := b_by_under_right (tab n)) T.F_by_under_right sc_by_under_right fun cdv A outer s H E hr =>
    (t_cons (t_asg (d_call O.o_sequent_of hr rfl T.m_sequent_of T.F_sequent_of.kp T.b_sequent_of (fun σ => passAt (takes_of rfl rfl rfl rfl) σ) (d_aC (d_ix (d_v 1) d_int) d_aN)) (g_seq rfl (g_cons (g_nm (j := 2) sc_by_under_right.nd) (g_cons (g_nm (j := 3) sc_by_under_right.nd) g_nil))))
    (t_one (t_ret (d_tup (d_aC (d_sl (d_v 2) (d_oI d_int) d_oN) (d_aC (d_tup (d_aC d_str (d_aC (d_ix (d_v 2) d_int) (d_aC (d_v 3) d_aN)))) (d_aC d_int d_aN)))))))
set_option maxHeartbeats 4000000 in
theorem ok_by_pair_right (T : Txt w K mg fd cv cu cl tb) (O : Oks P w K mg base fd n) : FnOk P w K mg base (L2.CX P w) (n + 1) (Fa.a .by_pair_right) (fd .by_pair_right) ["at", "parts"] (rdF ⟨K, mg, W0⟩ (tab (n + 1) .by_pair_right)) :=
  fn_ok (N := nl_by_pair_right) (g := b_by_pair_right (tab n)) T.F_by_pair_right sc_by_pair_right fun cdv A outer s H E hr =>
    (t_cons (t_asg (d_call O.o_sequent_of hr rfl T.m_sequent_of T.F_sequent_of.kp T.b_sequent_of (fun σ => passAt (takes_of rfl rfl rfl rfl) σ) (d_aC (d_ix (d_v 1) d_int) d_aN)) (g_seq rfl (g_cons (g_nm (j := 2) sc_by_pair_right.nd) (g_cons (g_nm (j := 3) sc_by_pair_right.nd) g_nil))))
    (t_cons (t_asg (d_call O.o_sequent_of hr rfl T.m_sequent_of T.F_sequent_of.kp T.b_sequent_of (fun σ => passAt (takes_of rfl rfl rfl rfl) σ) (d_aC (d_ix (d_v 1) d_int) d_aN)) (g_seq rfl (g_cons (g_nm (j := 4) sc_by_pair_right.nd) (g_cons (g_nm (j := 5) sc_by_pair_right.nd) g_nil))))
    (t_one (t_ret (d_tup (d_aC (d_op o_add (d_v 2) (d_v 4)) (d_aC (d_tup (d_aC d_str (d_aC (d_v 3) (d_aC (d_v 5) d_aN)))) (d_aC d_int d_aN))))))))
set_option maxHeartbeats 4000000 in
theorem ok_by_over_left (T : Txt w K mg fd cv cu cl tb) (O : Oks P w K mg base fd n) : FnOk P w K mg base (L2.CX P w) (n + 1) (Fa.a .by_over_left) (fd .by_over_left) ["at", "parts"] (rdF ⟨K, mg, W0⟩ (tab (n + 1) .by_over_left)) :=
  fn_ok (N := nl_by_over_left) (g := b_by_over_left (tab n)) T.F_by_over_left sc_by_over_left fun cdv A outer s H E hr =>
    (t_cons (t_asg (d_call O.o_sequent_of hr rfl T.m_sequent_of T.F_sequent_of.kp T.b_sequent_of (fun σ => passAt (takes_of rfl rfl rfl rfl) σ) (d_aC (d_ix (d_v 1) d_int) d_aN)) (g_seq rfl (g_cons (g_nm (j := 3) sc_by_over_left.nd) (g_cons (g_nm (j := 4) sc_by_over_left.nd) g_nil))))
    (t_cons (t_asg (d_call O.o_sequent_of hr rfl T.m_sequent_of T.F_sequent_of.kp T.b_sequent_of (fun σ => passAt (takes_of rfl rfl rfl rfl) σ) (d_aC (d_ix (d_v 1) d_int) d_aN)) (g_seq rfl (g_cons (g_nm (j := 5) sc_by_over_left.nd) (g_cons (g_nm (j := 6) sc_by_over_left.nd) g_nil))))
    (t_cons (t_set (j := 2) sc_by_over_left.nd (d_tup (d_aC d_str (d_aC (d_ix (d_v 5) (d_v 0)) (d_aC (d_v 4) d_aN)))))
    (t_one (t_ret (d_tup (d_aC (d_op o_add (d_op o_add (d_op o_add (d_sl (d_v 5) d_oN (d_oI (d_v 0))) (d_tup (d_aC (d_v 2) d_aN))) (d_v 3)) (d_sl (d_v 5) (d_oI (d_op o_add (d_v 0) d_int)) d_oN)) (d_aC (d_v 6) (d_aC (d_callB c_len rfl T.n_len boot_len_ (d_aC (d_v 3) d_aN)) d_aN)))))))))
set_option maxHeartbeats 4000000 in
theorem ok_by_under_left (T : Txt w K mg fd cv cu cl tb) (O : Oks P w K mg base fd n) : FnOk P w K mg base (L2.CX P w) (n + 1) (Fa.a .by_under_left) (fd .by_under_left) ["at", "parts"] (rdF ⟨K, mg, W0⟩ (tab (n + 1) .by_under_left)) :=
  fn_ok (N := nl_by_under_left) (g := b_by_under_left (tab n)) T.F_by_under_left sc_by_under_left fun cdv A outer s H E hr =>
    (t_cons (t_asg (d_call O.o_sequent_of hr rfl T.m_sequent_of T.F_sequent_of.kp T.b_sequent_of (fun σ => passAt (takes_of rfl rfl rfl rfl) σ) (d_aC (d_ix (d_v 1) d_int) d_aN)) (g_seq rfl (g_cons (g_nm (j := 4) sc_by_under_left.nd) (g_cons (g_nm (j := 5) sc_by_under_left.nd) g_nil))))
    (t_cons (t_asg (d_call O.o_sequent_of hr rfl T.m_sequent_of T.F_sequent_of.kp T.b_sequent_of (fun σ => passAt (takes_of rfl rfl rfl rfl) σ) (d_aC (d_ix (d_v 1) d_int) d_aN)) (g_seq rfl (g_cons (g_nm (j := 6) sc_by_under_left.nd) (g_cons (g_nm (j := 7) sc_by_under_left.nd) g_nil))))
    (t_cons (t_set (j := 2) sc_by_under_left.nd (d_op o_sub (d_v 0) (d_callB c_len rfl T.n_len boot_len_ (d_aC (d_v 4) d_aN))))
    (t_cons (t_set (j := 3) sc_by_under_left.nd (d_tup (d_aC d_str (d_aC (d_v 5) (d_aC (d_ix (d_v 6) (d_v 2)) d_aN)))))
    (t_one (t_ret (d_tup (d_aC (d_op o_add (d_op o_add (d_op o_add (d_sl (d_v 6) d_oN (d_oI (d_v 2))) (d_v 4)) (d_tup (d_aC (d_v 3) d_aN))) (d_sl (d_v 6) (d_oI (d_op o_add (d_v 2) d_int)) d_oN)) (d_aC (d_v 7) (d_aC (d_callB c_len rfl T.n_len boot_len_ (d_aC (d_v 4) d_aN)) d_aN))))))))))
set_option maxHeartbeats 4000000 in
theorem ok_by_pair_left (T : Txt w K mg fd cv cu cl tb) (O : Oks P w K mg base fd n) : FnOk P w K mg base (L2.CX P w) (n + 1) (Fa.a .by_pair_left) (fd .by_pair_left) ["at", "parts"] (rdF ⟨K, mg, W0⟩ (tab (n + 1) .by_pair_left)) :=
  fn_ok (N := nl_by_pair_left) (g := b_by_pair_left (tab n)) T.F_by_pair_left sc_by_pair_left fun cdv A outer s H E hr =>
    (t_cons (t_asg (d_call O.o_sequent_of hr rfl T.m_sequent_of T.F_sequent_of.kp T.b_sequent_of (fun σ => passAt (takes_of rfl rfl rfl rfl) σ) (d_aC (d_ix (d_v 1) d_int) d_aN)) (g_seq rfl (g_cons (g_nm (j := 3) sc_by_pair_left.nd) (g_cons (g_nm (j := 4) sc_by_pair_left.nd) g_nil))))
    (t_cons (t_set (j := 2) sc_by_pair_left.nd (d_tup (d_aC d_str (d_aC (d_ix (d_v 3) (d_v 0)) (d_aC (d_ix (d_v 3) (d_op o_add (d_v 0) d_int)) d_aN)))))
    (t_one (t_ret (d_tup (d_aC (d_op o_add (d_op o_add (d_sl (d_v 3) d_oN (d_oI (d_v 0))) (d_tup (d_aC (d_v 2) d_aN))) (d_sl (d_v 3) (d_oI (d_op o_add (d_v 0) d_int)) d_oN)) (d_aC (d_v 4) (d_aC d_int d_aN))))))))
set_option maxHeartbeats 4000000 in
theorem ok_by_cut (T : Txt w K mg fd cv cu cl tb) (O : Oks P w K mg base fd n) : FnOk P w K mg base (L2.CX P w) (n + 1) (Fa.a .by_cut) (fd .by_cut) ["at", "parts"] (rdF ⟨K, mg, W0⟩ (tab (n + 1) .by_cut)) :=
  fn_ok (N := nl_by_cut) (g := b_by_cut (tab n)) T.F_by_cut sc_by_cut fun cdv A outer s H E hr =>
    (t_cons (t_asg (d_call O.o_sequent_of hr rfl T.m_sequent_of T.F_sequent_of.kp T.b_sequent_of (fun σ => passAt (takes_of rfl rfl rfl rfl) σ) (d_aC (d_ix (d_v 1) d_int) d_aN)) (g_seq rfl (g_cons (g_nm (j := 2) sc_by_cut.nd) (g_cons (g_nm (j := 3) sc_by_cut.nd) g_nil))))
    (t_cons (t_asg (d_call O.o_sequent_of hr rfl T.m_sequent_of T.F_sequent_of.kp T.b_sequent_of (fun σ => passAt (takes_of rfl rfl rfl rfl) σ) (d_aC (d_ix (d_v 1) d_int) d_aN)) (g_seq rfl (g_cons (g_nm (j := 4) sc_by_cut.nd) (g_cons (g_nm (j := 5) sc_by_cut.nd) g_nil))))
    (t_one (t_ret (d_tup (d_aC (d_op o_add (d_op o_add (d_sl (d_v 4) d_oN (d_oI (d_v 0))) (d_v 2)) (d_sl (d_v 4) (d_oI (d_op o_add (d_v 0) d_int)) d_oN)) (d_aC (d_v 5) (d_aC (d_callB c_len rfl T.n_len boot_len_ (d_aC (d_v 2) d_aN)) d_aN))))))))
set_option maxHeartbeats 4000000 in
theorem ok_build_step (T : Txt w K mg fd cv cu cl tb) (O : Oks P w K mg base fd n) : FnOk P w K mg base (L2.CX P w) (n + 1) (Fa.a .build_step) (fd .build_step) ["rule", "at", "parts"] (rdF ⟨K, mg, W0⟩ (tab (n + 1) .build_step)) :=
  fn_ok (N := nl_build_step) (g := b_build_step (tab n)) T.F_build_step sc_build_step fun cdv A outer s H E hr =>
    (t_cons (t_set (j := 3) sc_build_step.nd (d_tab T.t_BUILDERS rfl T.tm_BUILDERS (d_v 0)))
    (t_cons (t_asg (d_callV (i := 3) (cs := [(Fa.a .by_over_right, tab n .by_over_right), (Fa.a .by_under_right, tab n .by_under_right), (Fa.a .by_pair_right, tab n .by_pair_right), (Fa.a .by_over_left, tab n .by_over_left), (Fa.a .by_under_left, tab n .by_under_left), (Fa.a .by_pair_left, tab n .by_pair_left), (Fa.a .by_cut, tab n .by_cut)]) (List.forall_mem_cons.mpr ⟨⟨_, _, O.o_by_over_right, T.F_by_over_right.kp, T.b_by_over_right⟩, (List.forall_mem_cons.mpr ⟨⟨_, _, O.o_by_under_right, T.F_by_under_right.kp, T.b_by_under_right⟩, (List.forall_mem_cons.mpr ⟨⟨_, _, O.o_by_pair_right, T.F_by_pair_right.kp, T.b_by_pair_right⟩, (List.forall_mem_cons.mpr ⟨⟨_, _, O.o_by_over_left, T.F_by_over_left.kp, T.b_by_over_left⟩, (List.forall_mem_cons.mpr ⟨⟨_, _, O.o_by_under_left, T.F_by_under_left.kp, T.b_by_under_left⟩, (List.forall_mem_cons.mpr ⟨⟨_, _, O.o_by_pair_left, T.F_by_pair_left.kp, T.b_by_pair_left⟩, (List.forall_mem_cons.mpr ⟨⟨_, _, O.o_by_cut, T.F_by_cut.kp, T.b_by_cut⟩, (fun _ h => nomatch h)⟩)⟩)⟩)⟩)⟩)⟩)⟩) hr (fun σ => passAt (takes_of rfl rfl rfl rfl) σ) (d_aC (d_v 1) (d_aC (d_v 2) d_aN))) (g_seq rfl (g_cons (g_nm (j := 4) sc_build_step.nd) (g_cons (g_nm (j := 5) sc_build_step.nd) (g_cons (g_nm (j := 6) sc_build_step.nd) g_nil)))))
    (t_one (t_ret (d_tup (d_aC (d_v 0) (d_aC (d_v 4) (d_aC (d_v 5) (d_aC (d_v 1) (d_aC (d_v 6) (d_aC (d_v 2) d_aN)))))))))))
set_option maxHeartbeats 4000000 in
theorem ok_identity (T : Txt w K mg fd cv cu cl tb) (O : Oks P w K mg base fd n) : FnOk P w K mg base (L2.CX P w) (n + 1) (Fa.a .identity) (fd .identity) ["kind"] (rdF ⟨K, mg, W0⟩ (tab (n + 1) .identity)) :=
  fn_ok (N := nl_identity) (g := b_identity (tab n)) T.F_identity sc_identity fun cdv A outer s H E hr =>
    (t_cons (t_if (d_tv (d_callB (c_isi .str (by decide)) rfl T.n_isinstance boot_isinstance_ (d_aC (d_v 0) (d_aC (d_blt rfl T.n_str boot_str_ rfl) d_aN)))) (t_one (t_ret (d_call O.o_make_axiom hr rfl T.m_make_axiom T.F_make_axiom.kp T.b_make_axiom (fun σ => passAt (takes_of rfl rfl rfl rfl) σ) (d_aC (d_v 0) d_aN)))) t_nil)
    (t_cons (t_asg (d_v 0) (g_seq rfl (g_cons (g_nm (j := 2) sc_identity.nd) (g_cons (g_nm (j := 3) sc_identity.nd) (g_cons (g_nm (j := 4) sc_identity.nd) g_nil)))))
    (t_cons (t_if (d_tcmp (o_eq hr.units) (d_v 2) d_str) (t_cons (t_set (j := 5) sc_identity.nd (d_call O.o_build_step hr rfl T.m_build_step T.F_build_step.kp T.b_build_step (fun σ => passAt (takes_of rfl rfl rfl rfl) σ) (d_aC d_str (d_aC d_int (d_aC (d_tup (d_aC (d_call O.o_identity hr rfl T.m_identity T.F_identity.kp T.b_identity (fun σ => passAt (takes_of rfl rfl rfl rfl) σ) (d_aC (d_v 4) d_aN)) (d_aC (d_call O.o_identity hr rfl T.m_identity T.F_identity.kp T.b_identity (fun σ => passAt (takes_of rfl rfl rfl rfl) σ) (d_aC (d_v 3) d_aN)) d_aN))) d_aN)))))
    (t_one (t_ret (d_call O.o_build_step hr rfl T.m_build_step T.F_build_step.kp T.b_build_step (fun σ => passAt (takes_of rfl rfl rfl rfl) σ) (d_aC d_str (d_aC d_int (d_aC (d_tup (d_aC (d_v 5) d_aN)) d_aN))))))) t_nil)
    (t_cons (t_if (d_tcmp (o_eq hr.units) (d_v 2) d_str) (t_cons (t_set (j := 5) sc_identity.nd (d_call O.o_build_step hr rfl T.m_build_step T.F_build_step.kp T.b_build_step (fun σ => passAt (takes_of rfl rfl rfl rfl) σ) (d_aC d_str (d_aC d_int (d_aC (d_tup (d_aC (d_call O.o_identity hr rfl T.m_identity T.F_identity.kp T.b_identity (fun σ => passAt (takes_of rfl rfl rfl rfl) σ) (d_aC (d_v 3) d_aN)) (d_aC (d_call O.o_identity hr rfl T.m_identity T.F_identity.kp T.b_identity (fun σ => passAt (takes_of rfl rfl rfl rfl) σ) (d_aC (d_v 4) d_aN)) d_aN))) d_aN)))))
    (t_one (t_ret (d_call O.o_build_step hr rfl T.m_build_step T.F_build_step.kp T.b_build_step (fun σ => passAt (takes_of rfl rfl rfl rfl) σ) (d_aC d_str (d_aC d_int (d_aC (d_tup (d_aC (d_v 5) d_aN)) d_aN))))))) t_nil)
    (t_cons (t_set (j := 1) sc_identity.nd (d_call O.o_build_step hr rfl T.m_build_step T.F_build_step.kp T.b_build_step (fun σ => passAt (takes_of rfl rfl rfl rfl) σ) (d_aC d_str (d_aC d_int (d_aC (d_tup (d_aC (d_call O.o_identity hr rfl T.m_identity T.F_identity.kp T.b_identity (fun σ => passAt (takes_of rfl rfl rfl rfl) σ) (d_aC (d_v 3) d_aN)) (d_aC (d_call O.o_identity hr rfl T.m_identity T.F_identity.kp T.b_identity (fun σ => passAt (takes_of rfl rfl rfl rfl) σ) (d_aC (d_v 4) d_aN)) d_aN))) d_aN)))))
    (t_one (t_ret (d_call O.o_build_step hr rfl T.m_build_step T.F_build_step.kp T.b_build_step (fun σ => passAt (takes_of rfl rfl rfl rfl) σ) (d_aC d_str (d_aC d_int (d_aC (d_tup (d_aC (d_v 1) d_aN)) d_aN)))))))))))
set_option maxHeartbeats 4000000 in
theorem ok__law_cell (T : Txt w K mg fd cv cu cl tb) (O : Oks P w K mg base fd n) : FnOk P w K mg base (L2.CX P w) (n + 1) (Fa.a ._law_cell) (fd ._law_cell) ["script", "k"] (rdF ⟨K, mg, W0⟩ (tab (n + 1) ._law_cell)) :=
  fn_ok (N := nl__law_cell) (g := b__law_cell (tab n)) T.F__law_cell sc__law_cell fun cdv A outer s H E hr =>
    (t_cons (t_if (d_tcmp o_lt (d_v 1) (d_callB c_len rfl T.n_len boot_len_ (d_aC (d_v 0) d_aN))) (t_one (t_ret (d_callT c_int rfl T.n_int boot_int_ (d_aC (d_ix (d_v 0) (d_v 1)) d_aN)))) t_nil)
    (t_one (t_ret d_int)))
set_option maxHeartbeats 4000000 in
theorem ok__law_mix (T : Txt w K mg fd cv cu cl tb) (O : Oks P w K mg base fd n) : FnOk P w K mg base (L2.CX P w) (n + 1) (Fa.a ._law_mix) (fd ._law_mix) ["x"] (rdF ⟨K, mg, W0⟩ (tab (n + 1) ._law_mix)) :=
  fn_ok (N := nl__law_mix) (g := b__law_mix (tab n)) T.F__law_mix sc__law_mix fun cdv A outer s H E hr =>
    (t_cons (t_set (j := 0) sc__law_mix.nd (d_op o_mod (d_callT c_int rfl T.n_int boot_int_ (d_aC (d_op o_add (d_op o_add (d_op o_mul (d_v 0) (d_v 0)) (d_op o_mul d_int (d_v 0))) d_int) d_aN)) d_int))
    (t_one (t_ret (d_op o_mod (d_callT c_int rfl T.n_int boot_int_ (d_aC (d_op o_add (d_op o_add (d_op o_mul (d_v 0) (d_v 0)) (d_op o_mul d_int (d_v 0))) d_int) d_aN)) d_int))))
set_option maxHeartbeats 4000000 in
theorem ok__law_pool (T : Txt w K mg fd cv cu cl tb) (O : Oks P w K mg base fd n) : FnOk P w K mg base (L2.CX P w) (n + 1) (Fa.a ._law_pool) (fd ._law_pool) ["script", "k"] (rdF ⟨K, mg, W0⟩ (tab (n + 1) ._law_pool)) :=
  fn_ok (N := nl__law_pool) (g := b__law_pool (tab n)) T.F__law_pool sc__law_pool fun cdv A outer s H E hr =>
    (t_cons (t_set (j := 2) sc__law_pool.nd (d_call O.o__law_cell hr rfl T.m__law_cell T.F__law_cell.kp T.b__law_cell (fun σ => passAt (takes_of rfl rfl rfl rfl) σ) (d_aC (d_v 0) (d_aC (d_v 1) d_aN))))
    (t_cons (t_if (d_tcmp o_ge (d_v 2) (d_op o_pow d_int d_int)) (t_one (t_ret (d_lst (d_aC (d_op o_sub (d_v 2) (d_op o_pow d_int d_int)) (d_aC (d_op o_mul d_int (d_op o_add (d_v 1) d_int)) (d_aC d_int d_aN)))))) t_nil)
    (t_one (t_ret (d_lst (d_aC d_int (d_aC (d_op o_add (d_op o_mod (d_callT c_int rfl T.n_int boot_int_ (d_aC (d_callB c_abs rfl T.n_abs boot_abs_ (d_aC (d_v 2) d_aN)) d_aN)) d_int) (d_op o_mul d_int (d_v 1))) (d_aC d_int d_aN))))))))
set_option maxHeartbeats 4000000 in
theorem ok__law_draw (T : Txt w K mg fd cv cu cl tb) (O : Oks P w K mg base fd n) : FnOk P w K mg base (L2.CX P w) (n + 1) (Fa.a ._law_draw) (fd ._law_draw) ["pool", "many"] (rdF ⟨K, mg, W0⟩ (tab (n + 1) ._law_draw)) :=
  fn_ok (N := nl__law_draw) (g := b__law_draw (tab n)) T.F__law_draw sc__law_draw fun cdv A outer s H E hr =>
    (t_cons (t_if (d_tcmp o_gt (d_ix (d_v 0) d_int) d_int) (t_cons (t_set (j := 2) sc__law_draw.nd (d_op o_mod (d_callT c_int rfl T.n_int boot_int_ (d_aC (d_ix (d_v 0) d_int) d_aN)) (d_v 1)))
    (t_cons (t_asg (d_op o_fdiv (d_ix (d_v 0) d_int) (d_v 1)) (g_ixX (u1 hr) (d_v 0) d_int))
    (t_one (t_ret (d_v 2))))) t_nil)
    (t_cons (t_asg (d_op o_add (d_ix (d_v 0) d_int) d_int) (g_ixX (u1 hr) (d_v 0) d_int))
    (t_one (t_ret (d_op o_mod (d_callT c_int rfl T.n_int boot_int_ (d_aC (d_op o_fdiv (d_call O.o__law_mix hr rfl T.m__law_mix T.F__law_mix.kp T.b__law_mix (fun σ => passAt (takes_of rfl rfl rfl rfl) σ) (d_aC (d_op o_add (d_ix (d_v 0) d_int) (d_op o_mul d_int (d_ix (d_v 0) d_int))) d_aN)) d_int) d_aN)) (d_v 1))))))
set_option maxHeartbeats 4000000 in
theorem ok__law_any_atom (T : Txt w K mg fd cv cu cl tb) (O : Oks P w K mg base fd n) : FnOk P w K mg base (L2.CX P w) (n + 1) (Fa.a ._law_any_atom) (fd ._law_any_atom) ["pool"] (rdF ⟨K, mg, W0⟩ (tab (n + 1) ._law_any_atom)) :=
  fn_ok (N := nl__law_any_atom) (g := b__law_any_atom (tab n)) T.F__law_any_atom sc__law_any_atom fun cdv A outer s H E hr =>
    (t_cons (t_set (j := 1) sc__law_any_atom.nd d_str)
    (t_cons (t_set (j := 2) sc__law_any_atom.nd (d_ix (d_v 1) (d_call O.o__law_draw hr rfl T.m__law_draw T.F__law_draw.kp T.b__law_draw (fun σ => passAt (takes_of rfl rfl rfl rfl) σ) (d_aC (d_v 0) (d_aC d_int d_aN)))))
    (t_cons (t_for (passes_of rfl) rfl (w_rng1 rfl T.n_range (d_call O.o__law_draw hr rfl T.m__law_draw T.F__law_draw.kp T.b__law_draw (fun σ => passAt (takes_of rfl rfl rfl rfl) σ) (d_aC (d_v 0) (d_aC d_int d_aN)))) (g_nm (j := 3) sc__law_any_atom.nd) (t_one (t_set (j := 2) sc__law_any_atom.nd (d_op o_add (d_v 2) (d_ix (d_op o_add (d_v 1) d_str) (d_call O.o__law_draw hr rfl T.m__law_draw T.F__law_draw.kp T.b__law_draw (fun σ => passAt (takes_of rfl rfl rfl rfl) σ) (d_aC (d_v 0) (d_aC d_int d_aN))))))))
    (t_cons (t_if (d_tcmp (o_eq hr.units) (d_call O.o__law_draw hr rfl T.m__law_draw T.F__law_draw.kp T.b__law_draw (fun σ => passAt (takes_of rfl rfl rfl rfl) σ) (d_aC (d_v 0) (d_aC d_int d_aN))) d_int) (t_one (t_set (j := 2) sc__law_any_atom.nd (d_op o_add (d_op o_add (d_v 2) d_str) (d_callT c_str rfl T.n_str boot_str_ (d_aC (d_op o_add d_int (d_call O.o__law_draw hr rfl T.m__law_draw T.F__law_draw.kp T.b__law_draw (fun σ => passAt (takes_of rfl rfl rfl rfl) σ) (d_aC (d_v 0) (d_aC d_int d_aN)))) d_aN))))) t_nil)
    (t_one (t_ret (d_v 2)))))))
set_option maxHeartbeats 4000000 in
theorem ok__law_names (T : Txt w K mg fd cv cu cl tb) (O : Oks P w K mg base fd n) : FnOk P w K mg base (L2.CX P w) (n + 1) (Fa.a ._law_names) (fd ._law_names) ["pool", "many"] (rdF ⟨K, mg, W0⟩ (tab (n + 1) ._law_names)) :=
  fn_ok (N := nl__law_names) (g := b__law_names (tab n)) T.F__law_names sc__law_names fun cdv A outer s H E hr =>
    (t_cons (t_set (j := 2) sc__law_names.nd (d_lst d_aN))
    (t_cons (t_for (passes_of rfl) rfl (w_rng1 rfl T.n_range (d_v 1)) (g_nm (j := 3) sc__law_names.nd) (t_cons (t_set (j := 4) sc__law_names.nd (d_call O.o__law_any_atom hr rfl T.m__law_any_atom T.F__law_any_atom.kp T.b__law_any_atom (fun σ => passAt (takes_of rfl rfl rfl rfl) σ) (d_aC (d_v 0) d_aN)))
    (t_cons (t_if (PW.pt (d_and (d_tcmp o_gt (d_v 3) d_int) (d_and1 (d_tcmp (o_eq hr.units) (d_call O.o__law_draw hr rfl T.m__law_draw T.F__law_draw.kp T.b__law_draw (fun σ => passAt (takes_of rfl rfl rfl rfl) σ) (d_aC (d_v 0) (d_aC d_int d_aN))) d_int)))) (t_one (t_set (j := 4) sc__law_names.nd (d_op o_add (d_op o_add (d_ix (d_m (T := .str) PySem.F.plainAttrs_str PySem.F.slot_str_split PySem.F.type_str_split (by decide) m_split (d_ix (d_v 2) d_int) (d_aC d_str d_aN)) d_int) d_str) (d_callT c_str rfl T.n_str boot_str_ (d_aC (d_op o_add d_int (d_call O.o__law_draw hr rfl T.m__law_draw T.F__law_draw.kp T.b__law_draw (fun σ => passAt (takes_of rfl rfl rfl rfl) σ) (d_aC (d_v 0) (d_aC d_int d_aN)))) d_aN))))) t_nil)
    (t_one (t_expr (d_m (T := .lst) PySem.F.plainAttrs_list PySem.F.slot_list_append PySem.F.type_list_append (by decide) m_append (d_v 2) (d_aC (d_v 4) d_aN)))))))
    (t_one (t_ret (d_v 2)))))
set_option maxHeartbeats 4000000 in
theorem ok__law_some_atom (T : Txt w K mg fd cv cu cl tb) (O : Oks P w K mg base fd n) : FnOk P w K mg base (L2.CX P w) (n + 1) (Fa.a ._law_some_atom) (fd ._law_some_atom) ["pool", "names"] (rdF ⟨K, mg, W0⟩ (tab (n + 1) ._law_some_atom)) :=
  fn_ok (N := nl__law_some_atom) (g := b__law_some_atom (tab n)) T.F__law_some_atom sc__law_some_atom fun cdv A outer s H E hr =>
    (t_cons (t_if (d_tcmp (o_eq hr.units) (d_call O.o__law_draw hr rfl T.m__law_draw T.F__law_draw.kp T.b__law_draw (fun σ => passAt (takes_of rfl rfl rfl rfl) σ) (d_aC (d_v 0) (d_aC d_int d_aN))) d_int) (t_one (t_ret (d_call O.o__law_any_atom hr rfl T.m__law_any_atom T.F__law_any_atom.kp T.b__law_any_atom (fun σ => passAt (takes_of rfl rfl rfl rfl) σ) (d_aC (d_v 0) d_aN)))) t_nil)
    (t_one (t_ret (d_ix (d_v 1) (d_call O.o__law_draw hr rfl T.m__law_draw T.F__law_draw.kp T.b__law_draw (fun σ => passAt (takes_of rfl rfl rfl rfl) σ) (d_aC (d_v 0) (d_aC (d_callB c_len rfl T.n_len boot_len_ (d_aC (d_v 1) d_aN)) d_aN)))))))
set_option maxHeartbeats 4000000 in
theorem ok__law_kind (T : Txt w K mg fd cv cu cl tb) (O : Oks P w K mg base fd n) : FnOk P w K mg base (L2.CX P w) (n + 1) (Fa.a ._law_kind) (fd ._law_kind) ["pool", "names", "size"] (rdF ⟨K, mg, W0⟩ (tab (n + 1) ._law_kind)) :=
  fn_ok (N := nl__law_kind) (g := b__law_kind (tab n)) T.F__law_kind sc__law_kind fun cdv A outer s H E hr =>
    (t_cons (t_if (d_tcmp o_le (d_v 2) d_int) (t_one (t_ret (d_call O.o__law_some_atom hr rfl T.m__law_some_atom T.F__law_some_atom.kp T.b__law_some_atom (fun σ => passAt (takes_of rfl rfl rfl rfl) σ) (d_aC (d_v 0) (d_aC (d_v 1) d_aN))))) t_nil)
    (t_cons (t_set (j := 3) sc__law_kind.nd (d_op o_add d_int (d_call O.o__law_draw hr rfl T.m__law_draw T.F__law_draw.kp T.b__law_draw (fun σ => passAt (takes_of rfl rfl rfl rfl) σ) (d_aC (d_v 0) (d_aC (d_op o_sub (d_v 2) d_int) d_aN)))))
    (t_cons (t_set (j := 4) sc__law_kind.nd (d_ix d_str (d_call O.o__law_draw hr rfl T.m__law_draw T.F__law_draw.kp T.b__law_draw (fun σ => passAt (takes_of rfl rfl rfl rfl) σ) (d_aC (d_v 0) (d_aC d_int d_aN)))))
    (t_cons (t_set (j := 5) sc__law_kind.nd (d_call O.o__law_kind hr rfl T.m__law_kind T.F__law_kind.kp T.b__law_kind (fun σ => passAt (takes_of rfl rfl rfl rfl) σ) (d_aC (d_v 0) (d_aC (d_v 1) (d_aC (d_v 3) d_aN)))))
    (t_one (t_ret (d_tup (d_aC (d_v 4) (d_aC (d_v 5) (d_aC (d_call O.o__law_kind hr rfl T.m__law_kind T.F__law_kind.kp T.b__law_kind (fun σ => passAt (takes_of rfl rfl rfl rfl) σ) (d_aC (d_v 0) (d_aC (d_v 1) (d_aC (d_op o_sub (d_v 2) (d_v 3)) d_aN)))) d_aN))))))))))
set_option maxHeartbeats 4000000 in
theorem ok__law_size (T : Txt w K mg fd cv cu cl tb) (O : Oks P w K mg base fd n) : FnOk P w K mg base (L2.CX P w) (n + 1) (Fa.a ._law_size) (fd ._law_size) ["kind"] (rdF ⟨K, mg, W0⟩ (tab (n + 1) ._law_size)) :=
  fn_ok (N := nl__law_size) (g := b__law_size (tab n)) T.F__law_size sc__law_size fun cdv A outer s H E hr =>
    (t_cons (t_if (d_tv (d_callB (c_isi .str (by decide)) rfl T.n_isinstance boot_isinstance_ (d_aC (d_v 0) (d_aC (d_blt rfl T.n_str boot_str_ rfl) d_aN)))) (t_one (t_ret d_int)) t_nil)
    (t_one (t_ret (d_op o_add (d_call O.o__law_size hr rfl T.m__law_size T.F__law_size.kp T.b__law_size (fun σ => passAt (takes_of rfl rfl rfl rfl) σ) (d_aC (d_ix (d_v 0) d_int) d_aN)) (d_call O.o__law_size hr rfl T.m__law_size T.F__law_size.kp T.b__law_size (fun σ => passAt (takes_of rfl rfl rfl rfl) σ) (d_aC (d_ix (d_v 0) d_int) d_aN))))))
set_option maxHeartbeats 4000000 in
theorem ok__law_is_integer (T : Txt w K mg fd cv cu cl tb) (O : Oks P w K mg base fd n) : FnOk P w K mg base (L2.CX P w) (n + 1) (Fa.a ._law_is_integer) (fd ._law_is_integer) ["told"] (rdF ⟨K, mg, W0⟩ (tab (n + 1) ._law_is_integer)) :=
  fn_ok (N := nl__law_is_integer) (g := b__law_is_integer (tab n)) T.F__law_is_integer sc__law_is_integer fun cdv A outer s H E hr =>
    (t_one (t_ret (d_vand (d_callB (c_isi .int (by decide)) rfl T.n_isinstance boot_isinstance_ (d_aC (d_v 0) (d_aC (d_blt rfl T.n_int boot_int_ rfl) d_aN))) (d_one (d_vnot (d_callB (c_isi .bl (by decide)) rfl T.n_isinstance boot_isinstance_ (d_aC (d_v 0) (d_aC (d_blt rfl T.n_bool boot_bool_ rfl) d_aN))))))))
set_option maxHeartbeats 4000000 in
theorem ok__law_is_atom (T : Txt w K mg fd cv cu cl tb) (O : Oks P w K mg base fd n) : FnOk P w K mg base (L2.CX P w) (n + 1) (Fa.a ._law_is_atom) (fd ._law_is_atom) ["told"] (rdF ⟨K, mg, W0⟩ (tab (n + 1) ._law_is_atom)) :=
  fn_ok (N := nl__law_is_atom) (g := b__law_is_atom (tab n)) T.F__law_is_atom sc__law_is_atom fun cdv A outer s H E hr =>
    (t_cons (t_if (PW.pt (d_or (d_not (d_tv (d_callB (c_isi .str (by decide)) rfl T.n_isinstance boot_isinstance_ (d_aC (d_v 0) (d_aC (d_blt rfl T.n_str boot_str_ rfl) d_aN))))) (d_or1 (d_tcmp (o_eq hr.units) (d_v 0) d_str)))) (t_one (t_ret d_bl)) t_nil)
    (t_cons (t_set (j := 1) sc__law_is_atom.nd (d_ix (d_m (T := .str) PySem.F.plainAttrs_str PySem.F.slot_str_split PySem.F.type_str_split (by decide) m_split (d_v 0) (d_aC d_str d_aN)) d_int))
    (t_cons (t_if (PW.pt (d_or (d_tcmp (o_eq hr.units) (d_callB c_len rfl T.n_len boot_len_ (d_aC (d_v 1) d_aN)) d_int) (d_or (d_tcmp o_gt (d_callB c_len rfl T.n_len boot_len_ (d_aC (d_v 1) d_aN)) d_int) (d_or1 (d_tcmp (o_nin (r65 hr)) (d_ix (d_v 1) d_int) d_str))))) (t_one (t_ret d_bl)) t_nil)
    (t_cons (t_if (d_tcmp o_gt (d_callB c_len rfl T.n_len boot_len_ (d_aC (d_lc (own := [("c", 3)]) (g := (.one 3)) rfl sc__law_is_atom.nd (w_any (d_v 1)) (blkOk_by (own := [("c", 3)]) (N := nl__law_is_atom) (sc := defScope st__law_is_atom) (by decide +kernel)) (by decide) (fun _ _ _ _ _ => (v_one sc__law_is_atom.nd)) (fun _ _ _ _ _ => (u_one (d_tcmp (o_nin (r65 hr)) (d_v 3) d_str))) (fun _ _ _ _ _ => (d_v 3))) d_aN)) d_int) (t_one (t_ret d_bl)) t_nil)
    (t_cons (t_if (d_tcmp (o_eq hr.units) (d_v 0) (d_v 1)) (t_one (t_ret d_bl)) t_nil)
    (t_cons (t_set (j := 2) sc__law_is_atom.nd (d_sl (d_v 0) (d_oI (d_op o_add (d_callB c_len rfl T.n_len boot_len_ (d_aC (d_v 1) d_aN)) d_int)) d_oN))
    (t_cons (t_if (PW.pt (d_or (d_tcmp (o_ne hr.units) (d_m (T := .str) PySem.F.plainAttrs_str PySem.F.slot_str_count PySem.F.type_str_count (by decide) m_countS (d_v 0) (d_aC d_str d_aN)) d_int) (d_or (d_tcmp (o_eq hr.units) (d_callB c_len rfl T.n_len boot_len_ (d_aC (d_v 2) d_aN)) d_int) (d_or (d_tcmp o_gt (d_callB c_len rfl T.n_len boot_len_ (d_aC (d_v 2) d_aN)) d_int) (d_or1 (d_tcmp (o_eq hr.units) (d_ix (d_v 2) d_int) d_str)))))) (t_one (t_ret d_bl)) t_nil)
    (t_one (t_ret (d_cmp (o_eq hr.units) (d_callB c_len rfl T.n_len boot_len_ (d_aC (d_lc (own := [("c", 3)]) (g := (.one 3)) rfl sc__law_is_atom.nd (w_any (d_v 2)) (blkOk_by (own := [("c", 3)]) (N := nl__law_is_atom) (sc := defScope st__law_is_atom) (by decide +kernel)) (by decide) (fun _ _ _ _ _ => (v_one sc__law_is_atom.nd)) (fun _ _ _ _ _ => (u_one (d_tcmp (o_nin (r65 hr)) (d_v 3) d_str))) (fun _ _ _ _ _ => (d_v 3))) d_aN)) d_int))))))))))
set_option maxHeartbeats 4000000 in
theorem ok__law_is_kind (T : Txt w K mg fd cv cu cl tb) (O : Oks P w K mg base fd n) : FnOk P w K mg base (L2.CX P w) (n + 1) (Fa.a ._law_is_kind) (fd ._law_is_kind) ["told", "depth"] (rdF ⟨K, mg, W0⟩ (tab (n + 1) ._law_is_kind)) :=
  fn_ok (N := nl__law_is_kind) (g := b__law_is_kind (tab n)) T.F__law_is_kind sc__law_is_kind fun cdv A outer s H E hr =>
    (t_cons (t_if (d_tv (d_callB (c_isi .str (by decide)) rfl T.n_isinstance boot_isinstance_ (d_aC (d_v 0) (d_aC (d_blt rfl T.n_str boot_str_ rfl) d_aN)))) (t_one (t_ret (d_call O.o__law_is_atom hr rfl T.m__law_is_atom T.F__law_is_atom.kp T.b__law_is_atom (fun σ => passAt (takes_of rfl rfl rfl rfl) σ) (d_aC (d_v 0) d_aN)))) t_nil)
    (t_cons (t_if (PW.pt (d_or (d_not (d_tv (d_callB (c_isi .tup (by decide)) rfl T.n_isinstance boot_isinstance_ (d_aC (d_v 0) (d_aC (d_blt rfl T.n_tuple boot_tuple_ rfl) d_aN))))) (d_or (d_tcmp (o_ne hr.units) (d_callB c_len rfl T.n_len boot_len_ (d_aC (d_v 0) d_aN)) d_int) (d_or1 (d_tcmp o_le (d_v 1) d_int))))) (t_one (t_ret d_bl)) t_nil)
    (t_cons (t_if (PW.pt (d_or (d_not (d_tv (d_callB (c_isi .str (by decide)) rfl T.n_isinstance boot_isinstance_ (d_aC (d_ix (d_v 0) d_int) (d_aC (d_blt rfl T.n_str boot_str_ rfl) d_aN))))) (d_or1 (d_tcmp (o_nin (r65 hr)) (d_ix (d_v 0) d_int) (d_lst (d_aC d_str (d_aC d_str (d_aC d_str d_aN)))))))) (t_one (t_ret d_bl)) t_nil)
    (t_one (t_ret (d_vand (d_call O.o__law_is_kind hr rfl T.m__law_is_kind T.F__law_is_kind.kp T.b__law_is_kind (fun σ => passAt (takes_of rfl rfl rfl rfl) σ) (d_aC (d_ix (d_v 0) d_int) (d_aC (d_op o_sub (d_v 1) d_int) d_aN))) (d_one (d_call O.o__law_is_kind hr rfl T.m__law_is_kind T.F__law_is_kind.kp T.b__law_is_kind (fun σ => passAt (takes_of rfl rfl rfl rfl) σ) (d_aC (d_ix (d_v 0) d_int) (d_aC (d_op o_sub (d_v 1) d_int) d_aN))))))))))
set_option maxHeartbeats 4000000 in
theorem ok__law_line (T : Txt w K mg fd cv cu cl tb) (O : Oks P w K mg base fd n) : FnOk P w K mg base (L2.CX P w) (n + 1) (Fa.a ._law_line) (fd ._law_line) ["rule", "at", "lines"] (rdF ⟨K, mg, W0⟩ (tab (n + 1) ._law_line)) :=
  fn_ok (N := nl__law_line) (g := b__law_line (tab n)) T.F__law_line sc__law_line fun cdv A outer s H E hr =>
    (t_cons (t_set (j := 3) sc__law_line.nd (d_cmp (o_in (r65 hr)) (d_v 0) (d_lst (d_aC d_str (d_aC d_str (d_aC d_str (d_aC d_str d_aN)))))))
    (t_cons (t_if (d_tcmp (o_ne hr.units) (d_callB c_len rfl T.n_len boot_len_ (d_aC (d_v 2) d_aN)) (d_op o_add d_int (d_callT c_int rfl T.n_int boot_int_ (d_aC (d_v 3) d_aN)))) (t_one (t_ret d_non)) t_nil)
    (t_cons (t_asg (d_ix (d_v 2) d_int) (g_seq rfl (g_cons (g_nm (j := 5) sc__law_line.nd) (g_cons (g_nm (j := 6) sc__law_line.nd) g_nil))))
    (t_cons (t_if (PW.pt (d_and (d_tcmp (o_eq hr.units) (d_v 0) d_str) (d_and (d_tcmp (o_eq hr.units) (d_v 1) d_int) (d_and1 (d_tcmp o_gt (d_callB c_len rfl T.n_len boot_len_ (d_aC (d_v 5) d_aN)) d_int))))) (t_one (t_ret (d_tup (d_aC (d_sl (d_v 5) d_oN (d_oI (d_neg d_int))) (d_aC (d_tup (d_aC d_str (d_aC (d_v 6) (d_aC (d_ix (d_v 5) (d_neg d_int)) d_aN)))) (d_aC d_int d_aN)))))) t_nil)
    (t_cons (t_if (PW.pt (d_and (d_tcmp (o_eq hr.units) (d_v 0) d_str) (d_and (d_tcmp (o_eq hr.units) (d_v 1) d_int) (d_and1 (d_tcmp o_gt (d_callB c_len rfl T.n_len boot_len_ (d_aC (d_v 5) d_aN)) d_int))))) (t_one (t_ret (d_tup (d_aC (d_sl (d_v 5) (d_oI d_int) d_oN) (d_aC (d_tup (d_aC d_str (d_aC (d_ix (d_v 5) d_int) (d_aC (d_v 6) d_aN)))) (d_aC d_int d_aN)))))) t_nil)
    (t_cons (t_if (PW.pt (d_and (d_tcmp (o_eq hr.units) (d_v 0) d_str) (d_and1 (d_tch o_le o_lt d_int (d_v 1) (d_op o_sub (d_callB c_len rfl T.n_len boot_len_ (d_aC (d_v 5) d_aN)) d_int))))) (t_one (t_ret (d_tup (d_aC (d_op o_add (d_op o_add (d_sl (d_v 5) d_oN (d_oI (d_v 1))) (d_tup (d_aC (d_tup (d_aC d_str (d_aC (d_ix (d_v 5) (d_v 1)) (d_aC (d_ix (d_v 5) (d_op o_add (d_v 1) d_int)) d_aN)))) d_aN))) (d_sl (d_v 5) (d_oI (d_op o_add (d_v 1) d_int)) d_oN)) (d_aC (d_v 6) (d_aC d_int d_aN)))))) t_nil)
    (t_cons (t_if (d_not (d_tv (d_v 3))) (t_one (t_ret d_non)) t_nil)
    (t_cons (t_asg (d_ix (d_v 2) d_int) (g_seq rfl (g_cons (g_nm (j := 7) sc__law_line.nd) (g_cons (g_nm (j := 8) sc__law_line.nd) g_nil))))
    (t_cons (t_set (j := 4) sc__law_line.nd (d_op o_sub (d_v 1) (d_callB c_len rfl T.n_len boot_len_ (d_aC (d_v 5) d_aN))))
    (t_cons (t_if (PW.pt (d_and (d_tcmp (o_eq hr.units) (d_v 0) d_str) (d_and1 (d_tcmp (o_eq hr.units) (d_v 1) (d_callB c_len rfl T.n_len boot_len_ (d_aC (d_v 5) d_aN)))))) (t_one (t_ret (d_tup (d_aC (d_op o_add (d_v 5) (d_v 7)) (d_aC (d_tup (d_aC d_str (d_aC (d_v 6) (d_aC (d_v 8) d_aN)))) (d_aC d_int d_aN)))))) t_nil)
    (t_cons (t_if (PW.pt (d_and (d_tcmp (o_eq hr.units) (d_v 0) d_str) (d_and1 (d_tch o_le o_lt d_int (d_v 1) (d_callB c_len rfl T.n_len boot_len_ (d_aC (d_v 7) d_aN)))))) (t_one (t_ret (d_tup (d_aC (d_op o_add (d_op o_add (d_op o_add (d_sl (d_v 7) d_oN (d_oI (d_v 1))) (d_tup (d_aC (d_tup (d_aC d_str (d_aC (d_ix (d_v 7) (d_v 1)) (d_aC (d_v 6) d_aN)))) d_aN))) (d_v 5)) (d_sl (d_v 7) (d_oI (d_op o_add (d_v 1) d_int)) d_oN)) (d_aC (d_v 8) (d_aC (d_callB c_len rfl T.n_len boot_len_ (d_aC (d_v 5) d_aN)) d_aN)))))) t_nil)
    (t_cons (t_if (PW.pt (d_and (d_tcmp (o_eq hr.units) (d_v 0) d_str) (d_and1 (d_tch o_le o_lt d_int (d_v 4) (d_callB c_len rfl T.n_len boot_len_ (d_aC (d_v 7) d_aN)))))) (t_one (t_ret (d_tup (d_aC (d_op o_add (d_op o_add (d_op o_add (d_sl (d_v 7) d_oN (d_oI (d_v 4))) (d_v 5)) (d_tup (d_aC (d_tup (d_aC d_str (d_aC (d_v 6) (d_aC (d_ix (d_v 7) (d_v 4)) d_aN)))) d_aN))) (d_sl (d_v 7) (d_oI (d_op o_add (d_v 4) d_int)) d_oN)) (d_aC (d_v 8) (d_aC (d_callB c_len rfl T.n_len boot_len_ (d_aC (d_v 5) d_aN)) d_aN)))))) t_nil)
    (t_cons (t_if (PW.pt (d_and (d_tcmp (o_eq hr.units) (d_v 0) d_str) (d_and (d_tch o_le o_lt d_int (d_v 1) (d_callB c_len rfl T.n_len boot_len_ (d_aC (d_v 7) d_aN))) (d_and1 (d_tcmp (o_eq hr.units) (d_ix (d_v 7) (d_v 1)) (d_v 6)))))) (t_one (t_ret (d_tup (d_aC (d_op o_add (d_op o_add (d_sl (d_v 7) d_oN (d_oI (d_v 1))) (d_v 5)) (d_sl (d_v 7) (d_oI (d_op o_add (d_v 1) d_int)) d_oN)) (d_aC (d_v 8) (d_aC (d_callB c_len rfl T.n_len boot_len_ (d_aC (d_v 5) d_aN)) d_aN)))))) t_nil)
    (t_one (t_ret d_non)))))))))))))))
set_option maxHeartbeats 4000000 in
theorem ok__law_axiom (T : Txt w K mg fd cv cu cl tb) (O : Oks P w K mg base fd n) : FnOk P w K mg base (L2.CX P w) (n + 1) (Fa.a ._law_axiom) (fd ._law_axiom) ["atom"] (rdF ⟨K, mg, W0⟩ (tab (n + 1) ._law_axiom)) :=
  fn_ok (N := nl__law_axiom) (g := b__law_axiom (tab n)) T.F__law_axiom sc__law_axiom fun cdv A outer s H E hr =>
    (t_one (t_ret (d_tup (d_aC d_str (d_aC (d_tup (d_aC (d_v 0) d_aN)) (d_aC (d_v 0) (d_aC d_int (d_aC d_int (d_aC (d_tup d_aN) d_aN)))))))))
set_option maxHeartbeats 4000000 in
theorem ok__law_make (T : Txt w K mg fd cv cu cl tb) (O : Oks P w K mg base fd n) : FnOk P w K mg base (L2.CX P w) (n + 1) (Fa.a ._law_make) (fd ._law_make) ["rule", "at", "parts"] (rdF ⟨K, mg, W0⟩ (tab (n + 1) ._law_make)) :=
  fn_ok (N := nl__law_make) (g := b__law_make (tab n)) T.F__law_make sc__law_make fun cdv A outer s H E hr =>
    (t_cons (t_set (j := 3) sc__law_make.nd (d_call O.o__law_line hr rfl T.m__law_line T.F__law_line.kp T.b__law_line (fun σ => passAt (takes_of rfl rfl rfl rfl) σ) (d_aC (d_v 0) (d_aC (d_v 1) (d_aC (d_lc (own := [("part", 4)]) (g := (.one 4)) rfl sc__law_make.nd (w_any (d_v 2)) (blkOk_by (own := [("part", 4)]) (N := nl__law_make) (sc := defScope st__law_make) (by decide +kernel)) (by decide) (fun _ _ _ _ _ => (v_one sc__law_make.nd)) (fun _ _ _ _ _ => u_nil) (fun _ _ _ _ _ => (d_tup (d_aC (d_ix (d_v 4) d_int) (d_aC (d_ix (d_v 4) d_int) d_aN))))) d_aN)))))
    (t_cons (t_if (d_tcmp o_is (d_v 3) d_non) (t_one (t_ret d_non)) t_nil)
    (t_one (t_ret (d_tup (d_aC (d_v 0) (d_aC (d_ix (d_v 3) d_int) (d_aC (d_ix (d_v 3) d_int) (d_aC (d_v 1) (d_aC (d_ix (d_v 3) d_int) (d_aC (d_callT c_tuple rfl T.n_tuple boot_tuple_ (d_aC (d_v 2) d_aN)) d_aN)))))))))))
set_option maxHeartbeats 4000000 in
theorem ok__law_identity (T : Txt w K mg fd cv cu cl tb) (O : Oks P w K mg base fd n) : FnOk P w K mg base (L2.CX P w) (n + 1) (Fa.a ._law_identity) (fd ._law_identity) ["kind"] (rdF ⟨K, mg, W0⟩ (tab (n + 1) ._law_identity)) :=
  fn_ok (N := nl__law_identity) (g := b__law_identity (tab n)) T.F__law_identity sc__law_identity fun cdv A outer s H E hr =>
    (t_cons (t_if (d_tv (d_callB (c_isi .str (by decide)) rfl T.n_isinstance boot_isinstance_ (d_aC (d_v 0) (d_aC (d_blt rfl T.n_str boot_str_ rfl) d_aN)))) (t_one (t_ret (d_call O.o__law_axiom hr rfl T.m__law_axiom T.F__law_axiom.kp T.b__law_axiom (fun σ => passAt (takes_of rfl rfl rfl rfl) σ) (d_aC (d_v 0) d_aN)))) t_nil)
    (t_cons (t_set (j := 1) sc__law_identity.nd (d_call O.o__law_identity hr rfl T.m__law_identity T.F__law_identity.kp T.b__law_identity (fun σ => passAt (takes_of rfl rfl rfl rfl) σ) (d_aC (d_ix (d_v 0) d_int) d_aN)))
    (t_cons (t_set (j := 2) sc__law_identity.nd (d_call O.o__law_identity hr rfl T.m__law_identity T.F__law_identity.kp T.b__law_identity (fun σ => passAt (takes_of rfl rfl rfl rfl) σ) (d_aC (d_ix (d_v 0) d_int) d_aN)))
    (t_cons (t_if (d_tcmp (o_eq hr.units) (d_ix (d_v 0) d_int) d_str) (t_one (t_ret (d_call O.o__law_make hr rfl T.m__law_make T.F__law_make.kp T.b__law_make (fun σ => passAt (takes_of rfl rfl rfl rfl) σ) (d_aC d_str (d_aC d_int (d_aC (d_lst (d_aC (d_call O.o__law_make hr rfl T.m__law_make T.F__law_make.kp T.b__law_make (fun σ => passAt (takes_of rfl rfl rfl rfl) σ) (d_aC d_str (d_aC d_int (d_aC (d_lst (d_aC (d_v 2) (d_aC (d_v 1) d_aN))) d_aN)))) d_aN)) d_aN)))))) t_nil)
    (t_cons (t_if (d_tcmp (o_eq hr.units) (d_ix (d_v 0) d_int) d_str) (t_one (t_ret (d_call O.o__law_make hr rfl T.m__law_make T.F__law_make.kp T.b__law_make (fun σ => passAt (takes_of rfl rfl rfl rfl) σ) (d_aC d_str (d_aC d_int (d_aC (d_lst (d_aC (d_call O.o__law_make hr rfl T.m__law_make T.F__law_make.kp T.b__law_make (fun σ => passAt (takes_of rfl rfl rfl rfl) σ) (d_aC d_str (d_aC d_int (d_aC (d_lst (d_aC (d_v 1) (d_aC (d_v 2) d_aN))) d_aN)))) d_aN)) d_aN)))))) t_nil)
    (t_one (t_ret (d_call O.o__law_make hr rfl T.m__law_make T.F__law_make.kp T.b__law_make (fun σ => passAt (takes_of rfl rfl rfl rfl) σ) (d_aC d_str (d_aC d_int (d_aC (d_lst (d_aC (d_call O.o__law_make hr rfl T.m__law_make T.F__law_make.kp T.b__law_make (fun σ => passAt (takes_of rfl rfl rfl rfl) σ) (d_aC d_str (d_aC d_int (d_aC (d_lst (d_aC (d_v 1) (d_aC (d_v 2) d_aN))) d_aN)))) d_aN)) d_aN)))))))))))
set_option maxHeartbeats 4000000 in
theorem ok__law_shape (T : Txt w K mg fd cv cu cl tb) (O : Oks P w K mg base fd n) : FnOk P w K mg base (L2.CX P w) (n + 1) (Fa.a ._law_shape) (fd ._law_shape) ["step"] (rdF ⟨K, mg, W0⟩ (tab (n + 1) ._law_shape)) :=
  fn_ok (N := nl__law_shape) (g := b__law_shape (tab n)) T.F__law_shape sc__law_shape fun cdv A outer s H E hr =>
    (t_cons (t_if (PW.pt (d_or (d_not (d_tv (d_callB (c_isi .tup (by decide)) rfl T.n_isinstance boot_isinstance_ (d_aC (d_v 0) (d_aC (d_blt rfl T.n_tuple boot_tuple_ rfl) d_aN))))) (d_or (d_tcmp (o_ne hr.units) (d_callB c_len rfl T.n_len boot_len_ (d_aC (d_v 0) d_aN)) d_int) (d_or1 (d_not (d_tv (d_callB (c_isi .str (by decide)) rfl T.n_isinstance boot_isinstance_ (d_aC (d_ix (d_v 0) d_int) (d_aC (d_blt rfl T.n_str boot_str_ rfl) d_aN))))))))) (t_one (t_ret d_bl)) t_nil)
    (t_cons (t_if (PW.pt (d_or (d_not (d_tv (d_callB (c_isi .tup (by decide)) rfl T.n_isinstance boot_isinstance_ (d_aC (d_ix (d_v 0) d_int) (d_aC (d_blt rfl T.n_tuple boot_tuple_ rfl) d_aN))))) (d_or (d_not (d_tv (d_callB (c_isi .tup (by decide)) rfl T.n_isinstance boot_isinstance_ (d_aC (d_ix (d_v 0) d_int) (d_aC (d_blt rfl T.n_tuple boot_tuple_ rfl) d_aN))))) (d_or1 (d_tcmp (o_eq hr.units) (d_callB c_len rfl T.n_len boot_len_ (d_aC (d_ix (d_v 0) d_int) d_aN)) d_int))))) (t_one (t_ret d_bl)) t_nil)
    (t_cons (t_for (passes_of rfl) rfl (w_any (d_ix (d_v 0) d_int)) (g_nm (j := 1) sc__law_shape.nd) (t_one (t_if (d_not (d_tv (d_call O.o__law_is_kind hr rfl T.m__law_is_kind T.F__law_is_kind.kp T.b__law_is_kind (fun σ => passAt (takes_of rfl rfl rfl rfl) σ) (d_aC (d_v 1) (d_aC d_int d_aN))))) (t_one (t_ret d_bl)) t_nil)))
    (t_one (t_ret (d_vand (d_call O.o__law_is_kind hr rfl T.m__law_is_kind T.F__law_is_kind.kp T.b__law_is_kind (fun σ => passAt (takes_of rfl rfl rfl rfl) σ) (d_aC (d_ix (d_v 0) d_int) (d_aC d_int d_aN))) (d_vand (d_call O.o__law_is_integer hr rfl T.m__law_is_integer T.F__law_is_integer.kp T.b__law_is_integer (fun σ => passAt (takes_of rfl rfl rfl rfl) σ) (d_aC (d_ix (d_v 0) d_int) d_aN)) (d_one (d_call O.o__law_is_integer hr rfl T.m__law_is_integer T.F__law_is_integer.kp T.b__law_is_integer (fun σ => passAt (takes_of rfl rfl rfl rfl) σ) (d_aC (d_ix (d_v 0) d_int) d_aN))))))))))
set_option maxHeartbeats 4000000 in
theorem ok__law_follows (T : Txt w K mg fd cv cu cl tb) (O : Oks P w K mg base fd n) : FnOk P w K mg base (L2.CX P w) (n + 1) (Fa.a ._law_follows) (fd ._law_follows) ["step"] (rdF ⟨K, mg, W0⟩ (tab (n + 1) ._law_follows)) :=
  fn_ok (N := nl__law_follows) (g := b__law_follows (tab n)) T.F__law_follows sc__law_follows fun cdv A outer s H E hr =>
    (t_cons (t_if (d_tcmp (o_eq hr.units) (d_ix (d_v 0) d_int) d_str) (t_one (t_ret (d_vand (d_callB (c_isi .str (by decide)) rfl T.n_isinstance boot_isinstance_ (d_aC (d_ix (d_v 0) d_int) (d_aC (d_blt rfl T.n_str boot_str_ rfl) d_aN))) (d_one (d_cmp (o_eq hr.units) (d_sl (d_v 0) (d_oI d_int) d_oN) (d_tup (d_aC (d_tup (d_aC (d_ix (d_v 0) d_int) d_aN)) (d_aC (d_ix (d_v 0) d_int) (d_aC d_int (d_aC d_int (d_aC (d_tup d_aN) d_aN))))))))))) t_nil)
    (t_cons (t_for (passes_of rfl) rfl (w_any (d_ix (d_v 0) d_int)) (g_nm (j := 1) sc__law_follows.nd) (t_one (t_if (d_not (d_tv (d_call O.o__law_shape hr rfl T.m__law_shape T.F__law_shape.kp T.b__law_shape (fun σ => passAt (takes_of rfl rfl rfl rfl) σ) (d_aC (d_v 1) d_aN)))) (t_one (t_ret d_bl)) t_nil)))
    (t_cons (t_set (j := 2) sc__law_follows.nd (d_call O.o__law_line hr rfl T.m__law_line T.F__law_line.kp T.b__law_line (fun σ => passAt (takes_of rfl rfl rfl rfl) σ) (d_aC (d_ix (d_v 0) d_int) (d_aC (d_ix (d_v 0) d_int) (d_aC (d_lc (own := [("part", 1)]) (g := (.one 1)) rfl sc__law_follows.nd (w_any (d_ix (d_v 0) d_int)) (blkOk_by (own := [("part", 1)]) (N := nl__law_follows) (sc := defScope st__law_follows) (by decide +kernel)) (by decide) (fun _ _ _ _ _ => (v_one sc__law_follows.nd)) (fun _ _ _ _ _ => u_nil) (fun _ _ _ _ _ => (d_tup (d_aC (d_ix (d_v 1) d_int) (d_aC (d_ix (d_v 1) d_int) d_aN))))) d_aN)))))
    (t_one (t_ret (d_vand (d_cmp (o_ne hr.units) (d_ix (d_v 0) d_int) d_str) (d_vand (d_cmp o_isn (d_v 2) d_non) (d_one (d_cmp (o_eq hr.units) (d_v 2) (d_tup (d_aC (d_ix (d_v 0) d_int) (d_aC (d_ix (d_v 0) d_int) (d_aC (d_ix (d_v 0) d_int) d_aN)))))))))))))
set_option maxHeartbeats 4000000 in
theorem ok__law_right (T : Txt w K mg fd cv cu cl tb) (O : Oks P w K mg base fd n) : FnOk P w K mg base (L2.CX P w) (n + 1) (Fa.a ._law_right) (fd ._law_right) ["paper"] (rdF ⟨K, mg, W0⟩ (tab (n + 1) ._law_right)) :=
  fn_ok (N := nl__law_right) (g := b__law_right (tab n)) T.F__law_right sc__law_right fun cdv A outer s H E hr =>
    (t_cons (t_set (j := 1) sc__law_right.nd (d_lst (d_aC (d_v 0) d_aN)))
    (t_cons (t_if (d_not (d_tv (d_call O.o__law_shape hr rfl T.m__law_shape T.F__law_shape.kp T.b__law_shape (fun σ => passAt (takes_of rfl rfl rfl rfl) σ) (d_aC (d_v 0) d_aN)))) (t_one (t_ret d_bl)) t_nil)
    (t_cons (t_for (passes_of rfl) rfl (w_rng1 rfl T.n_range d_int) (g_nm (j := 2) sc__law_right.nd) (t_cons (t_if (d_tcmp (o_eq hr.units) (d_callB c_len rfl T.n_len boot_len_ (d_aC (d_v 1) d_aN)) d_int) (t_one (t_ret d_bl)) t_nil)
    (t_cons (t_set (j := 3) sc__law_right.nd (d_m0 (T := .lst) PySem.F.plainAttrs_list PySem.F.slot_list_pop PySem.F.type_list_pop (by decide) m_pop (d_v 1)))
    (t_cons (t_if (d_not (d_tv (d_call O.o__law_follows hr rfl T.m__law_follows T.F__law_follows.kp T.b__law_follows (fun σ => passAt (takes_of rfl rfl rfl rfl) σ) (d_aC (d_v 3) d_aN)))) (t_one (t_ret d_bl)) t_nil)
    (t_one (t_set (j := 1) sc__law_right.nd (d_op o_add (d_v 1) (d_callT c_list rfl T.n_list boot_list_ (d_aC (d_ix (d_v 3) d_int) d_aN)))))))))
    (t_one (t_ret d_bl)))))
set_option maxHeartbeats 4000000 in
theorem ok__law_derives (T : Txt w K mg fd cv cu cl tb) (O : Oks P w K mg base fd n) : FnOk P w K mg base (L2.CX P w) (n + 1) (Fa.a ._law_derives) (fd ._law_derives) ["paper", "premises", "goal"] (rdF ⟨K, mg, W0⟩ (tab (n + 1) ._law_derives)) :=
  fn_ok (N := nl__law_derives) (g := b__law_derives (tab n)) T.F__law_derives sc__law_derives fun cdv A outer s H E hr =>
    (t_one (t_ret (d_vand (d_call O.o__law_right hr rfl T.m__law_right T.F__law_right.kp T.b__law_right (fun σ => passAt (takes_of rfl rfl rfl rfl) σ) (d_aC (d_v 0) d_aN)) (d_vand (d_cmp (o_eq hr.units) (d_ix (d_v 0) d_int) (d_v 1)) (d_one (d_cmp (o_eq hr.units) (d_ix (d_v 0) d_int) (d_v 2)))))))
set_option maxHeartbeats 4000000 in
theorem ok__law_steps (T : Txt w K mg fd cv cu cl tb) (O : Oks P w K mg base fd n) : FnOk P w K mg base (L2.CX P w) (n + 1) (Fa.a ._law_steps) (fd ._law_steps) ["paper"] (rdF ⟨K, mg, W0⟩ (tab (n + 1) ._law_steps)) :=
  fn_ok (N := nl__law_steps) (g := b__law_steps (tab n)) T.F__law_steps sc__law_steps fun cdv A outer s H E hr =>
    (t_cons (t_set (j := 1) sc__law_steps.nd (d_lst (d_aC (d_v 0) d_aN)))
    (t_cons (t_set (j := 2) sc__law_steps.nd (d_lst d_aN))
    (t_cons (t_for (passes_of rfl) rfl (w_rng1 rfl T.n_range d_int) (g_nm (j := 3) sc__law_steps.nd) (t_cons (t_if (d_tcmp (o_eq hr.units) (d_callB c_len rfl T.n_len boot_len_ (d_aC (d_v 1) d_aN)) d_int) (t_one (t_ret (d_v 2))) t_nil)
    (t_cons (t_set (j := 4) sc__law_steps.nd (d_m0 (T := .lst) PySem.F.plainAttrs_list PySem.F.slot_list_pop PySem.F.type_list_pop (by decide) m_pop (d_v 1)))
    (t_cons (t_expr (d_m (T := .lst) PySem.F.plainAttrs_list PySem.F.slot_list_append PySem.F.type_list_append (by decide) m_append (d_v 2) (d_aC (d_v 4) d_aN)))
    (t_one (t_set (j := 1) sc__law_steps.nd (d_op o_add (d_v 1) (d_revT rfl rfl T.n_list rfl T.n_reversed (d_ix (d_v 4) d_int)))))))))
    (t_one (t_ret (d_v 2))))))
set_option maxHeartbeats 4000000 in
theorem ok__law_count (T : Txt w K mg fd cv cu cl tb) (O : Oks P w K mg base fd n) : FnOk P w K mg base (L2.CX P w) (n + 1) (Fa.a ._law_count) (fd ._law_count) ["kind", "world"] (rdF ⟨K, mg, W0⟩ (tab (n + 1) ._law_count)) :=
  fn_ok (N := nl__law_count) (g := b__law_count (tab n)) T.F__law_count sc__law_count fun cdv A outer s H E hr =>
    (t_cons (t_if (d_tv (d_callB (c_isi .str (by decide)) rfl T.n_isinstance boot_isinstance_ (d_aC (d_v 0) (d_aC (d_blt rfl T.n_str boot_str_ rfl) d_aN)))) (t_one (t_ret (d_getD (u1 hr) (d_v 1) (d_ix (d_m (T := .str) PySem.F.plainAttrs_str PySem.F.slot_str_split PySem.F.type_str_split (by decide) m_split (d_v 0) (d_aC d_str d_aN)) d_int) d_int ⟨by rfl, by rfl, by rfl, by rfl⟩))) t_nil)
    (t_cons (t_set (j := 2) sc__law_count.nd (d_call O.o__law_count hr rfl T.m__law_count T.F__law_count.kp T.b__law_count (fun σ => passAt (takes_of rfl rfl rfl rfl) σ) (d_aC (d_ix (d_v 0) d_int) (d_aC (d_v 1) d_aN))))
    (t_cons (t_set (j := 3) sc__law_count.nd (d_call O.o__law_count hr rfl T.m__law_count T.F__law_count.kp T.b__law_count (fun σ => passAt (takes_of rfl rfl rfl rfl) σ) (d_aC (d_ix (d_v 0) d_int) (d_aC (d_v 1) d_aN))))
    (t_cons (t_if (d_tcmp (o_eq hr.units) (d_ix (d_v 0) d_int) d_str) (t_one (t_ret (d_callB (c_min2 rfl) rfl T.n_min boot_min_ (d_aC (d_op o_mul (d_v 2) (d_v 3)) (d_aC (d_op o_pow d_int d_int) d_aN))))) t_nil)
    (t_cons (t_if (d_tcmp (o_eq hr.units) (d_ix (d_v 0) d_int) d_str) (t_one (t_par (i := 2) (j := 3) rfl sc__law_count.nd (d_aC (d_v 3) (d_aC (d_v 2) d_aN)))) t_nil)
    (t_cons (t_set (j := 4) sc__law_count.nd d_int)
    (t_cons (t_for (passes_of rfl) rfl (w_rng1 rfl T.n_range (d_callB (c_min2 rfl) rfl T.n_min boot_min_ (d_aC (d_v 3) (d_aC d_int d_aN)))) (g_nm (j := 5) sc__law_count.nd) (t_one (t_set (j := 4) sc__law_count.nd (d_callB (c_min2 rfl) rfl T.n_min boot_min_ (d_aC (d_op o_mul (d_v 4) (d_v 2)) (d_aC (d_op o_pow d_int d_int) d_aN))))))
    (t_one (t_ret (d_v 4))))))))))
set_option maxHeartbeats 4000000 in
theorem ok__law_entry (T : Txt w K mg fd cv cu cl tb) (O : Oks P w K mg base fd n) : FnOk P w K mg base (L2.CX P w) (n + 1) (Fa.a ._law_entry) (fd ._law_entry) ["told", "base", "place"] (rdF ⟨K, mg, W0⟩ (tab (n + 1) ._law_entry)) :=
  fn_ok (N := nl__law_entry) (g := b__law_entry (tab n)) T.F__law_entry sc__law_entry fun cdv A outer s H E hr =>
    (t_cons (t_for (passes_of rfl) rfl (w_rng1 rfl T.n_range (d_v 2)) (g_nm (j := 3) sc__law_entry.nd) (t_one (t_set (j := 0) sc__law_entry.nd (d_op o_fdiv (d_v 0) (d_v 1)))))
    (t_one (t_ret (d_op o_mod (d_callT c_int rfl T.n_int boot_int_ (d_aC (d_v 0) d_aN)) (d_v 1)))))
set_option maxHeartbeats 4000000 in
theorem ok__law_table (T : Txt w K mg fd cv cu cl tb) (O : Oks P w K mg base fd n) : FnOk P w K mg base (L2.CX P w) (n + 1) (Fa.a ._law_table) (fd ._law_table) ["part", "world", "values", "kind"] (rdF ⟨K, mg, W0⟩ (tab (n + 1) ._law_table)) :=
  fn_ok (N := nl__law_table) (g := b__law_table (tab n)) T.F__law_table sc__law_table fun cdv A outer s H E hr =>
    (t_cons (t_par (i := 8) (j := 9) rfl sc__law_table.nd (d_aC (d_ix (d_v 3) d_int) (d_aC (d_ix (d_v 3) d_int) d_aN)))
    (t_cons (t_if (d_tcmp (o_eq hr.units) (d_ix (d_v 3) d_int) d_str) (t_one (t_par (i := 8) (j := 9) rfl sc__law_table.nd (d_aC (d_ix (d_v 3) d_int) (d_aC (d_ix (d_v 3) d_int) d_aN)))) t_nil)
    (t_cons (t_set (j := 4) sc__law_table.nd (d_call O.o__law_count hr rfl T.m__law_count T.F__law_count.kp T.b__law_count (fun σ => passAt (takes_of rfl rfl rfl rfl) σ) (d_aC (d_v 8) (d_aC (d_v 1) d_aN))))
    (t_cons (t_if (d_tcmp (o_eq hr.units) (d_v 4) d_int) (t_one (t_ret d_int)) t_nil)
    (t_cons (t_set (j := 5) sc__law_table.nd d_int)
    (t_cons (t_set (j := 6) sc__law_table.nd d_int)
    (t_cons (t_for (passes_of rfl) rfl (w_rng1 rfl T.n_range (d_call O.o__law_count hr rfl T.m__law_count T.F__law_count.kp T.b__law_count (fun σ => passAt (takes_of rfl rfl rfl rfl) σ) (d_aC (d_v 9) (d_aC (d_v 1) d_aN)))) (g_nm (j := 7) sc__law_table.nd) (t_cons (t_set (j := 10) sc__law_table.nd (d_op o_add (d_v 2) (d_tup (d_aC (d_v 7) d_aN))))
    (t_cons (t_if (d_tcmp (o_eq hr.units) (d_ix (d_v 3) d_int) d_str) (t_one (t_set (j := 10) sc__law_table.nd (d_op o_add (d_tup (d_aC (d_v 7) d_aN)) (d_v 2)))) t_nil)
    (t_cons (t_set (j := 5) sc__law_table.nd (d_op o_add (d_v 5) (d_op o_mul (d_v 6) (d_call O.o__law_value hr rfl T.m__law_value T.F__law_value.kp T.b__law_value (fun σ => passAt (takes_of rfl rfl rfl rfl) σ) (d_aC (d_v 0) (d_aC (d_v 1) (d_aC (d_v 10) d_aN)))))))
    (t_one (t_set (j := 6) sc__law_table.nd (d_op o_mul (d_v 6) (d_v 4))))))))
    (t_one (t_ret (d_v 5))))))))))
set_option maxHeartbeats 4000000 in
theorem ok__law_left_value (T : Txt w K mg fd cv cu cl tb) (O : Oks P w K mg base fd n) : FnOk P w K mg base (L2.CX P w) (n + 1) (Fa.a ._law_left_value) (fd ._law_left_value) ["paper", "world", "values"] (rdF ⟨K, mg, W0⟩ (tab (n + 1) ._law_left_value)) :=
  fn_ok (N := nl__law_left_value) (g := b__law_left_value (tab n)) T.F__law_left_value sc__law_left_value fun cdv A outer s H E hr =>
    (t_cons (t_asg (d_v 0) (g_seq rfl (g_cons (g_nm (j := 7) sc__law_left_value.nd) (g_cons (g_nm (j := 8) sc__law_left_value.nd) (g_cons (g_nm (j := 9) sc__law_left_value.nd) (g_cons (g_nm (j := 10) sc__law_left_value.nd) (g_cons (g_nm (j := 11) sc__law_left_value.nd) (g_cons (g_nm (j := 12) sc__law_left_value.nd) g_nil))))))))
    (t_cons (t_if (d_tcmp (o_eq hr.units) (d_v 7) d_str) (t_cons (t_set (j := 13) sc__law_left_value.nd (d_call O.o__law_count hr rfl T.m__law_count T.F__law_count.kp T.b__law_count (fun σ => passAt (takes_of rfl rfl rfl rfl) σ) (d_aC (d_ix (d_ix (d_v 8) (d_v 10)) d_int) (d_aC (d_v 1) d_aN))))
    (t_cons (t_set (j := 14) sc__law_left_value.nd (d_tup (d_aC (d_op o_fdiv (d_ix (d_v 2) (d_v 10)) (d_v 13)) (d_aC (d_op o_mod (d_callT c_int rfl T.n_int boot_int_ (d_aC (d_ix (d_v 2) (d_v 10)) d_aN)) (d_v 13)) d_aN))))
    (t_one (t_ret (d_call O.o__law_value hr rfl T.m__law_value T.F__law_value.kp T.b__law_value (fun σ => passAt (takes_of rfl rfl rfl rfl) σ) (d_aC (d_ix (d_v 12) d_int) (d_aC (d_v 1) (d_aC (d_op o_add (d_op o_add (d_sl (d_v 2) d_oN (d_oI (d_v 10))) (d_v 14)) (d_sl (d_v 2) (d_oI (d_op o_add (d_v 10) d_int)) d_oN)) d_aN)))))))) t_nil)
    (t_cons (t_set (j := 3) sc__law_left_value.nd (d_v 10))
    (t_cons (t_set (j := 4) sc__law_left_value.nd (d_op o_add (d_v 10) (d_v 11)))
    (t_cons (t_set (j := 5) sc__law_left_value.nd (d_v 9))
    (t_cons (t_if (d_tcmp (o_eq hr.units) (d_v 7) d_str) (t_cons (t_set (j := 3) sc__law_left_value.nd (d_op o_add (d_v 10) d_int))
    (t_cons (t_set (j := 4) sc__law_left_value.nd (d_op o_add (d_op o_add (d_v 10) d_int) (d_v 11)))
    (t_one (t_set (j := 5) sc__law_left_value.nd (d_ix (d_ix (d_v 8) (d_v 10)) d_int))))) t_nil)
    (t_cons (t_if (d_tcmp (o_eq hr.units) (d_v 7) d_str) (t_cons (t_set (j := 3) sc__law_left_value.nd (d_op o_sub (d_v 10) (d_v 11)))
    (t_cons (t_set (j := 4) sc__law_left_value.nd (d_v 10))
    (t_one (t_set (j := 5) sc__law_left_value.nd (d_ix (d_ix (d_v 8) (d_v 10)) d_int))))) t_nil)
    (t_cons (t_set (j := 6) sc__law_left_value.nd (d_call O.o__law_value hr rfl T.m__law_value T.F__law_value.kp T.b__law_value (fun σ => passAt (takes_of rfl rfl rfl rfl) σ) (d_aC (d_ix (d_v 12) d_int) (d_aC (d_v 1) (d_aC (d_sl (d_v 2) (d_oI (d_v 3)) (d_oI (d_v 4))) d_aN)))))
    (t_cons (t_if (d_tcmp (o_ne hr.units) (d_v 7) d_str) (t_one (t_set (j := 6) sc__law_left_value.nd (d_call O.o__law_entry hr rfl T.m__law_entry T.F__law_entry.kp T.b__law_entry (fun σ => passAt (takes_of rfl rfl rfl rfl) σ) (d_aC (d_ix (d_v 2) (d_v 10)) (d_aC (d_call O.o__law_count hr rfl T.m__law_count T.F__law_count.kp T.b__law_count (fun σ => passAt (takes_of rfl rfl rfl rfl) σ) (d_aC (d_v 5) (d_aC (d_v 1) d_aN))) (d_aC (d_v 6) d_aN)))))) t_nil)
    (t_cons (t_if (d_tcmp (o_eq hr.units) (d_v 7) d_str) (t_one (t_set (j := 3) sc__law_left_value.nd (d_v 10))) t_nil)
    (t_cons (t_if (d_tcmp (o_eq hr.units) (d_v 7) d_str) (t_one (t_set (j := 4) sc__law_left_value.nd (d_op o_add (d_v 10) d_int))) t_nil)
    (t_one (t_ret (d_call O.o__law_value hr rfl T.m__law_value T.F__law_value.kp T.b__law_value (fun σ => passAt (takes_of rfl rfl rfl rfl) σ) (d_aC (d_ix (d_v 12) d_int) (d_aC (d_v 1) (d_aC (d_op o_add (d_op o_add (d_sl (d_v 2) d_oN (d_oI (d_v 3))) (d_tup (d_aC (d_v 6) d_aN))) (d_sl (d_v 2) (d_oI (d_v 4)) d_oN)) d_aN)))))))))))))))))
set_option maxHeartbeats 4000000 in
theorem ok__law_value (T : Txt w K mg fd cv cu cl tb) (O : Oks P w K mg base fd n) : FnOk P w K mg base (L2.CX P w) (n + 1) (Fa.a ._law_value) (fd ._law_value) ["paper", "world", "values"] (rdF ⟨K, mg, W0⟩ (tab (n + 1) ._law_value)) :=
  fn_ok (N := nl__law_value) (g := b__law_value (tab n)) T.F__law_value sc__law_value fun cdv A outer s H E hr =>
    (t_cons (t_asg (d_v 0) (g_seq rfl (g_cons (g_nm (j := 3) sc__law_value.nd) (g_cons (g_nm (j := 4) sc__law_value.nd) (g_cons (g_nm (j := 5) sc__law_value.nd) (g_cons (g_nm (j := 6) sc__law_value.nd) (g_cons (g_nm (j := 7) sc__law_value.nd) (g_cons (g_nm (j := 8) sc__law_value.nd) g_nil))))))))
    (t_cons (t_if (d_tcmp (o_eq hr.units) (d_v 3) d_str) (t_one (t_ret (d_ix (d_v 2) d_int))) t_nil)
    (t_cons (t_if (PW.pt (d_or (d_tcmp (o_eq hr.units) (d_v 3) d_str) (d_or1 (d_tcmp (o_eq hr.units) (d_v 3) d_str)))) (t_one (t_ret (d_call O.o__law_table hr rfl T.m__law_table T.F__law_table.kp T.b__law_table (fun σ => passAt (takes_of rfl rfl rfl rfl) σ) (d_aC (d_ix (d_v 8) d_int) (d_aC (d_v 1) (d_aC (d_v 2) (d_aC (d_v 5) d_aN))))))) t_nil)
    (t_cons (t_if (d_tcmp (o_eq hr.units) (d_v 3) d_str) (t_cons (t_set (j := 9) sc__law_value.nd (d_call O.o__law_value hr rfl T.m__law_value T.F__law_value.kp T.b__law_value (fun σ => passAt (takes_of rfl rfl rfl rfl) σ) (d_aC (d_ix (d_v 8) d_int) (d_aC (d_v 1) (d_aC (d_sl (d_v 2) d_oN (d_oI (d_v 6))) d_aN)))))
    (t_one (t_ret (d_op o_add (d_op o_mul (d_v 9) (d_call O.o__law_count hr rfl T.m__law_count T.F__law_count.kp T.b__law_count (fun σ => passAt (takes_of rfl rfl rfl rfl) σ) (d_aC (d_ix (d_v 5) d_int) (d_aC (d_v 1) d_aN)))) (d_call O.o__law_value hr rfl T.m__law_value T.F__law_value.kp T.b__law_value (fun σ => passAt (takes_of rfl rfl rfl rfl) σ) (d_aC (d_ix (d_v 8) d_int) (d_aC (d_v 1) (d_aC (d_sl (d_v 2) (d_oI (d_v 6)) d_oN) d_aN)))))))) t_nil)
    (t_one (t_ret (d_call O.o__law_left_value hr rfl T.m__law_left_value T.F__law_left_value.kp T.b__law_left_value (fun σ => passAt (takes_of rfl rfl rfl rfl) σ) (d_aC (d_v 0) (d_aC (d_v 1) (d_aC (d_v 2) d_aN))))))))))
set_option maxHeartbeats 4000000 in
theorem ok__law_parts (T : Txt w K mg fd cv cu cl tb) (O : Oks P w K mg base fd n) : FnOk P w K mg base (L2.CX P w) (n + 1) (Fa.a ._law_parts) (fd ._law_parts) ["kind"] (rdF ⟨K, mg, W0⟩ (tab (n + 1) ._law_parts)) :=
  fn_ok (N := nl__law_parts) (g := b__law_parts (tab n)) T.F__law_parts sc__law_parts fun cdv A outer s H E hr =>
    (t_cons (t_if (d_tv (d_callB (c_isi .str (by decide)) rfl T.n_isinstance boot_isinstance_ (d_aC (d_v 0) (d_aC (d_blt rfl T.n_str boot_str_ rfl) d_aN)))) (t_one (t_ret (d_lst (d_aC (d_v 0) d_aN)))) t_nil)
    (t_one (t_ret (d_op o_add (d_op o_add (d_call O.o__law_parts hr rfl T.m__law_parts T.F__law_parts.kp T.b__law_parts (fun σ => passAt (takes_of rfl rfl rfl rfl) σ) (d_aC (d_ix (d_v 0) d_int) d_aN)) (d_call O.o__law_parts hr rfl T.m__law_parts T.F__law_parts.kp T.b__law_parts (fun σ => passAt (takes_of rfl rfl rfl rfl) σ) (d_aC (d_ix (d_v 0) d_int) d_aN))) (d_lst (d_aC (d_v 0) d_aN))))))
set_option maxHeartbeats 4000000 in
theorem ok__law_bases (T : Txt w K mg fd cv cu cl tb) (O : Oks P w K mg base fd n) : FnOk P w K mg base (L2.CX P w) (n + 1) (Fa.a ._law_bases) (fd ._law_bases) ["kinds"] (rdF ⟨K, mg, W0⟩ (tab (n + 1) ._law_bases)) :=
  fn_ok (N := nl__law_bases) (g := b__law_bases (tab n)) T.F__law_bases sc__law_bases fun cdv A outer s H E hr =>
    (t_cons (t_set (j := 1) sc__law_bases.nd (d_lst d_aN))
    (t_cons (t_for (passes_of rfl) rfl (w_any (d_v 0)) (g_nm (j := 2) sc__law_bases.nd) (t_one (t_if (PW.pt (d_and (d_tv (d_callB (c_isi .str (by decide)) rfl T.n_isinstance boot_isinstance_ (d_aC (d_v 2) (d_aC (d_blt rfl T.n_str boot_str_ rfl) d_aN)))) (d_and1 (d_tcmp (o_nin (r65 hr)) (d_ix (d_m (T := .str) PySem.F.plainAttrs_str PySem.F.slot_str_split PySem.F.type_str_split (by decide) m_split (d_v 2) (d_aC d_str d_aN)) d_int) (d_v 1))))) (t_one (t_expr (d_m (T := .lst) PySem.F.plainAttrs_list PySem.F.slot_list_append PySem.F.type_list_append (by decide) m_append (d_v 1) (d_aC (d_ix (d_m (T := .str) PySem.F.plainAttrs_str PySem.F.slot_str_split PySem.F.type_str_split (by decide) m_split (d_v 2) (d_aC d_str d_aN)) d_int) d_aN)))) t_nil)))
    (t_one (t_ret (d_v 1)))))
set_option maxHeartbeats 4000000 in
theorem ok__law_most (T : Txt w K mg fd cv cu cl tb) (O : Oks P w K mg base fd n) : FnOk P w K mg base (L2.CX P w) (n + 1) (Fa.a ._law_most) (fd ._law_most) ["kinds", "world"] (rdF ⟨K, mg, W0⟩ (tab (n + 1) ._law_most)) :=
  fn_ok (N := nl__law_most) (g := b__law_most (tab n)) T.F__law_most sc__law_most fun cdv A outer s H E hr =>
    (t_one (t_ret (d_callB (c_maxL rfl) rfl T.n_max boot_max_ (d_aC (d_lc (own := [("kind", 2)]) (g := (.one 2)) rfl sc__law_most.nd (w_any (d_v 0)) (blkOk_by (own := [("kind", 2)]) (N := nl__law_most) (sc := defScope st__law_most) (by decide +kernel)) (by decide) (fun _ _ _ _ _ => (v_one sc__law_most.nd)) (fun _ _ _ _ _ => u_nil) (fun _ _ _ _ _ => (d_call O.o__law_count hr rfl T.m__law_count T.F__law_count.kp T.b__law_count (fun σ => passB) (d_aC (d_v 2) (d_aC (d_v 1) d_aN))))) d_aN))))
set_option maxHeartbeats 4000000 in
theorem ok__law_world (T : Txt w K mg fd cv cu cl tb) (O : Oks P w K mg base fd n) : FnOk P w K mg base (L2.CX P w) (n + 1) (Fa.a ._law_world) (fd ._law_world) ["pool", "kinds", "limit"] (rdF ⟨K, mg, W0⟩ (tab (n + 1) ._law_world)) :=
  fn_ok (N := nl__law_world) (g := b__law_world (tab n)) T.F__law_world sc__law_world fun cdv A outer s H E hr =>
    (t_cons (t_set (j := 3) sc__law_world.nd (d_call O.o__law_bases hr rfl T.m__law_bases T.F__law_bases.kp T.b__law_bases (fun σ => passAt (takes_of rfl rfl rfl rfl) σ) (d_aC (d_v 1) d_aN)))
    (t_cons (t_set (j := 4) sc__law_world.nd d_d0)
    (t_cons (t_for (passes_of rfl) rfl (w_any (d_v 3)) (g_nm (j := 5) sc__law_world.nd) (t_one (t_asg (d_op o_add d_int (d_call O.o__law_draw hr rfl T.m__law_draw T.F__law_draw.kp T.b__law_draw (fun σ => passAt (takes_of rfl rfl rfl rfl) σ) (d_aC (d_v 0) (d_aC d_int d_aN)))) (g_ixX (u1 hr) (d_v 4) (d_v 5)))))
    (t_cons (t_for (passes_of rfl) rfl (w_any (d_op o_add (d_v 3) (d_v 3))) (g_nm (j := 5) sc__law_world.nd) (t_one (t_if (d_tcmp o_gt (d_call O.o__law_most hr rfl T.m__law_most T.F__law_most.kp T.b__law_most (fun σ => passAt (takes_of rfl rfl rfl rfl) σ) (d_aC (d_v 1) (d_aC (d_v 4) d_aN))) (d_v 2)) (t_one (t_asg (d_callB (c_max2 rfl) rfl T.n_max boot_max_ (d_aC d_int (d_aC (d_op o_sub (d_dget (u1 hr) (d_v 4) (d_v 5)) d_int) d_aN))) (g_ixX (u1 hr) (d_v 4) (d_v 5)))) t_nil)))
    (t_cons (t_set (j := 6) sc__law_world.nd d_d0)
    (t_cons (t_for (passes_of rfl) rfl (w_any (d_v 3)) (g_nm (j := 5) sc__law_world.nd) (t_one (t_if (PW.pt (d_or (d_tcmp o_gt (d_dget (u1 hr) (d_v 4) (d_v 5)) d_int) (d_or1 (d_tcmp (o_eq hr.units) (d_call O.o__law_draw hr rfl T.m__law_draw T.F__law_draw.kp T.b__law_draw (fun σ => passAt (takes_of rfl rfl rfl rfl) σ) (d_aC (d_v 0) (d_aC d_int d_aN))) d_int)))) (t_one (t_asg (d_dget (u1 hr) (d_v 4) (d_v 5)) (g_ixX (u1 hr) (d_v 6) (d_v 5)))) t_nil)))
    (t_one (t_ret (d_v 6)))))))))
set_option maxHeartbeats 4000000 in
theorem ok_law (T : Txt w K mg fd cv cu cl tb) (O : Oks P w K mg base fd n) : FnOk P w K mg base (L2.CX P w) (n + 1) (Fa.a .law) (fd .law) ["script"] (rdF ⟨K, mg, W0⟩ (tab (n + 1) .law)) :=
  fn_ok (N := nl_law) (g := b_law n (tab n)) T.F_law sc_law fun cdv A outer s H E hr =>
    (t_cons (t_set (j := 1) sc_law.nd (d_call O.o__law_pool hr rfl T.m__law_pool T.F__law_pool.kp T.b__law_pool (fun σ => passAt (takes_of rfl rfl rfl rfl) σ) (d_aC (d_v 0) (d_aC d_int d_aN))))
    (t_cons (t_set (j := 2) sc_law.nd (d_call O.o__law_names hr rfl T.m__law_names T.F__law_names.kp T.b__law_names (fun σ => passAt (takes_of rfl rfl rfl rfl) σ) (d_aC (d_v 1) (d_aC (d_op o_add d_int (d_call O.o__law_draw hr rfl T.m__law_draw T.F__law_draw.kp T.b__law_draw (fun σ => passAt (takes_of rfl rfl rfl rfl) σ) (d_aC (d_v 1) (d_aC d_int d_aN)))) d_aN))))
    (t_cons (t_set (j := 3) sc_law.nd (d_op o_add d_int (d_call O.o__law_draw hr rfl T.m__law_draw T.F__law_draw.kp T.b__law_draw (fun σ => passAt (takes_of rfl rfl rfl rfl) σ) (d_aC (d_v 1) (d_aC d_int d_aN)))))
    (t_cons (t_if (d_tcmp (o_eq hr.units) (d_call O.o__law_draw hr rfl T.m__law_draw T.F__law_draw.kp T.b__law_draw (fun σ => passAt (takes_of rfl rfl rfl rfl) σ) (d_aC (d_v 1) (d_aC d_int d_aN))) d_int) (t_one (t_set (j := 3) sc_law.nd (d_op o_add d_int (d_call O.o__law_draw hr rfl T.m__law_draw T.F__law_draw.kp T.b__law_draw (fun σ => passAt (takes_of rfl rfl rfl rfl) σ) (d_aC (d_v 1) (d_aC d_int d_aN)))))) t_nil)
    (t_cons (t_set (j := 4) sc_law.nd (d_call O.o__law_kind hr rfl T.m__law_kind T.F__law_kind.kp T.b__law_kind (fun σ => passAt (takes_of rfl rfl rfl rfl) σ) (d_aC (d_v 1) (d_aC (d_v 2) (d_aC (d_v 3) d_aN)))))
    (t_cons (t_set (j := 5) sc_law.nd (d_call O.o__law_kind hr rfl T.m__law_kind T.F__law_kind.kp T.b__law_kind (fun σ => passAt (takes_of rfl rfl rfl rfl) σ) (d_aC (d_v 1) (d_aC (d_v 2) (d_aC (d_op o_add d_int (d_call O.o__law_draw hr rfl T.m__law_draw T.F__law_draw.kp T.b__law_draw (fun σ => passAt (takes_of rfl rfl rfl rfl) σ) (d_aC (d_v 1) (d_aC d_int d_aN)))) d_aN)))))
    (t_cons (t_set (j := 6) sc_law.nd d_non)
    (t_cons (t_for (passes_of rfl) rfl (w_any (d_lst (d_aC (d_v 4) (d_aC (d_v 5) (d_aC (d_v 4) d_aN))))) (g_nm (j := 7) sc_law.nd) (t_cons (t_set (j := 6) sc_law.nd (d_call O.o_identity hr rfl T.m_identity T.F_identity.kp T.b_identity (fun σ => passAt (takes_of rfl rfl rfl rfl) σ) (d_aC (d_v 7) d_aN)))
    (t_cons (t_if (PW.pt (d_or (d_not (d_tv (d_call O.o__law_derives hr rfl T.m__law_derives T.F__law_derives.kp T.b__law_derives (fun σ => passAt (takes_of rfl rfl rfl rfl) σ) (d_aC (d_v 6) (d_aC (d_tup (d_aC (d_v 7) d_aN)) (d_aC (d_v 7) d_aN)))))) (d_or1 (d_tcmp (o_neW (rW hr)) (d_v 6) (d_call O.o__law_identity hr rfl T.m__law_identity T.F__law_identity.kp T.b__law_identity (fun σ => passAt (takes_of rfl rfl rfl rfl) σ) (d_aC (d_v 7) d_aN)))))) (t_one (t_ret d_bl)) t_nil)
    (t_one (t_if (d_tcmp (o_neW (rW hr)) (d_callB c_len rfl T.n_len boot_len_ (d_aC (d_call O.o__law_steps hr rfl T.m__law_steps T.F__law_steps.kp T.b__law_steps (fun σ => passAt (takes_of rfl rfl rfl rfl) σ) (d_aC (d_v 6) d_aN)) d_aN)) (d_op o_sub (d_op o_mul d_int (d_call O.o__law_size hr rfl T.m__law_size T.F__law_size.kp T.b__law_size (fun σ => passAt (takes_of rfl rfl rfl rfl) σ) (d_aC (d_v 7) d_aN))) d_int)) (t_one (t_ret d_bl)) t_nil)))))
    (t_cons (t_if (d_tcmp o_gt (d_v 3) d_int) (t_one (t_ret d_bl)) t_nil)
    (t_cons (t_set (j := 8) sc_law.nd (d_call O.o__law_world hr rfl T.m__law_world T.F__law_world.kp T.b__law_world (fun σ => passAt (takes_of rfl rfl rfl rfl) σ) (d_aC (d_v 1) (d_aC (d_call O.o__law_parts hr rfl T.m__law_parts T.F__law_parts.kp T.b__law_parts (fun σ => passAt (takes_of rfl rfl rfl rfl) σ) (d_aC (d_v 4) d_aN)) (d_aC d_int d_aN)))))
    (t_cons (t_for (passes_of rfl) rfl (w_rng1 rfl T.n_range (d_call O.o__law_count hr rfl T.m__law_count T.F__law_count.kp T.b__law_count (fun σ => passAt (takes_of rfl rfl rfl rfl) σ) (d_aC (d_v 4) (d_aC (d_v 8) d_aN)))) (g_nm (j := 9) sc_law.nd) (t_one (t_if (d_tcmp (o_neW (rW hr)) (d_call O.o__law_value hr rfl T.m__law_value T.F__law_value.kp T.b__law_value (fun σ => passAt (takes_of rfl rfl rfl rfl) σ) (d_aC (d_v 6) (d_aC (d_v 8) (d_aC (d_tup (d_aC (d_v 9) d_aN)) d_aN)))) (d_v 9)) (t_one (t_ret d_bl)) t_nil)))
    (t_one (t_ret d_bl)))))))))))))
theorem oks (T : Txt w K mg fd cv cu cl tb) : ∀ n : Nat, Oks P w K mg base fd n
  | 0 => ⟨fn_zero, fn_zero, fn_zero, fn_zero, fn_zero, fn_zero, fn_zero, fn_zero, fn_zero, fn_zero, fn_zero, fn_zero, fn_zero, fn_zero, fn_zero, fn_zero, fn_zero, fn_zero, fn_zero, fn_zero, fn_zero, fn_zero, fn_zero, fn_zero, fn_zero, fn_zero, fn_zero, fn_zero, fn_zero, fn_zero, fn_zero, fn_zero, fn_zero, fn_zero, fn_zero, fn_zero, fn_zero, fn_zero, fn_zero, fn_zero, fn_zero, fn_zero, fn_zero, fn_zero⟩
  | n + 1 => by
    have O := oks T n
    exact ⟨ok_is_atom_number T O, ok_is_atom T O, ok_sequent_of T O, ok_make_axiom T O, ok_by_over_right T O, ok_by_under_right T O, ok_by_pair_right T O, ok_by_over_left T O, ok_by_under_left T O, ok_by_pair_left T O, ok_by_cut T O, ok_build_step T O, ok_identity T O, ok__law_cell T O, ok__law_mix T O, ok__law_pool T O, ok__law_draw T O, ok__law_any_atom T O, ok__law_names T O, ok__law_some_atom T O, ok__law_kind T O, ok__law_size T O, ok__law_is_integer T O, ok__law_is_atom T O, ok__law_is_kind T O, ok__law_line T O, ok__law_axiom T O, ok__law_make T O, ok__law_identity T O, ok__law_shape T O, ok__law_follows T O, ok__law_right T O, ok__law_derives T O, ok__law_steps T O, ok__law_count T O, ok__law_entry T O, ok__law_table T O, ok__law_left_value T O, ok__law_value T O, ok__law_parts T O, ok__law_bases T O, ok__law_most T O, ok__law_world T O, ok_law T O⟩
end
set_option maxHeartbeats 4000000 in
theorem all_mk (LV : Nat) {l : PySem.W.OpenLaw} {w : World} {K : PySem.W.Frag} {h : Heap} {mg : Str → Option Value} {fa : Addr} (X : K.In h) (G : h.Ns mainGlobals mg) (hfa : mg "law" = some (.ref fa))
    {f0 : Addr} {od0 an0 : Option Addr} {sl0 : Array (Option Value)} {oc0 kV0 dc0 pm0 cd0 ct0 : Value}
    {f1 : Addr} {od1 an1 : Option Addr} {sl1 : Array (Option Value)} {oc1 kV1 dc1 pm1 cd1 ct1 : Value}
    {f2 : Addr} {od2 an2 : Option Addr} {sl2 : Array (Option Value)} {oc2 kV2 dc2 pm2 cd2 ct2 : Value}
    {f3 : Addr} {od3 an3 : Option Addr} {sl3 : Array (Option Value)} {oc3 kV3 dc3 pm3 cd3 ct3 : Value}
    {f4 : Addr} {od4 an4 : Option Addr} {sl4 : Array (Option Value)} {oc4 kV4 dc4 pm4 cd4 ct4 : Value}
    {f5 : Addr} {od5 an5 : Option Addr} {sl5 : Array (Option Value)} {oc5 kV5 dc5 pm5 cd5 ct5 : Value}
    {f6 : Addr} {od6 an6 : Option Addr} {sl6 : Array (Option Value)} {oc6 kV6 dc6 pm6 cd6 ct6 : Value}
    {f7 : Addr} {od7 an7 : Option Addr} {sl7 : Array (Option Value)} {oc7 kV7 dc7 pm7 cd7 ct7 : Value}
    {f8 : Addr} {od8 an8 : Option Addr} {sl8 : Array (Option Value)} {oc8 kV8 dc8 pm8 cd8 ct8 : Value}
    {f9 : Addr} {od9 an9 : Option Addr} {sl9 : Array (Option Value)} {oc9 kV9 dc9 pm9 cd9 ct9 : Value}
    {f10 : Addr} {od10 an10 : Option Addr} {sl10 : Array (Option Value)} {oc10 kV10 dc10 pm10 cd10 ct10 : Value}
    {f11 : Addr} {od11 an11 : Option Addr} {sl11 : Array (Option Value)} {oc11 kV11 dc11 pm11 cd11 ct11 : Value}
    {f12 : Addr} {od12 an12 : Option Addr} {sl12 : Array (Option Value)} {oc12 kV12 dc12 pm12 cd12 ct12 : Value}
    {f13 : Addr} {od13 an13 : Option Addr} {sl13 : Array (Option Value)} {oc13 kV13 dc13 pm13 cd13 ct13 : Value}
    {f14 : Addr} {od14 an14 : Option Addr} {sl14 : Array (Option Value)} {oc14 kV14 dc14 pm14 cd14 ct14 : Value}
    {f15 : Addr} {od15 an15 : Option Addr} {sl15 : Array (Option Value)} {oc15 kV15 dc15 pm15 cd15 ct15 : Value}
    {f16 : Addr} {od16 an16 : Option Addr} {sl16 : Array (Option Value)} {oc16 kV16 dc16 pm16 cd16 ct16 : Value}
    {f17 : Addr} {od17 an17 : Option Addr} {sl17 : Array (Option Value)} {oc17 kV17 dc17 pm17 cd17 ct17 : Value}
    {f18 : Addr} {od18 an18 : Option Addr} {sl18 : Array (Option Value)} {oc18 kV18 dc18 pm18 cd18 ct18 : Value}
    {f19 : Addr} {od19 an19 : Option Addr} {sl19 : Array (Option Value)} {oc19 kV19 dc19 pm19 cd19 ct19 : Value}
    {f20 : Addr} {od20 an20 : Option Addr} {sl20 : Array (Option Value)} {oc20 kV20 dc20 pm20 cd20 ct20 : Value}
    {f21 : Addr} {od21 an21 : Option Addr} {sl21 : Array (Option Value)} {oc21 kV21 dc21 pm21 cd21 ct21 : Value}
    {f22 : Addr} {od22 an22 : Option Addr} {sl22 : Array (Option Value)} {oc22 kV22 dc22 pm22 cd22 ct22 : Value}
    {f23 : Addr} {od23 an23 : Option Addr} {sl23 : Array (Option Value)} {oc23 kV23 dc23 pm23 cd23 ct23 : Value}
    {f24 : Addr} {od24 an24 : Option Addr} {sl24 : Array (Option Value)} {oc24 kV24 dc24 pm24 cd24 ct24 : Value}
    {f25 : Addr} {od25 an25 : Option Addr} {sl25 : Array (Option Value)} {oc25 kV25 dc25 pm25 cd25 ct25 : Value}
    {f26 : Addr} {od26 an26 : Option Addr} {sl26 : Array (Option Value)} {oc26 kV26 dc26 pm26 cd26 ct26 : Value}
    {f27 : Addr} {od27 an27 : Option Addr} {sl27 : Array (Option Value)} {oc27 kV27 dc27 pm27 cd27 ct27 : Value}
    {f28 : Addr} {od28 an28 : Option Addr} {sl28 : Array (Option Value)} {oc28 kV28 dc28 pm28 cd28 ct28 : Value}
    {f29 : Addr} {od29 an29 : Option Addr} {sl29 : Array (Option Value)} {oc29 kV29 dc29 pm29 cd29 ct29 : Value}
    {f30 : Addr} {od30 an30 : Option Addr} {sl30 : Array (Option Value)} {oc30 kV30 dc30 pm30 cd30 ct30 : Value}
    {f31 : Addr} {od31 an31 : Option Addr} {sl31 : Array (Option Value)} {oc31 kV31 dc31 pm31 cd31 ct31 : Value}
    {f32 : Addr} {od32 an32 : Option Addr} {sl32 : Array (Option Value)} {oc32 kV32 dc32 pm32 cd32 ct32 : Value}
    {f33 : Addr} {od33 an33 : Option Addr} {sl33 : Array (Option Value)} {oc33 kV33 dc33 pm33 cd33 ct33 : Value}
    {f34 : Addr} {od34 an34 : Option Addr} {sl34 : Array (Option Value)} {oc34 kV34 dc34 pm34 cd34 ct34 : Value}
    {f35 : Addr} {od35 an35 : Option Addr} {sl35 : Array (Option Value)} {oc35 kV35 dc35 pm35 cd35 ct35 : Value}
    {f36 : Addr} {od36 an36 : Option Addr} {sl36 : Array (Option Value)} {oc36 kV36 dc36 pm36 cd36 ct36 : Value}
    {f37 : Addr} {od37 an37 : Option Addr} {sl37 : Array (Option Value)} {oc37 kV37 dc37 pm37 cd37 ct37 : Value}
    {f38 : Addr} {od38 an38 : Option Addr} {sl38 : Array (Option Value)} {oc38 kV38 dc38 pm38 cd38 ct38 : Value}
    {f39 : Addr} {od39 an39 : Option Addr} {sl39 : Array (Option Value)} {oc39 kV39 dc39 pm39 cd39 ct39 : Value}
    {f40 : Addr} {od40 an40 : Option Addr} {sl40 : Array (Option Value)} {oc40 kV40 dc40 pm40 cd40 ct40 : Value}
    {f41 : Addr} {od41 an41 : Option Addr} {sl41 : Array (Option Value)} {oc41 kV41 dc41 pm41 cd41 ct41 : Value}
    {f42 : Addr} {od42 an42 : Option Addr} {sl42 : Array (Option Value)} {oc42 kV42 dc42 pm42 cd42 ct42 : Value}
    {f43 : Addr} {od43 an43 : Option Addr} {sl43 : Array (Option Value)} {oc43 kV43 dc43 pm43 cd43 ct43 : Value}
    (a0 : PySem.W.nsIn K mainGlobals "is_atom_number" = some (some (.ref f0))) (l0 : K.lookup f0 = some ⟨oc0, od0, .func (PySem.W.fnOf "is_atom_number" "is_atom_number" (defArgs st_is_atom_number) (defBody st_is_atom_number) (defScope st_is_atom_number) .none kV0 dc0 pm0 an0 cd0 ct0), sl0⟩) (c0 : PySem.W.codeIn K cd0 "is_atom_number" = true) (k0 : PySem.W.keepIn K (.ref f0) = true)
    (a1 : PySem.W.nsIn K mainGlobals "is_atom" = some (some (.ref f1))) (l1 : K.lookup f1 = some ⟨oc1, od1, .func (PySem.W.fnOf "is_atom" "is_atom" (defArgs st_is_atom) (defBody st_is_atom) (defScope st_is_atom) .none kV1 dc1 pm1 an1 cd1 ct1), sl1⟩) (c1 : PySem.W.codeIn K cd1 "is_atom" = true) (k1 : PySem.W.keepIn K (.ref f1) = true)
    (a2 : PySem.W.nsIn K mainGlobals "sequent_of" = some (some (.ref f2))) (l2 : K.lookup f2 = some ⟨oc2, od2, .func (PySem.W.fnOf "sequent_of" "sequent_of" (defArgs st_sequent_of) (defBody st_sequent_of) (defScope st_sequent_of) .none kV2 dc2 pm2 an2 cd2 ct2), sl2⟩) (c2 : PySem.W.codeIn K cd2 "sequent_of" = true) (k2 : PySem.W.keepIn K (.ref f2) = true)
    (a3 : PySem.W.nsIn K mainGlobals "make_axiom" = some (some (.ref f3))) (l3 : K.lookup f3 = some ⟨oc3, od3, .func (PySem.W.fnOf "make_axiom" "make_axiom" (defArgs st_make_axiom) (defBody st_make_axiom) (defScope st_make_axiom) .none kV3 dc3 pm3 an3 cd3 ct3), sl3⟩) (c3 : PySem.W.codeIn K cd3 "make_axiom" = true) (k3 : PySem.W.keepIn K (.ref f3) = true)
    (a4 : PySem.W.nsIn K mainGlobals "by_over_right" = some (some (.ref f4))) (l4 : K.lookup f4 = some ⟨oc4, od4, .func (PySem.W.fnOf "by_over_right" "by_over_right" (defArgs st_by_over_right) (defBody st_by_over_right) (defScope st_by_over_right) .none kV4 dc4 pm4 an4 cd4 ct4), sl4⟩) (c4 : PySem.W.codeIn K cd4 "by_over_right" = true) (k4 : PySem.W.keepIn K (.ref f4) = true)
    (a5 : PySem.W.nsIn K mainGlobals "by_under_right" = some (some (.ref f5))) (l5 : K.lookup f5 = some ⟨oc5, od5, .func (PySem.W.fnOf "by_under_right" "by_under_right" (defArgs st_by_under_right) (defBody st_by_under_right) (defScope st_by_under_right) .none kV5 dc5 pm5 an5 cd5 ct5), sl5⟩) (c5 : PySem.W.codeIn K cd5 "by_under_right" = true) (k5 : PySem.W.keepIn K (.ref f5) = true)
    (a6 : PySem.W.nsIn K mainGlobals "by_pair_right" = some (some (.ref f6))) (l6 : K.lookup f6 = some ⟨oc6, od6, .func (PySem.W.fnOf "by_pair_right" "by_pair_right" (defArgs st_by_pair_right) (defBody st_by_pair_right) (defScope st_by_pair_right) .none kV6 dc6 pm6 an6 cd6 ct6), sl6⟩) (c6 : PySem.W.codeIn K cd6 "by_pair_right" = true) (k6 : PySem.W.keepIn K (.ref f6) = true)
    (a7 : PySem.W.nsIn K mainGlobals "by_over_left" = some (some (.ref f7))) (l7 : K.lookup f7 = some ⟨oc7, od7, .func (PySem.W.fnOf "by_over_left" "by_over_left" (defArgs st_by_over_left) (defBody st_by_over_left) (defScope st_by_over_left) .none kV7 dc7 pm7 an7 cd7 ct7), sl7⟩) (c7 : PySem.W.codeIn K cd7 "by_over_left" = true) (k7 : PySem.W.keepIn K (.ref f7) = true)
    (a8 : PySem.W.nsIn K mainGlobals "by_under_left" = some (some (.ref f8))) (l8 : K.lookup f8 = some ⟨oc8, od8, .func (PySem.W.fnOf "by_under_left" "by_under_left" (defArgs st_by_under_left) (defBody st_by_under_left) (defScope st_by_under_left) .none kV8 dc8 pm8 an8 cd8 ct8), sl8⟩) (c8 : PySem.W.codeIn K cd8 "by_under_left" = true) (k8 : PySem.W.keepIn K (.ref f8) = true)
    (a9 : PySem.W.nsIn K mainGlobals "by_pair_left" = some (some (.ref f9))) (l9 : K.lookup f9 = some ⟨oc9, od9, .func (PySem.W.fnOf "by_pair_left" "by_pair_left" (defArgs st_by_pair_left) (defBody st_by_pair_left) (defScope st_by_pair_left) .none kV9 dc9 pm9 an9 cd9 ct9), sl9⟩) (c9 : PySem.W.codeIn K cd9 "by_pair_left" = true) (k9 : PySem.W.keepIn K (.ref f9) = true)
    (a10 : PySem.W.nsIn K mainGlobals "by_cut" = some (some (.ref f10))) (l10 : K.lookup f10 = some ⟨oc10, od10, .func (PySem.W.fnOf "by_cut" "by_cut" (defArgs st_by_cut) (defBody st_by_cut) (defScope st_by_cut) .none kV10 dc10 pm10 an10 cd10 ct10), sl10⟩) (c10 : PySem.W.codeIn K cd10 "by_cut" = true) (k10 : PySem.W.keepIn K (.ref f10) = true)
    (a11 : PySem.W.nsIn K mainGlobals "build_step" = some (some (.ref f11))) (l11 : K.lookup f11 = some ⟨oc11, od11, .func (PySem.W.fnOf "build_step" "build_step" (defArgs st_build_step) (defBody st_build_step) (defScope st_build_step) .none kV11 dc11 pm11 an11 cd11 ct11), sl11⟩) (c11 : PySem.W.codeIn K cd11 "build_step" = true) (k11 : PySem.W.keepIn K (.ref f11) = true)
    (a12 : PySem.W.nsIn K mainGlobals "identity" = some (some (.ref f12))) (l12 : K.lookup f12 = some ⟨oc12, od12, .func (PySem.W.fnOf "identity" "identity" (defArgs st_identity) (defBody st_identity) (defScope st_identity) .none kV12 dc12 pm12 an12 cd12 ct12), sl12⟩) (c12 : PySem.W.codeIn K cd12 "identity" = true) (k12 : PySem.W.keepIn K (.ref f12) = true)
    (a13 : PySem.W.nsIn K mainGlobals "_law_cell" = some (some (.ref f13))) (l13 : K.lookup f13 = some ⟨oc13, od13, .func (PySem.W.fnOf "_law_cell" "_law_cell" (defArgs st__law_cell) (defBody st__law_cell) (defScope st__law_cell) .none kV13 dc13 pm13 an13 cd13 ct13), sl13⟩) (c13 : PySem.W.codeIn K cd13 "_law_cell" = true) (k13 : PySem.W.keepIn K (.ref f13) = true)
    (a14 : PySem.W.nsIn K mainGlobals "_law_mix" = some (some (.ref f14))) (l14 : K.lookup f14 = some ⟨oc14, od14, .func (PySem.W.fnOf "_law_mix" "_law_mix" (defArgs st__law_mix) (defBody st__law_mix) (defScope st__law_mix) .none kV14 dc14 pm14 an14 cd14 ct14), sl14⟩) (c14 : PySem.W.codeIn K cd14 "_law_mix" = true) (k14 : PySem.W.keepIn K (.ref f14) = true)
    (a15 : PySem.W.nsIn K mainGlobals "_law_pool" = some (some (.ref f15))) (l15 : K.lookup f15 = some ⟨oc15, od15, .func (PySem.W.fnOf "_law_pool" "_law_pool" (defArgs st__law_pool) (defBody st__law_pool) (defScope st__law_pool) .none kV15 dc15 pm15 an15 cd15 ct15), sl15⟩) (c15 : PySem.W.codeIn K cd15 "_law_pool" = true) (k15 : PySem.W.keepIn K (.ref f15) = true)
    (a16 : PySem.W.nsIn K mainGlobals "_law_draw" = some (some (.ref f16))) (l16 : K.lookup f16 = some ⟨oc16, od16, .func (PySem.W.fnOf "_law_draw" "_law_draw" (defArgs st__law_draw) (defBody st__law_draw) (defScope st__law_draw) .none kV16 dc16 pm16 an16 cd16 ct16), sl16⟩) (c16 : PySem.W.codeIn K cd16 "_law_draw" = true) (k16 : PySem.W.keepIn K (.ref f16) = true)
    (a17 : PySem.W.nsIn K mainGlobals "_law_any_atom" = some (some (.ref f17))) (l17 : K.lookup f17 = some ⟨oc17, od17, .func (PySem.W.fnOf "_law_any_atom" "_law_any_atom" (defArgs st__law_any_atom) (defBody st__law_any_atom) (defScope st__law_any_atom) .none kV17 dc17 pm17 an17 cd17 ct17), sl17⟩) (c17 : PySem.W.codeIn K cd17 "_law_any_atom" = true) (k17 : PySem.W.keepIn K (.ref f17) = true)
    (a18 : PySem.W.nsIn K mainGlobals "_law_names" = some (some (.ref f18))) (l18 : K.lookup f18 = some ⟨oc18, od18, .func (PySem.W.fnOf "_law_names" "_law_names" (defArgs st__law_names) (defBody st__law_names) (defScope st__law_names) .none kV18 dc18 pm18 an18 cd18 ct18), sl18⟩) (c18 : PySem.W.codeIn K cd18 "_law_names" = true) (k18 : PySem.W.keepIn K (.ref f18) = true)
    (a19 : PySem.W.nsIn K mainGlobals "_law_some_atom" = some (some (.ref f19))) (l19 : K.lookup f19 = some ⟨oc19, od19, .func (PySem.W.fnOf "_law_some_atom" "_law_some_atom" (defArgs st__law_some_atom) (defBody st__law_some_atom) (defScope st__law_some_atom) .none kV19 dc19 pm19 an19 cd19 ct19), sl19⟩) (c19 : PySem.W.codeIn K cd19 "_law_some_atom" = true) (k19 : PySem.W.keepIn K (.ref f19) = true)
    (a20 : PySem.W.nsIn K mainGlobals "_law_kind" = some (some (.ref f20))) (l20 : K.lookup f20 = some ⟨oc20, od20, .func (PySem.W.fnOf "_law_kind" "_law_kind" (defArgs st__law_kind) (defBody st__law_kind) (defScope st__law_kind) .none kV20 dc20 pm20 an20 cd20 ct20), sl20⟩) (c20 : PySem.W.codeIn K cd20 "_law_kind" = true) (k20 : PySem.W.keepIn K (.ref f20) = true)
    (a21 : PySem.W.nsIn K mainGlobals "_law_size" = some (some (.ref f21))) (l21 : K.lookup f21 = some ⟨oc21, od21, .func (PySem.W.fnOf "_law_size" "_law_size" (defArgs st__law_size) (defBody st__law_size) (defScope st__law_size) .none kV21 dc21 pm21 an21 cd21 ct21), sl21⟩) (c21 : PySem.W.codeIn K cd21 "_law_size" = true) (k21 : PySem.W.keepIn K (.ref f21) = true)
    (a22 : PySem.W.nsIn K mainGlobals "_law_is_integer" = some (some (.ref f22))) (l22 : K.lookup f22 = some ⟨oc22, od22, .func (PySem.W.fnOf "_law_is_integer" "_law_is_integer" (defArgs st__law_is_integer) (defBody st__law_is_integer) (defScope st__law_is_integer) .none kV22 dc22 pm22 an22 cd22 ct22), sl22⟩) (c22 : PySem.W.codeIn K cd22 "_law_is_integer" = true) (k22 : PySem.W.keepIn K (.ref f22) = true)
    (a23 : PySem.W.nsIn K mainGlobals "_law_is_atom" = some (some (.ref f23))) (l23 : K.lookup f23 = some ⟨oc23, od23, .func (PySem.W.fnOf "_law_is_atom" "_law_is_atom" (defArgs st__law_is_atom) (defBody st__law_is_atom) (defScope st__law_is_atom) .none kV23 dc23 pm23 an23 cd23 ct23), sl23⟩) (c23 : PySem.W.codeIn K cd23 "_law_is_atom" = true) (k23 : PySem.W.keepIn K (.ref f23) = true)
    (a24 : PySem.W.nsIn K mainGlobals "_law_is_kind" = some (some (.ref f24))) (l24 : K.lookup f24 = some ⟨oc24, od24, .func (PySem.W.fnOf "_law_is_kind" "_law_is_kind" (defArgs st__law_is_kind) (defBody st__law_is_kind) (defScope st__law_is_kind) .none kV24 dc24 pm24 an24 cd24 ct24), sl24⟩) (c24 : PySem.W.codeIn K cd24 "_law_is_kind" = true) (k24 : PySem.W.keepIn K (.ref f24) = true)
    (a25 : PySem.W.nsIn K mainGlobals "_law_line" = some (some (.ref f25))) (l25 : K.lookup f25 = some ⟨oc25, od25, .func (PySem.W.fnOf "_law_line" "_law_line" (defArgs st__law_line) (defBody st__law_line) (defScope st__law_line) .none kV25 dc25 pm25 an25 cd25 ct25), sl25⟩) (c25 : PySem.W.codeIn K cd25 "_law_line" = true) (k25 : PySem.W.keepIn K (.ref f25) = true)
    (a26 : PySem.W.nsIn K mainGlobals "_law_axiom" = some (some (.ref f26))) (l26 : K.lookup f26 = some ⟨oc26, od26, .func (PySem.W.fnOf "_law_axiom" "_law_axiom" (defArgs st__law_axiom) (defBody st__law_axiom) (defScope st__law_axiom) .none kV26 dc26 pm26 an26 cd26 ct26), sl26⟩) (c26 : PySem.W.codeIn K cd26 "_law_axiom" = true) (k26 : PySem.W.keepIn K (.ref f26) = true)
    (a27 : PySem.W.nsIn K mainGlobals "_law_make" = some (some (.ref f27))) (l27 : K.lookup f27 = some ⟨oc27, od27, .func (PySem.W.fnOf "_law_make" "_law_make" (defArgs st__law_make) (defBody st__law_make) (defScope st__law_make) .none kV27 dc27 pm27 an27 cd27 ct27), sl27⟩) (c27 : PySem.W.codeIn K cd27 "_law_make" = true) (k27 : PySem.W.keepIn K (.ref f27) = true)
    (a28 : PySem.W.nsIn K mainGlobals "_law_identity" = some (some (.ref f28))) (l28 : K.lookup f28 = some ⟨oc28, od28, .func (PySem.W.fnOf "_law_identity" "_law_identity" (defArgs st__law_identity) (defBody st__law_identity) (defScope st__law_identity) .none kV28 dc28 pm28 an28 cd28 ct28), sl28⟩) (c28 : PySem.W.codeIn K cd28 "_law_identity" = true) (k28 : PySem.W.keepIn K (.ref f28) = true)
    (a29 : PySem.W.nsIn K mainGlobals "_law_shape" = some (some (.ref f29))) (l29 : K.lookup f29 = some ⟨oc29, od29, .func (PySem.W.fnOf "_law_shape" "_law_shape" (defArgs st__law_shape) (defBody st__law_shape) (defScope st__law_shape) .none kV29 dc29 pm29 an29 cd29 ct29), sl29⟩) (c29 : PySem.W.codeIn K cd29 "_law_shape" = true) (k29 : PySem.W.keepIn K (.ref f29) = true)
    (a30 : PySem.W.nsIn K mainGlobals "_law_follows" = some (some (.ref f30))) (l30 : K.lookup f30 = some ⟨oc30, od30, .func (PySem.W.fnOf "_law_follows" "_law_follows" (defArgs st__law_follows) (defBody st__law_follows) (defScope st__law_follows) .none kV30 dc30 pm30 an30 cd30 ct30), sl30⟩) (c30 : PySem.W.codeIn K cd30 "_law_follows" = true) (k30 : PySem.W.keepIn K (.ref f30) = true)
    (a31 : PySem.W.nsIn K mainGlobals "_law_right" = some (some (.ref f31))) (l31 : K.lookup f31 = some ⟨oc31, od31, .func (PySem.W.fnOf "_law_right" "_law_right" (defArgs st__law_right) (defBody st__law_right) (defScope st__law_right) .none kV31 dc31 pm31 an31 cd31 ct31), sl31⟩) (c31 : PySem.W.codeIn K cd31 "_law_right" = true) (k31 : PySem.W.keepIn K (.ref f31) = true)
    (a32 : PySem.W.nsIn K mainGlobals "_law_derives" = some (some (.ref f32))) (l32 : K.lookup f32 = some ⟨oc32, od32, .func (PySem.W.fnOf "_law_derives" "_law_derives" (defArgs st__law_derives) (defBody st__law_derives) (defScope st__law_derives) .none kV32 dc32 pm32 an32 cd32 ct32), sl32⟩) (c32 : PySem.W.codeIn K cd32 "_law_derives" = true) (k32 : PySem.W.keepIn K (.ref f32) = true)
    (a33 : PySem.W.nsIn K mainGlobals "_law_steps" = some (some (.ref f33))) (l33 : K.lookup f33 = some ⟨oc33, od33, .func (PySem.W.fnOf "_law_steps" "_law_steps" (defArgs st__law_steps) (defBody st__law_steps) (defScope st__law_steps) .none kV33 dc33 pm33 an33 cd33 ct33), sl33⟩) (c33 : PySem.W.codeIn K cd33 "_law_steps" = true) (k33 : PySem.W.keepIn K (.ref f33) = true)
    (a34 : PySem.W.nsIn K mainGlobals "_law_count" = some (some (.ref f34))) (l34 : K.lookup f34 = some ⟨oc34, od34, .func (PySem.W.fnOf "_law_count" "_law_count" (defArgs st__law_count) (defBody st__law_count) (defScope st__law_count) .none kV34 dc34 pm34 an34 cd34 ct34), sl34⟩) (c34 : PySem.W.codeIn K cd34 "_law_count" = true) (k34 : PySem.W.keepIn K (.ref f34) = true)
    (a35 : PySem.W.nsIn K mainGlobals "_law_entry" = some (some (.ref f35))) (l35 : K.lookup f35 = some ⟨oc35, od35, .func (PySem.W.fnOf "_law_entry" "_law_entry" (defArgs st__law_entry) (defBody st__law_entry) (defScope st__law_entry) .none kV35 dc35 pm35 an35 cd35 ct35), sl35⟩) (c35 : PySem.W.codeIn K cd35 "_law_entry" = true) (k35 : PySem.W.keepIn K (.ref f35) = true)
    (a36 : PySem.W.nsIn K mainGlobals "_law_table" = some (some (.ref f36))) (l36 : K.lookup f36 = some ⟨oc36, od36, .func (PySem.W.fnOf "_law_table" "_law_table" (defArgs st__law_table) (defBody st__law_table) (defScope st__law_table) .none kV36 dc36 pm36 an36 cd36 ct36), sl36⟩) (c36 : PySem.W.codeIn K cd36 "_law_table" = true) (k36 : PySem.W.keepIn K (.ref f36) = true)
    (a37 : PySem.W.nsIn K mainGlobals "_law_left_value" = some (some (.ref f37))) (l37 : K.lookup f37 = some ⟨oc37, od37, .func (PySem.W.fnOf "_law_left_value" "_law_left_value" (defArgs st__law_left_value) (defBody st__law_left_value) (defScope st__law_left_value) .none kV37 dc37 pm37 an37 cd37 ct37), sl37⟩) (c37 : PySem.W.codeIn K cd37 "_law_left_value" = true) (k37 : PySem.W.keepIn K (.ref f37) = true)
    (a38 : PySem.W.nsIn K mainGlobals "_law_value" = some (some (.ref f38))) (l38 : K.lookup f38 = some ⟨oc38, od38, .func (PySem.W.fnOf "_law_value" "_law_value" (defArgs st__law_value) (defBody st__law_value) (defScope st__law_value) .none kV38 dc38 pm38 an38 cd38 ct38), sl38⟩) (c38 : PySem.W.codeIn K cd38 "_law_value" = true) (k38 : PySem.W.keepIn K (.ref f38) = true)
    (a39 : PySem.W.nsIn K mainGlobals "_law_parts" = some (some (.ref f39))) (l39 : K.lookup f39 = some ⟨oc39, od39, .func (PySem.W.fnOf "_law_parts" "_law_parts" (defArgs st__law_parts) (defBody st__law_parts) (defScope st__law_parts) .none kV39 dc39 pm39 an39 cd39 ct39), sl39⟩) (c39 : PySem.W.codeIn K cd39 "_law_parts" = true) (k39 : PySem.W.keepIn K (.ref f39) = true)
    (a40 : PySem.W.nsIn K mainGlobals "_law_bases" = some (some (.ref f40))) (l40 : K.lookup f40 = some ⟨oc40, od40, .func (PySem.W.fnOf "_law_bases" "_law_bases" (defArgs st__law_bases) (defBody st__law_bases) (defScope st__law_bases) .none kV40 dc40 pm40 an40 cd40 ct40), sl40⟩) (c40 : PySem.W.codeIn K cd40 "_law_bases" = true) (k40 : PySem.W.keepIn K (.ref f40) = true)
    (a41 : PySem.W.nsIn K mainGlobals "_law_most" = some (some (.ref f41))) (l41 : K.lookup f41 = some ⟨oc41, od41, .func (PySem.W.fnOf "_law_most" "_law_most" (defArgs st__law_most) (defBody st__law_most) (defScope st__law_most) .none kV41 dc41 pm41 an41 cd41 ct41), sl41⟩) (c41 : PySem.W.codeIn K cd41 "_law_most" = true) (k41 : PySem.W.keepIn K (.ref f41) = true)
    (a42 : PySem.W.nsIn K mainGlobals "_law_world" = some (some (.ref f42))) (l42 : K.lookup f42 = some ⟨oc42, od42, .func (PySem.W.fnOf "_law_world" "_law_world" (defArgs st__law_world) (defBody st__law_world) (defScope st__law_world) .none kV42 dc42 pm42 an42 cd42 ct42), sl42⟩) (c42 : PySem.W.codeIn K cd42 "_law_world" = true) (k42 : PySem.W.keepIn K (.ref f42) = true)
    (a43 : PySem.W.nsIn K mainGlobals "law" = some (some (.ref f43))) (l43 : K.lookup f43 = some ⟨oc43, od43, .func (PySem.W.fnOf "law" "law" (defArgs st_law) (defBody st_law) (defScope st_law) .none kV43 dc43 pm43 an43 cd43 ct43), sl43⟩) (c43 : PySem.W.codeIn K cd43 "law" = true) (k43 : PySem.W.keepIn K (.ref f43) = true)
    (z0 : PySem.W.nsIn K mainGlobals "len" = some none) (z1 : PySem.W.nsIn K mainGlobals "all" = some none) (z2 : PySem.W.nsIn K mainGlobals "isinstance" = some none) (z3 : PySem.W.nsIn K mainGlobals "str" = some none) (z4 : PySem.W.nsIn K mainGlobals "int" = some none) (z5 : PySem.W.nsIn K mainGlobals "abs" = some none) (z6 : PySem.W.nsIn K mainGlobals "range" = some none) (z7 : PySem.W.nsIn K mainGlobals "bool" = some none) (z8 : PySem.W.nsIn K mainGlobals "tuple" = some none) (z9 : PySem.W.nsIn K mainGlobals "list" = some none) (z10 : PySem.W.nsIn K mainGlobals "reversed" = some none) (z11 : PySem.W.nsIn K mainGlobals "min" = some none) (z12 : PySem.W.nsIn K mainGlobals "max" = some none) {kt0 : Tok} (y0 : PySem.W.nsIn K mainGlobals "MOST_IN_NUMBER" = some (some (.int 6 kt0)))
    {kt1 : Tok} (y1 : PySem.W.nsIn K mainGlobals "DIGITS" = some (some (.str "0123456789" kt1)))
    {kt2 : Tok} (y2 : PySem.W.nsIn K mainGlobals "MOST_IN_NAME" = some (some (.int 8 kt2)))
    {kt3 : Tok} (y3 : PySem.W.nsIn K mainGlobals "LETTERS" = some (some (.str "abcdefghijklmnopqrstuvwxyz" kt3)))
    {xc0 : Addr} (u0 : PySem.W.nsIn K mainGlobals "FitError" = some (some (.ref xc0)))
    (ve0 : PySem.W.excIn K xc0 [.type "ValueError", .type "Exception", .type "BaseException", .type "object"] "ValueError.__new__" = true)
    (vk0 : PySem.W.keepIn K (.ref xc0) = true)
    (vs0 : PySem.W.subIn K (.ref xc0) (.type "BaseException") = some true)
    (vt0 : PySem.W.typeIn K (.ref xc0) = some (.type "type"))
    {td0 : Addr} {te0 : Array DictEntry} {tn0 : Nat} (ty0 : PySem.W.nsIn K mainGlobals "BUILDERS" = some (some (.ref td0)))
    (tl0 : K.lookup td0 = some ⟨.type "dict", none, .dict te0 tn0, #[]⟩)
    (tk0 : PySem.W.KeysLit w.params te0.toList)
    (tv0_0 : PySem.W.nsIn K td0 "over right" = some (some (.ref f4)))
    (tv0_1 : PySem.W.nsIn K td0 "under right" = some (some (.ref f5)))
    (tv0_2 : PySem.W.nsIn K td0 "pair right" = some (some (.ref f6)))
    (tv0_3 : PySem.W.nsIn K td0 "over left" = some (some (.ref f7)))
    (tv0_4 : PySem.W.nsIn K td0 "under left" = some (some (.ref f8)))
    (tv0_5 : PySem.W.nsIn K td0 "pair left" = some (some (.ref f9)))
    (tv0_6 : PySem.W.nsIn K td0 "cut" = some (some (.ref f10))) :
    ∃ _ : Fa, ∃ fd : FuncData, (∀ (s : Shared) (v : Value), BindsTo s fd ⟨[v], []⟩ [("script", v)]) ∧ ∀ base : Heap, K.In base → base.Ns mainGlobals mg → FnOk l.prog w K mg base (L2.CX l.prog w) LV fa fd ["script"] (rdF ⟨K, mg, W0⟩ (tab LV .law)) := by
  have e := hfa.symm.trans (PySem.W.mg_of X G a43)
  cases e
  let f : FN → Addr := fun
    | .is_atom_number => f0
    | .is_atom => f1
    | .sequent_of => f2
    | .make_axiom => f3
    | .by_over_right => f4
    | .by_under_right => f5
    | .by_pair_right => f6
    | .by_over_left => f7
    | .by_under_left => f8
    | .by_pair_left => f9
    | .by_cut => f10
    | .build_step => f11
    | .identity => f12
    | ._law_cell => f13
    | ._law_mix => f14
    | ._law_pool => f15
    | ._law_draw => f16
    | ._law_any_atom => f17
    | ._law_names => f18
    | ._law_some_atom => f19
    | ._law_kind => f20
    | ._law_size => f21
    | ._law_is_integer => f22
    | ._law_is_atom => f23
    | ._law_is_kind => f24
    | ._law_line => f25
    | ._law_axiom => f26
    | ._law_make => f27
    | ._law_identity => f28
    | ._law_shape => f29
    | ._law_follows => f30
    | ._law_right => f31
    | ._law_derives => f32
    | ._law_steps => f33
    | ._law_count => f34
    | ._law_entry => f35
    | ._law_table => f36
    | ._law_left_value => f37
    | ._law_value => f38
    | ._law_parts => f39
    | ._law_bases => f40
    | ._law_most => f41
    | ._law_world => f42
    | .law => fa
  have hinj : ∀ m ∈ tfs, ∀ n ∈ tfs, f m = f n → m = n := (List.forall_mem_cons.mpr ⟨(List.forall_mem_cons.mpr ⟨fun _ => rfl, (List.forall_mem_cons.mpr ⟨fun e => absurd e (fn_ne l4 l5 (by decide)), (List.forall_mem_cons.mpr ⟨fun e => absurd e (fn_ne l4 l6 (by decide)), (List.forall_mem_cons.mpr ⟨fun e => absurd e (fn_ne l4 l7 (by decide)), (List.forall_mem_cons.mpr ⟨fun e => absurd e (fn_ne l4 l8 (by decide)), (List.forall_mem_cons.mpr ⟨fun e => absurd e (fn_ne l4 l9 (by decide)), (List.forall_mem_cons.mpr ⟨fun e => absurd e (fn_ne l4 l10 (by decide)), fun _ h => nomatch h⟩)⟩)⟩)⟩)⟩)⟩)⟩), (List.forall_mem_cons.mpr ⟨(List.forall_mem_cons.mpr ⟨fun e => absurd e (fn_ne l5 l4 (by decide)), (List.forall_mem_cons.mpr ⟨fun _ => rfl, (List.forall_mem_cons.mpr ⟨fun e => absurd e (fn_ne l5 l6 (by decide)), (List.forall_mem_cons.mpr ⟨fun e => absurd e (fn_ne l5 l7 (by decide)), (List.forall_mem_cons.mpr ⟨fun e => absurd e (fn_ne l5 l8 (by decide)), (List.forall_mem_cons.mpr ⟨fun e => absurd e (fn_ne l5 l9 (by decide)), (List.forall_mem_cons.mpr ⟨fun e => absurd e (fn_ne l5 l10 (by decide)), fun _ h => nomatch h⟩)⟩)⟩)⟩)⟩)⟩)⟩), (List.forall_mem_cons.mpr ⟨(List.forall_mem_cons.mpr ⟨fun e => absurd e (fn_ne l6 l4 (by decide)), (List.forall_mem_cons.mpr ⟨fun e => absurd e (fn_ne l6 l5 (by decide)), (List.forall_mem_cons.mpr ⟨fun _ => rfl, (List.forall_mem_cons.mpr ⟨fun e => absurd e (fn_ne l6 l7 (by decide)), (List.forall_mem_cons.mpr ⟨fun e => absurd e (fn_ne l6 l8 (by decide)), (List.forall_mem_cons.mpr ⟨fun e => absurd e (fn_ne l6 l9 (by decide)), (List.forall_mem_cons.mpr ⟨fun e => absurd e (fn_ne l6 l10 (by decide)), fun _ h => nomatch h⟩)⟩)⟩)⟩)⟩)⟩)⟩), (List.forall_mem_cons.mpr ⟨(List.forall_mem_cons.mpr ⟨fun e => absurd e (fn_ne l7 l4 (by decide)), (List.forall_mem_cons.mpr ⟨fun e => absurd e (fn_ne l7 l5 (by decide)), (List.forall_mem_cons.mpr ⟨fun e => absurd e (fn_ne l7 l6 (by decide)), (List.forall_mem_cons.mpr ⟨fun _ => rfl, (List.forall_mem_cons.mpr ⟨fun e => absurd e (fn_ne l7 l8 (by decide)), (List.forall_mem_cons.mpr ⟨fun e => absurd e (fn_ne l7 l9 (by decide)), (List.forall_mem_cons.mpr ⟨fun e => absurd e (fn_ne l7 l10 (by decide)), fun _ h => nomatch h⟩)⟩)⟩)⟩)⟩)⟩)⟩), (List.forall_mem_cons.mpr ⟨(List.forall_mem_cons.mpr ⟨fun e => absurd e (fn_ne l8 l4 (by decide)), (List.forall_mem_cons.mpr ⟨fun e => absurd e (fn_ne l8 l5 (by decide)), (List.forall_mem_cons.mpr ⟨fun e => absurd e (fn_ne l8 l6 (by decide)), (List.forall_mem_cons.mpr ⟨fun e => absurd e (fn_ne l8 l7 (by decide)), (List.forall_mem_cons.mpr ⟨fun _ => rfl, (List.forall_mem_cons.mpr ⟨fun e => absurd e (fn_ne l8 l9 (by decide)), (List.forall_mem_cons.mpr ⟨fun e => absurd e (fn_ne l8 l10 (by decide)), fun _ h => nomatch h⟩)⟩)⟩)⟩)⟩)⟩)⟩), (List.forall_mem_cons.mpr ⟨(List.forall_mem_cons.mpr ⟨fun e => absurd e (fn_ne l9 l4 (by decide)), (List.forall_mem_cons.mpr ⟨fun e => absurd e (fn_ne l9 l5 (by decide)), (List.forall_mem_cons.mpr ⟨fun e => absurd e (fn_ne l9 l6 (by decide)), (List.forall_mem_cons.mpr ⟨fun e => absurd e (fn_ne l9 l7 (by decide)), (List.forall_mem_cons.mpr ⟨fun e => absurd e (fn_ne l9 l8 (by decide)), (List.forall_mem_cons.mpr ⟨fun _ => rfl, (List.forall_mem_cons.mpr ⟨fun e => absurd e (fn_ne l9 l10 (by decide)), fun _ h => nomatch h⟩)⟩)⟩)⟩)⟩)⟩)⟩), (List.forall_mem_cons.mpr ⟨(List.forall_mem_cons.mpr ⟨fun e => absurd e (fn_ne l10 l4 (by decide)), (List.forall_mem_cons.mpr ⟨fun e => absurd e (fn_ne l10 l5 (by decide)), (List.forall_mem_cons.mpr ⟨fun e => absurd e (fn_ne l10 l6 (by decide)), (List.forall_mem_cons.mpr ⟨fun e => absurd e (fn_ne l10 l7 (by decide)), (List.forall_mem_cons.mpr ⟨fun e => absurd e (fn_ne l10 l8 (by decide)), (List.forall_mem_cons.mpr ⟨fun e => absurd e (fn_ne l10 l9 (by decide)), (List.forall_mem_cons.mpr ⟨fun _ => rfl, fun _ h => nomatch h⟩)⟩)⟩)⟩)⟩)⟩)⟩), fun _ h => nomatch h⟩)⟩)⟩)⟩)⟩)⟩)⟩)
  let I : Fa := ⟨f, hinj⟩
  let fd : FN → FuncData := fun
    | .is_atom_number => PySem.W.fnOf "is_atom_number" "is_atom_number" (defArgs st_is_atom_number) (defBody st_is_atom_number) (defScope st_is_atom_number) .none kV0 dc0 pm0 an0 cd0 ct0
    | .is_atom => PySem.W.fnOf "is_atom" "is_atom" (defArgs st_is_atom) (defBody st_is_atom) (defScope st_is_atom) .none kV1 dc1 pm1 an1 cd1 ct1
    | .sequent_of => PySem.W.fnOf "sequent_of" "sequent_of" (defArgs st_sequent_of) (defBody st_sequent_of) (defScope st_sequent_of) .none kV2 dc2 pm2 an2 cd2 ct2
    | .make_axiom => PySem.W.fnOf "make_axiom" "make_axiom" (defArgs st_make_axiom) (defBody st_make_axiom) (defScope st_make_axiom) .none kV3 dc3 pm3 an3 cd3 ct3
    | .by_over_right => PySem.W.fnOf "by_over_right" "by_over_right" (defArgs st_by_over_right) (defBody st_by_over_right) (defScope st_by_over_right) .none kV4 dc4 pm4 an4 cd4 ct4
    | .by_under_right => PySem.W.fnOf "by_under_right" "by_under_right" (defArgs st_by_under_right) (defBody st_by_under_right) (defScope st_by_under_right) .none kV5 dc5 pm5 an5 cd5 ct5
    | .by_pair_right => PySem.W.fnOf "by_pair_right" "by_pair_right" (defArgs st_by_pair_right) (defBody st_by_pair_right) (defScope st_by_pair_right) .none kV6 dc6 pm6 an6 cd6 ct6
    | .by_over_left => PySem.W.fnOf "by_over_left" "by_over_left" (defArgs st_by_over_left) (defBody st_by_over_left) (defScope st_by_over_left) .none kV7 dc7 pm7 an7 cd7 ct7
    | .by_under_left => PySem.W.fnOf "by_under_left" "by_under_left" (defArgs st_by_under_left) (defBody st_by_under_left) (defScope st_by_under_left) .none kV8 dc8 pm8 an8 cd8 ct8
    | .by_pair_left => PySem.W.fnOf "by_pair_left" "by_pair_left" (defArgs st_by_pair_left) (defBody st_by_pair_left) (defScope st_by_pair_left) .none kV9 dc9 pm9 an9 cd9 ct9
    | .by_cut => PySem.W.fnOf "by_cut" "by_cut" (defArgs st_by_cut) (defBody st_by_cut) (defScope st_by_cut) .none kV10 dc10 pm10 an10 cd10 ct10
    | .build_step => PySem.W.fnOf "build_step" "build_step" (defArgs st_build_step) (defBody st_build_step) (defScope st_build_step) .none kV11 dc11 pm11 an11 cd11 ct11
    | .identity => PySem.W.fnOf "identity" "identity" (defArgs st_identity) (defBody st_identity) (defScope st_identity) .none kV12 dc12 pm12 an12 cd12 ct12
    | ._law_cell => PySem.W.fnOf "_law_cell" "_law_cell" (defArgs st__law_cell) (defBody st__law_cell) (defScope st__law_cell) .none kV13 dc13 pm13 an13 cd13 ct13
    | ._law_mix => PySem.W.fnOf "_law_mix" "_law_mix" (defArgs st__law_mix) (defBody st__law_mix) (defScope st__law_mix) .none kV14 dc14 pm14 an14 cd14 ct14
    | ._law_pool => PySem.W.fnOf "_law_pool" "_law_pool" (defArgs st__law_pool) (defBody st__law_pool) (defScope st__law_pool) .none kV15 dc15 pm15 an15 cd15 ct15
    | ._law_draw => PySem.W.fnOf "_law_draw" "_law_draw" (defArgs st__law_draw) (defBody st__law_draw) (defScope st__law_draw) .none kV16 dc16 pm16 an16 cd16 ct16
    | ._law_any_atom => PySem.W.fnOf "_law_any_atom" "_law_any_atom" (defArgs st__law_any_atom) (defBody st__law_any_atom) (defScope st__law_any_atom) .none kV17 dc17 pm17 an17 cd17 ct17
    | ._law_names => PySem.W.fnOf "_law_names" "_law_names" (defArgs st__law_names) (defBody st__law_names) (defScope st__law_names) .none kV18 dc18 pm18 an18 cd18 ct18
    | ._law_some_atom => PySem.W.fnOf "_law_some_atom" "_law_some_atom" (defArgs st__law_some_atom) (defBody st__law_some_atom) (defScope st__law_some_atom) .none kV19 dc19 pm19 an19 cd19 ct19
    | ._law_kind => PySem.W.fnOf "_law_kind" "_law_kind" (defArgs st__law_kind) (defBody st__law_kind) (defScope st__law_kind) .none kV20 dc20 pm20 an20 cd20 ct20
    | ._law_size => PySem.W.fnOf "_law_size" "_law_size" (defArgs st__law_size) (defBody st__law_size) (defScope st__law_size) .none kV21 dc21 pm21 an21 cd21 ct21
    | ._law_is_integer => PySem.W.fnOf "_law_is_integer" "_law_is_integer" (defArgs st__law_is_integer) (defBody st__law_is_integer) (defScope st__law_is_integer) .none kV22 dc22 pm22 an22 cd22 ct22
    | ._law_is_atom => PySem.W.fnOf "_law_is_atom" "_law_is_atom" (defArgs st__law_is_atom) (defBody st__law_is_atom) (defScope st__law_is_atom) .none kV23 dc23 pm23 an23 cd23 ct23
    | ._law_is_kind => PySem.W.fnOf "_law_is_kind" "_law_is_kind" (defArgs st__law_is_kind) (defBody st__law_is_kind) (defScope st__law_is_kind) .none kV24 dc24 pm24 an24 cd24 ct24
    | ._law_line => PySem.W.fnOf "_law_line" "_law_line" (defArgs st__law_line) (defBody st__law_line) (defScope st__law_line) .none kV25 dc25 pm25 an25 cd25 ct25
    | ._law_axiom => PySem.W.fnOf "_law_axiom" "_law_axiom" (defArgs st__law_axiom) (defBody st__law_axiom) (defScope st__law_axiom) .none kV26 dc26 pm26 an26 cd26 ct26
    | ._law_make => PySem.W.fnOf "_law_make" "_law_make" (defArgs st__law_make) (defBody st__law_make) (defScope st__law_make) .none kV27 dc27 pm27 an27 cd27 ct27
    | ._law_identity => PySem.W.fnOf "_law_identity" "_law_identity" (defArgs st__law_identity) (defBody st__law_identity) (defScope st__law_identity) .none kV28 dc28 pm28 an28 cd28 ct28
    | ._law_shape => PySem.W.fnOf "_law_shape" "_law_shape" (defArgs st__law_shape) (defBody st__law_shape) (defScope st__law_shape) .none kV29 dc29 pm29 an29 cd29 ct29
    | ._law_follows => PySem.W.fnOf "_law_follows" "_law_follows" (defArgs st__law_follows) (defBody st__law_follows) (defScope st__law_follows) .none kV30 dc30 pm30 an30 cd30 ct30
    | ._law_right => PySem.W.fnOf "_law_right" "_law_right" (defArgs st__law_right) (defBody st__law_right) (defScope st__law_right) .none kV31 dc31 pm31 an31 cd31 ct31
    | ._law_derives => PySem.W.fnOf "_law_derives" "_law_derives" (defArgs st__law_derives) (defBody st__law_derives) (defScope st__law_derives) .none kV32 dc32 pm32 an32 cd32 ct32
    | ._law_steps => PySem.W.fnOf "_law_steps" "_law_steps" (defArgs st__law_steps) (defBody st__law_steps) (defScope st__law_steps) .none kV33 dc33 pm33 an33 cd33 ct33
    | ._law_count => PySem.W.fnOf "_law_count" "_law_count" (defArgs st__law_count) (defBody st__law_count) (defScope st__law_count) .none kV34 dc34 pm34 an34 cd34 ct34
    | ._law_entry => PySem.W.fnOf "_law_entry" "_law_entry" (defArgs st__law_entry) (defBody st__law_entry) (defScope st__law_entry) .none kV35 dc35 pm35 an35 cd35 ct35
    | ._law_table => PySem.W.fnOf "_law_table" "_law_table" (defArgs st__law_table) (defBody st__law_table) (defScope st__law_table) .none kV36 dc36 pm36 an36 cd36 ct36
    | ._law_left_value => PySem.W.fnOf "_law_left_value" "_law_left_value" (defArgs st__law_left_value) (defBody st__law_left_value) (defScope st__law_left_value) .none kV37 dc37 pm37 an37 cd37 ct37
    | ._law_value => PySem.W.fnOf "_law_value" "_law_value" (defArgs st__law_value) (defBody st__law_value) (defScope st__law_value) .none kV38 dc38 pm38 an38 cd38 ct38
    | ._law_parts => PySem.W.fnOf "_law_parts" "_law_parts" (defArgs st__law_parts) (defBody st__law_parts) (defScope st__law_parts) .none kV39 dc39 pm39 an39 cd39 ct39
    | ._law_bases => PySem.W.fnOf "_law_bases" "_law_bases" (defArgs st__law_bases) (defBody st__law_bases) (defScope st__law_bases) .none kV40 dc40 pm40 an40 cd40 ct40
    | ._law_most => PySem.W.fnOf "_law_most" "_law_most" (defArgs st__law_most) (defBody st__law_most) (defScope st__law_most) .none kV41 dc41 pm41 an41 cd41 ct41
    | ._law_world => PySem.W.fnOf "_law_world" "_law_world" (defArgs st__law_world) (defBody st__law_world) (defScope st__law_world) .none kV42 dc42 pm42 an42 cd42 ct42
    | .law => PySem.W.fnOf "law" "law" (defArgs st_law) (defBody st_law) (defScope st_law) .none kV43 dc43 pm43 an43 cd43 ct43
  let cv : Nat → V := fun i => ([.int 6, .str "0123456789", .int 8, .str "abcdefghijklmnopqrstuvwxyz"] : List V).getD i .non
  let cu : Nat → Value := fun i => ([.int 6 kt0, .str "0123456789" kt1, .int 8 kt2, .str "abcdefghijklmnopqrstuvwxyz" kt3] : List Value).getD i .none
  have F0 : Fun K "is_atom_number" "is_atom_number" st_is_atom_number (f .is_atom_number) (fd .is_atom_number) := fun_mk (st := st_is_atom_number) l0 c0 k0
  have b0 : Binds K (fd .is_atom_number) ["text"] [] := F0.binds (ps := ["text"]) fun _ _ _ _ _ _ us hl => match us, hl with | [_], _ => rfl
  have F1 : Fun K "is_atom" "is_atom" st_is_atom (f .is_atom) (fd .is_atom) := fun_mk (st := st_is_atom) l1 c1 k1
  have b1 : Binds K (fd .is_atom) ["thing"] [] := F1.binds (ps := ["thing"]) fun _ _ _ _ _ _ us hl => match us, hl with | [_], _ => rfl
  have F2 : Fun K "sequent_of" "sequent_of" st_sequent_of (f .sequent_of) (fd .sequent_of) := fun_mk (st := st_sequent_of) l2 c2 k2
  have b2 : Binds K (fd .sequent_of) ["derivation"] [] := F2.binds (ps := ["derivation"]) fun _ _ _ _ _ _ us hl => match us, hl with | [_], _ => rfl
  have F3 : Fun K "make_axiom" "make_axiom" st_make_axiom (f .make_axiom) (fd .make_axiom) := fun_mk (st := st_make_axiom) l3 c3 k3
  have b3 : Binds K (fd .make_axiom) ["atom"] [] := F3.binds (ps := ["atom"]) fun _ _ _ _ _ _ us hl => match us, hl with | [_], _ => rfl
  have F4 : Fun K "by_over_right" "by_over_right" st_by_over_right (f .by_over_right) (fd .by_over_right) := fun_mk (st := st_by_over_right) l4 c4 k4
  have b4 : Binds K (fd .by_over_right) ["at", "parts"] [] := F4.binds (ps := ["at", "parts"]) fun _ _ _ _ _ _ us hl => match us, hl with | [_, _], _ => rfl
  have F5 : Fun K "by_under_right" "by_under_right" st_by_under_right (f .by_under_right) (fd .by_under_right) := fun_mk (st := st_by_under_right) l5 c5 k5
  have b5 : Binds K (fd .by_under_right) ["at", "parts"] [] := F5.binds (ps := ["at", "parts"]) fun _ _ _ _ _ _ us hl => match us, hl with | [_, _], _ => rfl
  have F6 : Fun K "by_pair_right" "by_pair_right" st_by_pair_right (f .by_pair_right) (fd .by_pair_right) := fun_mk (st := st_by_pair_right) l6 c6 k6
  have b6 : Binds K (fd .by_pair_right) ["at", "parts"] [] := F6.binds (ps := ["at", "parts"]) fun _ _ _ _ _ _ us hl => match us, hl with | [_, _], _ => rfl
  have F7 : Fun K "by_over_left" "by_over_left" st_by_over_left (f .by_over_left) (fd .by_over_left) := fun_mk (st := st_by_over_left) l7 c7 k7
  have b7 : Binds K (fd .by_over_left) ["at", "parts"] [] := F7.binds (ps := ["at", "parts"]) fun _ _ _ _ _ _ us hl => match us, hl with | [_, _], _ => rfl
  have F8 : Fun K "by_under_left" "by_under_left" st_by_under_left (f .by_under_left) (fd .by_under_left) := fun_mk (st := st_by_under_left) l8 c8 k8
  have b8 : Binds K (fd .by_under_left) ["at", "parts"] [] := F8.binds (ps := ["at", "parts"]) fun _ _ _ _ _ _ us hl => match us, hl with | [_, _], _ => rfl
  have F9 : Fun K "by_pair_left" "by_pair_left" st_by_pair_left (f .by_pair_left) (fd .by_pair_left) := fun_mk (st := st_by_pair_left) l9 c9 k9
  have b9 : Binds K (fd .by_pair_left) ["at", "parts"] [] := F9.binds (ps := ["at", "parts"]) fun _ _ _ _ _ _ us hl => match us, hl with | [_, _], _ => rfl
  have F10 : Fun K "by_cut" "by_cut" st_by_cut (f .by_cut) (fd .by_cut) := fun_mk (st := st_by_cut) l10 c10 k10
  have b10 : Binds K (fd .by_cut) ["at", "parts"] [] := F10.binds (ps := ["at", "parts"]) fun _ _ _ _ _ _ us hl => match us, hl with | [_, _], _ => rfl
  have F11 : Fun K "build_step" "build_step" st_build_step (f .build_step) (fd .build_step) := fun_mk (st := st_build_step) l11 c11 k11
  have b11 : Binds K (fd .build_step) ["rule", "at", "parts"] [] := F11.binds (ps := ["rule", "at", "parts"]) fun _ _ _ _ _ _ us hl => match us, hl with | [_, _, _], _ => rfl
  have F12 : Fun K "identity" "identity" st_identity (f .identity) (fd .identity) := fun_mk (st := st_identity) l12 c12 k12
  have b12 : Binds K (fd .identity) ["kind"] [] := F12.binds (ps := ["kind"]) fun _ _ _ _ _ _ us hl => match us, hl with | [_], _ => rfl
  have F13 : Fun K "_law_cell" "_law_cell" st__law_cell (f ._law_cell) (fd ._law_cell) := fun_mk (st := st__law_cell) l13 c13 k13
  have b13 : Binds K (fd ._law_cell) ["script", "k"] [] := F13.binds (ps := ["script", "k"]) fun _ _ _ _ _ _ us hl => match us, hl with | [_, _], _ => rfl
  have F14 : Fun K "_law_mix" "_law_mix" st__law_mix (f ._law_mix) (fd ._law_mix) := fun_mk (st := st__law_mix) l14 c14 k14
  have b14 : Binds K (fd ._law_mix) ["x"] [] := F14.binds (ps := ["x"]) fun _ _ _ _ _ _ us hl => match us, hl with | [_], _ => rfl
  have F15 : Fun K "_law_pool" "_law_pool" st__law_pool (f ._law_pool) (fd ._law_pool) := fun_mk (st := st__law_pool) l15 c15 k15
  have b15 : Binds K (fd ._law_pool) ["script", "k"] [] := F15.binds (ps := ["script", "k"]) fun _ _ _ _ _ _ us hl => match us, hl with | [_, _], _ => rfl
  have F16 : Fun K "_law_draw" "_law_draw" st__law_draw (f ._law_draw) (fd ._law_draw) := fun_mk (st := st__law_draw) l16 c16 k16
  have b16 : Binds K (fd ._law_draw) ["pool", "many"] [] := F16.binds (ps := ["pool", "many"]) fun _ _ _ _ _ _ us hl => match us, hl with | [_, _], _ => rfl
  have F17 : Fun K "_law_any_atom" "_law_any_atom" st__law_any_atom (f ._law_any_atom) (fd ._law_any_atom) := fun_mk (st := st__law_any_atom) l17 c17 k17
  have b17 : Binds K (fd ._law_any_atom) ["pool"] [] := F17.binds (ps := ["pool"]) fun _ _ _ _ _ _ us hl => match us, hl with | [_], _ => rfl
  have F18 : Fun K "_law_names" "_law_names" st__law_names (f ._law_names) (fd ._law_names) := fun_mk (st := st__law_names) l18 c18 k18
  have b18 : Binds K (fd ._law_names) ["pool", "many"] [] := F18.binds (ps := ["pool", "many"]) fun _ _ _ _ _ _ us hl => match us, hl with | [_, _], _ => rfl
  have F19 : Fun K "_law_some_atom" "_law_some_atom" st__law_some_atom (f ._law_some_atom) (fd ._law_some_atom) := fun_mk (st := st__law_some_atom) l19 c19 k19
  have b19 : Binds K (fd ._law_some_atom) ["pool", "names"] [] := F19.binds (ps := ["pool", "names"]) fun _ _ _ _ _ _ us hl => match us, hl with | [_, _], _ => rfl
  have F20 : Fun K "_law_kind" "_law_kind" st__law_kind (f ._law_kind) (fd ._law_kind) := fun_mk (st := st__law_kind) l20 c20 k20
  have b20 : Binds K (fd ._law_kind) ["pool", "names", "size"] [] := F20.binds (ps := ["pool", "names", "size"]) fun _ _ _ _ _ _ us hl => match us, hl with | [_, _, _], _ => rfl
  have F21 : Fun K "_law_size" "_law_size" st__law_size (f ._law_size) (fd ._law_size) := fun_mk (st := st__law_size) l21 c21 k21
  have b21 : Binds K (fd ._law_size) ["kind"] [] := F21.binds (ps := ["kind"]) fun _ _ _ _ _ _ us hl => match us, hl with | [_], _ => rfl
  have F22 : Fun K "_law_is_integer" "_law_is_integer" st__law_is_integer (f ._law_is_integer) (fd ._law_is_integer) := fun_mk (st := st__law_is_integer) l22 c22 k22
  have b22 : Binds K (fd ._law_is_integer) ["told"] [] := F22.binds (ps := ["told"]) fun _ _ _ _ _ _ us hl => match us, hl with | [_], _ => rfl
  have F23 : Fun K "_law_is_atom" "_law_is_atom" st__law_is_atom (f ._law_is_atom) (fd ._law_is_atom) := fun_mk (st := st__law_is_atom) l23 c23 k23
  have b23 : Binds K (fd ._law_is_atom) ["told"] [] := F23.binds (ps := ["told"]) fun _ _ _ _ _ _ us hl => match us, hl with | [_], _ => rfl
  have F24 : Fun K "_law_is_kind" "_law_is_kind" st__law_is_kind (f ._law_is_kind) (fd ._law_is_kind) := fun_mk (st := st__law_is_kind) l24 c24 k24
  have b24 : Binds K (fd ._law_is_kind) ["told", "depth"] [] := F24.binds (ps := ["told", "depth"]) fun _ _ _ _ _ _ us hl => match us, hl with | [_, _], _ => rfl
  have F25 : Fun K "_law_line" "_law_line" st__law_line (f ._law_line) (fd ._law_line) := fun_mk (st := st__law_line) l25 c25 k25
  have b25 : Binds K (fd ._law_line) ["rule", "at", "lines"] [] := F25.binds (ps := ["rule", "at", "lines"]) fun _ _ _ _ _ _ us hl => match us, hl with | [_, _, _], _ => rfl
  have F26 : Fun K "_law_axiom" "_law_axiom" st__law_axiom (f ._law_axiom) (fd ._law_axiom) := fun_mk (st := st__law_axiom) l26 c26 k26
  have b26 : Binds K (fd ._law_axiom) ["atom"] [] := F26.binds (ps := ["atom"]) fun _ _ _ _ _ _ us hl => match us, hl with | [_], _ => rfl
  have F27 : Fun K "_law_make" "_law_make" st__law_make (f ._law_make) (fd ._law_make) := fun_mk (st := st__law_make) l27 c27 k27
  have b27 : Binds K (fd ._law_make) ["rule", "at", "parts"] [] := F27.binds (ps := ["rule", "at", "parts"]) fun _ _ _ _ _ _ us hl => match us, hl with | [_, _, _], _ => rfl
  have F28 : Fun K "_law_identity" "_law_identity" st__law_identity (f ._law_identity) (fd ._law_identity) := fun_mk (st := st__law_identity) l28 c28 k28
  have b28 : Binds K (fd ._law_identity) ["kind"] [] := F28.binds (ps := ["kind"]) fun _ _ _ _ _ _ us hl => match us, hl with | [_], _ => rfl
  have F29 : Fun K "_law_shape" "_law_shape" st__law_shape (f ._law_shape) (fd ._law_shape) := fun_mk (st := st__law_shape) l29 c29 k29
  have b29 : Binds K (fd ._law_shape) ["step"] [] := F29.binds (ps := ["step"]) fun _ _ _ _ _ _ us hl => match us, hl with | [_], _ => rfl
  have F30 : Fun K "_law_follows" "_law_follows" st__law_follows (f ._law_follows) (fd ._law_follows) := fun_mk (st := st__law_follows) l30 c30 k30
  have b30 : Binds K (fd ._law_follows) ["step"] [] := F30.binds (ps := ["step"]) fun _ _ _ _ _ _ us hl => match us, hl with | [_], _ => rfl
  have F31 : Fun K "_law_right" "_law_right" st__law_right (f ._law_right) (fd ._law_right) := fun_mk (st := st__law_right) l31 c31 k31
  have b31 : Binds K (fd ._law_right) ["paper"] [] := F31.binds (ps := ["paper"]) fun _ _ _ _ _ _ us hl => match us, hl with | [_], _ => rfl
  have F32 : Fun K "_law_derives" "_law_derives" st__law_derives (f ._law_derives) (fd ._law_derives) := fun_mk (st := st__law_derives) l32 c32 k32
  have b32 : Binds K (fd ._law_derives) ["paper", "premises", "goal"] [] := F32.binds (ps := ["paper", "premises", "goal"]) fun _ _ _ _ _ _ us hl => match us, hl with | [_, _, _], _ => rfl
  have F33 : Fun K "_law_steps" "_law_steps" st__law_steps (f ._law_steps) (fd ._law_steps) := fun_mk (st := st__law_steps) l33 c33 k33
  have b33 : Binds K (fd ._law_steps) ["paper"] [] := F33.binds (ps := ["paper"]) fun _ _ _ _ _ _ us hl => match us, hl with | [_], _ => rfl
  have F34 : Fun K "_law_count" "_law_count" st__law_count (f ._law_count) (fd ._law_count) := fun_mk (st := st__law_count) l34 c34 k34
  have b34 : Binds K (fd ._law_count) ["kind", "world"] [] := F34.binds (ps := ["kind", "world"]) fun _ _ _ _ _ _ us hl => match us, hl with | [_, _], _ => rfl
  have F35 : Fun K "_law_entry" "_law_entry" st__law_entry (f ._law_entry) (fd ._law_entry) := fun_mk (st := st__law_entry) l35 c35 k35
  have b35 : Binds K (fd ._law_entry) ["told", "base", "place"] [] := F35.binds (ps := ["told", "base", "place"]) fun _ _ _ _ _ _ us hl => match us, hl with | [_, _, _], _ => rfl
  have F36 : Fun K "_law_table" "_law_table" st__law_table (f ._law_table) (fd ._law_table) := fun_mk (st := st__law_table) l36 c36 k36
  have b36 : Binds K (fd ._law_table) ["part", "world", "values", "kind"] [] := F36.binds (ps := ["part", "world", "values", "kind"]) fun _ _ _ _ _ _ us hl => match us, hl with | [_, _, _, _], _ => rfl
  have F37 : Fun K "_law_left_value" "_law_left_value" st__law_left_value (f ._law_left_value) (fd ._law_left_value) := fun_mk (st := st__law_left_value) l37 c37 k37
  have b37 : Binds K (fd ._law_left_value) ["paper", "world", "values"] [] := F37.binds (ps := ["paper", "world", "values"]) fun _ _ _ _ _ _ us hl => match us, hl with | [_, _, _], _ => rfl
  have F38 : Fun K "_law_value" "_law_value" st__law_value (f ._law_value) (fd ._law_value) := fun_mk (st := st__law_value) l38 c38 k38
  have b38 : Binds K (fd ._law_value) ["paper", "world", "values"] [] := F38.binds (ps := ["paper", "world", "values"]) fun _ _ _ _ _ _ us hl => match us, hl with | [_, _, _], _ => rfl
  have F39 : Fun K "_law_parts" "_law_parts" st__law_parts (f ._law_parts) (fd ._law_parts) := fun_mk (st := st__law_parts) l39 c39 k39
  have b39 : Binds K (fd ._law_parts) ["kind"] [] := F39.binds (ps := ["kind"]) fun _ _ _ _ _ _ us hl => match us, hl with | [_], _ => rfl
  have F40 : Fun K "_law_bases" "_law_bases" st__law_bases (f ._law_bases) (fd ._law_bases) := fun_mk (st := st__law_bases) l40 c40 k40
  have b40 : Binds K (fd ._law_bases) ["kinds"] [] := F40.binds (ps := ["kinds"]) fun _ _ _ _ _ _ us hl => match us, hl with | [_], _ => rfl
  have F41 : Fun K "_law_most" "_law_most" st__law_most (f ._law_most) (fd ._law_most) := fun_mk (st := st__law_most) l41 c41 k41
  have b41 : Binds K (fd ._law_most) ["kinds", "world"] [] := F41.binds (ps := ["kinds", "world"]) fun _ _ _ _ _ _ us hl => match us, hl with | [_, _], _ => rfl
  have F42 : Fun K "_law_world" "_law_world" st__law_world (f ._law_world) (fd ._law_world) := fun_mk (st := st__law_world) l42 c42 k42
  have b42 : Binds K (fd ._law_world) ["pool", "kinds", "limit"] [] := F42.binds (ps := ["pool", "kinds", "limit"]) fun _ _ _ _ _ _ us hl => match us, hl with | [_, _, _], _ => rfl
  have F43 : Fun K "law" "law" st_law (f .law) (fd .law) := fun_mk (st := st_law) l43 c43 k43
  have b43 : Binds K (fd .law) ["script"] [] := F43.binds (ps := ["script"]) fun _ _ _ _ _ _ us hl => match us, hl with | [_], _ => rfl
  let cl : Nat → Addr := fun i => ([xc0] : List Addr).getD i 0
  let tb : Nat → Addr := fun i => ([td0] : List Addr).getD i 0
  have T : Txt w K mg fd cv cu cl tb := ⟨F0, b0, PySem.W.mg_of X G a0, F1, b1, PySem.W.mg_of X G a1, F2, b2, PySem.W.mg_of X G a2, F3, b3, PySem.W.mg_of X G a3, F4, b4, PySem.W.mg_of X G a4, F5, b5, PySem.W.mg_of X G a5, F6, b6, PySem.W.mg_of X G a6, F7, b7, PySem.W.mg_of X G a7, F8, b8, PySem.W.mg_of X G a8, F9, b9, PySem.W.mg_of X G a9, F10, b10, PySem.W.mg_of X G a10, F11, b11, PySem.W.mg_of X G a11, F12, b12, PySem.W.mg_of X G a12, F13, b13, PySem.W.mg_of X G a13, F14, b14, PySem.W.mg_of X G a14, F15, b15, PySem.W.mg_of X G a15, F16, b16, PySem.W.mg_of X G a16, F17, b17, PySem.W.mg_of X G a17, F18, b18, PySem.W.mg_of X G a18, F19, b19, PySem.W.mg_of X G a19, F20, b20, PySem.W.mg_of X G a20, F21, b21, PySem.W.mg_of X G a21, F22, b22, PySem.W.mg_of X G a22, F23, b23, PySem.W.mg_of X G a23, F24, b24, PySem.W.mg_of X G a24, F25, b25, PySem.W.mg_of X G a25, F26, b26, PySem.W.mg_of X G a26, F27, b27, PySem.W.mg_of X G a27, F28, b28, PySem.W.mg_of X G a28, F29, b29, PySem.W.mg_of X G a29, F30, b30, PySem.W.mg_of X G a30, F31, b31, PySem.W.mg_of X G a31, F32, b32, PySem.W.mg_of X G a32, F33, b33, PySem.W.mg_of X G a33, F34, b34, PySem.W.mg_of X G a34, F35, b35, PySem.W.mg_of X G a35, F36, b36, PySem.W.mg_of X G a36, F37, b37, PySem.W.mg_of X G a37, F38, b38, PySem.W.mg_of X G a38, F39, b39, PySem.W.mg_of X G a39, F40, b40, PySem.W.mg_of X G a40, F41, b41, PySem.W.mg_of X G a41, F42, b42, PySem.W.mg_of X G a42, F43, b43, PySem.W.mg_of X G a43, PySem.W.mg_none_of X G z0, PySem.W.mg_none_of X G z1, PySem.W.mg_none_of X G z2, PySem.W.mg_none_of X G z3, PySem.W.mg_none_of X G z4, PySem.W.mg_none_of X G z5, PySem.W.mg_none_of X G z6, PySem.W.mg_none_of X G z7, PySem.W.mg_none_of X G z8, PySem.W.mg_none_of X G z9, PySem.W.mg_none_of X G z10, PySem.W.mg_none_of X G z11, PySem.W.mg_none_of X G z12, ⟨PySem.W.mg_of X G y0, ⟨_, rfl⟩, fun _ _ => .int _⟩, ⟨PySem.W.mg_of X G y1, ⟨_, rfl⟩, fun _ _ => .str (by decide +kernel)⟩, ⟨PySem.W.mg_of X G y2, ⟨_, rfl⟩, fun _ _ => .int _⟩, ⟨PySem.W.mg_of X G y3, ⟨_, rfl⟩, fun _ _ => .str (by decide +kernel)⟩, PySem.W.mg_of X G u0, ⟨PySem.W.mg_of X G u0, ve0, vk0, vs0, vt0⟩, PySem.W.mg_of X G ty0, ⟨(List.forall_mem_cons.mpr ⟨⟨.ref f4, ⟨_, _, _, tl0, tk0, tv0_0, rfl⟩, fun _ _ => .raw _⟩, (List.forall_mem_cons.mpr ⟨⟨.ref f5, ⟨_, _, _, tl0, tk0, tv0_1, rfl⟩, fun _ _ => .raw _⟩, (List.forall_mem_cons.mpr ⟨⟨.ref f6, ⟨_, _, _, tl0, tk0, tv0_2, rfl⟩, fun _ _ => .raw _⟩, (List.forall_mem_cons.mpr ⟨⟨.ref f7, ⟨_, _, _, tl0, tk0, tv0_3, rfl⟩, fun _ _ => .raw _⟩, (List.forall_mem_cons.mpr ⟨⟨.ref f8, ⟨_, _, _, tl0, tk0, tv0_4, rfl⟩, fun _ _ => .raw _⟩, (List.forall_mem_cons.mpr ⟨⟨.ref f9, ⟨_, _, _, tl0, tk0, tv0_5, rfl⟩, fun _ _ => .raw _⟩, (List.forall_mem_cons.mpr ⟨⟨.ref f10, ⟨_, _, _, tl0, tk0, tv0_6, rfl⟩, fun _ _ => .raw _⟩, fun p hp => nomatch hp⟩)⟩)⟩)⟩)⟩)⟩)⟩)⟩⟩
  exact ⟨I, fd .law, fun s v => .of_eq rfl, fun base _ _ => (oks T LV).o_law⟩
theorem walk (LV : Nat) (hLV : Room LV callerA) (good : ∀ [Fa] (ns : List Int), ns.length ≤ 63 → ∃ S, tab LV .law [.ref 0] [.rol (ns.map D.int)] = .ok (.bl true) S) {l : PySem.W.OpenLaw} {q : Program} {loose : List Str} {XP : (Str → Option Value) → Heap → Prop} {YP : World → Heap → Prop} {d : DefRec} {K : Params → PySem.W.Frag} (hn : l.most = some 63) (hdf : d.params.defaults = [])
    (hY : ∀ (w : World) (h : Heap), YP w h → (K w.params).In h)
    (F : ∀ (w : World) (mg : Str → Option Value) (fa : Addr) (h : Heap), (K w.params).In h → h.Ns mainGlobals mg → mg d.name = some (.ref fa) →
      ∃ _ : Fa, ∃ fd : FuncData, (∀ (s : Shared) (u : Value), BindsTo s fd ⟨[u], []⟩ [("script", u)]) ∧ ∀ base : Heap, (K w.params).In base → base.Ns mainGlobals mg → FnOk l.prog w (K w.params) mg base (L2.CX l.prog w) LV fa fd ["script"] (rdF ⟨K w.params, mg, W0⟩ (tab LV .law))) :
    PySem.W.WalkO q loose XP YP l.row.toRowW d [] (fun f vs => PySem.call f vs) :=
  L2.walk_of (n := 63) (k := LV) (x := "script") (CX := fun w => L2.CX l.prog w) (sp := fun w vs H Q E => ∀ I : Fa, rdL (K w.params) (@tab I LV .law) vs H Q E) hn (by decide) hdf hLV hY
    (fun w mg fa h KX G hm => by
      obtain ⟨I, fd, hb, hF⟩ := F w mg fa h KX G hm
      exact ⟨fd, hb, fun base kb gb => (hF base kb gb).imp fun vs H Q E h => rdL_F (h I)⟩)
    (fun w H a ns hl hO hS I => law_sp hO hS (@good I ns hl)) fun w H s e s' z => by
      obtain ⟨_, _, _, _, _, _, _, _, _, _, _, _, z⟩ := z
      exact z.elim
end Lw

set_option Elab.async false
set_option linter.all false
set_option maxRecDepth 100000
namespace Lw
open PySem L2 Dl
/-! ## tools of this law -/
theorem tgU_ {ts : List (D → SX)} {ds : List D} {ρ : Dl.Env} {S : Store} (h : ds.length = ts.length) : tgU ts (.tup ds) ρ S = tgL ts ds ρ S := by
  show (if ds.length = ts.length then tgL ts ds else sNo) ρ S = _
  rw [if_pos h]
theorem tgU_l {ts : List (D → SX)} {ds : List D} {ρ : Dl.Env} {S : Store} {l : Nat} (hl : lstAt S l = some ds) (h : ds.length = ts.length) : tgU ts (.ref l) ρ S = tgL ts ds ρ S := by
  show (match lstAt S l with
    | some ds => if ds.length = ts.length then tgL ts ds ρ S else .no
    | none => .no) = _
  rw [hl]
  exact if_pos h
noncomputable def kTab (L : List (Str × D)) : Dl.R D → Dl.R D
  | .ok y S => toR (gTab L .non y S)
  | .ex x S => .ex x S
  | .no => .no
theorem eTab_ {L : List (Str × D)} {f : EX} {ρ : Dl.Env} {S : Store} : eTab L f ρ S = kTab L (f ρ S) := by show (f ρ S).bind _ = _; cases f ρ S <;> rfl
theorem kTab_ {L : List (Str × D)} {y : D} {S : Store} : kTab L (.ok y S) = toR (gTab L .non y S) := rfl
theorem sX_ {x : Str} {ρ : Dl.Env} {S : Store} : sX x ρ S = .ex ⟨x, []⟩ ρ S := rfl
/-! ### stores -/
mutual
theorem wf_mono {n m : Nat} (h : n ≤ m) : ∀ {d : D}, d.wf n = true → d.wf m = true
  | .non, _ => rfl
  | .bl _, _ => rfl
  | .int _, _ => rfl
  | .str _, _ => rfl
  | .tup xs, q => wfs_mono h (show wfs n xs = true from q)
  | .ref l, q => by
    have q' : l < n := of_decide_eq_true q
    exact decide_eq_true (by omega)
  | .raw _, _ => rfl
theorem wfs_mono {n m : Nat} (h : n ≤ m) : ∀ {ds : List D}, wfs n ds = true → wfs m ds = true
  | [], _ => rfl
  | d :: ds, q => by
    have q' : (d.wf n && wfs n ds) = true := q
    rw [Bool.and_eq_true] at q'
    show (d.wf m && wfs m ds) = true
    rw [wf_mono h q'.1, wfs_mono h q'.2]
    rfl
end
theorem cwf_mono {n m : Nat} (h : n ≤ m) {c : Cell} (q : Cell.wf n c = true) : Cell.wf m c = true := by
  cases c with
  | lst xs => exact wfs_mono h q
  | rol xs => exact wfs_mono h q
  | dic kvs => exact wfs_mono h q
  | gone => rfl
theorem cwf_flat {n : Nat} {c : Cell} (q : Cell.flat c = true) : Cell.wf n c = true := by
  cases c with
  | lst xs => exact wfs_flat q
  | rol xs => exact wfs_flat q
  | dic kvs => exact wfs_flat q
  | gone => rfl
/-- no cell holds an address beyond the store -/
def SOK (S : Store) : Prop := ∀ c ∈ S, Cell.wf S.length c = true
theorem SOK.wf {S : Store} {n : Nat} (h : SOK S) (e : S.length = n) : SWf n S = true := by
  subst e
  exact List.all_eq_true.mpr h
theorem SOK.set {S : Store} {i : Nat} {c : Cell} (h : SOK S) (hc : Cell.flat c = true) : SOK (S.set i c) := fun x hx => by
  rw [List.length_set]
  rcases List.mem_or_eq_of_mem_set hx with q | q
  · exact h x q
  · rw [q]; exact cwf_flat hc
theorem SOK.push {S : Store} {c : Cell} (h : SOK S) (hc : Cell.wf S.length c = true) : SOK (S ++ [c]) := fun x hx => by
  have l : S.length ≤ (S ++ [c]).length := by rw [List.length_append]; omega
  rcases List.mem_append.mp hx with q | q
  · exact cwf_mono l (h x q)
  · rw [List.mem_singleton.mp q]; exact cwf_mono l hc
theorem SOK.pushF {S : Store} {c : Cell} (h : SOK S) (hc : Cell.flat c = true) : SOK (S ++ [c]) := h.push (cwf_flat hc)
theorem get_end' {S : Store} {c : Cell} {l : Nat} (h : l = S.length) : (S ++ [c])[l]? = some c := by rw [h]; exact get_end
theorem set_end' {S : Store} {c d : Cell} {l : Nat} (h : l = S.length) : (S ++ [c]).set l d = S ++ [d] := by rw [h]; exact set_end
theorem set_keep {S : Store} {p q : Nat} {c d : Cell} (h : S[q]? = some c) (n : p ≠ q) : (S.set p d)[q]? = some c := by rw [List.getElem?_set_ne n]; exact h
theorem ne_end {S : Store} {p : Nat} {c : Cell} (h : S[p]? = some c) : p ≠ S.length := Nat.ne_of_lt (get_lt h)
theorem chk_app {k : Chk} {T : Store} (S : Store) (h : chkOk k T) : chkOk k (T ++ S) := fun p hp => by
  have q := h p hp
  unfold lstAt at q ⊢
  cases e : T[p.1]? with
  | none => rw [e] at q; exact nomatch q
  | some c => rw [get_app e]; rw [e] at q; exact q
theorem lstAt_app {T : Store} (S : Store) {l : Nat} {xs : List D} (h : lstAt T l = some xs) : lstAt (T ++ S) l = some xs := chk_app (k := [(l, xs)]) S (chk_one h) _ (List.mem_singleton.mpr rfl)
theorem lstAt_lt {T : Store} {l : Nat} {xs : List D} (h : lstAt T l = some xs) : l < T.length := by
  unfold lstAt at h
  cases e : T[l]? with
  | none => rw [e] at h; exact nomatch h
  | some c => exact get_lt e
theorem seq_step {a b : SX} {ρ ρ' : Dl.Env} {S S' : Store} {o : Dl.Out} (h1 : a ρ S = .nx ρ' S') (h2 : b ρ' S' = o) : sQ a b ρ S = o := by rw [sQ_, h1]; exact h2
theorem isi_ss {t : Str} {S : Store} : gIsi .str [.str t, .raw (.ty "str")] S = some (.bl true, S) := by unfold gIsi; exact if_pos rfl
theorem isi_st {t : List D} {S : Store} : gIsi .str [.tup t, .raw (.ty "str")] S = some (.bl false, S) := by unfold gIsi; exact if_pos rfl
theorem isi_tt {t : List D} {S : Store} : gIsi .tup [.tup t, .raw (.ty "tuple")] S = some (.bl true, S) := by unfold gIsi; exact if_pos rfl
theorem runC_all {k : Chk} {ρ : Dl.Env} {l : Nat} {g : Cg} {ft : TX} {fe : EX} (val : D → D) (keep : D → Bool) : ∀ (ds acc : List D) (T : Store), l = T.length → acc.length + ds.length ≤ 1000000 → (∀ S, chkOk k T → chkOk k (T ++ S)) → chkOk k T →
    (∀ d ∈ ds, ∃ ρ1, g.put d ρ = some ρ1 ∧ ∀ a, ft ρ1 (T ++ [Cell.lst a]) = .ok (keep d) (T ++ [Cell.lst a]) ∧ (keep d = true → fe ρ1 (T ++ [Cell.lst a]) = .ok (val d) (T ++ [Cell.lst a]))) →
    runC l ρ g ft fe k ds (T ++ [Cell.lst acc]) = .ok (.ref l) (T ++ [Cell.lst (acc ++ (ds.filter keep).map val)])
  | [], acc, T, hl, hz, hk, hk0, _ => by
    unfold runC
    rw [if_pos (hk _ hk0)]
    simp
  | d :: ds, acc, T, hl, hz, hk, hk0, hd => by
    obtain ⟨ρ1, h1, h2⟩ := hd d (List.mem_cons_self ..)
    obtain ⟨h3, h4⟩ := h2 acc
    have hz' : acc.length + (ds.length + 1) ≤ 1000000 := hz
    unfold runC
    rw [if_pos (hk _ hk0)]
    simp only [h1, h3]
    cases hkd : keep d with
    | false =>
      simp only
      rw [runC_all val keep ds acc T hl (by omega) hk hk0 fun x hx => hd x (List.mem_cons_of_mem _ hx), List.filter_cons_of_neg (by rw [hkd]; exact Bool.false_ne_true)]
    | true =>
      have h4' := h4 hkd
      subst hl
      simp only [h4', get_end]
      rw [if_pos (show acc.length < LIM by show acc.length < 16777216; omega), set_end, runC_all val keep ds (acc ++ [val d]) T rfl (by rw [List.length_append]; simp only [List.length_singleton]; omega) hk hk0 fun x hx => hd x (List.mem_cons_of_mem _ hx),
        List.filter_cons_of_pos hkd, List.map_cons, List.append_assoc]
      rfl
/-! ### == of lists -/
theorem deps_str : ∀ xs : List Str, deps (xs.map D.str) = 0
  | [] => rfl
  | x :: xs => by show max 0 (deps (xs.map D.str)) = 0; rw [deps_str xs]; rfl
def sts (xs : List Str) : List D := xs.map D.str
theorem sts_flat : ∀ xs : List Str, flats (sts xs) = true
  | [] => rfl
  | x :: xs => by show (true && flats (sts xs)) = true; rw [sts_flat xs]; rfl
theorem sts_len (xs : List Str) : (sts xs).length = xs.length := List.length_map ..
theorem sts_app (xs ys : List Str) : sts (xs ++ ys) = sts xs ++ sts ys := List.map_append ..
theorem sts_deqs : ∀ xs : List Str, deqs (sts xs) (sts xs) = true
  | [] => rfl
  | x :: xs => by show ((x == x) && deqs (sts xs) (sts xs)) = true; rw [sts_deqs xs, beq_self_eq_true]; rfl
theorem asP_lst {S : Store} {l : Nat} {xs : List D} (h : lstAt S l = some xs) (hf : flats xs = true) : asP S (.ref l) = some (.list (toPys xs)) := by
  unfold asP
  rw [if_neg (show ¬ (D.ref l).flat = true from Bool.false_ne_true)]
  simp only [h, hf, if_true]
theorem gEq_sts {S : Store} {l r : Nat} {xs : List Str} (h1 : lstAt S l = some (sts xs)) (h2 : lstAt S r = some (sts xs)) : gEq (.ref l) (.ref r) S = some (.bl true, S) := by
  unfold gEq gEqB
  rw [asP_lst h1 (sts_flat xs), asP_lst h2 (sts_flat xs)]
  have e : (PyData.list (toPys (sts xs))).depth ≤ 64 := by
    have q := depth_toPy (.tup (sts xs))
    have q' : PyData.depthAll (toPys (sts xs)) + 1 = deps (sts xs) + 1 := q
    show PyData.depthAll (toPys (sts xs)) + 1 ≤ 64
    rw [q', show deps (sts xs) = 0 from deps_str xs]
    decide
  show Option.map _ (if (PyData.list (toPys (sts xs))).depth ≤ 64 then some (PyData.eqv (.list (toPys (sts xs))) (.list (toPys (sts xs)))) else none) = _
  rw [if_pos e]
  show some (D.bl (PyData.eqvAll (toPys (sts xs)) (toPys (sts xs))), S) = _
  rw [eqvs_toPys (sts xs) (sts xs) (sts_flat xs) (sts_flat xs), sts_deqs]
def mixZ (x : Int) : Int :=
  let y := (x * x + 3 * x + 7919) % 1000003
  (y * y + 5 * y + 104729) % 998244353
def Pool (N : Nat) (P : List D) : Prop := ∃ a b c : Int, P = [.int a, .int b, .int c] ∧ 0 ≤ b ∧ b ≤ 10000000000 ∧ 0 ≤ c ∧ c ≤ N
theorem Pool.flat {N : Nat} {P : List D} (h : Pool N P) : flats P = true := by obtain ⟨a, b, c, rfl, _⟩ := h; rfl
theorem Pool.mono {N M : Nat} {P : List D} (h : Pool N P) (l : N ≤ M) : Pool M P := by obtain ⟨a, b, c, e, h1, h2, h3, h4⟩ := h; exact ⟨a, b, c, e, h1, h2, h3, by omega⟩
/-! ## atoms -/
def SM : List Nat := ("abcdefghijklmnopqrstuvwxyz0123456789" : Str).cps.toList
structure Base (b : Str) : Prop where
  all : ∀ c ∈ b.cps.toList, c ∈ SM
  fst : ∃ c, b.cps.toList[0]? = some c ∧ c ∈ ("abcdefghijklmnopqrstuvwxyz" : Str).cps.toList
  len : b.length ≤ 8
theorem sm_dot : ∀ c ∈ SM, c ≠ 46 := by decide +kernel
theorem Base.dot {b : Str} (h : Base b) : 46 ∉ b.cps.toList := fun q => sm_dot 46 (h.all 46 q) rfl
theorem Base.ne {b : Str} (h : Base b) : 1 ≤ b.length := by
  obtain ⟨c, hc, _⟩ := h.fst
  have q := (List.getElem?_eq_some_iff.mp hc).1
  show 1 ≤ b.cps.size
  rw [← Array.length_toList]; omega
def atT (b : Str) (m : Int) : Str := if m = 0 then b else b ++ "." ++ (toString m : Str)
theorem dot_ : ("." : Str) = ⟨#[46]⟩ := by decide +kernel
theorem dot_list : ("." : Str).cps.toList = [46] := by decide +kernel
theorem app_list (a b : Str) : (a ++ b).cps.toList = a.cps.toList ++ b.cps.toList := Array.toList_append
theorem app_len (a b : Str) : (a ++ b).length = a.length + b.length := str_app_len a b
theorem dot_len : ("." : Str).length = 1 := by decide +kernel
theorem len_list (a : Str) : a.cps.toList.length = a.length := Array.length_toList
theorem num_len {m : Int} (h0 : 0 ≤ m) (h1 : m ≤ 999999) : (toString m : Str).length ≤ 6 := PyProof.Rows.toString_length_le h0 (by decide) (by omega)
theorem log_small {m : Int} (h0 : 0 ≤ m) (h1 : m ≤ 999999) : m.natAbs.log2 < 1920 := by
  by_cases e : m.natAbs = 0
  · rw [e]; decide
  · have : m.natAbs.log2 < 20 := (Nat.log2_lt e).mpr (by omega)
    omega
theorem gStr_ {m : Int} {S : Store} (h0 : 0 ≤ m) (h1 : m ≤ 999999) : gStr [.int m] S = some (.str (toString m), S) := if_pos ⟨log_small h0 h1, by have := num_len h0 h1; show _ ≤ 16777216; omega⟩
theorem digs (n : Nat) : ∀ c ∈ (Nat.toDigits 10 n).map Char.toNat, c ∈ ("0123456789" : Str).cps.toList := by
  induction n using Nat.strongRecOn with
  | _ n ih =>
    have one : ∀ d : Nat, d < 10 → (Nat.digitChar d).toNat ∈ ("0123456789" : Str).cps.toList := by decide +kernel
    by_cases h : n < 10
    · rw [Nat.toDigits_of_lt_base h]
      intro c hc
      rw [List.mem_singleton.mp hc]
      exact one n h
    · have hm : n % 10 < 10 := Nat.mod_lt n (by decide)
      have t : Nat.toDigits 10 (n / 10) ++ Nat.toDigits 10 (n % 10) = Nat.toDigits 10 (10 * (n / 10) + n % 10) := Nat.toDigits_append_toDigits (by decide) (by omega) hm
      rw [Nat.div_add_mod] at t
      rw [← t, List.map_append, Nat.toDigits_of_lt_base hm]
      intro c hc
      rcases List.mem_append.mp hc with q | q
      · exact ih (n / 10) (by omega) c q
      · rw [List.mem_singleton.mp q]
        exact one _ hm
theorem dig_head (n : Nat) (h0 : 0 < n) : ∃ c, ((Nat.toDigits 10 n).map Char.toNat)[0]? = some c ∧ c ≠ 48 := by
  induction n using Nat.strongRecOn with
  | _ n ih =>
    have one : ∀ d : Nat, d < 10 → 0 < d → (Nat.digitChar d).toNat ≠ 48 := by decide +kernel
    by_cases h : n < 10
    · rw [Nat.toDigits_of_lt_base h]
      exact ⟨_, rfl, one n h h0⟩
    · have hm : n % 10 < 10 := Nat.mod_lt n (by decide)
      have t : Nat.toDigits 10 (n / 10) ++ Nat.toDigits 10 (n % 10) = Nat.toDigits 10 (10 * (n / 10) + n % 10) := Nat.toDigits_append_toDigits (by decide) (by omega) hm
      rw [Nat.div_add_mod] at t
      rw [← t, List.map_append]
      obtain ⟨c, h1, h2⟩ := ih (n / 10) (by omega) (by omega)
      exact ⟨c, by rw [List.getElem?_append_left (List.getElem?_eq_some_iff.mp h1).1]; exact h1, h2⟩
theorem num_list {m : Int} (h0 : 0 ≤ m) : (toString m : Str).cps.toList = (Nat.toDigits 10 m.toNat).map Char.toNat := by
  obtain ⟨n, rfl⟩ := Int.eq_ofNat_of_zero_le h0
  exact PySem.W.KIN.signs_num n
theorem num_dig {m : Int} (h0 : 0 ≤ m) : ∀ c ∈ (toString m : Str).cps.toList, c ∈ ("0123456789" : Str).cps.toList := by rw [num_list h0]; exact digs _
theorem dig_dot : ∀ c ∈ ("0123456789" : Str).cps.toList, c ≠ 46 := by decide +kernel
theorem num_dot {m : Int} (h0 : 0 ≤ m) : 46 ∉ (toString m : Str).cps.toList := fun q => dig_dot 46 (num_dig h0 46 q) rfl
/-- its split at the dot -/
theorem ext_list {a b : Str} (h : a.cps.toList = b.cps.toList) : a = b := by
  cases a; cases b
  exact congrArg Str.mk (Array.toList_inj.mp h)
theorem split_atom {b : Str} {m : Int} (hb : Base b) (h0 : 0 ≤ m) : Txt.split (atT b m) "." = if m = 0 then [b] else [b, (toString m : Str)] := by
  unfold atT
  by_cases e : m = 0
  · rw [if_pos e, if_pos e]
    have q := TL.split_join (y := ".") (s := 46) (S := []) dot_list (by decide +kernel) (parts := [b]) (by simp) (fun p hp => by rw [List.mem_singleton.mp hp]; exact hb.dot)
    rw [show Txt.join "." [b] = b from rfl] at q
    exact q
  · rw [if_neg e, if_neg e]
    have q := TL.split_join (y := ".") (s := 46) (S := []) dot_list (by decide +kernel) (parts := [b, (toString m : Str)]) (by simp) (fun p hp => by
      rcases List.mem_cons.mp hp with rfl | hp
      · exact hb.dot
      · rw [List.mem_singleton.mp hp]; exact num_dot h0)
    rw [show Txt.join "." [b, (toString m : Str)] = b ++ "." ++ (toString m : Str) from ext_list (by
      rw [TL.join_eq]
      have t := TL.tl_join "." [b, (toString m : Str)]
      rw [show (Str.join "." [b, (toString m : Str)]).cps.toList = _ from t, app_list, app_list, dot_list]
      show b.cps.toList ++ (("." : Str).cps.toList ++ (toString m : Str).cps.toList) = _
      rw [dot_list, List.append_assoc])] at q
    exact q
theorem atT_len {b : Str} {m : Int} (hb : Base b) (h0 : 0 ≤ m) (h1 : m ≤ 999999) : (atT b m).length ≤ 15 := by
  unfold atT
  have l1 := num_len h0 h1
  have l2 := hb.len
  have l3 := dot_len
  by_cases e : m = 0
  · rw [if_pos e]; omega
  · rw [if_neg e, app_len, app_len]; omega
theorem gSplit_ {t : Str} {ps : List Str} {S : Store} (h : Txt.split t "." = ps) (hl : t.length ≤ 100) (hp : ∀ p ∈ ps, p.length ≤ 100) : gSplit (.str t) [.str "."] S = some (.ref S.length, S ++ [Cell.lst (sts ps)]) := by
  show (if ("." : Str).length ≠ 0 ∧ t.length + 2 ≤ LIM ∧ ((Txt.split t ".").all fun p => decide (p.length ≤ LIM)) = true then some (D.ref S.length, S ++ [Cell.lst ((Txt.split t ".").map .str)]) else none) = _
  rw [h, if_pos ⟨by rw [dot_len]; decide, by show _ ≤ 16777216; omega, List.all_eq_true.mpr fun p q => decide_eq_true (by have := hp p q; show _ ≤ 16777216; omega)⟩]
  rfl

theorem dotted {S : Store} {b : Str} {m : Int} (hb : Base b) (h0 : 0 < m) (h1 : m ≤ 999999) : gStr [.int m] S = some (.str (toString m), S) ∧ gAdd (.str b) (.str ".") S = some (.str (b ++ "."), S) ∧ gAdd (.str (b ++ ".")) (.str (toString m)) S = some (.str (atT b m), S) := by
  have l1 := num_len (by omega) h1
  have l2 := app_len b "."
  have l3 := dot_len
  have l4 := hb.len
  refine ⟨gStr_ (by omega) h1, gAdd_str (by omega), ?_⟩
  rw [gAdd_str (by omega)]
  unfold atT
  rw [if_neg (by omega)]
def AtS (t : Str) : Prop := ∃ b m, t = atT b m ∧ Base b ∧ 0 ≤ m ∧ m ≤ 999999
theorem base_at {b : Str} (hb : Base b) : AtS b := ⟨b, 0, by unfold atT; rw [if_pos rfl], hb, by decide, by decide⟩
/-! ## a base, a numbered atom -/
theorem sm36 : (("abcdefghijklmnopqrstuvwxyz" : Str) ++ ("0123456789" : Str)).cps.toList = SM := by decide +kernel
theorem small_len : ("abcdefghijklmnopqrstuvwxyz" : Str).length = 26 := by decide +kernel
theorem dig_len : ("0123456789" : Str).length = 10 := by decide +kernel
theorem small26_len : ("abcdefghijklmnopqrstuvwxyz" : Str).cps.toList.length = 26 := by decide +kernel
theorem sm_len : SM.length = 36 := by decide +kernel
theorem small_sm : ∀ c ∈ ("abcdefghijklmnopqrstuvwxyz" : Str).cps.toList, c ∈ SM := by decide +kernel
/-! ## kinds as trees -/
def Sg (s : Str) : Prop := s = "/" ∨ s = ">" ∨ s = "*"
inductive KT where
  | leaf (t : Str) | node (s : Str) (a b : KT)
namespace KT
def d : KT → D
  | leaf t => .str t
  | node s a b => .tup [.str s, a.d, b.d]
def at_ : KT → List Str
  | leaf t => [t]
  | node _ a b => a.at_ ++ b.at_
def ok (P : Str → Prop) : KT → Prop
  | leaf t => P t
  | node s a b => Sg s ∧ a.ok P ∧ b.ok P
theorem flat : ∀ k : KT, k.d.flat = true
  | leaf t => rfl
  | node s a b => by show (true && (a.d.flat && (b.d.flat && true))) = true; rw [flat a, flat b]; rfl
theorem pos : ∀ k : KT, 1 ≤ k.at_.length
  | leaf t => Nat.le_refl _
  | node s a b => by
    have := pos a
    show 1 ≤ (a.at_ ++ b.at_).length
    rw [List.length_append]; omega
theorem dep : ∀ k : KT, k.d.dep + 1 ≤ k.at_.length
  | leaf t => Nat.le_refl _
  | node s a b => by
    have ha := dep a
    have hb := dep b
    have pa := pos a
    have pb := pos b
    show max 0 (max a.d.dep (max b.d.dep 0)) + 1 + 1 ≤ (a.at_ ++ b.at_).length
    rw [List.length_append]; omega
theorem len_node {s : Str} {a b : KT} : (node s a b).at_.length = a.at_.length + b.at_.length := List.length_append ..
end KT
theorem ix0 {s a b : D} {S : Store} : gIx (.tup [s, a, b]) (.int 0) S = some (s, S) := rfl
theorem ix1 {s a b : D} {S : Store} : gIx (.tup [s, a, b]) (.int 1) S = some (a, S) := rfl
theorem ix2 {s a b : D} {S : Store} : gIx (.tup [s, a, b]) (.int 2) S = some (b, S) := rfl
theorem signs3 {d : Int} (h0 : 0 ≤ d) (h1 : d < 3) (S : Store) : ∃ s : Str, Sg s ∧ gIx (.str "/>*") (.int d) S = some (.str s, S) := by
  have h : d = 0 ∨ d = 1 ∨ d = 2 := by omega
  rcases h with rfl | rfl | rfl
  · exact ⟨"/", .inl rfl, (gIx_str (c := 47) (by decide +kernel)).trans (by rw [show (⟨#[47]⟩ : Str) = "/" by decide +kernel])⟩
  · exact ⟨">", .inr (.inl rfl), (gIx_str (c := 62) (by decide +kernel)).trans (by rw [show (⟨#[62]⟩ : Str) = ">" by decide +kernel])⟩
  · exact ⟨"*", .inr (.inr rfl), (gIx_str (c := 42) (by decide +kernel)).trans (by rw [show (⟨#[42]⟩ : Str) = "*" by decide +kernel])⟩
def ins (xs : List Int) : List D := xs.map D.int
theorem ins_flat : ∀ xs : List Int, flats (ins xs) = true
  | [] => rfl
  | x :: xs => by show (true && flats (ins xs)) = true; rw [ins_flat xs]; rfl
theorem ins_len (xs : List Int) : (ins xs).length = xs.length := List.length_map ..
theorem ins_app (xs ys : List Int) : ins (xs ++ ys) = ins xs ++ ins ys := List.map_append ..
theorem ins_D : ∀ xs : List Int, intsD (ins xs) = some xs
  | [] => rfl
  | x :: xs => by show (intsD (ins xs)).map (x :: ·) = _; rw [ins_D xs]; rfl
theorem gSum_ {S : Store} {l : Nat} {xs : List Int} (h : lstAt S l = some (ins xs)) : gSum [.ref l] S = some (.int xs.sum, S) := by
  show ((lstAt S l).bind intsD).map (fun ns => (D.int ns.sum, S)) = _
  rw [h]
  show (intsD (ins xs)).map (fun ns => (D.int ns.sum, S)) = _
  rw [ins_D]
  rfl
def kds (ks : List KT) : List D := ks.map KT.d
theorem kds_flat : ∀ ks : List KT, flats (kds ks) = true
  | [] => rfl
  | k :: ks => by show (k.d.flat && flats (kds ks)) = true; rw [KT.flat k, kds_flat ks]; rfl
theorem kds_len (ks : List KT) : (kds ks).length = ks.length := List.length_map ..
theorem kds_app (ks js : List KT) : kds (ks ++ js) = kds ks ++ kds js := List.map_append ..
/-- a kind of at most 40 atoms -/
def Fit (k : KT) : Prop := k.ok AtS ∧ k.at_.length ≤ 40
theorem KTd_leaf {t : Str} : KT.d (.leaf t) = .str t := Dl.nr rfl
theorem KTd_node {s : Str} {a b : KT} : KT.d (.node s a b) = .tup [.str s, a.d, b.d] := Dl.nr rfl
theorem e1 : (("" : Str) = "/") = False := eq_false (by decide)
theorem e2 : (("" : Str) = ">") = False := eq_false (by decide)
theorem e3 : (("" : Str) = "*") = False := eq_false (by decide)
theorem q1 : (("/" : Str) = ">") = False := eq_false (by decide)
theorem q2 : (("/" : Str) = "*") = False := eq_false (by decide)
theorem q3 : ((">" : Str) = "/") = False := eq_false (by decide)
theorem q4 : ((">" : Str) = "*") = False := eq_false (by decide)
theorem q5 : (("*" : Str) = "/") = False := eq_false (by decide)
theorem q6 : (("*" : Str) = ">") = False := eq_false (by decide)
theorem flats_iff : ∀ {xs : List D}, flats xs = true ↔ ∀ x ∈ xs, x.flat = true
  | [] => ⟨fun _ x h => (nomatch h), fun _ => rfl⟩
  | x :: xs => by
    show (x.flat && flats xs) = true ↔ _
    rw [Bool.and_eq_true, flats_iff (xs := xs), List.forall_mem_cons]
theorem flats_app {xs ys : List D} (h : flats xs = true) (h2 : flats ys = true) : flats (xs ++ ys) = true := flats_iff.mpr fun x hx => by
  rcases List.mem_append.mp hx with z | z
  · exact flats_iff.mp h x z
  · exact flats_iff.mp h2 x z
theorem flats_take {xs : List D} (n : Nat) (h : flats xs = true) : flats (xs.take n) = true := flats_iff.mpr fun x hx => flats_iff.mp h x (List.mem_of_mem_take hx)
theorem flats_drop {xs : List D} (n : Nat) (h : flats xs = true) : flats (xs.drop n) = true := flats_iff.mpr fun x hx => flats_iff.mp h x (List.mem_of_mem_drop hx)
theorem flats_cons {x : D} {xs : List D} (h : x.flat = true) (h2 : flats xs = true) : flats (x :: xs) = true := flats_iff.mpr fun y hy => by
  rcases List.mem_cons.mp hy with rfl | z
  · exact h
  · exact flats_iff.mp h2 y z
theorem deps_kds : ∀ {ks : List KT} {m : Nat}, (∀ k ∈ ks, Fit k) → 40 ≤ m → deps (kds ks) ≤ m
  | [], _, _, _ => Nat.zero_le _
  | k :: ks, m, h, hm => by
    have h1 := KT.dep k
    have h2 := (h k (List.mem_cons_self ..)).2
    have h3 := deps_kds (ks := ks) (fun x hx => h x (List.mem_cons_of_mem _ hx)) hm
    show max k.d.dep (deps (kds ks)) ≤ m
    omega
theorem SOK.sx {S : Store} {L : List Cell} (h : SOK S) (hL : Dl.FL L) : SOK (Dl.sx S L) := fun c hc => by
  rcases List.mem_append.mp (show c ∈ S ++ L from hc) with z | z
  · exact cwf_mono (by rw [Dl.sx_len]; omega) (h c z)
  · exact cwf_flat (hL.mem z)
theorem gEqT {x y : List D} {S : Store} (hx : flats x = true) (hy : flats y = true) (hd : deps x ≤ 63) : gEq (.tup x) (.tup y) S = some (.bl (deqs x y), S) := gEq_flat hx hy (by show deps x + 1 ≤ 64; omega)
theorem rng_map {n : Nat} {lo : Int} {f : Nat → D} {g : D → D} (h : ∀ k, k < n → g (.int (lo + k)) = f k) : (rng lo n).map g = (List.range n).map f := by
  unfold rng
  rw [List.map_map]
  exact List.map_congr_left fun k hk => h k (List.mem_range.mp hk)
theorem deqs_ints : ∀ xs : List Int, deqs (xs.map D.int) (xs.map D.int) = true
  | [] => rfl
  | x :: xs => by show ((x == x) && deqs _ _) = true; rw [deqs_ints xs, beq_self_eq_true]; rfl
theorem ints_flat : ∀ xs : List Int, flats (xs.map D.int) = true
  | [] => rfl
  | x :: xs => by show (true && flats _) = true; rw [ints_flat xs]; rfl
theorem deps_ints : ∀ xs : List Int, deps (xs.map D.int) = 0
  | [] => rfl
  | x :: xs => by show max 0 (deps _) = 0; rw [deps_ints xs]; rfl
theorem gNe_ints {S : Store} {l r : Nat} {xs : List Int} (h1 : lstAt S l = some (xs.map D.int)) (h2 : lstAt S r = some (xs.map D.int)) : gNe (.ref l) (.ref r) S = some (.bl false, S) := by
  unfold gNe gEqB
  rw [asP_lst h1 (ints_flat xs), asP_lst h2 (ints_flat xs)]
  have e : (PyData.list (toPys (xs.map D.int))).depth ≤ 64 := by
    have q := depth_toPy (.tup (xs.map D.int))
    have q' : PyData.depthAll (toPys (xs.map D.int)) + 1 = deps (xs.map D.int) + 1 := q
    show PyData.depthAll (toPys (xs.map D.int)) + 1 ≤ 64
    rw [q', deps_ints xs]
    decide
  show Option.map _ (if (PyData.list (toPys (xs.map D.int))).depth ≤ 64 then some (PyData.eqv (.list (toPys (xs.map D.int))) (.list (toPys (xs.map D.int)))) else none) = _
  rw [if_pos e]
  show some (D.bl (!PyData.eqvAll (toPys (xs.map D.int)) (toPys (xs.map D.int))), S) = _
  rw [eqvs_toPys _ _ (ints_flat xs) (ints_flat xs), deqs_ints]
  rfl
theorem atI_mid {A B : List D} {x : D} {i : Nat} (h : A.length = i) : atI (A ++ x :: B) (i : Int) = some x := atI_nat (by rw [← h, List.getElem?_append_right (Nat.le_refl _), Nat.sub_self]; rfl)
theorem atI_mid1 {A B : List D} {x y : D} {i : Nat} (h : A.length = i) : atI (A ++ x :: y :: B) ((i : Int) + 1) = some y := by
  rw [show ((i : Int) + 1) = ((i + 1 : Nat) : Int) by omega]
  exact atI_nat (by rw [← h, List.getElem?_append_right (by omega), Nat.add_sub_cancel_left]; rfl)
theorem cut_mid1 {A B : List D} {i : Nat} (h : A.length = i) : cutD (A ++ B) none (some (i : Int)) = A := by
  rw [Dl.cut_take (by omega), Int.toNat_natCast]
  exact List.take_left' h
theorem cut_mid2 {A B : List D} {x : D} {i : Nat} (h : A.length = i) : cutD (A ++ x :: B) (some ((i : Int) + 1)) none = B := by
  rw [Dl.cut_drop (by omega), show ((i : Int) + 1).toNat = A.length + 1 by omega, ← List.drop_drop, List.drop_left' rfl]
  rfl
theorem cut_mid3 {A B : List D} {x y : D} {i : Nat} (h : A.length = i) : cutD (A ++ x :: y :: B) (some ((i : Int) + 2)) none = B := by
  rw [Dl.cut_drop (by omega), show ((i : Int) + 2).toNat = A.length + 2 by omega, ← List.drop_drop, List.drop_left' rfl]
  rfl
theorem take_mid {ks : List D} {i : Nat} {x : D} (h : ks[i]? = some x) : ks.take i ++ x :: ks.drop (i + 1) = ks := by
  have hl := get_lt h
  have e : ks.drop i = x :: ks.drop (i + 1) := by
    rw [List.drop_eq_getElem_cons hl]
    congr 1
    rw [List.getElem?_eq_getElem hl] at h
    exact Option.some.inj h
  rw [← e, List.take_append_drop]
theorem deq_self_str {d : D} {t : Str} (h : deq d (.str t) = true) : d = .str t := by
  cases d with
  | str x => exact congrArg D.str (eq_of_beq (show (x == t) = true from h))
  | _ => exact nomatch h
theorem SOK.st {S : Store} {p : Nat} {P : List D} {L : List Cell} (h : SOK S) (hP : flats P = true) (hL : Dl.FL L) : SOK (Dl.st S p P L) := fun c hc => by
  have q : SOK (S.set p (Cell.lst P)) := h.set (c := Cell.lst P) hP
  rcases List.mem_append.mp (show c ∈ S.set p (Cell.lst P) ++ L from hc) with z | z
  · exact cwf_mono (by rw [Dl.st_len, List.length_set]; omega) (q c z)
  · exact cwf_flat (hL.mem z)
theorem partL_free {c : Nat} {xs : List Nat} (h : c ∉ xs) : partL c xs = (xs, [], []) := if_neg h
theorem partL_at {c : Nat} {xs ys : List Nat} (h : c ∉ xs) : partL c (xs ++ c :: ys) = (xs, [c], ys) := by
  have hp : ∀ x ∈ xs, (x != c) = true := fun x hx => bne_iff_ne.mpr fun e => h (e ▸ hx)
  have hn : (c != c) = false := bne_self_eq_false c
  unfold partL
  rw [if_pos (List.mem_append.mpr (.inr (List.mem_cons_self ..))), List.takeWhile_append_of_pos hp, List.dropWhile_append_of_pos hp, List.takeWhile_cons_of_neg (by rw [hn]; exact Bool.false_ne_true), List.dropWhile_cons_of_neg (by rw [hn]; exact Bool.false_ne_true), List.append_nil]
  rfl
theorem str_back (x : Str) : (⟨x.cps.toList.toArray⟩ : Str) = x := by cases x with | mk a => show (⟨a.toList.toArray⟩ : Str) = _; rw [Array.toArray_toList]
theorem part_at {b : Str} {m : Int} (hb : Base b) (S : Store) : gPart (.str (atT b m)) [.str "."] S = some (.tup [.str b, .str ⟨(if m = 0 then [] else [46]).toArray⟩, .str (if m = 0 then ⟨#[]⟩ else (toString m : Str))], S) := by
  show (if ("." : Str).length = 1 then _ else none) = _
  rw [if_pos dot_len, show ("." : Str).cps.getD 0 0 = 46 by decide +kernel]
  unfold atT
  by_cases e : m = 0
  · rw [if_pos e, if_pos e, if_pos e, partL_free hb.dot]
    show some (D.tup [.str ⟨b.cps.toList.toArray⟩, _, _], S) = _
    rw [str_back]
  · rw [if_neg e, if_neg e, if_neg e, app_list, app_list, dot_list, List.append_assoc, List.singleton_append, partL_at hb.dot]
    show some (D.tup [.str ⟨b.cps.toList.toArray⟩, _, .str ⟨_⟩], S) = _
    rw [str_back]
/-! ### signs in texts -/
theorem chr_len (c : Nat) : (⟨#[c]⟩ : Str).length = 1 := rfl
theorem gIn_c {c : Nat} {b : Str} {S : Store} : gIn (.str ⟨#[c]⟩) (.str b) S = some (.bl (decide (c ∈ b.cps.toList)), S) := by
  show Option.map _ (if (⟨#[c]⟩ : Str).length = 1 then some (decide ((⟨#[c]⟩ : Str).cps.getD 0 0 ∈ b.cps.toList)) else none) = _
  rw [if_pos (chr_len c)]
  rfl
theorem gNin_c {c : Nat} {b : Str} {S : Store} : gNin (.str ⟨#[c]⟩) (.str b) S = some (.bl (!decide (c ∈ b.cps.toList)), S) := by
  show Option.map _ (if (⟨#[c]⟩ : Str).length = 1 then some (decide ((⟨#[c]⟩ : Str).cps.getD 0 0 ∈ b.cps.toList)) else none) = _
  rw [if_pos (chr_len c)]
  rfl
theorem chr_inj {a b : Nat} (h : (⟨#[a]⟩ : Str) = ⟨#[b]⟩) : a = b := by
  have := congrArg (fun s : Str => s.cps.toList) h
  exact (List.cons.inj this).1
def allC (S : Store) : Option (List Bool) → Option (D × Store)
  | some bs => some (.bl (bs.all id), S)
  | none => none
theorem gAll_r {S : Store} {l : Nat} : gAll [.ref l] S = allC S ((lstC S[l]?).bind bools) := by
  show ((lstAt S l).bind bools).map (fun bs => (D.bl (bs.all id), S)) = _
  rw [lstAt_C]
  cases (lstC S[l]?).bind bools <;> rfl
theorem allC_s {S : Store} {bs : List Bool} : allC S (some bs) = some (.bl (bs.all id), S) := Dl.nr rfl
theorem bools_true {α : Type} : ∀ xs : List α, bools (xs.map fun _ => D.bl true) = some (xs.map fun _ => true)
  | [] => rfl
  | x :: xs => by show (bools (xs.map fun _ => D.bl true)).map (true :: ·) = _; rw [bools_true xs]; rfl
theorem all_true {α : Type} : ∀ xs : List α, ((xs.map fun _ => true).all id) = true
  | [] => rfl
  | x :: xs => by show (true && (xs.map fun _ => true).all id) = true; rw [all_true xs]; rfl
theorem chars_map {x : Str} : (x.cps.toList.map fun c => D.str ⟨#[c]⟩).map (fun _ => D.bl true) = (x.cps.toList.map fun _ => D.bl true) := by rw [List.map_map]; rfl
theorem num_head {m : Int} (h0 : 0 < m) : ∃ c, (toString m : Str).cps.toList[0]? = some c ∧ c ≠ 48 := by
  rw [num_list (by omega)]
  exact dig_head m.toNat (by omega)
end Lw

set_option Elab.async false
set_option linter.all false
set_option maxRecDepth 100000
namespace Lw
open PySem L2 Dl
/-! ## names of rules -/
theorem r_ax_or : (("axiom" : Str) = "over right") = False := eq_false (by decide)
theorem r_ax_ur : (("axiom" : Str) = "under right") = False := eq_false (by decide)
theorem r_ax_pr : (("axiom" : Str) = "pair right") = False := eq_false (by decide)
theorem r_ax_ol : (("axiom" : Str) = "over left") = False := eq_false (by decide)
theorem r_ax_ul : (("axiom" : Str) = "under left") = False := eq_false (by decide)
theorem r_ax_pl : (("axiom" : Str) = "pair left") = False := eq_false (by decide)
theorem r_ax_ct : (("axiom" : Str) = "cut") = False := eq_false (by decide)
theorem r_or_ax : (("over right" : Str) = "axiom") = False := eq_false (by decide)
theorem r_or_ur : (("over right" : Str) = "under right") = False := eq_false (by decide)
theorem r_or_pr : (("over right" : Str) = "pair right") = False := eq_false (by decide)
theorem r_or_ol : (("over right" : Str) = "over left") = False := eq_false (by decide)
theorem r_or_ul : (("over right" : Str) = "under left") = False := eq_false (by decide)
theorem r_or_pl : (("over right" : Str) = "pair left") = False := eq_false (by decide)
theorem r_or_ct : (("over right" : Str) = "cut") = False := eq_false (by decide)
theorem r_ur_ax : (("under right" : Str) = "axiom") = False := eq_false (by decide)
theorem r_ur_or : (("under right" : Str) = "over right") = False := eq_false (by decide)
theorem r_ur_pr : (("under right" : Str) = "pair right") = False := eq_false (by decide)
theorem r_ur_ol : (("under right" : Str) = "over left") = False := eq_false (by decide)
theorem r_ur_ul : (("under right" : Str) = "under left") = False := eq_false (by decide)
theorem r_ur_pl : (("under right" : Str) = "pair left") = False := eq_false (by decide)
theorem r_ur_ct : (("under right" : Str) = "cut") = False := eq_false (by decide)
theorem r_pr_ax : (("pair right" : Str) = "axiom") = False := eq_false (by decide)
theorem r_pr_or : (("pair right" : Str) = "over right") = False := eq_false (by decide)
theorem r_pr_ur : (("pair right" : Str) = "under right") = False := eq_false (by decide)
theorem r_pr_ol : (("pair right" : Str) = "over left") = False := eq_false (by decide)
theorem r_pr_ul : (("pair right" : Str) = "under left") = False := eq_false (by decide)
theorem r_pr_pl : (("pair right" : Str) = "pair left") = False := eq_false (by decide)
theorem r_pr_ct : (("pair right" : Str) = "cut") = False := eq_false (by decide)
theorem r_ol_ax : (("over left" : Str) = "axiom") = False := eq_false (by decide)
theorem r_ol_or : (("over left" : Str) = "over right") = False := eq_false (by decide)
theorem r_ol_ur : (("over left" : Str) = "under right") = False := eq_false (by decide)
theorem r_ol_pr : (("over left" : Str) = "pair right") = False := eq_false (by decide)
theorem r_ol_ul : (("over left" : Str) = "under left") = False := eq_false (by decide)
theorem r_ol_pl : (("over left" : Str) = "pair left") = False := eq_false (by decide)
theorem r_ol_ct : (("over left" : Str) = "cut") = False := eq_false (by decide)
theorem r_ul_ax : (("under left" : Str) = "axiom") = False := eq_false (by decide)
theorem r_ul_or : (("under left" : Str) = "over right") = False := eq_false (by decide)
theorem r_ul_ur : (("under left" : Str) = "under right") = False := eq_false (by decide)
theorem r_ul_pr : (("under left" : Str) = "pair right") = False := eq_false (by decide)
theorem r_ul_ol : (("under left" : Str) = "over left") = False := eq_false (by decide)
theorem r_ul_pl : (("under left" : Str) = "pair left") = False := eq_false (by decide)
theorem r_ul_ct : (("under left" : Str) = "cut") = False := eq_false (by decide)
theorem r_pl_ax : (("pair left" : Str) = "axiom") = False := eq_false (by decide)
theorem r_pl_or : (("pair left" : Str) = "over right") = False := eq_false (by decide)
theorem r_pl_ur : (("pair left" : Str) = "under right") = False := eq_false (by decide)
theorem r_pl_pr : (("pair left" : Str) = "pair right") = False := eq_false (by decide)
theorem r_pl_ol : (("pair left" : Str) = "over left") = False := eq_false (by decide)
theorem r_pl_ul : (("pair left" : Str) = "under left") = False := eq_false (by decide)
theorem r_pl_ct : (("pair left" : Str) = "cut") = False := eq_false (by decide)
theorem r_ct_ax : (("cut" : Str) = "axiom") = False := eq_false (by decide)
theorem r_ct_or : (("cut" : Str) = "over right") = False := eq_false (by decide)
theorem r_ct_ur : (("cut" : Str) = "under right") = False := eq_false (by decide)
theorem r_ct_pr : (("cut" : Str) = "pair right") = False := eq_false (by decide)
theorem r_ct_ol : (("cut" : Str) = "over left") = False := eq_false (by decide)
theorem r_ct_ul : (("cut" : Str) = "under left") = False := eq_false (by decide)
theorem r_ct_pl : (("cut" : Str) = "pair left") = False := eq_false (by decide)
/-! ## x in a list of texts -/
def strsD : List D → Option (List Str)
  | [] => some []
  | .str a :: r => (strsD r).map (a :: ·)
  | _ :: _ => none
theorem strsD_flat : ∀ {ys : List D} {xs : List Str}, strsD ys = some xs → flats ys = true ∧ ∀ t : Str, (ys.any fun y => deq y (.str t)) = xs.any (· == t)
  | [], xs, h => by cases h; exact ⟨rfl, fun t => rfl⟩
  | .str a :: r, xs, h => by
    have h : (strsD r).map (a :: ·) = some xs := h
    cases e : strsD r with
    | none => rw [e] at h; exact nomatch h
    | some zs =>
      rw [e] at h
      cases h
      obtain ⟨h1, h2⟩ := strsD_flat e
      refine ⟨by show (true && flats r) = true; rw [h1]; rfl, fun t => ?_⟩
      rw [List.any_cons, List.any_cons, h2 t]
      rfl
  | .non :: _, _, h => nomatch h
  | .bl _ :: _, _, h => nomatch h
  | .int _ :: _, _, h => nomatch h
  | .tup _ :: _, _, h => nomatch h
  | .ref _ :: _, _, h => nomatch h
  | .raw _ :: _, _, h => nomatch h
theorem gIn_strs {S : Store} {l : Nat} {ys : List D} {xs : List Str} {t : Str} (h : S[l]? = some (.lst ys)) (hs : strsD ys = some xs) : gIn (.str t) (.ref l) S = some (.bl (xs.any (· == t)), S) := by
  obtain ⟨h1, h2⟩ := strsD_flat hs
  show Option.map _ (match lstAt S l with
    | some ys => if (D.str t).flat && flats ys && decide ((D.str t).dep ≤ 64) then some (ys.any fun y => deq y (.str t)) else none
    | none => none) = _
  rw [lstAt_lst h]
  simp only [h1, h2 t]
  rfl
theorem gNin_strs {S : Store} {l : Nat} {ys : List D} {xs : List Str} {t : Str} (h : S[l]? = some (.lst ys)) (hs : strsD ys = some xs) : gNin (.str t) (.ref l) S = some (.bl (!xs.any (· == t)), S) := by
  obtain ⟨h1, h2⟩ := strsD_flat hs
  show Option.map _ (match lstAt S l with
    | some ys => if (D.str t).flat && flats ys && decide ((D.str t).dep ≤ 64) then some (ys.any fun y => deq y (.str t)) else none
    | none => none) = _
  rw [lstAt_lst h]
  simp only [h1, h2 t]
  rfl
theorem gInt_bl {b : Bool} {S : Store} : gInt [.bl b] S = some (.int (if b then 1 else 0), S) := Dl.nr rfl
theorem gIs_tn {xs : List D} {S : Store} : gIs (.tup xs) .non S = some (.bl false, S) := Dl.nr rfl
theorem gIs_nn {S : Store} : gIs .non .non S = some (.bl true, S) := Dl.nr rfl
theorem gIsN_tn {xs : List D} {S : Store} : gIsN (.tup xs) .non S = some (.bl true, S) := Dl.nr rfl
theorem gIsN_nn {S : Store} : gIsN .non .non S = some (.bl false, S) := Dl.nr rfl
theorem count_atom {b : Str} {m : Int} (hb : Base b) (h0 : 0 < m) : Txt.count (atT b m) "." = 1 := by
  unfold atT
  rw [if_neg (by omega), dot_, PyProof.Rows.count_cnt, app_list, app_list, PyProof.Rows.cnt_append, PyProof.Rows.cnt_append, PyProof.Rows.cnt_none _ _ hb.dot, PyProof.Rows.cnt_none _ _ (num_dot (by omega))]
  show 0 + PyProof.Rows.cnt 46 [46] + 0 = 1
  rw [PyProof.Rows.cnt_cons, PyProof.Rows.cnt_nil]
  simp
theorem gCountS_ {a b : Str} {S : Store} : gCountS (.str a) [.str b] S = some (.int (Txt.count a b), S) := Dl.nr rfl
/-- what stands behind the dot -/
theorem tail_at {b : Str} {m : Int} (hm : m ≠ 0) : cutS (atT b m) (some ((b.length : Int) + 1)) none = (toString m : Str) := by
  have hl : (atT b m).cps.toList = b.cps.toList ++ 46 :: (toString m : Str).cps.toList := by
    unfold atT
    rw [if_neg hm, app_list, app_list, dot_list, List.append_assoc]
    rfl
  have h2 : (atT b m).length = b.length + 1 + (toString m : Str).length := by
    rw [← len_list, hl, List.length_append, List.length_cons, len_list, len_list]; omega
  have s1 : HT.sIx (atT b m).length 0 (some ((b.length : Int) + 1)) = b.length + 1 := by
    unfold HT.sIx
    simp only
    rw [if_neg (by omega)]
    omega
  have s2 : HT.sIx (atT b m).length (atT b m).length none = (atT b m).length := rfl
  unfold cutS
  apply ext_list
  rw [s1, s2]
  show List.take _ (List.drop (b.length + 1) (atT b m).cps.toList) = _
  rw [hl, ← List.drop_drop, List.drop_left' (len_list b)]
  show List.take _ (List.drop 1 (46 :: (toString m : Str).cps.toList)) = _
  rw [List.drop_succ_cons, List.drop_zero, List.take_of_length_le]
  rw [len_list]; omega
/-- a comprehension that keeps nothing -/
theorem comp_skip {l : Nat} {ρ : Dl.Env} {g : Cg} {ft : TX} {fe : EX} {k : Chk} {T : Store} (hk : chkOk k T) : ∀ ds : List D, (∀ d ∈ ds, ∃ ρ1, g.put d ρ = some ρ1 ∧ ft ρ1 T = .ok false T) → runC l ρ g ft fe k ds T = .ok (.ref l) T
  | [], _ => by unfold runC; rw [if_pos hk]
  | d :: ds, h => by
    obtain ⟨ρ1, h1, h2⟩ := h d (List.mem_cons_self ..)
    unfold runC
    rw [if_pos hk]
    simp only [h1, h2]
    exact comp_skip hk ds fun x hx => h x (List.mem_cons_of_mem _ hx)
mutual
theorem deq_refl : ∀ {d : D}, d.flat = true → deq d d = true
  | .non, _ => rfl
  | .bl b, _ => beq_self_eq_true b
  | .int i, _ => beq_self_eq_true i
  | .str t, _ => beq_self_eq_true t
  | .tup xs, h => deqs_refl (show flats xs = true from h)
  | .ref _, h => nomatch h
  | .raw _, h => nomatch h
theorem deqs_refl : ∀ {ds : List D}, flats ds = true → deqs ds ds = true
  | [], _ => rfl
  | d :: ds, h => by
    have h' : (d.flat && flats ds) = true := h
    rw [Bool.and_eq_true] at h'
    show (deq d d && deqs ds ds) = true
    rw [deq_refl h'.1, deqs_refl h'.2]
    rfl
end
theorem gEq_refl {d : D} {S : Store} (hf : d.flat = true) (hd : d.dep ≤ 64) : gEq d d S = some (.bl true, S) := by rw [gEq_flat hf hf hd, deq_refl hf]
theorem gNe_refl {d : D} {S : Store} (hf : d.flat = true) (hd : d.dep ≤ 64) : gNe d d S = some (.bl false, S) := by rw [gNe_flat hf hf hd, deq_refl hf]; rfl
theorem gNeW_refl {lim : Nat} {d : D} {S : Store} (hf : d.flat = true) (hd : d.dep ≤ lim) : gNeW lim d d S = some (.bl false, S) := by rw [gNeW_flat hf hf hd, deq_refl hf]; rfl
theorem gEqW_refl {lim : Nat} {d : D} {S : Store} (hf : d.flat = true) (hd : d.dep ≤ lim) : gEqW lim d d S = some (.bl true, S) := by rw [gEqW_flat hf hf hd, deq_refl hf]
end Lw

set_option Elab.async false
set_option linter.all false
set_option maxRecDepth 100000
namespace Lw
open PySem L2 Dl
variable [Fa]
local macro_rules | `(tactic| simp_arith [$ls,*]) => `(tactic| simp (disch := first | omega | assumption | (simp only [List.length_cons, List.length_nil, List.length_append, List.length_take, List.length_drop]; omega) | (simp only [List.length_cons, List.length_nil])) only [sQ_, sP_, sE_, sR_, sIf_, sN_, sA_, tgO_nx, nm_, tgIx_, eC_, eV0, eV1, e1_, e2_, eB_, eF_, aN_, aC_, eMt_, eSl_, oN_, oI_, tV_, tE_, tA_, tO_, tN_, eIf_, eAnd_, eOr_, eNot_, eCh_, seq_nx, seq_rt, seq_bk, seq_ct, seq_ex, toR_some, toR_none, toT_some, truD_bl, truD_int, truD_tup, truD_non, truD_str, truD_ref, truC_lst, tyD_str, tyD_tup, tyD_int, tyD_bl, tyD_non, tyD_ref, tyC_lst, tyC_rol, tyC_dic, kE_, kR_, kIf_t, kIf_f, kN_, kA_, kIx1_, kIx2_, kIx3_, kE1_, kE21_, kE2_, kB_, kF_, kC1_, kC_, kM1_, kM2_, kM_, kS1_, kS2_, kS3_, kO_, kV_, kT_, kAn_t, kAn_f, kOr_t, kOr_f, kNo_, kIfE_t, kIfE_f, kVa_, kVa2_t, kVa2_f, kVo_, kVo2_t, kVo2_f, kVn_, kVn2_, kH_, kH1_, kH2_t, kH2_f, kH3_, List.getElem?_cons_zero, List.getElem?_cons_succ, List.set_cons_zero, List.set_cons_succ, gAdd_int, gAdd_str, gAdd_t, gAdd_r, catC_s, gSub_int, gMul_l, gMul_r, gFdiv_int, gMod_int, gLt_int, gLe_int, gGt_int, gGe_int, gInt_int, gAbs_int, gLen_tup, gLen_str, gLen_r, lenC_s, gTpl_, gLsd_, gIx_r, ixC_s, ixO_s, gIx_t, gIx_s, ixS_s, atI_0, atI_1, atI_2, atI_3, atI_4, atI_5, gAppend_r, appC_s, gExtend_r, extC_s, gPop_r, popC_s, gSet_r, setC_0, setC_2, gTuple_r, tupC_s, gTuple_t, gList_r, gList_t, newC_s, gSl_r, slC_s, gSl_t, gSl_s, cut_take, cut_drop, cut_init, cut_mid, Int.toNat_natCast, lstC_lst, lstC_rol, lstAt_C, isi_str, isi_int, isi_bool, isi_tup, isi_lst, isO_s, isB_1, isB_2, isB_3, isB_4, isB_5, isB_6, isB_7, isB_8, isB_9, isB_10, isB_11, isB_12, isB_13, isB_14, isB_15, isB_16, isB_17, isB_18, isB_19, isB_20, isB_21, isB_22, isB_23, isB_24, isB_25, isB_26, gSum_r, sumC_s, sumO_s, gMin_, gMax_, qEq_int, qNe_int, qEq_str, qNe_str, gNeg_z, tgT_, tgU_, tgL0, tgL1, eTab_, kTab_, sX_, tgIxX_, kX1_, kX2_, kX3_, gSetX_r, setX_0, setX_2, setX_s, sPar_, kPar_, eFv_, eGetD_, kG1_, isDic_r, isDC_d, kG1b_, kG2_, kG3_, gGetD_r, getC_s, gMaxL_r, maxC_, gRep_r, repC_, eD0_, gDget_r, dgC_s, List.getElem?_concat_length, set_end, sF_, kFor_, iR1_, kR1_, iR2_, kR2_, kR3_, iA_, kAny_r, kAny_t, kAny_s, iaC_s, eLc_, kLc_, wipeD_c, wipeD_n, tYes_, put_one, sAug_, gAug_i, sBk_, sCt_, sW_, st_len, st_p, st_k, st_0, st_q, st_set_p, st_set_k, st_set_0, st_push, sx_len, sx_k, sx_0, sx_q, sx_set_k, sx_set_0, sx_push, So_rt, So_nx, So_ex, Tn_nx, Tn_ct, Tn_bk, Tn_rt, Tn_ex, Bool.false_eq_true, if_true, if_false, reduceIte, Option.map_some, Option.bind_some, Bool.not_true, Bool.not_false, decide_true, decide_false, eq_self, List.length_append, List.length_singleton, List.length_cons, List.length_nil, List.map_cons, List.map_nil, Nat.sub_self, List.replicate_zero, List.append_nil, List.cons_append, List.nil_append, List.append_assoc, List.replicate_succ, Nat.reduceSub, Nat.reduceAdd, Nat.add_zero, Nat.zero_add, Nat.add_assoc, Nat.reduceLeDiff, Int.natCast_add, Int.cast_ofNat_Int, Int.reduceEq, Int.reduceLT, Int.reduceLE, Int.reduceAdd, Int.reduceSub, Int.reduceNeg, Int.reduceToNat, List.take_succ_cons, List.take_zero, List.drop_succ_cons, List.drop_zero, List.dropLast_concat, Dl.atI_last, $ls,*])
local macro_rules | `(tactic| walk_at "ev") => `(tactic| simp (disch := first | omega | assumption | (simp only [List.length_cons, List.length_nil, List.length_append, List.length_take, List.length_drop]; omega) | (simp only [List.length_cons, List.length_nil])) only [sQ_, sP_, sE_, sR_, sIf_, sN_, sA_, tgO_nx, nm_, tgIx_, eC_, eV0, eV1, e1_, e2_, eB_, eF_, aN_, aC_, eMt_, eSl_, oN_, oI_, tV_, tE_, tA_, tO_, tN_, eIf_, eAnd_, eOr_, eNot_, eCh_, seq_nx, seq_rt, seq_bk, seq_ct, seq_ex, toR_some, toR_none, toT_some, truD_bl, truD_int, truD_tup, truD_non, truD_str, truD_ref, truC_lst, tyD_str, tyD_tup, tyD_int, tyD_bl, tyD_non, tyD_ref, tyC_lst, tyC_rol, tyC_dic, kE_, kR_, kIf_t, kIf_f, kN_, kA_, kIx1_, kIx2_, kIx3_, kE1_, kE21_, kE2_, kB_, kF_, kC1_, kC_, kM1_, kM2_, kM_, kS1_, kS2_, kS3_, kO_, kV_, kT_, kAn_t, kAn_f, kOr_t, kOr_f, kNo_, kIfE_t, kIfE_f, kVa_, kVa2_t, kVa2_f, kVo_, kVo2_t, kVo2_f, kVn_, kVn2_, kH_, kH1_, kH2_t, kH2_f, kH3_, List.getElem?_cons_zero, List.getElem?_cons_succ, List.set_cons_zero, List.set_cons_succ, gAdd_int, gAdd_str, gAdd_t, gAdd_r, catC_s, gSub_int, gMul_l, gMul_r, gFdiv_int, gMod_int, gLt_int, gLe_int, gGt_int, gGe_int, gInt_int, gAbs_int, gLen_tup, gLen_str, gLen_r, lenC_s, gTpl_, gLsd_, gIx_r, ixC_s, ixO_s, gIx_t, gIx_s, ixS_s, atI_0, atI_1, atI_2, atI_3, atI_4, atI_5, gAppend_r, appC_s, gExtend_r, extC_s, gPop_r, popC_s, gSet_r, setC_0, setC_2, gTuple_r, tupC_s, gTuple_t, gList_r, gList_t, newC_s, gSl_r, slC_s, gSl_t, gSl_s, cut_take, cut_drop, cut_init, cut_mid, Int.toNat_natCast, lstC_lst, lstC_rol, lstAt_C, isi_str, isi_int, isi_bool, isi_tup, isi_lst, isO_s, isB_1, isB_2, isB_3, isB_4, isB_5, isB_6, isB_7, isB_8, isB_9, isB_10, isB_11, isB_12, isB_13, isB_14, isB_15, isB_16, isB_17, isB_18, isB_19, isB_20, isB_21, isB_22, isB_23, isB_24, isB_25, isB_26, gSum_r, sumC_s, sumO_s, gMin_, gMax_, qEq_int, qNe_int, qEq_str, qNe_str, gNeg_z, tgT_, tgU_, tgL0, tgL1, eTab_, kTab_, sX_, tgIxX_, kX1_, kX2_, kX3_, gSetX_r, setX_0, setX_2, setX_s, sPar_, kPar_, eFv_, eGetD_, kG1_, isDic_r, isDC_d, kG1b_, kG2_, kG3_, gGetD_r, getC_s, gMaxL_r, maxC_, gRep_r, repC_, eD0_, gDget_r, dgC_s, List.getElem?_concat_length, set_end, sF_, kFor_, iR1_, kR1_, iR2_, kR2_, kR3_, iA_, kAny_r, kAny_t, kAny_s, iaC_s, eLc_, kLc_, wipeD_c, wipeD_n, tYes_, put_one, sAug_, gAug_i, sBk_, sCt_, sW_, st_len, st_p, st_k, st_0, st_q, st_set_p, st_set_k, st_set_0, st_push, sx_len, sx_k, sx_0, sx_q, sx_set_k, sx_set_0, sx_push, So_rt, So_nx, So_ex, Tn_nx, Tn_ct, Tn_bk, Tn_rt, Tn_ex, Bool.false_eq_true, if_true, if_false, reduceIte, Option.map_some, Option.bind_some, Bool.not_true, Bool.not_false, decide_true, decide_false, eq_self, List.length_append, List.length_singleton, List.length_cons, List.length_nil, List.map_cons, List.map_nil, Nat.sub_self, List.replicate_zero, List.append_nil, List.cons_append, List.nil_append, List.append_assoc, List.replicate_succ, Nat.reduceSub, Nat.reduceAdd, Nat.add_zero, Nat.zero_add, Nat.add_assoc, Nat.reduceLeDiff, Int.natCast_add, Int.cast_ofNat_Int, Int.reduceEq, Int.reduceLT, Int.reduceLE, Int.reduceAdd, Int.reduceSub, Int.reduceNeg, Int.reduceToNat, List.take_succ_cons, List.take_zero, List.drop_succ_cons, List.drop_zero, List.dropLast_concat, Dl.atI_last])
-- fa
/-! ## pools -/
theorem mix_t (n : Nat) (x : Int) (h0 : 0 ≤ x) (h1 : x < 18446744073709551616) (S : Store) : Dl.Sp (tab (n + 1) ._law_mix [.int x] S) fun r => r = .ok (.int (mixZ x)) S := by
  refine Dl.sp_run (g := b__law_mix (tab n)) rfl fun Q hQ => ?_
  unfold b__law_mix
  have b1 : 0 ≤ (x * x + 3 * x + 7919) % 1000003 := Int.emod_nonneg _ (by decide)
  have b2 : (x * x + 3 * x + 7919) % 1000003 < 1000003 := Int.emod_lt_of_pos _ (by decide)
  simp_arith [h0]
  rw [Dl.fin_s rfl rfl]
  exact hQ _ rfl
theorem SWf_pool {T : Store} {p N : Nat} {P : List D} (hp : Pool N P) : wfs T.length P = true := wfs_flat hp.flat
/-- one draw -/
theorem draw_t (n : Nat) {N p : Nat} {many : Int} {T : Store} {P : List D} (h : T[p]? = some (.lst P)) (hp : Pool N P) (hN : N ≤ 1000000) (h0 : 0 < many) (h1 : many < 1073741824) :
    Dl.Sp (tab (n + 2) ._law_draw [.ref p, .int many] T) fun r => ∃ w P', Pool (N + 1) P' ∧ 0 ≤ w ∧ w < many ∧ r = .ok (.int w) (T.set p (.lst P')) := by
  obtain ⟨a, b, c, rfl, b0, b1, c0, c1⟩ := hp
  have lp := get_lt h
  refine Dl.sp_run (g := b__law_draw (tab (n + 1))) rfl fun Q hQ => ?_
  unfold b__law_draw
  have hs : ∀ d : List D, (T.set p (Cell.lst d))[p]? = some (Cell.lst d) := fun d => List.getElem?_set_self lp
  simp_arith [h]
  by_cases ha : 0 < a
  · simp_arith [ha, h]
    rw [Dl.fin_s (by rw [List.length_set]) rfl]
    exact hQ _ ⟨_, _, ⟨_, _, _, rfl, b0, b1, c0, by omega⟩, Int.emod_nonneg _ (by omega), Int.emod_lt_of_pos _ h0, rfl⟩
  · have em := mix_t n (b + 7368787 * (c + 1)) (by omega) (by omega) (T.set p (.lst [.int a, .int b, .int (c + 1)]))
    simp_arith [ha, h, hs, em]
    rw [Dl.fin_s (by rw [List.length_set]) rfl]
    exact hQ _ ⟨_, _, ⟨_, _, _, rfl, b0, b1, by omega, by omega⟩, Int.emod_nonneg _ (by omega), Int.emod_lt_of_pos _ h0, rfl⟩
theorem cell_t (n : Nat) {ns : List Int} {T : Store} (h : T[0]? = some (Cell.rol (ns.map D.int))) (k : Nat) : Dl.Sp (tab (n + 1) ._law_cell [.ref 0, .int k] T) fun r => ∃ c : Int, r = .ok (.int c) T := by
  refine Dl.sp_run (g := b__law_cell (tab n)) rfl fun Q hQ => ?_
  unfold b__law_cell
  simp_arith [h, List.length_map]
  by_cases hk : (k : Int) < ns.length
  · have hk' : k < ns.length := by omega
    have ei : atI (ns.map D.int) (k : Int) = some (.int ns[k]) := atI_nat (by rw [List.getElem?_map, List.getElem?_eq_getElem hk']; rfl)
    simp_arith [hk, h, ei]
    rw [Dl.fin_s rfl rfl]
    exact hQ _ ⟨_, rfl⟩
  · simp_arith [hk]
    rw [Dl.fin_s rfl rfl]
    exact hQ _ ⟨_, rfl⟩
theorem pow18 {S : Store} : gPow (.int 10) (.int 18) S = some (.int 1000000000000000000, S) := by
  show (if (0 : Int) ≤ 18 ∧ (18 : Int) ≤ 1000000 ∧ (10 : Int).natAbs < 2 ^ 64 then _ else none) = _
  rw [if_pos (by decide)]
  rfl
theorem pool_t (n : Nat) {ns : List Int} {T : Store} (h : T[0]? = some (Cell.rol (ns.map D.int))) (hT : SOK T) (k : Nat) (hk : k ≤ 100) : Dl.Sp (tab (n + 2) ._law_pool [.ref 0, .int k] T) fun r => ∃ P, Pool 0 P ∧ r = .ok (.ref T.length) (T ++ [Cell.lst P]) := by
  obtain ⟨c, ec⟩ := cell_t n (T := Dl.sx T []) (by rw [← Dl.sx_in]; exact h) k
  refine Dl.sp_plain (g := b__law_pool (tab (n + 1))) rfl fun Q hQ => ?_
  unfold b__law_pool
  simp_arith [ec, pow18]
  by_cases hb : (1000000000000000000 : Int) ≤ c
  · simp_arith [hb, pow18]
    exact Dl.Qxl0 (hT.wf rfl) rfl (hQ _ ⟨_, ⟨_, _, _, rfl, by omega, by omega, by decide, by decide⟩, rfl⟩)
  · have m0 := Int.emod_nonneg (if c < 0 then -c else c) (show (2000000011 : Int) ≠ 0 by decide)
    have m1 := Int.emod_lt_of_pos (if c < 0 then -c else c) (show (0 : Int) < 2000000011 by decide)
    simp_arith [hb]
    exact Dl.Qxl0 (hT.wf rfl) rfl (hQ _ ⟨_, ⟨_, _, _, rfl, by omega, by omega, by decide, by decide⟩, rfl⟩)

end Lw

set_option Elab.async false
set_option linter.all false
set_option maxRecDepth 100000
namespace Lw
open PySem L2 Dl
variable [Fa]
local macro_rules | `(tactic| simp_arith [$ls,*]) => `(tactic| simp (disch := first | omega | assumption | (simp only [List.length_cons, List.length_nil, List.length_append, List.length_take, List.length_drop]; omega) | (simp only [List.length_cons, List.length_nil])) only [sQ_, sP_, sE_, sR_, sIf_, sN_, sA_, tgO_nx, nm_, tgIx_, eC_, eV0, eV1, e1_, e2_, eB_, eF_, aN_, aC_, eMt_, eSl_, oN_, oI_, tV_, tE_, tA_, tO_, tN_, eIf_, eAnd_, eOr_, eNot_, eCh_, seq_nx, seq_rt, seq_bk, seq_ct, seq_ex, toR_some, toR_none, toT_some, truD_bl, truD_int, truD_tup, truD_non, truD_str, truD_ref, truC_lst, tyD_str, tyD_tup, tyD_int, tyD_bl, tyD_non, tyD_ref, tyC_lst, tyC_rol, tyC_dic, kE_, kR_, kIf_t, kIf_f, kN_, kA_, kIx1_, kIx2_, kIx3_, kE1_, kE21_, kE2_, kB_, kF_, kC1_, kC_, kM1_, kM2_, kM_, kS1_, kS2_, kS3_, kO_, kV_, kT_, kAn_t, kAn_f, kOr_t, kOr_f, kNo_, kIfE_t, kIfE_f, kVa_, kVa2_t, kVa2_f, kVo_, kVo2_t, kVo2_f, kVn_, kVn2_, kH_, kH1_, kH2_t, kH2_f, kH3_, List.getElem?_cons_zero, List.getElem?_cons_succ, List.set_cons_zero, List.set_cons_succ, gAdd_int, gAdd_str, gAdd_t, gAdd_r, catC_s, gSub_int, gMul_l, gMul_r, gFdiv_int, gMod_int, gLt_int, gLe_int, gGt_int, gGe_int, gInt_int, gAbs_int, gLen_tup, gLen_str, gLen_r, lenC_s, gTpl_, gLsd_, gIx_r, ixC_s, ixO_s, gIx_t, gIx_s, ixS_s, atI_0, atI_1, atI_2, atI_3, atI_4, atI_5, gAppend_r, appC_s, gExtend_r, extC_s, gPop_r, popC_s, gSet_r, setC_0, setC_2, gTuple_r, tupC_s, gTuple_t, gList_r, gList_t, newC_s, gSl_r, slC_s, gSl_t, gSl_s, cut_take, cut_drop, cut_init, cut_mid, Int.toNat_natCast, lstC_lst, lstC_rol, lstAt_C, isi_str, isi_int, isi_bool, isi_tup, isi_lst, isO_s, isB_1, isB_2, isB_3, isB_4, isB_5, isB_6, isB_7, isB_8, isB_9, isB_10, isB_11, isB_12, isB_13, isB_14, isB_15, isB_16, isB_17, isB_18, isB_19, isB_20, isB_21, isB_22, isB_23, isB_24, isB_25, isB_26, gSum_r, sumC_s, sumO_s, gMin_, gMax_, qEq_int, qNe_int, qEq_str, qNe_str, gNeg_z, tgT_, tgU_, tgL0, tgL1, eTab_, kTab_, sX_, tgIxX_, kX1_, kX2_, kX3_, gSetX_r, setX_0, setX_2, setX_s, sPar_, kPar_, eFv_, eGetD_, kG1_, isDic_r, isDC_d, kG1b_, kG2_, kG3_, gGetD_r, getC_s, gMaxL_r, maxC_, gRep_r, repC_, eD0_, gDget_r, dgC_s, List.getElem?_concat_length, set_end, sF_, kFor_, iR1_, kR1_, iR2_, kR2_, kR3_, iA_, kAny_r, kAny_t, kAny_s, iaC_s, eLc_, kLc_, wipeD_c, wipeD_n, tYes_, put_one, sAug_, gAug_i, sBk_, sCt_, sW_, st_len, st_p, st_k, st_0, st_q, st_set_p, st_set_k, st_set_0, st_push, sx_len, sx_k, sx_0, sx_q, sx_set_k, sx_set_0, sx_push, So_rt, So_nx, So_ex, Tn_nx, Tn_ct, Tn_bk, Tn_rt, Tn_ex, Bool.false_eq_true, if_true, if_false, reduceIte, Option.map_some, Option.bind_some, Bool.not_true, Bool.not_false, decide_true, decide_false, eq_self, List.length_append, List.length_singleton, List.length_cons, List.length_nil, List.map_cons, List.map_nil, Nat.sub_self, List.replicate_zero, List.append_nil, List.cons_append, List.nil_append, List.append_assoc, List.replicate_succ, Nat.reduceSub, Nat.reduceAdd, Nat.add_zero, Nat.zero_add, Nat.add_assoc, Nat.reduceLeDiff, Int.natCast_add, Int.cast_ofNat_Int, Int.reduceEq, Int.reduceLT, Int.reduceLE, Int.reduceAdd, Int.reduceSub, Int.reduceNeg, Int.reduceToNat, List.take_succ_cons, List.take_zero, List.drop_succ_cons, List.drop_zero, List.dropLast_concat, Dl.atI_last, $ls,*])
local macro_rules | `(tactic| walk_at "ev") => `(tactic| simp (disch := first | omega | assumption | (simp only [List.length_cons, List.length_nil, List.length_append, List.length_take, List.length_drop]; omega) | (simp only [List.length_cons, List.length_nil])) only [sQ_, sP_, sE_, sR_, sIf_, sN_, sA_, tgO_nx, nm_, tgIx_, eC_, eV0, eV1, e1_, e2_, eB_, eF_, aN_, aC_, eMt_, eSl_, oN_, oI_, tV_, tE_, tA_, tO_, tN_, eIf_, eAnd_, eOr_, eNot_, eCh_, seq_nx, seq_rt, seq_bk, seq_ct, seq_ex, toR_some, toR_none, toT_some, truD_bl, truD_int, truD_tup, truD_non, truD_str, truD_ref, truC_lst, tyD_str, tyD_tup, tyD_int, tyD_bl, tyD_non, tyD_ref, tyC_lst, tyC_rol, tyC_dic, kE_, kR_, kIf_t, kIf_f, kN_, kA_, kIx1_, kIx2_, kIx3_, kE1_, kE21_, kE2_, kB_, kF_, kC1_, kC_, kM1_, kM2_, kM_, kS1_, kS2_, kS3_, kO_, kV_, kT_, kAn_t, kAn_f, kOr_t, kOr_f, kNo_, kIfE_t, kIfE_f, kVa_, kVa2_t, kVa2_f, kVo_, kVo2_t, kVo2_f, kVn_, kVn2_, kH_, kH1_, kH2_t, kH2_f, kH3_, List.getElem?_cons_zero, List.getElem?_cons_succ, List.set_cons_zero, List.set_cons_succ, gAdd_int, gAdd_str, gAdd_t, gAdd_r, catC_s, gSub_int, gMul_l, gMul_r, gFdiv_int, gMod_int, gLt_int, gLe_int, gGt_int, gGe_int, gInt_int, gAbs_int, gLen_tup, gLen_str, gLen_r, lenC_s, gTpl_, gLsd_, gIx_r, ixC_s, ixO_s, gIx_t, gIx_s, ixS_s, atI_0, atI_1, atI_2, atI_3, atI_4, atI_5, gAppend_r, appC_s, gExtend_r, extC_s, gPop_r, popC_s, gSet_r, setC_0, setC_2, gTuple_r, tupC_s, gTuple_t, gList_r, gList_t, newC_s, gSl_r, slC_s, gSl_t, gSl_s, cut_take, cut_drop, cut_init, cut_mid, Int.toNat_natCast, lstC_lst, lstC_rol, lstAt_C, isi_str, isi_int, isi_bool, isi_tup, isi_lst, isO_s, isB_1, isB_2, isB_3, isB_4, isB_5, isB_6, isB_7, isB_8, isB_9, isB_10, isB_11, isB_12, isB_13, isB_14, isB_15, isB_16, isB_17, isB_18, isB_19, isB_20, isB_21, isB_22, isB_23, isB_24, isB_25, isB_26, gSum_r, sumC_s, sumO_s, gMin_, gMax_, qEq_int, qNe_int, qEq_str, qNe_str, gNeg_z, tgT_, tgU_, tgL0, tgL1, eTab_, kTab_, sX_, tgIxX_, kX1_, kX2_, kX3_, gSetX_r, setX_0, setX_2, setX_s, sPar_, kPar_, eFv_, eGetD_, kG1_, isDic_r, isDC_d, kG1b_, kG2_, kG3_, gGetD_r, getC_s, gMaxL_r, maxC_, gRep_r, repC_, eD0_, gDget_r, dgC_s, List.getElem?_concat_length, set_end, sF_, kFor_, iR1_, kR1_, iR2_, kR2_, kR3_, iA_, kAny_r, kAny_t, kAny_s, iaC_s, eLc_, kLc_, wipeD_c, wipeD_n, tYes_, put_one, sAug_, gAug_i, sBk_, sCt_, sW_, st_len, st_p, st_k, st_0, st_q, st_set_p, st_set_k, st_set_0, st_push, sx_len, sx_k, sx_0, sx_q, sx_set_k, sx_set_0, sx_push, So_rt, So_nx, So_ex, Tn_nx, Tn_ct, Tn_bk, Tn_rt, Tn_ex, Bool.false_eq_true, if_true, if_false, reduceIte, Option.map_some, Option.bind_some, Bool.not_true, Bool.not_false, decide_true, decide_false, eq_self, List.length_append, List.length_singleton, List.length_cons, List.length_nil, List.map_cons, List.map_nil, Nat.sub_self, List.replicate_zero, List.append_nil, List.cons_append, List.nil_append, List.append_assoc, List.replicate_succ, Nat.reduceSub, Nat.reduceAdd, Nat.add_zero, Nat.zero_add, Nat.add_assoc, Nat.reduceLeDiff, Int.natCast_add, Int.cast_ofNat_Int, Int.reduceEq, Int.reduceLT, Int.reduceLE, Int.reduceAdd, Int.reduceSub, Int.reduceNeg, Int.reduceToNat, List.take_succ_cons, List.take_zero, List.drop_succ_cons, List.drop_zero, List.dropLast_concat, Dl.atI_last])
-- fa
/-! ## atoms -/
theorem atom_t (n : Nat) {N p : Nat} {T : Store} {P : List D} (h : T[p]? = some (.lst P)) (hp : Pool N P) (hN : N + 20 ≤ 1000000) (hT : SOK T) :
    Dl.Sp (tab (n + 3) ._law_any_atom [.ref p] T) fun r => ∃ t P', Pool (N + 20) P' ∧ AtS t ∧ r = .ok (.str t) (T.set p (.lst P')) := by
  refine Dl.sp_pool (g := b__law_any_atom (tab (n + 2))) rfl h fun lp Q hQ => ?_
  have fin : ∀ (t : Str) Q' L M, Pool M Q' → M ≤ N + 20 → AtS t → Q (cmp T.length (.str t) (Dl.st T p Q' L)) := fun t Q' L M hq hM ht => Dl.Qp (hT.wf rfl) (wfs_flat hq.flat) rfl (hQ _ ⟨t, Q', hq.mono hM, ht, rfl⟩)
  unfold b__law_any_atom
  obtain ⟨d1, P1, hp1, a1, b1, e1⟩ := draw_t n (many := 26) (Dl.st_p (L := []) lp) hp (by omega) (by decide) (by decide)
  obtain ⟨c, hc, hcs⟩ := atI_in (xs := ("abcdefghijklmnopqrstuvwxyz" : Str).cps.toList) a1 (by rw [small26_len]; exact b1)
  simp_arith [e1, hc]
  obtain ⟨d2, P2, hp2, a2, b2, e2⟩ := draw_t n (many := 8) (Dl.st_p (L := []) lp) hp1 (by omega) (by decide) (by decide)
  simp_arith [e2]
  refine Dl.forQ (fun j ρ S => ∃ b P' v, Pool (N + 2 + j) P' ∧ (∀ c ∈ b.cps.toList, c ∈ SM) ∧ (∃ c, b.cps.toList[0]? = some c ∧ c ∈ ("abcdefghijklmnopqrstuvwxyz" : Str).cps.toList) ∧ b.length ≤ 1 + j ∧ ρ = [some (.ref p), some (.str "abcdefghijklmnopqrstuvwxyz"), some (.str b), v] ∧ S = Dl.st T p P' [])
    ⟨_, P2, _, hp2, fun y hy => by rw [List.mem_singleton.mp (show y ∈ [c] from hy)]; exact small_sm c hcs, ⟨c, rfl, hcs⟩, Nat.le_refl _, rfl, rfl⟩ ?_ ?_
  · rintro j d _ _ hj ⟨b, P3, v, hp3, h1, ⟨f, hf1, hf2⟩, h3, rfl, rfl⟩
    obtain ⟨hj, rfl⟩ := Dl.rng_get hj
    have l1 := small_len
    have l2 := dig_len
    refine ⟨chk_nil, _, _, rfl, ?_⟩
    obtain ⟨d3, P4, hp4, a3, b3, e3⟩ := draw_t n (many := 36) (Dl.st_p (L := []) lp) hp3 (by omega) (by decide) (by decide)
    obtain ⟨c3, hc3, hm3⟩ := atI_in (xs := (("abcdefghijklmnopqrstuvwxyz" : Str) ++ ("0123456789" : Str)).cps.toList) a3 (by rw [sm36, sm_len]; exact b3)
    rw [sm36] at hm3
    have c2 : (⟨#[c3]⟩ : Str).length = 1 := rfl
    simp_arith [e3, hc3]
    refine ⟨_, P4, _, hp4.mono (by omega), ?_, ?_, ?_, rfl, rfl⟩
    · intro y hy
      rw [app_list] at hy
      rcases List.mem_append.mp hy with q | q
      · exact h1 y q
      · rw [List.mem_singleton.mp (show y ∈ [c3] from q)]; exact hm3
    · exact ⟨f, by rw [app_list, List.getElem?_append_left (List.getElem?_eq_some_iff.mp hf1).1]; exact hf1, hf2⟩
    · rw [app_len, c2]; omega
  · rintro _ _ ⟨b, P3, v, hp3, h1, h2, h3, rfl, rfl⟩
    rw [rng_length] at hp3 h3
    have hb : Base b := ⟨h1, h2, by omega⟩
    refine ⟨chk_nil, ?_⟩
    obtain ⟨d4, P4, hp4, a4, b4, e4⟩ := draw_t n (many := 4) (Dl.st_p (L := []) lp) hp3 (by omega) (by decide) (by decide)
    simp_arith [e4]
    by_cases h4 : d4 = 3
    · obtain ⟨m, P5, hp5, a5, b5, e5⟩ := draw_t n (many := 999999) (Dl.st_p (L := []) lp) hp4 (by omega) (by decide) (by decide)
      obtain ⟨t1, t2, t3⟩ := dotted hb (m := 1 + m) (by omega) (by omega) (S := Dl.st T p P5 [])
      obtain ⟨_, t2', _⟩ := dotted hb (m := 1 + m) (by omega) (by omega) (S := Dl.st T p P4 [])
      simp_arith [h4, e5, t1, t2', t3]
      exact fin _ _ _ _ hp5 (by omega) ⟨b, 1 + m, rfl, hb, by omega, by omega⟩
    · simp_arith [h4]
      exact fin _ _ _ _ hp4 (by omega) (base_at hb)
theorem split0 {t : Str} (h : AtS t) : ∃ b ps, Base b ∧ Txt.split t "." = b :: ps ∧ (∀ S, gSplit (.str t) [.str "."] S = some (.ref S.length, S ++ [Cell.lst (sts (b :: ps))])) := by
  obtain ⟨b, m, rfl, hb, m0, m1⟩ := h
  have bl := hb.len
  have nl := num_len m0 m1
  have tl := atT_len hb m0 m1
  have hs := split_atom hb m0
  by_cases e : m = 0
  · rw [if_pos e] at hs
    exact ⟨b, [], hb, hs, fun S => gSplit_ hs (by omega) (fun p hp => by rw [List.mem_singleton.mp hp]; omega)⟩
  · rw [if_neg e] at hs
    exact ⟨b, _, hb, hs, fun S => gSplit_ hs (by omega) (fun p hp => by
      rcases List.mem_cons.mp hp with rfl | hp
      · omega
      · rw [List.mem_singleton.mp hp]; omega)⟩
theorem sts_cons {t : Str} {ts : List Str} : sts (t :: ts) = .str t :: sts ts := rfl
theorem names_t (n : Nat) {N p : Nat} {many : Int} {T : Store} {P : List D} (h : T[p]? = some (.lst P)) (hp : Pool N P) (hN : N + 200 ≤ 1000000) (hT : SOK T) (hm : 1 ≤ many) (hm2 : many ≤ 6) :
    Dl.Sp (tab (n + 4) ._law_names [.ref p, .int many] T) fun r => ∃ ts P', Pool (N + 150) P' ∧ (∀ t ∈ ts, AtS t) ∧ ts.length = many.toNat ∧ r = .ok (.ref T.length) (T.set p (.lst P') ++ [.lst (sts ts)]) := by
  refine Dl.sp_pool (g := b__law_names (tab (n + 3))) rfl h fun lp Q hQ => ?_
  unfold b__law_names
  simp_arith []
  refine Dl.forQ (fun j ρ S => ∃ ts P' M v3 v4, Pool (N + 22 * j) P' ∧ (∀ t ∈ ts, AtS t) ∧ ts.length = j ∧ Dl.FL M ∧ ρ = [some (.ref p), some (.int many), some (.ref T.length), v3, v4] ∧ S = Dl.st T p P' (.lst (sts ts) :: M))
    ⟨[], P, [], _, _, hp, (fun _ h => nomatch h), rfl, .nil, rfl, rfl⟩ ?_ ?_
  · rintro j d _ _ hj ⟨ts, P1, M, v3, v4, hp1, hts, hl, hM, rfl, rfl⟩
    obtain ⟨hj, rfl⟩ := Dl.rng_get hj
    have S1 : ∀ Q' M', Dl.FL M' → flats Q' = true → SOK (Dl.st T p Q' (.lst (sts ts) :: M')) := fun Q' M' h1 h2 => SOK.st hT h2 (.cons (c := Dl.Cell.lst _) (sts_flat _) h1)
    refine ⟨chk_nil, _, _, rfl, ?_⟩
    obtain ⟨t, P2, hp2, ht, e1⟩ := atom_t n (Dl.st_p (L := .lst (sts ts) :: M) lp) hp1 (by omega) (S1 _ _ hM hp1.flat)
    have hz : (sts ts).length < 16777216 := by rw [sts_len]; omega
    have tail : ∀ (u : Str) P3 M3 v, Pool (N + 22 * j + 22) P3 → AtS u → Dl.FL M3 → ∃ ts' P' M' w3 w4, Pool (N + 22 * (j + 1)) P' ∧ (∀ t ∈ ts', AtS t) ∧ ts'.length = j + 1 ∧ Dl.FL M' ∧ ([some (D.ref p), some (D.int many), some (D.ref T.length), v, some (D.str u)] : Dl.Env) = [some (.ref p), some (.int many), some (.ref T.length), w3, w4] ∧ Dl.st T p P3 (.lst (sts ts ++ [.str u]) :: M3) = Dl.st T p P' (.lst (sts ts') :: M') := fun u P3 M3 v h1 h2 h3 =>
      ⟨ts ++ [u], P3, M3, _, _, h1.mono (by omega), fun y hy => by
        rcases List.mem_append.mp hy with q | q
        · exact hts y q
        · rw [List.mem_singleton.mp q]; exact h2, by rw [List.length_append, hl]; rfl, h3, rfl, by rw [sts_app]; rfl⟩
    simp_arith [e1]
    by_cases hj0 : j = 0
    · simp_arith [show ¬ (0 : Int) < 0 + (j : Int) by omega]
      exact tail t P2 M _ (hp2.mono (by omega)) ht hM
    · obtain ⟨d4, P4, hp4, a4, b4, e4⟩ := draw_t (n + 1) (many := 4) (Dl.st_p (L := .lst (sts ts) :: M) lp) hp2 (by omega) (by decide) (by decide)
      simp_arith [show (0 : Int) < 0 + (j : Int) by omega, e4]
      by_cases h4 : d4 = 3
      · obtain ⟨t0, tr, rfl⟩ : ∃ t0 tr, ts = t0 :: tr := by
          cases ts with
          | nil => exact absurd hl (by rw [List.length_nil]; omega)
          | cons a b => exact ⟨a, b, rfl⟩
        obtain ⟨b, ps, hb, _, es⟩ := split0 (hts t0 (List.mem_cons_self ..))
        obtain ⟨d5, P5, hp5, a5, b5, e5⟩ := draw_t (n + 1) (many := 3) (Dl.st_p (L := .lst (sts (t0 :: tr)) :: (M ++ [.lst (sts (b :: ps))])) lp) hp4 (by omega) (by decide) (by decide)
        simp only [sts_cons] at hz e4 e5 es
        obtain ⟨t1, t2, t3⟩ := dotted hb (m := 1 + d5) (by omega) (by omega) (S := Dl.st T p P5 (.lst (.str t0 :: sts tr) :: (M ++ [.lst (.str b :: sts ps)])))
        obtain ⟨_, t2', _⟩ := dotted hb (m := 1 + d5) (by omega) (by omega) (S := Dl.st T p P4 (.lst (.str t0 :: sts tr) :: (M ++ [.lst (.str b :: sts ps)])))
        simp_arith [h4, sts_cons, es, e5, t1, t2', t3]
        exact tail (atT b (1 + d5)) P5 _ _ (hp5.mono (by omega)) ⟨b, 1 + d5, rfl, hb, by omega, by omega⟩ (hM.app (.one (c := Dl.Cell.lst _) (sts_flat (b :: ps))))
      · simp_arith [h4]
        exact tail t P4 M _ (hp4.mono (by omega)) ht hM
  · rintro _ _ ⟨ts, P1, M, v3, v4, hp1, hts, hl, hM, rfl, rfl⟩
    rw [rng_length] at hp1 hl
    refine ⟨chk_nil, ?_⟩
    simp_arith []
    exact Dl.Qpl0 (hT.wf rfl) (wfs_flat hp1.flat) (wfs_flat (sts_flat _)) (hQ _ ⟨ts, P1, hp1.mono (by omega), hts, hl, rfl⟩)

end Lw

set_option Elab.async false
set_option linter.all false
set_option maxRecDepth 100000
namespace Lw
open PySem L2 Dl
variable [Fa]
local macro_rules | `(tactic| simp_arith [$ls,*]) => `(tactic| simp (disch := first | omega | assumption | (simp only [List.length_cons, List.length_nil, List.length_append, List.length_take, List.length_drop]; omega) | (simp only [List.length_cons, List.length_nil])) only [sQ_, sP_, sE_, sR_, sIf_, sN_, sA_, tgO_nx, nm_, tgIx_, eC_, eV0, eV1, e1_, e2_, eB_, eF_, aN_, aC_, eMt_, eSl_, oN_, oI_, tV_, tE_, tA_, tO_, tN_, eIf_, eAnd_, eOr_, eNot_, eCh_, seq_nx, seq_rt, seq_bk, seq_ct, seq_ex, toR_some, toR_none, toT_some, truD_bl, truD_int, truD_tup, truD_non, truD_str, truD_ref, truC_lst, tyD_str, tyD_tup, tyD_int, tyD_bl, tyD_non, tyD_ref, tyC_lst, tyC_rol, tyC_dic, kE_, kR_, kIf_t, kIf_f, kN_, kA_, kIx1_, kIx2_, kIx3_, kE1_, kE21_, kE2_, kB_, kF_, kC1_, kC_, kM1_, kM2_, kM_, kS1_, kS2_, kS3_, kO_, kV_, kT_, kAn_t, kAn_f, kOr_t, kOr_f, kNo_, kIfE_t, kIfE_f, kVa_, kVa2_t, kVa2_f, kVo_, kVo2_t, kVo2_f, kVn_, kVn2_, kH_, kH1_, kH2_t, kH2_f, kH3_, List.getElem?_cons_zero, List.getElem?_cons_succ, List.set_cons_zero, List.set_cons_succ, gAdd_int, gAdd_str, gAdd_t, gAdd_r, catC_s, gSub_int, gMul_l, gMul_r, gFdiv_int, gMod_int, gLt_int, gLe_int, gGt_int, gGe_int, gInt_int, gAbs_int, gLen_tup, gLen_str, gLen_r, lenC_s, gTpl_, gLsd_, gIx_r, ixC_s, ixO_s, gIx_t, gIx_s, ixS_s, atI_0, atI_1, atI_2, atI_3, atI_4, atI_5, gAppend_r, appC_s, gExtend_r, extC_s, gPop_r, popC_s, gSet_r, setC_0, setC_2, gTuple_r, tupC_s, gTuple_t, gList_r, gList_t, newC_s, gSl_r, slC_s, gSl_t, gSl_s, cut_take, cut_drop, cut_init, cut_mid, Int.toNat_natCast, lstC_lst, lstC_rol, lstAt_C, isi_str, isi_int, isi_bool, isi_tup, isi_lst, isO_s, isB_1, isB_2, isB_3, isB_4, isB_5, isB_6, isB_7, isB_8, isB_9, isB_10, isB_11, isB_12, isB_13, isB_14, isB_15, isB_16, isB_17, isB_18, isB_19, isB_20, isB_21, isB_22, isB_23, isB_24, isB_25, isB_26, gSum_r, sumC_s, sumO_s, gMin_, gMax_, qEq_int, qNe_int, qEq_str, qNe_str, gNeg_z, tgT_, tgU_, tgL0, tgL1, eTab_, kTab_, sX_, tgIxX_, kX1_, kX2_, kX3_, gSetX_r, setX_0, setX_2, setX_s, sPar_, kPar_, eFv_, eGetD_, kG1_, isDic_r, isDC_d, kG1b_, kG2_, kG3_, gGetD_r, getC_s, gMaxL_r, maxC_, gRep_r, repC_, eD0_, gDget_r, dgC_s, List.getElem?_concat_length, set_end, sF_, kFor_, iR1_, kR1_, iR2_, kR2_, kR3_, iA_, kAny_r, kAny_t, kAny_s, iaC_s, eLc_, kLc_, wipeD_c, wipeD_n, tYes_, put_one, sAug_, gAug_i, sBk_, sCt_, sW_, st_len, st_p, st_k, st_0, st_q, st_set_p, st_set_k, st_set_0, st_push, sx_len, sx_k, sx_0, sx_q, sx_set_k, sx_set_0, sx_push, So_rt, So_nx, So_ex, Tn_nx, Tn_ct, Tn_bk, Tn_rt, Tn_ex, Bool.false_eq_true, if_true, if_false, reduceIte, Option.map_some, Option.bind_some, Bool.not_true, Bool.not_false, decide_true, decide_false, eq_self, List.length_append, List.length_singleton, List.length_cons, List.length_nil, List.map_cons, List.map_nil, Nat.sub_self, List.replicate_zero, List.append_nil, List.cons_append, List.nil_append, List.append_assoc, List.replicate_succ, Nat.reduceSub, Nat.reduceAdd, Nat.add_zero, Nat.zero_add, Nat.add_assoc, Nat.reduceLeDiff, Int.natCast_add, Int.cast_ofNat_Int, Int.reduceEq, Int.reduceLT, Int.reduceLE, Int.reduceAdd, Int.reduceSub, Int.reduceNeg, Int.reduceToNat, List.take_succ_cons, List.take_zero, List.drop_succ_cons, List.drop_zero, List.dropLast_concat, Dl.atI_last, $ls,*])
local macro_rules | `(tactic| walk_at "ev") => `(tactic| simp (disch := first | omega | assumption | (simp only [List.length_cons, List.length_nil, List.length_append, List.length_take, List.length_drop]; omega) | (simp only [List.length_cons, List.length_nil])) only [sQ_, sP_, sE_, sR_, sIf_, sN_, sA_, tgO_nx, nm_, tgIx_, eC_, eV0, eV1, e1_, e2_, eB_, eF_, aN_, aC_, eMt_, eSl_, oN_, oI_, tV_, tE_, tA_, tO_, tN_, eIf_, eAnd_, eOr_, eNot_, eCh_, seq_nx, seq_rt, seq_bk, seq_ct, seq_ex, toR_some, toR_none, toT_some, truD_bl, truD_int, truD_tup, truD_non, truD_str, truD_ref, truC_lst, tyD_str, tyD_tup, tyD_int, tyD_bl, tyD_non, tyD_ref, tyC_lst, tyC_rol, tyC_dic, kE_, kR_, kIf_t, kIf_f, kN_, kA_, kIx1_, kIx2_, kIx3_, kE1_, kE21_, kE2_, kB_, kF_, kC1_, kC_, kM1_, kM2_, kM_, kS1_, kS2_, kS3_, kO_, kV_, kT_, kAn_t, kAn_f, kOr_t, kOr_f, kNo_, kIfE_t, kIfE_f, kVa_, kVa2_t, kVa2_f, kVo_, kVo2_t, kVo2_f, kVn_, kVn2_, kH_, kH1_, kH2_t, kH2_f, kH3_, List.getElem?_cons_zero, List.getElem?_cons_succ, List.set_cons_zero, List.set_cons_succ, gAdd_int, gAdd_str, gAdd_t, gAdd_r, catC_s, gSub_int, gMul_l, gMul_r, gFdiv_int, gMod_int, gLt_int, gLe_int, gGt_int, gGe_int, gInt_int, gAbs_int, gLen_tup, gLen_str, gLen_r, lenC_s, gTpl_, gLsd_, gIx_r, ixC_s, ixO_s, gIx_t, gIx_s, ixS_s, atI_0, atI_1, atI_2, atI_3, atI_4, atI_5, gAppend_r, appC_s, gExtend_r, extC_s, gPop_r, popC_s, gSet_r, setC_0, setC_2, gTuple_r, tupC_s, gTuple_t, gList_r, gList_t, newC_s, gSl_r, slC_s, gSl_t, gSl_s, cut_take, cut_drop, cut_init, cut_mid, Int.toNat_natCast, lstC_lst, lstC_rol, lstAt_C, isi_str, isi_int, isi_bool, isi_tup, isi_lst, isO_s, isB_1, isB_2, isB_3, isB_4, isB_5, isB_6, isB_7, isB_8, isB_9, isB_10, isB_11, isB_12, isB_13, isB_14, isB_15, isB_16, isB_17, isB_18, isB_19, isB_20, isB_21, isB_22, isB_23, isB_24, isB_25, isB_26, gSum_r, sumC_s, sumO_s, gMin_, gMax_, qEq_int, qNe_int, qEq_str, qNe_str, gNeg_z, tgT_, tgU_, tgL0, tgL1, eTab_, kTab_, sX_, tgIxX_, kX1_, kX2_, kX3_, gSetX_r, setX_0, setX_2, setX_s, sPar_, kPar_, eFv_, eGetD_, kG1_, isDic_r, isDC_d, kG1b_, kG2_, kG3_, gGetD_r, getC_s, gMaxL_r, maxC_, gRep_r, repC_, eD0_, gDget_r, dgC_s, List.getElem?_concat_length, set_end, sF_, kFor_, iR1_, kR1_, iR2_, kR2_, kR3_, iA_, kAny_r, kAny_t, kAny_s, iaC_s, eLc_, kLc_, wipeD_c, wipeD_n, tYes_, put_one, sAug_, gAug_i, sBk_, sCt_, sW_, st_len, st_p, st_k, st_0, st_q, st_set_p, st_set_k, st_set_0, st_push, sx_len, sx_k, sx_0, sx_q, sx_set_k, sx_set_0, sx_push, So_rt, So_nx, So_ex, Tn_nx, Tn_ct, Tn_bk, Tn_rt, Tn_ex, Bool.false_eq_true, if_true, if_false, reduceIte, Option.map_some, Option.bind_some, Bool.not_true, Bool.not_false, decide_true, decide_false, eq_self, List.length_append, List.length_singleton, List.length_cons, List.length_nil, List.map_cons, List.map_nil, Nat.sub_self, List.replicate_zero, List.append_nil, List.cons_append, List.nil_append, List.append_assoc, List.replicate_succ, Nat.reduceSub, Nat.reduceAdd, Nat.add_zero, Nat.zero_add, Nat.add_assoc, Nat.reduceLeDiff, Int.natCast_add, Int.cast_ofNat_Int, Int.reduceEq, Int.reduceLT, Int.reduceLE, Int.reduceAdd, Int.reduceSub, Int.reduceNeg, Int.reduceToNat, List.take_succ_cons, List.take_zero, List.drop_succ_cons, List.drop_zero, List.dropLast_concat, Dl.atI_last])
-- fa
/-! ## kinds drawn -/
theorem some_atom_t (n : Nat) {N p q : Nat} {T : Store} {P : List D} {ts : List Str} (h : T[p]? = some (.lst P)) (hq : T[q]? = some (.lst (sts ts))) (hqp : q ≠ p) (hp : Pool N P) (hN : N + 40 ≤ 1000000) (hT : SOK T) (hts : ∀ t ∈ ts, AtS t) (hl : 1 ≤ ts.length) (hl2 : ts.length ≤ 100) :
    Dl.Sp (tab (n + 4) ._law_some_atom [.ref p, .ref q] T) fun r => ∃ t P', Pool (N + 21) P' ∧ AtS t ∧ r = .ok (.str t) (T.set p (.lst P')) := by
  refine Dl.sp_pool (g := b__law_some_atom (tab (n + 3))) rfl h fun lp Q hQ => ?_
  have lq := get_lt hq
  have fin : ∀ (t : Str) Q' L M, Pool M Q' → M ≤ N + 21 → AtS t → Q (cmp T.length (.str t) (Dl.st T p Q' L)) := fun t Q' L M hq hM ht => Dl.Qp (hT.wf rfl) (wfs_flat hq.flat) rfl (hQ _ ⟨t, Q', hq.mono hM, ht, rfl⟩)
  unfold b__law_some_atom
  obtain ⟨d1, P1, hp1, a1, b1, e1⟩ := draw_t (n + 1) (many := 8) (Dl.st_p (L := []) lp) hp (by omega) (by decide) (by decide)
  simp_arith [e1]
  by_cases h7 : d1 = 7
  · obtain ⟨t, P2, hp2, ht, e2⟩ := atom_t n (Dl.st_p (L := []) lp) hp1 (by omega) (SOK.st hT hp1.flat .nil)
    simp_arith [h7, e2]
    exact fin _ _ _ _ hp2 (by omega) ht
  · obtain ⟨d2, P2, hp2, a2, b2, e2⟩ := draw_t (n + 1) (many := ts.length) (Dl.st_p (L := []) lp) hp1 (by omega) (by omega) (by omega)
    obtain ⟨x, hx, hxm⟩ := atI_in (xs := sts ts) a2 (by rw [sts_len]; exact b2)
    obtain ⟨t, ht, rfl⟩ := List.mem_map.mp hxm
    simp_arith [h7, hq, sts_len, e2, hx]
    exact fin _ _ _ _ hp2 (by omega) (hts t ht)
theorem sg3 {d : Int} (h0 : 0 ≤ d) (h1 : d < 3) : ∃ (s : Str) (c : Nat), Sg s ∧ atI ("/>*" : Str).cps.toList d = some c ∧ (⟨#[c]⟩ : Str) = s := by
  have h : d = 0 ∨ d = 1 ∨ d = 2 := by omega
  rcases h with rfl | rfl | rfl
  · exact ⟨"/", 47, .inl rfl, by decide +kernel, by decide +kernel⟩
  · exact ⟨">", 62, .inr (.inl rfl), by decide +kernel, by decide +kernel⟩
  · exact ⟨"*", 42, .inr (.inr rfl), by decide +kernel, by decide +kernel⟩
theorem kind_t {ts : List Str} {p q : Nat} (hqp : q ≠ p) (hts : ∀ t ∈ ts, AtS t) (hl : 1 ≤ ts.length) (hl2 : ts.length ≤ 100) (n : Nat) : ∀ (L : Nat) (sz : Int) {N : Nat} {T : Store} {P : List D}, sz ≤ L → 1 ≤ sz → T[p]? = some (.lst P) → T[q]? = some (.lst (sts ts)) → Pool N P → N + 25 * sz.toNat ≤ 900000 → L ≤ 100 → SOK T →
    Dl.Sp (tab (n + L + 5) ._law_kind [.ref p, .ref q, .int sz] T) fun r => ∃ (K : KT) (P' : List D), Pool (N + 25 * sz.toNat - 2) P' ∧ K.ok AtS ∧ K.at_.length = sz.toNat ∧ r = .ok K.d (T.set p (.lst P'))
  | 0, sz, N, T, P, h1, h2, _, _, _, _, _, _ => by omega
  | L + 1, sz, N, T, P, h1, h2, h, hq, hp, hN, hL, hT => by
    refine Dl.sp_pool (g := b__law_kind (tab (n + (L + 1) + 4))) rfl h fun lp Q hQ => ?_
    have lq := get_lt hq
    have fin : ∀ (K : KT) Q' M, Pool M Q' → M ≤ N + 25 * sz.toNat - 2 → K.ok AtS → K.at_.length = sz.toNat → Q (cmp T.length K.d (Dl.st T p Q' [])) := fun K Q' M hq hM h1 h2 => Dl.Qp (hT.wf rfl) (wfs_flat hq.flat) (wf_flat (KT.flat K)) (hQ _ ⟨K, Q', hq.mono hM, h1, h2, rfl⟩)
    unfold b__law_kind
    simp_arith []
    by_cases hs : sz ≤ 1
    · obtain rfl : sz = 1 := by omega
      obtain ⟨t, P1, hp1, ht, e1⟩ := some_atom_t (n + L + 1) (Dl.st_p (L := []) lp) (by rw [Dl.st_q lq hqp]; exact hq) hqp hp (by omega) (SOK.st hT hp.flat .nil) hts hl hl2
      rw [show n + L + 1 + 4 = n + (L + 5) by omega] at e1
      simp_arith [e1]
      exact fin (.leaf t) _ _ hp1 (by show _ ≤ N + 25 * 1 - 2; omega) ht rfl
    · simp_arith [hs]
      obtain ⟨d1, P1, hp1, a1, b1, e1⟩ := draw_t (n + L + 3) (many := sz - 1) (Dl.st_p (L := []) lp) hp (by omega) (by omega) (by omega)
      rw [show n + L + 3 + 2 = n + (L + 5) by omega] at e1
      obtain ⟨d2, P2, hp2, a2, b2, e2⟩ := draw_t (n + L + 3) (many := 3) (Dl.st_p (L := []) lp) hp1 (by omega) (by omega) (by omega)
      rw [show n + L + 3 + 2 = n + (L + 5) by omega] at e2
      obtain ⟨s, c, hsg, hc, hcs⟩ := sg3 a2 b2
      obtain ⟨K1, P3, hp3, ok1, l1, e3⟩ := kind_t hqp hts hl hl2 n L (1 + d1) (by omega) (by omega) (Dl.st_p (L := []) lp) (by rw [Dl.st_q lq hqp]; exact hq) hp2 (by omega) (by omega) (SOK.st hT hp2.flat .nil)
      rw [show n + L + 5 = n + (L + 5) by omega] at e3
      obtain ⟨K2, P4, hp4, ok2, l2, e4⟩ := kind_t hqp hts hl hl2 n L (sz - (1 + d1)) (by omega) (by omega) (Dl.st_p (L := []) lp) (by rw [Dl.st_q lq hqp]; exact hq) hp3 (by omega) (by omega) (SOK.st hT hp3.flat .nil)
      rw [show n + L + 5 = n + (L + 5) by omega] at e4
      simp_arith [e1, e2, hc, hcs, e3, e4]
      exact fin (.node s K1 K2) _ _ hp4 (by omega) ⟨hsg, ok1, ok2⟩ (by rw [KT.len_node, l1, l2]; omega)

end Lw

set_option Elab.async false
set_option linter.all false
set_option maxRecDepth 100000
namespace Lw
open PySem L2 Dl
variable [Fa]
local macro_rules | `(tactic| simp_arith [$ls,*]) => `(tactic| simp (disch := first | omega | assumption | (simp only [List.length_cons, List.length_nil, List.length_append, List.length_take, List.length_drop]; omega) | (simp only [List.length_cons, List.length_nil])) only [sQ_, sP_, sE_, sR_, sIf_, sN_, sA_, tgO_nx, nm_, tgIx_, eC_, eV0, eV1, e1_, e2_, eB_, eF_, aN_, aC_, eMt_, eSl_, oN_, oI_, tV_, tE_, tA_, tO_, tN_, eIf_, eAnd_, eOr_, eNot_, eCh_, seq_nx, seq_rt, seq_bk, seq_ct, seq_ex, toR_some, toR_none, toT_some, truD_bl, truD_int, truD_tup, truD_non, truD_str, truD_ref, truC_lst, tyD_str, tyD_tup, tyD_int, tyD_bl, tyD_non, tyD_ref, tyC_lst, tyC_rol, tyC_dic, kE_, kR_, kIf_t, kIf_f, kN_, kA_, kIx1_, kIx2_, kIx3_, kE1_, kE21_, kE2_, kB_, kF_, kC1_, kC_, kM1_, kM2_, kM_, kS1_, kS2_, kS3_, kO_, kV_, kT_, kAn_t, kAn_f, kOr_t, kOr_f, kNo_, kIfE_t, kIfE_f, kVa_, kVa2_t, kVa2_f, kVo_, kVo2_t, kVo2_f, kVn_, kVn2_, kH_, kH1_, kH2_t, kH2_f, kH3_, List.getElem?_cons_zero, List.getElem?_cons_succ, List.set_cons_zero, List.set_cons_succ, gAdd_int, gAdd_str, gAdd_t, gAdd_r, catC_s, gSub_int, gMul_l, gMul_r, gFdiv_int, gMod_int, gLt_int, gLe_int, gGt_int, gGe_int, gInt_int, gAbs_int, gLen_tup, gLen_str, gLen_r, lenC_s, gTpl_, gLsd_, gIx_r, ixC_s, ixO_s, gIx_t, gIx_s, ixS_s, atI_0, atI_1, atI_2, atI_3, atI_4, atI_5, gAppend_r, appC_s, gExtend_r, extC_s, gPop_r, popC_s, gSet_r, setC_0, setC_2, gTuple_r, tupC_s, gTuple_t, gList_r, gList_t, newC_s, gSl_r, slC_s, gSl_t, gSl_s, cut_take, cut_drop, cut_init, cut_mid, Int.toNat_natCast, lstC_lst, lstC_rol, lstAt_C, isi_str, isi_int, isi_bool, isi_tup, isi_lst, isO_s, isB_1, isB_2, isB_3, isB_4, isB_5, isB_6, isB_7, isB_8, isB_9, isB_10, isB_11, isB_12, isB_13, isB_14, isB_15, isB_16, isB_17, isB_18, isB_19, isB_20, isB_21, isB_22, isB_23, isB_24, isB_25, isB_26, gSum_r, sumC_s, sumO_s, gMin_, gMax_, qEq_int, qNe_int, qEq_str, qNe_str, gNeg_z, tgT_, tgU_, tgL0, tgL1, eTab_, kTab_, sX_, tgIxX_, kX1_, kX2_, kX3_, gSetX_r, setX_0, setX_2, setX_s, sPar_, kPar_, eFv_, eGetD_, kG1_, isDic_r, isDC_d, kG1b_, kG2_, kG3_, gGetD_r, getC_s, gMaxL_r, maxC_, gRep_r, repC_, eD0_, gDget_r, dgC_s, List.getElem?_concat_length, set_end, sF_, kFor_, iR1_, kR1_, iR2_, kR2_, kR3_, iA_, kAny_r, kAny_t, kAny_s, iaC_s, eLc_, kLc_, wipeD_c, wipeD_n, tYes_, put_one, sAug_, gAug_i, sBk_, sCt_, sW_, st_len, st_p, st_k, st_0, st_q, st_set_p, st_set_k, st_set_0, st_push, sx_len, sx_k, sx_0, sx_q, sx_set_k, sx_set_0, sx_push, So_rt, So_nx, So_ex, Tn_nx, Tn_ct, Tn_bk, Tn_rt, Tn_ex, Bool.false_eq_true, if_true, if_false, reduceIte, Option.map_some, Option.bind_some, Bool.not_true, Bool.not_false, decide_true, decide_false, eq_self, List.length_append, List.length_singleton, List.length_cons, List.length_nil, List.map_cons, List.map_nil, Nat.sub_self, List.replicate_zero, List.append_nil, List.cons_append, List.nil_append, List.append_assoc, List.replicate_succ, Nat.reduceSub, Nat.reduceAdd, Nat.add_zero, Nat.zero_add, Nat.add_assoc, Nat.reduceLeDiff, Int.natCast_add, Int.cast_ofNat_Int, Int.reduceEq, Int.reduceLT, Int.reduceLE, Int.reduceAdd, Int.reduceSub, Int.reduceNeg, Int.reduceToNat, List.take_succ_cons, List.take_zero, List.drop_succ_cons, List.drop_zero, List.dropLast_concat, Dl.atI_last, $ls,*])
local macro_rules | `(tactic| walk_at "ev") => `(tactic| simp (disch := first | omega | assumption | (simp only [List.length_cons, List.length_nil, List.length_append, List.length_take, List.length_drop]; omega) | (simp only [List.length_cons, List.length_nil])) only [sQ_, sP_, sE_, sR_, sIf_, sN_, sA_, tgO_nx, nm_, tgIx_, eC_, eV0, eV1, e1_, e2_, eB_, eF_, aN_, aC_, eMt_, eSl_, oN_, oI_, tV_, tE_, tA_, tO_, tN_, eIf_, eAnd_, eOr_, eNot_, eCh_, seq_nx, seq_rt, seq_bk, seq_ct, seq_ex, toR_some, toR_none, toT_some, truD_bl, truD_int, truD_tup, truD_non, truD_str, truD_ref, truC_lst, tyD_str, tyD_tup, tyD_int, tyD_bl, tyD_non, tyD_ref, tyC_lst, tyC_rol, tyC_dic, kE_, kR_, kIf_t, kIf_f, kN_, kA_, kIx1_, kIx2_, kIx3_, kE1_, kE21_, kE2_, kB_, kF_, kC1_, kC_, kM1_, kM2_, kM_, kS1_, kS2_, kS3_, kO_, kV_, kT_, kAn_t, kAn_f, kOr_t, kOr_f, kNo_, kIfE_t, kIfE_f, kVa_, kVa2_t, kVa2_f, kVo_, kVo2_t, kVo2_f, kVn_, kVn2_, kH_, kH1_, kH2_t, kH2_f, kH3_, List.getElem?_cons_zero, List.getElem?_cons_succ, List.set_cons_zero, List.set_cons_succ, gAdd_int, gAdd_str, gAdd_t, gAdd_r, catC_s, gSub_int, gMul_l, gMul_r, gFdiv_int, gMod_int, gLt_int, gLe_int, gGt_int, gGe_int, gInt_int, gAbs_int, gLen_tup, gLen_str, gLen_r, lenC_s, gTpl_, gLsd_, gIx_r, ixC_s, ixO_s, gIx_t, gIx_s, ixS_s, atI_0, atI_1, atI_2, atI_3, atI_4, atI_5, gAppend_r, appC_s, gExtend_r, extC_s, gPop_r, popC_s, gSet_r, setC_0, setC_2, gTuple_r, tupC_s, gTuple_t, gList_r, gList_t, newC_s, gSl_r, slC_s, gSl_t, gSl_s, cut_take, cut_drop, cut_init, cut_mid, Int.toNat_natCast, lstC_lst, lstC_rol, lstAt_C, isi_str, isi_int, isi_bool, isi_tup, isi_lst, isO_s, isB_1, isB_2, isB_3, isB_4, isB_5, isB_6, isB_7, isB_8, isB_9, isB_10, isB_11, isB_12, isB_13, isB_14, isB_15, isB_16, isB_17, isB_18, isB_19, isB_20, isB_21, isB_22, isB_23, isB_24, isB_25, isB_26, gSum_r, sumC_s, sumO_s, gMin_, gMax_, qEq_int, qNe_int, qEq_str, qNe_str, gNeg_z, tgT_, tgU_, tgL0, tgL1, eTab_, kTab_, sX_, tgIxX_, kX1_, kX2_, kX3_, gSetX_r, setX_0, setX_2, setX_s, sPar_, kPar_, eFv_, eGetD_, kG1_, isDic_r, isDC_d, kG1b_, kG2_, kG3_, gGetD_r, getC_s, gMaxL_r, maxC_, gRep_r, repC_, eD0_, gDget_r, dgC_s, List.getElem?_concat_length, set_end, sF_, kFor_, iR1_, kR1_, iR2_, kR2_, kR3_, iA_, kAny_r, kAny_t, kAny_s, iaC_s, eLc_, kLc_, wipeD_c, wipeD_n, tYes_, put_one, sAug_, gAug_i, sBk_, sCt_, sW_, st_len, st_p, st_k, st_0, st_q, st_set_p, st_set_k, st_set_0, st_push, sx_len, sx_k, sx_0, sx_q, sx_set_k, sx_set_0, sx_push, So_rt, So_nx, So_ex, Tn_nx, Tn_ct, Tn_bk, Tn_rt, Tn_ex, Bool.false_eq_true, if_true, if_false, reduceIte, Option.map_some, Option.bind_some, Bool.not_true, Bool.not_false, decide_true, decide_false, eq_self, List.length_append, List.length_singleton, List.length_cons, List.length_nil, List.map_cons, List.map_nil, Nat.sub_self, List.replicate_zero, List.append_nil, List.cons_append, List.nil_append, List.append_assoc, List.replicate_succ, Nat.reduceSub, Nat.reduceAdd, Nat.add_zero, Nat.zero_add, Nat.add_assoc, Nat.reduceLeDiff, Int.natCast_add, Int.cast_ofNat_Int, Int.reduceEq, Int.reduceLT, Int.reduceLE, Int.reduceAdd, Int.reduceSub, Int.reduceNeg, Int.reduceToNat, List.take_succ_cons, List.take_zero, List.drop_succ_cons, List.drop_zero, List.dropLast_concat, Dl.atI_last])
-- fa
/-! ## is_atom of a good atom -/
theorem zero_chr : ("0" : Str) = ⟨#[48]⟩ := by decide +kernel
theorem empty_chr : ("" : Str) = ⟨#[]⟩ := by decide +kernel
theorem dot_ne : ((⟨#[46]⟩ : Str) = "") = False := eq_false (by decide +kernel)
theorem comp_chars {S : Store} {M : List Cell} {x : Str} {ρ : Dl.Env} {fe : EX} {j : Nat} (hx : x.cps.toList.length ≤ 1000) (h : ∀ c ∈ x.cps.toList, ∀ T, fe (ρ.set j (some (.str ⟨#[c]⟩))) T = .ok (.bl true) T) :
    runC (S.length + M.length) ρ (.one j) tYesD fe [] (x.cps.toList.map fun c => D.str ⟨#[c]⟩) (Dl.sx S (M ++ [.lst []])) = .ok (.ref (S.length + M.length)) (Dl.sx S (M ++ [.lst (x.cps.toList.map fun _ => .bl true)])) := by
  rw [Dl.comp_sx (val := fun _ => .bl true) (by rw [List.length_map]; omega) (by rw [List.getElem?_concat_length]) (fun a => chk_nil) (fun d hd => by
    obtain ⟨c, hc, rfl⟩ := List.mem_map.mp hd
    exact ⟨_, rfl, fun a => h c hc _⟩), set_end, chars_map]
theorem comp_chars0 {S : Store} {x : Str} {ρ : Dl.Env} {fe : EX} {j : Nat} (hx : x.cps.toList.length ≤ 1000) (h : ∀ c ∈ x.cps.toList, ∀ T, fe (ρ.set j (some (.str ⟨#[c]⟩))) T = .ok (.bl true) T) :
    runC S.length ρ (.one j) tYesD fe [] (x.cps.toList.map fun c => D.str ⟨#[c]⟩) (Dl.sx S [.lst []]) = .ok (.ref S.length) (Dl.sx S [.lst (x.cps.toList.map fun _ => .bl true)]) := comp_chars (M := []) hx h
theorem is_num_t (n : Nat) {m : Int} (h0 : 0 < m) (h1 : m ≤ 999999) (S : Store) (hS : SOK S) : Dl.Sp (tab (n + 1) .is_atom_number [.str (toString m)] S) fun r => r = .ok (.bl true) S := by
  obtain ⟨c, hc, hn⟩ := num_head h0
  have l1 := num_len (by omega) h1
  have l2 := len_list (toString m : Str)
  have l3 := get_lt hc
  have ei : atI (toString m : Str).cps.toList 0 = some c := atI_nat (j := 0) hc
  have hd := num_dig (m := m) (by omega)
  refine Dl.sp_plain (g := b_is_atom_number (tab n)) rfl fun Q hQ => ?_
  unfold b_is_atom_number
  simp_arith [k_MOST_IN_NUMBER, k_DIGITS, show (1 : Int) ≤ ((toString m : Str).length : Int) by omega, show ((toString m : Str).length : Int) ≤ 6 by omega, ei, show ((⟨#[c]⟩ : Str) = "0") = False from eq_false fun e => hn (by rw [zero_chr] at e; exact chr_inj e)]
  have ec := comp_chars0 (S := S) (x := (toString m : Str)) (ρ := [some (.str (toString m)), none]) (fe := Dl.e2 gIn (eV 1) (eC (.str "0123456789"))) (j := 1) (by omega) (fun c hc T => by
    simp_arith [gIn_c, hd c hc])
  simp_arith [ec, gAll_r, bools_true, allC_s, all_true]
  exact Dl.Qx (hS.wf rfl) rfl (hQ _ rfl)
theorem is_atom_t (n : Nat) {t : Str} (ht : AtS t) (S : Store) (hS : SOK S) : Dl.Sp (tab (n + 2) .is_atom [.str t] S) fun r => r = .ok (.bl true) S := by
  obtain ⟨b, m, rfl, hb, h0, h1⟩ := ht
  have bl := hb.len
  have bn := hb.ne
  have l2 := len_list b
  obtain ⟨c, hc, hcs⟩ := hb.fst
  have ei : atI b.cps.toList 0 = some c := atI_nat (j := 0) hc
  refine Dl.sp_plain (g := b_is_atom (tab (n + 1))) rfl fun Q hQ => ?_
  unfold b_is_atom
  have ec := comp_chars0 (S := S) (x := b) (ρ := [some (.str (atT b m)), some (.str b), some (.str ⟨(if m = 0 then [] else [46]).toArray⟩), some (.str (if m = 0 then ⟨#[]⟩ else (toString m : Str))), none]) (fe := Dl.eOr (Dl.e2 gIn (eV 4) (eC k_LETTERS)) (Dl.e2 gIn (eV 4) (eC k_DIGITS))) (j := 4) (by omega) (fun c hc T => by
    have hsm := hb.all c hc
    by_cases hL : c ∈ ("abcdefghijklmnopqrstuvwxyz" : Str).cps.toList
    · simp_arith [k_LETTERS, k_DIGITS, gIn_c, hL]
    · have hD : c ∈ ("0123456789" : Str).cps.toList := by
        rw [← sm36, app_list] at hsm
        exact (List.mem_append.mp hsm).resolve_left hL
      simp_arith [k_LETTERS, k_DIGITS, gIn_c, hL, hD])
  simp_arith [part_at hb, k_MOST_IN_NAME, show (1 : Int) ≤ (b.length : Int) by omega, show (b.length : Int) ≤ 8 by omega, ei, gNin_c, show k_LETTERS = D.str "abcdefghijklmnopqrstuvwxyz" from rfl, hcs]
  rw [show k_LETTERS = D.str "abcdefghijklmnopqrstuvwxyz" from rfl] at ec
  simp_arith [ec, gAll_r, bools_true, allC_s, all_true]
  by_cases hm : m = 0
  · simp_arith [hm, show ((⟨[].toArray⟩ : Str) = "") = True from eq_true (by decide +kernel)]
    exact Dl.Qx (hS.wf rfl) rfl (hQ _ rfl)
  · have en := is_num_t n (m := m) (by omega) h1 (Dl.sx S [.lst (b.cps.toList.map fun _ => .bl true)]) (SOK.sx hS (.one (c := Dl.Cell.lst _) (flats_iff.mpr fun x hx => by
      obtain ⟨_, _, rfl⟩ := List.mem_map.mp hx
      rfl)))
    simp_arith [hm, show ((⟨[46].toArray⟩ : Str) = "") = False from eq_false (by decide +kernel), en]
    exact Dl.Qx (hS.wf rfl) rfl (hQ _ rfl)
theorem make_axiom_t (n : Nat) {t : Str} (ht : AtS t) (S : Store) (hS : SOK S) : Dl.Sp (tab (n + 3) .make_axiom [.str t] S) fun r => r = .ok (.tup [.str "axiom", .tup [.str t], .str t, .int 0, .int 0, .tup []]) S := by
  refine Dl.sp_plain (g := b_make_axiom (tab (n + 2))) rfl fun Q hQ => ?_
  unfold b_make_axiom
  have e := is_atom_t n ht (Dl.sx S []) (SOK.sx hS .nil)
  simp_arith [e]
  exact Dl.Qx (hS.wf rfl) rfl (hQ _ rfl)

end Lw

set_option Elab.async false
set_option linter.all false
set_option maxRecDepth 100000
namespace Lw
open PySem L2 Dl
variable [Fa]
local macro_rules | `(tactic| simp_arith [$ls,*]) => `(tactic| simp (disch := first | omega | assumption | (simp only [List.length_cons, List.length_nil, List.length_append, List.length_take, List.length_drop]; omega) | (simp only [List.length_cons, List.length_nil])) only [sQ_, sP_, sE_, sR_, sIf_, sN_, sA_, tgO_nx, nm_, tgIx_, eC_, eV0, eV1, e1_, e2_, eB_, eF_, aN_, aC_, eMt_, eSl_, oN_, oI_, tV_, tE_, tA_, tO_, tN_, eIf_, eAnd_, eOr_, eNot_, eCh_, seq_nx, seq_rt, seq_bk, seq_ct, seq_ex, toR_some, toR_none, toT_some, truD_bl, truD_int, truD_tup, truD_non, truD_str, truD_ref, truC_lst, tyD_str, tyD_tup, tyD_int, tyD_bl, tyD_non, tyD_ref, tyC_lst, tyC_rol, tyC_dic, kE_, kR_, kIf_t, kIf_f, kN_, kA_, kIx1_, kIx2_, kIx3_, kE1_, kE21_, kE2_, kB_, kF_, kC1_, kC_, kM1_, kM2_, kM_, kS1_, kS2_, kS3_, kO_, kV_, kT_, kAn_t, kAn_f, kOr_t, kOr_f, kNo_, kIfE_t, kIfE_f, kVa_, kVa2_t, kVa2_f, kVo_, kVo2_t, kVo2_f, kVn_, kVn2_, kH_, kH1_, kH2_t, kH2_f, kH3_, List.getElem?_cons_zero, List.getElem?_cons_succ, List.set_cons_zero, List.set_cons_succ, gAdd_int, gAdd_str, gAdd_t, gAdd_r, catC_s, gSub_int, gMul_l, gMul_r, gFdiv_int, gMod_int, gLt_int, gLe_int, gGt_int, gGe_int, gInt_int, gAbs_int, gLen_tup, gLen_str, gLen_r, lenC_s, gTpl_, gLsd_, gIx_r, ixC_s, ixO_s, gIx_t, gIx_s, ixS_s, atI_0, atI_1, atI_2, atI_3, atI_4, atI_5, gAppend_r, appC_s, gExtend_r, extC_s, gPop_r, popC_s, gSet_r, setC_0, setC_2, gTuple_r, tupC_s, gTuple_t, gList_r, gList_t, newC_s, gSl_r, slC_s, gSl_t, gSl_s, cut_take, cut_drop, cut_init, cut_mid, Int.toNat_natCast, lstC_lst, lstC_rol, lstAt_C, isi_str, isi_int, isi_bool, isi_tup, isi_lst, isO_s, isB_1, isB_2, isB_3, isB_4, isB_5, isB_6, isB_7, isB_8, isB_9, isB_10, isB_11, isB_12, isB_13, isB_14, isB_15, isB_16, isB_17, isB_18, isB_19, isB_20, isB_21, isB_22, isB_23, isB_24, isB_25, isB_26, gSum_r, sumC_s, sumO_s, gMin_, gMax_, qEq_int, qNe_int, qEq_str, qNe_str, gNeg_z, tgT_, tgU_, tgL0, tgL1, eTab_, kTab_, sX_, tgIxX_, kX1_, kX2_, kX3_, gSetX_r, setX_0, setX_2, setX_s, sPar_, kPar_, eFv_, eGetD_, kG1_, isDic_r, isDC_d, kG1b_, kG2_, kG3_, gGetD_r, getC_s, gMaxL_r, maxC_, gRep_r, repC_, eD0_, gDget_r, dgC_s, List.getElem?_concat_length, set_end, sF_, kFor_, iR1_, kR1_, iR2_, kR2_, kR3_, iA_, kAny_r, kAny_t, kAny_s, iaC_s, eLc_, kLc_, wipeD_c, wipeD_n, tYes_, put_one, sAug_, gAug_i, sBk_, sCt_, sW_, st_len, st_p, st_k, st_0, st_q, st_set_p, st_set_k, st_set_0, st_push, sx_len, sx_k, sx_0, sx_q, sx_set_k, sx_set_0, sx_push, So_rt, So_nx, So_ex, Tn_nx, Tn_ct, Tn_bk, Tn_rt, Tn_ex, Bool.false_eq_true, if_true, if_false, reduceIte, Option.map_some, Option.bind_some, Bool.not_true, Bool.not_false, decide_true, decide_false, eq_self, List.length_append, List.length_singleton, List.length_cons, List.length_nil, List.map_cons, List.map_nil, Nat.sub_self, List.replicate_zero, List.append_nil, List.cons_append, List.nil_append, List.append_assoc, List.replicate_succ, Nat.reduceSub, Nat.reduceAdd, Nat.add_zero, Nat.zero_add, Nat.add_assoc, Nat.reduceLeDiff, Int.natCast_add, Int.cast_ofNat_Int, Int.reduceEq, Int.reduceLT, Int.reduceLE, Int.reduceAdd, Int.reduceSub, Int.reduceNeg, Int.reduceToNat, List.take_succ_cons, List.take_zero, List.drop_succ_cons, List.drop_zero, List.dropLast_concat, Dl.atI_last, $ls,*])
local macro_rules | `(tactic| walk_at "ev") => `(tactic| simp (disch := first | omega | assumption | (simp only [List.length_cons, List.length_nil, List.length_append, List.length_take, List.length_drop]; omega) | (simp only [List.length_cons, List.length_nil])) only [sQ_, sP_, sE_, sR_, sIf_, sN_, sA_, tgO_nx, nm_, tgIx_, eC_, eV0, eV1, e1_, e2_, eB_, eF_, aN_, aC_, eMt_, eSl_, oN_, oI_, tV_, tE_, tA_, tO_, tN_, eIf_, eAnd_, eOr_, eNot_, eCh_, seq_nx, seq_rt, seq_bk, seq_ct, seq_ex, toR_some, toR_none, toT_some, truD_bl, truD_int, truD_tup, truD_non, truD_str, truD_ref, truC_lst, tyD_str, tyD_tup, tyD_int, tyD_bl, tyD_non, tyD_ref, tyC_lst, tyC_rol, tyC_dic, kE_, kR_, kIf_t, kIf_f, kN_, kA_, kIx1_, kIx2_, kIx3_, kE1_, kE21_, kE2_, kB_, kF_, kC1_, kC_, kM1_, kM2_, kM_, kS1_, kS2_, kS3_, kO_, kV_, kT_, kAn_t, kAn_f, kOr_t, kOr_f, kNo_, kIfE_t, kIfE_f, kVa_, kVa2_t, kVa2_f, kVo_, kVo2_t, kVo2_f, kVn_, kVn2_, kH_, kH1_, kH2_t, kH2_f, kH3_, List.getElem?_cons_zero, List.getElem?_cons_succ, List.set_cons_zero, List.set_cons_succ, gAdd_int, gAdd_str, gAdd_t, gAdd_r, catC_s, gSub_int, gMul_l, gMul_r, gFdiv_int, gMod_int, gLt_int, gLe_int, gGt_int, gGe_int, gInt_int, gAbs_int, gLen_tup, gLen_str, gLen_r, lenC_s, gTpl_, gLsd_, gIx_r, ixC_s, ixO_s, gIx_t, gIx_s, ixS_s, atI_0, atI_1, atI_2, atI_3, atI_4, atI_5, gAppend_r, appC_s, gExtend_r, extC_s, gPop_r, popC_s, gSet_r, setC_0, setC_2, gTuple_r, tupC_s, gTuple_t, gList_r, gList_t, newC_s, gSl_r, slC_s, gSl_t, gSl_s, cut_take, cut_drop, cut_init, cut_mid, Int.toNat_natCast, lstC_lst, lstC_rol, lstAt_C, isi_str, isi_int, isi_bool, isi_tup, isi_lst, isO_s, isB_1, isB_2, isB_3, isB_4, isB_5, isB_6, isB_7, isB_8, isB_9, isB_10, isB_11, isB_12, isB_13, isB_14, isB_15, isB_16, isB_17, isB_18, isB_19, isB_20, isB_21, isB_22, isB_23, isB_24, isB_25, isB_26, gSum_r, sumC_s, sumO_s, gMin_, gMax_, qEq_int, qNe_int, qEq_str, qNe_str, gNeg_z, tgT_, tgU_, tgL0, tgL1, eTab_, kTab_, sX_, tgIxX_, kX1_, kX2_, kX3_, gSetX_r, setX_0, setX_2, setX_s, sPar_, kPar_, eFv_, eGetD_, kG1_, isDic_r, isDC_d, kG1b_, kG2_, kG3_, gGetD_r, getC_s, gMaxL_r, maxC_, gRep_r, repC_, eD0_, gDget_r, dgC_s, List.getElem?_concat_length, set_end, sF_, kFor_, iR1_, kR1_, iR2_, kR2_, kR3_, iA_, kAny_r, kAny_t, kAny_s, iaC_s, eLc_, kLc_, wipeD_c, wipeD_n, tYes_, put_one, sAug_, gAug_i, sBk_, sCt_, sW_, st_len, st_p, st_k, st_0, st_q, st_set_p, st_set_k, st_set_0, st_push, sx_len, sx_k, sx_0, sx_q, sx_set_k, sx_set_0, sx_push, So_rt, So_nx, So_ex, Tn_nx, Tn_ct, Tn_bk, Tn_rt, Tn_ex, Bool.false_eq_true, if_true, if_false, reduceIte, Option.map_some, Option.bind_some, Bool.not_true, Bool.not_false, decide_true, decide_false, eq_self, List.length_append, List.length_singleton, List.length_cons, List.length_nil, List.map_cons, List.map_nil, Nat.sub_self, List.replicate_zero, List.append_nil, List.cons_append, List.nil_append, List.append_assoc, List.replicate_succ, Nat.reduceSub, Nat.reduceAdd, Nat.add_zero, Nat.zero_add, Nat.add_assoc, Nat.reduceLeDiff, Int.natCast_add, Int.cast_ofNat_Int, Int.reduceEq, Int.reduceLT, Int.reduceLE, Int.reduceAdd, Int.reduceSub, Int.reduceNeg, Int.reduceToNat, List.take_succ_cons, List.take_zero, List.drop_succ_cons, List.drop_zero, List.dropLast_concat, Dl.atI_last])
-- fa
/-! ## steps built -/
/-- a part: only its sequent matters -/
def ptD (r : D) (row : List D) (g x y z : D) : D := .tup [r, .tup row, g, x, y, z]
def stD (rule : Str) (row : List D) (g : D) (a w : Int) (parts : List D) : D := .tup [.str rule, .tup row, g, .int a, .int w, .tup parts]
theorem stD_flat {rule : Str} {row : List D} {g : D} {a w : Int} {parts : List D} (h : flats row = true) (h2 : g.flat = true) (h3 : flats parts = true) : (stD rule row g a w parts).flat = true := by
  show (true && (flats row && (g.flat && (true && (true && (flats parts && true)))))) = true
  rw [h, h2, h3]; rfl
theorem ptD_flat {r : D} {row : List D} {g x y z : D} (h : (ptD r row g x y z).flat = true) : flats row = true ∧ g.flat = true := by
  have h : (r.flat && (flats row && (g.flat && (x.flat && (y.flat && (z.flat && true)))))) = true := h
  simp only [Bool.and_eq_true] at h
  exact ⟨h.2.1, h.2.2.1⟩
theorem sq_t (n : Nat) (r : D) (row : List D) (g x y z : D) (S : Store) (hw : D.wf S.length (.tup [.tup row, g]) = true) : tab (n + 1) .sequent_of [ptD r row g x y z] S = .ok (.tup [.tup row, g]) S := by
  have h : Dl.Sp (tab (n + 1) .sequent_of [ptD r row g x y z] S) fun r => r = .ok (.tup [.tup row, g]) S := by
    refine Dl.sp_run (g := b_sequent_of (tab n)) rfl fun Q hQ => ?_
    unfold b_sequent_of ptD
    simp_arith []
    rw [Dl.fin_s rfl hw]
    exact hQ _ rfl
  exact h
theorem flat_line {xs : List D} {g : D} {n : Nat} (h : flats xs = true) (h2 : g.flat = true) : D.wf n (.tup [.tup xs, g]) = true := wf_flat (show (flats xs && (g.flat && true)) = true by rw [h, h2]; rfl)
theorem flat_trip {xs : List D} {g w : D} {n : Nat} (h : flats xs = true) (h2 : g.flat = true) (h3 : w.flat = true) : D.wf n (.tup [.tup xs, g, w]) = true := wf_flat (show (flats xs && (g.flat && (w.flat && true))) = true by rw [h, h2, h3]; rfl)
theorem fl3 {s a b : D} (h1 : s.flat = true) (h2 : a.flat = true) (h3 : b.flat = true) : (D.tup [s, a, b]).flat = true := by
  show (s.flat && (a.flat && (b.flat && true))) = true
  rw [h1, h2, h3]; rfl
section
variable (n : Nat) (S : Store) (hS : SOK S) (r x y z r' x' y' z' : D) (A B M : List D) (a b c g : D) (i : Nat) (hA : A.length = i) (zA : A.length ≤ 1000) (zB : B.length ≤ 1000) (zM : M.length ≤ 1000)
  (fA : flats A = true) (fB : flats B = true) (fM : flats M = true) (fa : a.flat = true) (fb : b.flat = true) (fc : c.flat = true) (fg : g.flat = true)
include hS
include zA fA fb fg in
theorem by_or (at_ : D) : Dl.Sp (tab (n + 2) .by_over_right [at_, .tup [ptD r (A ++ [b]) g x y z]] S) fun o => o = .ok (.tup [.tup A, .tup [.str "/", g, b], .int 0]) S := by
  have e := sq_t n r (A ++ [b]) g x y z (Dl.sx S []) (flat_line (flats_app fA (flats_cons fb rfl)) fg)
  refine Dl.sp_plain (g := b_by_over_right (tab (n + 1))) rfl fun Q hQ => ?_
  unfold b_by_over_right
  simp_arith [e]
  exact Dl.Qx (hS.wf rfl) (flat_trip fA (fl3 rfl fg fb) rfl) (hQ _ rfl)
include zA fA fb fg in
theorem by_ur (at_ : D) : Dl.Sp (tab (n + 2) .by_under_right [at_, .tup [ptD r (b :: A) g x y z]] S) fun o => o = .ok (.tup [.tup A, .tup [.str ">", b, g], .int 0]) S := by
  have e := sq_t n r (b :: A) g x y z (Dl.sx S []) (flat_line (flats_cons fb fA) fg)
  refine Dl.sp_plain (g := b_by_under_right (tab (n + 1))) rfl fun Q hQ => ?_
  unfold b_by_under_right
  simp_arith [e]
  exact Dl.Qx (hS.wf rfl) (flat_trip fA (fl3 rfl fb fg) rfl) (hQ _ rfl)
include zA zB fA fB fb fg in
theorem by_pr (at_ : D) : Dl.Sp (tab (n + 2) .by_pair_right [at_, .tup [ptD r A g x y z, ptD r' B b x' y' z']] S) fun o => o = .ok (.tup [.tup (A ++ B), .tup [.str "*", g, b], .int 0]) S := by
  have e := sq_t n r A g x y z (Dl.sx S []) (flat_line fA fg)
  have e2 := sq_t n r' B b x' y' z' (Dl.sx S []) (flat_line fB fb)
  refine Dl.sp_plain (g := b_by_pair_right (tab (n + 1))) rfl fun Q hQ => ?_
  unfold b_by_pair_right
  simp_arith [e, e2]
  exact Dl.Qx (hS.wf rfl) (flat_trip (flats_app fA fB) (fl3 rfl fg fb) rfl) (hQ _ rfl)
include hA zA zB zM fA fB fM fa fb fg in
theorem by_ol : Dl.Sp (tab (n + 2) .by_over_left [.int i, .tup [ptD r M b x y z, ptD r' (A ++ a :: B) g x' y' z']] S) fun o => o = .ok (.tup [.tup (A ++ .tup [.str "/", a, b] :: (M ++ B)), g, .int M.length]) S := by
  have e := sq_t n r M b x y z (Dl.sx S []) (flat_line fM fb)
  have e2 := sq_t n r' (A ++ a :: B) g x' y' z' (Dl.sx S []) (flat_line (flats_app fA (flats_cons fa fB)) fg)
  refine Dl.sp_plain (g := b_by_over_left (tab (n + 1))) rfl fun Q hQ => ?_
  unfold b_by_over_left
  simp_arith [e, e2, cut_mid1 hA, cut_mid2 hA, atI_mid hA]
  exact Dl.Qx (hS.wf rfl) (flat_trip (flats_app fA (flats_cons (fl3 rfl fa fb) (flats_app fM fB))) fg rfl) (hQ _ rfl)
include hA zA zB zM fA fB fM fa fb fg in
theorem by_ul (at_ : Int) (hat : at_ = i + M.length) : Dl.Sp (tab (n + 2) .by_under_left [.int at_, .tup [ptD r M b x y z, ptD r' (A ++ a :: B) g x' y' z']] S) fun o => o = .ok (.tup [.tup (A ++ (M ++ .tup [.str ">", b, a] :: B)), g, .int M.length]) S := by
  have e := sq_t n r M b x y z (Dl.sx S []) (flat_line fM fb)
  have e2 := sq_t n r' (A ++ a :: B) g x' y' z' (Dl.sx S []) (flat_line (flats_app fA (flats_cons fa fB)) fg)
  refine Dl.sp_plain (g := b_by_under_left (tab (n + 1))) rfl fun Q hQ => ?_
  unfold b_by_under_left
  simp_arith [e, e2, show at_ - (M.length : Int) = (i : Int) by omega, cut_mid1 hA, cut_mid2 hA, atI_mid hA]
  exact Dl.Qx (hS.wf rfl) (flat_trip (flats_app fA (flats_app fM (flats_cons (fl3 rfl fb fa) fB))) fg rfl) (hQ _ rfl)
include hA zA zB fA fB fa fb fg in
theorem by_pl : Dl.Sp (tab (n + 2) .by_pair_left [.int i, .tup [ptD r (A ++ a :: b :: B) g x y z]] S) fun o => o = .ok (.tup [.tup (A ++ .tup [.str "*", a, b] :: B), g, .int 0]) S := by
  have e := sq_t n r (A ++ a :: b :: B) g x y z (Dl.sx S []) (flat_line (flats_app fA (flats_cons fa (flats_cons fb fB))) fg)
  refine Dl.sp_plain (g := b_by_pair_left (tab (n + 1))) rfl fun Q hQ => ?_
  unfold b_by_pair_left
  simp_arith [e, cut_mid1 hA, cut_mid3 hA, atI_mid hA, atI_mid1 hA]
  exact Dl.Qx (hS.wf rfl) (flat_trip (flats_app fA (flats_cons (fl3 rfl fa fb) fB)) fg rfl) (hQ _ rfl)
include hA zA zB zM fA fB fM fa fb fg in
theorem by_ct : Dl.Sp (tab (n + 2) .by_cut [.int i, .tup [ptD r M b x y z, ptD r' (A ++ a :: B) g x' y' z']] S) fun o => o = .ok (.tup [.tup (A ++ (M ++ B)), g, .int M.length]) S := by
  have e := sq_t n r M b x y z (Dl.sx S []) (flat_line fM fb)
  have e2 := sq_t n r' (A ++ a :: B) g x' y' z' (Dl.sx S []) (flat_line (flats_app fA (flats_cons fa fB)) fg)
  refine Dl.sp_plain (g := b_by_cut (tab (n + 1))) rfl fun Q hQ => ?_
  unfold b_by_cut
  simp_arith [e, e2, cut_mid1 hA, cut_mid2 hA]
  exact Dl.Qx (hS.wf rfl) (flat_trip (flats_app fA (flats_app fM fB)) fg rfl) (hQ _ rfl)
end
theorem mid_flat {A B : List D} {a : D} (h : flats (A ++ a :: B) = true) : flats A = true ∧ a.flat = true ∧ flats B = true := by
  have f3 := flats_iff.mp h
  exact ⟨flats_iff.mpr fun d hd => f3 d (List.mem_append_left _ hd), f3 a (List.mem_append_right _ (List.mem_cons_self ..)), flats_iff.mpr fun d hd => f3 d (List.mem_append_right _ (List.mem_cons_of_mem _ hd))⟩
/-! ### build_step, by the builder's answer -/
theorem held_at {F : FN → List D → Dl.M D} {f : FN} : ∀ {fs : List FN}, (∀ x ∈ fs, x ∈ tfs) → f ∈ tfs → f ∈ fs → heldF (Fa.a f) (fs.map fun x => (Fa.a x, F x)) = some (F f)
  | [], _, _, h => nomatch h
  | y :: fs, hs, ht, h => by
    show (if Fa.a y = Fa.a f then some (F y) else heldF (Fa.a f) (fs.map fun x => (Fa.a x, F x))) = _
    by_cases e : Fa.a y = Fa.a f
    · rw [if_pos e, Fa.inj y (hs y (List.mem_cons_self ..)) f ht e]
    · rw [if_neg e]
      rcases List.mem_cons.mp h with z | z
      · exact absurd (by rw [z]) e
      · exact held_at (fun x hx => hs x (List.mem_cons_of_mem _ hx)) ht z
theorem build_t (n : Nat) {rule : Str} {f : FN} (hf : f ∈ tfs) (hr : k_BUILDERS.lookup rule = some (.raw (.ref (Fa.a f)))) {at_ : Int} {parts row : List D} {g : D} {w : Int} {S : Store} (hS : SOK S)
    (fr : flats row = true) (fg : g.flat = true) (fp : flats parts = true) (h : tab (n + 2) f [.int at_, .tup parts] (Dl.sx S []) = .ok (.tup [.tup row, g, .int w]) (Dl.sx S [])) :
    Dl.Sp (tab (n + 3) .build_step [.str rule, .int at_, .tup parts] S) fun r => r = .ok (stD rule row g at_ w parts) S := by
  refine Dl.sp_plain (g := b_build_step (tab (n + 2))) rfl fun Q hQ => ?_
  unfold b_build_step
  have et : gTab k_BUILDERS .non (.str rule) (Dl.sx S []) = some (.raw (.ref (Fa.a f)), Dl.sx S []) := by
    show (k_BUILDERS.lookup rule).map _ = _
    rw [hr]; rfl
  have eh : heldF (Fa.a f) [(Fa.a .by_over_right, tab (n + 2) .by_over_right), (Fa.a .by_under_right, tab (n + 2) .by_under_right), (Fa.a .by_pair_right, tab (n + 2) .by_pair_right), (Fa.a .by_over_left, tab (n + 2) .by_over_left), (Fa.a .by_under_left, tab (n + 2) .by_under_left), (Fa.a .by_pair_left, tab (n + 2) .by_pair_left), (Fa.a .by_cut, tab (n + 2) .by_cut)] = some (tab (n + 2) f) :=
    held_at (F := tab (n + 2)) (fs := tfs) (fun x hx => hx) hf hf
  simp_arith [et, Dl.kFv_ eh, h]
  exact Dl.Qx (hS.wf rfl) (wf_flat (stD_flat (rule := rule) (a := at_) (w := w) fr fg fp)) (hQ _ rfl)
section
variable (n : Nat) (S : Store) (hS : SOK S) (r x y z r' x' y' z' : D) (A B M : List D) (a b c g : D) (i : Nat) (hA : A.length = i) (zA : A.length ≤ 1000) (zB : B.length ≤ 1000) (zM : M.length ≤ 1000)
include hS
include zA in
theorem build_or (at_ : Int) (hp : (ptD r (A ++ [b]) g x y z).flat = true) : Dl.Sp (tab (n + 3) .build_step [.str "over right", .int at_, .tup [ptD r (A ++ [b]) g x y z]] S) fun o => o = .ok (stD "over right" A (.tup [.str "/", g, b]) at_ 0 [ptD r (A ++ [b]) g x y z]) S := by
  obtain ⟨f1, f2⟩ := ptD_flat hp
  have f3 := flats_iff.mp f1
  have fA : flats A = true := flats_iff.mpr fun d hd => f3 d (List.mem_append_left _ hd)
  have fb : b.flat = true := f3 b (List.mem_append_right _ (List.mem_singleton.mpr rfl))
  exact build_t n (f := .by_over_right) (by simp [tfs]) rfl hS fA (fl3 rfl f2 fb) (flats_cons hp rfl) (by_or n _ (SOK.sx hS .nil) r x y z A b g zA fA fb f2 (.int at_))
include zA in
theorem build_ur (at_ : Int) (hp : (ptD r (b :: A) g x y z).flat = true) : Dl.Sp (tab (n + 3) .build_step [.str "under right", .int at_, .tup [ptD r (b :: A) g x y z]] S) fun o => o = .ok (stD "under right" A (.tup [.str ">", b, g]) at_ 0 [ptD r (b :: A) g x y z]) S := by
  obtain ⟨f1, f2⟩ := ptD_flat hp
  have f3 := flats_iff.mp f1
  have fA : flats A = true := flats_iff.mpr fun d hd => f3 d (List.mem_cons_of_mem _ hd)
  have fb : b.flat = true := f3 b (List.mem_cons_self ..)
  exact build_t n (f := .by_under_right) (by simp [tfs]) rfl hS fA (fl3 rfl fb f2) (flats_cons hp rfl) (by_ur n _ (SOK.sx hS .nil) r x y z A b g zA fA fb f2 (.int at_))
include zA zB in
theorem build_pr (at_ : Int) (hp : (ptD r A g x y z).flat = true) (hp2 : (ptD r' B b x' y' z').flat = true) : Dl.Sp (tab (n + 3) .build_step [.str "pair right", .int at_, .tup [ptD r A g x y z, ptD r' B b x' y' z']] S) fun o => o = .ok (stD "pair right" (A ++ B) (.tup [.str "*", g, b]) at_ 0 [ptD r A g x y z, ptD r' B b x' y' z']) S := by
  obtain ⟨f1, f2⟩ := ptD_flat hp
  obtain ⟨f3, f4⟩ := ptD_flat hp2
  exact build_t n (f := .by_pair_right) (by simp [tfs]) rfl hS (flats_app f1 f3) (fl3 rfl f2 f4) (flats_cons hp (flats_cons hp2 rfl)) (by_pr n _ (SOK.sx hS .nil) r x y z r' x' y' z' A B b g zA zB f1 f3 f4 f2 (.int at_))
include hA zA zB zM in
theorem build_ol (hp : (ptD r M b x y z).flat = true) (hp2 : (ptD r' (A ++ a :: B) g x' y' z').flat = true) : Dl.Sp (tab (n + 3) .build_step [.str "over left", .int i, .tup [ptD r M b x y z, ptD r' (A ++ a :: B) g x' y' z']] S) fun o => o = .ok (stD "over left" (A ++ .tup [.str "/", a, b] :: (M ++ B)) g i M.length [ptD r M b x y z, ptD r' (A ++ a :: B) g x' y' z']) S := by
  obtain ⟨f1, f2⟩ := ptD_flat hp
  obtain ⟨f3, f4⟩ := ptD_flat hp2
  obtain ⟨f5, f6, f7⟩ := mid_flat f3
  exact build_t n (f := .by_over_left) (by simp [tfs]) rfl hS (flats_app f5 (flats_cons (fl3 rfl f6 f2) (flats_app f1 f7))) f4 (flats_cons hp (flats_cons hp2 rfl)) (by_ol n _ (SOK.sx hS .nil) r x y z r' x' y' z' A B M a b g i hA zA zB zM f5 f7 f1 f6 f2 f4)
include hA zA zB zM in
theorem build_ul (at_ : Int) (hat : at_ = i + M.length) (hp : (ptD r M b x y z).flat = true) (hp2 : (ptD r' (A ++ a :: B) g x' y' z').flat = true) : Dl.Sp (tab (n + 3) .build_step [.str "under left", .int at_, .tup [ptD r M b x y z, ptD r' (A ++ a :: B) g x' y' z']] S) fun o => o = .ok (stD "under left" (A ++ (M ++ .tup [.str ">", b, a] :: B)) g at_ M.length [ptD r M b x y z, ptD r' (A ++ a :: B) g x' y' z']) S := by
  obtain ⟨f1, f2⟩ := ptD_flat hp
  obtain ⟨f3, f4⟩ := ptD_flat hp2
  obtain ⟨f5, f6, f7⟩ := mid_flat f3
  exact build_t n (f := .by_under_left) (by simp [tfs]) rfl hS (flats_app f5 (flats_app f1 (flats_cons (fl3 rfl f2 f6) f7))) f4 (flats_cons hp (flats_cons hp2 rfl)) (by_ul n _ (SOK.sx hS .nil) r x y z r' x' y' z' A B M a b g i hA zA zB zM f5 f7 f1 f6 f2 f4 at_ hat)
include hA zA zB in
theorem build_pl (hp : (ptD r (A ++ a :: b :: B) g x y z).flat = true) : Dl.Sp (tab (n + 3) .build_step [.str "pair left", .int i, .tup [ptD r (A ++ a :: b :: B) g x y z]] S) fun o => o = .ok (stD "pair left" (A ++ .tup [.str "*", a, b] :: B) g i 0 [ptD r (A ++ a :: b :: B) g x y z]) S := by
  obtain ⟨f1, f2⟩ := ptD_flat hp
  obtain ⟨f5, f6, f7⟩ := mid_flat f1
  have f8 := flats_iff.mp f7
  have fb : b.flat = true := f8 b (List.mem_cons_self ..)
  have fB : flats B = true := flats_iff.mpr fun d hd => f8 d (List.mem_cons_of_mem _ hd)
  exact build_t n (f := .by_pair_left) (by simp [tfs]) rfl hS (flats_app f5 (flats_cons (fl3 rfl f6 fb) fB)) f2 (flats_cons hp rfl) (by_pl n _ (SOK.sx hS .nil) r x y z A B a b g i hA zA zB f5 fB f6 fb f2)
include hA zA zB zM in
theorem build_ct (hp : (ptD r M b x y z).flat = true) (hp2 : (ptD r' (A ++ a :: B) g x' y' z').flat = true) : Dl.Sp (tab (n + 3) .build_step [.str "cut", .int i, .tup [ptD r M b x y z, ptD r' (A ++ a :: B) g x' y' z']] S) fun o => o = .ok (stD "cut" (A ++ (M ++ B)) g i M.length [ptD r M b x y z, ptD r' (A ++ a :: B) g x' y' z']) S := by
  obtain ⟨f1, f2⟩ := ptD_flat hp
  obtain ⟨f3, f4⟩ := ptD_flat hp2
  obtain ⟨f5, f6, f7⟩ := mid_flat f3
  exact build_t n (f := .by_cut) (by simp [tfs]) rfl hS (flats_app f5 (flats_app f1 f7)) f4 (flats_cons hp (flats_cons hp2 rfl)) (by_ct n _ (SOK.sx hS .nil) r x y z r' x' y' z' A B M a b g i hA zA zB zM f5 f7 f1 f6 f2 f4)
end

end Lw

set_option Elab.async false
set_option linter.all false
set_option maxRecDepth 100000
namespace Lw
open PySem L2 Dl
variable [Fa]
local macro_rules | `(tactic| simp_arith [$ls,*]) => `(tactic| simp (disch := first | omega | assumption | (simp only [List.length_cons, List.length_nil, List.length_append, List.length_take, List.length_drop]; omega) | (simp only [List.length_cons, List.length_nil])) only [sQ_, sP_, sE_, sR_, sIf_, sN_, sA_, tgO_nx, nm_, tgIx_, eC_, eV0, eV1, e1_, e2_, eB_, eF_, aN_, aC_, eMt_, eSl_, oN_, oI_, tV_, tE_, tA_, tO_, tN_, eIf_, eAnd_, eOr_, eNot_, eCh_, seq_nx, seq_rt, seq_bk, seq_ct, seq_ex, toR_some, toR_none, toT_some, truD_bl, truD_int, truD_tup, truD_non, truD_str, truD_ref, truC_lst, tyD_str, tyD_tup, tyD_int, tyD_bl, tyD_non, tyD_ref, tyC_lst, tyC_rol, tyC_dic, kE_, kR_, kIf_t, kIf_f, kN_, kA_, kIx1_, kIx2_, kIx3_, kE1_, kE21_, kE2_, kB_, kF_, kC1_, kC_, kM1_, kM2_, kM_, kS1_, kS2_, kS3_, kO_, kV_, kT_, kAn_t, kAn_f, kOr_t, kOr_f, kNo_, kIfE_t, kIfE_f, kVa_, kVa2_t, kVa2_f, kVo_, kVo2_t, kVo2_f, kVn_, kVn2_, kH_, kH1_, kH2_t, kH2_f, kH3_, List.getElem?_cons_zero, List.getElem?_cons_succ, List.set_cons_zero, List.set_cons_succ, gAdd_int, gAdd_str, gAdd_t, gAdd_r, catC_s, gSub_int, gMul_l, gMul_r, gFdiv_int, gMod_int, gLt_int, gLe_int, gGt_int, gGe_int, gInt_int, gAbs_int, gLen_tup, gLen_str, gLen_r, lenC_s, gTpl_, gLsd_, gIx_r, ixC_s, ixO_s, gIx_t, gIx_s, ixS_s, atI_0, atI_1, atI_2, atI_3, atI_4, atI_5, gAppend_r, appC_s, gExtend_r, extC_s, gPop_r, popC_s, gSet_r, setC_0, setC_2, gTuple_r, tupC_s, gTuple_t, gList_r, gList_t, newC_s, gSl_r, slC_s, gSl_t, gSl_s, cut_take, cut_drop, cut_init, cut_mid, Int.toNat_natCast, lstC_lst, lstC_rol, lstAt_C, isi_str, isi_int, isi_bool, isi_tup, isi_lst, isO_s, isB_1, isB_2, isB_3, isB_4, isB_5, isB_6, isB_7, isB_8, isB_9, isB_10, isB_11, isB_12, isB_13, isB_14, isB_15, isB_16, isB_17, isB_18, isB_19, isB_20, isB_21, isB_22, isB_23, isB_24, isB_25, isB_26, gSum_r, sumC_s, sumO_s, gMin_, gMax_, qEq_int, qNe_int, qEq_str, qNe_str, gNeg_z, tgT_, tgU_, tgL0, tgL1, eTab_, kTab_, sX_, tgIxX_, kX1_, kX2_, kX3_, gSetX_r, setX_0, setX_2, setX_s, sPar_, kPar_, eFv_, eGetD_, kG1_, isDic_r, isDC_d, kG1b_, kG2_, kG3_, gGetD_r, getC_s, gMaxL_r, maxC_, gRep_r, repC_, eD0_, gDget_r, dgC_s, List.getElem?_concat_length, set_end, sF_, kFor_, iR1_, kR1_, iR2_, kR2_, kR3_, iA_, kAny_r, kAny_t, kAny_s, iaC_s, eLc_, kLc_, wipeD_c, wipeD_n, tYes_, put_one, sAug_, gAug_i, sBk_, sCt_, sW_, st_len, st_p, st_k, st_0, st_q, st_set_p, st_set_k, st_set_0, st_push, sx_len, sx_k, sx_0, sx_q, sx_set_k, sx_set_0, sx_push, So_rt, So_nx, So_ex, Tn_nx, Tn_ct, Tn_bk, Tn_rt, Tn_ex, Bool.false_eq_true, if_true, if_false, reduceIte, Option.map_some, Option.bind_some, Bool.not_true, Bool.not_false, decide_true, decide_false, eq_self, List.length_append, List.length_singleton, List.length_cons, List.length_nil, List.map_cons, List.map_nil, Nat.sub_self, List.replicate_zero, List.append_nil, List.cons_append, List.nil_append, List.append_assoc, List.replicate_succ, Nat.reduceSub, Nat.reduceAdd, Nat.add_zero, Nat.zero_add, Nat.add_assoc, Nat.reduceLeDiff, Int.natCast_add, Int.cast_ofNat_Int, Int.reduceEq, Int.reduceLT, Int.reduceLE, Int.reduceAdd, Int.reduceSub, Int.reduceNeg, Int.reduceToNat, List.take_succ_cons, List.take_zero, List.drop_succ_cons, List.drop_zero, List.dropLast_concat, Dl.atI_last, r_ax_or, r_ax_ur, r_ax_pr, r_ax_ol, r_ax_ul, r_ax_pl, r_ax_ct, r_or_ax, r_or_ur, r_or_pr, r_or_ol, r_or_ul, r_or_pl, r_or_ct, r_ur_ax, r_ur_or, r_ur_pr, r_ur_ol, r_ur_ul, r_ur_pl, r_ur_ct, r_pr_ax, r_pr_or, r_pr_ur, r_pr_ol, r_pr_ul, r_pr_pl, r_pr_ct, r_ol_ax, r_ol_or, r_ol_ur, r_ol_pr, r_ol_ul, r_ol_pl, r_ol_ct, r_ul_ax, r_ul_or, r_ul_ur, r_ul_pr, r_ul_ol, r_ul_pl, r_ul_ct, r_pl_ax, r_pl_or, r_pl_ur, r_pl_pr, r_pl_ol, r_pl_ul, r_pl_ct, r_ct_ax, r_ct_or, r_ct_ur, r_ct_pr, r_ct_ol, r_ct_ul, r_ct_pl, q1, q2, q3, q4, q5, q6, e1, e2, e3, gInt_bl, gIs_tn, gIs_nn, gIsN_tn, gIsN_nn, $ls,*])
local macro_rules | `(tactic| walk_at "ev") => `(tactic| simp (disch := first | omega | assumption | (simp only [List.length_cons, List.length_nil, List.length_append, List.length_take, List.length_drop]; omega) | (simp only [List.length_cons, List.length_nil])) only [sQ_, sP_, sE_, sR_, sIf_, sN_, sA_, tgO_nx, nm_, tgIx_, eC_, eV0, eV1, e1_, e2_, eB_, eF_, aN_, aC_, eMt_, eSl_, oN_, oI_, tV_, tE_, tA_, tO_, tN_, eIf_, eAnd_, eOr_, eNot_, eCh_, seq_nx, seq_rt, seq_bk, seq_ct, seq_ex, toR_some, toR_none, toT_some, truD_bl, truD_int, truD_tup, truD_non, truD_str, truD_ref, truC_lst, tyD_str, tyD_tup, tyD_int, tyD_bl, tyD_non, tyD_ref, tyC_lst, tyC_rol, tyC_dic, kE_, kR_, kIf_t, kIf_f, kN_, kA_, kIx1_, kIx2_, kIx3_, kE1_, kE21_, kE2_, kB_, kF_, kC1_, kC_, kM1_, kM2_, kM_, kS1_, kS2_, kS3_, kO_, kV_, kT_, kAn_t, kAn_f, kOr_t, kOr_f, kNo_, kIfE_t, kIfE_f, kVa_, kVa2_t, kVa2_f, kVo_, kVo2_t, kVo2_f, kVn_, kVn2_, kH_, kH1_, kH2_t, kH2_f, kH3_, List.getElem?_cons_zero, List.getElem?_cons_succ, List.set_cons_zero, List.set_cons_succ, gAdd_int, gAdd_str, gAdd_t, gAdd_r, catC_s, gSub_int, gMul_l, gMul_r, gFdiv_int, gMod_int, gLt_int, gLe_int, gGt_int, gGe_int, gInt_int, gAbs_int, gLen_tup, gLen_str, gLen_r, lenC_s, gTpl_, gLsd_, gIx_r, ixC_s, ixO_s, gIx_t, gIx_s, ixS_s, atI_0, atI_1, atI_2, atI_3, atI_4, atI_5, gAppend_r, appC_s, gExtend_r, extC_s, gPop_r, popC_s, gSet_r, setC_0, setC_2, gTuple_r, tupC_s, gTuple_t, gList_r, gList_t, newC_s, gSl_r, slC_s, gSl_t, gSl_s, cut_take, cut_drop, cut_init, cut_mid, Int.toNat_natCast, lstC_lst, lstC_rol, lstAt_C, isi_str, isi_int, isi_bool, isi_tup, isi_lst, isO_s, isB_1, isB_2, isB_3, isB_4, isB_5, isB_6, isB_7, isB_8, isB_9, isB_10, isB_11, isB_12, isB_13, isB_14, isB_15, isB_16, isB_17, isB_18, isB_19, isB_20, isB_21, isB_22, isB_23, isB_24, isB_25, isB_26, gSum_r, sumC_s, sumO_s, gMin_, gMax_, qEq_int, qNe_int, qEq_str, qNe_str, gNeg_z, tgT_, tgU_, tgL0, tgL1, eTab_, kTab_, sX_, tgIxX_, kX1_, kX2_, kX3_, gSetX_r, setX_0, setX_2, setX_s, sPar_, kPar_, eFv_, eGetD_, kG1_, isDic_r, isDC_d, kG1b_, kG2_, kG3_, gGetD_r, getC_s, gMaxL_r, maxC_, gRep_r, repC_, eD0_, gDget_r, dgC_s, List.getElem?_concat_length, set_end, sF_, kFor_, iR1_, kR1_, iR2_, kR2_, kR3_, iA_, kAny_r, kAny_t, kAny_s, iaC_s, eLc_, kLc_, wipeD_c, wipeD_n, tYes_, put_one, sAug_, gAug_i, sBk_, sCt_, sW_, st_len, st_p, st_k, st_0, st_q, st_set_p, st_set_k, st_set_0, st_push, sx_len, sx_k, sx_0, sx_q, sx_set_k, sx_set_0, sx_push, So_rt, So_nx, So_ex, Tn_nx, Tn_ct, Tn_bk, Tn_rt, Tn_ex, Bool.false_eq_true, if_true, if_false, reduceIte, Option.map_some, Option.bind_some, Bool.not_true, Bool.not_false, decide_true, decide_false, eq_self, List.length_append, List.length_singleton, List.length_cons, List.length_nil, List.map_cons, List.map_nil, Nat.sub_self, List.replicate_zero, List.append_nil, List.cons_append, List.nil_append, List.append_assoc, List.replicate_succ, Nat.reduceSub, Nat.reduceAdd, Nat.add_zero, Nat.zero_add, Nat.add_assoc, Nat.reduceLeDiff, Int.natCast_add, Int.cast_ofNat_Int, Int.reduceEq, Int.reduceLT, Int.reduceLE, Int.reduceAdd, Int.reduceSub, Int.reduceNeg, Int.reduceToNat, List.take_succ_cons, List.take_zero, List.drop_succ_cons, List.drop_zero, List.dropLast_concat, Dl.atI_last, r_ax_or, r_ax_ur, r_ax_pr, r_ax_ol, r_ax_ul, r_ax_pl, r_ax_ct, r_or_ax, r_or_ur, r_or_pr, r_or_ol, r_or_ul, r_or_pl, r_or_ct, r_ur_ax, r_ur_or, r_ur_pr, r_ur_ol, r_ur_ul, r_ur_pl, r_ur_ct, r_pr_ax, r_pr_or, r_pr_ur, r_pr_ol, r_pr_ul, r_pr_pl, r_pr_ct, r_ol_ax, r_ol_or, r_ol_ur, r_ol_pr, r_ol_ul, r_ol_pl, r_ol_ct, r_ul_ax, r_ul_or, r_ul_ur, r_ul_pr, r_ul_ol, r_ul_pl, r_ul_ct, r_pl_ax, r_pl_or, r_pl_ur, r_pl_pr, r_pl_ol, r_pl_ul, r_pl_ct, r_ct_ax, r_ct_or, r_ct_ur, r_ct_pr, r_ct_ol, r_ct_ul, r_ct_pl, q1, q2, q3, q4, q5, q6, e1, e2, e3, gInt_bl, gIs_tn, gIs_nn, gIsN_tn, gIsN_nn])
-- fa
/-! ## _law_line, _law_make -/
def lnD (row : List D) (g : D) : D := .tup [.tup row, g]
theorem two_f {S : Store} {t : Str} (h : (["pair right", "over left", "under left", "cut"] : List Str).any (· == t) = false) : gIn (.str t) (.ref S.length) (Dl.sx S [.lst [.str "pair right", .str "over left", .str "under left", .str "cut"]]) = some (.bl false, Dl.sx S [.lst [.str "pair right", .str "over left", .str "under left", .str "cut"]]) := by
  rw [gIn_strs (xs := ["pair right", "over left", "under left", "cut"]) (by rw [Dl.sx_0]; rfl) rfl, h]
theorem two_t {S : Store} {t : Str} (h : (["pair right", "over left", "under left", "cut"] : List Str).any (· == t) = true) : gIn (.str t) (.ref S.length) (Dl.sx S [.lst [.str "pair right", .str "over left", .str "under left", .str "cut"]]) = some (.bl true, Dl.sx S [.lst [.str "pair right", .str "over left", .str "under left", .str "cut"]]) := by
  rw [gIn_strs (xs := ["pair right", "over left", "under left", "cut"]) (by rw [Dl.sx_0]; rfl) rfl, h]
section
variable (n : Nat) (S : Store) (hS : SOK S) (l : Nat) (A B M : List D) (a b c g : D) (i : Nat) (hA : A.length = i) (zA : A.length ≤ 1000) (zB : B.length ≤ 1000) (zM : M.length ≤ 1000)
  (fA : flats A = true) (fB : flats B = true) (fM : flats M = true) (fa : a.flat = true) (fb : b.flat = true) (fc : c.flat = true) (fg : g.flat = true)
include hS
include zA fA fb fg in
theorem line_or (h : S[l]? = some (.lst [lnD (A ++ [b]) g])) (hn : 1 ≤ A.length) : Dl.Sp (tab (n + 1) ._law_line [.str "over right", .int 0, .ref l] S) fun o => o = .ok (.tup [.tup A, .tup [.str "/", g, b], .int 0]) S := by
  have hl := get_lt h
  have h2 := two_f (S := S) (t := "over right") (by decide)
  refine Dl.sp_plain (g := b__law_line (tab n)) rfl fun Q hQ => ?_
  unfold b__law_line
  simp_arith [h, h2, lnD, show (1 : Int) < (A.length : Int) + 1 by omega]
  exact Dl.Qx (hS.wf rfl) (flat_trip fA (fl3 rfl fg fb) rfl) (hQ _ rfl)
include zA fA fb fg in
theorem line_ur (h : S[l]? = some (.lst [lnD (b :: A) g])) (hn : 1 ≤ A.length) : Dl.Sp (tab (n + 1) ._law_line [.str "under right", .int 0, .ref l] S) fun o => o = .ok (.tup [.tup A, .tup [.str ">", b, g], .int 0]) S := by
  have hl := get_lt h
  have h2 := two_f (S := S) (t := "under right") (by decide)
  refine Dl.sp_plain (g := b__law_line (tab n)) rfl fun Q hQ => ?_
  unfold b__law_line
  simp_arith [h, h2, lnD, show (1 : Int) < (A.length : Int) + 1 by omega]
  exact Dl.Qx (hS.wf rfl) (flat_trip fA (fl3 rfl fb fg) rfl) (hQ _ rfl)
include hA zA zB fA fB fa fb fg in
theorem line_pl (h : S[l]? = some (.lst [lnD (A ++ a :: b :: B) g])) : Dl.Sp (tab (n + 1) ._law_line [.str "pair left", .int i, .ref l] S) fun o => o = .ok (.tup [.tup (A ++ .tup [.str "*", a, b] :: B), g, .int 0]) S := by
  have hl := get_lt h
  have h2 := two_f (S := S) (t := "pair left") (by decide)
  refine Dl.sp_plain (g := b__law_line (tab n)) rfl fun Q hQ => ?_
  unfold b__law_line
  simp_arith [h, h2, lnD, cut_mid1 hA, cut_mid3 hA, atI_mid hA, atI_mid1 hA, show (i : Int) < (A.length : Int) + ((B.length : Int) + 2) - 1 by omega, show (0 : Int) ≤ (i : Int) by omega]
  exact Dl.Qx (hS.wf rfl) (flat_trip (flats_app fA (flats_cons (fl3 rfl fa fb) fB)) fg rfl) (hQ _ rfl)
include zA zB fA fB fb fg in
theorem line_pr (h : S[l]? = some (.lst [lnD A g, lnD B b])) : Dl.Sp (tab (n + 1) ._law_line [.str "pair right", .int A.length, .ref l] S) fun o => o = .ok (.tup [.tup (A ++ B), .tup [.str "*", g, b], .int 0]) S := by
  have hl := get_lt h
  have h2 := two_t (S := S) (t := "pair right") (by decide)
  refine Dl.sp_plain (g := b__law_line (tab n)) rfl fun Q hQ => ?_
  unfold b__law_line
  simp_arith [h, h2, lnD]
  exact Dl.Qx (hS.wf rfl) (flat_trip (flats_app fA fB) (fl3 rfl fg fb) rfl) (hQ _ rfl)
include hA zA zB zM fA fB fM fa fb fg in
theorem line_ol (h : S[l]? = some (.lst [lnD M b, lnD (A ++ a :: B) g])) : Dl.Sp (tab (n + 1) ._law_line [.str "over left", .int i, .ref l] S) fun o => o = .ok (.tup [.tup (A ++ .tup [.str "/", a, b] :: (M ++ B)), g, .int M.length]) S := by
  have hl := get_lt h
  have h2 := two_t (S := S) (t := "over left") (by decide)
  refine Dl.sp_plain (g := b__law_line (tab n)) rfl fun Q hQ => ?_
  unfold b__law_line
  simp_arith [h, h2, lnD, cut_mid1 hA, cut_mid2 hA, atI_mid hA, show (0 : Int) ≤ (i : Int) by omega, show (i : Int) < (A.length : Int) + ((B.length : Int) + 1) by omega]
  exact Dl.Qx (hS.wf rfl) (flat_trip (flats_app fA (flats_cons (fl3 rfl fa fb) (flats_app fM fB))) fg rfl) (hQ _ rfl)
include hA zA zB zM fA fB fM fa fb fg in
theorem line_ul (h : S[l]? = some (.lst [lnD M b, lnD (A ++ a :: B) g])) (at_ : Int) (hat : at_ = i + M.length) : Dl.Sp (tab (n + 1) ._law_line [.str "under left", .int at_, .ref l] S) fun o => o = .ok (.tup [.tup (A ++ (M ++ .tup [.str ">", b, a] :: B)), g, .int M.length]) S := by
  have hl := get_lt h
  have h2 := two_t (S := S) (t := "under left") (by decide)
  refine Dl.sp_plain (g := b__law_line (tab n)) rfl fun Q hQ => ?_
  unfold b__law_line
  simp_arith [h, h2, lnD, show at_ - (M.length : Int) = (i : Int) by omega, cut_mid1 hA, cut_mid2 hA, atI_mid hA, show (0 : Int) ≤ (i : Int) by omega, show (i : Int) < (A.length : Int) + ((B.length : Int) + 1) by omega]
  exact Dl.Qx (hS.wf rfl) (flat_trip (flats_app fA (flats_app fM (flats_cons (fl3 rfl fb fa) fB))) fg rfl) (hQ _ rfl)
end
/-! ### a step by its line -/
theorem mk_t (n : Nat) {rule : Str} {at_ : Int} {l : Nat} {ps : List D} {lns : List D} {row : List D} {g : D} {w : Int} {S : Store} (hS : SOK S) (h : S[l]? = some (.lst ps)) (hz : ps.length ≤ 100) (fr : flats row = true) (fg : g.flat = true) (fp : flats ps = true)
    (hps : lns = ps.map fun p => match p with | .tup (_ :: r :: g :: _) => .tup [r, g] | _ => .non) (hok : ∀ p ∈ ps, ∃ (a r g : D) (x : List D), p = .tup (a :: r :: g :: x))
    (hl : ∀ T : Store, SOK T → ∀ k, T[k]? = some (.lst lns) → tab (n + 1) ._law_line [.str rule, .int at_, .ref k] T = .ok (.tup [.tup row, g, .int w]) T) :
    Dl.Sp (tab (n + 2) ._law_make [.str rule, .int at_, .ref l] S) fun o => o = .ok (stD rule row g at_ w ps) S := by
  have lt := get_lt h
  refine Dl.sp_plain (g := b__law_make (tab (n + 1))) rfl fun Q hQ => ?_
  unfold b__law_make
  have ec : runC S.length [some (.str rule), some (.int at_), some (.ref l), none, none] (.one 4) tYesD (eB gTpl (aC (Dl.e2 gIx (eV 4) (eC (.int 1))) (aC (Dl.e2 gIx (eV 4) (eC (.int 2))) aN))) [(l, ps)] ps (Dl.sx S [.lst []]) = .ok (.ref S.length) (Dl.sx S [.lst lns]) := by
    rw [hps]
    refine Dl.comp_sx0 (fun p => match p with | .tup (_ :: r :: g :: _) => .tup [r, g] | _ => .non) (by omega) (fun a => chk_one (by rw [Dl.lstAt_C, Dl.sx_q lt, h]; rfl)) (fun p hp => ?_)
    obtain ⟨a, r, g, x, rfl⟩ := hok p hp
    exact ⟨_, rfl, fun a => by simp_arith []⟩
  have fl : flats lns = true := by
    rw [hps]
    refine flats_iff.mpr fun d hd => ?_
    obtain ⟨p, hp, rfl⟩ := List.mem_map.mp hd
    have hf := flats_iff.mp fp p hp
    obtain ⟨a, r, g, x, rfl⟩ := hok p hp
    have hf : (a.flat && (r.flat && (g.flat && flats x))) = true := hf
    simp only [Bool.and_eq_true] at hf
    show (r.flat && (g.flat && true)) = true
    rw [hf.2.1, hf.2.2.1]; rfl
  have el := hl (Dl.sx S [.lst lns]) (SOK.sx hS (.one (c := Dl.Cell.lst _) fl)) S.length (by rw [Dl.sx_0]; rfl)
  simp_arith [h, ec, el]
  exact Dl.Qx (hS.wf rfl) (wf_flat (stD_flat (rule := rule) (a := at_) (w := w) fr fg fp)) (hQ _ rfl)
theorem axiom_t (n : Nat) (t : Str) (S : Store) (hS : SOK S) : Dl.Sp (tab (n + 1) ._law_axiom [.str t] S) fun o => o = .ok (stD "axiom" [.str t] (.str t) 0 0 []) S := by
  refine Dl.sp_plain (g := b__law_axiom (tab n)) rfl fun Q hQ => ?_
  unfold b__law_axiom
  simp_arith []
  exact Dl.Qx (hS.wf rfl) rfl (hQ _ rfl)
/-! ## identities -/
def idD : KT → D
  | .leaf t => stD "axiom" [.str t] (.str t) 0 0 []
  | .node s a b =>
    if s = "/" then stD "over right" [(KT.node s a b).d] (KT.node s a b).d 0 0 [stD "over left" [(KT.node s a b).d, b.d] a.d 0 1 [idD b, idD a]]
    else if s = ">" then stD "under right" [(KT.node s a b).d] (KT.node s a b).d 0 0 [stD "under left" [a.d, (KT.node s a b).d] b.d 1 1 [idD a, idD b]]
    else stD "pair left" [(KT.node s a b).d] (KT.node s a b).d 0 0 [stD "pair right" [a.d, b.d] (KT.node s a b).d 1 0 [idD a, idD b]]
theorem idD_o (a b : KT) : idD (.node "/" a b) = stD "over right" [(KT.node "/" a b).d] (KT.node "/" a b).d 0 0 [stD "over left" [(KT.node "/" a b).d, b.d] a.d 0 1 [idD b, idD a]] := rfl
theorem idD_u (a b : KT) : idD (.node ">" a b) = stD "under right" [(KT.node ">" a b).d] (KT.node ">" a b).d 0 0 [stD "under left" [a.d, (KT.node ">" a b).d] b.d 1 1 [idD a, idD b]] := rfl
theorem idD_p (a b : KT) : idD (.node "*" a b) = stD "pair left" [(KT.node "*" a b).d] (KT.node "*" a b).d 0 0 [stD "pair right" [a.d, b.d] (KT.node "*" a b).d 1 0 [idD a, idD b]] := rfl
theorem idD_pt (k : KT) (hk : k.ok AtS) : ∃ r x y z, idD k = ptD r [k.d] k.d x y z := by
  cases k with
  | leaf t => exact ⟨_, _, _, _, rfl⟩
  | node s a b =>
    rcases hk.1 with rfl | rfl | rfl <;> exact ⟨_, _, _, _, rfl⟩
theorem idD_flat : ∀ k : KT, k.ok AtS → (idD k).flat = true
  | .leaf t, _ => rfl
  | .node s a b, hk => by
    have ha := idD_flat a hk.2.1
    have hb := idD_flat b hk.2.2
    have fa := KT.flat a
    have fb := KT.flat b
    have fk := KT.flat (.node s a b)
    rcases hk.1 with rfl | rfl | rfl
    · rw [idD_o]; exact stD_flat (flats_cons fk rfl) fk (flats_cons (stD_flat (flats_cons fk (flats_cons fb rfl)) fa (flats_cons hb (flats_cons ha rfl))) rfl)
    · rw [idD_u]; exact stD_flat (flats_cons fk rfl) fk (flats_cons (stD_flat (flats_cons fa (flats_cons fk rfl)) fb (flats_cons ha (flats_cons hb rfl))) rfl)
    · rw [idD_p]; exact stD_flat (flats_cons fk rfl) fk (flats_cons (stD_flat (flats_cons fa (flats_cons fb rfl)) fk (flats_cons ha (flats_cons hb rfl))) rfl)
/-- the program's -/
theorem identity_t (n : Nat) : ∀ (L : Nat) (k : KT) (S : Store), k.ok AtS → k.at_.length ≤ L → SOK S → Dl.Sp (tab (n + L + 5) .identity [k.d] S) fun o => o = .ok (idD k) S
  | 0, k, _, _, h, _ => by have := KT.pos k; omega
  | L + 1, k, S, hk, h, hS => by
    refine Dl.sp_plain (g := b_identity (tab (n + (L + 5)))) rfl fun Q hQ => ?_
    unfold b_identity
    have S0 := SOK.sx hS .nil
    have ff := idD_flat k hk
    cases k with
    | leaf t =>
      have e := make_axiom_t (n + L + 2) hk (Dl.sx S []) S0
      rw [show n + L + 2 + 3 = n + (L + 5) by omega] at e
      simp_arith [KTd_leaf, e]
      exact Dl.Qx (hS.wf rfl) rfl (hQ _ rfl)
    | node s a b =>
      have pa := KT.pos a
      have pb := KT.pos b
      rw [KT.len_node] at h
      have ea := identity_t n L a (Dl.sx S []) hk.2.1 (by omega) S0
      have eb := identity_t n L b (Dl.sx S []) hk.2.2 (by omega) S0
      rw [show n + L + 5 = n + (L + 5) by omega] at ea eb
      have fa := idD_flat a hk.2.1
      have fb := idD_flat b hk.2.2
      obtain ⟨ra, xa, ya, za, pa'⟩ := idD_pt a hk.2.1
      obtain ⟨rb, xb, yb, zb, pb'⟩ := idD_pt b hk.2.2
      rcases hk.1 with rfl | rfl | rfl
      · have e1 := build_ol (n + L + 2) (Dl.sx S []) S0 rb xb yb zb ra xa ya za [] [] [b.d] a.d b.d a.d 0 rfl (by decide) (by decide) (by show 1 ≤ 1000; decide) (by rw [← pb']; exact fb) (by show (ptD ra [a.d] a.d xa ya za).flat = true; rw [← pa']; exact fa)
        have e1 : tab (n + (L + 5)) .build_step [.str "over left", .int 0, .tup [idD b, idD a]] (Dl.sx S []) = .ok (stD "over left" [(KT.node "/" a b).d, b.d] a.d 0 1 [idD b, idD a]) (Dl.sx S []) := by rw [pa', pb']; exact e1
        have e2 := build_or (n + L + 2) (Dl.sx S []) S0 (.str "over left") (.int 0) (.int 1) (.tup [idD b, idD a]) [(KT.node "/" a b).d] b.d a.d (by show 1 ≤ 1000; decide) 0 (stD_flat (rule := "over left") (a := 0) (w := 1) (flats_cons (KT.flat (.node "/" a b)) (flats_cons (KT.flat b) rfl)) (KT.flat a) (flats_cons fb (flats_cons fa rfl)))
        have e2 : tab (n + (L + 5)) .build_step [.str "over right", .int 0, .tup [stD "over left" [(KT.node "/" a b).d, b.d] a.d 0 1 [idD b, idD a]]] (Dl.sx S []) = .ok (idD (.node "/" a b)) (Dl.sx S []) := e2
        simp only [KTd_node] at e1 e2
        simp_arith [KTd_node, ea, eb, e1, e2]
        exact Dl.Qx (hS.wf rfl) (wf_flat ff) (hQ _ rfl)
      · have e1 := build_ul (n + L + 2) (Dl.sx S []) S0 ra xa ya za rb xb yb zb [] [] [a.d] b.d a.d b.d 0 rfl (by decide) (by decide) (by show 1 ≤ 1000; decide) 1 rfl (by rw [← pa']; exact fa) (by show (ptD rb [b.d] b.d xb yb zb).flat = true; rw [← pb']; exact fb)
        have e1 : tab (n + (L + 5)) .build_step [.str "under left", .int 1, .tup [idD a, idD b]] (Dl.sx S []) = .ok (stD "under left" [a.d, (KT.node ">" a b).d] b.d 1 1 [idD a, idD b]) (Dl.sx S []) := by rw [pa', pb']; exact e1
        have e2 := build_ur (n + L + 2) (Dl.sx S []) S0 (.str "under left") (.int 1) (.int 1) (.tup [idD a, idD b]) [(KT.node ">" a b).d] a.d b.d (by show 1 ≤ 1000; decide) 0 (stD_flat (rule := "under left") (a := 1) (w := 1) (flats_cons (KT.flat a) (flats_cons (KT.flat (.node ">" a b)) rfl)) (KT.flat b) (flats_cons fa (flats_cons fb rfl)))
        have e2 : tab (n + (L + 5)) .build_step [.str "under right", .int 0, .tup [stD "under left" [a.d, (KT.node ">" a b).d] b.d 1 1 [idD a, idD b]]] (Dl.sx S []) = .ok (idD (.node ">" a b)) (Dl.sx S []) := e2
        simp only [KTd_node] at e1 e2
        simp_arith [KTd_node, ea, eb, e1, e2]
        exact Dl.Qx (hS.wf rfl) (wf_flat ff) (hQ _ rfl)
      · have e1 := build_pr (n + L + 2) (Dl.sx S []) S0 ra xa ya za rb xb yb zb [a.d] [b.d] b.d a.d (by show 1 ≤ 1000; decide) (by show 1 ≤ 1000; decide) 1 (by rw [← pa']; exact fa) (by rw [← pb']; exact fb)
        have e1 : tab (n + (L + 5)) .build_step [.str "pair right", .int 1, .tup [idD a, idD b]] (Dl.sx S []) = .ok (stD "pair right" [a.d, b.d] (KT.node "*" a b).d 1 0 [idD a, idD b]) (Dl.sx S []) := by rw [pa', pb']; exact e1
        have e2 := build_pl (n + L + 2) (Dl.sx S []) S0 (.str "pair right") (.int 1) (.int 0) (.tup [idD a, idD b]) [] [] a.d b.d (KT.node "*" a b).d 0 rfl (by decide) (by decide) (stD_flat (rule := "pair right") (a := 1) (w := 0) (flats_cons (KT.flat a) (flats_cons (KT.flat b) rfl)) (KT.flat (.node "*" a b)) (flats_cons fa (flats_cons fb rfl)))
        have e2 : tab (n + (L + 5)) .build_step [.str "pair left", .int 0, .tup [stD "pair right" [a.d, b.d] (KT.node "*" a b).d 1 0 [idD a, idD b]]] (Dl.sx S []) = .ok (idD (.node "*" a b)) (Dl.sx S []) := e2
        simp only [KTd_node] at e1 e2
        simp_arith [KTd_node, ea, eb, e1, e2]
        exact Dl.Qx (hS.wf rfl) (wf_flat ff) (hQ _ rfl)

end Lw

set_option Elab.async false
set_option linter.all false
set_option maxRecDepth 100000
namespace Lw
open PySem L2 Dl
variable [Fa]
local macro_rules | `(tactic| simp_arith [$ls,*]) => `(tactic| simp (disch := first | omega | assumption | (simp only [List.length_cons, List.length_nil, List.length_append, List.length_take, List.length_drop]; omega) | (simp only [List.length_cons, List.length_nil])) only [sQ_, sP_, sE_, sR_, sIf_, sN_, sA_, tgO_nx, nm_, tgIx_, eC_, eV0, eV1, e1_, e2_, eB_, eF_, aN_, aC_, eMt_, eSl_, oN_, oI_, tV_, tE_, tA_, tO_, tN_, eIf_, eAnd_, eOr_, eNot_, eCh_, seq_nx, seq_rt, seq_bk, seq_ct, seq_ex, toR_some, toR_none, toT_some, truD_bl, truD_int, truD_tup, truD_non, truD_str, truD_ref, truC_lst, tyD_str, tyD_tup, tyD_int, tyD_bl, tyD_non, tyD_ref, tyC_lst, tyC_rol, tyC_dic, kE_, kR_, kIf_t, kIf_f, kN_, kA_, kIx1_, kIx2_, kIx3_, kE1_, kE21_, kE2_, kB_, kF_, kC1_, kC_, kM1_, kM2_, kM_, kS1_, kS2_, kS3_, kO_, kV_, kT_, kAn_t, kAn_f, kOr_t, kOr_f, kNo_, kIfE_t, kIfE_f, kVa_, kVa2_t, kVa2_f, kVo_, kVo2_t, kVo2_f, kVn_, kVn2_, kH_, kH1_, kH2_t, kH2_f, kH3_, List.getElem?_cons_zero, List.getElem?_cons_succ, List.set_cons_zero, List.set_cons_succ, gAdd_int, gAdd_str, gAdd_t, gAdd_r, catC_s, gSub_int, gMul_l, gMul_r, gFdiv_int, gMod_int, gLt_int, gLe_int, gGt_int, gGe_int, gInt_int, gAbs_int, gLen_tup, gLen_str, gLen_r, lenC_s, gTpl_, gLsd_, gIx_r, ixC_s, ixO_s, gIx_t, gIx_s, ixS_s, atI_0, atI_1, atI_2, atI_3, atI_4, atI_5, gAppend_r, appC_s, gExtend_r, extC_s, gPop_r, popC_s, gSet_r, setC_0, setC_2, gTuple_r, tupC_s, gTuple_t, gList_r, gList_t, newC_s, gSl_r, slC_s, gSl_t, gSl_s, cut_take, cut_drop, cut_init, cut_mid, Int.toNat_natCast, lstC_lst, lstC_rol, lstAt_C, isi_str, isi_int, isi_bool, isi_tup, isi_lst, isO_s, isB_1, isB_2, isB_3, isB_4, isB_5, isB_6, isB_7, isB_8, isB_9, isB_10, isB_11, isB_12, isB_13, isB_14, isB_15, isB_16, isB_17, isB_18, isB_19, isB_20, isB_21, isB_22, isB_23, isB_24, isB_25, isB_26, gSum_r, sumC_s, sumO_s, gMin_, gMax_, qEq_int, qNe_int, qEq_str, qNe_str, gNeg_z, tgT_, tgU_, tgL0, tgL1, eTab_, kTab_, sX_, tgIxX_, kX1_, kX2_, kX3_, gSetX_r, setX_0, setX_2, setX_s, sPar_, kPar_, eFv_, eGetD_, kG1_, isDic_r, isDC_d, kG1b_, kG2_, kG3_, gGetD_r, getC_s, gMaxL_r, maxC_, gRep_r, repC_, eD0_, gDget_r, dgC_s, List.getElem?_concat_length, set_end, sF_, kFor_, iR1_, kR1_, iR2_, kR2_, kR3_, iA_, kAny_r, kAny_t, kAny_s, iaC_s, eLc_, kLc_, wipeD_c, wipeD_n, tYes_, put_one, sAug_, gAug_i, sBk_, sCt_, sW_, st_len, st_p, st_k, st_0, st_q, st_set_p, st_set_k, st_set_0, st_push, sx_len, sx_k, sx_0, sx_q, sx_set_k, sx_set_0, sx_push, So_rt, So_nx, So_ex, Tn_nx, Tn_ct, Tn_bk, Tn_rt, Tn_ex, Bool.false_eq_true, if_true, if_false, reduceIte, Option.map_some, Option.bind_some, Bool.not_true, Bool.not_false, decide_true, decide_false, eq_self, List.length_append, List.length_singleton, List.length_cons, List.length_nil, List.map_cons, List.map_nil, Nat.sub_self, List.replicate_zero, List.append_nil, List.cons_append, List.nil_append, List.append_assoc, List.replicate_succ, Nat.reduceSub, Nat.reduceAdd, Nat.add_zero, Nat.zero_add, Nat.add_assoc, Nat.reduceLeDiff, Int.natCast_add, Int.cast_ofNat_Int, Int.reduceEq, Int.reduceLT, Int.reduceLE, Int.reduceAdd, Int.reduceSub, Int.reduceNeg, Int.reduceToNat, List.take_succ_cons, List.take_zero, List.drop_succ_cons, List.drop_zero, List.dropLast_concat, Dl.atI_last, r_ax_or, r_ax_ur, r_ax_pr, r_ax_ol, r_ax_ul, r_ax_pl, r_ax_ct, r_or_ax, r_or_ur, r_or_pr, r_or_ol, r_or_ul, r_or_pl, r_or_ct, r_ur_ax, r_ur_or, r_ur_pr, r_ur_ol, r_ur_ul, r_ur_pl, r_ur_ct, r_pr_ax, r_pr_or, r_pr_ur, r_pr_ol, r_pr_ul, r_pr_pl, r_pr_ct, r_ol_ax, r_ol_or, r_ol_ur, r_ol_pr, r_ol_ul, r_ol_pl, r_ol_ct, r_ul_ax, r_ul_or, r_ul_ur, r_ul_pr, r_ul_ol, r_ul_pl, r_ul_ct, r_pl_ax, r_pl_or, r_pl_ur, r_pl_pr, r_pl_ol, r_pl_ul, r_pl_ct, r_ct_ax, r_ct_or, r_ct_ur, r_ct_pr, r_ct_ol, r_ct_ul, r_ct_pl, q1, q2, q3, q4, q5, q6, e1, e2, e3, gInt_bl, gIs_tn, gIs_nn, gIsN_tn, gIsN_nn, $ls,*])
local macro_rules | `(tactic| walk_at "ev") => `(tactic| simp (disch := first | omega | assumption | (simp only [List.length_cons, List.length_nil, List.length_append, List.length_take, List.length_drop]; omega) | (simp only [List.length_cons, List.length_nil])) only [sQ_, sP_, sE_, sR_, sIf_, sN_, sA_, tgO_nx, nm_, tgIx_, eC_, eV0, eV1, e1_, e2_, eB_, eF_, aN_, aC_, eMt_, eSl_, oN_, oI_, tV_, tE_, tA_, tO_, tN_, eIf_, eAnd_, eOr_, eNot_, eCh_, seq_nx, seq_rt, seq_bk, seq_ct, seq_ex, toR_some, toR_none, toT_some, truD_bl, truD_int, truD_tup, truD_non, truD_str, truD_ref, truC_lst, tyD_str, tyD_tup, tyD_int, tyD_bl, tyD_non, tyD_ref, tyC_lst, tyC_rol, tyC_dic, kE_, kR_, kIf_t, kIf_f, kN_, kA_, kIx1_, kIx2_, kIx3_, kE1_, kE21_, kE2_, kB_, kF_, kC1_, kC_, kM1_, kM2_, kM_, kS1_, kS2_, kS3_, kO_, kV_, kT_, kAn_t, kAn_f, kOr_t, kOr_f, kNo_, kIfE_t, kIfE_f, kVa_, kVa2_t, kVa2_f, kVo_, kVo2_t, kVo2_f, kVn_, kVn2_, kH_, kH1_, kH2_t, kH2_f, kH3_, List.getElem?_cons_zero, List.getElem?_cons_succ, List.set_cons_zero, List.set_cons_succ, gAdd_int, gAdd_str, gAdd_t, gAdd_r, catC_s, gSub_int, gMul_l, gMul_r, gFdiv_int, gMod_int, gLt_int, gLe_int, gGt_int, gGe_int, gInt_int, gAbs_int, gLen_tup, gLen_str, gLen_r, lenC_s, gTpl_, gLsd_, gIx_r, ixC_s, ixO_s, gIx_t, gIx_s, ixS_s, atI_0, atI_1, atI_2, atI_3, atI_4, atI_5, gAppend_r, appC_s, gExtend_r, extC_s, gPop_r, popC_s, gSet_r, setC_0, setC_2, gTuple_r, tupC_s, gTuple_t, gList_r, gList_t, newC_s, gSl_r, slC_s, gSl_t, gSl_s, cut_take, cut_drop, cut_init, cut_mid, Int.toNat_natCast, lstC_lst, lstC_rol, lstAt_C, isi_str, isi_int, isi_bool, isi_tup, isi_lst, isO_s, isB_1, isB_2, isB_3, isB_4, isB_5, isB_6, isB_7, isB_8, isB_9, isB_10, isB_11, isB_12, isB_13, isB_14, isB_15, isB_16, isB_17, isB_18, isB_19, isB_20, isB_21, isB_22, isB_23, isB_24, isB_25, isB_26, gSum_r, sumC_s, sumO_s, gMin_, gMax_, qEq_int, qNe_int, qEq_str, qNe_str, gNeg_z, tgT_, tgU_, tgL0, tgL1, eTab_, kTab_, sX_, tgIxX_, kX1_, kX2_, kX3_, gSetX_r, setX_0, setX_2, setX_s, sPar_, kPar_, eFv_, eGetD_, kG1_, isDic_r, isDC_d, kG1b_, kG2_, kG3_, gGetD_r, getC_s, gMaxL_r, maxC_, gRep_r, repC_, eD0_, gDget_r, dgC_s, List.getElem?_concat_length, set_end, sF_, kFor_, iR1_, kR1_, iR2_, kR2_, kR3_, iA_, kAny_r, kAny_t, kAny_s, iaC_s, eLc_, kLc_, wipeD_c, wipeD_n, tYes_, put_one, sAug_, gAug_i, sBk_, sCt_, sW_, st_len, st_p, st_k, st_0, st_q, st_set_p, st_set_k, st_set_0, st_push, sx_len, sx_k, sx_0, sx_q, sx_set_k, sx_set_0, sx_push, So_rt, So_nx, So_ex, Tn_nx, Tn_ct, Tn_bk, Tn_rt, Tn_ex, Bool.false_eq_true, if_true, if_false, reduceIte, Option.map_some, Option.bind_some, Bool.not_true, Bool.not_false, decide_true, decide_false, eq_self, List.length_append, List.length_singleton, List.length_cons, List.length_nil, List.map_cons, List.map_nil, Nat.sub_self, List.replicate_zero, List.append_nil, List.cons_append, List.nil_append, List.append_assoc, List.replicate_succ, Nat.reduceSub, Nat.reduceAdd, Nat.add_zero, Nat.zero_add, Nat.add_assoc, Nat.reduceLeDiff, Int.natCast_add, Int.cast_ofNat_Int, Int.reduceEq, Int.reduceLT, Int.reduceLE, Int.reduceAdd, Int.reduceSub, Int.reduceNeg, Int.reduceToNat, List.take_succ_cons, List.take_zero, List.drop_succ_cons, List.drop_zero, List.dropLast_concat, Dl.atI_last, r_ax_or, r_ax_ur, r_ax_pr, r_ax_ol, r_ax_ul, r_ax_pl, r_ax_ct, r_or_ax, r_or_ur, r_or_pr, r_or_ol, r_or_ul, r_or_pl, r_or_ct, r_ur_ax, r_ur_or, r_ur_pr, r_ur_ol, r_ur_ul, r_ur_pl, r_ur_ct, r_pr_ax, r_pr_or, r_pr_ur, r_pr_ol, r_pr_ul, r_pr_pl, r_pr_ct, r_ol_ax, r_ol_or, r_ol_ur, r_ol_pr, r_ol_ul, r_ol_pl, r_ol_ct, r_ul_ax, r_ul_or, r_ul_ur, r_ul_pr, r_ul_ol, r_ul_pl, r_ul_ct, r_pl_ax, r_pl_or, r_pl_ur, r_pl_pr, r_pl_ol, r_pl_ul, r_pl_ct, r_ct_ax, r_ct_or, r_ct_ur, r_ct_pr, r_ct_ol, r_ct_ul, r_ct_pl, q1, q2, q3, q4, q5, q6, e1, e2, e3, gInt_bl, gIs_tn, gIs_nn, gIsN_tn, gIsN_nn])
-- fa
/-! ## the law's identity -/
theorem law_identity_t (n : Nat) : ∀ (L : Nat) (k : KT) (S : Store), k.ok AtS → k.at_.length ≤ L → SOK S → Dl.Sp (tab (n + L + 5) ._law_identity [k.d] S) fun o => o = .ok (idD k) S
  | 0, k, _, _, h, _ => by have := KT.pos k; omega
  | L + 1, k, S, hk, h, hS => by
    refine Dl.sp_plain (g := b__law_identity (tab (n + (L + 5)))) rfl fun Q hQ => ?_
    unfold b__law_identity
    have S0 := SOK.sx hS .nil
    have ff := idD_flat k hk
    cases k with
    | leaf t =>
      have e := axiom_t (n + (L + 4)) t (Dl.sx S []) S0
      rw [show n + (L + 4) + 1 = n + (L + 5) by omega] at e
      simp_arith [KTd_leaf, e]
      exact Dl.Qx (hS.wf rfl) rfl (hQ _ rfl)
    | node s a b =>
      have pa := KT.pos a
      have pb := KT.pos b
      rw [KT.len_node] at h
      have ea := law_identity_t n L a (Dl.sx S []) hk.2.1 (by omega) S0
      have eb := law_identity_t n L b (Dl.sx S []) hk.2.2 (by omega) S0
      rw [show n + L + 5 = n + (L + 5) by omega] at ea eb
      have fa := idD_flat a hk.2.1
      have fb := idD_flat b hk.2.2
      have ka := KT.flat a
      have kb := KT.flat b
      obtain ⟨ra, xa, ya, za, pa'⟩ := idD_pt a hk.2.1
      obtain ⟨rb, xb, yb, zb, pb'⟩ := idD_pt b hk.2.2
      have kk := KT.flat (.node s a b)
      rcases hk.1 with rfl | rfl | rfl
      · have f1 : flats [idD b, idD a] = true := flats_cons fb (flats_cons fa rfl)
        have S1 : SOK (Dl.sx S [.lst [idD b, idD a]]) := SOK.sx hS (.one (c := Dl.Cell.lst _) f1)
        have e1 := mk_t (n + (L + 3)) (rule := "over left") (at_ := 0) (l := S.length) (ps := [idD b, idD a]) (lns := [lnD [b.d] b.d, lnD [a.d] a.d]) (row := [(KT.node "/" a b).d, b.d]) (g := a.d) (w := 1) S1 (by rw [Dl.sx_0]; rfl) (by show 2 ≤ 100; decide) (flats_cons kk (flats_cons kb rfl)) ka f1 (by rw [pa', pb']; rfl) (fun p hp => by
          simp only [List.mem_cons, List.not_mem_nil, or_false] at hp
          rcases hp with rfl | rfl
          · exact ⟨_, _, _, _, pb'⟩
          · exact ⟨_, _, _, _, pa'⟩) (fun T hT k hk => line_ol (n + (L + 3)) T hT k [] [] [b.d] a.d b.d a.d 0 rfl (by decide) (by decide) (by show 1 ≤ 1000; decide) rfl rfl (flats_cons kb rfl) ka kb ka hk)
        have f2 : flats [stD "over left" [(KT.node "/" a b).d, b.d] a.d 0 1 [idD b, idD a]] = true := flats_cons (stD_flat (flats_cons kk (flats_cons kb rfl)) ka f1) rfl
        have S2 : SOK (Dl.sx S [.lst [idD b, idD a], .lst [stD "over left" [(KT.node "/" a b).d, b.d] a.d 0 1 [idD b, idD a]]]) := SOK.sx hS (.cons (c := Dl.Cell.lst _) f1 (.one (c := Dl.Cell.lst _) f2))
        have e2 := mk_t (n + (L + 3)) (rule := "over right") (at_ := 0) (l := S.length + 1) (ps := [stD "over left" [(KT.node "/" a b).d, b.d] a.d 0 1 [idD b, idD a]]) (lns := [lnD ([(KT.node "/" a b).d] ++ [b.d]) a.d]) (row := [(KT.node "/" a b).d]) (g := (KT.node "/" a b).d) (w := 0) S2 (by rw [Dl.sx_k]; rfl) (by show 1 ≤ 100; decide) (flats_cons kk rfl) kk f2 rfl (fun p hp => by
          rw [List.mem_singleton.mp hp]
          exact ⟨_, _, _, _, rfl⟩) (fun T hT k hk => line_or (n + (L + 3)) T hT k [(KT.node "/" a b).d] b.d a.d (by show 1 ≤ 1000; decide) (flats_cons kk rfl) kb ka hk (Nat.le_refl _))
        rw [show n + (L + 3) + 2 = n + (L + 5) by omega] at e1 e2
        simp only [KTd_node] at e1 e2
        simp_arith [KTd_node, ea, eb, e1, e2]
        exact Dl.Qx (hS.wf rfl) (wf_flat ff) (hQ _ rfl)
      · have f1 : flats [idD a, idD b] = true := flats_cons fa (flats_cons fb rfl)
        have S1 : SOK (Dl.sx S [.lst [idD a, idD b]]) := SOK.sx hS (.one (c := Dl.Cell.lst _) f1)
        have e1 := mk_t (n + (L + 3)) (rule := "under left") (at_ := 1) (l := S.length) (ps := [idD a, idD b]) (lns := [lnD [a.d] a.d, lnD [b.d] b.d]) (row := [a.d, (KT.node ">" a b).d]) (g := b.d) (w := 1) S1 (by rw [Dl.sx_0]; rfl) (by show 2 ≤ 100; decide) (flats_cons ka (flats_cons kk rfl)) kb f1 (by rw [pa', pb']; rfl) (fun p hp => by
          simp only [List.mem_cons, List.not_mem_nil, or_false] at hp
          rcases hp with rfl | rfl
          · exact ⟨_, _, _, _, pa'⟩
          · exact ⟨_, _, _, _, pb'⟩) (fun T hT k hk => line_ul (n + (L + 3)) T hT k [] [] [a.d] b.d a.d b.d 0 rfl (by decide) (by decide) (by show 1 ≤ 1000; decide) rfl rfl (flats_cons ka rfl) kb ka kb hk 1 rfl)
        have f2 : flats [stD "under left" [a.d, (KT.node ">" a b).d] b.d 1 1 [idD a, idD b]] = true := flats_cons (stD_flat (flats_cons ka (flats_cons kk rfl)) kb f1) rfl
        have S2 : SOK (Dl.sx S [.lst [idD a, idD b], .lst [stD "under left" [a.d, (KT.node ">" a b).d] b.d 1 1 [idD a, idD b]]]) := SOK.sx hS (.cons (c := Dl.Cell.lst _) f1 (.one (c := Dl.Cell.lst _) f2))
        have e2 := mk_t (n + (L + 3)) (rule := "under right") (at_ := 0) (l := S.length + 1) (ps := [stD "under left" [a.d, (KT.node ">" a b).d] b.d 1 1 [idD a, idD b]]) (lns := [lnD (a.d :: [(KT.node ">" a b).d]) b.d]) (row := [(KT.node ">" a b).d]) (g := (KT.node ">" a b).d) (w := 0) S2 (by rw [Dl.sx_k]; rfl) (by show 1 ≤ 100; decide) (flats_cons kk rfl) kk f2 rfl (fun p hp => by
          rw [List.mem_singleton.mp hp]
          exact ⟨_, _, _, _, rfl⟩) (fun T hT k hk => line_ur (n + (L + 3)) T hT k [(KT.node ">" a b).d] a.d b.d (by show 1 ≤ 1000; decide) (flats_cons kk rfl) ka kb hk (Nat.le_refl _))
        rw [show n + (L + 3) + 2 = n + (L + 5) by omega] at e1 e2
        simp only [KTd_node] at e1 e2
        simp_arith [KTd_node, ea, eb, e1, e2]
        exact Dl.Qx (hS.wf rfl) (wf_flat ff) (hQ _ rfl)
      · have f1 : flats [idD a, idD b] = true := flats_cons fa (flats_cons fb rfl)
        have S1 : SOK (Dl.sx S [.lst [idD a, idD b]]) := SOK.sx hS (.one (c := Dl.Cell.lst _) f1)
        have e1 := mk_t (n + (L + 3)) (rule := "pair right") (at_ := 1) (l := S.length) (ps := [idD a, idD b]) (lns := [lnD [a.d] a.d, lnD [b.d] b.d]) (row := [a.d, b.d]) (g := (KT.node "*" a b).d) (w := 0) S1 (by rw [Dl.sx_0]; rfl) (by show 2 ≤ 100; decide) (flats_cons ka (flats_cons kb rfl)) kk f1 (by rw [pa', pb']; rfl) (fun p hp => by
          simp only [List.mem_cons, List.not_mem_nil, or_false] at hp
          rcases hp with rfl | rfl
          · exact ⟨_, _, _, _, pa'⟩
          · exact ⟨_, _, _, _, pb'⟩) (fun T hT k hk => line_pr (n + (L + 3)) T hT k [a.d] [b.d] b.d a.d (by show 1 ≤ 1000; decide) (by show 1 ≤ 1000; decide) (flats_cons ka rfl) (flats_cons kb rfl) kb ka hk)
        have f2 : flats [stD "pair right" [a.d, b.d] (KT.node "*" a b).d 1 0 [idD a, idD b]] = true := flats_cons (stD_flat (flats_cons ka (flats_cons kb rfl)) kk f1) rfl
        have S2 : SOK (Dl.sx S [.lst [idD a, idD b], .lst [stD "pair right" [a.d, b.d] (KT.node "*" a b).d 1 0 [idD a, idD b]]]) := SOK.sx hS (.cons (c := Dl.Cell.lst _) f1 (.one (c := Dl.Cell.lst _) f2))
        have e2 := mk_t (n + (L + 3)) (rule := "pair left") (at_ := 0) (l := S.length + 1) (ps := [stD "pair right" [a.d, b.d] (KT.node "*" a b).d 1 0 [idD a, idD b]]) (lns := [lnD [a.d, b.d] (KT.node "*" a b).d]) (row := [(KT.node "*" a b).d]) (g := (KT.node "*" a b).d) (w := 0) S2 (by rw [Dl.sx_k]; rfl) (by show 1 ≤ 100; decide) (flats_cons kk rfl) kk f2 rfl (fun p hp => by
          rw [List.mem_singleton.mp hp]
          exact ⟨_, _, _, _, rfl⟩) (fun T hT k hk => line_pl (n + (L + 3)) T hT k [] [] a.d b.d (KT.node "*" a b).d 0 rfl (by decide) (by decide) rfl rfl ka kb kk hk)
        rw [show n + (L + 3) + 2 = n + (L + 5) by omega] at e1 e2
        simp only [KTd_node] at e1 e2
        simp_arith [KTd_node, ea, eb, e1, e2]
        exact Dl.Qx (hS.wf rfl) (wf_flat ff) (hQ _ rfl)

end Lw

set_option Elab.async false
set_option linter.all false
set_option maxRecDepth 100000
namespace Lw
open PySem L2 Dl
variable [Fa]
local macro_rules | `(tactic| simp_arith [$ls,*]) => `(tactic| simp (disch := first | omega | assumption | (simp only [List.length_cons, List.length_nil, List.length_append, List.length_take, List.length_drop]; omega) | (simp only [List.length_cons, List.length_nil])) only [sQ_, sP_, sE_, sR_, sIf_, sN_, sA_, tgO_nx, nm_, tgIx_, eC_, eV0, eV1, e1_, e2_, eB_, eF_, aN_, aC_, eMt_, eSl_, oN_, oI_, tV_, tE_, tA_, tO_, tN_, eIf_, eAnd_, eOr_, eNot_, eCh_, seq_nx, seq_rt, seq_bk, seq_ct, seq_ex, toR_some, toR_none, toT_some, truD_bl, truD_int, truD_tup, truD_non, truD_str, truD_ref, truC_lst, tyD_str, tyD_tup, tyD_int, tyD_bl, tyD_non, tyD_ref, tyC_lst, tyC_rol, tyC_dic, kE_, kR_, kIf_t, kIf_f, kN_, kA_, kIx1_, kIx2_, kIx3_, kE1_, kE21_, kE2_, kB_, kF_, kC1_, kC_, kM1_, kM2_, kM_, kS1_, kS2_, kS3_, kO_, kV_, kT_, kAn_t, kAn_f, kOr_t, kOr_f, kNo_, kIfE_t, kIfE_f, kVa_, kVa2_t, kVa2_f, kVo_, kVo2_t, kVo2_f, kVn_, kVn2_, kH_, kH1_, kH2_t, kH2_f, kH3_, List.getElem?_cons_zero, List.getElem?_cons_succ, List.set_cons_zero, List.set_cons_succ, gAdd_int, gAdd_str, gAdd_t, gAdd_r, catC_s, gSub_int, gMul_l, gMul_r, gFdiv_int, gMod_int, gLt_int, gLe_int, gGt_int, gGe_int, gInt_int, gAbs_int, gLen_tup, gLen_str, gLen_r, lenC_s, gTpl_, gLsd_, gIx_r, ixC_s, ixO_s, gIx_t, gIx_s, ixS_s, atI_0, atI_1, atI_2, atI_3, atI_4, atI_5, gAppend_r, appC_s, gExtend_r, extC_s, gPop_r, popC_s, gSet_r, setC_0, setC_2, gTuple_r, tupC_s, gTuple_t, gList_r, gList_t, newC_s, gSl_r, slC_s, gSl_t, gSl_s, cut_take, cut_drop, cut_init, cut_mid, Int.toNat_natCast, lstC_lst, lstC_rol, lstAt_C, isi_str, isi_int, isi_bool, isi_tup, isi_lst, isO_s, isB_1, isB_2, isB_3, isB_4, isB_5, isB_6, isB_7, isB_8, isB_9, isB_10, isB_11, isB_12, isB_13, isB_14, isB_15, isB_16, isB_17, isB_18, isB_19, isB_20, isB_21, isB_22, isB_23, isB_24, isB_25, isB_26, gSum_r, sumC_s, sumO_s, gMin_, gMax_, qEq_int, qNe_int, qEq_str, qNe_str, gNeg_z, tgT_, tgU_, tgL0, tgL1, eTab_, kTab_, sX_, tgIxX_, kX1_, kX2_, kX3_, gSetX_r, setX_0, setX_2, setX_s, sPar_, kPar_, eFv_, eGetD_, kG1_, isDic_r, isDC_d, kG1b_, kG2_, kG3_, gGetD_r, getC_s, gMaxL_r, maxC_, gRep_r, repC_, eD0_, gDget_r, dgC_s, List.getElem?_concat_length, set_end, sF_, kFor_, iR1_, kR1_, iR2_, kR2_, kR3_, iA_, kAny_r, kAny_t, kAny_s, iaC_s, eLc_, kLc_, wipeD_c, wipeD_n, tYes_, put_one, sAug_, gAug_i, sBk_, sCt_, sW_, st_len, st_p, st_k, st_0, st_q, st_set_p, st_set_k, st_set_0, st_push, sx_len, sx_k, sx_0, sx_q, sx_set_k, sx_set_0, sx_push, So_rt, So_nx, So_ex, Tn_nx, Tn_ct, Tn_bk, Tn_rt, Tn_ex, Bool.false_eq_true, if_true, if_false, reduceIte, Option.map_some, Option.bind_some, Bool.not_true, Bool.not_false, decide_true, decide_false, eq_self, List.length_append, List.length_singleton, List.length_cons, List.length_nil, List.map_cons, List.map_nil, Nat.sub_self, List.replicate_zero, List.append_nil, List.cons_append, List.nil_append, List.append_assoc, List.replicate_succ, Nat.reduceSub, Nat.reduceAdd, Nat.add_zero, Nat.zero_add, Nat.add_assoc, Nat.reduceLeDiff, Int.natCast_add, Int.cast_ofNat_Int, Int.reduceEq, Int.reduceLT, Int.reduceLE, Int.reduceAdd, Int.reduceSub, Int.reduceNeg, Int.reduceToNat, List.take_succ_cons, List.take_zero, List.drop_succ_cons, List.drop_zero, List.dropLast_concat, Dl.atI_last, r_ax_or, r_ax_ur, r_ax_pr, r_ax_ol, r_ax_ul, r_ax_pl, r_ax_ct, r_or_ax, r_or_ur, r_or_pr, r_or_ol, r_or_ul, r_or_pl, r_or_ct, r_ur_ax, r_ur_or, r_ur_pr, r_ur_ol, r_ur_ul, r_ur_pl, r_ur_ct, r_pr_ax, r_pr_or, r_pr_ur, r_pr_ol, r_pr_ul, r_pr_pl, r_pr_ct, r_ol_ax, r_ol_or, r_ol_ur, r_ol_pr, r_ol_ul, r_ol_pl, r_ol_ct, r_ul_ax, r_ul_or, r_ul_ur, r_ul_pr, r_ul_ol, r_ul_pl, r_ul_ct, r_pl_ax, r_pl_or, r_pl_ur, r_pl_pr, r_pl_ol, r_pl_ul, r_pl_ct, r_ct_ax, r_ct_or, r_ct_ur, r_ct_pr, r_ct_ol, r_ct_ul, r_ct_pl, q1, q2, q3, q4, q5, q6, e1, e2, e3, gInt_bl, gIs_tn, gIs_nn, gIsN_tn, gIsN_nn, $ls,*])
local macro_rules | `(tactic| walk_at "ev") => `(tactic| simp (disch := first | omega | assumption | (simp only [List.length_cons, List.length_nil, List.length_append, List.length_take, List.length_drop]; omega) | (simp only [List.length_cons, List.length_nil])) only [sQ_, sP_, sE_, sR_, sIf_, sN_, sA_, tgO_nx, nm_, tgIx_, eC_, eV0, eV1, e1_, e2_, eB_, eF_, aN_, aC_, eMt_, eSl_, oN_, oI_, tV_, tE_, tA_, tO_, tN_, eIf_, eAnd_, eOr_, eNot_, eCh_, seq_nx, seq_rt, seq_bk, seq_ct, seq_ex, toR_some, toR_none, toT_some, truD_bl, truD_int, truD_tup, truD_non, truD_str, truD_ref, truC_lst, tyD_str, tyD_tup, tyD_int, tyD_bl, tyD_non, tyD_ref, tyC_lst, tyC_rol, tyC_dic, kE_, kR_, kIf_t, kIf_f, kN_, kA_, kIx1_, kIx2_, kIx3_, kE1_, kE21_, kE2_, kB_, kF_, kC1_, kC_, kM1_, kM2_, kM_, kS1_, kS2_, kS3_, kO_, kV_, kT_, kAn_t, kAn_f, kOr_t, kOr_f, kNo_, kIfE_t, kIfE_f, kVa_, kVa2_t, kVa2_f, kVo_, kVo2_t, kVo2_f, kVn_, kVn2_, kH_, kH1_, kH2_t, kH2_f, kH3_, List.getElem?_cons_zero, List.getElem?_cons_succ, List.set_cons_zero, List.set_cons_succ, gAdd_int, gAdd_str, gAdd_t, gAdd_r, catC_s, gSub_int, gMul_l, gMul_r, gFdiv_int, gMod_int, gLt_int, gLe_int, gGt_int, gGe_int, gInt_int, gAbs_int, gLen_tup, gLen_str, gLen_r, lenC_s, gTpl_, gLsd_, gIx_r, ixC_s, ixO_s, gIx_t, gIx_s, ixS_s, atI_0, atI_1, atI_2, atI_3, atI_4, atI_5, gAppend_r, appC_s, gExtend_r, extC_s, gPop_r, popC_s, gSet_r, setC_0, setC_2, gTuple_r, tupC_s, gTuple_t, gList_r, gList_t, newC_s, gSl_r, slC_s, gSl_t, gSl_s, cut_take, cut_drop, cut_init, cut_mid, Int.toNat_natCast, lstC_lst, lstC_rol, lstAt_C, isi_str, isi_int, isi_bool, isi_tup, isi_lst, isO_s, isB_1, isB_2, isB_3, isB_4, isB_5, isB_6, isB_7, isB_8, isB_9, isB_10, isB_11, isB_12, isB_13, isB_14, isB_15, isB_16, isB_17, isB_18, isB_19, isB_20, isB_21, isB_22, isB_23, isB_24, isB_25, isB_26, gSum_r, sumC_s, sumO_s, gMin_, gMax_, qEq_int, qNe_int, qEq_str, qNe_str, gNeg_z, tgT_, tgU_, tgL0, tgL1, eTab_, kTab_, sX_, tgIxX_, kX1_, kX2_, kX3_, gSetX_r, setX_0, setX_2, setX_s, sPar_, kPar_, eFv_, eGetD_, kG1_, isDic_r, isDC_d, kG1b_, kG2_, kG3_, gGetD_r, getC_s, gMaxL_r, maxC_, gRep_r, repC_, eD0_, gDget_r, dgC_s, List.getElem?_concat_length, set_end, sF_, kFor_, iR1_, kR1_, iR2_, kR2_, kR3_, iA_, kAny_r, kAny_t, kAny_s, iaC_s, eLc_, kLc_, wipeD_c, wipeD_n, tYes_, put_one, sAug_, gAug_i, sBk_, sCt_, sW_, st_len, st_p, st_k, st_0, st_q, st_set_p, st_set_k, st_set_0, st_push, sx_len, sx_k, sx_0, sx_q, sx_set_k, sx_set_0, sx_push, So_rt, So_nx, So_ex, Tn_nx, Tn_ct, Tn_bk, Tn_rt, Tn_ex, Bool.false_eq_true, if_true, if_false, reduceIte, Option.map_some, Option.bind_some, Bool.not_true, Bool.not_false, decide_true, decide_false, eq_self, List.length_append, List.length_singleton, List.length_cons, List.length_nil, List.map_cons, List.map_nil, Nat.sub_self, List.replicate_zero, List.append_nil, List.cons_append, List.nil_append, List.append_assoc, List.replicate_succ, Nat.reduceSub, Nat.reduceAdd, Nat.add_zero, Nat.zero_add, Nat.add_assoc, Nat.reduceLeDiff, Int.natCast_add, Int.cast_ofNat_Int, Int.reduceEq, Int.reduceLT, Int.reduceLE, Int.reduceAdd, Int.reduceSub, Int.reduceNeg, Int.reduceToNat, List.take_succ_cons, List.take_zero, List.drop_succ_cons, List.drop_zero, List.dropLast_concat, Dl.atI_last, r_ax_or, r_ax_ur, r_ax_pr, r_ax_ol, r_ax_ul, r_ax_pl, r_ax_ct, r_or_ax, r_or_ur, r_or_pr, r_or_ol, r_or_ul, r_or_pl, r_or_ct, r_ur_ax, r_ur_or, r_ur_pr, r_ur_ol, r_ur_ul, r_ur_pl, r_ur_ct, r_pr_ax, r_pr_or, r_pr_ur, r_pr_ol, r_pr_ul, r_pr_pl, r_pr_ct, r_ol_ax, r_ol_or, r_ol_ur, r_ol_pr, r_ol_ul, r_ol_pl, r_ol_ct, r_ul_ax, r_ul_or, r_ul_ur, r_ul_pr, r_ul_ol, r_ul_pl, r_ul_ct, r_pl_ax, r_pl_or, r_pl_ur, r_pl_pr, r_pl_ol, r_pl_ul, r_pl_ct, r_ct_ax, r_ct_or, r_ct_ur, r_ct_pr, r_ct_ol, r_ct_ul, r_ct_pl, q1, q2, q3, q4, q5, q6, e1, e2, e3, gInt_bl, gIs_tn, gIs_nn, gIsN_tn, gIsN_nn])
-- fa
/-! ## the law's own judges of atoms and kinds -/
theorem atT_ne {b : Str} {m : Int} (hb : Base b) (h : m ≠ 0) (h0 : 0 ≤ m) : (atT b m = b) = False := eq_false fun e => by
  have := congrArg Str.length e
  unfold atT at this
  rw [if_neg h, app_len, app_len, dot_len] at this
  omega
theorem at_empty {b : Str} {m : Int} (hb : Base b) : (atT b m = "") = False := eq_false fun e => by
  have h := congrArg Str.length e
  have := hb.ne
  rw [show ("" : Str).length = 0 by decide +kernel] at h
  unfold atT at h
  split at h
  · omega
  · rw [app_len, app_len] at h; omega
theorem law_is_atom_t (n : Nat) {t : Str} (ht : AtS t) (S : Store) (hS : SOK S) : Dl.Sp (tab (n + 1) ._law_is_atom [.str t] S) fun o => o = .ok (.bl true) S := by
  obtain ⟨b, ps, hb', hs', es⟩ := split0 ht
  obtain ⟨b2, m, rfl, hb, h0, h1⟩ := ht
  have hbb : b2 = b := by
    have h := split_atom hb h0
    rw [hs'] at h
    split at h
    · exact (List.cons.inj h).1.symm
    · exact (List.cons.inj h).1.symm
  subst hbb
  have bl := hb.len
  have bn := hb.ne
  have l2 := len_list b2
  obtain ⟨c, hc, hcs⟩ := hb.fst
  have ei : atI b2.cps.toList 0 = some c := atI_nat (j := 0) hc
  refine Dl.sp_plain (g := b__law_is_atom (tab n)) rfl fun Q hQ => ?_
  unfold b__law_is_atom
  have sm : ("abcdefghijklmnopqrstuvwxyz0123456789" : Str).cps.toList = SM := rfl
  have ec : runC (S.length + 1) [some (.str (atT b2 m)), some (.str b2), none, none] (.one 3) (tE (Dl.e2 gNin (eV 3) (eC (.str "abcdefghijklmnopqrstuvwxyz0123456789")))) (eV 3) [] (b2.cps.toList.map fun c => D.str ⟨#[c]⟩) (Dl.sx S [.lst (sts (b2 :: ps)), .lst []]) = .ok (.ref (S.length + 1)) (Dl.sx S [.lst (sts (b2 :: ps)), .lst []]) :=
    comp_skip chk_nil _ fun d hd => by
      obtain ⟨c, hc, rfl⟩ := List.mem_map.mp hd
      have hcm := hb.all c hc
      exact ⟨_, rfl, by simp_arith [gNin_c, sm, hcm]⟩
  simp only [sts_cons] at es ec
  simp_arith [at_empty hb, es, ei, show ¬ (b2.length : Int) = 0 by omega, show ¬ (8 : Int) < (b2.length : Int) by omega, gNin_c, hcs, ec]
  by_cases hm : m = 0
  · have e0 : atT b2 m = b2 := if_pos hm
    simp_arith [e0]
    exact Dl.Qx (hS.wf rfl) rfl (hQ _ rfl)
  · obtain ⟨c2, hc2, hn2⟩ := num_head (m := m) (by omega)
    have ln := num_len (m := m) (by omega) h1
    have l3 := len_list (toString m : Str)
    have l4 := get_lt hc2
    have ei2 : atI (toString m : Str).cps.toList 0 = some c2 := atI_nat (j := 0) hc2
    have hd := num_dig (m := m) (by omega)
    have ec2 : runC (S.length + 2) [some (.str (atT b2 m)), some (.str b2), some (.str (toString m)), none] (.one 3) (tE (Dl.e2 gNin (eV 3) (eC (.str "0123456789")))) (eV 3) [] ((toString m : Str).cps.toList.map fun c => D.str ⟨#[c]⟩) (Dl.sx S [.lst (.str b2 :: sts ps), .lst [], .lst []]) = .ok (.ref (S.length + 2)) (Dl.sx S [.lst (.str b2 :: sts ps), .lst [], .lst []]) :=
      comp_skip chk_nil _ fun d hd' => by
        obtain ⟨c, hc, rfl⟩ := List.mem_map.mp hd'
        exact ⟨_, rfl, by simp_arith [gNin_c, hd c hc]⟩
    simp_arith [atT_ne hb hm h0, tail_at hm, gCountS_, count_atom hb (show 0 < m by omega), show ¬ ((toString m : Str).length : Int) = 0 by omega, show ¬ (6 : Int) < ((toString m : Str).length : Int) by omega, ei2, show ((⟨#[c2]⟩ : Str) = "0") = False from eq_false fun e => hn2 (by rw [zero_chr] at e; exact chr_inj e), ec2]
    exact Dl.Qx (hS.wf rfl) rfl (hQ _ rfl)
theorem sg_in {S : Store} {l : Nat} {s : Str} (hs : Sg s) (h : S[l]? = some (.lst [.str "/", .str ">", .str "*"])) : gNin (.str s) (.ref l) S = some (.bl false, S) := by
  rw [gNin_strs (xs := ["/", ">", "*"]) h rfl]
  rcases hs with rfl | rfl | rfl <;> rfl
theorem law_is_kind_t (n : Nat) : ∀ (L : Nat) (k : KT) (dp : Int) (S : Store), k.ok AtS → k.at_.length ≤ L → (L : Int) ≤ dp + 1 → SOK S → Dl.Sp (tab (n + L + 1) ._law_is_kind [k.d, .int dp] S) fun o => o = .ok (.bl true) S
  | 0, k, _, _, _, h, _, _ => by have := KT.pos k; omega
  | L + 1, k, dp, S, hk, h, hd, hS => by
    refine Dl.sp_plain (g := b__law_is_kind (tab (n + (L + 1)))) rfl fun Q hQ => ?_
    unfold b__law_is_kind
    cases k with
    | leaf t =>
      have e := law_is_atom_t (n + L) hk (Dl.sx S []) (SOK.sx hS .nil)
      rw [show n + L + 1 = n + (L + 1) by omega] at e
      simp_arith [KTd_leaf, e]
      exact Dl.Qx (hS.wf rfl) rfl (hQ _ rfl)
    | node s a b =>
      have pa := KT.pos a
      have pb := KT.pos b
      rw [KT.len_node] at h
      have S1 : SOK (Dl.sx S [.lst [.str "/", .str ">", .str "*"]]) := SOK.sx hS (.one (c := Dl.Cell.lst _) rfl)
      have ea := law_is_kind_t n L a (dp - 1) _ hk.2.1 (by omega) (by omega) S1
      have eb := law_is_kind_t n L b (dp - 1) _ hk.2.2 (by omega) (by omega) S1
      rw [show n + L + 1 = n + (L + 1) by omega] at ea eb
      have es := sg_in (S := Dl.sx S [.lst [.str "/", .str ">", .str "*"]]) (l := S.length) hk.1 (by rw [Dl.sx_0]; rfl)
      simp_arith [KTd_node, show ¬ dp ≤ 0 by omega, es, ea, eb]
      exact Dl.Qx (hS.wf rfl) rfl (hQ _ rfl)

end Lw

set_option Elab.async false
set_option linter.all false
set_option maxRecDepth 100000
namespace Lw
open PySem L2 Dl
variable [Fa]
local macro_rules | `(tactic| simp_arith [$ls,*]) => `(tactic| simp (disch := first | omega | assumption | (simp only [List.length_cons, List.length_nil, List.length_append, List.length_take, List.length_drop]; omega) | (simp only [List.length_cons, List.length_nil])) only [sQ_, sP_, sE_, sR_, sIf_, sN_, sA_, tgO_nx, nm_, tgIx_, eC_, eV0, eV1, e1_, e2_, eB_, eF_, aN_, aC_, eMt_, eSl_, oN_, oI_, tV_, tE_, tA_, tO_, tN_, eIf_, eAnd_, eOr_, eNot_, eCh_, seq_nx, seq_rt, seq_bk, seq_ct, seq_ex, toR_some, toR_none, toT_some, truD_bl, truD_int, truD_tup, truD_non, truD_str, truD_ref, truC_lst, tyD_str, tyD_tup, tyD_int, tyD_bl, tyD_non, tyD_ref, tyC_lst, tyC_rol, tyC_dic, kE_, kR_, kIf_t, kIf_f, kN_, kA_, kIx1_, kIx2_, kIx3_, kE1_, kE21_, kE2_, kB_, kF_, kC1_, kC_, kM1_, kM2_, kM_, kS1_, kS2_, kS3_, kO_, kV_, kT_, kAn_t, kAn_f, kOr_t, kOr_f, kNo_, kIfE_t, kIfE_f, kVa_, kVa2_t, kVa2_f, kVo_, kVo2_t, kVo2_f, kVn_, kVn2_, kH_, kH1_, kH2_t, kH2_f, kH3_, List.getElem?_cons_zero, List.getElem?_cons_succ, List.set_cons_zero, List.set_cons_succ, gAdd_int, gAdd_str, gAdd_t, gAdd_r, catC_s, gSub_int, gMul_l, gMul_r, gFdiv_int, gMod_int, gLt_int, gLe_int, gGt_int, gGe_int, gInt_int, gAbs_int, gLen_tup, gLen_str, gLen_r, lenC_s, gTpl_, gLsd_, gIx_r, ixC_s, ixO_s, gIx_t, gIx_s, ixS_s, atI_0, atI_1, atI_2, atI_3, atI_4, atI_5, gAppend_r, appC_s, gExtend_r, extC_s, gPop_r, popC_s, gSet_r, setC_0, setC_2, gTuple_r, tupC_s, gTuple_t, gList_r, gList_t, newC_s, gSl_r, slC_s, gSl_t, gSl_s, cut_take, cut_drop, cut_init, cut_mid, Int.toNat_natCast, lstC_lst, lstC_rol, lstAt_C, isi_str, isi_int, isi_bool, isi_tup, isi_lst, isO_s, isB_1, isB_2, isB_3, isB_4, isB_5, isB_6, isB_7, isB_8, isB_9, isB_10, isB_11, isB_12, isB_13, isB_14, isB_15, isB_16, isB_17, isB_18, isB_19, isB_20, isB_21, isB_22, isB_23, isB_24, isB_25, isB_26, gSum_r, sumC_s, sumO_s, gMin_, gMax_, qEq_int, qNe_int, qEq_str, qNe_str, gNeg_z, tgT_, tgU_, tgL0, tgL1, eTab_, kTab_, sX_, tgIxX_, kX1_, kX2_, kX3_, gSetX_r, setX_0, setX_2, setX_s, sPar_, kPar_, eFv_, eGetD_, kG1_, isDic_r, isDC_d, kG1b_, kG2_, kG3_, gGetD_r, getC_s, gMaxL_r, maxC_, gRep_r, repC_, eD0_, gDget_r, dgC_s, List.getElem?_concat_length, set_end, sF_, kFor_, iR1_, kR1_, iR2_, kR2_, kR3_, iA_, kAny_r, kAny_t, kAny_s, iaC_s, eLc_, kLc_, wipeD_c, wipeD_n, tYes_, put_one, sAug_, gAug_i, sBk_, sCt_, sW_, st_len, st_p, st_k, st_0, st_q, st_set_p, st_set_k, st_set_0, st_push, sx_len, sx_k, sx_0, sx_q, sx_set_k, sx_set_0, sx_push, So_rt, So_nx, So_ex, Tn_nx, Tn_ct, Tn_bk, Tn_rt, Tn_ex, Bool.false_eq_true, if_true, if_false, reduceIte, Option.map_some, Option.bind_some, Bool.not_true, Bool.not_false, decide_true, decide_false, eq_self, List.length_append, List.length_singleton, List.length_cons, List.length_nil, List.map_cons, List.map_nil, Nat.sub_self, List.replicate_zero, List.append_nil, List.cons_append, List.nil_append, List.append_assoc, List.replicate_succ, Nat.reduceSub, Nat.reduceAdd, Nat.add_zero, Nat.zero_add, Nat.add_assoc, Nat.reduceLeDiff, Int.natCast_add, Int.cast_ofNat_Int, Int.reduceEq, Int.reduceLT, Int.reduceLE, Int.reduceAdd, Int.reduceSub, Int.reduceNeg, Int.reduceToNat, List.take_succ_cons, List.take_zero, List.drop_succ_cons, List.drop_zero, List.dropLast_concat, Dl.atI_last, r_ax_or, r_ax_ur, r_ax_pr, r_ax_ol, r_ax_ul, r_ax_pl, r_ax_ct, r_or_ax, r_or_ur, r_or_pr, r_or_ol, r_or_ul, r_or_pl, r_or_ct, r_ur_ax, r_ur_or, r_ur_pr, r_ur_ol, r_ur_ul, r_ur_pl, r_ur_ct, r_pr_ax, r_pr_or, r_pr_ur, r_pr_ol, r_pr_ul, r_pr_pl, r_pr_ct, r_ol_ax, r_ol_or, r_ol_ur, r_ol_pr, r_ol_ul, r_ol_pl, r_ol_ct, r_ul_ax, r_ul_or, r_ul_ur, r_ul_pr, r_ul_ol, r_ul_pl, r_ul_ct, r_pl_ax, r_pl_or, r_pl_ur, r_pl_pr, r_pl_ol, r_pl_ul, r_pl_ct, r_ct_ax, r_ct_or, r_ct_ur, r_ct_pr, r_ct_ol, r_ct_ul, r_ct_pl, q1, q2, q3, q4, q5, q6, e1, e2, e3, gInt_bl, gIs_tn, gIs_nn, gIsN_tn, gIsN_nn, $ls,*])
local macro_rules | `(tactic| walk_at "ev") => `(tactic| simp (disch := first | omega | assumption | (simp only [List.length_cons, List.length_nil, List.length_append, List.length_take, List.length_drop]; omega) | (simp only [List.length_cons, List.length_nil])) only [sQ_, sP_, sE_, sR_, sIf_, sN_, sA_, tgO_nx, nm_, tgIx_, eC_, eV0, eV1, e1_, e2_, eB_, eF_, aN_, aC_, eMt_, eSl_, oN_, oI_, tV_, tE_, tA_, tO_, tN_, eIf_, eAnd_, eOr_, eNot_, eCh_, seq_nx, seq_rt, seq_bk, seq_ct, seq_ex, toR_some, toR_none, toT_some, truD_bl, truD_int, truD_tup, truD_non, truD_str, truD_ref, truC_lst, tyD_str, tyD_tup, tyD_int, tyD_bl, tyD_non, tyD_ref, tyC_lst, tyC_rol, tyC_dic, kE_, kR_, kIf_t, kIf_f, kN_, kA_, kIx1_, kIx2_, kIx3_, kE1_, kE21_, kE2_, kB_, kF_, kC1_, kC_, kM1_, kM2_, kM_, kS1_, kS2_, kS3_, kO_, kV_, kT_, kAn_t, kAn_f, kOr_t, kOr_f, kNo_, kIfE_t, kIfE_f, kVa_, kVa2_t, kVa2_f, kVo_, kVo2_t, kVo2_f, kVn_, kVn2_, kH_, kH1_, kH2_t, kH2_f, kH3_, List.getElem?_cons_zero, List.getElem?_cons_succ, List.set_cons_zero, List.set_cons_succ, gAdd_int, gAdd_str, gAdd_t, gAdd_r, catC_s, gSub_int, gMul_l, gMul_r, gFdiv_int, gMod_int, gLt_int, gLe_int, gGt_int, gGe_int, gInt_int, gAbs_int, gLen_tup, gLen_str, gLen_r, lenC_s, gTpl_, gLsd_, gIx_r, ixC_s, ixO_s, gIx_t, gIx_s, ixS_s, atI_0, atI_1, atI_2, atI_3, atI_4, atI_5, gAppend_r, appC_s, gExtend_r, extC_s, gPop_r, popC_s, gSet_r, setC_0, setC_2, gTuple_r, tupC_s, gTuple_t, gList_r, gList_t, newC_s, gSl_r, slC_s, gSl_t, gSl_s, cut_take, cut_drop, cut_init, cut_mid, Int.toNat_natCast, lstC_lst, lstC_rol, lstAt_C, isi_str, isi_int, isi_bool, isi_tup, isi_lst, isO_s, isB_1, isB_2, isB_3, isB_4, isB_5, isB_6, isB_7, isB_8, isB_9, isB_10, isB_11, isB_12, isB_13, isB_14, isB_15, isB_16, isB_17, isB_18, isB_19, isB_20, isB_21, isB_22, isB_23, isB_24, isB_25, isB_26, gSum_r, sumC_s, sumO_s, gMin_, gMax_, qEq_int, qNe_int, qEq_str, qNe_str, gNeg_z, tgT_, tgU_, tgL0, tgL1, eTab_, kTab_, sX_, tgIxX_, kX1_, kX2_, kX3_, gSetX_r, setX_0, setX_2, setX_s, sPar_, kPar_, eFv_, eGetD_, kG1_, isDic_r, isDC_d, kG1b_, kG2_, kG3_, gGetD_r, getC_s, gMaxL_r, maxC_, gRep_r, repC_, eD0_, gDget_r, dgC_s, List.getElem?_concat_length, set_end, sF_, kFor_, iR1_, kR1_, iR2_, kR2_, kR3_, iA_, kAny_r, kAny_t, kAny_s, iaC_s, eLc_, kLc_, wipeD_c, wipeD_n, tYes_, put_one, sAug_, gAug_i, sBk_, sCt_, sW_, st_len, st_p, st_k, st_0, st_q, st_set_p, st_set_k, st_set_0, st_push, sx_len, sx_k, sx_0, sx_q, sx_set_k, sx_set_0, sx_push, So_rt, So_nx, So_ex, Tn_nx, Tn_ct, Tn_bk, Tn_rt, Tn_ex, Bool.false_eq_true, if_true, if_false, reduceIte, Option.map_some, Option.bind_some, Bool.not_true, Bool.not_false, decide_true, decide_false, eq_self, List.length_append, List.length_singleton, List.length_cons, List.length_nil, List.map_cons, List.map_nil, Nat.sub_self, List.replicate_zero, List.append_nil, List.cons_append, List.nil_append, List.append_assoc, List.replicate_succ, Nat.reduceSub, Nat.reduceAdd, Nat.add_zero, Nat.zero_add, Nat.add_assoc, Nat.reduceLeDiff, Int.natCast_add, Int.cast_ofNat_Int, Int.reduceEq, Int.reduceLT, Int.reduceLE, Int.reduceAdd, Int.reduceSub, Int.reduceNeg, Int.reduceToNat, List.take_succ_cons, List.take_zero, List.drop_succ_cons, List.drop_zero, List.dropLast_concat, Dl.atI_last, r_ax_or, r_ax_ur, r_ax_pr, r_ax_ol, r_ax_ul, r_ax_pl, r_ax_ct, r_or_ax, r_or_ur, r_or_pr, r_or_ol, r_or_ul, r_or_pl, r_or_ct, r_ur_ax, r_ur_or, r_ur_pr, r_ur_ol, r_ur_ul, r_ur_pl, r_ur_ct, r_pr_ax, r_pr_or, r_pr_ur, r_pr_ol, r_pr_ul, r_pr_pl, r_pr_ct, r_ol_ax, r_ol_or, r_ol_ur, r_ol_pr, r_ol_ul, r_ol_pl, r_ol_ct, r_ul_ax, r_ul_or, r_ul_ur, r_ul_pr, r_ul_ol, r_ul_pl, r_ul_ct, r_pl_ax, r_pl_or, r_pl_ur, r_pl_pr, r_pl_ol, r_pl_ul, r_pl_ct, r_ct_ax, r_ct_or, r_ct_ur, r_ct_pr, r_ct_ol, r_ct_ul, r_ct_pl, q1, q2, q3, q4, q5, q6, e1, e2, e3, gInt_bl, gIs_tn, gIs_nn, gIsN_tn, gIsN_nn])
-- fa
/-! ## shapes, steps that follow -/
theorem law_int_t (n : Nat) (i : Int) (S : Store) (hS : SOK S) : Dl.Sp (tab (n + 1) ._law_is_integer [.int i] S) fun o => o = .ok (.bl true) S := by
  refine Dl.sp_plain (g := b__law_is_integer (tab n)) rfl fun Q hQ => ?_
  unfold b__law_is_integer
  simp_arith []
  exact Dl.Qx (hS.wf rfl) rfl (hQ _ rfl)
/-- of the shape of a step -/
def Shp (d : D) : Prop := ∃ (rule : Str) (js : List KT) (g : KT) (a w : Int) (ps : List D), d = stD rule (kds js) g.d a w ps ∧ js ≠ [] ∧ js.length ≤ 100 ∧ (∀ k ∈ js, Fit k) ∧ Fit g
theorem shape_t (n : Nat) {d : D} (h : Shp d) (S : Store) (hS : SOK S) : Dl.Sp (tab (n + 50) ._law_shape [d] S) fun o => o = .ok (.bl true) S := by
  obtain ⟨rule, js, g, a, w, ps, rfl, h0, h1, h2, h3⟩ := h
  have kl := kds_len js
  refine Dl.sp_plain (g := b__law_shape (tab (n + 49))) rfl fun Q hQ => ?_
  unfold b__law_shape stD
  have hz : ¬ ((kds js).length : Int) = 0 := fun z => h0 (List.eq_nil_of_length_eq_zero (by omega))
  have S0 := SOK.sx hS .nil
  simp_arith [hz]
  refine Dl.forQ (fun j ρ T => ∃ v, ρ = [some (.tup [.str rule, .tup (kds js), g.d, .int a, .int w, .tup ps]), v] ∧ T = Dl.sx S []) ⟨_, rfl, rfl⟩ ?_ ?_
  · rintro j d _ _ hj ⟨v, rfl, rfl⟩
    unfold kds at hj
    rw [List.getElem?_map] at hj
    cases hk : js[j]? with
    | none => rw [hk] at hj; exact nomatch hj
    | some k =>
      rw [hk] at hj
      cases hj
      have fk := h2 k (List.mem_of_getElem? hk)
      have e := law_is_kind_t (n + 7) 41 k 40 _ fk.1 (by have := fk.2; omega) (by omega) S0
      refine ⟨chk_nil, _, _, rfl, ?_⟩
      simp_arith [e]
      exact ⟨_, rfl, trivial⟩
  · rintro _ _ ⟨v, rfl, rfl⟩
    refine ⟨chk_nil, ?_⟩
    have e := law_is_kind_t (n + 7) 41 g 40 _ h3.1 (by have := h3.2; omega) (by omega) S0
    have e1 := law_int_t (n + 48) a _ S0
    have e2 := law_int_t (n + 48) w _ S0
    simp_arith [e, e1, e2]
    exact Dl.Qx (hS.wf rfl) rfl (hQ _ rfl)
def Fol (d : D) : Prop := d.flat = true ∧ ∀ (n : Nat) (T : Store), SOK T → tab (n + 51) ._law_follows [d] T = .ok (.bl true) T
theorem fol_axiom (t : Str) : Fol (stD "axiom" [.str t] (.str t) 0 0 []) := ⟨rfl, fun n S hS => by
  have h : Dl.Sp (tab (n + 51) ._law_follows [stD "axiom" [.str t] (.str t) 0 0 []] S) fun o => o = .ok (.bl true) S := by
    refine Dl.sp_plain (g := b__law_follows (tab (n + 50))) rfl fun Q hQ => ?_
    unfold b__law_follows stD
    have eg := gEq_refl (S := Dl.sx S []) (d := .tup [.tup [.str t], .str t, .int 0, .int 0, .tup []]) rfl (by show 2 ≤ 64; decide)
    simp_arith [List.take_of_length_le, eg]
    exact Dl.Qx (hS.wf rfl) rfl (hQ _ rfl)
  exact h⟩
theorem fol_step {rule : Str} {row : List D} {g : D} {a w : Int} {ps lns : List D} (r1 : (rule = "axiom") = False) (r2 : (rule = "cut") = False) (fr : flats row = true) (fg : g.flat = true) (fp : flats ps = true) (hd : (D.tup [.tup row, g, .int w]).dep ≤ 64) (hsh : ∀ p ∈ ps, Shp p) (hz : ps.length ≤ 100)
    (hps : lns = ps.map fun p => match p with | .tup (_ :: r :: g :: _) => .tup [r, g] | _ => .non)
    (hl : ∀ (n : Nat) (T : Store), SOK T → ∀ k, T[k]? = some (.lst lns) → tab (n + 50) ._law_line [.str rule, .int a, .ref k] T = .ok (.tup [.tup row, g, .int w]) T) : Fol (stD rule row g a w ps) := ⟨stD_flat fr fg fp, fun n S hS => by
  have h : Dl.Sp (tab (n + 51) ._law_follows [stD rule row g a w ps] S) fun o => o = .ok (.bl true) S := by
    refine Dl.sp_plain (g := b__law_follows (tab (n + 50))) rfl fun Q hQ => ?_
    unfold b__law_follows stD
    simp_arith [r1]
    refine Dl.forQ (fun j ρ T => ∃ v, ρ = [some (.tup [.str rule, .tup row, g, .int a, .int w, .tup ps]), v, none] ∧ T = Dl.sx S []) ⟨_, rfl, rfl⟩ ?_ ?_
    · rintro j p _ _ hj ⟨v, rfl, rfl⟩
      have e := shape_t n (hsh p (List.mem_of_getElem? hj)) _ (SOK.sx hS .nil)
      refine ⟨chk_nil, _, _, rfl, ?_⟩
      simp_arith [e]
      exact ⟨_, rfl, trivial⟩
    · rintro _ _ ⟨v, rfl, rfl⟩
      refine ⟨chk_nil, ?_⟩
      have ec : runC S.length [some (.tup [.str rule, .tup row, g, .int a, .int w, .tup ps]), none, none] (.one 1) tYesD (eB gTpl (aC (Dl.e2 gIx (eV 1) (eC (.int 1))) (aC (Dl.e2 gIx (eV 1) (eC (.int 2))) aN))) [] ps (Dl.sx S [.lst []]) = .ok (.ref S.length) (Dl.sx S [.lst lns]) := by
        rw [hps]
        refine Dl.comp_sx0 (fun p => match p with | .tup (_ :: r :: g :: _) => .tup [r, g] | _ => .non) (by omega) (fun a => chk_nil) (fun p hp => ?_)
        obtain ⟨rule', js, g', a', w', ps', rfl, _⟩ := hsh p hp
        exact ⟨_, rfl, fun a => by unfold stD; simp_arith []⟩
      have fl : flats lns = true := by
        rw [hps]
        refine flats_iff.mpr fun d hd => ?_
        obtain ⟨p, hp, rfl⟩ := List.mem_map.mp hd
        obtain ⟨rule', js, g', a', w', ps', rfl, _⟩ := hsh p hp
        show (flats (kds js) && (g'.d.flat && true)) = true
        rw [kds_flat, KT.flat]; rfl
      have el := hl n (Dl.sx S [.lst lns]) (SOK.sx hS (.one (c := Dl.Cell.lst _) fl)) S.length (by rw [Dl.sx_0]; rfl)
      have eg := gEq_refl (S := Dl.sx S [.lst lns]) (d := .tup [.tup row, g, .int w]) (show (flats row && (g.flat && (true && true))) = true by rw [fr, fg]; rfl) hd
      simp_arith [ec, el, r2, eg]
      exact Dl.Qx (hS.wf rfl) rfl (hQ _ rfl)
  exact h⟩
/-! ## derivations by their steps: n of them, each follows -/
mutual
inductive Gd : Nat → D → Prop
  | mk {rule : Str} {row : List D} {g : D} {a w : Int} {ps : List D} {m : Nat} (h : Fol (stD rule row g a w ps)) (t : Gds m ps) : Gd (m + 1) (stD rule row g a w ps)
inductive Gds : Nat → List D → Prop
  | nil : Gds 0 []
  | cons {n m : Nat} {d : D} {ds : List D} (h : Gd n d) (t : Gds m ds) : Gds (n + m) (d :: ds)
end
theorem Gd.fol {n : Nat} {d : D} (h : Gd n d) : Fol d := by cases h; assumption
theorem Gd.pos {n : Nat} {d : D} (h : Gd n d) : 1 ≤ n := by cases h; omega
theorem Gds.flat : ∀ {m : Nat} {ds : List D}, Gds m ds → flats ds = true
  | _, _, .nil => rfl
  | _, _, .cons h t => flats_cons h.fol.1 (Gds.flat t)
theorem Gds.len : ∀ {m : Nat} {ds : List D}, Gds m ds → ds.length ≤ m
  | _, _, .nil => Nat.le_refl _
  | _, _, .cons h t => by
    have := h.pos
    have := Gds.len t
    rw [List.length_cons]; omega
theorem Gds.app : ∀ {a b : Nat} {ds es : List D}, Gds a ds → Gds b es → Gds (a + b) (ds ++ es)
  | _, _, _, _, .nil, h => by rw [Nat.zero_add]; exact h
  | _, _, _, _, .cons h t, h2 => by rw [Nat.add_assoc]; exact .cons h (Gds.app t h2)
theorem Gds.last : ∀ {m : Nat} {ds : List D} {d : D}, Gds m (ds ++ [d]) → ∃ a b, m = a + b ∧ Gds a ds ∧ Gd b d
  | _, [], _, h => by
    cases h with
    | cons h t =>
      cases t
      exact ⟨0, _, by omega, .nil, h⟩
  | _, x :: ds, _, h => by
    cases h with
    | cons h t =>
      obtain ⟨a, b, rfl, h1, h2⟩ := Gds.last t
      exact ⟨_, b, by omega, .cons h h1, h2⟩
theorem Gds.rev : ∀ {m : Nat} {ds : List D}, Gds m ds → Gds m ds.reverse
  | _, _, .nil => .nil
  | _, _, .cons (n := n) (m := m) h t => by
    rw [List.reverse_cons, Nat.add_comm]
    have q := (Gds.rev t).app (.cons h .nil)
    rwa [Nat.add_zero] at q
theorem law_right_t (n m : Nat) {d : D} (h : Gd m d) (hs : Shp d) (hm : m ≤ 399) (S : Store) (hS : SOK S) : Dl.Sp (tab (n + 52) ._law_right [d] S) fun o => o = .ok (.bl true) S := by
  have S1 : SOK (Dl.sx S [.lst [d]]) := SOK.sx hS (.one (c := Dl.Cell.lst _) (flats_cons h.fol.1 rfl))
  have e1 := shape_t (n + 1) hs _ S1
  refine Dl.sp_plain (g := b__law_right (tab (n + 51))) rfl fun Q hQ => ?_
  unfold b__law_right
  simp_arith [e1]
  refine Dl.forQ (fun j ρ T => ∃ c k M ds v2 v3, Dl.FL M ∧ M[k]? = some (.lst ds) ∧ Gds c ds ∧ c + j ≤ m ∧ ρ = [some d, some (.ref (S.length + k)), v2, v3] ∧ T = Dl.sx S M)
    ⟨m, 0, [.lst [d]], [d], none, none, .one (c := Dl.Cell.lst _) (flats_cons h.fol.1 rfl), rfl, by have q := Gds.cons h .nil; rwa [Nat.add_zero] at q, by omega, rfl, rfl⟩ ?_ ?_
  · rintro j x _ _ hj ⟨c, k, M, ds, v2, v3, hM, hk, hG, hc, rfl, rfl⟩
    refine ⟨chk_nil, _, _, rfl, ?_⟩
    rcases List.eq_nil_or_concat ds with rfl | ⟨ds', e, rfl⟩
    · simp_arith [hk]
      exact Dl.Qx (hS.wf rfl) rfl (hQ _ rfl)
    · rw [List.concat_eq_append] at hk hG
      obtain ⟨a, b, rfl, hG1, hG2⟩ := hG.last
      have hl := hG1.len
      have hb := hG2.pos
      simp_arith [hk, show ¬ ((ds'.length : Int) + 1 = 0) by omega]
      have hM' : Dl.FL (M.set k (.lst ds')) := hM.set (c := Dl.Cell.lst _) hG1.flat
      have hk' : (M.set k (Cell.lst ds'))[k]? = some (.lst ds') := List.getElem?_set_self (get_lt hk)
      generalize M.set k (Cell.lst ds') = M' at hM' hk' ⊢
      have ef := hG2.fol.2 n (Dl.sx S M') (SOK.sx hS hM')
      cases hG2 with
      | @mk rule row g a' w ps m' hF hP =>
        have hpl := hP.len
        unfold stD at ef
        simp_arith [show stD rule row g a' w ps = .tup [.str rule, .tup row, g, .int a', .int w, .tup ps] from rfl, ef, get_app hk']
        refine ⟨a + m', M'.length + 1, M' ++ [.lst ps, .lst (ds' ++ ps)], ds' ++ ps, _, _, hM'.app (.cons (c := Dl.Cell.lst _) hP.flat (.one (c := Dl.Cell.lst _) (flats_app hG1.flat hP.flat))), ?_, hG1.app hP, by omega, rfl, rfl⟩
        rw [List.getElem?_append_right (by omega), Nat.add_sub_cancel_left]
        rfl
  · rintro _ _ ⟨c, k, M, ds, v2, v3, hM, hk, hG, hc, rfl, rfl⟩
    rw [rng_length] at hc
    exact absurd hc (by show ¬ c + 400 ≤ m; omega)

end Lw

set_option Elab.async false
set_option linter.all false
set_option maxRecDepth 100000
namespace Lw
open PySem L2 Dl
variable [Fa]
local macro_rules | `(tactic| simp_arith [$ls,*]) => `(tactic| simp (disch := first | omega | assumption | (simp only [List.length_cons, List.length_nil, List.length_append, List.length_take, List.length_drop]; omega) | (simp only [List.length_cons, List.length_nil])) only [sQ_, sP_, sE_, sR_, sIf_, sN_, sA_, tgO_nx, nm_, tgIx_, eC_, eV0, eV1, e1_, e2_, eB_, eF_, aN_, aC_, eMt_, eSl_, oN_, oI_, tV_, tE_, tA_, tO_, tN_, eIf_, eAnd_, eOr_, eNot_, eCh_, seq_nx, seq_rt, seq_bk, seq_ct, seq_ex, toR_some, toR_none, toT_some, truD_bl, truD_int, truD_tup, truD_non, truD_str, truD_ref, truC_lst, tyD_str, tyD_tup, tyD_int, tyD_bl, tyD_non, tyD_ref, tyC_lst, tyC_rol, tyC_dic, kE_, kR_, kIf_t, kIf_f, kN_, kA_, kIx1_, kIx2_, kIx3_, kE1_, kE21_, kE2_, kB_, kF_, kC1_, kC_, kM1_, kM2_, kM_, kS1_, kS2_, kS3_, kO_, kV_, kT_, kAn_t, kAn_f, kOr_t, kOr_f, kNo_, kIfE_t, kIfE_f, kVa_, kVa2_t, kVa2_f, kVo_, kVo2_t, kVo2_f, kVn_, kVn2_, kH_, kH1_, kH2_t, kH2_f, kH3_, List.getElem?_cons_zero, List.getElem?_cons_succ, List.set_cons_zero, List.set_cons_succ, gAdd_int, gAdd_str, gAdd_t, gAdd_r, catC_s, gSub_int, gMul_l, gMul_r, gFdiv_int, gMod_int, gLt_int, gLe_int, gGt_int, gGe_int, gInt_int, gAbs_int, gLen_tup, gLen_str, gLen_r, lenC_s, gTpl_, gLsd_, gIx_r, ixC_s, ixO_s, gIx_t, gIx_s, ixS_s, atI_0, atI_1, atI_2, atI_3, atI_4, atI_5, gAppend_r, appC_s, gExtend_r, extC_s, gPop_r, popC_s, gSet_r, setC_0, setC_2, gTuple_r, tupC_s, gTuple_t, gList_r, gList_t, newC_s, gSl_r, slC_s, gSl_t, gSl_s, cut_take, cut_drop, cut_init, cut_mid, Int.toNat_natCast, lstC_lst, lstC_rol, lstAt_C, isi_str, isi_int, isi_bool, isi_tup, isi_lst, isO_s, isB_1, isB_2, isB_3, isB_4, isB_5, isB_6, isB_7, isB_8, isB_9, isB_10, isB_11, isB_12, isB_13, isB_14, isB_15, isB_16, isB_17, isB_18, isB_19, isB_20, isB_21, isB_22, isB_23, isB_24, isB_25, isB_26, gSum_r, sumC_s, sumO_s, gMin_, gMax_, qEq_int, qNe_int, qEq_str, qNe_str, gNeg_z, tgT_, tgU_, tgL0, tgL1, eTab_, kTab_, sX_, tgIxX_, kX1_, kX2_, kX3_, gSetX_r, setX_0, setX_2, setX_s, sPar_, kPar_, eFv_, eGetD_, kG1_, isDic_r, isDC_d, kG1b_, kG2_, kG3_, gGetD_r, getC_s, gMaxL_r, maxC_, gRep_r, repC_, eD0_, gDget_r, dgC_s, List.getElem?_concat_length, set_end, sF_, kFor_, iR1_, kR1_, iR2_, kR2_, kR3_, iA_, kAny_r, kAny_t, kAny_s, iaC_s, eLc_, kLc_, wipeD_c, wipeD_n, tYes_, put_one, sAug_, gAug_i, sBk_, sCt_, sW_, st_len, st_p, st_k, st_0, st_q, st_set_p, st_set_k, st_set_0, st_push, sx_len, sx_k, sx_0, sx_q, sx_set_k, sx_set_0, sx_push, So_rt, So_nx, So_ex, Tn_nx, Tn_ct, Tn_bk, Tn_rt, Tn_ex, Bool.false_eq_true, if_true, if_false, reduceIte, Option.map_some, Option.bind_some, Bool.not_true, Bool.not_false, decide_true, decide_false, eq_self, List.length_append, List.length_singleton, List.length_cons, List.length_nil, List.map_cons, List.map_nil, Nat.sub_self, List.replicate_zero, List.append_nil, List.cons_append, List.nil_append, List.append_assoc, List.replicate_succ, Nat.reduceSub, Nat.reduceAdd, Nat.add_zero, Nat.zero_add, Nat.add_assoc, Nat.reduceLeDiff, Int.natCast_add, Int.cast_ofNat_Int, Int.reduceEq, Int.reduceLT, Int.reduceLE, Int.reduceAdd, Int.reduceSub, Int.reduceNeg, Int.reduceToNat, List.take_succ_cons, List.take_zero, List.drop_succ_cons, List.drop_zero, List.dropLast_concat, Dl.atI_last, r_ax_or, r_ax_ur, r_ax_pr, r_ax_ol, r_ax_ul, r_ax_pl, r_ax_ct, r_or_ax, r_or_ur, r_or_pr, r_or_ol, r_or_ul, r_or_pl, r_or_ct, r_ur_ax, r_ur_or, r_ur_pr, r_ur_ol, r_ur_ul, r_ur_pl, r_ur_ct, r_pr_ax, r_pr_or, r_pr_ur, r_pr_ol, r_pr_ul, r_pr_pl, r_pr_ct, r_ol_ax, r_ol_or, r_ol_ur, r_ol_pr, r_ol_ul, r_ol_pl, r_ol_ct, r_ul_ax, r_ul_or, r_ul_ur, r_ul_pr, r_ul_ol, r_ul_pl, r_ul_ct, r_pl_ax, r_pl_or, r_pl_ur, r_pl_pr, r_pl_ol, r_pl_ul, r_pl_ct, r_ct_ax, r_ct_or, r_ct_ur, r_ct_pr, r_ct_ol, r_ct_ul, r_ct_pl, q1, q2, q3, q4, q5, q6, e1, e2, e3, gInt_bl, gIs_tn, gIs_nn, gIsN_tn, gIsN_nn, $ls,*])
local macro_rules | `(tactic| walk_at "ev") => `(tactic| simp (disch := first | omega | assumption | (simp only [List.length_cons, List.length_nil, List.length_append, List.length_take, List.length_drop]; omega) | (simp only [List.length_cons, List.length_nil])) only [sQ_, sP_, sE_, sR_, sIf_, sN_, sA_, tgO_nx, nm_, tgIx_, eC_, eV0, eV1, e1_, e2_, eB_, eF_, aN_, aC_, eMt_, eSl_, oN_, oI_, tV_, tE_, tA_, tO_, tN_, eIf_, eAnd_, eOr_, eNot_, eCh_, seq_nx, seq_rt, seq_bk, seq_ct, seq_ex, toR_some, toR_none, toT_some, truD_bl, truD_int, truD_tup, truD_non, truD_str, truD_ref, truC_lst, tyD_str, tyD_tup, tyD_int, tyD_bl, tyD_non, tyD_ref, tyC_lst, tyC_rol, tyC_dic, kE_, kR_, kIf_t, kIf_f, kN_, kA_, kIx1_, kIx2_, kIx3_, kE1_, kE21_, kE2_, kB_, kF_, kC1_, kC_, kM1_, kM2_, kM_, kS1_, kS2_, kS3_, kO_, kV_, kT_, kAn_t, kAn_f, kOr_t, kOr_f, kNo_, kIfE_t, kIfE_f, kVa_, kVa2_t, kVa2_f, kVo_, kVo2_t, kVo2_f, kVn_, kVn2_, kH_, kH1_, kH2_t, kH2_f, kH3_, List.getElem?_cons_zero, List.getElem?_cons_succ, List.set_cons_zero, List.set_cons_succ, gAdd_int, gAdd_str, gAdd_t, gAdd_r, catC_s, gSub_int, gMul_l, gMul_r, gFdiv_int, gMod_int, gLt_int, gLe_int, gGt_int, gGe_int, gInt_int, gAbs_int, gLen_tup, gLen_str, gLen_r, lenC_s, gTpl_, gLsd_, gIx_r, ixC_s, ixO_s, gIx_t, gIx_s, ixS_s, atI_0, atI_1, atI_2, atI_3, atI_4, atI_5, gAppend_r, appC_s, gExtend_r, extC_s, gPop_r, popC_s, gSet_r, setC_0, setC_2, gTuple_r, tupC_s, gTuple_t, gList_r, gList_t, newC_s, gSl_r, slC_s, gSl_t, gSl_s, cut_take, cut_drop, cut_init, cut_mid, Int.toNat_natCast, lstC_lst, lstC_rol, lstAt_C, isi_str, isi_int, isi_bool, isi_tup, isi_lst, isO_s, isB_1, isB_2, isB_3, isB_4, isB_5, isB_6, isB_7, isB_8, isB_9, isB_10, isB_11, isB_12, isB_13, isB_14, isB_15, isB_16, isB_17, isB_18, isB_19, isB_20, isB_21, isB_22, isB_23, isB_24, isB_25, isB_26, gSum_r, sumC_s, sumO_s, gMin_, gMax_, qEq_int, qNe_int, qEq_str, qNe_str, gNeg_z, tgT_, tgU_, tgL0, tgL1, eTab_, kTab_, sX_, tgIxX_, kX1_, kX2_, kX3_, gSetX_r, setX_0, setX_2, setX_s, sPar_, kPar_, eFv_, eGetD_, kG1_, isDic_r, isDC_d, kG1b_, kG2_, kG3_, gGetD_r, getC_s, gMaxL_r, maxC_, gRep_r, repC_, eD0_, gDget_r, dgC_s, List.getElem?_concat_length, set_end, sF_, kFor_, iR1_, kR1_, iR2_, kR2_, kR3_, iA_, kAny_r, kAny_t, kAny_s, iaC_s, eLc_, kLc_, wipeD_c, wipeD_n, tYes_, put_one, sAug_, gAug_i, sBk_, sCt_, sW_, st_len, st_p, st_k, st_0, st_q, st_set_p, st_set_k, st_set_0, st_push, sx_len, sx_k, sx_0, sx_q, sx_set_k, sx_set_0, sx_push, So_rt, So_nx, So_ex, Tn_nx, Tn_ct, Tn_bk, Tn_rt, Tn_ex, Bool.false_eq_true, if_true, if_false, reduceIte, Option.map_some, Option.bind_some, Bool.not_true, Bool.not_false, decide_true, decide_false, eq_self, List.length_append, List.length_singleton, List.length_cons, List.length_nil, List.map_cons, List.map_nil, Nat.sub_self, List.replicate_zero, List.append_nil, List.cons_append, List.nil_append, List.append_assoc, List.replicate_succ, Nat.reduceSub, Nat.reduceAdd, Nat.add_zero, Nat.zero_add, Nat.add_assoc, Nat.reduceLeDiff, Int.natCast_add, Int.cast_ofNat_Int, Int.reduceEq, Int.reduceLT, Int.reduceLE, Int.reduceAdd, Int.reduceSub, Int.reduceNeg, Int.reduceToNat, List.take_succ_cons, List.take_zero, List.drop_succ_cons, List.drop_zero, List.dropLast_concat, Dl.atI_last, r_ax_or, r_ax_ur, r_ax_pr, r_ax_ol, r_ax_ul, r_ax_pl, r_ax_ct, r_or_ax, r_or_ur, r_or_pr, r_or_ol, r_or_ul, r_or_pl, r_or_ct, r_ur_ax, r_ur_or, r_ur_pr, r_ur_ol, r_ur_ul, r_ur_pl, r_ur_ct, r_pr_ax, r_pr_or, r_pr_ur, r_pr_ol, r_pr_ul, r_pr_pl, r_pr_ct, r_ol_ax, r_ol_or, r_ol_ur, r_ol_pr, r_ol_ul, r_ol_pl, r_ol_ct, r_ul_ax, r_ul_or, r_ul_ur, r_ul_pr, r_ul_ol, r_ul_pl, r_ul_ct, r_pl_ax, r_pl_or, r_pl_ur, r_pl_pr, r_pl_ol, r_pl_ul, r_pl_ct, r_ct_ax, r_ct_or, r_ct_ur, r_ct_pr, r_ct_ol, r_ct_ul, r_ct_pl, q1, q2, q3, q4, q5, q6, e1, e2, e3, gInt_bl, gIs_tn, gIs_nn, gIsN_tn, gIsN_nn])
-- fa
theorem gRevT_t {xs : List D} {S : Store} : gRevT (.tup xs) S = some (.ref S.length, S ++ [.lst xs.reverse]) := Dl.nr rfl
theorem law_steps_t (n m : Nat) {d : D} (h : Gd m d) (hm : m ≤ 399) (S : Store) (hS : SOK S) : Dl.Sp (tab (n + 1) ._law_steps [d] S) fun o => ∃ fs : List D, fs.length = m ∧ flats fs = true ∧ o = .ok (.ref S.length) (S ++ [.lst fs]) := by
  refine Dl.sp_plain (g := b__law_steps (tab n)) rfl fun Q hQ => ?_
  unfold b__law_steps
  simp_arith []
  refine Dl.forQ (fun j ρ T => ∃ c k M ds fs v3 v4, Dl.FL M ∧ M[k]? = some (.lst ds) ∧ k ≠ 1 ∧ M[1]? = some (.lst fs) ∧ fs.length = j ∧ flats fs = true ∧ Gds c ds ∧ c + j = m ∧ ρ = [some d, some (.ref (S.length + k)), some (.ref (S.length + 1)), v3, v4] ∧ T = Dl.sx S M)
    ⟨m, 0, [.lst [d], .lst []], [d], [], none, none, .cons (c := Dl.Cell.lst _) (flats_cons h.fol.1 rfl) (.one (c := Dl.Cell.lst _) rfl), rfl, by decide, rfl, rfl, rfl, by have q := Gds.cons h .nil; rwa [Nat.add_zero] at q, by omega, rfl, rfl⟩ ?_ ?_
  · rintro j x _ _ hj ⟨c, k, M, ds, fs, v3, v4, hM, hk, hk1, hf, hfl, hff, hG, hc, rfl, rfl⟩
    refine ⟨chk_nil, _, _, rfl, ?_⟩
    rcases List.eq_nil_or_concat ds with rfl | ⟨ds', e, rfl⟩
    · cases hG
      simp_arith [hk]
      exact Dl.Qxl (hS.wf rfl) hf (wfs_flat hff) (hQ _ ⟨fs, by omega, hff, rfl⟩)
    · rw [List.concat_eq_append] at hk hG
      obtain ⟨a, b, rfl, hG1, hG2⟩ := hG.last
      have hl := hG1.len
      have hb := hG2.pos
      simp_arith [hk, show ¬ ((ds'.length : Int) + 1 = 0) by omega]
      have hM' : Dl.FL (M.set k (.lst ds')) := hM.set (c := Dl.Cell.lst _) hG1.flat
      have hk' : (M.set k (Cell.lst ds'))[k]? = some (.lst ds') := List.getElem?_set_self (get_lt hk)
      have hf' : (M.set k (Cell.lst ds'))[1]? = some (.lst fs) := by rw [List.getElem?_set_ne hk1]; exact hf
      generalize M.set k (Cell.lst ds') = M' at hM' hk' hf' ⊢
      cases hG2 with
      | @mk rule row g a' w ps m' hF hP =>
        have hpl := hP.len
        have hz : fs.length < 16777216 := by omega
        simp_arith [hf']
        have hM2 : Dl.FL (M'.set 1 (.lst (fs ++ [stD rule row g a' w ps]))) := hM'.set (c := Dl.Cell.lst _) (flats_app hff (flats_cons hF.1 rfl))
        have hk2 : (M'.set 1 (Cell.lst (fs ++ [stD rule row g a' w ps])))[k]? = some (.lst ds') := by rw [List.getElem?_set_ne (Ne.symm hk1)]; exact hk'
        have hf2 : (M'.set 1 (Cell.lst (fs ++ [stD rule row g a' w ps])))[1]? = some (.lst (fs ++ [stD rule row g a' w ps])) := List.getElem?_set_self (get_lt hf')
        generalize M'.set 1 (Cell.lst (fs ++ [stD rule row g a' w ps])) = M2 at hM2 hk2 hf2 ⊢
        have hr : ps.reverse.length = ps.length := List.length_reverse
        simp_arith [show stD rule row g a' w ps = .tup [.str rule, .tup row, g, .int a', .int w, .tup ps] from rfl, gRevT_t, get_app hk2]
        refine ⟨a + m', M2.length + 1, M2 ++ [.lst ps.reverse, .lst (ds' ++ ps.reverse)], ds' ++ ps.reverse, fs ++ [stD rule row g a' w ps], _, _, hM2.app (.cons (c := Dl.Cell.lst _) hP.rev.flat (.one (c := Dl.Cell.lst _) (flats_app hG1.flat hP.rev.flat))), ?_, by have := get_lt hf2; omega, get_app hf2, by rw [List.length_append, hfl]; rfl, flats_app hff (flats_cons hF.1 rfl), hG1.app hP.rev, by omega, rfl, rfl⟩
        rw [List.getElem?_append_right (by omega), Nat.add_sub_cancel_left]
        rfl
  · rintro _ _ ⟨c, k, M, ds, fs, v3, v4, hM, hk, hk1, hf, hfl, hff, hG, hc, rfl, rfl⟩
    rw [rng_length] at hc
    exact absurd hc (by show ¬ c + 400 = m; omega)
theorem law_size_t (n : Nat) : ∀ (L : Nat) (k : KT) (S : Store), k.ok AtS → k.at_.length ≤ L → SOK S → Dl.Sp (tab (n + L) ._law_size [k.d] S) fun o => o = .ok (.int k.at_.length) S
  | 0, k, _, _, h, _ => by have := KT.pos k; omega
  | L + 1, k, S, hk, h, hS => by
    refine Dl.sp_plain (g := b__law_size (tab (n + L))) rfl fun Q hQ => ?_
    unfold b__law_size
    cases k with
    | leaf t =>
      simp_arith [KTd_leaf]
      exact Dl.Qx (hS.wf rfl) rfl (hQ _ rfl)
    | node s a b =>
      have pa := KT.pos a
      have pb := KT.pos b
      rw [KT.len_node] at h
      have ea := law_size_t n L a (Dl.sx S []) hk.2.1 (by omega) (SOK.sx hS .nil)
      have eb := law_size_t n L b (Dl.sx S []) hk.2.2 (by omega) (SOK.sx hS .nil)
      simp_arith [KTd_node, ea, eb]
      refine Dl.Qx (hS.wf rfl) rfl (hQ _ ?_)
      rw [KT.len_node]
      rfl
/-! ## the identity's steps -/
theorem fit_node {s : Str} {a b : KT} (h : Fit (.node s a b)) : Fit a ∧ Fit b := by
  have h2 := h.2
  rw [KT.len_node] at h2
  exact ⟨⟨h.1.2.1, by omega⟩, ⟨h.1.2.2, by omega⟩⟩
theorem shp_of {rule : Str} {js : List KT} {g : KT} {a w : Int} {ps : List D} (h0 : js ≠ []) (h1 : js.length ≤ 100) (h2 : ∀ k ∈ js, Fit k) (h3 : Fit g) : Shp (stD rule (kds js) g.d a w ps) := ⟨rule, js, g, a, w, ps, rfl, h0, h1, h2, h3⟩
theorem one_fit {k : KT} (h : Fit k) : ∀ x ∈ [k], Fit x := fun x hx => by rw [List.mem_singleton.mp hx]; exact h
theorem two_fit {k l : KT} (h : Fit k) (h2 : Fit l) : ∀ x ∈ [k, l], Fit x := fun x hx => by
  simp only [List.mem_cons, List.not_mem_nil, or_false] at hx
  rcases hx with rfl | rfl
  · exact h
  · exact h2
theorem idD_shp : ∀ k : KT, Fit k → Shp (idD k)
  | .leaf t, h => shp_of (js := [.leaf t]) (g := .leaf t) (by simp) (by show 1 ≤ 100; decide) (one_fit h) h
  | .node s a b, h => by
    rcases h.1.1 with rfl | rfl | rfl
    · rw [idD_o]; exact shp_of (js := [.node "/" a b]) (by simp) (by show 1 ≤ 100; decide) (one_fit h) h
    · rw [idD_u]; exact shp_of (js := [.node ">" a b]) (by simp) (by show 1 ≤ 100; decide) (one_fit h) h
    · rw [idD_p]; exact shp_of (js := [.node "*" a b]) (by simp) (by show 1 ≤ 100; decide) (one_fit h) h
theorem dep_line {row : List D} {g : D} {w : Int} (h1 : deps row ≤ 40) (h2 : g.dep ≤ 40) : (D.tup [.tup row, g, .int w]).dep ≤ 64 := by
  show max (deps row + 1) (max g.dep (max 0 0)) + 1 ≤ 64
  omega
theorem fit_dep {k : KT} (h : Fit k) : k.d.dep ≤ 40 := by
  have := KT.dep k
  have := h.2
  omega
theorem deps2 {a b : D} (h1 : a.dep ≤ 40) (h2 : b.dep ≤ 40) : deps [a, b] ≤ 40 := by
  show max a.dep (max b.dep 0) ≤ 40
  omega
theorem deps1 {a : D} (h1 : a.dep ≤ 40) : deps [a] ≤ 40 := by
  show max a.dep 0 ≤ 40
  omega
theorem idD_gd : ∀ k : KT, Fit k → ∃ m, Gd m (idD k) ∧ m + 2 = 3 * k.at_.length
  | .leaf t, _ => ⟨1, .mk (fol_axiom t) .nil, rfl⟩
  | .node s a b, h => by
    obtain ⟨ha, hb⟩ := fit_node h
    obtain ⟨m1, g1, e1⟩ := idD_gd a ha
    obtain ⟨m2, g2, e2⟩ := idD_gd b hb
    have sa := idD_shp a ha
    have sb := idD_shp b hb
    have fa := g1.fol.1
    have fb := g2.fol.1
    have ka := KT.flat a
    have kb := KT.flat b
    have kk := KT.flat (.node s a b)
    have da := fit_dep ha
    have db := fit_dep hb
    have dk := fit_dep h
    obtain ⟨ra, xa, ya, za, pa'⟩ := idD_pt a ha.1
    obtain ⟨rb, xb, yb, zb, pb'⟩ := idD_pt b hb.1
    have two : ∀ {x y : D}, Shp x → Shp y → ∀ p ∈ [x, y], Shp p := fun h1 h2 p hp => by
      simp only [List.mem_cons, List.not_mem_nil, or_false] at hp
      rcases hp with rfl | rfl
      · exact h1
      · exact h2
    have one : ∀ {x : D}, Shp x → ∀ p ∈ [x], Shp p := fun h1 p hp => by rw [List.mem_singleton.mp hp]; exact h1
    refine ⟨m1 + m2 + 2, ?_, by rw [KT.len_node]; omega⟩
    rcases h.1.1 with rfl | rfl | rfl
    · have sc : Shp (stD "over left" [(KT.node "/" a b).d, b.d] a.d 0 1 [idD b, idD a]) := shp_of (js := [.node "/" a b, b]) (by simp) (by show 2 ≤ 100; decide) (two_fit h hb) ha
      have f1 := fol_step (rule := "over left") (row := [(KT.node "/" a b).d, b.d]) (g := a.d) (a := 0) (w := 1) (ps := [idD b, idD a]) (lns := [lnD [b.d] b.d, lnD [a.d] a.d]) (eq_false (by decide)) (eq_false (by decide)) (flats_cons kk (flats_cons kb rfl)) ka (flats_cons fb (flats_cons fa rfl)) (dep_line (deps2 dk db) da) (two sb sa) (by show 2 ≤ 100; decide) (by rw [pa', pb']; rfl)
        (fun n T hT k hk => line_ol (n + 49) T hT k [] [] [b.d] a.d b.d a.d 0 rfl (by decide) (by decide) (by show 1 ≤ 1000; decide) rfl rfl (flats_cons kb rfl) ka kb ka hk)
      have f2 := fol_step (rule := "over right") (row := [(KT.node "/" a b).d]) (g := (KT.node "/" a b).d) (a := 0) (w := 0) (ps := [stD "over left" [(KT.node "/" a b).d, b.d] a.d 0 1 [idD b, idD a]]) (lns := [lnD ([(KT.node "/" a b).d] ++ [b.d]) a.d]) (eq_false (by decide)) (eq_false (by decide)) (flats_cons kk rfl) kk (flats_cons f1.1 rfl) (dep_line (deps1 dk) dk) (one sc) (by show 1 ≤ 100; decide) rfl
        (fun n T hT k hk => line_or (n + 49) T hT k [(KT.node "/" a b).d] b.d a.d (by show 1 ≤ 1000; decide) (flats_cons kk rfl) kb ka hk (Nat.le_refl _))
      rw [idD_o]
      have q := Gd.mk f2 (.cons (.mk f1 (.cons g2 (.cons g1 .nil))) .nil)
      rwa [show m2 + (m1 + 0) + 1 + 0 + 1 = m1 + m2 + 2 by omega] at q
    · have sc : Shp (stD "under left" [a.d, (KT.node ">" a b).d] b.d 1 1 [idD a, idD b]) := shp_of (js := [a, .node ">" a b]) (by simp) (by show 2 ≤ 100; decide) (two_fit ha h) hb
      have f1 := fol_step (rule := "under left") (row := [a.d, (KT.node ">" a b).d]) (g := b.d) (a := 1) (w := 1) (ps := [idD a, idD b]) (lns := [lnD [a.d] a.d, lnD [b.d] b.d]) (eq_false (by decide)) (eq_false (by decide)) (flats_cons ka (flats_cons kk rfl)) kb (flats_cons fa (flats_cons fb rfl)) (dep_line (deps2 da dk) db) (two sa sb) (by show 2 ≤ 100; decide) (by rw [pa', pb']; rfl)
        (fun n T hT k hk => line_ul (n + 49) T hT k [] [] [a.d] b.d a.d b.d 0 rfl (by decide) (by decide) (by show 1 ≤ 1000; decide) rfl rfl (flats_cons ka rfl) kb ka kb hk 1 rfl)
      have f2 := fol_step (rule := "under right") (row := [(KT.node ">" a b).d]) (g := (KT.node ">" a b).d) (a := 0) (w := 0) (ps := [stD "under left" [a.d, (KT.node ">" a b).d] b.d 1 1 [idD a, idD b]]) (lns := [lnD (a.d :: [(KT.node ">" a b).d]) b.d]) (eq_false (by decide)) (eq_false (by decide)) (flats_cons kk rfl) kk (flats_cons f1.1 rfl) (dep_line (deps1 dk) dk) (one sc) (by show 1 ≤ 100; decide) rfl
        (fun n T hT k hk => line_ur (n + 49) T hT k [(KT.node ">" a b).d] a.d b.d (by show 1 ≤ 1000; decide) (flats_cons kk rfl) ka kb hk (Nat.le_refl _))
      rw [idD_u]
      have q := Gd.mk f2 (.cons (.mk f1 (.cons g1 (.cons g2 .nil))) .nil)
      rwa [show m1 + (m2 + 0) + 1 + 0 + 1 = m1 + m2 + 2 by omega] at q
    · have sc : Shp (stD "pair right" [a.d, b.d] (KT.node "*" a b).d 1 0 [idD a, idD b]) := shp_of (js := [a, b]) (by simp) (by show 2 ≤ 100; decide) (two_fit ha hb) h
      have f1 := fol_step (rule := "pair right") (row := [a.d, b.d]) (g := (KT.node "*" a b).d) (a := 1) (w := 0) (ps := [idD a, idD b]) (lns := [lnD [a.d] a.d, lnD [b.d] b.d]) (eq_false (by decide)) (eq_false (by decide)) (flats_cons ka (flats_cons kb rfl)) kk (flats_cons fa (flats_cons fb rfl)) (dep_line (deps2 da db) dk) (two sa sb) (by show 2 ≤ 100; decide) (by rw [pa', pb']; rfl)
        (fun n T hT k hk => line_pr (n + 49) T hT k [a.d] [b.d] b.d a.d (by show 1 ≤ 1000; decide) (by show 1 ≤ 1000; decide) (flats_cons ka rfl) (flats_cons kb rfl) kb ka hk)
      have f2 := fol_step (rule := "pair left") (row := [(KT.node "*" a b).d]) (g := (KT.node "*" a b).d) (a := 0) (w := 0) (ps := [stD "pair right" [a.d, b.d] (KT.node "*" a b).d 1 0 [idD a, idD b]]) (lns := [lnD [a.d, b.d] (KT.node "*" a b).d]) (eq_false (by decide)) (eq_false (by decide)) (flats_cons kk rfl) kk (flats_cons f1.1 rfl) (dep_line (deps1 dk) dk) (one sc) (by show 1 ≤ 100; decide) rfl
        (fun n T hT k hk => line_pl (n + 49) T hT k [] [] a.d b.d (KT.node "*" a b).d 0 rfl (by decide) (by decide) rfl rfl ka kb kk hk)
      rw [idD_p]
      have q := Gd.mk f2 (.cons (.mk f1 (.cons g1 (.cons g2 .nil))) .nil)
      rwa [show m1 + (m2 + 0) + 1 + 0 + 1 = m1 + m2 + 2 by omega] at q
theorem law_derives_t (n : Nat) (k : KT) (h : Fit k) (S : Store) (hS : SOK S) : Dl.Sp (tab (n + 53) ._law_derives [idD k, .tup [k.d], k.d] S) fun o => o = .ok (.bl true) S := by
  obtain ⟨m, hg, hm⟩ := idD_gd k h
  have hk := h.2
  have e := law_right_t n m hg (idD_shp k h) (by omega) _ (SOK.sx hS .nil)
  obtain ⟨r, x, y, z, ep⟩ := idD_pt k h.1
  have d1 := fit_dep h
  have g1 := gEq_refl (S := Dl.sx S []) (KT.flat k) (by omega)
  have g2 := gEq_refl (S := Dl.sx S []) (d := .tup [k.d]) (show (k.d.flat && true) = true by rw [KT.flat]; rfl) (by show max k.d.dep 0 + 1 ≤ 64; omega)
  refine Dl.sp_plain (g := b__law_derives (tab (n + 52))) rfl fun Q hQ => ?_
  unfold b__law_derives
  rw [ep] at e ⊢
  unfold ptD at e ⊢
  simp_arith [e, g1, g2]
  exact Dl.Qx (hS.wf rfl) rfl (hQ _ rfl)

end Lw

set_option Elab.async false
set_option linter.all false
set_option maxRecDepth 100000
namespace Lw
open PySem L2 Dl
variable [Fa]
local macro_rules | `(tactic| simp_arith [$ls,*]) => `(tactic| simp (disch := first | omega | assumption | (simp only [List.length_cons, List.length_nil, List.length_append, List.length_take, List.length_drop]; omega) | (simp only [List.length_cons, List.length_nil])) only [sQ_, sP_, sE_, sR_, sIf_, sN_, sA_, tgO_nx, nm_, tgIx_, eC_, eV0, eV1, e1_, e2_, eB_, eF_, aN_, aC_, eMt_, eSl_, oN_, oI_, tV_, tE_, tA_, tO_, tN_, eIf_, eAnd_, eOr_, eNot_, eCh_, seq_nx, seq_rt, seq_bk, seq_ct, seq_ex, toR_some, toR_none, toT_some, truD_bl, truD_int, truD_tup, truD_non, truD_str, truD_ref, truC_lst, tyD_str, tyD_tup, tyD_int, tyD_bl, tyD_non, tyD_ref, tyC_lst, tyC_rol, tyC_dic, kE_, kR_, kIf_t, kIf_f, kN_, kA_, kIx1_, kIx2_, kIx3_, kE1_, kE21_, kE2_, kB_, kF_, kC1_, kC_, kM1_, kM2_, kM_, kS1_, kS2_, kS3_, kO_, kV_, kT_, kAn_t, kAn_f, kOr_t, kOr_f, kNo_, kIfE_t, kIfE_f, kVa_, kVa2_t, kVa2_f, kVo_, kVo2_t, kVo2_f, kVn_, kVn2_, kH_, kH1_, kH2_t, kH2_f, kH3_, List.getElem?_cons_zero, List.getElem?_cons_succ, List.set_cons_zero, List.set_cons_succ, gAdd_int, gAdd_str, gAdd_t, gAdd_r, catC_s, gSub_int, gMul_l, gMul_r, gFdiv_int, gMod_int, gLt_int, gLe_int, gGt_int, gGe_int, gInt_int, gAbs_int, gLen_tup, gLen_str, gLen_r, lenC_s, gTpl_, gLsd_, gIx_r, ixC_s, ixO_s, gIx_t, gIx_s, ixS_s, atI_0, atI_1, atI_2, atI_3, atI_4, atI_5, gAppend_r, appC_s, gExtend_r, extC_s, gPop_r, popC_s, gSet_r, setC_0, setC_2, gTuple_r, tupC_s, gTuple_t, gList_r, gList_t, newC_s, gSl_r, slC_s, gSl_t, gSl_s, cut_take, cut_drop, cut_init, cut_mid, Int.toNat_natCast, lstC_lst, lstC_rol, lstAt_C, isi_str, isi_int, isi_bool, isi_tup, isi_lst, isO_s, isB_1, isB_2, isB_3, isB_4, isB_5, isB_6, isB_7, isB_8, isB_9, isB_10, isB_11, isB_12, isB_13, isB_14, isB_15, isB_16, isB_17, isB_18, isB_19, isB_20, isB_21, isB_22, isB_23, isB_24, isB_25, isB_26, gSum_r, sumC_s, sumO_s, gMin_, gMax_, qEq_int, qNe_int, qEq_str, qNe_str, gNeg_z, tgT_, tgU_, tgL0, tgL1, eTab_, kTab_, sX_, tgIxX_, kX1_, kX2_, kX3_, gSetX_r, setX_0, setX_2, setX_s, sPar_, kPar_, eFv_, eGetD_, kG1_, isDic_r, isDC_d, kG1b_, kG2_, kG3_, gGetD_r, getC_s, gMaxL_r, maxC_, gRep_r, repC_, eD0_, gDget_r, dgC_s, List.getElem?_concat_length, set_end, sF_, kFor_, iR1_, kR1_, iR2_, kR2_, kR3_, iA_, kAny_r, kAny_t, kAny_s, iaC_s, eLc_, kLc_, wipeD_c, wipeD_n, tYes_, put_one, sAug_, gAug_i, sBk_, sCt_, sW_, st_len, st_p, st_k, st_0, st_q, st_set_p, st_set_k, st_set_0, st_push, sx_len, sx_k, sx_0, sx_q, sx_set_k, sx_set_0, sx_push, So_rt, So_nx, So_ex, Tn_nx, Tn_ct, Tn_bk, Tn_rt, Tn_ex, Bool.false_eq_true, if_true, if_false, reduceIte, Option.map_some, Option.bind_some, Bool.not_true, Bool.not_false, decide_true, decide_false, eq_self, List.length_append, List.length_singleton, List.length_cons, List.length_nil, List.map_cons, List.map_nil, Nat.sub_self, List.replicate_zero, List.append_nil, List.cons_append, List.nil_append, List.append_assoc, List.replicate_succ, Nat.reduceSub, Nat.reduceAdd, Nat.add_zero, Nat.zero_add, Nat.add_assoc, Nat.reduceLeDiff, Int.natCast_add, Int.cast_ofNat_Int, Int.reduceEq, Int.reduceLT, Int.reduceLE, Int.reduceAdd, Int.reduceSub, Int.reduceNeg, Int.reduceToNat, List.take_succ_cons, List.take_zero, List.drop_succ_cons, List.drop_zero, List.dropLast_concat, Dl.atI_last, r_ax_or, r_ax_ur, r_ax_pr, r_ax_ol, r_ax_ul, r_ax_pl, r_ax_ct, r_or_ax, r_or_ur, r_or_pr, r_or_ol, r_or_ul, r_or_pl, r_or_ct, r_ur_ax, r_ur_or, r_ur_pr, r_ur_ol, r_ur_ul, r_ur_pl, r_ur_ct, r_pr_ax, r_pr_or, r_pr_ur, r_pr_ol, r_pr_ul, r_pr_pl, r_pr_ct, r_ol_ax, r_ol_or, r_ol_ur, r_ol_pr, r_ol_ul, r_ol_pl, r_ol_ct, r_ul_ax, r_ul_or, r_ul_ur, r_ul_pr, r_ul_ol, r_ul_pl, r_ul_ct, r_pl_ax, r_pl_or, r_pl_ur, r_pl_pr, r_pl_ol, r_pl_ul, r_pl_ct, r_ct_ax, r_ct_or, r_ct_ur, r_ct_pr, r_ct_ol, r_ct_ul, r_ct_pl, q1, q2, q3, q4, q5, q6, e1, e2, e3, gInt_bl, gIs_tn, gIs_nn, gIsN_tn, gIsN_nn, $ls,*])
local macro_rules | `(tactic| walk_at "ev") => `(tactic| simp (disch := first | omega | assumption | (simp only [List.length_cons, List.length_nil, List.length_append, List.length_take, List.length_drop]; omega) | (simp only [List.length_cons, List.length_nil])) only [sQ_, sP_, sE_, sR_, sIf_, sN_, sA_, tgO_nx, nm_, tgIx_, eC_, eV0, eV1, e1_, e2_, eB_, eF_, aN_, aC_, eMt_, eSl_, oN_, oI_, tV_, tE_, tA_, tO_, tN_, eIf_, eAnd_, eOr_, eNot_, eCh_, seq_nx, seq_rt, seq_bk, seq_ct, seq_ex, toR_some, toR_none, toT_some, truD_bl, truD_int, truD_tup, truD_non, truD_str, truD_ref, truC_lst, tyD_str, tyD_tup, tyD_int, tyD_bl, tyD_non, tyD_ref, tyC_lst, tyC_rol, tyC_dic, kE_, kR_, kIf_t, kIf_f, kN_, kA_, kIx1_, kIx2_, kIx3_, kE1_, kE21_, kE2_, kB_, kF_, kC1_, kC_, kM1_, kM2_, kM_, kS1_, kS2_, kS3_, kO_, kV_, kT_, kAn_t, kAn_f, kOr_t, kOr_f, kNo_, kIfE_t, kIfE_f, kVa_, kVa2_t, kVa2_f, kVo_, kVo2_t, kVo2_f, kVn_, kVn2_, kH_, kH1_, kH2_t, kH2_f, kH3_, List.getElem?_cons_zero, List.getElem?_cons_succ, List.set_cons_zero, List.set_cons_succ, gAdd_int, gAdd_str, gAdd_t, gAdd_r, catC_s, gSub_int, gMul_l, gMul_r, gFdiv_int, gMod_int, gLt_int, gLe_int, gGt_int, gGe_int, gInt_int, gAbs_int, gLen_tup, gLen_str, gLen_r, lenC_s, gTpl_, gLsd_, gIx_r, ixC_s, ixO_s, gIx_t, gIx_s, ixS_s, atI_0, atI_1, atI_2, atI_3, atI_4, atI_5, gAppend_r, appC_s, gExtend_r, extC_s, gPop_r, popC_s, gSet_r, setC_0, setC_2, gTuple_r, tupC_s, gTuple_t, gList_r, gList_t, newC_s, gSl_r, slC_s, gSl_t, gSl_s, cut_take, cut_drop, cut_init, cut_mid, Int.toNat_natCast, lstC_lst, lstC_rol, lstAt_C, isi_str, isi_int, isi_bool, isi_tup, isi_lst, isO_s, isB_1, isB_2, isB_3, isB_4, isB_5, isB_6, isB_7, isB_8, isB_9, isB_10, isB_11, isB_12, isB_13, isB_14, isB_15, isB_16, isB_17, isB_18, isB_19, isB_20, isB_21, isB_22, isB_23, isB_24, isB_25, isB_26, gSum_r, sumC_s, sumO_s, gMin_, gMax_, qEq_int, qNe_int, qEq_str, qNe_str, gNeg_z, tgT_, tgU_, tgL0, tgL1, eTab_, kTab_, sX_, tgIxX_, kX1_, kX2_, kX3_, gSetX_r, setX_0, setX_2, setX_s, sPar_, kPar_, eFv_, eGetD_, kG1_, isDic_r, isDC_d, kG1b_, kG2_, kG3_, gGetD_r, getC_s, gMaxL_r, maxC_, gRep_r, repC_, eD0_, gDget_r, dgC_s, List.getElem?_concat_length, set_end, sF_, kFor_, iR1_, kR1_, iR2_, kR2_, kR3_, iA_, kAny_r, kAny_t, kAny_s, iaC_s, eLc_, kLc_, wipeD_c, wipeD_n, tYes_, put_one, sAug_, gAug_i, sBk_, sCt_, sW_, st_len, st_p, st_k, st_0, st_q, st_set_p, st_set_k, st_set_0, st_push, sx_len, sx_k, sx_0, sx_q, sx_set_k, sx_set_0, sx_push, So_rt, So_nx, So_ex, Tn_nx, Tn_ct, Tn_bk, Tn_rt, Tn_ex, Bool.false_eq_true, if_true, if_false, reduceIte, Option.map_some, Option.bind_some, Bool.not_true, Bool.not_false, decide_true, decide_false, eq_self, List.length_append, List.length_singleton, List.length_cons, List.length_nil, List.map_cons, List.map_nil, Nat.sub_self, List.replicate_zero, List.append_nil, List.cons_append, List.nil_append, List.append_assoc, List.replicate_succ, Nat.reduceSub, Nat.reduceAdd, Nat.add_zero, Nat.zero_add, Nat.add_assoc, Nat.reduceLeDiff, Int.natCast_add, Int.cast_ofNat_Int, Int.reduceEq, Int.reduceLT, Int.reduceLE, Int.reduceAdd, Int.reduceSub, Int.reduceNeg, Int.reduceToNat, List.take_succ_cons, List.take_zero, List.drop_succ_cons, List.drop_zero, List.dropLast_concat, Dl.atI_last, r_ax_or, r_ax_ur, r_ax_pr, r_ax_ol, r_ax_ul, r_ax_pl, r_ax_ct, r_or_ax, r_or_ur, r_or_pr, r_or_ol, r_or_ul, r_or_pl, r_or_ct, r_ur_ax, r_ur_or, r_ur_pr, r_ur_ol, r_ur_ul, r_ur_pl, r_ur_ct, r_pr_ax, r_pr_or, r_pr_ur, r_pr_ol, r_pr_ul, r_pr_pl, r_pr_ct, r_ol_ax, r_ol_or, r_ol_ur, r_ol_pr, r_ol_ul, r_ol_pl, r_ol_ct, r_ul_ax, r_ul_or, r_ul_ur, r_ul_pr, r_ul_ol, r_ul_pl, r_ul_ct, r_pl_ax, r_pl_or, r_pl_ur, r_pl_pr, r_pl_ol, r_pl_ul, r_pl_ct, r_ct_ax, r_ct_or, r_ct_ur, r_ct_pr, r_ct_ol, r_ct_ul, r_ct_pl, q1, q2, q3, q4, q5, q6, e1, e2, e3, gInt_bl, gIs_tn, gIs_nn, gIsN_tn, gIsN_nn])
-- fa
/-! ## worlds and counts -/
theorem pow6 {S : Store} : gPow (.int 10) (.int 6) S = some (.int 1000000, S) := by
  show (if (0 : Int) ≤ 6 ∧ (6 : Int) ≤ 1000000 ∧ (10 : Int).natAbs < 2 ^ 64 then _ else none) = _
  rw [if_pos (by decide)]
  rfl
def cap (x : Int) : Int := if 1000000 < x then 1000000 else x
def cpw (b : Int) : Nat → Int
  | 0 => 1
  | n + 1 => cap (cpw b n * b)
def t20 (x : Int) : Int := if 20 < x then 20 else x
theorem cap_fold (x : Int) : (if 1000000 < x then 1000000 else x) = cap x := rfl
theorem t20_fold (x : Int) : (if 20 < x then 20 else x) = t20 x := rfl
theorem cpw_step {b : Int} {n : Nat} : cap (cpw b n * b) = cpw b (n + 1) := rfl
def bs (t : Str) : Str := (Txt.split t ".").headD t
def ct (w : Str → Int) : KT → Int
  | .leaf t => w (bs t)
  | .node s a b => if s = "*" then cap (ct w a * ct w b) else if s = ">" then cpw (ct w b) (t20 (ct w a)).toNat else cpw (ct w a) (t20 (ct w b)).toNat
/-- what a world's cell says -/
structure WD (kvs : List (Key × D)) (w : Str → Int) : Prop where
  get : ∀ b, (findK kvs (.inr b)).getD (.int 1) = .int (w b)
  lo : ∀ b, 1 ≤ w b
  hi : ∀ b, w b ≤ 1000000
theorem t20_lo {x : Int} (h : 1 ≤ x) : 1 ≤ t20 x := by unfold t20; split <;> omega
theorem t20_hi (x : Int) : t20 x ≤ 20 := by unfold t20; split <;> omega
theorem cap_lo {x : Int} (h : 1 ≤ x) : 1 ≤ cap x := by unfold cap; split <;> omega
theorem cap_hi (x : Int) : cap x ≤ 1000000 := by unfold cap; split <;> omega
theorem mul_lo {a b : Int} (h : 1 ≤ a) (h2 : 1 ≤ b) : 1 ≤ a * b := by
  have := Int.mul_le_mul h h2 (by decide) (by omega)
  simpa using this
theorem cpw_lo {b : Int} (h : 1 ≤ b) : ∀ n, 1 ≤ cpw b n
  | 0 => Int.le_refl 1
  | n + 1 => cap_lo (mul_lo (cpw_lo h n) h)
theorem cpw_hi {b : Int} : ∀ n, cpw b n ≤ 1000000
  | 0 => by show (1 : Int) ≤ 1000000; decide
  | n + 1 => cap_hi _
theorem ct_lo {kvs : List (Key × D)} {w : Str → Int} (hw : WD kvs w) : ∀ k : KT, 1 ≤ ct w k
  | .leaf t => hw.lo _
  | .node s a b => by
    unfold ct
    have ha := ct_lo hw a
    have hb := ct_lo hw b
    split
    · exact cap_lo (mul_lo ha hb)
    · split
      · exact cpw_lo hb _
      · exact cpw_lo ha _
theorem ct_hi {kvs : List (Key × D)} {w : Str → Int} (hw : WD kvs w) : ∀ k : KT, ct w k ≤ 1000000
  | .leaf t => hw.hi _
  | .node s a b => by
    unfold ct
    split
    · exact cap_hi _
    · split
      · exact cpw_hi _
      · exact cpw_hi _
theorem ct_o {w : Str → Int} {a b : KT} : ct w (.node "/" a b) = cpw (ct w a) (t20 (ct w b)).toNat := by
  show (if ("/" : Str) = "*" then _ else if ("/" : Str) = ">" then _ else _) = _
  rw [if_neg (by decide), if_neg (by decide)]
theorem ct_u {w : Str → Int} {a b : KT} : ct w (.node ">" a b) = cpw (ct w b) (t20 (ct w a)).toNat := by
  show (if (">" : Str) = "*" then _ else if (">" : Str) = ">" then _ else _) = _
  rw [if_neg (by decide), if_pos rfl]
theorem ct_p {w : Str → Int} {a b : KT} : ct w (.node "*" a b) = cap (ct w a * ct w b) := by
  show (if ("*" : Str) = "*" then _ else if ("*" : Str) = ">" then _ else _) = _
  rw [if_pos rfl]
theorem count_t {kvs : List (Key × D)} {w : Str → Int} (hw : WD kvs w) (q : Nat) (n : Nat) : ∀ (L : Nat) (k : KT) (S : Store), k.ok AtS → k.at_.length ≤ L → S[q]? = some (.dic kvs) → SOK S → Dl.Sp (tab (n + L) ._law_count [k.d, .ref q] S) fun o => o = .ok (.int (ct w k)) S
  | 0, k, _, _, h, _, _ => by have := KT.pos k; omega
  | L + 1, k, S, hk, h, hq, hS => by
    have hq' := get_lt hq
    have q0 : ∀ M, (Dl.sx S M)[q]? = some (.dic kvs) := fun M => by unfold Dl.sx; exact get_app hq
    refine Dl.sp_plain (g := b__law_count (tab (n + L))) rfl fun Q hQ => ?_
    unfold b__law_count
    cases k with
    | leaf t =>
      obtain ⟨b, ps, hb, hs, es⟩ := split0 hk
      have e : bs t = b := by unfold bs; rw [hs]; rfl
      have ew := hw.get b
      simp only [sts_cons] at es
      simp_arith [KTd_leaf, es, q0, ew]
      exact Dl.Qx (hS.wf rfl) rfl (hQ _ (by rw [← e]; rfl))
    | node s a b =>
      have pa := KT.pos a
      have pb := KT.pos b
      rw [KT.len_node] at h
      have ea := count_t hw q n L a (Dl.sx S []) hk.2.1 (by omega) (q0 _) (SOK.sx hS .nil)
      have eb := count_t hw q n L b (Dl.sx S []) hk.2.2 (by omega) (q0 _) (SOK.sx hS .nil)
      have la := ct_lo hw a
      have lb := ct_lo hw b
      have ha := ct_hi hw a
      have hb := ct_hi hw b
      have ta := t20_lo la
      have tb := t20_lo lb
      have sa := t20_hi (ct w a)
      have sb := t20_hi (ct w b)
      rcases hk.1 with rfl | rfl | rfl
      · simp_arith [KTd_node, ea, eb, pow6, t20_fold]
        refine Dl.forQ (fun j ρ T => ∃ v5, ρ = [some (.tup [.str "/", a.d, b.d]), some (.ref q), some (.int (ct w a)), some (.int (ct w b)), some (.int (cpw (ct w a) j)), v5] ∧ T = Dl.sx S []) ⟨_, rfl, rfl⟩ ?_ ?_
        · rintro j x _ _ hj ⟨v5, rfl, rfl⟩
          refine ⟨chk_nil, _, _, rfl, ?_⟩
          have := cpw_lo la j
          have := cpw_hi (b := ct w a) j
          simp_arith [pow6, cap_fold, cpw_step]
          exact ⟨_, rfl, trivial⟩
        · rintro _ _ ⟨v5, rfl, rfl⟩
          refine ⟨chk_nil, ?_⟩
          rw [rng_length]
          simp_arith []
          exact Dl.Qx (hS.wf rfl) rfl (hQ _ (by rw [ct_o]))
      · simp_arith [KTd_node, ea, eb, pow6, t20_fold]
        refine Dl.forQ (fun j ρ T => ∃ v5, ρ = [some (.tup [.str ">", a.d, b.d]), some (.ref q), some (.int (ct w b)), some (.int (ct w a)), some (.int (cpw (ct w b) j)), v5] ∧ T = Dl.sx S []) ⟨_, rfl, rfl⟩ ?_ ?_
        · rintro j x _ _ hj ⟨v5, rfl, rfl⟩
          refine ⟨chk_nil, _, _, rfl, ?_⟩
          have := cpw_lo lb j
          have := cpw_hi (b := ct w b) j
          simp_arith [pow6, cap_fold, cpw_step]
          exact ⟨_, rfl, trivial⟩
        · rintro _ _ ⟨v5, rfl, rfl⟩
          refine ⟨chk_nil, ?_⟩
          rw [rng_length]
          simp_arith []
          exact Dl.Qx (hS.wf rfl) rfl (hQ _ (by rw [ct_u]))
      · simp_arith [KTd_node, ea, eb, pow6, cap_fold]
        exact Dl.Qx (hS.wf rfl) rfl (hQ _ (by rw [ct_p]))

end Lw

set_option Elab.async false
set_option linter.all false
set_option maxRecDepth 100000
namespace Lw
open PySem L2 Dl
variable [Fa]
local macro_rules | `(tactic| simp_arith [$ls,*]) => `(tactic| simp (disch := first | omega | assumption | (simp only [List.length_cons, List.length_nil, List.length_append, List.length_take, List.length_drop]; omega) | (simp only [List.length_cons, List.length_nil])) only [sQ_, sP_, sE_, sR_, sIf_, sN_, sA_, tgO_nx, nm_, tgIx_, eC_, eV0, eV1, e1_, e2_, eB_, eF_, aN_, aC_, eMt_, eSl_, oN_, oI_, tV_, tE_, tA_, tO_, tN_, eIf_, eAnd_, eOr_, eNot_, eCh_, seq_nx, seq_rt, seq_bk, seq_ct, seq_ex, toR_some, toR_none, toT_some, truD_bl, truD_int, truD_tup, truD_non, truD_str, truD_ref, truC_lst, tyD_str, tyD_tup, tyD_int, tyD_bl, tyD_non, tyD_ref, tyC_lst, tyC_rol, tyC_dic, kE_, kR_, kIf_t, kIf_f, kN_, kA_, kIx1_, kIx2_, kIx3_, kE1_, kE21_, kE2_, kB_, kF_, kC1_, kC_, kM1_, kM2_, kM_, kS1_, kS2_, kS3_, kO_, kV_, kT_, kAn_t, kAn_f, kOr_t, kOr_f, kNo_, kIfE_t, kIfE_f, kVa_, kVa2_t, kVa2_f, kVo_, kVo2_t, kVo2_f, kVn_, kVn2_, kH_, kH1_, kH2_t, kH2_f, kH3_, List.getElem?_cons_zero, List.getElem?_cons_succ, List.set_cons_zero, List.set_cons_succ, gAdd_int, gAdd_str, gAdd_t, gAdd_r, catC_s, gSub_int, gMul_l, gMul_r, gFdiv_int, gMod_int, gLt_int, gLe_int, gGt_int, gGe_int, gInt_int, gAbs_int, gLen_tup, gLen_str, gLen_r, lenC_s, gTpl_, gLsd_, gIx_r, ixC_s, ixO_s, gIx_t, gIx_s, ixS_s, atI_0, atI_1, atI_2, atI_3, atI_4, atI_5, gAppend_r, appC_s, gExtend_r, extC_s, gPop_r, popC_s, gSet_r, setC_0, setC_2, gTuple_r, tupC_s, gTuple_t, gList_r, gList_t, newC_s, gSl_r, slC_s, gSl_t, gSl_s, cut_take, cut_drop, cut_init, cut_mid, Int.toNat_natCast, lstC_lst, lstC_rol, lstAt_C, isi_str, isi_int, isi_bool, isi_tup, isi_lst, isO_s, isB_1, isB_2, isB_3, isB_4, isB_5, isB_6, isB_7, isB_8, isB_9, isB_10, isB_11, isB_12, isB_13, isB_14, isB_15, isB_16, isB_17, isB_18, isB_19, isB_20, isB_21, isB_22, isB_23, isB_24, isB_25, isB_26, gSum_r, sumC_s, sumO_s, gMin_, gMax_, qEq_int, qNe_int, qEq_str, qNe_str, gNeg_z, tgT_, tgU_, tgL0, tgL1, eTab_, kTab_, sX_, tgIxX_, kX1_, kX2_, kX3_, gSetX_r, setX_0, setX_2, setX_s, sPar_, kPar_, eFv_, eGetD_, kG1_, isDic_r, isDC_d, kG1b_, kG2_, kG3_, gGetD_r, getC_s, gMaxL_r, maxC_, gRep_r, repC_, eD0_, gDget_r, dgC_s, List.getElem?_concat_length, set_end, sF_, kFor_, iR1_, kR1_, iR2_, kR2_, kR3_, iA_, kAny_r, kAny_t, kAny_s, iaC_s, eLc_, kLc_, wipeD_c, wipeD_n, tYes_, put_one, sAug_, gAug_i, sBk_, sCt_, sW_, st_len, st_p, st_k, st_0, st_q, st_set_p, st_set_k, st_set_0, st_push, sx_len, sx_k, sx_0, sx_q, sx_set_k, sx_set_0, sx_push, So_rt, So_nx, So_ex, Tn_nx, Tn_ct, Tn_bk, Tn_rt, Tn_ex, Bool.false_eq_true, if_true, if_false, reduceIte, Option.map_some, Option.bind_some, Bool.not_true, Bool.not_false, decide_true, decide_false, eq_self, List.length_append, List.length_singleton, List.length_cons, List.length_nil, List.map_cons, List.map_nil, Nat.sub_self, List.replicate_zero, List.append_nil, List.cons_append, List.nil_append, List.append_assoc, List.replicate_succ, Nat.reduceSub, Nat.reduceAdd, Nat.add_zero, Nat.zero_add, Nat.add_assoc, Nat.reduceLeDiff, Int.natCast_add, Int.cast_ofNat_Int, Int.reduceEq, Int.reduceLT, Int.reduceLE, Int.reduceAdd, Int.reduceSub, Int.reduceNeg, Int.reduceToNat, List.take_succ_cons, List.take_zero, List.drop_succ_cons, List.drop_zero, List.dropLast_concat, Dl.atI_last, r_ax_or, r_ax_ur, r_ax_pr, r_ax_ol, r_ax_ul, r_ax_pl, r_ax_ct, r_or_ax, r_or_ur, r_or_pr, r_or_ol, r_or_ul, r_or_pl, r_or_ct, r_ur_ax, r_ur_or, r_ur_pr, r_ur_ol, r_ur_ul, r_ur_pl, r_ur_ct, r_pr_ax, r_pr_or, r_pr_ur, r_pr_ol, r_pr_ul, r_pr_pl, r_pr_ct, r_ol_ax, r_ol_or, r_ol_ur, r_ol_pr, r_ol_ul, r_ol_pl, r_ol_ct, r_ul_ax, r_ul_or, r_ul_ur, r_ul_pr, r_ul_ol, r_ul_pl, r_ul_ct, r_pl_ax, r_pl_or, r_pl_ur, r_pl_pr, r_pl_ol, r_pl_ul, r_pl_ct, r_ct_ax, r_ct_or, r_ct_ur, r_ct_pr, r_ct_ol, r_ct_ul, r_ct_pl, q1, q2, q3, q4, q5, q6, e1, e2, e3, gInt_bl, gIs_tn, gIs_nn, gIsN_tn, gIsN_nn, $ls,*])
local macro_rules | `(tactic| walk_at "ev") => `(tactic| simp (disch := first | omega | assumption | (simp only [List.length_cons, List.length_nil, List.length_append, List.length_take, List.length_drop]; omega) | (simp only [List.length_cons, List.length_nil])) only [sQ_, sP_, sE_, sR_, sIf_, sN_, sA_, tgO_nx, nm_, tgIx_, eC_, eV0, eV1, e1_, e2_, eB_, eF_, aN_, aC_, eMt_, eSl_, oN_, oI_, tV_, tE_, tA_, tO_, tN_, eIf_, eAnd_, eOr_, eNot_, eCh_, seq_nx, seq_rt, seq_bk, seq_ct, seq_ex, toR_some, toR_none, toT_some, truD_bl, truD_int, truD_tup, truD_non, truD_str, truD_ref, truC_lst, tyD_str, tyD_tup, tyD_int, tyD_bl, tyD_non, tyD_ref, tyC_lst, tyC_rol, tyC_dic, kE_, kR_, kIf_t, kIf_f, kN_, kA_, kIx1_, kIx2_, kIx3_, kE1_, kE21_, kE2_, kB_, kF_, kC1_, kC_, kM1_, kM2_, kM_, kS1_, kS2_, kS3_, kO_, kV_, kT_, kAn_t, kAn_f, kOr_t, kOr_f, kNo_, kIfE_t, kIfE_f, kVa_, kVa2_t, kVa2_f, kVo_, kVo2_t, kVo2_f, kVn_, kVn2_, kH_, kH1_, kH2_t, kH2_f, kH3_, List.getElem?_cons_zero, List.getElem?_cons_succ, List.set_cons_zero, List.set_cons_succ, gAdd_int, gAdd_str, gAdd_t, gAdd_r, catC_s, gSub_int, gMul_l, gMul_r, gFdiv_int, gMod_int, gLt_int, gLe_int, gGt_int, gGe_int, gInt_int, gAbs_int, gLen_tup, gLen_str, gLen_r, lenC_s, gTpl_, gLsd_, gIx_r, ixC_s, ixO_s, gIx_t, gIx_s, ixS_s, atI_0, atI_1, atI_2, atI_3, atI_4, atI_5, gAppend_r, appC_s, gExtend_r, extC_s, gPop_r, popC_s, gSet_r, setC_0, setC_2, gTuple_r, tupC_s, gTuple_t, gList_r, gList_t, newC_s, gSl_r, slC_s, gSl_t, gSl_s, cut_take, cut_drop, cut_init, cut_mid, Int.toNat_natCast, lstC_lst, lstC_rol, lstAt_C, isi_str, isi_int, isi_bool, isi_tup, isi_lst, isO_s, isB_1, isB_2, isB_3, isB_4, isB_5, isB_6, isB_7, isB_8, isB_9, isB_10, isB_11, isB_12, isB_13, isB_14, isB_15, isB_16, isB_17, isB_18, isB_19, isB_20, isB_21, isB_22, isB_23, isB_24, isB_25, isB_26, gSum_r, sumC_s, sumO_s, gMin_, gMax_, qEq_int, qNe_int, qEq_str, qNe_str, gNeg_z, tgT_, tgU_, tgL0, tgL1, eTab_, kTab_, sX_, tgIxX_, kX1_, kX2_, kX3_, gSetX_r, setX_0, setX_2, setX_s, sPar_, kPar_, eFv_, eGetD_, kG1_, isDic_r, isDC_d, kG1b_, kG2_, kG3_, gGetD_r, getC_s, gMaxL_r, maxC_, gRep_r, repC_, eD0_, gDget_r, dgC_s, List.getElem?_concat_length, set_end, sF_, kFor_, iR1_, kR1_, iR2_, kR2_, kR3_, iA_, kAny_r, kAny_t, kAny_s, iaC_s, eLc_, kLc_, wipeD_c, wipeD_n, tYes_, put_one, sAug_, gAug_i, sBk_, sCt_, sW_, st_len, st_p, st_k, st_0, st_q, st_set_p, st_set_k, st_set_0, st_push, sx_len, sx_k, sx_0, sx_q, sx_set_k, sx_set_0, sx_push, So_rt, So_nx, So_ex, Tn_nx, Tn_ct, Tn_bk, Tn_rt, Tn_ex, Bool.false_eq_true, if_true, if_false, reduceIte, Option.map_some, Option.bind_some, Bool.not_true, Bool.not_false, decide_true, decide_false, eq_self, List.length_append, List.length_singleton, List.length_cons, List.length_nil, List.map_cons, List.map_nil, Nat.sub_self, List.replicate_zero, List.append_nil, List.cons_append, List.nil_append, List.append_assoc, List.replicate_succ, Nat.reduceSub, Nat.reduceAdd, Nat.add_zero, Nat.zero_add, Nat.add_assoc, Nat.reduceLeDiff, Int.natCast_add, Int.cast_ofNat_Int, Int.reduceEq, Int.reduceLT, Int.reduceLE, Int.reduceAdd, Int.reduceSub, Int.reduceNeg, Int.reduceToNat, List.take_succ_cons, List.take_zero, List.drop_succ_cons, List.drop_zero, List.dropLast_concat, Dl.atI_last, r_ax_or, r_ax_ur, r_ax_pr, r_ax_ol, r_ax_ul, r_ax_pl, r_ax_ct, r_or_ax, r_or_ur, r_or_pr, r_or_ol, r_or_ul, r_or_pl, r_or_ct, r_ur_ax, r_ur_or, r_ur_pr, r_ur_ol, r_ur_ul, r_ur_pl, r_ur_ct, r_pr_ax, r_pr_or, r_pr_ur, r_pr_ol, r_pr_ul, r_pr_pl, r_pr_ct, r_ol_ax, r_ol_or, r_ol_ur, r_ol_pr, r_ol_ul, r_ol_pl, r_ol_ct, r_ul_ax, r_ul_or, r_ul_ur, r_ul_pr, r_ul_ol, r_ul_pl, r_ul_ct, r_pl_ax, r_pl_or, r_pl_ur, r_pl_pr, r_pl_ol, r_pl_ul, r_pl_ct, r_ct_ax, r_ct_or, r_ct_ur, r_ct_pr, r_ct_ol, r_ct_ul, r_ct_pl, q1, q2, q3, q4, q5, q6, e1, e2, e3, gInt_bl, gIs_tn, gIs_nn, gIsN_tn, gIsN_nn])
-- fa
/-! ## values of the identity -/
def pw (A : Int) : Nat → Int
  | 0 => 1
  | n + 1 => pw A n * A
theorem pw_lo {A : Int} (h : 1 ≤ A) : ∀ n, 1 ≤ pw A n
  | 0 => Int.le_refl 1
  | n + 1 => mul_lo (pw_lo h n) h
theorem pw_le {A : Int} (h : 1 ≤ A) : ∀ {m n : Nat}, m ≤ n → pw A m ≤ pw A n := fun {m n} hmn => by
  induction n with
  | zero => rw [Nat.le_zero.mp hmn]; exact Int.le_refl _
  | succ n ih =>
    by_cases e : m = n + 1
    · rw [e]; exact Int.le_refl _
    · have h1 := ih (by omega)
      have h2 := pw_lo h n
      have h3 : pw A n * 1 ≤ pw A n * A := Int.mul_le_mul_of_nonneg_left h (by omega)
      show pw A m ≤ pw A n * A
      omega
theorem pw_one : ∀ n, pw 1 n = 1
  | 0 => rfl
  | n + 1 => by show pw 1 n * 1 = 1; rw [pw_one n]; rfl
theorem emod_mul {v a b : Int} (h0 : 0 ≤ v) (ha : 0 ≤ a) (hb : 0 ≤ b) : v % (a * b) = v % a + a * ((v / a) % b) := by
  obtain ⟨v', rfl⟩ := Int.eq_ofNat_of_zero_le h0
  obtain ⟨a', rfl⟩ := Int.eq_ofNat_of_zero_le ha
  obtain ⟨b', rfl⟩ := Int.eq_ofNat_of_zero_le hb
  exact_mod_cast Nat.mod_mul (a := a') (b := b') (x := v')
theorem pw_mod {v A : Int} (h0 : 0 ≤ v) (h : 1 ≤ A) (j : Nat) : v % pw A j + pw A j * ((v / pw A j) % A) = v % pw A (j + 1) := (emod_mul h0 (by have := pw_lo h j; omega) (by omega)).symm
theorem pw_div {v A : Int} (h : 1 ≤ A) (j : Nat) : v / pw A j / A = v / pw A (j + 1) := Int.ediv_ediv_of_nonneg (by have := pw_lo h j; omega)
theorem cpw_pw {b : Int} (h : 1 ≤ b) : ∀ n, cpw b n ≤ 16 → cpw b n = pw b n
  | 0, _ => rfl
  | n + 1, hn => by
    have h1 := cpw_lo h n
    have h3 : cpw b n * 1 ≤ cpw b n * b := Int.mul_le_mul_of_nonneg_left h (by omega)
    have h4 : cap (cpw b n * b) ≤ 16 := hn
    have h5 : cap (cpw b n * b) = cpw b n * b := by
      unfold cap at h4 ⊢
      split
      · rename_i z; rw [if_pos z] at h4; omega
      · rfl
    show cap (cpw b n * b) = pw b n * b
    rw [h5, cpw_pw h n (by omega)]
/-- all counts are small -/
def sm (w : Str → Int) : KT → Prop
  | .leaf t => w (bs t) ≤ 16
  | .node s a b => ct w (.node s a b) ≤ 16 ∧ sm w a ∧ sm w b
theorem sm_ct {w : Str → Int} : ∀ {k : KT}, sm w k → ct w k ≤ 16
  | .leaf t, h => h
  | .node s a b, h => h.1
theorem t20_sm {x : Int} (h : x ≤ 16) : t20 x = x := by unfold t20; rw [if_neg (by omega)]
theorem ct_pw_o {kvs : List (Key × D)} {w : Str → Int} (hw : WD kvs w) {a b : KT} (h : sm w (.node "/" a b)) : ct w (.node "/" a b) = pw (ct w a) (ct w b).toNat := by
  have h1 := h.1
  rw [ct_o, t20_sm (sm_ct h.2.2)] at h1 ⊢
  exact cpw_pw (ct_lo hw a) _ h1
theorem ct_pw_u {kvs : List (Key × D)} {w : Str → Int} (hw : WD kvs w) {a b : KT} (h : sm w (.node ">" a b)) : ct w (.node ">" a b) = pw (ct w b) (ct w a).toNat := by
  have h1 := h.1
  rw [ct_u, t20_sm (sm_ct h.2.1)] at h1 ⊢
  exact cpw_pw (ct_lo hw b) _ h1
theorem ct_pw_p {w : Str → Int} {a b : KT} (h : sm w (.node "*" a b)) : ct w (.node "*" a b) = ct w a * ct w b := by
  have h1 := h.1
  rw [ct_p] at h1 ⊢
  unfold cap at h1 ⊢
  split
  · rename_i z; rw [if_pos z] at h1; omega
  · rfl
theorem entry_t (n : Nat) {v A : Int} (j : Nat) (hv : 0 ≤ v) (hA : 1 ≤ A) (hA2 : A ≤ 1000000) (hj : j ≤ 1000) (S : Store) (hS : SOK S) : Dl.Sp (tab (n + 1) ._law_entry [.int v, .int A, .int j] S) fun o => o = .ok (.int ((v / pw A j) % A)) S := by
  refine Dl.sp_plain (g := b__law_entry (tab n)) rfl fun Q hQ => ?_
  unfold b__law_entry
  have e0 : v / pw A 0 = v := Int.ediv_one v
  simp_arith []
  refine Dl.forQ (fun i ρ T => ∃ v3, ρ = [some (.int (v / pw A i)), some (.int A), some (.int j), v3] ∧ T = Dl.sx S []) ⟨_, by rw [e0], rfl⟩ ?_ ?_
  · rintro i x _ _ hj ⟨v3, rfl, rfl⟩
    refine ⟨chk_nil, _, _, rfl, ?_⟩
    simp_arith [pw_div hA i]
    exact ⟨_, rfl, trivial⟩
  · rintro _ _ ⟨v3, rfl, rfl⟩
    refine ⟨chk_nil, ?_⟩
    rw [rng_length]
    simp_arith []
    exact Dl.Qx (hS.wf rfl) rfl (hQ _ rfl)
/-! slices of short tuples -/
theorem c2a {x y : D} : cutD [x, y] (some 1) (some 2) = [y] := Dl.nr rfl
theorem c2b {x y : D} : cutD [x, y] none (some 0) = [] := Dl.nr rfl
theorem c2c {x y : D} : cutD [x, y] (some 2) none = [] := Dl.nr rfl
theorem c2d {x y : D} : cutD [x, y] (some 0) (some 1) = [x] := Dl.nr rfl
theorem c2e {x y : D} : cutD [x, y] none (some 1) = [x] := Dl.nr rfl
theorem c2f {x y : D} : cutD [x, y] (some 1) none = [y] := Dl.nr rfl
theorem c1a {x : D} : cutD [x] none (some 0) = [] := Dl.nr rfl
theorem c1b {x : D} : cutD [x] (some 1) none = [] := Dl.nr rfl
section
variable (m q : Nat) {S : Store} {s : Str} {ad bd cd g ida idb : D} {A B v : Int}
theorem left_ol (u : Nat) (hS : SOK S) (hA : 1 ≤ A) (hA2 : A ≤ 1000000) (hv : 0 ≤ v) (hu : u ≤ 1000)
    (eb : tab (m + 1) ._law_value [idb, .ref q, .tup [.int u]] (Dl.sx S []) = .ok (.int u) (Dl.sx S []))
    (ca : tab (m + 1) ._law_count [ad, .ref q] (Dl.sx S []) = .ok (.int A) (Dl.sx S []))
    (ea : ∀ x : Int, 0 ≤ x → x < A → tab (m + 1) ._law_value [ida, .ref q, .tup [.int x]] (Dl.sx S []) = .ok (.int x) (Dl.sx S [])) :
    Dl.Sp (tab (m + 2) ._law_left_value [.tup [.str "over left", .tup [.tup [.str s, ad, bd], cd], g, .int 0, .int 1, .tup [idb, ida]], .ref q, .tup [.int v, .int u]] S) fun o => o = .ok (.int ((v / pw A u) % A)) S := by
  refine Dl.sp_plain (g := b__law_left_value (tab (m + 1))) rfl fun Q hQ => ?_
  unfold b__law_left_value
  have en := entry_t m (v := v) (A := A) u hv hA hA2 hu (Dl.sx S []) (SOK.sx hS .nil)
  have e2 := ea ((v / pw A u) % A) (Int.emod_nonneg _ (by omega)) (Int.emod_lt_of_pos _ (by omega))
  simp_arith [c2a, c2b, c2c, eb, ca, en, e2]
  exact Dl.Qx (hS.wf rfl) rfl (hQ _ rfl)
theorem left_ul (u : Nat) (hS : SOK S) (hA : 1 ≤ A) (hA2 : A ≤ 1000000) (hv : 0 ≤ v) (hu : u ≤ 1000)
    (eb : tab (m + 1) ._law_value [idb, .ref q, .tup [.int u]] (Dl.sx S []) = .ok (.int u) (Dl.sx S []))
    (ca : tab (m + 1) ._law_count [ad, .ref q] (Dl.sx S []) = .ok (.int A) (Dl.sx S []))
    (ea : ∀ x : Int, 0 ≤ x → x < A → tab (m + 1) ._law_value [ida, .ref q, .tup [.int x]] (Dl.sx S []) = .ok (.int x) (Dl.sx S [])) :
    Dl.Sp (tab (m + 2) ._law_left_value [.tup [.str "under left", .tup [cd, .tup [.str s, bd, ad]], g, .int 1, .int 1, .tup [idb, ida]], .ref q, .tup [.int u, .int v]] S) fun o => o = .ok (.int ((v / pw A u) % A)) S := by
  refine Dl.sp_plain (g := b__law_left_value (tab (m + 1))) rfl fun Q hQ => ?_
  unfold b__law_left_value
  have en := entry_t m (v := v) (A := A) u hv hA hA2 hu (Dl.sx S []) (SOK.sx hS .nil)
  have e2 := ea ((v / pw A u) % A) (Int.emod_nonneg _ (by omega)) (Int.emod_lt_of_pos _ (by omega))
  simp_arith [c2d, c2b, c2c, eb, ca, en, e2]
  exact Dl.Qx (hS.wf rfl) rfl (hQ _ rfl)
end

end Lw

set_option Elab.async false
set_option linter.all false
set_option maxRecDepth 100000
namespace Lw
open PySem L2 Dl
variable [Fa]
local macro_rules | `(tactic| simp_arith [$ls,*]) => `(tactic| simp (disch := first | omega | assumption | (simp only [List.length_cons, List.length_nil, List.length_append, List.length_take, List.length_drop]; omega) | (simp only [List.length_cons, List.length_nil])) only [sQ_, sP_, sE_, sR_, sIf_, sN_, sA_, tgO_nx, nm_, tgIx_, eC_, eV0, eV1, e1_, e2_, eB_, eF_, aN_, aC_, eMt_, eSl_, oN_, oI_, tV_, tE_, tA_, tO_, tN_, eIf_, eAnd_, eOr_, eNot_, eCh_, seq_nx, seq_rt, seq_bk, seq_ct, seq_ex, toR_some, toR_none, toT_some, truD_bl, truD_int, truD_tup, truD_non, truD_str, truD_ref, truC_lst, tyD_str, tyD_tup, tyD_int, tyD_bl, tyD_non, tyD_ref, tyC_lst, tyC_rol, tyC_dic, kE_, kR_, kIf_t, kIf_f, kN_, kA_, kIx1_, kIx2_, kIx3_, kE1_, kE21_, kE2_, kB_, kF_, kC1_, kC_, kM1_, kM2_, kM_, kS1_, kS2_, kS3_, kO_, kV_, kT_, kAn_t, kAn_f, kOr_t, kOr_f, kNo_, kIfE_t, kIfE_f, kVa_, kVa2_t, kVa2_f, kVo_, kVo2_t, kVo2_f, kVn_, kVn2_, kH_, kH1_, kH2_t, kH2_f, kH3_, List.getElem?_cons_zero, List.getElem?_cons_succ, List.set_cons_zero, List.set_cons_succ, gAdd_int, gAdd_str, gAdd_t, gAdd_r, catC_s, gSub_int, gMul_l, gMul_r, gFdiv_int, gMod_int, gLt_int, gLe_int, gGt_int, gGe_int, gInt_int, gAbs_int, gLen_tup, gLen_str, gLen_r, lenC_s, gTpl_, gLsd_, gIx_r, ixC_s, ixO_s, gIx_t, gIx_s, ixS_s, atI_0, atI_1, atI_2, atI_3, atI_4, atI_5, gAppend_r, appC_s, gExtend_r, extC_s, gPop_r, popC_s, gSet_r, setC_0, setC_2, gTuple_r, tupC_s, gTuple_t, gList_r, gList_t, newC_s, gSl_r, slC_s, gSl_t, gSl_s, cut_take, cut_drop, cut_init, cut_mid, Int.toNat_natCast, lstC_lst, lstC_rol, lstAt_C, isi_str, isi_int, isi_bool, isi_tup, isi_lst, isO_s, isB_1, isB_2, isB_3, isB_4, isB_5, isB_6, isB_7, isB_8, isB_9, isB_10, isB_11, isB_12, isB_13, isB_14, isB_15, isB_16, isB_17, isB_18, isB_19, isB_20, isB_21, isB_22, isB_23, isB_24, isB_25, isB_26, gSum_r, sumC_s, sumO_s, gMin_, gMax_, qEq_int, qNe_int, qEq_str, qNe_str, gNeg_z, tgT_, tgU_, tgL0, tgL1, eTab_, kTab_, sX_, tgIxX_, kX1_, kX2_, kX3_, gSetX_r, setX_0, setX_2, setX_s, sPar_, kPar_, eFv_, eGetD_, kG1_, isDic_r, isDC_d, kG1b_, kG2_, kG3_, gGetD_r, getC_s, gMaxL_r, maxC_, gRep_r, repC_, eD0_, gDget_r, dgC_s, List.getElem?_concat_length, set_end, sF_, kFor_, iR1_, kR1_, iR2_, kR2_, kR3_, iA_, kAny_r, kAny_t, kAny_s, iaC_s, eLc_, kLc_, wipeD_c, wipeD_n, tYes_, put_one, sAug_, gAug_i, sBk_, sCt_, sW_, st_len, st_p, st_k, st_0, st_q, st_set_p, st_set_k, st_set_0, st_push, sx_len, sx_k, sx_0, sx_q, sx_set_k, sx_set_0, sx_push, So_rt, So_nx, So_ex, Tn_nx, Tn_ct, Tn_bk, Tn_rt, Tn_ex, Bool.false_eq_true, if_true, if_false, reduceIte, Option.map_some, Option.bind_some, Bool.not_true, Bool.not_false, decide_true, decide_false, eq_self, List.length_append, List.length_singleton, List.length_cons, List.length_nil, List.map_cons, List.map_nil, Nat.sub_self, List.replicate_zero, List.append_nil, List.cons_append, List.nil_append, List.append_assoc, List.replicate_succ, Nat.reduceSub, Nat.reduceAdd, Nat.add_zero, Nat.zero_add, Nat.add_assoc, Nat.reduceLeDiff, Int.natCast_add, Int.cast_ofNat_Int, Int.reduceEq, Int.reduceLT, Int.reduceLE, Int.reduceAdd, Int.reduceSub, Int.reduceNeg, Int.reduceToNat, List.take_succ_cons, List.take_zero, List.drop_succ_cons, List.drop_zero, List.dropLast_concat, Dl.atI_last, r_ax_or, r_ax_ur, r_ax_pr, r_ax_ol, r_ax_ul, r_ax_pl, r_ax_ct, r_or_ax, r_or_ur, r_or_pr, r_or_ol, r_or_ul, r_or_pl, r_or_ct, r_ur_ax, r_ur_or, r_ur_pr, r_ur_ol, r_ur_ul, r_ur_pl, r_ur_ct, r_pr_ax, r_pr_or, r_pr_ur, r_pr_ol, r_pr_ul, r_pr_pl, r_pr_ct, r_ol_ax, r_ol_or, r_ol_ur, r_ol_pr, r_ol_ul, r_ol_pl, r_ol_ct, r_ul_ax, r_ul_or, r_ul_ur, r_ul_pr, r_ul_ol, r_ul_pl, r_ul_ct, r_pl_ax, r_pl_or, r_pl_ur, r_pl_pr, r_pl_ol, r_pl_ul, r_pl_ct, r_ct_ax, r_ct_or, r_ct_ur, r_ct_pr, r_ct_ol, r_ct_ul, r_ct_pl, q1, q2, q3, q4, q5, q6, e1, e2, e3, gInt_bl, gIs_tn, gIs_nn, gIsN_tn, gIsN_nn, $ls,*])
local macro_rules | `(tactic| walk_at "ev") => `(tactic| simp (disch := first | omega | assumption | (simp only [List.length_cons, List.length_nil, List.length_append, List.length_take, List.length_drop]; omega) | (simp only [List.length_cons, List.length_nil])) only [sQ_, sP_, sE_, sR_, sIf_, sN_, sA_, tgO_nx, nm_, tgIx_, eC_, eV0, eV1, e1_, e2_, eB_, eF_, aN_, aC_, eMt_, eSl_, oN_, oI_, tV_, tE_, tA_, tO_, tN_, eIf_, eAnd_, eOr_, eNot_, eCh_, seq_nx, seq_rt, seq_bk, seq_ct, seq_ex, toR_some, toR_none, toT_some, truD_bl, truD_int, truD_tup, truD_non, truD_str, truD_ref, truC_lst, tyD_str, tyD_tup, tyD_int, tyD_bl, tyD_non, tyD_ref, tyC_lst, tyC_rol, tyC_dic, kE_, kR_, kIf_t, kIf_f, kN_, kA_, kIx1_, kIx2_, kIx3_, kE1_, kE21_, kE2_, kB_, kF_, kC1_, kC_, kM1_, kM2_, kM_, kS1_, kS2_, kS3_, kO_, kV_, kT_, kAn_t, kAn_f, kOr_t, kOr_f, kNo_, kIfE_t, kIfE_f, kVa_, kVa2_t, kVa2_f, kVo_, kVo2_t, kVo2_f, kVn_, kVn2_, kH_, kH1_, kH2_t, kH2_f, kH3_, List.getElem?_cons_zero, List.getElem?_cons_succ, List.set_cons_zero, List.set_cons_succ, gAdd_int, gAdd_str, gAdd_t, gAdd_r, catC_s, gSub_int, gMul_l, gMul_r, gFdiv_int, gMod_int, gLt_int, gLe_int, gGt_int, gGe_int, gInt_int, gAbs_int, gLen_tup, gLen_str, gLen_r, lenC_s, gTpl_, gLsd_, gIx_r, ixC_s, ixO_s, gIx_t, gIx_s, ixS_s, atI_0, atI_1, atI_2, atI_3, atI_4, atI_5, gAppend_r, appC_s, gExtend_r, extC_s, gPop_r, popC_s, gSet_r, setC_0, setC_2, gTuple_r, tupC_s, gTuple_t, gList_r, gList_t, newC_s, gSl_r, slC_s, gSl_t, gSl_s, cut_take, cut_drop, cut_init, cut_mid, Int.toNat_natCast, lstC_lst, lstC_rol, lstAt_C, isi_str, isi_int, isi_bool, isi_tup, isi_lst, isO_s, isB_1, isB_2, isB_3, isB_4, isB_5, isB_6, isB_7, isB_8, isB_9, isB_10, isB_11, isB_12, isB_13, isB_14, isB_15, isB_16, isB_17, isB_18, isB_19, isB_20, isB_21, isB_22, isB_23, isB_24, isB_25, isB_26, gSum_r, sumC_s, sumO_s, gMin_, gMax_, qEq_int, qNe_int, qEq_str, qNe_str, gNeg_z, tgT_, tgU_, tgL0, tgL1, eTab_, kTab_, sX_, tgIxX_, kX1_, kX2_, kX3_, gSetX_r, setX_0, setX_2, setX_s, sPar_, kPar_, eFv_, eGetD_, kG1_, isDic_r, isDC_d, kG1b_, kG2_, kG3_, gGetD_r, getC_s, gMaxL_r, maxC_, gRep_r, repC_, eD0_, gDget_r, dgC_s, List.getElem?_concat_length, set_end, sF_, kFor_, iR1_, kR1_, iR2_, kR2_, kR3_, iA_, kAny_r, kAny_t, kAny_s, iaC_s, eLc_, kLc_, wipeD_c, wipeD_n, tYes_, put_one, sAug_, gAug_i, sBk_, sCt_, sW_, st_len, st_p, st_k, st_0, st_q, st_set_p, st_set_k, st_set_0, st_push, sx_len, sx_k, sx_0, sx_q, sx_set_k, sx_set_0, sx_push, So_rt, So_nx, So_ex, Tn_nx, Tn_ct, Tn_bk, Tn_rt, Tn_ex, Bool.false_eq_true, if_true, if_false, reduceIte, Option.map_some, Option.bind_some, Bool.not_true, Bool.not_false, decide_true, decide_false, eq_self, List.length_append, List.length_singleton, List.length_cons, List.length_nil, List.map_cons, List.map_nil, Nat.sub_self, List.replicate_zero, List.append_nil, List.cons_append, List.nil_append, List.append_assoc, List.replicate_succ, Nat.reduceSub, Nat.reduceAdd, Nat.add_zero, Nat.zero_add, Nat.add_assoc, Nat.reduceLeDiff, Int.natCast_add, Int.cast_ofNat_Int, Int.reduceEq, Int.reduceLT, Int.reduceLE, Int.reduceAdd, Int.reduceSub, Int.reduceNeg, Int.reduceToNat, List.take_succ_cons, List.take_zero, List.drop_succ_cons, List.drop_zero, List.dropLast_concat, Dl.atI_last, r_ax_or, r_ax_ur, r_ax_pr, r_ax_ol, r_ax_ul, r_ax_pl, r_ax_ct, r_or_ax, r_or_ur, r_or_pr, r_or_ol, r_or_ul, r_or_pl, r_or_ct, r_ur_ax, r_ur_or, r_ur_pr, r_ur_ol, r_ur_ul, r_ur_pl, r_ur_ct, r_pr_ax, r_pr_or, r_pr_ur, r_pr_ol, r_pr_ul, r_pr_pl, r_pr_ct, r_ol_ax, r_ol_or, r_ol_ur, r_ol_pr, r_ol_ul, r_ol_pl, r_ol_ct, r_ul_ax, r_ul_or, r_ul_ur, r_ul_pr, r_ul_ol, r_ul_pl, r_ul_ct, r_pl_ax, r_pl_or, r_pl_ur, r_pl_pr, r_pl_ol, r_pl_ul, r_pl_ct, r_ct_ax, r_ct_or, r_ct_ur, r_ct_pr, r_ct_ol, r_ct_ul, r_ct_pl, q1, q2, q3, q4, q5, q6, e1, e2, e3, gInt_bl, gIs_tn, gIs_nn, gIsN_tn, gIsN_nn])
-- fa
section
variable (m q : Nat) {S : Store} {ad bd cd g kd ida idb : D} {A B v : Int}
/-- the part's value: one step of the table -/
theorem part_ol (u : Nat) (hS : SOK S) (hA : 1 ≤ A) (hA2 : A ≤ 1000000) (hv : 0 ≤ v) (hu : u ≤ 1000)
    (eb : tab (m + 1) ._law_value [idb, .ref q, .tup [.int u]] (Dl.sx S []) = .ok (.int u) (Dl.sx S []))
    (ca : tab (m + 1) ._law_count [ad, .ref q] (Dl.sx S []) = .ok (.int A) (Dl.sx S []))
    (ea : ∀ x : Int, 0 ≤ x → x < A → tab (m + 1) ._law_value [ida, .ref q, .tup [.int x]] (Dl.sx S []) = .ok (.int x) (Dl.sx S [])) :
    Dl.Sp (tab (m + 3) ._law_value [.tup [.str "over left", .tup [.tup [.str "/", ad, bd], cd], g, .int 0, .int 1, .tup [idb, ida]], .ref q, .tup [.int v, .int u]] S) fun o => o = .ok (.int ((v / pw A u) % A)) S := by
  refine Dl.sp_plain (g := b__law_value (tab (m + 2))) rfl fun Q hQ => ?_
  unfold b__law_value
  have e := left_ol m q (s := "/") (bd := bd) (cd := cd) (g := g) u (S := Dl.sx S []) (SOK.sx hS .nil) hA hA2 hv hu (by rw [← Dl.sx_in]; exact eb) (by rw [← Dl.sx_in]; exact ca) (fun x h h' => by rw [← Dl.sx_in]; exact ea x h h')
  simp_arith [e]
  exact Dl.Qx (hS.wf rfl) rfl (hQ _ rfl)
theorem part_ul (u : Nat) (hS : SOK S) (hA : 1 ≤ A) (hA2 : A ≤ 1000000) (hv : 0 ≤ v) (hu : u ≤ 1000)
    (eb : tab (m + 1) ._law_value [idb, .ref q, .tup [.int u]] (Dl.sx S []) = .ok (.int u) (Dl.sx S []))
    (ca : tab (m + 1) ._law_count [ad, .ref q] (Dl.sx S []) = .ok (.int A) (Dl.sx S []))
    (ea : ∀ x : Int, 0 ≤ x → x < A → tab (m + 1) ._law_value [ida, .ref q, .tup [.int x]] (Dl.sx S []) = .ok (.int x) (Dl.sx S [])) :
    Dl.Sp (tab (m + 3) ._law_value [.tup [.str "under left", .tup [cd, .tup [.str ">", bd, ad]], g, .int 1, .int 1, .tup [idb, ida]], .ref q, .tup [.int u, .int v]] S) fun o => o = .ok (.int ((v / pw A u) % A)) S := by
  refine Dl.sp_plain (g := b__law_value (tab (m + 2))) rfl fun Q hQ => ?_
  unfold b__law_value
  have e := left_ul m q (s := ">") (bd := bd) (cd := cd) (g := g) u (S := Dl.sx S []) (SOK.sx hS .nil) hA hA2 hv hu (by rw [← Dl.sx_in]; exact eb) (by rw [← Dl.sx_in]; exact ca) (fun x h h' => by rw [← Dl.sx_in]; exact ea x h h')
  simp_arith [e]
  exact Dl.Qx (hS.wf rfl) rfl (hQ _ rfl)
theorem table_o {p : D} (hS : SOK S) (hA : 1 ≤ A) (hA2 : A ≤ 16) (hB : 1 ≤ B) (hB2 : B ≤ 16) (hv : 0 ≤ v) (hv2 : v < pw A B.toNat) (hp : pw A B.toNat ≤ 16)
    (ca : tab (m + 3) ._law_count [ad, .ref q] (Dl.sx S []) = .ok (.int A) (Dl.sx S []))
    (cb : tab (m + 3) ._law_count [bd, .ref q] (Dl.sx S []) = .ok (.int B) (Dl.sx S []))
    (ep : ∀ u : Nat, (u : Int) < B → tab (m + 3) ._law_value [p, .ref q, .tup [.int v, .int u]] (Dl.sx S []) = .ok (.int ((v / pw A u) % A)) (Dl.sx S [])) :
    Dl.Sp (tab (m + 4) ._law_table [p, .ref q, .tup [.int v], .tup [.str "/", ad, bd]] S) fun o => o = .ok (.int v) S := by
  refine Dl.sp_plain (g := b__law_table (tab (m + 3))) rfl fun Q hQ => ?_
  unfold b__law_table
  by_cases h1 : A = 1
  · have : v = 0 := by rw [h1, pw_one] at hv2; omega
    simp_arith [ca, h1]
    exact Dl.Qx (hS.wf rfl) rfl (hQ _ (by rw [this]))
  · simp_arith [ca, cb, h1]
    refine Dl.forQ (fun i ρ T => ∃ v7 v10, ρ = [some p, some (.ref q), some (.tup [.int v]), some (.tup [.str "/", ad, bd]), some (.int A), some (.int (v % pw A i)), some (.int (pw A i)), v7, some ad, some bd, v10] ∧ T = Dl.sx S []) ⟨_, _, by rw [show v % pw A 0 = 0 from Int.emod_one v]; rfl, rfl⟩ ?_ ?_
    · rintro i x _ _ hj ⟨v7, v10, rfl, rfl⟩
      obtain ⟨hj, rfl⟩ := Dl.rng_get hj
      rw [Int.zero_add]
      refine ⟨chk_nil, _, _, rfl, ?_⟩
      have e := ep i (by omega)
      have l1 := pw_lo hA i
      have l2 := pw_le hA (show i ≤ B.toNat by omega)
      simp_arith [e, pw_mod hv hA i, show pw A i * A = pw A (i + 1) from rfl]
      exact ⟨_, _, rfl, trivial⟩
    · rintro _ _ ⟨v7, v10, rfl, rfl⟩
      refine ⟨chk_nil, ?_⟩
      rw [rng_length, Int.emod_eq_of_lt hv hv2]
      simp_arith []
      exact Dl.Qx (hS.wf rfl) rfl (hQ _ rfl)
theorem table_u {p : D} (hS : SOK S) (hA : 1 ≤ A) (hA2 : A ≤ 16) (hB : 1 ≤ B) (hB2 : B ≤ 16) (hv : 0 ≤ v) (hv2 : v < pw A B.toNat) (hp : pw A B.toNat ≤ 16)
    (ca : tab (m + 3) ._law_count [ad, .ref q] (Dl.sx S []) = .ok (.int A) (Dl.sx S []))
    (cb : tab (m + 3) ._law_count [bd, .ref q] (Dl.sx S []) = .ok (.int B) (Dl.sx S []))
    (ep : ∀ u : Nat, (u : Int) < B → tab (m + 3) ._law_value [p, .ref q, .tup [.int u, .int v]] (Dl.sx S []) = .ok (.int ((v / pw A u) % A)) (Dl.sx S [])) :
    Dl.Sp (tab (m + 4) ._law_table [p, .ref q, .tup [.int v], .tup [.str ">", bd, ad]] S) fun o => o = .ok (.int v) S := by
  refine Dl.sp_plain (g := b__law_table (tab (m + 3))) rfl fun Q hQ => ?_
  unfold b__law_table
  by_cases h1 : A = 1
  · have : v = 0 := by rw [h1, pw_one] at hv2; omega
    simp_arith [ca, h1]
    exact Dl.Qx (hS.wf rfl) rfl (hQ _ (by rw [this]))
  · simp_arith [ca, cb, h1]
    refine Dl.forQ (fun i ρ T => ∃ v7 v10, ρ = [some p, some (.ref q), some (.tup [.int v]), some (.tup [.str ">", bd, ad]), some (.int A), some (.int (v % pw A i)), some (.int (pw A i)), v7, some ad, some bd, v10] ∧ T = Dl.sx S []) ⟨_, _, by rw [show v % pw A 0 = 0 from Int.emod_one v]; rfl, rfl⟩ ?_ ?_
    · rintro i x _ _ hj ⟨v7, v10, rfl, rfl⟩
      obtain ⟨hj, rfl⟩ := Dl.rng_get hj
      rw [Int.zero_add]
      refine ⟨chk_nil, _, _, rfl, ?_⟩
      have e := ep i (by omega)
      have l1 := pw_lo hA i
      have l2 := pw_le hA (show i ≤ B.toNat by omega)
      simp_arith [e, pw_mod hv hA i, show pw A i * A = pw A (i + 1) from rfl]
      exact ⟨_, _, rfl, trivial⟩
    · rintro _ _ ⟨v7, v10, rfl, rfl⟩
      refine ⟨chk_nil, ?_⟩
      rw [rng_length, Int.emod_eq_of_lt hv hv2]
      simp_arith []
      exact Dl.Qx (hS.wf rfl) rfl (hQ _ rfl)
/-- a pair, taken apart and put together -/
theorem pair_v {s : Str} {g2 g3 : D} (hS : SOK S) (hA : 1 ≤ A) (hA2 : A ≤ 16) (hB : 1 ≤ B) (hB2 : B ≤ 16) (hv : 0 ≤ v) (hv2 : v < A * B)
    (cb1 : tab (m + 2) ._law_count [bd, .ref q] (Dl.sx S []) = .ok (.int B) (Dl.sx S []))
    (cb2 : tab (m + 1) ._law_count [bd, .ref q] (Dl.sx S []) = .ok (.int B) (Dl.sx S []))
    (ea : ∀ x : Int, 0 ≤ x → x < A → tab (m + 1) ._law_value [ida, .ref q, .tup [.int x]] (Dl.sx S []) = .ok (.int x) (Dl.sx S []))
    (eb : ∀ x : Int, 0 ≤ x → x < B → tab (m + 1) ._law_value [idb, .ref q, .tup [.int x]] (Dl.sx S []) = .ok (.int x) (Dl.sx S [])) :
    Dl.Sp (tab (m + 4) ._law_value [.tup [.str "pair left", .tup [.tup [.str s, ad, bd]], g, .int 0, .int 0, .tup [.tup [.str "pair right", cd, .tup [g2, g3, bd], .int 1, .int 0, .tup [ida, idb]]]], .ref q, .tup [.int v]] S) fun o => o = .ok (.int v) S := by
  have d0 : 0 ≤ v / B := Int.ediv_nonneg hv (by omega)
  have d1 : v / B < A := Int.ediv_lt_of_lt_mul (by omega) hv2
  have m0 := Int.emod_nonneg v (show B ≠ 0 by omega)
  have m1 := Int.emod_lt_of_pos v (show 0 < B by omega)
  have eqv : v / B * B + v % B = v := by rw [Int.mul_comm]; exact Int.mul_ediv_add_emod v B
  have e1 : tab (m + 2) ._law_value [.tup [.str "pair right", cd, .tup [g2, g3, bd], .int 1, .int 0, .tup [ida, idb]], .ref q, .tup [.int (v / B), .int (v % B)]] (Dl.sx S []) = .ok (.int v) (Dl.sx S []) := by
    show Dl.Sp _ fun o => o = _
    refine Dl.sp_plain (g := b__law_value (tab (m + 1))) rfl fun Q hQ => ?_
    unfold b__law_value
    rw [← Dl.sx_in]
    have e2 := ea _ d0 d1
    have e3 := eb _ m0 m1
    simp_arith [c2e, c2f, e2, e3, cb2, eqv]
    exact Dl.Qx (hS.wf rfl) rfl (hQ _ (by rw [← Dl.sx_in]))
  have e4 : tab (m + 3) ._law_left_value [.tup [.str "pair left", .tup [.tup [.str s, ad, bd]], g, .int 0, .int 0, .tup [.tup [.str "pair right", cd, .tup [g2, g3, bd], .int 1, .int 0, .tup [ida, idb]]]], .ref q, .tup [.int v]] (Dl.sx S []) = .ok (.int v) (Dl.sx S []) := by
    show Dl.Sp _ fun o => o = _
    refine Dl.sp_plain (g := b__law_left_value (tab (m + 2))) rfl fun Q hQ => ?_
    unfold b__law_left_value
    rw [← Dl.sx_in]
    simp_arith [c1a, c1b, cb1, e1]
    exact Dl.Qx (hS.wf rfl) rfl (hQ _ (by rw [← Dl.sx_in]))
  refine Dl.sp_plain (g := b__law_value (tab (m + 3))) rfl fun Q hQ => ?_
  unfold b__law_value
  simp_arith [e4]
  exact Dl.Qx (hS.wf rfl) rfl (hQ _ rfl)
end

end Lw

set_option Elab.async false
set_option linter.all false
set_option maxRecDepth 100000
namespace Lw
open PySem L2 Dl
variable [Fa]
local macro_rules | `(tactic| simp_arith [$ls,*]) => `(tactic| simp (disch := first | omega | assumption | (simp only [List.length_cons, List.length_nil, List.length_append, List.length_take, List.length_drop]; omega) | (simp only [List.length_cons, List.length_nil])) only [sQ_, sP_, sE_, sR_, sIf_, sN_, sA_, tgO_nx, nm_, tgIx_, eC_, eV0, eV1, e1_, e2_, eB_, eF_, aN_, aC_, eMt_, eSl_, oN_, oI_, tV_, tE_, tA_, tO_, tN_, eIf_, eAnd_, eOr_, eNot_, eCh_, seq_nx, seq_rt, seq_bk, seq_ct, seq_ex, toR_some, toR_none, toT_some, truD_bl, truD_int, truD_tup, truD_non, truD_str, truD_ref, truC_lst, tyD_str, tyD_tup, tyD_int, tyD_bl, tyD_non, tyD_ref, tyC_lst, tyC_rol, tyC_dic, kE_, kR_, kIf_t, kIf_f, kN_, kA_, kIx1_, kIx2_, kIx3_, kE1_, kE21_, kE2_, kB_, kF_, kC1_, kC_, kM1_, kM2_, kM_, kS1_, kS2_, kS3_, kO_, kV_, kT_, kAn_t, kAn_f, kOr_t, kOr_f, kNo_, kIfE_t, kIfE_f, kVa_, kVa2_t, kVa2_f, kVo_, kVo2_t, kVo2_f, kVn_, kVn2_, kH_, kH1_, kH2_t, kH2_f, kH3_, List.getElem?_cons_zero, List.getElem?_cons_succ, List.set_cons_zero, List.set_cons_succ, gAdd_int, gAdd_str, gAdd_t, gAdd_r, catC_s, gSub_int, gMul_l, gMul_r, gFdiv_int, gMod_int, gLt_int, gLe_int, gGt_int, gGe_int, gInt_int, gAbs_int, gLen_tup, gLen_str, gLen_r, lenC_s, gTpl_, gLsd_, gIx_r, ixC_s, ixO_s, gIx_t, gIx_s, ixS_s, atI_0, atI_1, atI_2, atI_3, atI_4, atI_5, gAppend_r, appC_s, gExtend_r, extC_s, gPop_r, popC_s, gSet_r, setC_0, setC_2, gTuple_r, tupC_s, gTuple_t, gList_r, gList_t, newC_s, gSl_r, slC_s, gSl_t, gSl_s, cut_take, cut_drop, cut_init, cut_mid, Int.toNat_natCast, lstC_lst, lstC_rol, lstAt_C, isi_str, isi_int, isi_bool, isi_tup, isi_lst, isO_s, isB_1, isB_2, isB_3, isB_4, isB_5, isB_6, isB_7, isB_8, isB_9, isB_10, isB_11, isB_12, isB_13, isB_14, isB_15, isB_16, isB_17, isB_18, isB_19, isB_20, isB_21, isB_22, isB_23, isB_24, isB_25, isB_26, gSum_r, sumC_s, sumO_s, gMin_, gMax_, qEq_int, qNe_int, qEq_str, qNe_str, gNeg_z, tgT_, tgU_, tgL0, tgL1, eTab_, kTab_, sX_, tgIxX_, kX1_, kX2_, kX3_, gSetX_r, setX_0, setX_2, setX_s, sPar_, kPar_, eFv_, eGetD_, kG1_, isDic_r, isDC_d, kG1b_, kG2_, kG3_, gGetD_r, getC_s, gMaxL_r, maxC_, gRep_r, repC_, eD0_, gDget_r, dgC_s, List.getElem?_concat_length, set_end, sF_, kFor_, iR1_, kR1_, iR2_, kR2_, kR3_, iA_, kAny_r, kAny_t, kAny_s, iaC_s, eLc_, kLc_, wipeD_c, wipeD_n, tYes_, put_one, sAug_, gAug_i, sBk_, sCt_, sW_, st_len, st_p, st_k, st_0, st_q, st_set_p, st_set_k, st_set_0, st_push, sx_len, sx_k, sx_0, sx_q, sx_set_k, sx_set_0, sx_push, So_rt, So_nx, So_ex, Tn_nx, Tn_ct, Tn_bk, Tn_rt, Tn_ex, Bool.false_eq_true, if_true, if_false, reduceIte, Option.map_some, Option.bind_some, Bool.not_true, Bool.not_false, decide_true, decide_false, eq_self, List.length_append, List.length_singleton, List.length_cons, List.length_nil, List.map_cons, List.map_nil, Nat.sub_self, List.replicate_zero, List.append_nil, List.cons_append, List.nil_append, List.append_assoc, List.replicate_succ, Nat.reduceSub, Nat.reduceAdd, Nat.add_zero, Nat.zero_add, Nat.add_assoc, Nat.reduceLeDiff, Int.natCast_add, Int.cast_ofNat_Int, Int.reduceEq, Int.reduceLT, Int.reduceLE, Int.reduceAdd, Int.reduceSub, Int.reduceNeg, Int.reduceToNat, List.take_succ_cons, List.take_zero, List.drop_succ_cons, List.drop_zero, List.dropLast_concat, Dl.atI_last, r_ax_or, r_ax_ur, r_ax_pr, r_ax_ol, r_ax_ul, r_ax_pl, r_ax_ct, r_or_ax, r_or_ur, r_or_pr, r_or_ol, r_or_ul, r_or_pl, r_or_ct, r_ur_ax, r_ur_or, r_ur_pr, r_ur_ol, r_ur_ul, r_ur_pl, r_ur_ct, r_pr_ax, r_pr_or, r_pr_ur, r_pr_ol, r_pr_ul, r_pr_pl, r_pr_ct, r_ol_ax, r_ol_or, r_ol_ur, r_ol_pr, r_ol_ul, r_ol_pl, r_ol_ct, r_ul_ax, r_ul_or, r_ul_ur, r_ul_pr, r_ul_ol, r_ul_pl, r_ul_ct, r_pl_ax, r_pl_or, r_pl_ur, r_pl_pr, r_pl_ol, r_pl_ul, r_pl_ct, r_ct_ax, r_ct_or, r_ct_ur, r_ct_pr, r_ct_ol, r_ct_ul, r_ct_pl, q1, q2, q3, q4, q5, q6, e1, e2, e3, gInt_bl, gIs_tn, gIs_nn, gIsN_tn, gIsN_nn, $ls,*])
local macro_rules | `(tactic| walk_at "ev") => `(tactic| simp (disch := first | omega | assumption | (simp only [List.length_cons, List.length_nil, List.length_append, List.length_take, List.length_drop]; omega) | (simp only [List.length_cons, List.length_nil])) only [sQ_, sP_, sE_, sR_, sIf_, sN_, sA_, tgO_nx, nm_, tgIx_, eC_, eV0, eV1, e1_, e2_, eB_, eF_, aN_, aC_, eMt_, eSl_, oN_, oI_, tV_, tE_, tA_, tO_, tN_, eIf_, eAnd_, eOr_, eNot_, eCh_, seq_nx, seq_rt, seq_bk, seq_ct, seq_ex, toR_some, toR_none, toT_some, truD_bl, truD_int, truD_tup, truD_non, truD_str, truD_ref, truC_lst, tyD_str, tyD_tup, tyD_int, tyD_bl, tyD_non, tyD_ref, tyC_lst, tyC_rol, tyC_dic, kE_, kR_, kIf_t, kIf_f, kN_, kA_, kIx1_, kIx2_, kIx3_, kE1_, kE21_, kE2_, kB_, kF_, kC1_, kC_, kM1_, kM2_, kM_, kS1_, kS2_, kS3_, kO_, kV_, kT_, kAn_t, kAn_f, kOr_t, kOr_f, kNo_, kIfE_t, kIfE_f, kVa_, kVa2_t, kVa2_f, kVo_, kVo2_t, kVo2_f, kVn_, kVn2_, kH_, kH1_, kH2_t, kH2_f, kH3_, List.getElem?_cons_zero, List.getElem?_cons_succ, List.set_cons_zero, List.set_cons_succ, gAdd_int, gAdd_str, gAdd_t, gAdd_r, catC_s, gSub_int, gMul_l, gMul_r, gFdiv_int, gMod_int, gLt_int, gLe_int, gGt_int, gGe_int, gInt_int, gAbs_int, gLen_tup, gLen_str, gLen_r, lenC_s, gTpl_, gLsd_, gIx_r, ixC_s, ixO_s, gIx_t, gIx_s, ixS_s, atI_0, atI_1, atI_2, atI_3, atI_4, atI_5, gAppend_r, appC_s, gExtend_r, extC_s, gPop_r, popC_s, gSet_r, setC_0, setC_2, gTuple_r, tupC_s, gTuple_t, gList_r, gList_t, newC_s, gSl_r, slC_s, gSl_t, gSl_s, cut_take, cut_drop, cut_init, cut_mid, Int.toNat_natCast, lstC_lst, lstC_rol, lstAt_C, isi_str, isi_int, isi_bool, isi_tup, isi_lst, isO_s, isB_1, isB_2, isB_3, isB_4, isB_5, isB_6, isB_7, isB_8, isB_9, isB_10, isB_11, isB_12, isB_13, isB_14, isB_15, isB_16, isB_17, isB_18, isB_19, isB_20, isB_21, isB_22, isB_23, isB_24, isB_25, isB_26, gSum_r, sumC_s, sumO_s, gMin_, gMax_, qEq_int, qNe_int, qEq_str, qNe_str, gNeg_z, tgT_, tgU_, tgL0, tgL1, eTab_, kTab_, sX_, tgIxX_, kX1_, kX2_, kX3_, gSetX_r, setX_0, setX_2, setX_s, sPar_, kPar_, eFv_, eGetD_, kG1_, isDic_r, isDC_d, kG1b_, kG2_, kG3_, gGetD_r, getC_s, gMaxL_r, maxC_, gRep_r, repC_, eD0_, gDget_r, dgC_s, List.getElem?_concat_length, set_end, sF_, kFor_, iR1_, kR1_, iR2_, kR2_, kR3_, iA_, kAny_r, kAny_t, kAny_s, iaC_s, eLc_, kLc_, wipeD_c, wipeD_n, tYes_, put_one, sAug_, gAug_i, sBk_, sCt_, sW_, st_len, st_p, st_k, st_0, st_q, st_set_p, st_set_k, st_set_0, st_push, sx_len, sx_k, sx_0, sx_q, sx_set_k, sx_set_0, sx_push, So_rt, So_nx, So_ex, Tn_nx, Tn_ct, Tn_bk, Tn_rt, Tn_ex, Bool.false_eq_true, if_true, if_false, reduceIte, Option.map_some, Option.bind_some, Bool.not_true, Bool.not_false, decide_true, decide_false, eq_self, List.length_append, List.length_singleton, List.length_cons, List.length_nil, List.map_cons, List.map_nil, Nat.sub_self, List.replicate_zero, List.append_nil, List.cons_append, List.nil_append, List.append_assoc, List.replicate_succ, Nat.reduceSub, Nat.reduceAdd, Nat.add_zero, Nat.zero_add, Nat.add_assoc, Nat.reduceLeDiff, Int.natCast_add, Int.cast_ofNat_Int, Int.reduceEq, Int.reduceLT, Int.reduceLE, Int.reduceAdd, Int.reduceSub, Int.reduceNeg, Int.reduceToNat, List.take_succ_cons, List.take_zero, List.drop_succ_cons, List.drop_zero, List.dropLast_concat, Dl.atI_last, r_ax_or, r_ax_ur, r_ax_pr, r_ax_ol, r_ax_ul, r_ax_pl, r_ax_ct, r_or_ax, r_or_ur, r_or_pr, r_or_ol, r_or_ul, r_or_pl, r_or_ct, r_ur_ax, r_ur_or, r_ur_pr, r_ur_ol, r_ur_ul, r_ur_pl, r_ur_ct, r_pr_ax, r_pr_or, r_pr_ur, r_pr_ol, r_pr_ul, r_pr_pl, r_pr_ct, r_ol_ax, r_ol_or, r_ol_ur, r_ol_pr, r_ol_ul, r_ol_pl, r_ol_ct, r_ul_ax, r_ul_or, r_ul_ur, r_ul_pr, r_ul_ol, r_ul_pl, r_ul_ct, r_pl_ax, r_pl_or, r_pl_ur, r_pl_pr, r_pl_ol, r_pl_ul, r_pl_ct, r_ct_ax, r_ct_or, r_ct_ur, r_ct_pr, r_ct_ol, r_ct_ul, r_ct_pl, q1, q2, q3, q4, q5, q6, e1, e2, e3, gInt_bl, gIs_tn, gIs_nn, gIsN_tn, gIsN_nn])
-- fa
theorem value_t {kvs : List (Key × D)} {w : Str → Int} (hw : WD kvs w) (q : Nat) (n : Nat) : ∀ (L : Nat) (k : KT) (S : Store) (v : Int), k.ok AtS → sm w k → k.at_.length ≤ L → S[q]? = some (.dic kvs) → SOK S → 0 ≤ v → v < ct w k →
    Dl.Sp (tab (n + 4 * L + 1) ._law_value [idD k, .ref q, .tup [.int v]] S) fun o => o = .ok (.int v) S
  | 0, k, _, _, _, _, h, _, _, _, _ => by have := KT.pos k; omega
  | L + 1, k, S, v, hk, hs, h, hq, hS, v0, v1 => by
    have S0 : SOK (Dl.sx S []) := SOK.sx hS .nil
    have q0 : (Dl.sx S [])[q]? = some (.dic kvs) := by rw [← Dl.sx_in]; exact hq
    show Dl.Sp (tab (n + 4 * L + 5) ._law_value [idD k, .ref q, .tup [.int v]] S) _
    cases k with
    | leaf t =>
      refine Dl.sp_plain (g := b__law_value (tab (n + 4 * L + 4))) rfl fun Q hQ => ?_
      unfold b__law_value
      have e : idD (.leaf t) = .tup [.str "axiom", .tup [.str t], .str t, .int 0, .int 0, .tup []] := rfl
      simp_arith [e]
      exact Dl.Qx (hS.wf rfl) rfl (hQ _ rfl)
    | node s a b =>
      have pa := KT.pos a
      have pb := KT.pos b
      rw [KT.len_node] at h
      have la := ct_lo hw a
      have lb := ct_lo hw b
      have ha := sm_ct hs.2.1
      have hb := sm_ct hs.2.2
      have hk16 := sm_ct hs
      have ca1 : tab (n + 4 * L + 1) ._law_count [a.d, .ref q] (Dl.sx S []) = .ok (.int (ct w a)) (Dl.sx S []) := by
        have e := count_t hw q (n + 3 * L + 1) L a (Dl.sx S []) hk.2.1 (by omega) q0 S0
        rwa [show n + 3 * L + 1 + L = n + 4 * L + 1 by omega] at e
      have cb1 : tab (n + 4 * L + 1) ._law_count [b.d, .ref q] (Dl.sx S []) = .ok (.int (ct w b)) (Dl.sx S []) := by
        have e := count_t hw q (n + 3 * L + 1) L b (Dl.sx S []) hk.2.2 (by omega) q0 S0
        rwa [show n + 3 * L + 1 + L = n + 4 * L + 1 by omega] at e
      have cb2 : tab (n + 4 * L + 2) ._law_count [b.d, .ref q] (Dl.sx S []) = .ok (.int (ct w b)) (Dl.sx S []) := by
        have e := count_t hw q (n + 3 * L + 2) L b (Dl.sx S []) hk.2.2 (by omega) q0 S0
        rwa [show n + 3 * L + 2 + L = n + 4 * L + 2 by omega] at e
      have ca3 : tab (n + 4 * L + 3) ._law_count [a.d, .ref q] (Dl.sx S []) = .ok (.int (ct w a)) (Dl.sx S []) := by
        have e := count_t hw q (n + 3 * L + 3) L a (Dl.sx S []) hk.2.1 (by omega) q0 S0
        rwa [show n + 3 * L + 3 + L = n + 4 * L + 3 by omega] at e
      have cb3 : tab (n + 4 * L + 3) ._law_count [b.d, .ref q] (Dl.sx S []) = .ok (.int (ct w b)) (Dl.sx S []) := by
        have e := count_t hw q (n + 3 * L + 3) L b (Dl.sx S []) hk.2.2 (by omega) q0 S0
        rwa [show n + 3 * L + 3 + L = n + 4 * L + 3 by omega] at e
      have ea : ∀ x : Int, 0 ≤ x → x < ct w a → tab (n + 4 * L + 1) ._law_value [idD a, .ref q, .tup [.int x]] (Dl.sx S []) = .ok (.int x) (Dl.sx S []) := fun x h0 h1 => value_t hw q n L a _ x hk.2.1 hs.2.1 (by omega) q0 S0 h0 h1
      have eb : ∀ x : Int, 0 ≤ x → x < ct w b → tab (n + 4 * L + 1) ._law_value [idD b, .ref q, .tup [.int x]] (Dl.sx S []) = .ok (.int x) (Dl.sx S []) := fun x h0 h1 => value_t hw q n L b _ x hk.2.2 hs.2.2 (by omega) q0 S0 h0 h1
      have ea2 : ∀ x : Int, 0 ≤ x → x < ct w a → tab (n + 4 * L + 2) ._law_value [idD a, .ref q, .tup [.int x]] (Dl.sx S []) = .ok (.int x) (Dl.sx S []) := fun x h0 h1 => by
        have e := value_t hw q (n + 1) L a _ x hk.2.1 hs.2.1 (by omega) q0 S0 h0 h1
        rwa [show n + 1 + 4 * L + 1 = n + 4 * L + 2 by omega] at e
      have eb2 : ∀ x : Int, 0 ≤ x → x < ct w b → tab (n + 4 * L + 2) ._law_value [idD b, .ref q, .tup [.int x]] (Dl.sx S []) = .ok (.int x) (Dl.sx S []) := fun x h0 h1 => by
        have e := value_t hw q (n + 1) L b _ x hk.2.2 hs.2.2 (by omega) q0 S0 h0 h1
        rwa [show n + 1 + 4 * L + 1 = n + 4 * L + 2 by omega] at e
      generalize n + 4 * L = m at ca1 cb1 cb2 ca3 cb3 ea eb ea2 eb2 ⊢
      rcases hk.1 with rfl | rfl | rfl
      · rw [ct_pw_o hw hs] at v1 hk16
        have et := table_o m q (p := stD "over left" [(KT.node "/" a b).d, b.d] a.d 0 1 [idD b, idD a]) hS la ha lb hb v0 v1 hk16 ca3 cb3 (fun u hu => by
          have e := part_ol m q (cd := b.d) (bd := b.d) (g := a.d) u (S := Dl.sx S []) S0 la (by omega) v0 (by omega) (by rw [← Dl.sx_in]; exact eb u (by omega) hu) (by rw [← Dl.sx_in]; exact ca1) (fun x h0 h1 => by rw [← Dl.sx_in]; exact ea x h0 h1)
          exact e)
        rw [idD_o]
        refine Dl.sp_plain (g := b__law_value (tab (m + 4))) rfl fun Q hQ => ?_
        unfold b__law_value stD
        unfold stD at et
        rw [Dl.sx_in (S := S)] at et
        simp only [KTd_node] at et
        simp_arith [KTd_node, et]
        exact Dl.Qx (hS.wf rfl) rfl (hQ _ rfl)
      · rw [ct_pw_u hw hs] at v1 hk16
        have et := table_u m q (p := stD "under left" [a.d, (KT.node ">" a b).d] b.d 1 1 [idD a, idD b]) hS lb hb la ha v0 v1 hk16 cb3 ca3 (fun u hu => by
          have e := part_ul m q (cd := a.d) (bd := a.d) (g := b.d) u (S := Dl.sx S []) S0 lb (by omega) v0 (by omega) (by rw [← Dl.sx_in]; exact ea u (by omega) hu) (by rw [← Dl.sx_in]; exact cb1) (fun x h0 h1 => by rw [← Dl.sx_in]; exact eb x h0 h1)
          exact e)
        rw [idD_u]
        refine Dl.sp_plain (g := b__law_value (tab (m + 4))) rfl fun Q hQ => ?_
        unfold b__law_value stD
        unfold stD at et
        rw [Dl.sx_in (S := S)] at et
        simp only [KTd_node] at et
        simp_arith [KTd_node, et]
        exact Dl.Qx (hS.wf rfl) rfl (hQ _ rfl)
      · rw [ct_pw_p hs] at v1
        have e := pair_v (m + 1) q (s := "*") (ad := a.d) (bd := b.d) (ida := idD a) (idb := idD b) (g := (KT.node "*" a b).d) (cd := .tup [a.d, b.d]) (g2 := .str "*") (g3 := a.d) (S := S) hS la ha lb hb v0 v1 cb3 cb2 ea2 eb2
        exact e

end Lw

set_option Elab.async false
set_option linter.all false
set_option maxRecDepth 100000
namespace Lw
open PySem L2 Dl
variable [Fa]
local macro_rules | `(tactic| simp_arith [$ls,*]) => `(tactic| simp (disch := first | omega | assumption | (simp only [List.length_cons, List.length_nil, List.length_append, List.length_take, List.length_drop]; omega) | (simp only [List.length_cons, List.length_nil])) only [sQ_, sP_, sE_, sR_, sIf_, sN_, sA_, tgO_nx, nm_, tgIx_, eC_, eV0, eV1, e1_, e2_, eB_, eF_, aN_, aC_, eMt_, eSl_, oN_, oI_, tV_, tE_, tA_, tO_, tN_, eIf_, eAnd_, eOr_, eNot_, eCh_, seq_nx, seq_rt, seq_bk, seq_ct, seq_ex, toR_some, toR_none, toT_some, truD_bl, truD_int, truD_tup, truD_non, truD_str, truD_ref, truC_lst, tyD_str, tyD_tup, tyD_int, tyD_bl, tyD_non, tyD_ref, tyC_lst, tyC_rol, tyC_dic, kE_, kR_, kIf_t, kIf_f, kN_, kA_, kIx1_, kIx2_, kIx3_, kE1_, kE21_, kE2_, kB_, kF_, kC1_, kC_, kM1_, kM2_, kM_, kS1_, kS2_, kS3_, kO_, kV_, kT_, kAn_t, kAn_f, kOr_t, kOr_f, kNo_, kIfE_t, kIfE_f, kVa_, kVa2_t, kVa2_f, kVo_, kVo2_t, kVo2_f, kVn_, kVn2_, kH_, kH1_, kH2_t, kH2_f, kH3_, List.getElem?_cons_zero, List.getElem?_cons_succ, List.set_cons_zero, List.set_cons_succ, gAdd_int, gAdd_str, gAdd_t, gAdd_r, catC_s, gSub_int, gMul_l, gMul_r, gFdiv_int, gMod_int, gLt_int, gLe_int, gGt_int, gGe_int, gInt_int, gAbs_int, gLen_tup, gLen_str, gLen_r, lenC_s, gTpl_, gLsd_, gIx_r, ixC_s, ixO_s, gIx_t, gIx_s, ixS_s, atI_0, atI_1, atI_2, atI_3, atI_4, atI_5, gAppend_r, appC_s, gExtend_r, extC_s, gPop_r, popC_s, gSet_r, setC_0, setC_2, gTuple_r, tupC_s, gTuple_t, gList_r, gList_t, newC_s, gSl_r, slC_s, gSl_t, gSl_s, cut_take, cut_drop, cut_init, cut_mid, Int.toNat_natCast, lstC_lst, lstC_rol, lstAt_C, isi_str, isi_int, isi_bool, isi_tup, isi_lst, isO_s, isB_1, isB_2, isB_3, isB_4, isB_5, isB_6, isB_7, isB_8, isB_9, isB_10, isB_11, isB_12, isB_13, isB_14, isB_15, isB_16, isB_17, isB_18, isB_19, isB_20, isB_21, isB_22, isB_23, isB_24, isB_25, isB_26, gSum_r, sumC_s, sumO_s, gMin_, gMax_, qEq_int, qNe_int, qEq_str, qNe_str, gNeg_z, tgT_, tgU_, tgL0, tgL1, eTab_, kTab_, sX_, tgIxX_, kX1_, kX2_, kX3_, gSetX_r, setX_0, setX_2, setX_s, sPar_, kPar_, eFv_, eGetD_, kG1_, isDic_r, isDC_d, kG1b_, kG2_, kG3_, gGetD_r, getC_s, gMaxL_r, maxC_, gRep_r, repC_, eD0_, gDget_r, dgC_s, List.getElem?_concat_length, set_end, sF_, kFor_, iR1_, kR1_, iR2_, kR2_, kR3_, iA_, kAny_r, kAny_t, kAny_s, iaC_s, eLc_, kLc_, wipeD_c, wipeD_n, tYes_, put_one, sAug_, gAug_i, sBk_, sCt_, sW_, st_len, st_p, st_k, st_0, st_q, st_set_p, st_set_k, st_set_0, st_push, sx_len, sx_k, sx_0, sx_q, sx_set_k, sx_set_0, sx_push, So_rt, So_nx, So_ex, Tn_nx, Tn_ct, Tn_bk, Tn_rt, Tn_ex, Bool.false_eq_true, if_true, if_false, reduceIte, Option.map_some, Option.bind_some, Bool.not_true, Bool.not_false, decide_true, decide_false, eq_self, List.length_append, List.length_singleton, List.length_cons, List.length_nil, List.map_cons, List.map_nil, Nat.sub_self, List.replicate_zero, List.append_nil, List.cons_append, List.nil_append, List.append_assoc, List.replicate_succ, Nat.reduceSub, Nat.reduceAdd, Nat.add_zero, Nat.zero_add, Nat.add_assoc, Nat.reduceLeDiff, Int.natCast_add, Int.cast_ofNat_Int, Int.reduceEq, Int.reduceLT, Int.reduceLE, Int.reduceAdd, Int.reduceSub, Int.reduceNeg, Int.reduceToNat, List.take_succ_cons, List.take_zero, List.drop_succ_cons, List.drop_zero, List.dropLast_concat, Dl.atI_last, r_ax_or, r_ax_ur, r_ax_pr, r_ax_ol, r_ax_ul, r_ax_pl, r_ax_ct, r_or_ax, r_or_ur, r_or_pr, r_or_ol, r_or_ul, r_or_pl, r_or_ct, r_ur_ax, r_ur_or, r_ur_pr, r_ur_ol, r_ur_ul, r_ur_pl, r_ur_ct, r_pr_ax, r_pr_or, r_pr_ur, r_pr_ol, r_pr_ul, r_pr_pl, r_pr_ct, r_ol_ax, r_ol_or, r_ol_ur, r_ol_pr, r_ol_ul, r_ol_pl, r_ol_ct, r_ul_ax, r_ul_or, r_ul_ur, r_ul_pr, r_ul_ol, r_ul_pl, r_ul_ct, r_pl_ax, r_pl_or, r_pl_ur, r_pl_pr, r_pl_ol, r_pl_ul, r_pl_ct, r_ct_ax, r_ct_or, r_ct_ur, r_ct_pr, r_ct_ol, r_ct_ul, r_ct_pl, q1, q2, q3, q4, q5, q6, e1, e2, e3, gInt_bl, gIs_tn, gIs_nn, gIsN_tn, gIsN_nn, $ls,*])
local macro_rules | `(tactic| walk_at "ev") => `(tactic| simp (disch := first | omega | assumption | (simp only [List.length_cons, List.length_nil, List.length_append, List.length_take, List.length_drop]; omega) | (simp only [List.length_cons, List.length_nil])) only [sQ_, sP_, sE_, sR_, sIf_, sN_, sA_, tgO_nx, nm_, tgIx_, eC_, eV0, eV1, e1_, e2_, eB_, eF_, aN_, aC_, eMt_, eSl_, oN_, oI_, tV_, tE_, tA_, tO_, tN_, eIf_, eAnd_, eOr_, eNot_, eCh_, seq_nx, seq_rt, seq_bk, seq_ct, seq_ex, toR_some, toR_none, toT_some, truD_bl, truD_int, truD_tup, truD_non, truD_str, truD_ref, truC_lst, tyD_str, tyD_tup, tyD_int, tyD_bl, tyD_non, tyD_ref, tyC_lst, tyC_rol, tyC_dic, kE_, kR_, kIf_t, kIf_f, kN_, kA_, kIx1_, kIx2_, kIx3_, kE1_, kE21_, kE2_, kB_, kF_, kC1_, kC_, kM1_, kM2_, kM_, kS1_, kS2_, kS3_, kO_, kV_, kT_, kAn_t, kAn_f, kOr_t, kOr_f, kNo_, kIfE_t, kIfE_f, kVa_, kVa2_t, kVa2_f, kVo_, kVo2_t, kVo2_f, kVn_, kVn2_, kH_, kH1_, kH2_t, kH2_f, kH3_, List.getElem?_cons_zero, List.getElem?_cons_succ, List.set_cons_zero, List.set_cons_succ, gAdd_int, gAdd_str, gAdd_t, gAdd_r, catC_s, gSub_int, gMul_l, gMul_r, gFdiv_int, gMod_int, gLt_int, gLe_int, gGt_int, gGe_int, gInt_int, gAbs_int, gLen_tup, gLen_str, gLen_r, lenC_s, gTpl_, gLsd_, gIx_r, ixC_s, ixO_s, gIx_t, gIx_s, ixS_s, atI_0, atI_1, atI_2, atI_3, atI_4, atI_5, gAppend_r, appC_s, gExtend_r, extC_s, gPop_r, popC_s, gSet_r, setC_0, setC_2, gTuple_r, tupC_s, gTuple_t, gList_r, gList_t, newC_s, gSl_r, slC_s, gSl_t, gSl_s, cut_take, cut_drop, cut_init, cut_mid, Int.toNat_natCast, lstC_lst, lstC_rol, lstAt_C, isi_str, isi_int, isi_bool, isi_tup, isi_lst, isO_s, isB_1, isB_2, isB_3, isB_4, isB_5, isB_6, isB_7, isB_8, isB_9, isB_10, isB_11, isB_12, isB_13, isB_14, isB_15, isB_16, isB_17, isB_18, isB_19, isB_20, isB_21, isB_22, isB_23, isB_24, isB_25, isB_26, gSum_r, sumC_s, sumO_s, gMin_, gMax_, qEq_int, qNe_int, qEq_str, qNe_str, gNeg_z, tgT_, tgU_, tgL0, tgL1, eTab_, kTab_, sX_, tgIxX_, kX1_, kX2_, kX3_, gSetX_r, setX_0, setX_2, setX_s, sPar_, kPar_, eFv_, eGetD_, kG1_, isDic_r, isDC_d, kG1b_, kG2_, kG3_, gGetD_r, getC_s, gMaxL_r, maxC_, gRep_r, repC_, eD0_, gDget_r, dgC_s, List.getElem?_concat_length, set_end, sF_, kFor_, iR1_, kR1_, iR2_, kR2_, kR3_, iA_, kAny_r, kAny_t, kAny_s, iaC_s, eLc_, kLc_, wipeD_c, wipeD_n, tYes_, put_one, sAug_, gAug_i, sBk_, sCt_, sW_, st_len, st_p, st_k, st_0, st_q, st_set_p, st_set_k, st_set_0, st_push, sx_len, sx_k, sx_0, sx_q, sx_set_k, sx_set_0, sx_push, So_rt, So_nx, So_ex, Tn_nx, Tn_ct, Tn_bk, Tn_rt, Tn_ex, Bool.false_eq_true, if_true, if_false, reduceIte, Option.map_some, Option.bind_some, Bool.not_true, Bool.not_false, decide_true, decide_false, eq_self, List.length_append, List.length_singleton, List.length_cons, List.length_nil, List.map_cons, List.map_nil, Nat.sub_self, List.replicate_zero, List.append_nil, List.cons_append, List.nil_append, List.append_assoc, List.replicate_succ, Nat.reduceSub, Nat.reduceAdd, Nat.add_zero, Nat.zero_add, Nat.add_assoc, Nat.reduceLeDiff, Int.natCast_add, Int.cast_ofNat_Int, Int.reduceEq, Int.reduceLT, Int.reduceLE, Int.reduceAdd, Int.reduceSub, Int.reduceNeg, Int.reduceToNat, List.take_succ_cons, List.take_zero, List.drop_succ_cons, List.drop_zero, List.dropLast_concat, Dl.atI_last, r_ax_or, r_ax_ur, r_ax_pr, r_ax_ol, r_ax_ul, r_ax_pl, r_ax_ct, r_or_ax, r_or_ur, r_or_pr, r_or_ol, r_or_ul, r_or_pl, r_or_ct, r_ur_ax, r_ur_or, r_ur_pr, r_ur_ol, r_ur_ul, r_ur_pl, r_ur_ct, r_pr_ax, r_pr_or, r_pr_ur, r_pr_ol, r_pr_ul, r_pr_pl, r_pr_ct, r_ol_ax, r_ol_or, r_ol_ur, r_ol_pr, r_ol_ul, r_ol_pl, r_ol_ct, r_ul_ax, r_ul_or, r_ul_ur, r_ul_pr, r_ul_ol, r_ul_pl, r_ul_ct, r_pl_ax, r_pl_or, r_pl_ur, r_pl_pr, r_pl_ol, r_pl_ul, r_pl_ct, r_ct_ax, r_ct_or, r_ct_ur, r_ct_pr, r_ct_ol, r_ct_ul, r_ct_pl, q1, q2, q3, q4, q5, q6, e1, e2, e3, gInt_bl, gIs_tn, gIs_nn, gIsN_tn, gIsN_nn])
-- fa
/-! ## a comprehension over the image of a list -/
section
variable {S : Store} {ρ : Dl.Env} {g : Cg} {fe : EX} {k : Chk} {L : List Cell} {m : Nat}
theorem compA {α : Type} (ds : List α) (f val : α → D) (hz : ds.length ≤ 1000000) (hL : L[m]? = some (.lst [])) (hk : ∀ a, chkOk k (Dl.sx S (L.set m (.lst a))))
    (hv : ∀ d, (val d).flat = true) (h : ∀ d ∈ ds, ∃ ρ1, g.put (f d) ρ = some ρ1 ∧ ∀ a, flats a = true → fe ρ1 (Dl.sx S (L.set m (.lst a))) = .ok (val d) (Dl.sx S (L.set m (.lst a)))) :
    runC (S.length + m) ρ g tYesD fe k (ds.map f) (Dl.sx S L) = .ok (.ref (S.length + m)) (Dl.sx S (L.set m (.lst (ds.map val)))) := by
  have hm := (List.getElem?_eq_some_iff.mp hL).1
  have e0 : L.set m (.lst []) = L := by
    apply List.ext_getElem?
    intro i
    by_cases e : m = i
    · subst e; rw [List.getElem?_set_self hm, hL]
    · rw [List.getElem?_set_ne e]
  have len : (ds.map f).length = ds.length := List.length_map ..
  obtain ⟨acc, T, h1, h2, ⟨rfl, rfl⟩, e⟩ := compQ (l := S.length + m) (ρ := ρ) (g := g) (ft := tYesD) (fe := fe) (k := k) (fun j acc T => acc = (ds.take j).map val ∧ T = Dl.sx S (L.set m (.lst acc))) (all := ds.map f) (by rw [len]; exact hz) (fun j d acc T hd ha hT hI => by
    obtain ⟨rfl, rfl⟩ := hI
    rw [List.getElem?_map] at hd
    obtain ⟨x, hx, rfl⟩ := Option.map_eq_some_iff.mp hd
    obtain ⟨ρ1, q1, q2⟩ := h x (List.mem_of_getElem? hx)
    refine ⟨hk _, ρ1, q1, true, _, rfl, hT, (fun z => nomatch z), fun _ => ⟨_, _, q2 _ (flats_iff.mpr fun y hy => by
      obtain ⟨z, _, rfl⟩ := List.mem_map.mp hy
      exact hv z), hT, ?_, ?_⟩⟩
    · rw [List.take_succ, hx, List.map_append]
      rfl
    · rw [Dl.sx_set_k, List.set_set]) (fun acc T hI => by rw [hI.2]; exact hk _) (ds.map f) 0 [] (Dl.sx S L) rfl (Nat.zero_add _) (Nat.le_refl _) (by rw [Dl.sx_k]; exact hL) ⟨rfl, by rw [e0]⟩
  rw [e, len, List.take_length]
theorem compA0 {α : Type} (ds : List α) (f val : α → D) (hz : ds.length ≤ 1000000) (hk : ∀ a, chkOk k (Dl.sx S (.lst a :: L)))
    (hv : ∀ d, (val d).flat = true) (h : ∀ d ∈ ds, ∃ ρ1, g.put (f d) ρ = some ρ1 ∧ ∀ a, flats a = true → fe ρ1 (Dl.sx S (.lst a :: L)) = .ok (val d) (Dl.sx S (.lst a :: L))) :
    runC S.length ρ g tYesD fe k (ds.map f) (Dl.sx S (.lst [] :: L)) = .ok (.ref S.length) (Dl.sx S (.lst (ds.map val) :: L)) := compA (m := 0) (L := .lst [] :: L) ds f val hz rfl hk hv h
end
/-! ## a dict's entries -/
theorem findK_put {kvs : List (Key × D)} {k k' : Key} {d : D} : findK (putD kvs k d) k' = if k' = k then some d else findK kvs k' := by
  unfold findK putD
  by_cases h : (kvs.any fun kv => decide (kv.1 = k)) = true
  · rw [if_pos h]
    by_cases e : k' = k
    · subst e
      rw [if_pos rfl]
      induction kvs with
      | nil => cases h
      | cons a r ih =>
        by_cases z : a.1 = k'
        · simp [z]
        · simp only [List.any_cons, z, decide_false, Bool.false_or] at h
          simp only [List.map_cons, if_neg z, List.find?_cons]
          simp only [z, decide_false]
          exact ih h
    · rw [if_neg e]
      clear h
      induction kvs with
      | nil => rfl
      | cons a r ih =>
        by_cases z : a.1 = k
        · have z2 : ¬ a.1 = k' := fun y => e (y.symm.trans z)
          have z3 : ¬ k = k' := fun y => e y.symm
          simp only [List.map_cons, if_pos z, List.find?_cons]
          simp only [z2, decide_false]
          exact ih
        · simp only [List.map_cons, if_neg z, List.find?_cons]
          by_cases y : a.1 = k'
          · simp [y]
          · simp only [y, decide_false]
            exact ih
  · rw [if_neg h]
    by_cases e : k' = k
    · subst e
      rw [if_pos rfl, List.find?_append]
      have : (kvs.find? fun kv => decide (kv.1 = k')) = none := by
        rw [List.find?_eq_none]
        intro x hx hz
        exact h (List.any_eq_true.mpr ⟨x, hx, hz⟩)
      rw [this]
      simp
    · rw [if_neg e, List.find?_append]
      have z3 : ¬ k = k' := fun y => e y.symm
      simp [z3]
theorem put_len {kvs : List (Key × D)} {k : Key} {d : D} : (putD kvs k d).length ≤ kvs.length + 1 := by
  unfold putD
  split
  · rw [List.length_map]; omega
  · rw [List.length_append]; exact Nat.le_refl _
theorem put_flat {kvs : List (Key × D)} {k : Key} {d : D} (h : flats (kvs.map (·.2)) = true) (hd : d.flat = true) : flats ((putD kvs k d).map (·.2)) = true := by
  unfold putD
  split
  · rw [List.map_map]
    refine flats_iff.mpr fun x hx => ?_
    obtain ⟨y, hy, rfl⟩ := List.mem_map.mp hx
    show (if y.1 = k then (y.1, d) else y).2.flat = true
    split
    · exact hd
    · exact flats_iff.mp h _ (List.mem_map.mpr ⟨y, hy, rfl⟩)
  · rw [List.map_append]
    exact flats_app h (flats_cons hd rfl)
/-! ## a kind's parts -/
def pts : KT → List KT
  | .leaf t => [.leaf t]
  | .node s a b => pts a ++ pts b ++ [.node s a b]
theorem pts_len : ∀ k : KT, (pts k).length ≤ 2 * k.at_.length
  | .leaf t => by show 1 ≤ 2 * 1; decide
  | .node s a b => by
    have ha := pts_len a
    have hb := pts_len b
    have := KT.pos a
    show (pts a ++ pts b ++ [_]).length ≤ _
    rw [KT.len_node, List.length_append, List.length_append, List.length_singleton]
    have h1 : ∀ k : KT, (pts k).length + 1 ≤ 2 * k.at_.length := by
      intro k
      induction k with
      | leaf t => show 1 + 1 ≤ 2 * 1; decide
      | node s a b iha ihb =>
        show (pts a ++ pts b ++ [_]).length + 1 ≤ _
        rw [KT.len_node, List.length_append, List.length_append, List.length_singleton]
        omega
    have := h1 a
    have := h1 b
    omega
theorem pts_pos : ∀ k : KT, 1 ≤ (pts k).length
  | .leaf t => Nat.le_refl 1
  | .node s a b => by
    show 1 ≤ (pts a ++ pts b ++ [_]).length
    rw [List.length_append]
    exact Nat.le_add_left ..
theorem pts_self : ∀ k : KT, k ∈ pts k
  | .leaf t => List.mem_singleton.mpr rfl
  | .node s a b => List.mem_append_right _ (List.mem_singleton.mpr rfl)
theorem pts_ok : ∀ {k : KT} {L : Nat}, k.ok AtS → k.at_.length ≤ L → ∀ x ∈ pts k, x.ok AtS ∧ x.at_.length ≤ L
  | .leaf t, L, h, hl, x, hx => by rw [List.mem_singleton.mp hx]; exact ⟨h, hl⟩
  | .node s a b, L, h, hl, x, hx => by
    have hl2 := hl
    rw [KT.len_node] at hl2
    rcases List.mem_append.mp hx with hx | hx
    · rcases List.mem_append.mp hx with hx | hx
      · exact pts_ok h.2.1 (by omega) x hx
      · exact pts_ok h.2.2 (by omega) x hx
    · rw [List.mem_singleton.mp hx]; exact ⟨h, hl⟩
theorem pts_sm {w : Str → Int} : ∀ {k : KT}, (∀ x ∈ pts k, ct w x ≤ 16) → sm w k
  | .leaf t, h => h _ (pts_self _)
  | .node s a b, h => ⟨h _ (pts_self _), pts_sm fun x hx => h x (List.mem_append_left _ (List.mem_append_left _ hx)), pts_sm fun x hx => h x (List.mem_append_left _ (List.mem_append_right _ hx))⟩
theorem parts_t (n : Nat) : ∀ (L : Nat) (k : KT) (S : Store), k.ok AtS → k.at_.length ≤ L → L ≤ 100 → SOK S → Dl.Sp (tab (n + L) ._law_parts [k.d] S) fun o => o = .ok (.ref S.length) (S ++ [.lst (kds (pts k))])
  | 0, k, _, _, h, _, _ => by have := KT.pos k; omega
  | L + 1, k, S, hk, h, hL, hS => by
    refine Dl.sp_plain (g := b__law_parts (tab (n + L))) rfl fun Q hQ => ?_
    unfold b__law_parts
    cases k with
    | leaf t =>
      simp_arith [KTd_leaf]
      exact Dl.Qxl0 (hS.wf rfl) rfl (hQ _ rfl)
    | node s a b =>
      have pa := KT.pos a
      have pb := KT.pos b
      have la := pts_len a
      have lb := pts_len b
      rw [KT.len_node] at h
      have ea := parts_t n L a (Dl.sx S []) hk.2.1 (by omega) (by omega) (SOK.sx hS .nil)
      have eb := parts_t n L b (Dl.sx S [.lst (kds (pts a))]) hk.2.2 (by omega) (by omega) (SOK.sx hS (.one (c := Dl.Cell.lst _) (kds_flat _)))
      rw [Dl.sx_push] at ea eb
      rw [Dl.sx_len] at ea eb
      have z1 := kds_len (pts a)
      have z2 := kds_len (pts b)
      simp only [List.length_nil, List.length_singleton, Nat.add_zero, List.nil_append] at ea eb
      simp_arith [KTd_node, ea, eb]
      have ek : kds (pts a) ++ (kds (pts b) ++ [D.tup [D.str s, a.d, b.d]]) = kds (pts (.node s a b)) := by
        show _ = kds (pts a ++ pts b ++ [.node s a b])
        rw [kds_app, kds_app, List.append_assoc]
        rfl
      rw [ek]
      exact Dl.Qxl (k := 4) (hS.wf rfl) rfl (wfs_flat (kds_flat _)) (hQ _ rfl)
theorem intsD_map {α : Type} (f : α → Int) : ∀ xs : List α, intsD (xs.map fun x => D.int (f x)) = some (xs.map f)
  | [] => rfl
  | x :: xs => by
    show (intsD (xs.map fun x => D.int (f x))).map (f x :: ·) = _
    rw [intsD_map f xs]
    rfl
theorem maxL_ge : ∀ {xs : List Int}, ∀ x ∈ xs, x ≤ maxL xs
  | [], x, h => nomatch h
  | [a], x, h => by rw [List.mem_singleton.mp h]; exact Int.le_refl _
  | a :: b :: r, x, h => by
    show x ≤ (if maxL (b :: r) < a then a else maxL (b :: r))
    rcases List.mem_cons.mp h with rfl | h
    · split <;> omega
    · have := maxL_ge x h
      split <;> omega
/-- the largest count -/
theorem most_t {kvs : List (Key × D)} {w : Str → Int} (hw : WD kvs w) {q c : Nat} (n L : Nat) {ks : List KT} {S : Store} (hks : ∀ k ∈ ks, k.ok AtS ∧ k.at_.length ≤ L) (h1 : 1 ≤ ks.length) (h2 : ks.length ≤ 1000) (hc : S[c]? = some (.lst (kds ks))) (hq : S[q]? = some (.dic kvs)) (hS : SOK S) :
    Dl.Sp (tab (n + L + 1) ._law_most [.ref c, .ref q] S) fun o => ∃ M : Int, (M ≤ 16 → ∀ k ∈ ks, ct w k ≤ 16) ∧ (16 < M → ∃ k ∈ ks, 16 < ct w k) ∧ o = .ok (.int M) S := by
  have lc := get_lt hc
  have lq := get_lt hq
  refine Dl.sp_plain (g := b__law_most (tab (n + L))) rfl fun Q hQ => ?_
  unfold b__law_most
  have ec := compA0 (S := S) (L := []) (ρ := [some (.ref c), some (.ref q), none]) (g := .one 2) (fe := eF (tab (n + L) ._law_count) (aC (eV 2) (aC (eV 1) aN))) (k := [(c, kds ks)]) ks KT.d (fun k => .int (ct w k)) (by omega) (fun a p hp => by
    rw [List.mem_singleton.mp hp]
    show lstAt (Dl.sx S _) c = _
    unfold Dl.sx
    exact lstAt_app _ (by unfold lstAt; rw [hc])) (fun _ => rfl) (fun k hk => ⟨_, rfl, fun a ha => by
      have e := count_t hw q n L k (Dl.sx S [.lst a]) (hks k hk).1 (hks k hk).2 (by unfold Dl.sx; exact get_app hq) (SOK.sx hS (.one (c := Dl.Cell.lst _) ha))
      simp_arith [e]⟩)
  have ek : kds ks = ks.map KT.d := rfl
  rw [← ek] at ec
  have ei := intsD_map (ct w) ks
  obtain ⟨k0, kr, rfl⟩ : ∃ k0 kr, ks = k0 :: kr := by
    cases ks with
    | nil => exact absurd h1 (by decide)
    | cons a b => exact ⟨a, b, rfl⟩
  simp only [List.map_cons] at ei
  simp_arith [hc, ec, ei, gMaxL_r, maxC_]
  refine Dl.Qx (hS.wf rfl) rfl (hQ _ ⟨maxL (ct w k0 :: kr.map (ct w)), fun h k hk => ?_, fun h => ?_, rfl⟩)
  · have := maxL_ge (xs := (k0 :: kr).map (ct w)) (ct w k) (List.mem_map.mpr ⟨k, hk, rfl⟩)
    rw [List.map_cons] at this
    omega
  · have := maxL_mem (xs := (k0 :: kr).map (ct w)) (by simp)
    rw [List.map_cons] at this
    obtain ⟨k, hk, e⟩ := List.mem_map.mp (show _ ∈ (k0 :: kr).map (ct w) by rw [List.map_cons]; exact this)
    exact ⟨k, hk, by rw [e]; exact h⟩

end Lw

set_option Elab.async false
set_option linter.all false
set_option maxRecDepth 100000
namespace Lw
open PySem L2 Dl
variable [Fa]
local macro_rules | `(tactic| simp_arith [$ls,*]) => `(tactic| simp (disch := first | omega | assumption | (simp only [List.length_cons, List.length_nil, List.length_append, List.length_take, List.length_drop]; omega) | (simp only [List.length_cons, List.length_nil])) only [sQ_, sP_, sE_, sR_, sIf_, sN_, sA_, tgO_nx, nm_, tgIx_, eC_, eV0, eV1, e1_, e2_, eB_, eF_, aN_, aC_, eMt_, eSl_, oN_, oI_, tV_, tE_, tA_, tO_, tN_, eIf_, eAnd_, eOr_, eNot_, eCh_, seq_nx, seq_rt, seq_bk, seq_ct, seq_ex, toR_some, toR_none, toT_some, truD_bl, truD_int, truD_tup, truD_non, truD_str, truD_ref, truC_lst, tyD_str, tyD_tup, tyD_int, tyD_bl, tyD_non, tyD_ref, tyC_lst, tyC_rol, tyC_dic, kE_, kR_, kIf_t, kIf_f, kN_, kA_, kIx1_, kIx2_, kIx3_, kE1_, kE21_, kE2_, kB_, kF_, kC1_, kC_, kM1_, kM2_, kM_, kS1_, kS2_, kS3_, kO_, kV_, kT_, kAn_t, kAn_f, kOr_t, kOr_f, kNo_, kIfE_t, kIfE_f, kVa_, kVa2_t, kVa2_f, kVo_, kVo2_t, kVo2_f, kVn_, kVn2_, kH_, kH1_, kH2_t, kH2_f, kH3_, List.getElem?_cons_zero, List.getElem?_cons_succ, List.set_cons_zero, List.set_cons_succ, gAdd_int, gAdd_str, gAdd_t, gAdd_r, catC_s, gSub_int, gMul_l, gMul_r, gFdiv_int, gMod_int, gLt_int, gLe_int, gGt_int, gGe_int, gInt_int, gAbs_int, gLen_tup, gLen_str, gLen_r, lenC_s, gTpl_, gLsd_, gIx_r, ixC_s, ixO_s, gIx_t, gIx_s, ixS_s, atI_0, atI_1, atI_2, atI_3, atI_4, atI_5, gAppend_r, appC_s, gExtend_r, extC_s, gPop_r, popC_s, gSet_r, setC_0, setC_2, gTuple_r, tupC_s, gTuple_t, gList_r, gList_t, newC_s, gSl_r, slC_s, gSl_t, gSl_s, cut_take, cut_drop, cut_init, cut_mid, Int.toNat_natCast, lstC_lst, lstC_rol, lstAt_C, isi_str, isi_int, isi_bool, isi_tup, isi_lst, isO_s, isB_1, isB_2, isB_3, isB_4, isB_5, isB_6, isB_7, isB_8, isB_9, isB_10, isB_11, isB_12, isB_13, isB_14, isB_15, isB_16, isB_17, isB_18, isB_19, isB_20, isB_21, isB_22, isB_23, isB_24, isB_25, isB_26, gSum_r, sumC_s, sumO_s, gMin_, gMax_, qEq_int, qNe_int, qEq_str, qNe_str, gNeg_z, tgT_, tgU_, tgL0, tgL1, eTab_, kTab_, sX_, tgIxX_, kX1_, kX2_, kX3_, gSetX_r, setX_0, setX_2, setX_s, sPar_, kPar_, eFv_, eGetD_, kG1_, isDic_r, isDC_d, kG1b_, kG2_, kG3_, gGetD_r, getC_s, gMaxL_r, maxC_, gRep_r, repC_, eD0_, gDget_r, dgC_s, List.getElem?_concat_length, set_end, sF_, kFor_, iR1_, kR1_, iR2_, kR2_, kR3_, iA_, kAny_r, kAny_t, kAny_s, iaC_s, eLc_, kLc_, wipeD_c, wipeD_n, tYes_, put_one, sAug_, gAug_i, sBk_, sCt_, sW_, st_len, st_p, st_k, st_0, st_q, st_set_p, st_set_k, st_set_0, st_push, sx_len, sx_k, sx_0, sx_q, sx_set_k, sx_set_0, sx_push, So_rt, So_nx, So_ex, Tn_nx, Tn_ct, Tn_bk, Tn_rt, Tn_ex, Bool.false_eq_true, if_true, if_false, reduceIte, Option.map_some, Option.bind_some, Bool.not_true, Bool.not_false, decide_true, decide_false, eq_self, List.length_append, List.length_singleton, List.length_cons, List.length_nil, List.map_cons, List.map_nil, Nat.sub_self, List.replicate_zero, List.append_nil, List.cons_append, List.nil_append, List.append_assoc, List.replicate_succ, Nat.reduceSub, Nat.reduceAdd, Nat.add_zero, Nat.zero_add, Nat.add_assoc, Nat.reduceLeDiff, Int.natCast_add, Int.cast_ofNat_Int, Int.reduceEq, Int.reduceLT, Int.reduceLE, Int.reduceAdd, Int.reduceSub, Int.reduceNeg, Int.reduceToNat, List.take_succ_cons, List.take_zero, List.drop_succ_cons, List.drop_zero, List.dropLast_concat, Dl.atI_last, r_ax_or, r_ax_ur, r_ax_pr, r_ax_ol, r_ax_ul, r_ax_pl, r_ax_ct, r_or_ax, r_or_ur, r_or_pr, r_or_ol, r_or_ul, r_or_pl, r_or_ct, r_ur_ax, r_ur_or, r_ur_pr, r_ur_ol, r_ur_ul, r_ur_pl, r_ur_ct, r_pr_ax, r_pr_or, r_pr_ur, r_pr_ol, r_pr_ul, r_pr_pl, r_pr_ct, r_ol_ax, r_ol_or, r_ol_ur, r_ol_pr, r_ol_ul, r_ol_pl, r_ol_ct, r_ul_ax, r_ul_or, r_ul_ur, r_ul_pr, r_ul_ol, r_ul_pl, r_ul_ct, r_pl_ax, r_pl_or, r_pl_ur, r_pl_pr, r_pl_ol, r_pl_ul, r_pl_ct, r_ct_ax, r_ct_or, r_ct_ur, r_ct_pr, r_ct_ol, r_ct_ul, r_ct_pl, q1, q2, q3, q4, q5, q6, e1, e2, e3, gInt_bl, gIs_tn, gIs_nn, gIsN_tn, gIsN_nn, $ls,*])
local macro_rules | `(tactic| walk_at "ev") => `(tactic| simp (disch := first | omega | assumption | (simp only [List.length_cons, List.length_nil, List.length_append, List.length_take, List.length_drop]; omega) | (simp only [List.length_cons, List.length_nil])) only [sQ_, sP_, sE_, sR_, sIf_, sN_, sA_, tgO_nx, nm_, tgIx_, eC_, eV0, eV1, e1_, e2_, eB_, eF_, aN_, aC_, eMt_, eSl_, oN_, oI_, tV_, tE_, tA_, tO_, tN_, eIf_, eAnd_, eOr_, eNot_, eCh_, seq_nx, seq_rt, seq_bk, seq_ct, seq_ex, toR_some, toR_none, toT_some, truD_bl, truD_int, truD_tup, truD_non, truD_str, truD_ref, truC_lst, tyD_str, tyD_tup, tyD_int, tyD_bl, tyD_non, tyD_ref, tyC_lst, tyC_rol, tyC_dic, kE_, kR_, kIf_t, kIf_f, kN_, kA_, kIx1_, kIx2_, kIx3_, kE1_, kE21_, kE2_, kB_, kF_, kC1_, kC_, kM1_, kM2_, kM_, kS1_, kS2_, kS3_, kO_, kV_, kT_, kAn_t, kAn_f, kOr_t, kOr_f, kNo_, kIfE_t, kIfE_f, kVa_, kVa2_t, kVa2_f, kVo_, kVo2_t, kVo2_f, kVn_, kVn2_, kH_, kH1_, kH2_t, kH2_f, kH3_, List.getElem?_cons_zero, List.getElem?_cons_succ, List.set_cons_zero, List.set_cons_succ, gAdd_int, gAdd_str, gAdd_t, gAdd_r, catC_s, gSub_int, gMul_l, gMul_r, gFdiv_int, gMod_int, gLt_int, gLe_int, gGt_int, gGe_int, gInt_int, gAbs_int, gLen_tup, gLen_str, gLen_r, lenC_s, gTpl_, gLsd_, gIx_r, ixC_s, ixO_s, gIx_t, gIx_s, ixS_s, atI_0, atI_1, atI_2, atI_3, atI_4, atI_5, gAppend_r, appC_s, gExtend_r, extC_s, gPop_r, popC_s, gSet_r, setC_0, setC_2, gTuple_r, tupC_s, gTuple_t, gList_r, gList_t, newC_s, gSl_r, slC_s, gSl_t, gSl_s, cut_take, cut_drop, cut_init, cut_mid, Int.toNat_natCast, lstC_lst, lstC_rol, lstAt_C, isi_str, isi_int, isi_bool, isi_tup, isi_lst, isO_s, isB_1, isB_2, isB_3, isB_4, isB_5, isB_6, isB_7, isB_8, isB_9, isB_10, isB_11, isB_12, isB_13, isB_14, isB_15, isB_16, isB_17, isB_18, isB_19, isB_20, isB_21, isB_22, isB_23, isB_24, isB_25, isB_26, gSum_r, sumC_s, sumO_s, gMin_, gMax_, qEq_int, qNe_int, qEq_str, qNe_str, gNeg_z, tgT_, tgU_, tgL0, tgL1, eTab_, kTab_, sX_, tgIxX_, kX1_, kX2_, kX3_, gSetX_r, setX_0, setX_2, setX_s, sPar_, kPar_, eFv_, eGetD_, kG1_, isDic_r, isDC_d, kG1b_, kG2_, kG3_, gGetD_r, getC_s, gMaxL_r, maxC_, gRep_r, repC_, eD0_, gDget_r, dgC_s, List.getElem?_concat_length, set_end, sF_, kFor_, iR1_, kR1_, iR2_, kR2_, kR3_, iA_, kAny_r, kAny_t, kAny_s, iaC_s, eLc_, kLc_, wipeD_c, wipeD_n, tYes_, put_one, sAug_, gAug_i, sBk_, sCt_, sW_, st_len, st_p, st_k, st_0, st_q, st_set_p, st_set_k, st_set_0, st_push, sx_len, sx_k, sx_0, sx_q, sx_set_k, sx_set_0, sx_push, So_rt, So_nx, So_ex, Tn_nx, Tn_ct, Tn_bk, Tn_rt, Tn_ex, Bool.false_eq_true, if_true, if_false, reduceIte, Option.map_some, Option.bind_some, Bool.not_true, Bool.not_false, decide_true, decide_false, eq_self, List.length_append, List.length_singleton, List.length_cons, List.length_nil, List.map_cons, List.map_nil, Nat.sub_self, List.replicate_zero, List.append_nil, List.cons_append, List.nil_append, List.append_assoc, List.replicate_succ, Nat.reduceSub, Nat.reduceAdd, Nat.add_zero, Nat.zero_add, Nat.add_assoc, Nat.reduceLeDiff, Int.natCast_add, Int.cast_ofNat_Int, Int.reduceEq, Int.reduceLT, Int.reduceLE, Int.reduceAdd, Int.reduceSub, Int.reduceNeg, Int.reduceToNat, List.take_succ_cons, List.take_zero, List.drop_succ_cons, List.drop_zero, List.dropLast_concat, Dl.atI_last, r_ax_or, r_ax_ur, r_ax_pr, r_ax_ol, r_ax_ul, r_ax_pl, r_ax_ct, r_or_ax, r_or_ur, r_or_pr, r_or_ol, r_or_ul, r_or_pl, r_or_ct, r_ur_ax, r_ur_or, r_ur_pr, r_ur_ol, r_ur_ul, r_ur_pl, r_ur_ct, r_pr_ax, r_pr_or, r_pr_ur, r_pr_ol, r_pr_ul, r_pr_pl, r_pr_ct, r_ol_ax, r_ol_or, r_ol_ur, r_ol_pr, r_ol_ul, r_ol_pl, r_ol_ct, r_ul_ax, r_ul_or, r_ul_ur, r_ul_pr, r_ul_ol, r_ul_pl, r_ul_ct, r_pl_ax, r_pl_or, r_pl_ur, r_pl_pr, r_pl_ol, r_pl_ul, r_pl_ct, r_ct_ax, r_ct_or, r_ct_ur, r_ct_pr, r_ct_ol, r_ct_ul, r_ct_pl, q1, q2, q3, q4, q5, q6, e1, e2, e3, gInt_bl, gIs_tn, gIs_nn, gIsN_tn, gIsN_nn])
-- fa
theorem Qpd {T : Store} {p k : Nat} {P : List D} {L : List Cell} {Q : R D → Prop} {kvs : List (Key × D)} (hT : SWf T.length T = true) (hP : wfs T.length P = true) (hL : L[k]? = some (.dic kvs)) (hx : wfs T.length (kvs.map (·.2)) = true) (h : Q (.ok (.ref T.length) (T.set p (.lst P) ++ [.dic kvs]))) : Q (cmp T.length (.ref (T.length + k)) (Dl.st T p P L)) := by
  have e : cmp T.length (.ref (T.length + k)) (Dl.st T p P L) = .ok (.ref T.length) (T.set p (.lst P) ++ [.dic kvs]) := by
    unfold cmp
    have e : (Dl.st T p P L).take T.length = T.set p (.lst P) := List.take_left' (List.length_set ..)
    rw [e, if_pos (Dl.SWf_set (c := .lst P) hT hP), if_neg (show ¬ (D.ref (T.length + k)).wf T.length = true from fun z => by
      have z' : T.length + k < T.length := of_decide_eq_true z
      omega)]
    simp only [Dl.st_k, hL, newCell, hx, if_true]
  rw [e]
  exact h
theorem strsD_sts : ∀ xs : List Str, strsD (sts xs) = some xs
  | [] => rfl
  | x :: xs => by
    show (strsD (sts xs)).map (x :: ·) = _
    rw [strsD_sts xs]
    rfl
theorem any_mem {xs : List Str} {b : Str} : xs.any (· == b) = decide (b ∈ xs) := by
  rw [List.any_eq, decide_eq_decide]
  simp
theorem bases_t (n : Nat) {c : Nat} {ks : List KT} {S : Store} (hks : ∀ k ∈ ks, k.ok AtS) (h2 : ks.length ≤ 1000) (hc : S[c]? = some (.lst (kds ks))) (hS : SOK S) :
    Dl.Sp (tab (n + 1) ._law_bases [.ref c] S) fun o => ∃ bl : List Str, bl.length ≤ ks.length ∧ (∀ t, KT.leaf t ∈ ks → bs t ∈ bl) ∧ o = .ok (.ref S.length) (S ++ [.lst (sts bl)]) := by
  have lc := get_lt hc
  refine Dl.sp_plain (g := b__law_bases (tab n)) rfl fun Q hQ => ?_
  unfold b__law_bases
  simp_arith [hc]
  refine Dl.forQ (fun j ρ T => ∃ bl M v2, Dl.FL M ∧ bl.length ≤ j ∧ (∀ t, KT.leaf t ∈ ks.take j → bs t ∈ bl) ∧ ρ = [some (.ref c), some (.ref S.length), v2] ∧ T = Dl.sx S (.lst (sts bl) :: M)) ⟨[], [], _, .nil, Nat.le_refl _, (fun _ h => nomatch h), rfl, rfl⟩ ?_ ?_
  · rintro j d _ _ hj ⟨bl, M, v2, hM, hl, hb, rfl, rfl⟩
    have hj' : (ks.map KT.d)[j]? = some d := hj
    rw [List.getElem?_map] at hj'
    obtain ⟨k, hk, rfl⟩ := Option.map_eq_some_iff.mp hj'
    have jl := get_lt hk
    have ok := hks k (List.mem_of_getElem? hk)
    refine ⟨fun p hp => ?_, _, _, rfl, ?_⟩
    · rw [List.mem_singleton.mp hp]
      show lstAt (Dl.sx S _) c = _
      unfold Dl.sx
      exact lstAt_app _ (by unfold lstAt; rw [hc])
    · cases k with
      | leaf t =>
        obtain ⟨b, ps, hb', hs, es⟩ := split0 ok
        have e : bs t = b := by unfold bs; rw [hs]; rfl
        simp only [sts_cons] at es
        have hin := gNin_strs (S := Dl.sx S (.lst (sts bl) :: (M ++ [.lst (.str b :: sts ps)]))) (l := S.length) (t := b) (by rw [Dl.sx_0]; rfl) (strsD_sts bl)
        rw [any_mem] at hin
        have ftk : ∀ bl' : List Str, (∀ x ∈ bl, x ∈ bl') → b ∈ bl' → ∀ t', KT.leaf t' ∈ ks.take (j + 1) → bs t' ∈ bl' := fun bl' h1 h2 t' ht => by
          rw [List.take_succ, hk] at ht
          rcases List.mem_append.mp ht with ht | ht
          · exact h1 _ (hb t' ht)
          · have : KT.leaf t' = KT.leaf t := List.mem_singleton.mp ht
            cases this
            rw [e]; exact h2
        by_cases hm : b ∈ bl
        · simp_arith [KTd_leaf, es, hin, hm]
          exact ⟨bl, M ++ [.lst (.str b :: sts ps)], _, hM.app (.one (c := .lst (.str b :: sts ps)) (sts_flat (b :: ps))), by omega, ftk bl (fun _ h => h) hm, rfl, rfl⟩
        · have z := sts_len bl
          have g1 : (M ++ [Cell.lst (D.str b :: sts ps), Cell.lst (D.str b :: sts ps)])[M.length + 1]? = some (Cell.lst (D.str b :: sts ps)) := by
            rw [List.getElem?_append_right (by omega), Nat.add_sub_cancel_left]
            rfl
          simp_arith [KTd_leaf, es, hin, hm, g1]
          refine ⟨bl ++ [b], M ++ [.lst (.str b :: sts ps), .lst (.str b :: sts ps)], _, hM.app (.cons (c := .lst (.str b :: sts ps)) (sts_flat (b :: ps)) (.one (c := .lst (.str b :: sts ps)) (sts_flat (b :: ps)))), by rw [List.length_append, List.length_singleton]; omega, ftk _ (fun _ h => List.mem_append_left _ h) (List.mem_append_right _ (List.mem_singleton.mpr rfl)), rfl, ?_⟩
          rw [sts_app]
          rfl
      | node s a b =>
        simp_arith [KTd_node]
        refine ⟨bl, M, _, hM, by omega, fun t ht => ?_, rfl, rfl⟩
        rw [List.take_succ, hk] at ht
        rcases List.mem_append.mp ht with ht | ht
        · exact hb t ht
        · exact nomatch List.mem_singleton.mp ht
  · rintro _ _ ⟨bl, M, v2, hM, hl, hb, rfl, rfl⟩
    rw [kds_len] at hl hb
    rw [List.take_length] at hb
    refine ⟨fun p hp => ?_, ?_⟩
    · rw [List.mem_singleton.mp hp]
      show lstAt (Dl.sx S _) c = _
      unfold Dl.sx
      exact lstAt_app _ (by unfold lstAt; rw [hc])
    · simp_arith []
      exact Dl.Qxl0 (hS.wf rfl) (wfs_flat (sts_flat _)) (hQ _ ⟨bl, hl, hb, rfl⟩)
/-! ## worlds -/
structure WK (kvs : List (Key × D)) (w : Str → Int) (Y : List Str) : Prop where
  inn : ∀ b, b ∈ Y → findK kvs (.inr b) = some (.int (w b))
  out : ∀ b, b ∉ Y → findK kvs (.inr b) = none ∧ w b = 1
  lo : ∀ b, 1 ≤ w b
  hi : ∀ b, w b ≤ 3
  flat : flats (kvs.map (·.2)) = true
theorem WK.wd {kvs : List (Key × D)} {w : Str → Int} {Y : List Str} (h : WK kvs w Y) : WD kvs w := ⟨fun b => by
  by_cases z : b ∈ Y
  · rw [h.inn b z]; rfl
  · obtain ⟨h1, h2⟩ := h.out b z
    rw [h1, h2]; rfl, h.lo, fun b => by have := h.hi b; omega⟩
def upW (w : Str → Int) (b : Str) (z : Int) : Str → Int := fun x => if x = b then z else w x
theorem WK.put {kvs : List (Key × D)} {w : Str → Int} {Y : List Str} (h : WK kvs w Y) (b : Str) {z : Int} (h1 : 1 ≤ z) (h3 : z ≤ 3) : WK (putD kvs (.inr b) (.int z)) (upW w b z) (b :: Y) where
  inn x hx := by
    rw [findK_put]
    unfold upW
    by_cases e : x = b
    · rw [if_pos (by rw [e]), if_pos e]
    · rw [if_neg (fun y => e (Sum.inr.inj y)), if_neg e]
      exact h.inn x ((List.mem_cons.mp hx).resolve_left e)
  out x hx := by
    rw [findK_put]
    unfold upW
    have e : x ≠ b := fun y => hx (by rw [y]; exact List.mem_cons_self ..)
    rw [if_neg (fun y => e (Sum.inr.inj y)), if_neg e]
    exact h.out x fun y => hx (List.mem_cons_of_mem _ y)
  lo x := by
    unfold upW
    split
    · exact h1
    · exact h.lo x
  hi x := by
    unfold upW
    split
    · exact h3
    · exact h.hi x
  flat := put_flat h.flat rfl
theorem cpw_1 : ∀ n, cpw 1 n = 1
  | 0 => rfl
  | n + 1 => by show cap (cpw 1 n * 1) = 1; rw [cpw_1 n]; rfl
theorem one_ct {w : Str → Int} : ∀ {K : KT}, K.ok AtS → (∀ t, KT.leaf t ∈ pts K → w (bs t) = 1) → ∀ x ∈ pts K, ct w x = 1
  | .leaf t, _, h, x, hx => by rw [List.mem_singleton.mp hx]; exact h t (List.mem_singleton.mpr rfl)
  | .node s a b, hk, h, x, hx => by
    have ha := one_ct (K := a) hk.2.1 fun t ht => h t (List.mem_append_left _ (List.mem_append_left _ ht))
    have hb := one_ct (K := b) hk.2.2 fun t ht => h t (List.mem_append_left _ (List.mem_append_right _ ht))
    rcases List.mem_append.mp hx with hx | hx
    · rcases List.mem_append.mp hx with hx | hx
      · exact ha x hx
      · exact hb x hx
    · rw [List.mem_singleton.mp hx]
      have h1 := ha a (pts_self a)
      have h2 := hb b (pts_self b)
      rcases hk.1 with rfl | rfl | rfl
      · rw [ct_o, h1, h2]; exact cpw_1 _
      · rw [ct_u, h1, h2]; exact cpw_1 _
      · rw [ct_p, h1, h2]; rfl

end Lw

set_option Elab.async false
set_option linter.all false
set_option maxRecDepth 100000
namespace Lw
open PySem L2 Dl
variable [Fa]
local macro_rules | `(tactic| simp_arith [$ls,*]) => `(tactic| simp (disch := first | omega | assumption | (simp only [List.length_cons, List.length_nil, List.length_append, List.length_take, List.length_drop]; omega) | (simp only [List.length_cons, List.length_nil])) only [sQ_, sP_, sE_, sR_, sIf_, sN_, sA_, tgO_nx, nm_, tgIx_, eC_, eV0, eV1, e1_, e2_, eB_, eF_, aN_, aC_, eMt_, eSl_, oN_, oI_, tV_, tE_, tA_, tO_, tN_, eIf_, eAnd_, eOr_, eNot_, eCh_, seq_nx, seq_rt, seq_bk, seq_ct, seq_ex, toR_some, toR_none, toT_some, truD_bl, truD_int, truD_tup, truD_non, truD_str, truD_ref, truC_lst, tyD_str, tyD_tup, tyD_int, tyD_bl, tyD_non, tyD_ref, tyC_lst, tyC_rol, tyC_dic, kE_, kR_, kIf_t, kIf_f, kN_, kA_, kIx1_, kIx2_, kIx3_, kE1_, kE21_, kE2_, kB_, kF_, kC1_, kC_, kM1_, kM2_, kM_, kS1_, kS2_, kS3_, kO_, kV_, kT_, kAn_t, kAn_f, kOr_t, kOr_f, kNo_, kIfE_t, kIfE_f, kVa_, kVa2_t, kVa2_f, kVo_, kVo2_t, kVo2_f, kVn_, kVn2_, kH_, kH1_, kH2_t, kH2_f, kH3_, List.getElem?_cons_zero, List.getElem?_cons_succ, List.set_cons_zero, List.set_cons_succ, gAdd_int, gAdd_str, gAdd_t, gAdd_r, catC_s, gSub_int, gMul_l, gMul_r, gFdiv_int, gMod_int, gLt_int, gLe_int, gGt_int, gGe_int, gInt_int, gAbs_int, gLen_tup, gLen_str, gLen_r, lenC_s, gTpl_, gLsd_, gIx_r, ixC_s, ixO_s, gIx_t, gIx_s, ixS_s, atI_0, atI_1, atI_2, atI_3, atI_4, atI_5, gAppend_r, appC_s, gExtend_r, extC_s, gPop_r, popC_s, gSet_r, setC_0, setC_2, gTuple_r, tupC_s, gTuple_t, gList_r, gList_t, newC_s, gSl_r, slC_s, gSl_t, gSl_s, cut_take, cut_drop, cut_init, cut_mid, Int.toNat_natCast, lstC_lst, lstC_rol, lstAt_C, isi_str, isi_int, isi_bool, isi_tup, isi_lst, isO_s, isB_1, isB_2, isB_3, isB_4, isB_5, isB_6, isB_7, isB_8, isB_9, isB_10, isB_11, isB_12, isB_13, isB_14, isB_15, isB_16, isB_17, isB_18, isB_19, isB_20, isB_21, isB_22, isB_23, isB_24, isB_25, isB_26, gSum_r, sumC_s, sumO_s, gMin_, gMax_, qEq_int, qNe_int, qEq_str, qNe_str, gNeg_z, tgT_, tgU_, tgL0, tgL1, eTab_, kTab_, sX_, tgIxX_, kX1_, kX2_, kX3_, gSetX_r, setX_0, setX_2, setX_s, sPar_, kPar_, eFv_, eGetD_, kG1_, isDic_r, isDC_d, kG1b_, kG2_, kG3_, gGetD_r, getC_s, gMaxL_r, maxC_, gRep_r, repC_, eD0_, gDget_r, dgC_s, List.getElem?_concat_length, set_end, sF_, kFor_, iR1_, kR1_, iR2_, kR2_, kR3_, iA_, kAny_r, kAny_t, kAny_s, iaC_s, eLc_, kLc_, wipeD_c, wipeD_n, tYes_, put_one, sAug_, gAug_i, sBk_, sCt_, sW_, st_len, st_p, st_k, st_0, st_q, st_set_p, st_set_k, st_set_0, st_push, sx_len, sx_k, sx_0, sx_q, sx_set_k, sx_set_0, sx_push, So_rt, So_nx, So_ex, Tn_nx, Tn_ct, Tn_bk, Tn_rt, Tn_ex, Bool.false_eq_true, if_true, if_false, reduceIte, Option.map_some, Option.bind_some, Bool.not_true, Bool.not_false, decide_true, decide_false, eq_self, List.length_append, List.length_singleton, List.length_cons, List.length_nil, List.map_cons, List.map_nil, Nat.sub_self, List.replicate_zero, List.append_nil, List.cons_append, List.nil_append, List.append_assoc, List.replicate_succ, Nat.reduceSub, Nat.reduceAdd, Nat.add_zero, Nat.zero_add, Nat.add_assoc, Nat.reduceLeDiff, Int.natCast_add, Int.cast_ofNat_Int, Int.reduceEq, Int.reduceLT, Int.reduceLE, Int.reduceAdd, Int.reduceSub, Int.reduceNeg, Int.reduceToNat, List.take_succ_cons, List.take_zero, List.drop_succ_cons, List.drop_zero, List.dropLast_concat, Dl.atI_last, r_ax_or, r_ax_ur, r_ax_pr, r_ax_ol, r_ax_ul, r_ax_pl, r_ax_ct, r_or_ax, r_or_ur, r_or_pr, r_or_ol, r_or_ul, r_or_pl, r_or_ct, r_ur_ax, r_ur_or, r_ur_pr, r_ur_ol, r_ur_ul, r_ur_pl, r_ur_ct, r_pr_ax, r_pr_or, r_pr_ur, r_pr_ol, r_pr_ul, r_pr_pl, r_pr_ct, r_ol_ax, r_ol_or, r_ol_ur, r_ol_pr, r_ol_ul, r_ol_pl, r_ol_ct, r_ul_ax, r_ul_or, r_ul_ur, r_ul_pr, r_ul_ol, r_ul_pl, r_ul_ct, r_pl_ax, r_pl_or, r_pl_ur, r_pl_pr, r_pl_ol, r_pl_ul, r_pl_ct, r_ct_ax, r_ct_or, r_ct_ur, r_ct_pr, r_ct_ol, r_ct_ul, r_ct_pl, q1, q2, q3, q4, q5, q6, e1, e2, e3, gInt_bl, gIs_tn, gIs_nn, gIsN_tn, gIsN_nn, $ls,*])
local macro_rules | `(tactic| walk_at "ev") => `(tactic| simp (disch := first | omega | assumption | (simp only [List.length_cons, List.length_nil, List.length_append, List.length_take, List.length_drop]; omega) | (simp only [List.length_cons, List.length_nil])) only [sQ_, sP_, sE_, sR_, sIf_, sN_, sA_, tgO_nx, nm_, tgIx_, eC_, eV0, eV1, e1_, e2_, eB_, eF_, aN_, aC_, eMt_, eSl_, oN_, oI_, tV_, tE_, tA_, tO_, tN_, eIf_, eAnd_, eOr_, eNot_, eCh_, seq_nx, seq_rt, seq_bk, seq_ct, seq_ex, toR_some, toR_none, toT_some, truD_bl, truD_int, truD_tup, truD_non, truD_str, truD_ref, truC_lst, tyD_str, tyD_tup, tyD_int, tyD_bl, tyD_non, tyD_ref, tyC_lst, tyC_rol, tyC_dic, kE_, kR_, kIf_t, kIf_f, kN_, kA_, kIx1_, kIx2_, kIx3_, kE1_, kE21_, kE2_, kB_, kF_, kC1_, kC_, kM1_, kM2_, kM_, kS1_, kS2_, kS3_, kO_, kV_, kT_, kAn_t, kAn_f, kOr_t, kOr_f, kNo_, kIfE_t, kIfE_f, kVa_, kVa2_t, kVa2_f, kVo_, kVo2_t, kVo2_f, kVn_, kVn2_, kH_, kH1_, kH2_t, kH2_f, kH3_, List.getElem?_cons_zero, List.getElem?_cons_succ, List.set_cons_zero, List.set_cons_succ, gAdd_int, gAdd_str, gAdd_t, gAdd_r, catC_s, gSub_int, gMul_l, gMul_r, gFdiv_int, gMod_int, gLt_int, gLe_int, gGt_int, gGe_int, gInt_int, gAbs_int, gLen_tup, gLen_str, gLen_r, lenC_s, gTpl_, gLsd_, gIx_r, ixC_s, ixO_s, gIx_t, gIx_s, ixS_s, atI_0, atI_1, atI_2, atI_3, atI_4, atI_5, gAppend_r, appC_s, gExtend_r, extC_s, gPop_r, popC_s, gSet_r, setC_0, setC_2, gTuple_r, tupC_s, gTuple_t, gList_r, gList_t, newC_s, gSl_r, slC_s, gSl_t, gSl_s, cut_take, cut_drop, cut_init, cut_mid, Int.toNat_natCast, lstC_lst, lstC_rol, lstAt_C, isi_str, isi_int, isi_bool, isi_tup, isi_lst, isO_s, isB_1, isB_2, isB_3, isB_4, isB_5, isB_6, isB_7, isB_8, isB_9, isB_10, isB_11, isB_12, isB_13, isB_14, isB_15, isB_16, isB_17, isB_18, isB_19, isB_20, isB_21, isB_22, isB_23, isB_24, isB_25, isB_26, gSum_r, sumC_s, sumO_s, gMin_, gMax_, qEq_int, qNe_int, qEq_str, qNe_str, gNeg_z, tgT_, tgU_, tgL0, tgL1, eTab_, kTab_, sX_, tgIxX_, kX1_, kX2_, kX3_, gSetX_r, setX_0, setX_2, setX_s, sPar_, kPar_, eFv_, eGetD_, kG1_, isDic_r, isDC_d, kG1b_, kG2_, kG3_, gGetD_r, getC_s, gMaxL_r, maxC_, gRep_r, repC_, eD0_, gDget_r, dgC_s, List.getElem?_concat_length, set_end, sF_, kFor_, iR1_, kR1_, iR2_, kR2_, kR3_, iA_, kAny_r, kAny_t, kAny_s, iaC_s, eLc_, kLc_, wipeD_c, wipeD_n, tYes_, put_one, sAug_, gAug_i, sBk_, sCt_, sW_, st_len, st_p, st_k, st_0, st_q, st_set_p, st_set_k, st_set_0, st_push, sx_len, sx_k, sx_0, sx_q, sx_set_k, sx_set_0, sx_push, So_rt, So_nx, So_ex, Tn_nx, Tn_ct, Tn_bk, Tn_rt, Tn_ex, Bool.false_eq_true, if_true, if_false, reduceIte, Option.map_some, Option.bind_some, Bool.not_true, Bool.not_false, decide_true, decide_false, eq_self, List.length_append, List.length_singleton, List.length_cons, List.length_nil, List.map_cons, List.map_nil, Nat.sub_self, List.replicate_zero, List.append_nil, List.cons_append, List.nil_append, List.append_assoc, List.replicate_succ, Nat.reduceSub, Nat.reduceAdd, Nat.add_zero, Nat.zero_add, Nat.add_assoc, Nat.reduceLeDiff, Int.natCast_add, Int.cast_ofNat_Int, Int.reduceEq, Int.reduceLT, Int.reduceLE, Int.reduceAdd, Int.reduceSub, Int.reduceNeg, Int.reduceToNat, List.take_succ_cons, List.take_zero, List.drop_succ_cons, List.drop_zero, List.dropLast_concat, Dl.atI_last, r_ax_or, r_ax_ur, r_ax_pr, r_ax_ol, r_ax_ul, r_ax_pl, r_ax_ct, r_or_ax, r_or_ur, r_or_pr, r_or_ol, r_or_ul, r_or_pl, r_or_ct, r_ur_ax, r_ur_or, r_ur_pr, r_ur_ol, r_ur_ul, r_ur_pl, r_ur_ct, r_pr_ax, r_pr_or, r_pr_ur, r_pr_ol, r_pr_ul, r_pr_pl, r_pr_ct, r_ol_ax, r_ol_or, r_ol_ur, r_ol_pr, r_ol_ul, r_ol_pl, r_ol_ct, r_ul_ax, r_ul_or, r_ul_ur, r_ul_pr, r_ul_ol, r_ul_pl, r_ul_ct, r_pl_ax, r_pl_or, r_pl_ur, r_pl_pr, r_pl_ol, r_pl_ul, r_pl_ct, r_ct_ax, r_ct_or, r_ct_ur, r_ct_pr, r_ct_ol, r_ct_ul, r_ct_pl, q1, q2, q3, q4, q5, q6, e1, e2, e3, gInt_bl, gIs_tn, gIs_nn, gIsN_tn, gIsN_nn])
-- fa
theorem max_fold (x : Int) : (if 1 < x then x else 1) = max 1 x := by omega
theorem world_t (n L : Nat) {N p c : Nat} {K : KT} {T : Store} {P : List D} (h : T[p]? = some (.lst P)) (hc : T[c]? = some (.lst (kds (pts K)))) (hcp : c ≠ p) (hp : Pool N P) (hN : N + 3000 ≤ 1000000) (hT : SOK T) (hK : K.ok AtS) (hl : K.at_.length ≤ L) (hL : L ≤ 100) :
    Dl.Sp (tab (n + L + 3) ._law_world [.ref p, .ref c, .int 16] T) fun r => ∃ kvs w P', WD kvs w ∧ sm w K ∧ flats (kvs.map (·.2)) = true ∧ Pool (N + 2000) P' ∧ r = .ok (.ref T.length) (T.set p (.lst P') ++ [.dic kvs]) := by
  have lp2 := pts_len K
  have lp1 := pts_pos K
  have hks := pts_ok hK hl
  refine Dl.sp_pool (g := b__law_world (tab (n + L + 2))) rfl h fun lp Q hQ => ?_
  unfold b__law_world
  have lc := get_lt hc
  have hc2 : ∀ P' M, (Dl.st T p P' M)[c]? = some (.lst (kds (pts K))) := fun P' M => by rw [Dl.st_q lc hcp]; exact hc
  have F0 : SOK (Dl.st T p P []) := SOK.st hT hp.flat .nil
  obtain ⟨bl, hbl, hb, eb⟩ := bases_t (n + L + 1) (fun k hk => (hks k hk).1) (by omega) (hc2 P []) F0
  rw [Dl.st_push, Dl.st_len] at eb
  simp only [List.length_nil, Nat.add_zero, List.nil_append] at eb
  rw [show n + L + 1 + 1 = n + (L + 2) by omega] at eb
  have zb := sts_len bl
  simp_arith [eb]
  refine Dl.forQ (fun j ρ S => ∃ P1 kvs w Y v5, Pool (N + j) P1 ∧ WK kvs w Y ∧ kvs.length ≤ j ∧ (∀ b, b ∈ Y ↔ b ∈ bl.take j) ∧ ρ = [some (.ref p), some (.ref c), some (.int 16), some (.ref T.length), some (.ref (T.length + 1)), v5, none] ∧ S = Dl.st T p P1 [.lst (sts bl), .dic kvs])
    ⟨P, [], fun _ => 1, [], none, hp, ⟨(fun b hb => nomatch hb), (fun b _ => ⟨rfl, rfl⟩), (fun b => Int.le_refl 1), (fun b => by show (1 : Int) ≤ 3; decide), rfl⟩, Nat.le_refl _, fun b => by simp, rfl, rfl⟩ ?_ ?_
  · rintro j d _ _ hj ⟨P1, kvs, w, Y, v5, hp1, hw, hkl, hY, rfl, rfl⟩
    have hj' : (bl.map D.str)[j]? = some d := hj
    rw [List.getElem?_map] at hj'
    obtain ⟨b, hbj, rfl⟩ := Option.map_eq_some_iff.mp hj'
    have jl := get_lt hbj
    refine ⟨fun p' hp' => ?_, _, _, rfl, ?_⟩
    · rw [List.mem_singleton.mp hp']
      show lstAt (Dl.st T p _ _) T.length = _
      unfold lstAt
      rw [Dl.st_0]
      rfl
    · obtain ⟨d1, P2, hp2, a1, b1, e1⟩ := draw_t (n + L) (many := 3) (Dl.st_p (L := [.lst (sts bl), .dic kvs]) lp) hp1 (by omega) (by decide) (by decide)
      rw [show n + L + 2 = n + (L + 2) by omega] at e1
      have kz : kvs.length < 16777216 := by omega
      simp_arith [e1]
      refine ⟨P2, _, _, _, _, hp2, hw.put b (z := 1 + d1) (by omega) (by omega), by have := put_len (kvs := kvs) (k := .inr b) (d := .int (1 + d1)); omega, fun x => ?_, rfl, rfl⟩
      rw [List.take_succ, hbj]
      simp only [List.mem_cons, List.mem_append, Option.toList_some, List.not_mem_nil, or_false, hY]
      exact Or.comm
  · rintro _ _ ⟨P1, kvs, w, Y, v5, hp1, hw, hkl, hY, rfl, rfl⟩
    rw [zb] at hkl hp1 hY
    rw [List.take_length] at hY
    refine ⟨fun p' hp' => ?_, ?_⟩
    · rw [List.mem_singleton.mp hp']
      show lstAt (Dl.st T p _ _) T.length = _
      unfold lstAt
      rw [Dl.st_0]
      rfl
    simp_arith []
    have z2 : (sts bl ++ sts bl).length = bl.length + bl.length := by rw [List.length_append, zb]
    have e2 : sts bl ++ sts bl = sts (bl ++ bl) := (sts_app _ _).symm
    rw [e2]
    refine Dl.forQ (fun j ρ S => ∃ kvs w Y v5, WK kvs w Y ∧ kvs.length ≤ bl.length + j ∧ (∀ b, b ∈ Y ↔ b ∈ bl) ∧ ((∀ k ∈ pts K, ct w k ≤ 16) ∨ ∀ b, w b ≤ 1 ∨ w b + ((bl ++ bl).take j).count b ≤ 3) ∧ ρ = [some (.ref p), some (.ref c), some (.int 16), some (.ref T.length), some (.ref (T.length + 1)), v5, none] ∧ S = Dl.st T p P1 [.lst (sts bl), .dic kvs, .lst (sts (bl ++ bl))])
      ⟨kvs, w, Y, _, hw, by omega, hY, .inr fun b => .inr (by simpa using hw.hi b), rfl, rfl⟩ ?_ ?_
    · rintro j d _ _ hj ⟨kvs, w, Y, v5, hw, hkl, hY, hor, rfl, rfl⟩
      have hj' : ((bl ++ bl).map D.str)[j]? = some d := hj
      rw [List.getElem?_map] at hj'
      obtain ⟨b, hbj, rfl⟩ := Option.map_eq_some_iff.mp hj'
      have jl := get_lt hbj
      rw [List.length_append] at jl
      have hbm : b ∈ bl := by
        have := List.mem_of_getElem? hbj
        rcases List.mem_append.mp this with z | z <;> exact z
      refine ⟨fun p' hp' => ?_, _, _, rfl, ?_⟩
      · rw [List.mem_singleton.mp hp']
        show lstAt (Dl.st T p _ _) (T.length + 2) = _
        unfold lstAt
        rw [Dl.st_k]
        rfl
      · obtain ⟨M, hM1, hM2, eM⟩ := most_t hw.wd (c := c) (q := T.length + 1) (n + 1) L hks lp1 (by omega) (hc2 P1 [.lst (sts bl), .dic kvs, .lst (sts (bl ++ bl))]) (by rw [Dl.st_k]; rfl) (SOK.st hT hp1.flat (.cons (c := Dl.Cell.lst _) (sts_flat _) (.cons (c := Dl.Cell.dic _) hw.flat (.one (c := Dl.Cell.lst _) (sts_flat _)))))
        rw [show n + 1 + L + 1 = n + (L + 2) by omega] at eM
        have hg := hw.inn b ((hY b).mpr hbm)
        have kz : kvs.length < 16777216 := by omega
        have w1 := hw.lo b
        have w3 := hw.hi b
        by_cases hgt : 16 < M
        · simp_arith [eM, hgt, hg]
          have hr : ∀ b, w b ≤ 1 ∨ w b + ((bl ++ bl).take j).count b ≤ 3 := by
            rcases hor with hs | hr
            · obtain ⟨k, hk, h16⟩ := hM2 hgt
              have := hs k hk
              omega
            · exact hr
          refine ⟨_, _, _, _, hw.put b (z := if w b - 1 > 1 then w b - 1 else 1) (by split <;> omega) (by split <;> omega), by have := put_len (kvs := kvs) (k := .inr b) (d := .int (if w b - 1 > 1 then w b - 1 else 1)); omega, fun x => ?_, .inr fun x => ?_, rfl, rfl⟩
          · rw [List.mem_cons, hY]
            exact ⟨fun z => z.elim (fun z => by rw [z]; exact hbm) id, .inr⟩
          · have hx := hr x
            rw [List.take_succ, hbj, List.count_append]
            unfold upW
            by_cases e : x = b
            · subst e
              rw [if_pos rfl]
              have c1 : (Option.toList (some x)).count x = 1 := by show [x].count x = 1; simp
              rw [c1]
              split <;> omega
            · rw [if_neg e]
              have c0 : (Option.toList (some b)).count x = 0 := by
                show [b].count x = 0
                rw [List.count_eq_zero]
                intro z
                exact e (List.mem_singleton.mp z)
              rw [c0]
              exact hx
        · simp_arith [eM, hgt]
          exact ⟨kvs, w, Y, _, hw, by omega, hY, .inl (hM1 (by omega)), rfl, rfl⟩
    · rintro _ _ ⟨kvs, w, Y, v5, hw, hkl, hY, hor, rfl, rfl⟩
      have z3 : (sts (bl ++ bl)).length = bl.length + bl.length := by rw [sts_len, List.length_append]
      rw [z3] at hkl
      have hsm : sm w K := by
        refine pts_sm ?_
        rcases hor with hs | hr
        · exact hs
        · rw [z3, ← List.length_append, List.take_length] at hr
          have h1 : ∀ t, KT.leaf t ∈ pts K → w (bs t) = 1 := fun t ht => by
            have hm := hb t ht
            have c1 : 1 ≤ bl.count (bs t) := List.count_pos_iff.mpr hm
            have c2 := hr (bs t)
            rw [List.count_append] at c2
            have := hw.lo (bs t)
            omega
          intro x hx
          rw [one_ct hK h1 x hx]
          decide
      refine ⟨fun p' hp' => ?_, ?_⟩
      · rw [List.mem_singleton.mp hp']
        show lstAt (Dl.st T p _ _) (T.length + 2) = _
        unfold lstAt
        rw [Dl.st_k]
        rfl
      simp_arith []
      refine Dl.forQ (fun j ρ S => ∃ P2 mk v5, Pool (N + 1000 + j) P2 ∧ (∀ b, findK mk (.inr b) = some (.int (w b)) ∨ (findK mk (.inr b) = none ∧ (w b = 1 ∨ b ∈ bl.drop j))) ∧ flats (mk.map (·.2)) = true ∧ mk.length ≤ j ∧ ρ = [some (.ref p), some (.ref c), some (.int 16), some (.ref T.length), some (.ref (T.length + 1)), v5, some (.ref (T.length + 3))] ∧ S = Dl.st T p P2 [.lst (sts bl), .dic kvs, .lst (sts (bl ++ bl)), .dic mk])
        ⟨P1, [], _, hp1.mono (by omega), (fun b => .inr ⟨rfl, by
          by_cases z : b ∈ bl
          · exact .inr z
          · exact .inl (hw.out b fun y => z ((hY b).mp y)).2⟩), rfl, Nat.le_refl _, rfl, rfl⟩ ?_ ?_
      · rintro j d _ _ hj ⟨P2, mk, v5, hp2, hmk, hmf, hml, rfl, rfl⟩
        have hj' : (bl.map D.str)[j]? = some d := hj
        rw [List.getElem?_map] at hj'
        obtain ⟨b, hbj, rfl⟩ := Option.map_eq_some_iff.mp hj'
        have jl := get_lt hbj
        have hdr : ∀ x, x ∈ bl.drop j → x = b ∨ x ∈ bl.drop (j + 1) := fun x hx => by
          have : bl.drop j = b :: bl.drop (j + 1) := by
            rw [List.getElem?_eq_getElem jl] at hbj
            rw [List.drop_eq_getElem_cons jl, Option.some.inj hbj]
          rw [this] at hx
          exact List.mem_cons.mp hx
        have hg := hw.inn b ((hY b).mpr (List.mem_of_getElem? hbj))
        have w1 := hw.lo b
        have kz : mk.length < 16777216 := by omega
        have putm : ∀ x, findK (putD mk (.inr b) (.int (w b))) (.inr x) = some (.int (w x)) ∨ (findK (putD mk (.inr b) (.int (w b))) (.inr x) = none ∧ (w x = 1 ∨ x ∈ bl.drop (j + 1))) := fun x => by
          rw [findK_put]
          by_cases e : x = b
          · rw [if_pos (by rw [e]), e]; exact .inl rfl
          · rw [if_neg (fun y => e (Sum.inr.inj y))]
            rcases hmk x with h | ⟨h1, h2⟩
            · exact .inl h
            · refine .inr ⟨h1, h2.imp id fun h => ?_⟩
              exact (hdr x h).resolve_left e
        have putl := put_len (kvs := mk) (k := .inr b) (d := .int (w b))
        refine ⟨fun p' hp' => ?_, _, _, rfl, ?_⟩
        · rw [List.mem_singleton.mp hp']
          show lstAt (Dl.st T p _ _) T.length = _
          unfold lstAt
          rw [Dl.st_0]
          rfl
        by_cases hgt : 1 < w b
        · simp_arith [hgt, hg]
          exact ⟨P2, _, _, hp2.mono (by omega), putm, put_flat hmf rfl, by omega, rfl, rfl⟩
        · obtain ⟨d1, P3, hp3, a1, b1, e1⟩ := draw_t (n + L) (many := 2) (Dl.st_p (L := [.lst (sts bl), .dic kvs, .lst (sts (bl ++ bl)), .dic mk]) lp) hp2 (by omega) (by decide) (by decide)
          rw [show n + L + 2 = n + (L + 2) by omega] at e1
          by_cases h1 : d1 = 1
          · simp_arith [hgt, hg, e1, h1]
            exact ⟨P3, _, _, hp3.mono (by omega), putm, put_flat hmf rfl, by omega, rfl, rfl⟩
          · simp_arith [hgt, hg, e1, h1]
            refine ⟨P3, mk, _, hp3.mono (by omega), fun x => ?_, hmf, by omega, rfl, rfl⟩
            rcases hmk x with h | ⟨h1, h2⟩
            · exact .inl h
            · refine .inr ⟨h1, ?_⟩
              rcases h2 with h2 | h2
              · exact .inl h2
              · rcases hdr x h2 with rfl | h3
                · exact .inl (by omega)
                · exact .inr h3
      · rintro _ _ ⟨P2, mk, v5, hp2, hmk, hmf, hml, rfl, rfl⟩
        rw [zb] at hp2 hmk hml
        refine ⟨fun p' hp' => ?_, ?_⟩
        · rw [List.mem_singleton.mp hp']
          show lstAt (Dl.st T p _ _) T.length = _
          unfold lstAt
          rw [Dl.st_0]
          rfl
        simp_arith []
        refine Qpd (k := 3) (hT.wf rfl) (wfs_flat hp2.flat) rfl (wfs_flat hmf) (hQ _ ⟨mk, w, P2, ⟨fun b => ?_, hw.lo, fun b => by have := hw.hi b; omega⟩, hsm, hmf, hp2.mono (by omega), rfl⟩)
        rcases hmk b with h | ⟨h1, h2⟩
        · rw [h]; rfl
        · rw [h1]
          rw [List.drop_length] at h2
          rw [h2.resolve_right (fun z => nomatch z)]
          rfl

end Lw

set_option Elab.async false
set_option linter.all false
set_option maxRecDepth 100000
namespace Lw
open PySem L2 Dl
variable [Fa]
local macro_rules | `(tactic| simp_arith [$ls,*]) => `(tactic| simp (disch := first | omega | assumption | (simp only [List.length_cons, List.length_nil, List.length_append, List.length_take, List.length_drop]; omega) | (simp only [List.length_cons, List.length_nil])) only [sQ_, sP_, sE_, sR_, sIf_, sN_, sA_, tgO_nx, nm_, tgIx_, eC_, eV0, eV1, e1_, e2_, eB_, eF_, aN_, aC_, eMt_, eSl_, oN_, oI_, tV_, tE_, tA_, tO_, tN_, eIf_, eAnd_, eOr_, eNot_, eCh_, seq_nx, seq_rt, seq_bk, seq_ct, seq_ex, toR_some, toR_none, toT_some, truD_bl, truD_int, truD_tup, truD_non, truD_str, truD_ref, truC_lst, tyD_str, tyD_tup, tyD_int, tyD_bl, tyD_non, tyD_ref, tyC_lst, tyC_rol, tyC_dic, kE_, kR_, kIf_t, kIf_f, kN_, kA_, kIx1_, kIx2_, kIx3_, kE1_, kE21_, kE2_, kB_, kF_, kC1_, kC_, kM1_, kM2_, kM_, kS1_, kS2_, kS3_, kO_, kV_, kT_, kAn_t, kAn_f, kOr_t, kOr_f, kNo_, kIfE_t, kIfE_f, kVa_, kVa2_t, kVa2_f, kVo_, kVo2_t, kVo2_f, kVn_, kVn2_, kH_, kH1_, kH2_t, kH2_f, kH3_, List.getElem?_cons_zero, List.getElem?_cons_succ, List.set_cons_zero, List.set_cons_succ, gAdd_int, gAdd_str, gAdd_t, gAdd_r, catC_s, gSub_int, gMul_l, gMul_r, gFdiv_int, gMod_int, gLt_int, gLe_int, gGt_int, gGe_int, gInt_int, gAbs_int, gLen_tup, gLen_str, gLen_r, lenC_s, gTpl_, gLsd_, gIx_r, ixC_s, ixO_s, gIx_t, gIx_s, ixS_s, atI_0, atI_1, atI_2, atI_3, atI_4, atI_5, gAppend_r, appC_s, gExtend_r, extC_s, gPop_r, popC_s, gSet_r, setC_0, setC_2, gTuple_r, tupC_s, gTuple_t, gList_r, gList_t, newC_s, gSl_r, slC_s, gSl_t, gSl_s, cut_take, cut_drop, cut_init, cut_mid, Int.toNat_natCast, lstC_lst, lstC_rol, lstAt_C, isi_str, isi_int, isi_bool, isi_tup, isi_lst, isO_s, isB_1, isB_2, isB_3, isB_4, isB_5, isB_6, isB_7, isB_8, isB_9, isB_10, isB_11, isB_12, isB_13, isB_14, isB_15, isB_16, isB_17, isB_18, isB_19, isB_20, isB_21, isB_22, isB_23, isB_24, isB_25, isB_26, gSum_r, sumC_s, sumO_s, gMin_, gMax_, qEq_int, qNe_int, qEq_str, qNe_str, gNeg_z, tgT_, tgU_, tgL0, tgL1, eTab_, kTab_, sX_, tgIxX_, kX1_, kX2_, kX3_, gSetX_r, setX_0, setX_2, setX_s, sPar_, kPar_, eFv_, eGetD_, kG1_, isDic_r, isDC_d, kG1b_, kG2_, kG3_, gGetD_r, getC_s, gMaxL_r, maxC_, gRep_r, repC_, eD0_, gDget_r, dgC_s, List.getElem?_concat_length, set_end, sF_, kFor_, iR1_, kR1_, iR2_, kR2_, kR3_, iA_, kAny_r, kAny_t, kAny_s, iaC_s, eLc_, kLc_, wipeD_c, wipeD_n, tYes_, put_one, sAug_, gAug_i, sBk_, sCt_, sW_, st_len, st_p, st_k, st_0, st_q, st_set_p, st_set_k, st_set_0, st_push, sx_len, sx_k, sx_0, sx_q, sx_set_k, sx_set_0, sx_push, So_rt, So_nx, So_ex, Tn_nx, Tn_ct, Tn_bk, Tn_rt, Tn_ex, Bool.false_eq_true, if_true, if_false, reduceIte, Option.map_some, Option.bind_some, Bool.not_true, Bool.not_false, decide_true, decide_false, eq_self, List.length_append, List.length_singleton, List.length_cons, List.length_nil, List.map_cons, List.map_nil, Nat.sub_self, List.replicate_zero, List.append_nil, List.cons_append, List.nil_append, List.append_assoc, List.replicate_succ, Nat.reduceSub, Nat.reduceAdd, Nat.add_zero, Nat.zero_add, Nat.add_assoc, Nat.reduceLeDiff, Int.natCast_add, Int.cast_ofNat_Int, Int.reduceEq, Int.reduceLT, Int.reduceLE, Int.reduceAdd, Int.reduceSub, Int.reduceNeg, Int.reduceToNat, List.take_succ_cons, List.take_zero, List.drop_succ_cons, List.drop_zero, List.dropLast_concat, Dl.atI_last, r_ax_or, r_ax_ur, r_ax_pr, r_ax_ol, r_ax_ul, r_ax_pl, r_ax_ct, r_or_ax, r_or_ur, r_or_pr, r_or_ol, r_or_ul, r_or_pl, r_or_ct, r_ur_ax, r_ur_or, r_ur_pr, r_ur_ol, r_ur_ul, r_ur_pl, r_ur_ct, r_pr_ax, r_pr_or, r_pr_ur, r_pr_ol, r_pr_ul, r_pr_pl, r_pr_ct, r_ol_ax, r_ol_or, r_ol_ur, r_ol_pr, r_ol_ul, r_ol_pl, r_ol_ct, r_ul_ax, r_ul_or, r_ul_ur, r_ul_pr, r_ul_ol, r_ul_pl, r_ul_ct, r_pl_ax, r_pl_or, r_pl_ur, r_pl_pr, r_pl_ol, r_pl_ul, r_pl_ct, r_ct_ax, r_ct_or, r_ct_ur, r_ct_pr, r_ct_ol, r_ct_ul, r_ct_pl, q1, q2, q3, q4, q5, q6, e1, e2, e3, gInt_bl, gIs_tn, gIs_nn, gIsN_tn, gIsN_nn, $ls,*])
local macro_rules | `(tactic| walk_at "ev") => `(tactic| simp (disch := first | omega | assumption | (simp only [List.length_cons, List.length_nil, List.length_append, List.length_take, List.length_drop]; omega) | (simp only [List.length_cons, List.length_nil])) only [sQ_, sP_, sE_, sR_, sIf_, sN_, sA_, tgO_nx, nm_, tgIx_, eC_, eV0, eV1, e1_, e2_, eB_, eF_, aN_, aC_, eMt_, eSl_, oN_, oI_, tV_, tE_, tA_, tO_, tN_, eIf_, eAnd_, eOr_, eNot_, eCh_, seq_nx, seq_rt, seq_bk, seq_ct, seq_ex, toR_some, toR_none, toT_some, truD_bl, truD_int, truD_tup, truD_non, truD_str, truD_ref, truC_lst, tyD_str, tyD_tup, tyD_int, tyD_bl, tyD_non, tyD_ref, tyC_lst, tyC_rol, tyC_dic, kE_, kR_, kIf_t, kIf_f, kN_, kA_, kIx1_, kIx2_, kIx3_, kE1_, kE21_, kE2_, kB_, kF_, kC1_, kC_, kM1_, kM2_, kM_, kS1_, kS2_, kS3_, kO_, kV_, kT_, kAn_t, kAn_f, kOr_t, kOr_f, kNo_, kIfE_t, kIfE_f, kVa_, kVa2_t, kVa2_f, kVo_, kVo2_t, kVo2_f, kVn_, kVn2_, kH_, kH1_, kH2_t, kH2_f, kH3_, List.getElem?_cons_zero, List.getElem?_cons_succ, List.set_cons_zero, List.set_cons_succ, gAdd_int, gAdd_str, gAdd_t, gAdd_r, catC_s, gSub_int, gMul_l, gMul_r, gFdiv_int, gMod_int, gLt_int, gLe_int, gGt_int, gGe_int, gInt_int, gAbs_int, gLen_tup, gLen_str, gLen_r, lenC_s, gTpl_, gLsd_, gIx_r, ixC_s, ixO_s, gIx_t, gIx_s, ixS_s, atI_0, atI_1, atI_2, atI_3, atI_4, atI_5, gAppend_r, appC_s, gExtend_r, extC_s, gPop_r, popC_s, gSet_r, setC_0, setC_2, gTuple_r, tupC_s, gTuple_t, gList_r, gList_t, newC_s, gSl_r, slC_s, gSl_t, gSl_s, cut_take, cut_drop, cut_init, cut_mid, Int.toNat_natCast, lstC_lst, lstC_rol, lstAt_C, isi_str, isi_int, isi_bool, isi_tup, isi_lst, isO_s, isB_1, isB_2, isB_3, isB_4, isB_5, isB_6, isB_7, isB_8, isB_9, isB_10, isB_11, isB_12, isB_13, isB_14, isB_15, isB_16, isB_17, isB_18, isB_19, isB_20, isB_21, isB_22, isB_23, isB_24, isB_25, isB_26, gSum_r, sumC_s, sumO_s, gMin_, gMax_, qEq_int, qNe_int, qEq_str, qNe_str, gNeg_z, tgT_, tgU_, tgL0, tgL1, eTab_, kTab_, sX_, tgIxX_, kX1_, kX2_, kX3_, gSetX_r, setX_0, setX_2, setX_s, sPar_, kPar_, eFv_, eGetD_, kG1_, isDic_r, isDC_d, kG1b_, kG2_, kG3_, gGetD_r, getC_s, gMaxL_r, maxC_, gRep_r, repC_, eD0_, gDget_r, dgC_s, List.getElem?_concat_length, set_end, sF_, kFor_, iR1_, kR1_, iR2_, kR2_, kR3_, iA_, kAny_r, kAny_t, kAny_s, iaC_s, eLc_, kLc_, wipeD_c, wipeD_n, tYes_, put_one, sAug_, gAug_i, sBk_, sCt_, sW_, st_len, st_p, st_k, st_0, st_q, st_set_p, st_set_k, st_set_0, st_push, sx_len, sx_k, sx_0, sx_q, sx_set_k, sx_set_0, sx_push, So_rt, So_nx, So_ex, Tn_nx, Tn_ct, Tn_bk, Tn_rt, Tn_ex, Bool.false_eq_true, if_true, if_false, reduceIte, Option.map_some, Option.bind_some, Bool.not_true, Bool.not_false, decide_true, decide_false, eq_self, List.length_append, List.length_singleton, List.length_cons, List.length_nil, List.map_cons, List.map_nil, Nat.sub_self, List.replicate_zero, List.append_nil, List.cons_append, List.nil_append, List.append_assoc, List.replicate_succ, Nat.reduceSub, Nat.reduceAdd, Nat.add_zero, Nat.zero_add, Nat.add_assoc, Nat.reduceLeDiff, Int.natCast_add, Int.cast_ofNat_Int, Int.reduceEq, Int.reduceLT, Int.reduceLE, Int.reduceAdd, Int.reduceSub, Int.reduceNeg, Int.reduceToNat, List.take_succ_cons, List.take_zero, List.drop_succ_cons, List.drop_zero, List.dropLast_concat, Dl.atI_last, r_ax_or, r_ax_ur, r_ax_pr, r_ax_ol, r_ax_ul, r_ax_pl, r_ax_ct, r_or_ax, r_or_ur, r_or_pr, r_or_ol, r_or_ul, r_or_pl, r_or_ct, r_ur_ax, r_ur_or, r_ur_pr, r_ur_ol, r_ur_ul, r_ur_pl, r_ur_ct, r_pr_ax, r_pr_or, r_pr_ur, r_pr_ol, r_pr_ul, r_pr_pl, r_pr_ct, r_ol_ax, r_ol_or, r_ol_ur, r_ol_pr, r_ol_ul, r_ol_pl, r_ol_ct, r_ul_ax, r_ul_or, r_ul_ur, r_ul_pr, r_ul_ol, r_ul_pl, r_ul_ct, r_pl_ax, r_pl_or, r_pl_ur, r_pl_pr, r_pl_ol, r_pl_ul, r_pl_ct, r_ct_ax, r_ct_or, r_ct_ur, r_ct_pr, r_ct_ol, r_ct_ul, r_ct_pl, q1, q2, q3, q4, q5, q6, e1, e2, e3, gInt_bl, gIs_tn, gIs_nn, gIsN_tn, gIsN_nn])
-- fa
theorem idD_dep : ∀ k : KT, k.ok AtS → (idD k).dep ≤ 4 * k.at_.length
  | .leaf t, _ => by show (2 : Nat) ≤ 4 * 1; decide
  | .node s a b, hk => by
    have ha := idD_dep a hk.2.1
    have hb := idD_dep b hk.2.2
    have dk := KT.dep (.node s a b)
    have da := KT.dep a
    have db := KT.dep b
    have pa := KT.pos a
    have pb := KT.pos b
    rw [KT.len_node] at dk ⊢
    rcases hk.1 with rfl | rfl | rfl
    · rw [idD_o]
      unfold stD
      simp only [D.dep, deps]
      omega
    · rw [idD_u]
      unfold stD
      simp only [D.dep, deps]
      omega
    · rw [idD_p]
      unfold stD
      simp only [D.dep, deps]
      omega
theorem gNeW_ii {lim : Nat} {a b : Int} {S : Store} (h : a = b) : gNeW lim (.int a) (.int b) S = some (.bl false, S) := by rw [h]; exact gNeW_refl rfl (Nat.zero_le _)
noncomputable def law_tail (n : Nat) (F : FN → List D → M D) : SX := (sQ (sN 4 (eF (F ._law_kind) (aC (eV 1) (aC (eV 2) (aC (eV 3) aN)))))
  (sQ (sN 5 (eF (F ._law_kind) (aC (eV 1) (aC (eV 2) (aC (Dl.e2 gAdd (eC (.int 1)) (eF (F ._law_draw) (aC (eV 1) (aC (eC (.int 6)) aN)))) aN)))))
  (sQ (sN 6 (eC .non))
  (sQ (sF (iA (eB gLsd (aC (eV 4) (aC (eV 5) (aC (eV 4) aN))))) (nm 7) (sQ (sN 6 (eF (F .identity) (aC (eV 7) aN)))
  (sQ (sIf (tO (tN (tV (eF (F ._law_derives) (aC (eV 6) (aC (eB gTpl (aC (eV 7) aN)) (aC (eV 7) aN)))))) (tE (Dl.e2 (gNeW (199 + 16 * n)) (eV 6) (eF (F ._law_identity) (aC (eV 7) aN))))) (sR (eC (.bl false))) sP)
  (sIf (tE (Dl.e2 (gNeW (199 + 16 * n)) (eB gLen (aC (eF (F ._law_steps) (aC (eV 6) aN)) aN)) (Dl.e2 gSub (Dl.e2 gMul (eC (.int 3)) (eF (F ._law_size) (aC (eV 7) aN))) (eC (.int 2))))) (sR (eC (.bl false))) sP))))
  (sQ (sIf (tE (Dl.e2 gGt (eV 3) (eC (.int 8)))) (sR (eC (.bl true))) sP)
  (sQ (sN 8 (eF (F ._law_world) (aC (eV 1) (aC (eF (F ._law_parts) (aC (eV 4) aN)) (aC (eC (.int 16)) aN)))))
  (sQ (sF (iR1 (eF (F ._law_count) (aC (eV 4) (aC (eV 8) aN)))) (nm 9) (sIf (tE (Dl.e2 (gNeW (199 + 16 * n)) (eF (F ._law_value) (aC (eV 6) (aC (eV 8) (aC (eB gTpl (aC (eV 9) aN)) aN)))) (eV 9))) (sR (eC (.bl false))) sP))
  (sR (eC (.bl true))))))))))
theorem b_law_eq (n : Nat) (F : FN → List D → M D) : b_law n F = (sQ (sN 1 (eF (F ._law_pool) (aC (eV 0) (aC (eC (.int 0)) aN))))
  (sQ (sN 2 (eF (F ._law_names) (aC (eV 1) (aC (Dl.e2 gAdd (eC (.int 1)) (eF (F ._law_draw) (aC (eV 1) (aC (eC (.int 3)) aN)))) aN))))
  (sQ (sN 3 (Dl.e2 gAdd (eC (.int 1)) (eF (F ._law_draw) (aC (eV 1) (aC (eC (.int 8)) aN)))))
  (sQ (sIf (tE (Dl.e2 gEq (eF (F ._law_draw) (aC (eV 1) (aC (eC (.int 8)) aN))) (eC (.int 7)))) (sN 3 (Dl.e2 gAdd (eC (.int 9)) (eF (F ._law_draw) (aC (eV 1) (aC (eC (.int 32)) aN))))) sP)
  (law_tail n F))))) := rfl
theorem tail_t (n : Nat) {S : Store} (hS : SOK S) {Q : R D → Prop} (hQ : ∀ r, (∃ S', r = .ok (.bl true) S') → Q r) {ts : List Str} (hts : ∀ t ∈ ts, AtS t) (hl : 1 ≤ ts.length) (hl2 : ts.length ≤ 100) {N : Nat} {P : List D} (hp : Pool N P) (hN : N ≤ 10000) {sz : Int} (s1 : 1 ≤ sz) (s2 : sz ≤ 40) :
    So S.length Q (law_tail (n + 59) (tab (n + 59)) [some (.ref 0), some (.ref S.length), some (.ref (S.length + 1)), some (.int sz), none, none, none, none, none, none] (Dl.sx S [.lst P, .lst (sts ts)])) := by
  have FS : ∀ {P : List D} {M : List Cell}, flats P = true → Dl.FL M → SOK (Dl.sx S (.lst P :: M)) := fun hp hM => SOK.sx hS (.cons (c := Dl.Cell.lst _) hp hM)
  have g0 : ∀ (P : List D) (M : List Cell), (Dl.sx S (.lst P :: M))[S.length]? = some (.lst P) := fun P M => by rw [Dl.sx_0]; rfl
  have g1 : ∀ (P : List D) (X : List D) (M : List Cell), (Dl.sx S (.lst P :: .lst X :: M))[S.length + 1]? = some (.lst X) := fun P X M => by rw [Dl.sx_k]; rfl
  have st0 : ∀ (P P' : List D) (M : List Cell), (Dl.sx S (.lst P :: M)).set S.length (.lst P') = Dl.sx S (.lst P' :: M) := fun P P' M => by rw [Dl.sx_set_0]; rfl
  unfold law_tail
  obtain ⟨K, P1, hp1, ok1, kl1, e1⟩ := kind_t (p := S.length) (q := S.length + 1) (by omega) hts hl hl2 (n + 14) 40 sz (by omega) s1 (g0 P [.lst (sts ts)]) (g1 P (sts ts) []) hp (by omega) (by decide) (FS hp.flat (.one (c := Dl.Cell.lst _) (sts_flat _)))
  rw [st0, show n + 14 + 40 + 5 = n + 59 by omega] at e1
  obtain ⟨d2, P2, hp2, a2, b2, e2⟩ := draw_t (n + 57) (many := 6) (g0 P1 [.lst (sts ts)]) hp1 (by omega) (by decide) (by decide)
  rw [st0] at e2
  obtain ⟨K2, P3, hp3, ok2, kl2, e3⟩ := kind_t (p := S.length) (q := S.length + 1) (by omega) hts hl hl2 (n + 14) 40 (1 + d2) (by omega) (by omega) (g0 P2 [.lst (sts ts)]) (g1 P2 (sts ts) []) hp2 (by omega) (by decide) (FS hp2.flat (.one (c := Dl.Cell.lst _) (sts_flat _)))
  rw [st0, show n + 14 + 40 + 5 = n + 59 by omega] at e3
  have fk1 := KT.flat K
  have fk2 := KT.flat K2
  have hp3' : Pool (N + 3000) P3 := hp3.mono (by omega)
  simp_arith [e1, e2, e3]
  clear e1 e2 e3
  have each : ∀ (M : List Cell) (k : KT), k.ok AtS → k.at_.length ≤ 40 → Dl.FL M → ∀ (T : Store), T = Dl.sx S (.lst P3 :: .lst (sts ts) :: .lst [K.d, K2.d, K.d] :: M) →
      tab (n + 59) .identity [k.d] T = .ok (idD k) T ∧ tab (n + 59) ._law_derives [idD k, .tup [k.d], k.d] T = .ok (.bl true) T ∧ tab (n + 59) ._law_identity [k.d] T = .ok (idD k) T ∧
      (∃ fs : List D, (fs.length : Int) = 3 * (k.at_.length : Int) - 2 ∧ flats fs = true ∧ tab (n + 59) ._law_steps [idD k] T = .ok (.ref T.length) (T ++ [.lst fs]) ∧ tab (n + 59) ._law_size [k.d] (T ++ [.lst fs]) = .ok (.int k.at_.length) (T ++ [.lst fs])) := by
    intro M k hk hkl hM T hTe
    have hT : SOK T := by
      rw [hTe]
      exact FS hp3.flat (.cons (c := Dl.Cell.lst _) (sts_flat _) (.cons (c := Dl.Cell.lst _) (flats_cons fk1 (flats_cons fk2 (flats_cons fk1 rfl))) hM))
    have x1 := identity_t (n + 14) 40 k T hk hkl hT
    have x2 := law_derives_t (n + 6) k ⟨hk, hkl⟩ T hT
    have x3 := law_identity_t (n + 14) 40 k T hk hkl hT
    obtain ⟨m, hg, hm⟩ := idD_gd k ⟨hk, hkl⟩
    obtain ⟨fs, fl, ff, x4⟩ := law_steps_t (n + 58) m hg (by omega) T hT
    have x5 := law_size_t (n + 19) 40 k (T ++ [.lst fs]) hk hkl (hT.pushF (c := .lst fs) ff)
    exact ⟨x1, x2, x3, fs, by omega, ff, x4, x5⟩
  refine Dl.forQ (fun j ρ T => ∃ M v6 v7, Dl.FL M ∧ (j = 3 → v6 = some (idD K)) ∧ ρ = [some (.ref 0), some (.ref S.length), some (.ref (S.length + 1)), some (.int sz), some K.d, some K2.d, v6, v7, none, none] ∧ T = Dl.sx S (.lst P3 :: .lst (sts ts) :: .lst [K.d, K2.d, K.d] :: M)) ⟨[], _, _, .nil, by omega, rfl, rfl⟩ ?_ ?_
  · rintro j d _ _ hj ⟨M, v6, v7, hM, hv, rfl, rfl⟩
    have hjl := get_lt hj
    have hd : ∃ k : KT, d = k.d ∧ k.ok AtS ∧ k.at_.length ≤ 40 ∧ (j + 1 = 3 → k = K) := by
      have : j = 0 ∨ j = 1 ∨ j = 2 := by
        have : [K.d, K2.d, K.d].length = 3 := rfl
        omega
      rcases this with rfl | rfl | rfl
      · exact ⟨K, (Option.some.inj hj).symm, ok1, by omega, fun _ => rfl⟩
      · exact ⟨K2, (Option.some.inj hj).symm, ok2, by omega, by omega⟩
      · exact ⟨K, (Option.some.inj hj).symm, ok1, by omega, fun _ => rfl⟩
    obtain ⟨k, rfl, hk, hkl, hk3⟩ := hd
    obtain ⟨x1, x2, x3, fs, fl, ff, x4, x5⟩ := each M k hk hkl hM _ rfl
    have gd := idD_dep k hk
    have gn := gNeW_refl (lim := 199 + 16 * (n + 59)) (d := idD k) (S := Dl.sx S (.lst P3 :: .lst (sts ts) :: .lst [K.d, K2.d, K.d] :: M)) (idD_flat k hk) (by omega)
    rw [Dl.sx_push, Dl.sx_len] at x4
    rw [Dl.sx_push] at x5
    simp only [List.length_cons, List.cons_append] at x4 x5
    refine ⟨fun p' hp' => ?_, _, _, rfl, ?_⟩
    · rw [List.mem_singleton.mp hp']
      show lstAt (Dl.sx S _) (S.length + 2) = _
      unfold lstAt
      rw [Dl.sx_k]
      rfl
    simp_arith [x1, x2, x3, x4, x5, gn, gNeW_ii fl]
    exact ⟨M ++ [.lst fs], _, _, hM.app (.one (c := .lst fs) ff), fun e => by rw [hk3 e], rfl, rfl⟩
  · rintro _ _ ⟨M, v6, v7, hM, hv, rfl, rfl⟩
    obtain rfl := hv rfl
    refine ⟨fun p' hp' => ?_, ?_⟩
    · rw [List.mem_singleton.mp hp']
      show lstAt (Dl.sx S _) (S.length + 2) = _
      unfold lstAt
      rw [Dl.sx_k]
      rfl
    by_cases h8 : 8 < sz
    · simp_arith [h8]
      exact Dl.Qx (hS.wf rfl) rfl (hQ _ ⟨_, rfl⟩)
    · have fM : Dl.FL (.lst (sts ts) :: .lst [K.d, K2.d, K.d] :: M) := .cons (c := Dl.Cell.lst _) (sts_flat _) (.cons (c := Dl.Cell.lst _) (flats_cons fk1 (flats_cons fk2 (flats_cons fk1 rfl))) hM)
      have e1 := parts_t (n + 51) 8 K _ ok1 (by omega) (by decide) (FS hp3.flat fM)
      rw [Dl.sx_push, Dl.sx_len, show n + 51 + 8 = n + 59 by omega] at e1
      simp only [List.length_cons, List.cons_append] at e1
      have kf := kds_flat (pts K)
      have fM2 : Dl.FL (.lst (sts ts) :: .lst [K.d, K2.d, K.d] :: (M ++ [.lst (kds (pts K))])) := .cons (c := Dl.Cell.lst _) (sts_flat _) (.cons (c := Dl.Cell.lst _) (flats_cons fk1 (flats_cons fk2 (flats_cons fk1 rfl))) (hM.app (.one (c := Dl.Cell.lst _) kf)))
      obtain ⟨kvs, w, P4, hw, hsm, hf, hp4, e2⟩ := world_t (n + 48) 8 (K := K) (c := S.length + (M.length + 1 + 1 + 1)) (g0 P3 (.lst (sts ts) :: .lst [K.d, K2.d, K.d] :: (M ++ [.lst (kds (pts K))]))) (by
        rw [Dl.sx_k]
        show (M ++ [Cell.lst (kds (pts K))])[M.length]? = _
        rw [List.getElem?_concat_length]) (by omega) hp3' (by omega) (FS hp3.flat fM2) ok1 (by omega) (by decide)
      rw [st0, Dl.sx_push, Dl.sx_len, show n + 48 + 8 + 3 = n + 59 by omega] at e2
      simp only [List.length_cons, List.cons_append, List.length_append, List.length_nil, Nat.zero_add, List.append_assoc, List.nil_append] at e2
      have fd : Dl.FL (.lst (sts ts) :: .lst [K.d, K2.d, K.d] :: (M ++ [.lst (kds (pts K)), .dic kvs])) := .cons (c := Dl.Cell.lst _) (sts_flat _) (.cons (c := Dl.Cell.lst _) (flats_cons fk1 (flats_cons fk2 (flats_cons fk1 rfl))) (hM.app (.cons (c := Dl.Cell.lst _) kf (.one (c := Dl.Cell.dic _) hf))))
      have T4 := FS hp4.flat fd
      have q4 : (Dl.sx S (.lst P4 :: .lst (sts ts) :: .lst [K.d, K2.d, K.d] :: (M ++ [.lst (kds (pts K)), .dic kvs])))[S.length + (M.length + 1 + 1 + 1 + 1)]? = some (.dic kvs) := by
        rw [Dl.sx_k]
        show (M ++ [Cell.lst (kds (pts K)), Cell.dic kvs])[M.length + 1]? = _
        rw [List.getElem?_append_right (by omega), Nat.add_sub_cancel_left]
        rfl
      have e3 := count_t hw (S.length + (M.length + 1 + 1 + 1 + 1)) (n + 51) 8 K _ ok1 (by omega) q4 T4
      rw [show n + 51 + 8 = n + 59 by omega] at e3
      have c1 := ct_lo hw K
      have c2 := sm_ct hsm
      have e4 : ∀ v : Int, 0 ≤ v → v < ct w K → tab (n + 59) ._law_value [idD K, .ref (S.length + (M.length + 1 + 1 + 1 + 1)), .tup [.int v]] _ = .ok (.int v) _ := fun v v0 v1 => by
        have e := value_t hw (S.length + (M.length + 1 + 1 + 1 + 1)) (n + 26) 8 K _ v ok1 hsm (by omega) q4 T4 v0 v1
        rw [show n + 26 + 4 * 8 + 1 = n + 59 by omega] at e
        exact e
      generalize hST : Dl.sx S (.lst P4 :: .lst (sts ts) :: .lst [K.d, K2.d, K.d] :: (M ++ [.lst (kds (pts K)), .dic kvs])) = ST at e2 e3 e4
      simp_arith [h8, e1, e2, e3]
      refine Dl.forQ (fun j ρ T => ∃ v9, ρ = [some (.ref 0), some (.ref S.length), some (.ref (S.length + 1)), some (.int sz), some K.d, some K2.d, some (idD K), v7, some (.ref (S.length + (M.length + 1 + 1 + 1 + 1))), v9] ∧ T = ST) ⟨_, rfl, rfl⟩ ?_ ?_
      · rintro j x _ _ hj ⟨v9, rfl, rfl⟩
        obtain ⟨hj, rfl⟩ := Dl.rng_get hj
        rw [Int.zero_add]
        refine ⟨chk_nil, _, _, rfl, ?_⟩
        have e5 := e4 j (by omega) (by omega)
        simp_arith [e5, gNeW_ii (show (j : Int) = j from rfl)]
        exact ⟨_, rfl, trivial⟩
      · rintro _ _ ⟨v9, rfl, rfl⟩
        refine ⟨chk_nil, ?_⟩
        rw [← hST]
        simp_arith []
        exact Dl.Qx (hS.wf rfl) rfl (hQ _ ⟨_, rfl⟩)
theorem law_t (n : Nat) {ns : List Int} {S : Store} (h : S[0]? = some (Cell.rol (ns.map D.int))) (hS : SOK S) : Dl.Sp (tab (n + 60) .law [.ref 0] S) fun r => ∃ S', r = .ok (.bl true) S' := by
  refine Dl.sp_plain (g := b_law (n + 59) (tab (n + 59))) rfl fun Q hQ => ?_
  rw [b_law_eq]
  have l0 := get_lt h
  have FS : ∀ {P : List D} {M : List Cell}, flats P = true → Dl.FL M → SOK (Dl.sx S (.lst P :: M)) := fun hp hM => SOK.sx hS (.cons (c := Dl.Cell.lst _) hp hM)
  have g0 : ∀ (P : List D) (M : List Cell), (Dl.sx S (.lst P :: M))[S.length]? = some (.lst P) := fun P M => by rw [Dl.sx_0]; rfl
  have g1 : ∀ (P : List D) (X : List D) (M : List Cell), (Dl.sx S (.lst P :: .lst X :: M))[S.length + 1]? = some (.lst X) := fun P X M => by rw [Dl.sx_k]; rfl
  have st0 : ∀ (P P' : List D) (M : List Cell), (Dl.sx S (.lst P :: M)).set S.length (.lst P') = Dl.sx S (.lst P' :: M) := fun P P' M => by rw [Dl.sx_set_0]; rfl
  obtain ⟨P0, hp0, e0⟩ := pool_t (n + 57) (T := Dl.sx S []) (by rw [← Dl.sx_in]; exact h) (SOK.sx hS .nil) 0 (by decide)
  rw [Dl.sx_push, Dl.sx_len] at e0
  simp only [List.length_nil, Nat.add_zero, List.nil_append] at e0
  rw [show ((0 : Nat) : Int) = 0 from rfl] at e0
  obtain ⟨d1, P1, hp1, a1, b1, e1⟩ := draw_t (n + 57) (many := 3) (g0 P0 []) hp0 (by omega) (by decide) (by decide)
  rw [st0] at e1
  obtain ⟨ts, P2, hp2, hts, hl, e2⟩ := names_t (n + 55) (many := 1 + d1) (g0 P1 []) hp1 (by omega) (FS hp1.flat .nil) (by omega) (by omega)
  rw [st0, Dl.sx_push, Dl.sx_len] at e2
  simp only [List.length_cons, List.length_nil, Nat.zero_add, List.cons_append, List.nil_append] at e2
  obtain ⟨d3, P3, hp3, a3, b3, e3⟩ := draw_t (n + 57) (many := 8) (g0 P2 [.lst (sts ts)]) hp2 (by omega) (by decide) (by decide)
  rw [st0] at e3
  obtain ⟨d4, P4, hp4, a4, b4, e4⟩ := draw_t (n + 57) (many := 8) (g0 P3 [.lst (sts ts)]) hp3 (by omega) (by decide) (by decide)
  rw [st0] at e4
  simp_arith [e0, e1, e2, e3, e4]
  by_cases h7 : d4 = 7
  · obtain ⟨d5, P5, hp5, a5, b5, e5⟩ := draw_t (n + 57) (many := 32) (g0 P4 [.lst (sts ts)]) hp4 (by omega) (by decide) (by decide)
    rw [st0] at e5
    simp_arith [h7, e5]
    exact tail_t n hS hQ hts (by omega) (by omega) hp5 (by omega) (by omega) (by omega)
  · simp_arith [h7]
    exact tail_t n hS hQ hts (by omega) (by omega) hp4 (by omega) (by omega) (by omega)
theorem good : ∀ ns : List Int, ns.length ≤ 63 → ∃ S, tab 150 .law [.ref 0] [.rol (ns.map Dl.D.int)] = .ok (.bl true) S := fun ns _ =>
  law_t 90 (S := [.rol (ns.map Dl.D.int)]) rfl fun c hc => by
    rw [List.mem_singleton.mp hc]
    exact cwf_flat (c := .rol _) (ints_flat ns)

end Lw

open PySem PySem.W PyProof.Rows
set_option maxRecDepth 100000 in
set_option maxHeartbeats 0 in
theorem PySem.Challenge.cw_wordfractions_k24_identities_holds : PySem.Challenge.rw_wordfractions_k24_identities.Holds := by
  w_on; o_law; k_head; (case hw => w_witness2)
  k_fill
  refine Lw.walk 150 (by exact ⟨rfl, by decide, by decide⟩) (@Lw.good) (l := PySem.Challenge.rw_wordfractions_k24_identities) rfl rfl (fun w h Y => PySem.W.kIn_of Y) ?F
  case F =>
    intro w mg fa h KX G hmg
    refine' Lw.all_mk 150 KX G hmg ?a0 ?l0 ?c0 ?k0 ?a1 ?l1 ?c1 ?k1 ?a2 ?l2 ?c2 ?k2 ?a3 ?l3 ?c3 ?k3 ?a4 ?l4 ?c4 ?k4 ?a5 ?l5 ?c5 ?k5 ?a6 ?l6 ?c6 ?k6 ?a7 ?l7 ?c7 ?k7 ?a8 ?l8 ?c8 ?k8 ?a9 ?l9 ?c9 ?k9 ?a10 ?l10 ?c10 ?k10 ?a11 ?l11 ?c11 ?k11 ?a12 ?l12 ?c12 ?k12 ?a13 ?l13 ?c13 ?k13 ?a14 ?l14 ?c14 ?k14 ?a15 ?l15 ?c15 ?k15 ?a16 ?l16 ?c16 ?k16 ?a17 ?l17 ?c17 ?k17 ?a18 ?l18 ?c18 ?k18 ?a19 ?l19 ?c19 ?k19 ?a20 ?l20 ?c20 ?k20 ?a21 ?l21 ?c21 ?k21 ?a22 ?l22 ?c22 ?k22 ?a23 ?l23 ?c23 ?k23 ?a24 ?l24 ?c24 ?k24 ?a25 ?l25 ?c25 ?k25 ?a26 ?l26 ?c26 ?k26 ?a27 ?l27 ?c27 ?k27 ?a28 ?l28 ?c28 ?k28 ?a29 ?l29 ?c29 ?k29 ?a30 ?l30 ?c30 ?k30 ?a31 ?l31 ?c31 ?k31 ?a32 ?l32 ?c32 ?k32 ?a33 ?l33 ?c33 ?k33 ?a34 ?l34 ?c34 ?k34 ?a35 ?l35 ?c35 ?k35 ?a36 ?l36 ?c36 ?k36 ?a37 ?l37 ?c37 ?k37 ?a38 ?l38 ?c38 ?k38 ?a39 ?l39 ?c39 ?k39 ?a40 ?l40 ?c40 ?k40 ?a41 ?l41 ?c41 ?k41 ?a42 ?l42 ?c42 ?k42 ?a43 ?l43 ?c43 ?k43 ?z0 ?z1 ?z2 ?z3 ?z4 ?z5 ?z6 ?z7 ?z8 ?z9 ?z10 ?z11 ?z12 ?y0 ?y1 ?y2 ?y3 ?u0 ?ve0 ?vk0 ?vs0 ?vt0 ?ty0 ?tl0 ?tk0 ?tv0_0 ?tv0_1 ?tv0_2 ?tv0_3 ?tv0_4 ?tv0_5 ?tv0_6
    (case a0 => k_is)
    (case l0 => k_is)
    (case c0 => k_is)
    (case k0 => k_is)
    (case a1 => k_is)
    (case l1 => k_is)
    (case c1 => k_is)
    (case k1 => k_is)
    (case a2 => k_is)
    (case l2 => k_is)
    (case c2 => k_is)
    (case k2 => k_is)
    (case a3 => k_is)
    (case l3 => k_is)
    (case c3 => k_is)
    (case k3 => k_is)
    (case a4 => k_is)
    (case l4 => k_is)
    (case c4 => k_is)
    (case k4 => k_is)
    (case a5 => k_is)
    (case l5 => k_is)
    (case c5 => k_is)
    (case k5 => k_is)
    (case a6 => k_is)
    (case l6 => k_is)
    (case c6 => k_is)
    (case k6 => k_is)
    (case a7 => k_is)
    (case l7 => k_is)
    (case c7 => k_is)
    (case k7 => k_is)
    (case a8 => k_is)
    (case l8 => k_is)
    (case c8 => k_is)
    (case k8 => k_is)
    (case a9 => k_is)
    (case l9 => k_is)
    (case c9 => k_is)
    (case k9 => k_is)
    (case a10 => k_is)
    (case l10 => k_is)
    (case c10 => k_is)
    (case k10 => k_is)
    (case a11 => k_is)
    (case l11 => k_is)
    (case c11 => k_is)
    (case k11 => k_is)
    (case a12 => k_is)
    (case l12 => k_is)
    (case c12 => k_is)
    (case k12 => k_is)
    (case a13 => k_is)
    (case l13 => k_is)
    (case c13 => k_is)
    (case k13 => k_is)
    (case a14 => k_is)
    (case l14 => k_is)
    (case c14 => k_is)
    (case k14 => k_is)
    (case a15 => k_is)
    (case l15 => k_is)
    (case c15 => k_is)
    (case k15 => k_is)
    (case a16 => k_is)
    (case l16 => k_is)
    (case c16 => k_is)
    (case k16 => k_is)
    (case a17 => k_is)
    (case l17 => k_is)
    (case c17 => k_is)
    (case k17 => k_is)
    (case a18 => k_is)
    (case l18 => k_is)
    (case c18 => k_is)
    (case k18 => k_is)
    (case a19 => k_is)
    (case l19 => k_is)
    (case c19 => k_is)
    (case k19 => k_is)
    (case a20 => k_is)
    (case l20 => k_is)
    (case c20 => k_is)
    (case k20 => k_is)
    (case a21 => k_is)
    (case l21 => k_is)
    (case c21 => k_is)
    (case k21 => k_is)
    (case a22 => k_is)
    (case l22 => k_is)
    (case c22 => k_is)
    (case k22 => k_is)
    (case a23 => k_is)
    (case l23 => k_is)
    (case c23 => k_is)
    (case k23 => k_is)
    (case a24 => k_is)
    (case l24 => k_is)
    (case c24 => k_is)
    (case k24 => k_is)
    (case a25 => k_is)
    (case l25 => k_is)
    (case c25 => k_is)
    (case k25 => k_is)
    (case a26 => k_is)
    (case l26 => k_is)
    (case c26 => k_is)
    (case k26 => k_is)
    (case a27 => k_is)
    (case l27 => k_is)
    (case c27 => k_is)
    (case k27 => k_is)
    (case a28 => k_is)
    (case l28 => k_is)
    (case c28 => k_is)
    (case k28 => k_is)
    (case a29 => k_is)
    (case l29 => k_is)
    (case c29 => k_is)
    (case k29 => k_is)
    (case a30 => k_is)
    (case l30 => k_is)
    (case c30 => k_is)
    (case k30 => k_is)
    (case a31 => k_is)
    (case l31 => k_is)
    (case c31 => k_is)
    (case k31 => k_is)
    (case a32 => k_is)
    (case l32 => k_is)
    (case c32 => k_is)
    (case k32 => k_is)
    (case a33 => k_is)
    (case l33 => k_is)
    (case c33 => k_is)
    (case k33 => k_is)
    (case a34 => k_is)
    (case l34 => k_is)
    (case c34 => k_is)
    (case k34 => k_is)
    (case a35 => k_is)
    (case l35 => k_is)
    (case c35 => k_is)
    (case k35 => k_is)
    (case a36 => k_is)
    (case l36 => k_is)
    (case c36 => k_is)
    (case k36 => k_is)
    (case a37 => k_is)
    (case l37 => k_is)
    (case c37 => k_is)
    (case k37 => k_is)
    (case a38 => k_is)
    (case l38 => k_is)
    (case c38 => k_is)
    (case k38 => k_is)
    (case a39 => k_is)
    (case l39 => k_is)
    (case c39 => k_is)
    (case k39 => k_is)
    (case a40 => k_is)
    (case l40 => k_is)
    (case c40 => k_is)
    (case k40 => k_is)
    (case a41 => k_is)
    (case l41 => k_is)
    (case c41 => k_is)
    (case k41 => k_is)
    (case a42 => k_is)
    (case l42 => k_is)
    (case c42 => k_is)
    (case k42 => k_is)
    (case a43 => k_is)
    (case l43 => k_is)
    (case c43 => k_is)
    (case k43 => k_is)
    (case z0 => k_is)
    (case z1 => k_is)
    (case z2 => k_is)
    (case z3 => k_is)
    (case z4 => k_is)
    (case z5 => k_is)
    (case z6 => k_is)
    (case z7 => k_is)
    (case z8 => k_is)
    (case z9 => k_is)
    (case z10 => k_is)
    (case z11 => k_is)
    (case z12 => k_is)
    (case y0 => k_is)
    (case y1 => k_is)
    (case y2 => k_is)
    (case y3 => k_is)
    (case u0 => k_is)
    (case ve0 => k_exc)
    (case vk0 => k_is)
    (case vs0 => k_is)
    (case vt0 => k_is)
    (case ty0 => k_is)
    (case tl0 => k_is)
    (case tk0 => exact ⟨⟨_, _, rfl, rfl⟩, ⟨_, _, rfl, rfl⟩, ⟨_, _, rfl, rfl⟩, ⟨_, _, rfl, rfl⟩, ⟨_, _, rfl, rfl⟩, ⟨_, _, rfl, rfl⟩, ⟨_, _, rfl, rfl⟩, trivial⟩)
    (case tv0_0 => k_is)
    (case tv0_1 => k_is)
    (case tv0_2 => k_is)
    (case tv0_3 => k_is)
    (case tv0_4 => k_is)
    (case tv0_5 => k_is)
    (case tv0_6 => k_is)
