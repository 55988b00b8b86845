import PyProof.Rows.All
import Wide.All
import OpenK.AllK
import Wide.FinOn
import HandS.ForMost
import HandS.Exc
import HandS.TryOnly
import HandS.ExcOwn
import HandS.WordsExc
import HandS.IsInst
import HandS.Zip
import HandS.Rev
import KE.DataFind
import HandS.TupAny
import HandS.RevTup
import HandS.ExcIs
import HandS.More
import HandS.TupLe
import HandS.CallLocal
import HandS.Small
import HandS.Wide
import HandS.ReplaceLit
import HandS.RevRange
import HandS.TupMul
import PyProof.StrOps2
import HandS.Defaults
import HandS.MakeKwOnly
import PySem.Challenge.RW_wordfractions_k02_kind_text_back
import HandS.FStrTup
import PyProof.StrLawsRepr
import PyProof.StrLawsJoin
set_option Elab.async false
set_option linter.all false
set_option maxRecDepth 100000
namespace Dl
open PySem L2

/-! ## values without addresses of tuples; the store of what may change -/
inductive D where
  | non | bl (b : Bool) | int (i : Int) | str (x : Str) | tup (xs : List D) | ref (l : Nat) | raw (v : V)
  deriving Inhabited

inductive Cell where
  | lst (xs : List D) | rol (xs : List D) | dic (kvs : List (Key × D)) | gone
  deriving Inhabited
def Cell.mut : Cell → Bool
  | .lst _ => true
  | .dic _ => true
  | _ => false
abbrev Store := List Cell
structure Exn where
  name : Str
  fs : List (Str × D)
inductive R (α : Type) where
  | ok (a : α) (S : Store) | ex (x : Exn) (S : Store) | no
abbrev Env := List (Option D)
abbrev M (α : Type) := Store → R α
def R.bind {α β : Type} : R α → (α → Store → R β) → R β
  | .ok a S, k => k a S
  | .ex x S, _ => .ex x S
  | .no, _ => .no
@[simp] theorem R.bind_ok {α β : Type} (a : α) (S : Store) (k : α → Store → R β) : (R.ok a S).bind k = k a S := rfl
@[simp] theorem R.bind_ex {α β : Type} (x : Exn) (S : Store) (k : α → Store → R β) : (R.ex x S).bind k = .ex x S := rfl
@[simp] theorem R.bind_no {α β : Type} (k : α → Store → R β) : (R.no).bind k = .no := rfl
abbrev EX := Env → Store → R D
abbrev TX := Env → Store → R Bool
abbrev AX := Env → Store → R (List D)
inductive Out where
  | nx (ρ : Env) (S : Store) | rt (d : D) (S : Store) | bk (ρ : Env) (S : Store) | ct (ρ : Env) (S : Store) | ex (x : Exn) (ρ : Env) (S : Store) | no
abbrev SX := Env → Store → Out
/-- an expression's outcome within a statement -/
def R.out {α : Type} (ρ : Env) : R α → (α → Store → Out) → Out
  | .ok a S, k => k a S
  | .ex x S, _ => .ex x ρ S
  | .no, _ => .no
@[simp] theorem R.out_ok {α : Type} (ρ : Env) (a : α) (S : Store) (k : α → Store → Out) : (R.ok a S).out ρ k = k a S := rfl
@[simp] theorem R.out_ex {α : Type} (ρ : Env) (x : Exn) (S : Store) (k : α → Store → Out) : (R.ex (α := α) x S).out ρ k = .ex x ρ S := rfl
@[simp] theorem R.out_no {α : Type} (ρ : Env) (k : α → Store → Out) : (R.no (α := α)).out ρ k = .no := rfl

/-! ## how they stand in the heap -/
/-- a tuple without a dict of its own -/
def TupAt (K : PySem.W.Frag) (H : Hp) (a : Addr) (vs : List V) : Prop :=
  (∃ o, H a = some (.frz o (.tup vs)) ∧ o.cls = .type "tuple" ∧ o.dict = none) ∨
    ∃ (o : Obj) (its : Array Value) (n : Nat), K.lookup a = some o ∧ o.cls = .type "tuple" ∧ o.dict = none ∧ o.data = .seq its n ∧ its.size ≤ sizeLine ∧ Vals vs its.toList
theorem TupAt.sq {K : PySem.W.Frag} {H : Hp} {a : Addr} {vs : List V} (h : TupAt K H a vs) : SqT K H a vs := by
  rcases h with ⟨o, h, _⟩ | ⟨o, its, n, h1, h2, _, h3, h4, h5⟩
  · exact .inl (.inr ⟨o, h⟩)
  · exact .inr ⟨o, its, n, h1, h2, h3, h4, h5⟩
/-- a list that nobody may write -/
def RolAt (K : PySem.W.Frag) (H : Hp) (a : Addr) (vs : List V) : Prop :=
  (∃ o, H a = some (.frz o (.lst vs))) ∨
    ∃ (o : Obj) (its : Array Value) (n : Nat), K.lookup a = some o ∧ o.cls = .type "list" ∧ o.dict = none ∧ o.data = .seq its n ∧ its.size ≤ sizeLine ∧ Vals vs its.toList
theorem RolAt.sq {K : PySem.W.Frag} {H : Hp} {a : Addr} {vs : List V} (h : RolAt K H a vs) : SqL K H a vs := by
  rcases h with ⟨o, h⟩ | h
  · exact .inl (.inr ⟨o, h⟩)
  · exact .inr h
mutual
inductive RD (K : PySem.W.Frag) (m : List Addr) (H : Hp) : V → D → Prop
  | non : RD K m H .non .non
  | bl (b : Bool) : RD K m H (.bl b) (.bl b)
  | int (i : Int) : RD K m H (.int i) (.int i)
  | str {x : Str} (h : x.length ≤ 16777216) : RD K m H (.str x) (.str x)
  | tup {a : Addr} {vs : List V} {ds : List D} (h : TupAt K H a vs) (r : RDs K m H vs ds) : RD K m H (.ref a) (.tup ds)
  | ref {a : Addr} {l : Nat} (h : m[l]? = some a) : RD K m H (.ref a) (.ref l)
  | raw (v : V) : RD K m H v (.raw v)
inductive RDs (K : PySem.W.Frag) (m : List Addr) (H : Hp) : List V → List D → Prop
  | nil : RDs K m H [] []
  | cons {v : V} {d : D} {vs : List V} {ds : List D} (h : RD K m H v d) (t : RDs K m H vs ds) : RDs K m H (v :: vs) (d :: ds)
end
structure Ext (K : PySem.W.Frag) (m : List Addr) (H : Hp) (m' : List Addr) (H' : Hp) : Prop where
  pre : ∃ r, m' = m ++ r
  tup : ∀ a vs, TupAt K H a vs → TupAt K H' a vs
theorem Ext.refl {K : PySem.W.Frag} {m : List Addr} {H : Hp} : Ext K m H m H := ⟨⟨[], by simp⟩, fun _ _ h => h⟩
theorem Ext.trans {K : PySem.W.Frag} {m m1 m2 : List Addr} {H H1 H2 : Hp} (a : Ext K m H m1 H1) (b : Ext K m1 H1 m2 H2) : Ext K m H m2 H2 := by
  obtain ⟨⟨r, e⟩, t⟩ := a
  obtain ⟨⟨r', e'⟩, t'⟩ := b
  exact ⟨⟨r ++ r', by rw [e', e, List.append_assoc]⟩, fun x vs h => t' x vs (t x vs h)⟩
theorem Ext.at {K : PySem.W.Frag} {m m' : List Addr} {H H' : Hp} (e : Ext K m H m' H') {l : Nat} {a : Addr} (h : m[l]? = some a) : m'[l]? = some a := by
  obtain ⟨⟨r, e⟩, _⟩ := e
  rw [e, List.getElem?_append_left (List.getElem?_eq_some_iff.mp h).1]
  exact h
theorem Ext.len {K : PySem.W.Frag} {m m' : List Addr} {H H' : Hp} (e : Ext K m H m' H') : m.length ≤ m'.length := by
  obtain ⟨⟨r, e⟩, _⟩ := e
  rw [e, List.length_append]
  exact Nat.le_add_right _ _
section
variable {K : PySem.W.Frag} {m m' : List Addr} {H H' : Hp}
mutual
theorem RD.mono (e : Ext K m H m' H') : ∀ {v : V} {d : D}, RD K m H v d → RD K m' H' v d
  | _, _, .non => .non
  | _, _, .bl b => .bl b
  | _, _, .int i => .int i
  | _, _, .str h => .str h
  | _, _, .tup h r => .tup (e.tup _ _ h) (RDs.mono e r)
  | _, _, .ref h => .ref (e.at h)
  | _, _, .raw v => .raw v
theorem RDs.mono (e : Ext K m H m' H') : ∀ {vs : List V} {ds : List D}, RDs K m H vs ds → RDs K m' H' vs ds
  | _, _, .nil => .nil
  | _, _, .cons h t => .cons (RD.mono e h) (RDs.mono e t)
end
theorem RDs.length : ∀ {vs : List V} {ds : List D}, RDs K m H vs ds → vs.length = ds.length
  | _, _, .nil => rfl
  | _, _, .cons _ t => congrArg Nat.succ (RDs.length t)
theorem RDs.get : ∀ {vs : List V} {ds : List D} {i : Nat} {d : D}, RDs K m H vs ds → ds[i]? = some d → ∃ v, vs[i]? = some v ∧ RD K m H v d
  | _, _, _, _, .nil, e => by simp at e
  | _, _, 0, _, .cons h _, e => by simp at e; subst e; exact ⟨_, rfl, h⟩
  | _, _, i + 1, d, .cons _ t, e => by
    obtain ⟨v, h1, h2⟩ := RDs.get (i := i) (d := d) t (by simpa using e)
    exact ⟨v, by simpa using h1, h2⟩
theorem RDs.append : ∀ {vs ws : List V} {ds es : List D}, RDs K m H vs ds → RDs K m H ws es → RDs K m H (vs ++ ws) (ds ++ es)
  | _, _, _, _, .nil, s => s
  | _, _, _, _, .cons h t, s => .cons h (RDs.append t s)
theorem RDs.one {v : V} {d : D} (h : RD K m H v d) : RDs K m H [v] [d] := .cons h .nil
theorem RDs.take : ∀ {vs : List V} {ds : List D} (n : Nat), RDs K m H vs ds → RDs K m H (vs.take n) (ds.take n)
  | _, _, 0, _ => .nil
  | _, _, _ + 1, .nil => .nil
  | _, _, n + 1, .cons h t => .cons h (RDs.take n t)
theorem RDs.drop : ∀ {vs : List V} {ds : List D} (n : Nat), RDs K m H vs ds → RDs K m H (vs.drop n) (ds.drop n)
  | _, _, 0, r => r
  | _, _, _ + 1, .nil => .nil
  | _, _, n + 1, .cons _ t => RDs.drop n t
theorem RDs.set {v : V} {d : D} (h : RD K m H v d) : ∀ {vs : List V} {ds : List D} (i : Nat), RDs K m H vs ds → RDs K m H (vs.set i v) (ds.set i d)
  | _, _, _, .nil => .nil
  | _, _, 0, .cons _ t => .cons h t
  | _, _, i + 1, .cons q t => .cons q (RDs.set h i t)
theorem RDs.reverse : ∀ {vs : List V} {ds : List D}, RDs K m H vs ds → RDs K m H vs.reverse ds.reverse
  | _, _, .nil => .nil
  | _, _, .cons h t => by
    rw [List.reverse_cons, List.reverse_cons]
    exact (RDs.reverse t).append (.one h)
theorem RDs.dropLast {vs : List V} {ds : List D} (r : RDs K m H vs ds) : RDs K m H vs.dropLast ds.dropLast := by
  rw [List.dropLast_eq_take, List.dropLast_eq_take, r.length]
  exact r.take _
theorem RDs.eraseIdx : ∀ {vs : List V} {ds : List D} (i : Nat), RDs K m H vs ds → RDs K m H (vs.eraseIdx i) (ds.eraseIdx i)
  | _, _, _, .nil => .nil
  | _, _, 0, .cons _ t => t
  | _, _, i + 1, .cons q t => .cons q (RDs.eraseIdx i t)
end

def CellOk (K : PySem.W.Frag) (m : List Addr) (H : Hp) (a : Addr) : Cell → Prop
  | .lst xs => ∃ vs, H a = some (.lst vs) ∧ RDs K m H vs xs
  | .rol xs => ∃ vs, RolAt K H a vs ∧ RDs K m H vs xs
  | .dic kvs => ∃ ws : List (Key × V), H a = some (.dK ws) ∧ ws.map (·.1) = kvs.map (·.1) ∧ RDs K m H (ws.map (·.2)) (kvs.map (·.2))
  | .gone => True
structure RS (K : PySem.W.Frag) (m : List Addr) (H : Hp) (S : Store) : Prop where
  len : m.length = S.length
  at_ : ∀ {l : Nat} {a : Addr} {c : Cell}, m[l]? = some a → S[l]? = some c → CellOk K m H a c
  inj : ∀ {l l' : Nat} {a : Addr} {c c' : Cell}, m[l]? = some a → m[l']? = some a → S[l]? = some c → S[l']? = some c' → c.mut = true → c'.mut = true → l = l'
/-- a cell that is read as a list -/
def lstAt (S : Store) (l : Nat) : Option (List D) := match S[l]? with
  | some (.lst xs) => some xs
  | some (.rol xs) => some xs
  | _ => none
section
variable {K : PySem.W.Frag} {m m' : List Addr} {H H' : Hp} {S : Store}
theorem RS.addr (r : RS K m H S) {l : Nat} (h : l < S.length) : ∃ a, m[l]? = some a := by
  rw [← r.len] at h
  exact ⟨m[l], List.getElem?_eq_getElem h⟩
theorem RS.lst (r : RS K m H S) {l : Nat} {a : Addr} {xs : List D} (h : m[l]? = some a) (e : lstAt S l = some xs) : ∃ vs, SqL K H a vs ∧ RDs K m H vs xs := by
  unfold lstAt at e
  split at e
  · cases e
    obtain ⟨vs, h1, h2⟩ := r.at_ h ‹_›
    exact ⟨vs, SqL.of h1, h2⟩
  · cases e
    obtain ⟨vs, h1, h2⟩ := r.at_ h ‹_›
    exact ⟨vs, h1.sq, h2⟩
  · cases e
theorem RS.wlst (r : RS K m H S) {l : Nat} {a : Addr} {xs : List D} (h : m[l]? = some a) (e : S[l]? = some (.lst xs)) : ∃ vs, H a = some (.lst vs) ∧ RDs K m H vs xs := r.at_ h e
theorem CellOk.mono {a : Addr} {c : Cell} (e : Ext K m H m' H') (h : CellOk K m H a c) (k : c.mut = true → H' a = H a) (kr : ∀ vs, RolAt K H a vs → RolAt K H' a vs) : CellOk K m' H' a c := by
  cases c with
  | lst xs =>
    obtain ⟨vs, h1, h2⟩ := h
    exact ⟨vs, by rw [k rfl]; exact h1, h2.mono e⟩
  | rol xs =>
    obtain ⟨vs, h1, h2⟩ := h
    exact ⟨vs, kr _ h1, h2.mono e⟩
  | dic kvs =>
    obtain ⟨ws, h1, h2, h3⟩ := h
    exact ⟨ws, by rw [k rfl]; exact h1, h2, h3.mono e⟩
  | gone => trivial
/-- a cell that changes is tracked as such -/
theorem CellOk.some {a : Addr} {c : Cell} (h : CellOk K m H a c) (k : c.mut = true) : ∃ o, H a = Option.some o ∧ ∀ ob u, o ≠ .frz ob u := by
  cases c with
  | lst xs => obtain ⟨vs, h1, _⟩ := h; exact ⟨_, h1, fun _ _ z => nomatch z⟩
  | dic kvs => obtain ⟨vs, h1, _⟩ := h; exact ⟨_, h1, fun _ _ z => nomatch z⟩
  | rol xs => cases k
  | gone => cases k
/-- what stood frozen is untouched by a new object -/
theorem tup_new {p : Addr} {o : HO} (hp : H p = none) : ∀ a vs, TupAt K H a vs → TupAt K (upd H p o) a vs := fun a vs h => by
  rcases h with ⟨ob, h, d⟩ | h
  · exact .inl ⟨ob, by rw [upd_ne (ne_of_none h hp)]; exact h, d⟩
  · exact .inr h
theorem rol_new {p : Addr} {o : HO} (hp : H p = none) : ∀ a vs, RolAt K H a vs → RolAt K (upd H p o) a vs := fun a vs h => by
  rcases h with ⟨ob, h⟩ | h
  · exact .inl ⟨ob, by rw [upd_ne (ne_of_none h hp)]; exact h⟩
  · exact .inr h
theorem tup_upd {p : Addr} {o u : HO} (hp : H p = some u) (hu : ∀ ob w, u ≠ .frz ob w) : ∀ a vs, TupAt K H a vs → TupAt K (upd H p o) a vs := fun a vs h => by
  rcases h with ⟨ob, h, d⟩ | h
  · exact .inl ⟨ob, by rw [upd_ne (ne_of h hp (fun z => hu _ _ z.symm))]; exact h, d⟩
  · exact .inr h
theorem rol_upd {p : Addr} {o u : HO} (hp : H p = some u) (hu : ∀ ob w, u ≠ .frz ob w) : ∀ a vs, RolAt K H a vs → RolAt K (upd H p o) a vs := fun a vs h => by
  rcases h with ⟨ob, h⟩ | h
  · exact .inl ⟨ob, by rw [upd_ne (ne_of h hp (fun z => hu _ _ z.symm))]; exact h⟩
  · exact .inr h
/-- a new object that the store does not know -/
theorem RS.new (r : RS K m H S) {p : Addr} {o : HO} (hp : H p = none) : Ext K m H m (upd H p o) ∧ RS K m (upd H p o) S := by
  have e : Ext K m H m (upd H p o) := ⟨⟨[], by simp⟩, tup_new hp⟩
  refine ⟨e, r.len, fun {l a c} h1 h2 => (r.at_ h1 h2).mono e (fun k => ?_) (rol_new hp _), r.inj⟩
  obtain ⟨u, h, _⟩ := (r.at_ h1 h2).some k
  rw [upd_ne (ne_of_none h hp)]
/-- a new cell -/
theorem RS.push (r : RS K m H S) {p : Addr} {o : HO} {c : Cell} (hp : H p = none) (hc : ∀ m', Ext K m H m' (upd H p o) → CellOk K m' (upd H p o) p c) : Ext K m H (m ++ [p]) (upd H p o) ∧ RS K (m ++ [p]) (upd H p o) (S ++ [c]) := by
  have e : Ext K m H (m ++ [p]) (upd H p o) := ⟨⟨[p], rfl⟩, tup_new hp⟩
  have hl := r.len
  refine ⟨e, by simp [hl], fun {l a c'} h1 h2 => ?_, fun {l l' a c' c''} h1 h2 h3 h4 h5 h6 => ?_⟩
  · by_cases z : l < S.length
    · rw [List.getElem?_append_left (by omega)] at h1
      rw [List.getElem?_append_left z] at h2
      refine (r.at_ h1 h2).mono e (fun k => ?_) (rol_new hp _)
      obtain ⟨u, h, _⟩ := (r.at_ h1 h2).some k
      rw [upd_ne (ne_of_none h hp)]
    · have hz : l = S.length := by
        have := (List.getElem?_eq_some_iff.mp h2).1
        simp at this
        omega
      subst hz
      rw [List.getElem?_append_right (by omega)] at h1
      rw [List.getElem?_append_right (by omega)] at h2
      simp [hl] at h1 h2
      subst h1; subst h2
      exact hc _ e
  · have old : ∀ {i : Nat} {x : Cell}, m[i]? = some a → S[i]? = some x → x.mut = true → a ≠ p := fun {i x} q1 q2 q3 => by
      obtain ⟨u, h, _⟩ := (r.at_ q1 q2).some q3
      exact ne_of_none h hp
    have lt : ∀ {i : Nat} {x : Cell}, (S ++ [c])[i]? = some x → i < S.length ∨ i = S.length := fun {i x} q => by
      have := (List.getElem?_eq_some_iff.mp q).1
      simp at this
      omega
    have low : ∀ {i : Nat} {x : Cell}, i < S.length → (m ++ [p])[i]? = some a → (S ++ [c])[i]? = some x → m[i]? = some a ∧ S[i]? = some x := fun {i x} q q1 q2 => by
      rw [List.getElem?_append_left (by omega)] at q1
      rw [List.getElem?_append_left q] at q2
      exact ⟨q1, q2⟩
    have top : (m ++ [p])[S.length]? = some a → a = p := fun q => by
      rw [List.getElem?_append_right (by omega)] at q
      simp [hl] at q
      exact q.symm
    rcases lt h3 with z | z
    · obtain ⟨a1, a2⟩ := low z h1 h3
      rcases lt h4 with z' | z'
      · obtain ⟨b1, b2⟩ := low z' h2 h4
        exact r.inj a1 b1 a2 b2 h5 h6
      · subst z'
        exact absurd (top h2) (old a1 a2 h5)
    · subst z
      rcases lt h4 with z' | z'
      · obtain ⟨b1, b2⟩ := low z' h2 h4
        exact absurd (top h1) (old b1 b2 h6)
      · exact z'.symm
/-- a cell is written -/
theorem RS.write (r : RS K m H S) {p : Addr} {o : HO} {l : Nat} {c c' : Cell} (hl : m[l]? = some p) (hc : S[l]? = some c) (k : c.mut = true) (k' : c'.mut = true) (hn : Ext K m H m (upd H p o) → CellOk K m (upd H p o) p c') :
    Ext K m H m (upd H p o) ∧ RS K m (upd H p o) (S.set l c') := by
  obtain ⟨u, hu, hf⟩ := (r.at_ hl hc).some k
  have e : Ext K m H m (upd H p o) := ⟨⟨[], by simp⟩, tup_upd hu hf⟩
  have lS : l < S.length := (List.getElem?_eq_some_iff.mp hc).1
  have get : ∀ {i : Nat} {x : Cell}, (S.set l c')[i]? = some x → (i = l ∧ x = c') ∨ (i ≠ l ∧ S[i]? = some x) := fun {i x} q => by
    by_cases z : i = l
    · subst z
      rw [List.getElem?_set_self lS] at q
      cases q
      exact .inl ⟨rfl, rfl⟩
    · rw [List.getElem?_set_ne (Ne.symm z)] at q
      exact .inr ⟨z, q⟩
  refine ⟨e, by rw [List.length_set]; exact r.len, fun {i a x} h1 h2 => ?_, fun {i i' a x x'} h1 h2 h3 h4 h5 h6 => ?_⟩
  · rcases get h2 with ⟨rfl, rfl⟩ | ⟨z, q⟩
    · rw [hl] at h1; cases h1
      exact hn e
    · refine (r.at_ h1 q).mono e (fun kx => ?_) (rol_upd hu hf _)
      have : a ≠ p := fun za => by
        subst za
        exact z (r.inj h1 hl q hc kx k)
      rw [upd_ne this]
  · rcases get h3 with ⟨rfl, rfl⟩ | ⟨z, q⟩
    · rcases get h4 with ⟨rfl, rfl⟩ | ⟨z', q'⟩
      · rfl
      · exact r.inj h1 h2 hc q' k h6
    · rcases get h4 with ⟨rfl, rfl⟩ | ⟨z', q'⟩
      · exact r.inj h1 h2 q hc h5 k
      · exact r.inj h1 h2 q q' h5 h6
end
/-- the slots -/
structure RE (K : PySem.W.Frag) (m : List Addr) (H : Hp) (σ : St) (ρ : Env) : Prop where
  len : σ.length = ρ.length
  at_ : ∀ {i : Nat} {d : D}, ρ[i]? = some (some d) → ∃ v, σ[i]? = some (some v) ∧ RD K m H v d
section
variable {K : PySem.W.Frag} {m m' : List Addr} {H H' : Hp} {σ : St} {ρ : Env}
theorem RE.mono (e : Ext K m H m' H') (r : RE K m H σ ρ) : RE K m' H' σ ρ := ⟨r.len, fun h => let ⟨v, h1, h2⟩ := r.at_ h; ⟨v, h1, h2.mono e⟩⟩
theorem RE.set (r : RE K m H σ ρ) {v : V} {d : D} (h : RD K m H v d) (i : Nat) : RE K m H (σ.set i (some v)) (ρ.set i (some d)) := by
  refine ⟨by rw [List.length_set, List.length_set]; exact r.len, fun {j d'} e => ?_⟩
  by_cases z : i = j
  · subst z
    have hl : i < ρ.length := by have := (List.getElem?_eq_some_iff.mp e).1; rwa [List.length_set] at this
    rw [List.getElem?_set_self hl] at e
    cases e
    exact ⟨v, by rw [List.getElem?_set_self (by rw [r.len]; exact hl)], h⟩
  · rw [List.getElem?_set_ne z] at e
    obtain ⟨w, h1, h2⟩ := r.at_ e
    exact ⟨w, by rw [List.getElem?_set_ne z]; exact h1, h2⟩
def wipeD (ρ : Env) : List Nat → Env
  | [] => ρ
  | v :: vs => (wipeD ρ vs).set v none
theorem RE.none (r : RE K m H σ ρ) (i : Nat) : RE K m H (σ.set i none) (ρ.set i none) := by
  refine ⟨by rw [List.length_set, List.length_set]; exact r.len, fun {j d'} e => ?_⟩
  by_cases z : i = j
  · subst z
    have hl : i < ρ.length := by have := (List.getElem?_eq_some_iff.mp e).1; rwa [List.length_set] at this
    rw [List.getElem?_set_self hl] at e
    cases e
  · rw [List.getElem?_set_ne z] at e
    obtain ⟨w, h1, h2⟩ := r.at_ e
    exact ⟨w, by rw [List.getElem?_set_ne z]; exact h1, h2⟩
theorem RE.wipe (r : RE K m H σ ρ) : ∀ vs : List Nat, RE K m H (wipe σ vs) (wipeD ρ vs)
  | [] => r
  | v :: vs => (RE.wipe r vs).none v
end
end Dl

set_option Elab.async false
set_option linter.all false
set_option maxRecDepth 100000
namespace Dl
open PySem L2

/-! ## readings -/
structure Cq where
  K : PySem.W.Frag
  mg : Str → Option Value
  W : WX
abbrev W0 : WX := fun _ _ _ _ => False
abbrev _root_.L2.Cx.cq (X : Cx) (W : WX) : Cq := ⟨X.K, X.mg, W⟩
def RX (c : Cq) (m : List Addr) (H : Hp) (x : Exn) (cls : Value) (dd : Option Addr) : Prop :=
  c.mg x.name = some cls ∧ match x.fs with
    | [] => dd = none
    | fs => ∃ d ws, dd = some d ∧ H d = some (.xd ws) ∧ ws.map (·.1) = fs.map (·.1) ∧ RDs c.K m H (ws.map (·.2)) (fs.map (·.2))
def Post {α β : Type} (c : Cq) (rel : List Addr → Hp → β → α → Prop) (m : List Addr) (H : Hp) (σ : St) (Q : β → Hp → Prop) : R α → Prop
  | .ok a S' => ∀ b H' m', Ext c.K m H m' H' → RS c.K m' H' S' → rel m' H' b a → Q b H'
  | .ex x S' => ∀ cls dd H' m', Ext c.K m H m' H' → RS c.K m' H' S' → RX c m' H' x cls dd → c.W cls dd σ H'
  | .no => False
def PostS (c : Cq) (m : List Addr) (H : Hp) (Dn : Ends) : Out → Prop
  | .nx ρ' S' => ∀ σ' H' m', Ext c.K m H m' H' → RE c.K m' H' σ' ρ' → RS c.K m' H' S' → Dn.nx σ' H'
  | .bk ρ' S' => ∀ σ' H' m', Ext c.K m H m' H' → RE c.K m' H' σ' ρ' → RS c.K m' H' S' → Dn.bk σ' H'
  | .ct ρ' S' => ∀ σ' H' m', Ext c.K m H m' H' → RE c.K m' H' σ' ρ' → RS c.K m' H' S' → Dn.ct σ' H'
  | .rt d S' => ∀ v H' m', Ext c.K m H m' H' → RS c.K m' H' S' → RD c.K m' H' v d → Dn.rt v H'
  | .ex x ρ' S' => ∀ cls dd σ' H' m', Ext c.K m H m' H' → RE c.K m' H' σ' ρ' → RS c.K m' H' S' → RX c m' H' x cls dd → c.W cls dd σ' H'
  | .no => False
abbrev relD (c : Cq) : List Addr → Hp → V → D → Prop := fun m H v d => RD c.K m H v d
abbrev relDs (c : Cq) : List Addr → Hp → List V → List D → Prop := fun m H v d => RDs c.K m H v d
abbrev relB {α : Type} : List Addr → Hp → α → α → Prop := fun _ _ a b => a = b
def rdE (c : Cq) (f : EX) : TE := fun σ H Q => ∃ m ρ S, RE c.K m H σ ρ ∧ RS c.K m H S ∧ Post c (relD c) m H σ Q (f ρ S)
def rdT (c : Cq) (f : TX) : TT := fun σ H Q => ∃ m ρ S, RE c.K m H σ ρ ∧ RS c.K m H S ∧ Post c relB m H σ Q (f ρ S)
def rdA (c : Cq) (f : AX) : TA := fun σ H Q => ∃ m ρ S, RE c.K m H σ ρ ∧ RS c.K m H S ∧ Post c (relDs c) m H σ Q (f ρ S)
def rdO (c : Cq) (f : Env → Store → R (Option Int)) : TO := fun σ H Q => ∃ m ρ S, RE c.K m H σ ρ ∧ RS c.K m H S ∧ Post c relB m H σ Q (f ρ S)
def rdS (c : Cq) (g : SX) : TS := fun Dn σ H => ∃ m ρ S, RE c.K m H σ ρ ∧ RS c.K m H S ∧ PostS c m H Dn (g ρ S)
def rdG (c : Cq) (tg : D → SX) : TG := fun v σ H Q => ∃ m ρ S d, RE c.K m H σ ρ ∧ RS c.K m H S ∧ RD c.K m H v d ∧ PostS c m H { nx := Q, rt := fun _ _ => False } (tg d ρ S)
/-- what a def promises: the mirror's answer -/
def rdF (c : Cq) (F : List D → M D) : Sp := fun vs H Q E => ∃ m ds S, RDs c.K m H vs ds ∧ RS c.K m H S ∧ Post { c with W := fun cls dd _ H => E cls dd H } (relD c) m H [] Q (F ds S)

section
variable {α β γ δ : Type} {c : Cq} {rel : List Addr → Hp → β → α → Prop} {rel' : List Addr → Hp → δ → γ → Prop} {m m1 : List Addr} {H H1 : Hp} {σ : St} {ρ : Env} {Q Q' : β → Hp → Prop} {Q2 : δ → Hp → Prop} {Dn : Ends}
theorem Post.mono (e : Ext c.K m H m1 H1) {r : R α} (h : Post c rel m H σ Q r) : Post c rel m1 H1 σ Q r := by
  cases r with
  | ok a S => exact fun b H' m' e' => h b H' m' (e.trans e')
  | ex x S => exact fun cls dd H' m' e' => h cls dd H' m' (e.trans e')
  | no => exact h
theorem Post.imp {r : R α} (h : Post c rel m H σ Q r) (k : ∀ b H', Q b H' → Q' b H') : Post c rel m H σ Q' r := by
  cases r with
  | ok a S => exact fun b H' m' e rs rl => k _ _ (h b H' m' e rs rl)
  | ex x S => exact h
  | no => exact h
theorem Post.bind {r : R α} {k : α → Store → R γ} (h : Post c rel' m H σ Q2 (r.bind k)) :
    Post c rel m H σ (fun b H1 => ∃ m1 a S1, Ext c.K m H m1 H1 ∧ RS c.K m1 H1 S1 ∧ rel m1 H1 b a ∧ Post c rel' m1 H1 σ Q2 (k a S1)) r := by
  cases r with
  | ok a S => exact fun b H' m' e rs rl => ⟨m', a, S, e, rs, rl, Post.mono e h⟩
  | ex x S => exact h
  | no => exact h
theorem PostS.mono (e : Ext c.K m H m1 H1) {o : Out} (h : PostS c m H Dn o) : PostS c m1 H1 Dn o := by
  cases o with
  | nx ρ S => exact fun σ' H' m' e' => h σ' H' m' (e.trans e')
  | bk ρ S => exact fun σ' H' m' e' => h σ' H' m' (e.trans e')
  | ct ρ S => exact fun σ' H' m' e' => h σ' H' m' (e.trans e')
  | rt d S => exact fun σ' H' m' e' => h σ' H' m' (e.trans e')
  | ex x ρ S => exact fun cls dd σ' H' m' e' => h cls dd σ' H' m' (e.trans e')
  | no => exact h
theorem Post.out {r : R α} {k : α → Store → Out} (re : RE c.K m H σ ρ) (h : PostS c m H Dn (r.out ρ k)) :
    Post c rel m H σ (fun b H1 => ∃ m1 a S1, Ext c.K m H m1 H1 ∧ RS c.K m1 H1 S1 ∧ rel m1 H1 b a ∧ RE c.K m1 H1 σ ρ ∧ PostS c m1 H1 Dn (k a S1)) r := by
  cases r with
  | ok a S => exact fun b H' m' e rs rl => ⟨m', a, S, e, rs, rl, re.mono e, PostS.mono e h⟩
  | ex x S => exact fun cls dd H' m' e rs rx => h cls dd σ H' m' e (re.mono e) rs rx
  | no => exact h
end
section
variable {X : Cx}
theorem PEwk {e : Expr} {t t' : TE} (h : PE X e t) (k : ∀ σ H Q, t' σ H Q → t σ H Q) : PE X e t' := ⟨fun pins s σ H Q I q => h.run pins s σ H Q I (k _ _ _ q)⟩
theorem PTwk {e : Expr} {t t' : TT} (h : PT X e t) (k : ∀ σ H Q, t' σ H Q → t σ H Q) : PT X e t' := ⟨fun pins s σ H Q I q => h.run pins s σ H Q I (k _ _ _ q)⟩
theorem PWwk {e : Expr} {t t' : TT} (h : PW X e t) (k : ∀ σ H Q, t' σ H Q → t σ H Q) : PW X e t' := ⟨fun wh pins s σ H Q I q => h.run wh pins s σ H Q I (k _ _ _ q)⟩
theorem PAwk {es : List Expr} {t t' : TA} (h : PA X es t) (k : ∀ σ H Q, t' σ H Q → t σ H Q) : PA X es t' := ⟨fun pos pins s σ H Q I q => h.run pos pins s σ H Q I (k _ _ _ q)⟩
theorem POwk {e : Option Expr} {t t' : TO} (h : PO X e t) (k : ∀ σ H Q, t' σ H Q → t σ H Q) : PO X e t' := ⟨fun pins s σ H Q I q => h.run pins s σ H Q I (k _ _ _ q)⟩
theorem PSwk {e : Stmt} {t t' : TS} (h : PS X e t) (k : ∀ D σ H, t' D σ H → t D σ H) : PS X e t' := ⟨fun pins s σ H D I q => h.run pins s σ H D I (k _ _ _ q)⟩
theorem PSswk {e : List Stmt} {t t' : TS} (h : PSs X e t) (k : ∀ D σ H, t' D σ H → t D σ H) : PSs X e t' := ⟨fun pins s σ H D I q => h.run pins s σ H D I (k _ _ _ q)⟩
theorem PGwk {e : Expr} {t t' : TG} (h : PG X e t) (k : ∀ v σ H Q, t' v σ H Q → t v σ H Q) : PG X e t' := ⟨fun pins s σ H v u Q I r q => h.run pins s σ H v u Q I r (k _ _ _ _ q)⟩
theorem PIwk {tg e : Expr} {t t' : TI} (h : PI X tg e t) (k : ∀ σ H Q, t' σ H Q → t σ H Q) : PI X tg e t' := ⟨fun pins s σ H Q I q => h.run pins s σ H Q I (k _ _ _ q)⟩
end

/-! ## expressions -/
def toR {α : Type} : Option (α × Store) → R α
  | some (a, S) => .ok a S
  | none => .no
@[simp] theorem toR_some {α : Type} (a : α) (S : Store) : toR (some (a, S)) = .ok a S := rfl
@[simp] theorem toR_none {α : Type} : toR (none : Option (α × Store)) = .no := rfl
def eV (i : Nat) : EX := fun ρ S => match ρ[i]? with
  | some (some d) => .ok d S
  | _ => .no
def eC (d : D) : EX := fun _ S => .ok d S
/-- two operands, by values -/
def e2 (g : D → D → Store → Option (D × Store)) (fa fb : EX) : EX := fun ρ S => (fa ρ S).bind fun x S1 => (fb ρ S1).bind fun y S2 => toR (g x y S2)
def e1 (g : D → Store → Option (D × Store)) (fa : EX) : EX := fun ρ S => (fa ρ S).bind fun x S1 => toR (g x S1)
def aN : AX := fun _ S => .ok [] S
def aC (fa : EX) (fr : AX) : AX := fun ρ S => (fa ρ S).bind fun x S1 => (fr ρ S1).bind fun xs S2 => .ok (x :: xs) S2
def eB (g : List D → Store → Option (D × Store)) (fa : AX) : EX := fun ρ S => (fa ρ S).bind fun xs S1 => toR (g xs S1)
def eF (F : List D → M D) (fa : AX) : EX := fun ρ S => (fa ρ S).bind fun xs S1 => F xs S1
/-- a method of a built-in type -/
def eM (g : D → List D → Store → Option (D × Store)) (fo : EX) (fa : AX) : EX := fun ρ S => (fo ρ S).bind fun x S1 => (fa ρ S1).bind fun xs S2 => toR (g x xs S2)
/-- by values -/
def VPost (K : PySem.W.Frag) (m : List Addr) (H : Hp) (Q : VK) : Option (D × Store) → Prop
  | some (d, S') => ∀ v H' m', Ext K m H m' H' → RS K m' H' S' → RD K m' H' v d → Q v H'
  | none => False
theorem VPost.of {c : Cq} {m : List Addr} {H : Hp} {σ : St} {Q : VK} {o : Option (D × Store)} (h : Post c (relD c) m H σ Q (toR o)) : VPost c.K m H Q o := by
  cases o with
  | none => exact h
  | some p => exact h
def rd1 (K : PySem.W.Frag) (g : D → Store → Option (D × Store)) : V → Hp → VK → Prop := fun v H Q => ∃ m x S, RD K m H v x ∧ RS K m H S ∧ VPost K m H Q (g x S)
def rd2 (K : PySem.W.Frag) (g : D → D → Store → Option (D × Store)) : R2 := fun v u H Q => ∃ m x y S, RD K m H v x ∧ RD K m H u y ∧ RS K m H S ∧ VPost K m H Q (g x y S)
def rdC (K : PySem.W.Frag) (g : List D → Store → Option (D × Store)) : List V → Hp → VK → Prop := fun vs H Q => ∃ m xs S, RDs K m H vs xs ∧ RS K m H S ∧ VPost K m H Q (g xs S)
def rdM (K : PySem.W.Frag) (g : D → List D → Store → Option (D × Store)) : V → List V → Hp → VK → Prop := fun v vs H Q => ∃ m x xs S, RD K m H v x ∧ RDs K m H vs xs ∧ RS K m H S ∧ VPost K m H Q (g x xs S)
section
variable {X : Cx} {W : WX} {a b e : Expr} {es : List Expr} {fa fb fe : EX} {fr fx : AX} {pos p : Pos}
theorem d_v (i : Nat) {x : Str} (hN : X.N[i]? = some x := by rfl) (hv : Vis X.env.scope x := by first | exact Or.inl rfl | exact Or.inr (Or.inl rfl) | exact Or.inr (Or.inr rfl)) (hd : (x == ("__debug__" : Str)) = false := by decide)
    (hcd : (x == ("__classdict__" : Str)) = false := by decide) : PE X (.Name x pos) (rdE (X.cq W) (eV i)) := PEwk (pv i hN hv hd hcd) fun σ H Q h => by
  obtain ⟨m, ρ, S, re, rs, h⟩ := h
  unfold eV at h
  split at h
  · rename_i d e
    obtain ⟨v, h1, h2⟩ := re.at_ e
    exact ⟨v, h1, h v H m .refl rs h2⟩
  · exact h.elim
theorem d_c {v : V} {d : D} (h : PE X e (tC v)) (r : ∀ m H, RD X.K m H v d) : PE X e (rdE (X.cq W) (eC d)) := PEwk h fun σ H Q h => by
  obtain ⟨m, ρ, S, re, rs, h⟩ := h
  exact h v H m .refl rs (r m H)
theorem d_int {i j} : PE X (.Constant (.int i) j pos) (rdE (X.cq W) (eC (.int i))) := d_c pe_int fun _ _ => .int i
theorem d_bl {i j} : PE X (.Constant (.bool i) j pos) (rdE (X.cq W) (eC (.bl i))) := d_c pe_bl fun _ _ => .bl i
theorem d_non {j} : PE X (.Constant .none j pos) (rdE (X.cq W) (eC .non)) := d_c pe_non fun _ _ => .non
theorem d_str {x : Str} {j} (h : x.length ≤ 16777216 := by decide +kernel) : PE X (.Constant (.str x) j pos) (rdE (X.cq W) (eC (.str x))) := d_c pe_str fun _ _ => .str h
/-- a builtin's name as a value -/
theorem d_blt {x : Str} {v : V} {u : Value} (hg : Gl X x) (hm : X.mg x = none) (hv : bootBuiltins x = some u) (r : RelV v u) (hn : x ≠ "__name__" := by decide) (hd : (x == ("__debug__" : Str)) = false := by decide) :
    PE X (.Name x pos) (rdE (X.cq W) (eC (.raw v))) := d_c (pe_bltn hg hm hv r hn hd) fun _ _ => .raw v
/-- a module's constant -/
theorem d_glob {x : Str} {v : V} {d : D} {u : Value} (hg : Gl X x) (hm : X.mg x = some u) (r : RelV v u) (rd : ∀ m H, RD X.K m H v d) (hd : (x == ("__debug__" : Str)) = false := by decide) :
    PE X (.Name x pos) (rdE (X.cq W) (eC d)) := d_c (pe_glob hg hm r hd) rd
theorem d_2h {r : R2} (h : PE X e (tOp r (rdE (X.cq W) fa) (rdE (X.cq W) fb))) {g : D → D → Store → Option (D × Store)} (k : ∀ v u H Q, rd2 X.K g v u H Q → r v u H Q) : PE X e (rdE (X.cq W) (e2 g fa fb)) := PEwk h fun σ H Q h => by
  obtain ⟨m, ρ, S, re, rs, h⟩ := h
  exact ⟨m, ρ, S, re, rs, (Post.bind h).imp fun v H1 ⟨m1, x, S1, e, rs1, rd, h1⟩ => ⟨m1, ρ, S1, re.mono e, rs1, (Post.bind h1).imp fun u H2 ⟨m2, y, S2, e2, rs2, rd2, h2⟩ =>
    k _ _ _ _ ⟨m2, x, y, S2, rd.mono e2, rd2, rs2, VPost.of h2⟩⟩⟩
theorem d_op {op : Operator} {g : D → D → Store → Option (D × Store)} (ho : OpR X (binaryOp op) (rd2 X.K g)) (ha : PE X a (rdE (X.cq W) fa)) (hb : PE X b (rdE (X.cq W) fb)) : PE X (.BinOp a op b pos) (rdE (X.cq W) (e2 g fa fb)) :=
  d_2h (pe_op ho ha hb) fun _ _ _ _ h => h
end
end Dl

set_option Elab.async false
set_option linter.all false
set_option maxRecDepth 100000
namespace HT
open PySem PyProof.Rows
theorem cat_tup0 {prog : Program} {w : World} {A : Around} {E : Value → Shared → Prop} {s : Shared} {t b : Addr} {ws : List Value} {Q : Value → Shared → Prop} (ht : IsTup s.heap t ([] : List Value).toArray) (hb : IsTup s.heap b ws.toArray)
    (h1 : Q (.ref b) s) : wpAny (model prog w) A (binaryOp .Add (.ref t) (.ref b)) Q E s := by
  obtain ⟨⟨cls, dd, data, sl⟩, ho, hc, n, hd⟩ := id ht
  obtain ⟨⟨cls2, dd2, data2, sl2⟩, ho2, hc2, n2, hd2⟩ := id hb
  simp only at hc hd hc2 hd2
  subst hc hd hc2 hd2
  exact concat_meets ⟨_, ho, rfl⟩ ⟨_, ho2, rfl⟩ noFill_tuple_add seq_tuple_add PySem.F.slot_tuple_add PySem.F.entry_tuple_add (PySem.F.args_tuple_add_2 _ _)
      (PyProof.Rows.tuple_addW0 t b ([] : List Value).toArray ws.toArray n n2 dd dd2 sl sl2 (by simp)) ⟨ho, ho2, h1⟩
end HT
namespace Dl
open PySem L2

/-! ## operations by values -/
def LIM : Nat := 16777216
theorem lim_eq : LIM = sizeLine := by rw [sizeLine_eq]; rfl
def catL (S : Store) (l k : Nat) : Option (D × Store) := match S[l]?, S[k]? with
    | some (.lst xs), some (.lst ys) => if xs.length + ys.length ≤ LIM then some (.ref S.length, S ++ [.lst (xs ++ ys)]) else none
    | _, _ => none
def gAdd : D → D → Store → Option (D × Store)
  | .int i, .int j, S => some (.int (i + j), S)
  | .str a, .str b, S => if a.length + b.length ≤ LIM then some (.str (a ++ b), S) else none
  | .tup (x :: xs), .tup ys, S => if (x :: xs).length + ys.length ≤ LIM then some (.tup (x :: xs ++ ys), S) else none
  | .tup [], .tup ys, S => some (.tup ys, S)
  | .ref l, .ref k, S => catL S l k
  | _, _, _ => none
def gSub : D → D → Store → Option (D × Store)
  | .int i, .int j, S => some (.int (i - j), S)
  | _, _, _ => none
def gMul : D → D → Store → Option (D × Store)
  | .int i, .int j, S => if (-(2 ^ 64) < i ∧ i < 2 ^ 64) ∨ (-(2 ^ 64) < j ∧ j < 2 ^ 64) then some (.int (i * j), S) else none
  | _, _, _ => none
def gFdiv : D → D → Store → Option (D × Store)
  | .int i, .int j, S => if 0 < j ∧ j < 1073741824 then some (.int (i / j), S) else none
  | _, _, _ => none
def gMod : D → D → Store → Option (D × Store)
  | .int i, .int j, S => if 0 < j then some (.int (i % j), S) else none
  | _, _, _ => none
def gPow : D → D → Store → Option (D × Store)
  | .int i, .int j, S => if 0 ≤ j ∧ j ≤ 1000000 ∧ i.natAbs < 2 ^ 64 then some (.int (i ^ j.toNat), S) else none
  | _, _, _ => none
section
variable {X : Cx}
theorem str_app_len (a b : Str) : (a ++ b).length = a.length + b.length := by
  show (a.cps ++ b.cps).size = a.cps.size + b.cps.size
  exact Array.size_append
/-- a new tuple, without a dict -/
theorem lay_tup {pins : List (Addr × Obj)} {σ : St} {H : Hp} {s : Shared} {xs : List V} {us : List Value} {Q : VK} {tk : Nat} {n : Nat} (I : Inv X pins σ H s) (hz : xs.length ≤ sizeLine) (r : Vals xs us)
    (q : ∀ o, o.cls = .type "tuple" → o.dict = none → Q (.ref s.heap.objs.size) (upd H s.heap.objs.size (.frz o (.tup xs)))) :
    EP X pins σ Q (.ref s.heap.objs.size) { s with heap := s.heap.push { cls := .type "tuple", data := .seq us.toArray n }, toks := tk } := by
  refine ⟨.ref s.heap.objs.size, _, I.laid (t' := tk) (o := .frz { cls := .type "tuple", data := .seq us.toArray n } (.tup xs)) (fun b ob q => Heap.get?_push_of_some _ q) (Nat.le_refl _) ?_, rfl, q _ rfl rfl⟩
  exact ⟨Heap.get?_push_size _ rfl, hz, us, r, _, Heap.get?_push_size _ rfl, rfl, _, rfl⟩
/-- what VPost asks, for a new tuple -/
theorem vp_tup {K : PySem.W.Frag} {m : List Addr} {H : Hp} {S : Store} {Q : VK} {p : Addr} {o : Obj} {xs : List V} {ds : List D} (rs : RS K m H S) (hp : H p = none) (hc : o.cls = .type "tuple") (hd : o.dict = none) (r : RDs K m H xs ds)
    (h : ∀ v H' m', Ext K m H m' H' → RS K m' H' S → RD K m' H' v (.tup ds) → Q v H') : Q (.ref p) (upd H p (.frz o (.tup xs))) := by
  obtain ⟨e, rs'⟩ := rs.new (o := .frz o (.tup xs)) hp
  exact h _ _ m e rs' (.tup (.inl ⟨o, upd_same, hc, hd⟩) (r.mono e))
/-- .. for a new list -/
theorem vp_lst {K : PySem.W.Frag} {m : List Addr} {H : Hp} {S : Store} {Q : VK} {p : Addr} {xs : List V} {ds : List D} (rs : RS K m H S) (hp : H p = none) (r : RDs K m H xs ds)
    (h : ∀ v H' m', Ext K m H m' H' → RS K m' H' (S ++ [.lst ds]) → RD K m' H' v (.ref S.length) → Q v H') : Q (.ref p) (upd H p (.lst xs)) := by
  obtain ⟨e, rs'⟩ := rs.push (o := .lst xs) (c := .lst ds) hp fun m' e' => ⟨xs, upd_same, r.mono e'⟩
  refine h _ _ _ e rs' (.ref ?_)
  rw [← rs.len, List.getElem?_append_right (Nat.le_refl _), Nat.sub_self]
  rfl
theorem o_add : OpR X (binaryOp .Add) (rd2 X.K gAdd) := by
  intro pins s σ H v u vv uu Q I rv ru ⟨m, x, y, S, hx, hy, rs, h⟩
  cases hx with
  | int i =>
    cases hy with
    | int j => exact op_add pins s σ H _ _ vv uu Q I rv ru ⟨i, j, rfl, rfl, h _ _ m .refl rs (.int _)⟩
    | _ => exact (show False from h).elim
  | str ha =>
    cases hy with
    | str hb =>
      change VPost X.K m H Q (ite _ _ _) at h
      split at h
      · rename_i hz
        exact op_add_str pins s σ H _ _ vv uu Q I rv ru ⟨_, _, rfl, rfl, by rw [← lim_eq]; exact hz, h _ _ m .refl rs (.str (by rw [str_app_len]; exact hz))⟩
      · exact h.elim
    | _ => exact (show False from h).elim
  | @tup a vs ds ha r =>
    cases hy with
    | @tup b ws es hb r' =>
      cases ds with
      | nil =>
        cases rv
        cases ru
        obtain ⟨its, r1, p1, _⟩ := I.tuple ha.sq
        obtain ⟨its2, r2, p2, _⟩ := I.tuple hb.sq
        cases r
        cases r1
        exact HT.cat_tup0 p1 p2 ⟨.ref b, H, I, rfl, h _ _ m .refl rs (.tup hb r')⟩
      | cons d ds =>
        change VPost X.K m H Q (ite _ _ _) at h
        split at h
        · rename_i hz
          cases rv
          cases ru
          obtain ⟨its, r1, p1, _⟩ := I.tuple ha.sq
          obtain ⟨its2, r2, p2, _⟩ := I.tuple hb.sq
          have l1 := r.length
          have l2 := r'.length
          have hne : vs ≠ [] := fun z => by rw [z] at l1; cases l1
          refine HT.cat_tup p1 p2 (fun z => hne (r1.nil_iff.mp z)) (fun z => ⟨.ref a, H, I, rfl, ?_⟩) (fun z => ?_) (by rw [← r1.length, ← r2.length, l1, l2, ← lim_eq]; exact hz)
          · have w := r2.nil_iff.mp z
            rw [w] at l2
            have w' : es = [] := List.eq_nil_of_length_eq_zero l2.symm
            subst w'
            refine h _ _ m .refl rs (.tup ha ?_)
            rw [List.append_nil]
            exact r
          · exact lay_tup (tk := s.toks) I (by rw [List.length_append, l1, l2, ← lim_eq]; exact hz) (r1.append r2) fun o hc hd => vp_tup rs (I.hok.fresh (Nat.le_refl _)) hc hd (r.append r') h
        · exact h.elim
    | _ => cases ds <;> exact (show False from h).elim
  | @ref a l ha =>
    cases hy with
    | @ref b k hb =>
      have h : VPost X.K m H Q (catL S l k) := h
      unfold catL at h
      split at h
      · rename_i xs ys e1 e2
        split at h
        · rename_i hz
          obtain ⟨vs, h1, r1⟩ := rs.wlst ha e1
          obtain ⟨ws, h2, r2⟩ := rs.wlst hb e2
          exact op_cat pins s σ H _ _ vv uu Q I rv ru ⟨a, b, vs, ws, rfl, rfl, h1, h2, by rw [r1.length, r2.length, ← lim_eq]; exact hz, fun p hp => vp_lst rs hp (r1.append r2) h⟩
        · exact h.elim
      · exact h.elim
    | _ => exact (show False from h).elim
  | _ => cases hy <;> exact (show False from h).elim
theorem o_int {op : Operator} {C : Int → Int → Prop} [∀ i j, Decidable (C i j)] {g : Int → Int → Int} {r : R2} {gg : D → D → Store → Option (D × Store)} (ho : OpR X (binaryOp op) r)
    (hr : ∀ i j H Q, C i j → Q (.int (g i j)) H → r (.int i) (.int j) H Q) (hg : ∀ x y S, gg x y S = match x, y with
      | .int i, .int j => if C i j then some (.int (g i j), S) else none
      | _, _ => none) : OpR X (binaryOp op) (rd2 X.K gg) := by
  intro pins s σ H v u vv uu Q I rv ru ⟨m, x, y, S, hx, hy, rs, h⟩
  rw [hg] at h
  cases hx with
  | int i =>
    cases hy with
    | int j =>
      by_cases hc : C i j
      · simp only [hc, if_true] at h
        exact ho pins s σ H _ _ vv uu Q I rv ru (hr i j H Q hc (h _ _ m .refl rs (.int _)))
      · simp only [hc, if_false] at h
        exact h.elim
    | _ => exact (show False from h).elim
  | _ => exact (show False from h).elim
theorem o_sub : OpR X (binaryOp .Sub) (rd2 X.K gSub) := o_int (C := fun _ _ => True) (g := fun i j => i - j) op_sub (fun i j H Q _ q => ⟨i, j, rfl, rfl, q⟩) fun x y S => by cases x <;> cases y <;> rfl
theorem o_mul : OpR X (binaryOp .Mult) (rd2 X.K gMul) := o_int (C := fun i j => (-(2 ^ 64) < i ∧ i < 2 ^ 64) ∨ (-(2 ^ 64) < j ∧ j < 2 ^ 64)) (g := fun i j => i * j) op_mul (fun i j H Q c q => ⟨i, j, rfl, rfl, c, q⟩) fun x y S => by cases x <;> cases y <;> rfl
theorem o_fdiv : OpR X (binaryOp .FloorDiv) (rd2 X.K gFdiv) := o_int (C := fun i j => 0 < j ∧ j < 1073741824) (g := fun i j => i / j) op_fdiv (fun i j H Q c q => ⟨i, j, rfl, rfl, c, q⟩) fun x y S => by cases x <;> cases y <;> rfl
theorem o_mod : OpR X (binaryOp .Mod) (rd2 X.K gMod) := o_int (C := fun i j => 0 < j) (g := fun i j => i % j) op_mod (fun i j H Q c q => ⟨i, j, rfl, rfl, c, q⟩) fun x y S => by cases x <;> cases y <;> rfl
theorem o_pow : OpR X (binaryOp .Pow) (rd2 X.K gPow) := o_int (C := fun i j => 0 ≤ j ∧ j ≤ 1000000 ∧ i.natAbs < 2 ^ 64) (g := fun i j => i ^ j.toNat) op_pow (fun i j H Q c q => ⟨i, j, rfl, rfl, c, q⟩) fun x y S => by cases x <;> cases y <;> rfl

/-! ### comparisons -/
end
end Dl

set_option Elab.async false
set_option linter.all false
set_option maxRecDepth 100000
namespace Dl
open PySem L2

/-! ## data -/
mutual
/-- no lists within -/
def D.flat : D → Bool
  | .tup xs => flats xs
  | .ref _ => false
  | .raw _ => false
  | _ => true
def flats : List D → Bool
  | [] => true
  | x :: xs => x.flat && flats xs
end
mutual
def D.dep : D → Nat
  | .tup xs => deps xs + 1
  | _ => 0
def deps : List D → Nat
  | [] => 0
  | x :: xs => max x.dep (deps xs)
end
mutual
/-- == -/
def deq : D → D → Bool
  | .non, .non => true
  | .bl a, .bl b => a == b
  | .bl a, .int j => (if a then 1 else 0) == j
  | .int i, .bl b => i == (if b then 1 else 0)
  | .int i, .int j => i == j
  | .str x, .str y => x == y
  | .tup xs, .tup ys => deqs xs ys
  | _, _ => false
def deqs : List D → List D → Bool
  | [], [] => true
  | x :: xs, y :: ys => deq x y && deqs xs ys
  | _, _ => false
end
mutual
def toPy : D → PyData
  | .non => .none
  | .bl b => .bool b
  | .int i => .int i
  | .str x => .str x
  | .tup xs => .tuple (toPys xs)
  | _ => .none
def toPys : List D → List PyData
  | [] => []
  | x :: xs => toPy x :: toPys xs
end
mutual
theorem plain_toPy : ∀ x : D, (toPy x).plain = true
  | .non => rfl
  | .bl _ => rfl
  | .int _ => rfl
  | .str _ => rfl
  | .tup xs => plains_toPys xs
  | .ref _ => rfl
  | .raw _ => rfl
theorem plains_toPys : ∀ xs : List D, PyData.plainAll (toPys xs) = true
  | [] => rfl
  | x :: xs => by
    show ((toPy x).plain && PyData.plainAll (toPys xs)) = true
    rw [plain_toPy x, plains_toPys xs] <;> rfl
end
mutual
theorem depth_toPy : ∀ x : D, (toPy x).depth = x.dep
  | .non => rfl
  | .bl _ => rfl
  | .int _ => rfl
  | .str _ => rfl
  | .tup xs => by
    show PyData.depthAll (toPys xs) + 1 = deps xs + 1
    rw [depths_toPys xs]
  | .ref _ => rfl
  | .raw _ => rfl
theorem depths_toPys : ∀ xs : List D, PyData.depthAll (toPys xs) = deps xs
  | [] => rfl
  | x :: xs => by
    show max (toPy x).depth (PyData.depthAll (toPys xs)) = max x.dep (deps xs)
    rw [depth_toPy x, depths_toPys xs]
end
mutual
theorem eqv_toPy : ∀ x y : D, x.flat = true → y.flat = true → PyData.eqv (toPy x) (toPy y) = deq x y
  | x, y, hx, hy => by
    cases x with
    | tup xs =>
      cases y with
      | tup ys =>
        show PyData.eqvAll (toPys xs) (toPys ys) = deqs xs ys
        exact eqvs_toPys xs ys hx hy
      | ref _ => cases hy
      | raw _ => cases hy
      | _ => rfl
    | ref _ => cases hx
    | raw _ => cases hx
    | _ =>
      cases y with
      | ref _ => cases hy
      | raw _ => cases hy
      | _ => rfl
theorem eqvs_toPys : ∀ xs ys : List D, flats xs = true → flats ys = true → PyData.eqvAll (toPys xs) (toPys ys) = deqs xs ys
  | [], [], _, _ => rfl
  | [], _ :: _, _, _ => rfl
  | _ :: _, [], _, _ => rfl
  | x :: xs, y :: ys, hx, hy => by
    have hx' : (x.flat && flats xs) = true := hx
    have hy' : (y.flat && flats ys) = true := hy
    rw [Bool.and_eq_true] at hx' hy'
    show (PyData.eqv (toPy x) (toPy y) && PyData.eqvAll (toPys xs) (toPys ys)) = (deq x y && deqs xs ys)
    rw [eqv_toPy x y hx'.1 hy'.1, eqvs_toPys xs ys hx'.2 hy'.2]
end
section
variable {K : PySem.W.Frag} {m : List Addr} {H : Hp}
mutual
theorem dp_of : ∀ {d : D} {v : V}, d.flat = true → RD K m H v d → Dp K H v (toPy d)
  | .non, _, _, r => by cases r; exact .non
  | .bl b, _, _, r => by cases r; exact .bl b
  | .int b, _, _, r => by cases r; exact .int b
  | .str b, _, _, r => by cases r; exact .str b
  | .tup xs, _, h, r => by
    cases r with
    | tup h1 h2 => exact .tup h1.sq (dps_of (show flats xs = true from h) h2)
theorem dps_of : ∀ {ds : List D} {vs : List V}, flats ds = true → RDs K m H vs ds → DpAll K H vs (toPys ds)
  | [], _, _, r => by cases r; exact .nil
  | d :: ds, _, h, r => by
    have h' : (d.flat && flats ds) = true := h
    rw [Bool.and_eq_true] at h'
    cases r with
    | cons h1 h2 => exact .cons (dp_of h'.1 h1) (dps_of h'.2 h2)
end
end
/-- a value as data: flat, or a list of flat ones -/
def asP (S : Store) (x : D) : Option PyData := if x.flat then some (toPy x) else match x with
  | .ref l => match lstAt S l with
    | some xs => if flats xs then some (.list (toPys xs)) else none
    | none => none
  | _ => none
theorem asP_flat {S : Store} {x : D} (h : x.flat = true) : asP S x = some (toPy x) := by unfold asP; rw [if_pos h]
theorem asP_of {K : PySem.W.Frag} {m : List Addr} {H : Hp} {S : Store} {x : D} {v : V} {p : PyData} (rs : RS K m H S) (r : RD K m H v x) (h : asP S x = some p) : Dp K H v p ∧ p.plain = true := by
  unfold asP at h
  split at h
  · rename_i hx
    cases h
    exact ⟨dp_of hx r, plain_toPy x⟩
  · split at h
    · rename_i l _
      split at h
      · rename_i xs e
        split at h
        · rename_i hf
          cases h
          cases r with
          | ref ha =>
            obtain ⟨vs, h1, h2⟩ := rs.lst ha e
            exact ⟨.lst h1 (dps_of hf h2), plains_toPys xs⟩
        · cases h
      · cases h
    · cases h
def gEqB (x y : D) (S : Store) : Option Bool := match asP S x, asP S y with
  | some p, some q => if p.depth ≤ 64 then some (PyData.eqv p q) else none
  | _, _ => none
def gEq (x y : D) (S : Store) : Option (D × Store) := (gEqB x y S).map fun b => (.bl b, S)
def gNe (x y : D) (S : Store) : Option (D × Store) := (gEqB x y S).map fun b => (.bl (!b), S)
theorem gEqB_flat {x y : D} {S : Store} (hx : x.flat = true) (hy : y.flat = true) (hd : x.dep ≤ 64) : gEqB x y S = some (deq x y) := by
  unfold gEqB
  rw [asP_flat hx, asP_flat hy]
  show (if (toPy x).depth ≤ 64 then some (PyData.eqv (toPy x) (toPy y)) else none) = _
  rw [depth_toPy, if_pos hd, eqv_toPy x y hx hy]
theorem gEq_flat {x y : D} {S : Store} (hx : x.flat = true) (hy : y.flat = true) (hd : x.dep ≤ 64) : gEq x y S = some (.bl (deq x y), S) := by unfold gEq; rw [gEqB_flat hx hy hd]; rfl
theorem gNe_flat {x y : D} {S : Store} (hx : x.flat = true) (hy : y.flat = true) (hd : x.dep ≤ 64) : gNe x y S = some (.bl (!deq x y), S) := by unfold gNe; rw [gEqB_flat hx hy hd]; rfl
@[simp] theorem gEq_int (i j : Int) (S : Store) : gEq (.int i) (.int j) S = some (.bl (i == j), S) := gEq_flat rfl rfl (Nat.zero_le _)
@[simp] theorem gEq_str (i j : Str) (S : Store) : gEq (.str i) (.str j) S = some (.bl (i == j), S) := gEq_flat rfl rfl (Nat.zero_le _)
@[simp] theorem gNe_int (i j : Int) (S : Store) : gNe (.int i) (.int j) S = some (.bl (!(i == j)), S) := gNe_flat rfl rfl (Nat.zero_le _)
@[simp] theorem gNe_str (i j : Str) (S : Store) : gNe (.str i) (.str j) S = some (.bl (!(i == j)), S) := gNe_flat rfl rfl (Nat.zero_le _)
section
variable {X : Cx}
theorem o_eqB {op : CmpOp} {f : Bool → Bool} {g : D → D → Store → Option (D × Store)} (hg : ∀ x y S, g x y S = (gEqB x y S).map fun b => (.bl (f b), S))
    (rule : ∀ {s : Shared} {a b : Value} {da db : PyData} {as bs : List Addr} {Q E : Value → Shared → Prop}, Reads s.heap a da as → Reads s.heap b db bs → da.plain = true → db.plain = true → X.A.units + min da.depth db.depth < cLine →
      Q (.bool (f (PyData.eqv da db))) s → wpAny (model X.prog X.w) X.A (compareOp op a b) Q E s) (hu : X.A.units + 64 < cLine) : OpR X (compareOp op) (rd2 X.K g) := by
  intro pins s σ H v u vv uu Q I rv ru ⟨m, x, y, S, hx, hy, rs, h⟩
  rw [hg] at h
  unfold gEqB at h
  split at h
  · rename_i p q e1 e2
    split at h
    · rename_i hd
      obtain ⟨d1, p1⟩ := asP_of rs hx e1
      obtain ⟨d2, p2⟩ := asP_of rs hy e2
      obtain ⟨as, r1⟩ := Dp.reads I _ _ _ d1 rv
      obtain ⟨bs, r2⟩ := Dp.reads I _ _ _ d2 ru
      have hm : min p.depth q.depth ≤ p.depth := Nat.min_le_left _ _
      exact rule r1 r2 p1 p2 (by omega) ⟨.bl _, H, I, rfl, h _ _ m .refl rs (.bl _)⟩
    · exact h.elim
  · exact h.elim
theorem o_eq (hu : X.A.units + 64 < cLine) : OpR X (compareOp .Eq) (rd2 X.K gEq) := o_eqB (f := fun b => b) (fun _ _ _ => rfl) PySem.SeqAt.eq_plain hu
theorem o_ne (hu : X.A.units + 64 < cLine) : OpR X (compareOp .NotEq) (rd2 X.K gNe) := o_eqB (f := fun b => !b) (fun _ _ _ => rfl) PySem.SeqAt.ne_plain hu

/-! ### order of ints and texts -/
def gLt : D → D → Store → Option (D × Store)
  | .int i, .int j, S => some (.bl (decide (i < j)), S)
  | .str a, .str b, S => some (.bl (decide (a.cps.toList < b.cps.toList)), S)
  | _, _, _ => none
def gLe : D → D → Store → Option (D × Store)
  | .int i, .int j, S => some (.bl (decide (i ≤ j)), S)
  | .str a, .str b, S => some (.bl (!decide (b.cps.toList < a.cps.toList)), S)
  | _, _, _ => none
def gGt : D → D → Store → Option (D × Store)
  | .int i, .int j, S => some (.bl (decide (j < i)), S)
  | .str a, .str b, S => some (.bl (decide (b.cps.toList < a.cps.toList)), S)
  | _, _, _ => none
def gGe : D → D → Store → Option (D × Store)
  | .int i, .int j, S => some (.bl (decide (j ≤ i)), S)
  | .str a, .str b, S => some (.bl (!decide (a.cps.toList < b.cps.toList)), S)
  | _, _, _ => none
theorem o_ord {op : CmpOp} {fi : Int → Int → Bool} {fs : Str → Str → Bool} {ri rs' : R2} {g : D → D → Store → Option (D × Store)} (hi : OpR X (compareOp op) ri) (hs : OpR X (compareOp op) rs')
    (ki : ∀ i j H Q, Q (.bl (fi i j)) H → ri (.int i) (.int j) H Q) (ks : ∀ i j H Q, Q (.bl (fs i j)) H → rs' (.str i) (.str j) H Q)
    (hg : ∀ x y S, g x y S = match x, y with
      | .int i, .int j => some (.bl (fi i j), S)
      | .str i, .str j => some (.bl (fs i j), S)
      | _, _ => none) : OpR X (compareOp op) (rd2 X.K g) := by
  intro pins s σ H v u vv uu Q I rv ru ⟨m, x, y, S, hx, hy, rs, h⟩
  rw [hg] at h
  cases hx with
  | int i =>
    cases hy with
    | int j => exact hi pins s σ H _ _ vv uu Q I rv ru (ki i j H Q (h _ _ m .refl rs (.bl _)))
    | _ => exact (show False from h).elim
  | str ha =>
    cases hy with
    | str hb => exact hs pins s σ H _ _ vv uu Q I rv ru (ks _ _ H Q (h _ _ m .refl rs (.bl _)))
    | _ => exact (show False from h).elim
  | _ => exact (show False from h).elim
theorem o_lt : OpR X (compareOp .Lt) (rd2 X.K gLt) := o_ord op_lt op_lt_str (fun i j H Q q => ⟨i, j, rfl, rfl, q⟩) (fun i j H Q q => ⟨i, j, rfl, rfl, q⟩) fun x y S => by cases x <;> cases y <;> rfl
theorem o_le : OpR X (compareOp .LtE) (rd2 X.K gLe) := o_ord op_le op_le_str (fun i j H Q q => ⟨i, j, rfl, rfl, q⟩) (fun i j H Q q => ⟨i, j, rfl, rfl, q⟩) fun x y S => by cases x <;> cases y <;> rfl
theorem o_gt : OpR X (compareOp .Gt) (rd2 X.K gGt) := o_ord op_gt op_gt_str (fun i j H Q q => ⟨i, j, rfl, rfl, q⟩) (fun i j H Q q => ⟨i, j, rfl, rfl, q⟩) fun x y S => by cases x <;> cases y <;> rfl
theorem o_ge : OpR X (compareOp .GtE) (rd2 X.K gGe) := o_ord op_ge op_ge_str (fun i j H Q q => ⟨i, j, rfl, rfl, q⟩) (fun i j H Q q => ⟨i, j, rfl, rfl, q⟩) fun x y S => by cases x <;> cases y <;> rfl

/-! ### in: a list or tuple of flat things, a sign of a text -/
def gInB : D → D → Store → Option Bool
  | .str a, .str b, _ => if a.length = 1 then some (decide (a.cps.getD 0 0 ∈ b.cps.toList)) else none
  | x, .tup ys, _ => if x.flat && flats ys && decide (x.dep ≤ 64) then some (ys.any fun y => deq y x) else none
  | x, .ref l, S => match lstAt S l with
    | some ys => if x.flat && flats ys && decide (x.dep ≤ 64) then some (ys.any fun y => deq y x) else none
    | none => none
  | _, _, _ => none
def gIn (x y : D) (S : Store) : Option (D × Store) := (gInB x y S).map fun b => (.bl b, S)
def gNin (x y : D) (S : Store) : Option (D × Store) := (gInB x y S).map fun b => (.bl (!b), S)
theorem any_toPys {x : D} (hx : x.flat = true) : ∀ {ys : List D}, flats ys = true → ((toPys ys).any fun y => PyData.eqv y (toPy x)) = ys.any fun y => deq y x
  | [], _ => rfl
  | y :: ys, h => by
    have h' : (y.flat && flats ys) = true := h
    rw [Bool.and_eq_true] at h'
    show (PyData.eqv (toPy y) (toPy x) || (toPys ys).any _) = (deq y x || ys.any _)
    rw [eqv_toPy y x h'.1 hx, any_toPys hx h'.2]
theorem sign_of {a : Str} (h : a.length = 1) : a = ⟨#[a.cps.getD 0 0]⟩ := by
  obtain ⟨⟨l⟩⟩ := a
  have h' : l.length = 1 := h
  match l, h' with
  | [c], _ => rfl
theorem o_inB {op : CmpOp} {f : Bool → Bool} {g : D → D → Store → Option (D × Store)} {rs' : R2} (hg : ∀ x y S, g x y S = (gInB x y S).map fun b => (.bl (f b), S)) (hs : OpR X (compareOp op) rs')
    (ks : ∀ (c : Nat) (z : Str) H Q, Q (.bl (f (decide (c ∈ z.cps.toList)))) H → rs' (.str ⟨#[c]⟩) (.str z) H Q)
    (rl : ∀ {s : Shared} {c x : Value} {xs : List PyData} {d : PyData} {as bs : List Addr} {Q E : Value → Shared → Prop}, Reads s.heap c (.list xs) as → Reads s.heap x d bs → PyData.plainAll xs = true → d.plain = true →
      X.A.units + 1 + min (PyData.depthAll xs) d.depth < cLine → Q (.bool (f (xs.any fun y => PyData.eqv y d))) s → wpAny (model X.prog X.w) X.A (compareOp op x c) Q E s)
    (rt : ∀ {s : Shared} {c x : Value} {xs : List PyData} {d : PyData} {as bs : List Addr} {Q E : Value → Shared → Prop}, Reads s.heap c (.tuple xs) as → Reads s.heap x d bs → PyData.plainAll xs = true → d.plain = true →
      X.A.units + 1 + min (PyData.depthAll xs) d.depth < cLine → Q (.bool (f (xs.any fun y => PyData.eqv y d))) s → wpAny (model X.prog X.w) X.A (compareOp op x c) Q E s)
    (hu : X.A.units + 65 < cLine) : OpR X (compareOp op) (rd2 X.K g) := by
  intro pins s σ H v u vv uu Q I rv ru ⟨m, x, y, S, hx, hy, rs, h⟩
  rw [hg] at h
  have room : ∀ (d : D) (ps : List PyData), d.dep ≤ 64 → X.A.units + 1 + min (PyData.depthAll ps) (toPy d).depth < cLine := fun d ps hd => by
    rw [depth_toPy]
    have hm : min (PyData.depthAll ps) d.dep ≤ d.dep := Nat.min_le_right _ _
    omega
  have seqT : ∀ {a : Addr} {vs : List V} {ys : List D} {c : Bool}, TupAt X.K H a vs → RDs X.K m H vs ys → u = .ref a → (x.flat && flats ys && decide (x.dep ≤ 64)) = true → Q (.bl (f (ys.any fun y => deq y x))) H →
      wpAny (model X.prog X.w) X.A (compareOp op vv uu) (EP X pins σ Q) X.xe s := fun {a vs ys c} ht r e hc q => by
    simp only [Bool.and_eq_true, decide_eq_true_eq] at hc
    obtain ⟨⟨h1, h2⟩, h3⟩ := hc
    subst e
    obtain ⟨as, r1⟩ := Dp.reads I _ _ _ (dp_of h1 hx) rv
    obtain ⟨bs, r2⟩ := Dp.reads I _ _ _ (Dp.tup ht.sq (dps_of h2 r)) ru
    exact rt r2 r1 (plains_toPys ys) (plain_toPy x) (room x _ h3) ⟨.bl _, H, I, rfl, by rw [any_toPys h1 h2]; exact q⟩
  have seqL : ∀ {a : Addr} {vs : List V} {ys : List D} {c : Bool}, SqL X.K H a vs → RDs X.K m H vs ys → u = .ref a → (x.flat && flats ys && decide (x.dep ≤ 64)) = true → Q (.bl (f (ys.any fun y => deq y x))) H →
      wpAny (model X.prog X.w) X.A (compareOp op vv uu) (EP X pins σ Q) X.xe s := fun {a vs ys c} ht r e hc q => by
    simp only [Bool.and_eq_true, decide_eq_true_eq] at hc
    obtain ⟨⟨h1, h2⟩, h3⟩ := hc
    subst e
    obtain ⟨as, r1⟩ := Dp.reads I _ _ _ (dp_of h1 hx) rv
    obtain ⟨bs, r2⟩ := Dp.reads I _ _ _ (Dp.lst ht (dps_of h2 r)) ru
    exact rl r2 r1 (plains_toPys ys) (plain_toPy x) (room x _ h3) ⟨.bl _, H, I, rfl, by rw [any_toPys h1 h2]; exact q⟩
  unfold gInB at h
  split at h
  · rename_i a b
    split at h
    · rename_i ha
      have e := sign_of ha
      cases hx
      cases hy
      rw [e] at rv
      exact hs pins s σ H _ _ vv uu Q I rv ru (ks _ _ H Q (h _ _ m .refl rs (.bl _)))
    · exact h.elim
  · rename_i ys _
    split at h
    · rename_i hc
      cases hy with
      | tup ht r => exact seqT (c := true) ht r rfl hc (h _ _ m .refl rs (.bl _))
    · exact h.elim
  · rename_i l
    split at h
    · rename_i ys e
      split at h
      · rename_i hc
        cases hy with
        | ref ha =>
          obtain ⟨vs, h1, h2⟩ := rs.lst ha e
          exact seqL (c := true) h1 h2 rfl hc (h _ _ m .refl rs (.bl _))
      · exact h.elim
    · exact h.elim
  · exact h.elim
theorem o_in (hu : X.A.units + 65 < cLine) : OpR X (compareOp .In) (rd2 X.K gIn) := o_inB (f := fun b => b) (fun _ _ _ => rfl) op_in_sign (fun c z H Q q => ⟨c, z, rfl, rfl, q⟩) PySem.SeqAt.in_list_data PySem.SeqAt.in_tuple_data hu
theorem o_nin (hu : X.A.units + 65 < cLine) : OpR X (compareOp .NotIn) (rd2 X.K gNin) := o_inB (f := fun b => !b) (fun _ _ _ => rfl) op_notIn_sign (fun c z H Q q => ⟨c, z, rfl, rfl, q⟩) PySem.SeqAt.notIn_list_data PySem.SeqAt.notIn_tuple_data hu
end
end Dl

set_option Elab.async false
set_option linter.all false
set_option maxRecDepth 100000
namespace Dl
open PySem L2

/-! ## items, slices -/
def gIx : D → D → Store → Option (D × Store)
  | .tup xs, .int i, S => (atI xs i).map fun d => (d, S)
  | .ref l, .int i, S => (lstAt S l).bind fun xs => (atI xs i).map fun d => (d, S)
  | .str x, .int i, S => (atI x.cps.toList i).map fun c => (.str ⟨#[c]⟩, S)
  | _, _, _ => none
def cutD {α : Type} (xs : List α) (lo hi : Option Int) : List α := (xs.drop (HT.sIx xs.length 0 lo)).take (HT.sIx xs.length xs.length hi - HT.sIx xs.length 0 lo)
def gSl : D → Option Int → Option Int → Store → Option (D × Store)
  | .tup xs, lo, hi, S => some (.tup (cutD xs lo hi), S)
  | .ref l, lo, hi, S => (lstAt S l).map fun xs => (.ref S.length, S ++ [.lst (cutD xs lo hi)])
  | .str x, lo, hi, S => some (.str (cutS x lo hi), S)
  | _, _, _, _ => none
theorem cutS_le (x : Str) (lo hi : Option Int) : (cutS x lo hi).length ≤ x.length := by
  show ((x.cps.toList.drop _).take _).toArray.size ≤ x.cps.size
  rw [List.size_toArray, List.length_take, List.length_drop, Array.length_toList]
  omega
section
variable {K : PySem.W.Frag} {m : List Addr} {H : Hp}
theorem RDs.atI {vs : List V} {ds : List D} (r : RDs K m H vs ds) {i : Int} {d : D} (h : atI ds i = some d) : ∃ v, L2.atI vs i = some v ∧ RD K m H v d := by
  unfold L2.atI at h ⊢
  rw [r.length]
  cases e : ixN ds.length i with
  | none => rw [e] at h; cases h
  | some j =>
    rw [e] at h
    exact r.get h
theorem RDs.cut {vs : List V} {ds : List D} (r : RDs K m H vs ds) (lo hi : Option Int) : RDs K m H (cutV vs lo hi) (cutD ds lo hi) := by
  unfold cutV cutD
  rw [r.length]
  exact (r.drop _).take _
end
section
variable {X : Cx}
theorem i_ix : IxR X (rd2 X.K gIx) := by
  intro value slice pins s σ H v u vv uu Q I rv ru ⟨m, x, y, S, hx, hy, rs, h⟩ hs
  cases hx with
  | @str a ha =>
    cases hy with
    | int i =>
      have h : VPost X.K m H Q ((L2.atI a.cps.toList i).map fun c => (.str ⟨#[c]⟩, S)) := h
      cases e : L2.atI a.cps.toList i with
      | none => rw [e] at h; exact h.elim
      | some c =>
        rw [e] at h
        exact ix_str value slice pins s σ H _ _ vv uu Q I rv ru ⟨a, i, c, rfl, rfl, by rw [← lim_eq]; exact ha, e, h _ _ m .refl rs (.str (by show (1 : Nat) ≤ _; decide))⟩ hs
    | _ => exact (show False from h).elim
  | @tup a vs ds ht r =>
    cases hy with
    | int i =>
      have h : VPost X.K m H Q ((L2.atI ds i).map fun c => (c, S)) := h
      cases e : L2.atI ds i with
      | none => rw [e] at h; exact h.elim
      | some d =>
        rw [e] at h
        obtain ⟨w, h1, h2⟩ := r.atI e
        exact ix_tup value slice pins s σ H _ _ vv uu Q I rv ru ⟨a, vs, i, w, rfl, rfl, ht.sq, h1, h _ _ m .refl rs h2⟩ hs
    | _ => exact (show False from h).elim
  | @ref a l hl =>
    cases hy with
    | int i =>
      have h : VPost X.K m H Q ((lstAt S l).bind fun xs => (L2.atI xs i).map fun c => (c, S)) := h
      cases e1 : lstAt S l with
      | none => rw [e1] at h; exact h.elim
      | some xs =>
        rw [e1] at h
        obtain ⟨vs, hq, r⟩ := rs.lst hl e1
        have h : VPost X.K m H Q ((L2.atI xs i).map fun c => (c, S)) := h
        cases e : L2.atI xs i with
        | none => rw [e] at h; exact h.elim
        | some d =>
          rw [e] at h
          obtain ⟨w, h1, h2⟩ := r.atI e
          exact ix_list value slice pins s σ H _ _ vv uu Q I rv ru ⟨a, vs, i, w, rfl, rfl, hq, h1, h _ _ m .refl rs h2⟩ hs
    | _ => exact (show False from h).elim
  | _ => exact (show False from h).elim
def rdSl (K : PySem.W.Frag) (g : D → Option Int → Option Int → Store → Option (D × Store)) : V → Option Int → Option Int → Hp → VK → Prop := fun v lo hi H Q => ∃ m x S, RD K m H v x ∧ RS K m H S ∧ VPost K m H Q (g x lo hi S)
theorem s_sl : SlR X (rdSl X.K gSl) := by
  intro pins s σ H v vv vl vu lo hi sl Q I rv hs pl pu ⟨m, x, S, hx, rs, h⟩
  cases hx with
  | @str a ha => exact sl_str pins s σ H _ vv vl vu lo hi sl Q I rv hs pl pu ⟨a, rfl, by rw [← lim_eq]; exact ha, h _ _ m .refl rs (.str (Nat.le_trans (cutS_le a lo hi) ha))⟩
  | @tup a vs ds ht r =>
    have h : VPost X.K m H Q (some (.tup (cutD ds lo hi), S)) := h
    by_cases hw : HT.sIx ds.length 0 lo = 0 ∧ HT.sIx ds.length ds.length hi = ds.length
    · cases rv
      obtain ⟨its, r1, p, hz⟩ := I.tuple ht.sq
      have hlen : its.toArray.size = vs.length := by rw [List.size_toArray]; exact r1.length.symm
      have ec : cutD ds lo hi = ds := by unfold cutD; rw [hw.1, hw.2, List.drop_zero, Nat.sub_zero, List.take_length]
      refine ⟨"tuple", _, PyProof.Rows.slot_tuple_getitem.lookup, p.typeIs, ?_⟩
      refine getItem_tuple_whole p hs pl pu (by rw [hlen, r.length]; exact hw) ⟨.ref a, H, I, rfl, h _ _ m .refl rs ?_⟩
      rw [ec]
      exact .tup ht r
    · cases rv
      obtain ⟨its, r1, p, hz⟩ := I.tuple ht.sq
      have hlen : its.toArray.size = vs.length := by rw [List.size_toArray]; exact r1.length.symm
      refine ⟨"tuple", _, PyProof.Rows.slot_tuple_getitem.lookup, p.typeIs, ?_⟩
      refine HT.getItem_tuple_cut p hs pl pu (by rw [hlen, r.length]; exact hw) ?_ (by rw [hlen]; exact hz)
      rw [hlen]
      exact lay_tup (tk := s.toks) I (Nat.le_trans (cutV_length vs lo hi) hz) ((r1.drop (HT.sIx vs.length 0 lo)).take (HT.sIx vs.length vs.length hi - HT.sIx vs.length 0 lo)) fun o hc hd =>
        vp_tup rs (I.hok.fresh (Nat.le_refl _)) hc hd (r.cut lo hi) h
  | @ref a l hl =>
    have h : VPost X.K m H Q ((lstAt S l).map fun xs => (.ref S.length, S ++ [.lst (cutD xs lo hi)])) := h
    cases e : lstAt S l with
    | none => rw [e] at h; exact h.elim
    | some xs =>
      rw [e] at h
      obtain ⟨vs, hq, r⟩ := rs.lst hl e
      exact sl_list pins s σ H _ vv vl vu lo hi sl Q I rv hs pl pu ⟨a, vs, rfl, hq, fun p hp => vp_lst rs hp (r.cut lo hi) h⟩
  | _ => exact (show False from h).elim
/-- o[i] = v -/
def gSet : D → D → D → Store → Option Store
  | .ref l, .int k, d, S => match S[l]? with
    | some (.lst xs) => (ixN xs.length k).map fun j => S.set l (.lst (xs.set j d))
    | _ => none
  | _, _, _, _ => none
def rdSet (K : PySem.W.Frag) (g : D → D → D → Store → Option Store) : V → V → V → Hp → (Hp → Prop) → Prop := fun o i v H Q => ∃ m x y z S, RD K m H o x ∧ RD K m H i y ∧ RD K m H v z ∧ RS K m H S ∧ match g x y z S with
  | some S' => ∀ H' m', Ext K m H m' H' → RS K m' H' S' → Q H'
  | none => False
theorem p_set : PSet X (rdSet X.K gSet) := by
  intro pins s σ H o i v ov iv u Q I ro ri rv ⟨m, x, y, z, S, hx, hy, hz, rs, h⟩
  unfold gSet at h
  cases hx with
  | @ref a l hl =>
    cases hy with
    | int k =>
      simp only at h
      cases e : S[l]? with
      | none => rw [e] at h; exact h.elim
      | some c =>
        cases c with
        | lst xs =>
          rw [e] at h
          simp only at h
          cases e2 : ixN xs.length k with
          | none => rw [e2] at h; exact h.elim
          | some j =>
            rw [e2] at h
            simp only [Option.map_some] at h
            obtain ⟨vs, h1, r⟩ := rs.wlst hl e
            refine set_list pins s σ H _ _ v ov iv u Q I ro ri rv ⟨a, vs, k, j, rfl, rfl, h1, by rw [r.length]; exact e2, ?_⟩
            obtain ⟨ex, rs'⟩ := rs.write (o := .lst (vs.set j v)) (c' := .lst (xs.set j z)) hl e rfl rfl fun ex => ⟨_, upd_same, (RDs.set hz j r).mono ex⟩
            exact h _ _ ex rs'
        | _ => rw [e] at h; exact h.elim
    | _ => exact h.elim
  | _ => exact h.elim
end
section
variable {X : Cx} {W : WX} {a b e : Expr} {es : List Expr} {fa fb fe : EX} {fr fx : AX} {pos p p2 : Pos}
theorem d_ix (ha : PE X a (rdE (X.cq W) fa)) (hb : PE X b (rdE (X.cq W) fb)) (hs : PlainIx b := by exact fun _ _ => rfl) : PE X (.Subscript a b pos) (rdE (X.cq W) (e2 gIx fa fb)) :=
  d_2h (pe_ix i_ix ha hb hs) fun _ _ _ _ h => h
def oN : Env → Store → R (Option Int) := fun _ S => .ok none S
def oI (fa : EX) : Env → Store → R (Option Int) := fun ρ S => (fa ρ S).bind fun d S1 => match d with
  | .int i => .ok (some i) S1
  | _ => .no
def eSl (fa : EX) (lo hi : Env → Store → R (Option Int)) : EX := fun ρ S => (fa ρ S).bind fun x S1 => (lo ρ S1).bind fun l S2 => (hi ρ S2).bind fun h S3 => toR (gSl x l h S3)
theorem d_oN : PO X none (rdO (X.cq W) oN) := POwk po_none fun σ H Q ⟨m, ρ, S, re, rs, h⟩ => h none H m .refl rs rfl
theorem d_oI (ha : PE X a (rdE (X.cq W) fa)) : PO X (some a) (rdO (X.cq W) (oI fa)) := POwk (po_some ha) fun σ H Q ⟨m, ρ, S, re, rs, h⟩ =>
  ⟨m, ρ, S, re, rs, (Post.bind h).imp fun v H1 ⟨m1, x, S1, e, rs1, rd, h1⟩ => by
    cases rd with
    | int i => exact ⟨i, rfl, h1 _ _ m1 .refl rs1 rfl⟩
    | _ => exact h1.elim⟩
theorem d_sl {lo hi : Option Expr} {fl fh : Env → Store → R (Option Int)} (ha : PE X a (rdE (X.cq W) fa)) (hl : PO X lo (rdO (X.cq W) fl)) (hh : PO X hi (rdO (X.cq W) fh)) :
    PE X (.Subscript a (.Slice lo hi none p2) pos) (rdE (X.cq W) (eSl fa fl fh)) := PEwk (pe_slice s_sl ha hl hh) fun σ H Q ⟨m, ρ, S, re, rs, h⟩ =>
  ⟨m, ρ, S, re, rs, (Post.bind h).imp fun v H1 ⟨m1, x, S1, e, rs1, rd, h1⟩ => ⟨m1, ρ, S1, re.mono e, rs1, (Post.bind h1).imp fun lv H2 ⟨m2, l, S2, e2, rs2, el, h2⟩ => by
    subst el
    exact ⟨m2, ρ, S2, (re.mono e).mono e2, rs2, (Post.bind h2).imp fun hv H3 ⟨m3, hh', S3, e3, rs3, eh, h3⟩ => by
      subst eh
      exact ⟨m3, x, S3, (rd.mono e2).mono e3, rs3, VPost.of h3⟩⟩⟩⟩
/-! ## arguments, displays, calls of builtins -/
theorem d_aN : PA X [] (rdA (X.cq W) aN) := PAwk pa_nil fun σ H Q ⟨m, ρ, S, re, rs, h⟩ => h [] H m .refl rs .nil
theorem d_aC (he : PE X e (rdE (X.cq W) fe)) (hr : PA X es (rdA (X.cq W) fr)) (hs : starEach (e :: es) X.env = (false, eval e X.env) :: starEach es X.env := by rfl) : PA X (e :: es) (rdA (X.cq W) (aC fe fr)) :=
  PAwk (pa_cons he hr hs) fun σ H Q ⟨m, ρ, S, re, rs, h⟩ => ⟨m, ρ, S, re, rs, (Post.bind h).imp fun v H1 ⟨m1, x, S1, e, rs1, rd, h1⟩ =>
    ⟨m1, ρ, S1, re.mono e, rs1, (Post.bind h1).imp fun vs H2 ⟨m2, xs, S2, e2, rs2, rds, h2⟩ => h2 _ _ m2 .refl rs2 (.cons (rd.mono e2) rds)⟩⟩
def gTpl (xs : List D) (S : Store) : Option (D × Store) := if xs.length ≤ LIM then some (.tup xs, S) else none
def gLsd (xs : List D) (S : Store) : Option (D × Store) := if xs.length ≤ LIM then some (.ref S.length, S ++ [.lst xs]) else none
theorem d_tup {k : Nat} (h : PA X es (rdA (X.cq W) fx)) : PE X (.Tuple es k pos) (rdE (X.cq W) (eB gTpl fx)) := by
  refine ⟨fun pins s σ H Q I ⟨m, ρ, S, re, rs, hq⟩ => ?_⟩
  refine wpAny_Tuple_spliced (thn (h.run pos pins s σ H _ I ⟨m, ρ, S, re, rs, Post.bind hq⟩) fun us s1 ⟨vs, H1, I1, r, m1, xs, S1, e, rs1, rds, h1⟩ => ?_)
  have h1 := VPost.of h1
  unfold gTpl at h1
  split at h1
  · rename_i hz
    have hz' : vs.length ≤ sizeLine := by rw [← lim_eq, rds.length]; exact hz
    exact ⟨by rw [← r.length]; exact hz', lay_tup (tk := s1.toks) I1 hz' r fun o hc hd => vp_tup rs1 (I1.hok.fresh (Nat.le_refl _)) hc hd rds h1⟩
  · exact h1.elim
theorem d_lst (h : PA X es (rdA (X.cq W) fx)) : PE X (.List es pos) (rdE (X.cq W) (eB gLsd fx)) := PEwk (pe_lst h) fun σ H Q ⟨m, ρ, S, re, rs, hq⟩ =>
  ⟨m, ρ, S, re, rs, (Post.bind hq).imp fun vs H1 ⟨m1, xs, S1, e, rs1, rds, h1⟩ => by
    have h1 := VPost.of h1
    unfold gLsd at h1
    split at h1
    · rename_i hz
      exact ⟨by rw [← lim_eq, rds.length]; exact hz, fun p hp => vp_lst rs1 hp rds h1⟩
    · exact h1.elim⟩
theorem d_callB {x : Str} {id : String} {g : List D → Store → Option (D × Store)} (hc : CallR X (.builtin id) (rdC X.K g)) (hg : Gl X x) (hm : X.mg x = none) (hv : bootBuiltins x = some (.builtin id)) (ha : PA X (e :: es) (rdA (X.cq W) fx)) (hn : x ≠ "__name__" := by decide)
    (hdb : (x == ("__debug__" : Str)) = false := by decide) (he : starEach (e :: es) X.env = (false, eval e X.env) :: starEach es X.env := by rfl) (hpl : (backTo pos (starEach es X.env)).any (·.1) = false := by rfl) :
    PE X (.Call (.Name x p) (e :: es) [] pos) (rdE (X.cq W) (eB g fx)) := PEwk (pe_callB hc hg hm hv ha hn hdb he hpl) fun σ H Q ⟨m, ρ, S, re, rs, h⟩ =>
  ⟨m, ρ, S, re, rs, (Post.bind h).imp fun vs H1 ⟨m1, xs, S1, e, rs1, rd, h1⟩ => ⟨m1, xs, S1, rd, rs1, VPost.of h1⟩⟩
theorem d_callT {x : Str} {T : String} {g : List D → Store → Option (D × Store)} (hc : CallR X (.type T) (rdC X.K g)) (hg : Gl X x) (hm : X.mg x = none) (hv : bootBuiltins x = some (.type T)) (ha : PA X (e :: es) (rdA (X.cq W) fx)) (hn : x ≠ "__name__" := by decide)
    (hdb : (x == ("__debug__" : Str)) = false := by decide) (he : starEach (e :: es) X.env = (false, eval e X.env) :: starEach es X.env := by rfl) (hpl : (backTo pos (starEach es X.env)).any (·.1) = false := by rfl) :
    PE X (.Call (.Name x p) (e :: es) [] pos) (rdE (X.cq W) (eB g fx)) := PEwk (pe_callTy hc hg hm hv ha hn hdb he hpl) fun σ H Q ⟨m, ρ, S, re, rs, h⟩ =>
  ⟨m, ρ, S, re, rs, (Post.bind h).imp fun vs H1 ⟨m1, xs, S1, e, rs1, rd, h1⟩ => ⟨m1, xs, S1, rd, rs1, VPost.of h1⟩⟩
/-- a method of a built-in type -/
theorem d_bm {o : Expr} {fo : EX} {T id : String} {name : Str} {apos cpos : Pos} {g : D → List D → Store → Option (D × Store)} (pa : PlainAttrs T) (slot : Slot T name id) (hty : typeOf (.builtin id) = pure (.type "method_descriptor")) (hm : MtR X id (rdM X.K g))
    (hT : ∀ v m H x S xs S1, RD X.K m H v x → RS X.K m H S → (g x xs S1).isSome = true → tyV X.K T v H)
    (ho : PE X o (rdE (X.cq W) fo)) (ha : PA X (e :: es) (rdA (X.cq W) fx)) : True := trivial
end
end Dl

set_option Elab.async false
set_option linter.all false
set_option maxRecDepth 100000
namespace Dl
open PySem L2

/-! ## built-in functions -/
inductive Ty where
  | non | bl | int | str | tup | lst | dic
  deriving DecidableEq
def Ty.name : Ty → String
  | .non => "NoneType" | .bl => "bool" | .int => "int" | .str => "str" | .tup => "tuple" | .lst => "list" | .dic => "dict"
def tyD (S : Store) : D → Option Ty
  | .non => some .non
  | .bl _ => some .bl
  | .int _ => some .int
  | .str _ => some .str
  | .tup _ => some .tup
  | .ref l => match S[l]? with
    | some (.lst _) => some .lst
    | some (.rol _) => some .lst
    | some (.dic _) => some .dic
    | _ => none
  | .raw _ => none
def isiB (t T : Ty) : Bool := decide (t = T) || (decide (t = .bl) && decide (T = .int))
theorem kit_all (t T : Ty) (hT : T ≠ .non) : kitB t.name T.name = some (isiB t T) := by
  cases T <;> first | exact absurd rfl hT | (cases t <;> decide +kernel)
def gIsi (T : Ty) : List D → Store → Option (D × Store)
  | [x, .raw (.ty n)], S => if n = T.name then (tyD S x).map fun t => (.bl (isiB t T), S) else none
  | _, _ => none
def gLen : List D → Store → Option (D × Store)
  | [.str x], S => some (.int x.length, S)
  | [.tup xs], S => some (.int xs.length, S)
  | [.ref l], S => (lstAt S l).map fun xs => (.int xs.length, S)
  | _, _ => none
def gAbs : List D → Store → Option (D × Store)
  | [.int i], S => some (.int (if i < 0 then -i else i), S)
  | _, _ => none
def gInt : List D → Store → Option (D × Store)
  | [.int i], S => some (.int i, S)
  | [.bl b], S => some (.int (if b then 1 else 0), S)
  | [.str x], S => if x.length ≤ 640 then (PySem.intText? x).map fun n => (.int n, S) else none
  | _, _ => none
def gStr : List D → Store → Option (D × Store)
  | [.int i], S => if i.natAbs.log2 < 1920 ∧ (toString i : Str).length ≤ LIM then some (.str (toString i), S) else none
  | _, _ => none
def gMax2 : List D → Store → Option (D × Store)
  | [.int i, .int j], S => some (.int (if j > i then j else i), S)
  | _, _ => none
def gMin2 : List D → Store → Option (D × Store)
  | [.int i, .int j], S => some (.int (if j < i then j else i), S)
  | _, _ => none
/-- list(xs): a new list -/
def gList : List D → Store → Option (D × Store)
  | [.tup xs], S => some (.ref S.length, S ++ [.lst xs])
  | [.ref l], S => (lstAt S l).map fun xs => (.ref S.length, S ++ [.lst xs])
  | _, _ => none
def gTuple : List D → Store → Option (D × Store)
  | [.tup xs], S => some (.tup xs, S)
  | [.ref l], S => (lstAt S l).map fun xs => (.tup xs, S)
  | _, _ => none
/-- all, any of a list of bools -/
def bools : List D → Option (List Bool)
  | [] => some []
  | .bl b :: r => (bools r).map (b :: ·)
  | _ => none
def gAll : List D → Store → Option (D × Store)
  | [.ref l], S => ((lstAt S l).bind bools).map fun bs => (.bl (bs.all id), S)
  | _, _ => none
def gAny : List D → Store → Option (D × Store)
  | [.ref l], S => ((lstAt S l).bind bools).map fun bs => (.bl (bs.any id), S)
  | _, _ => none
section
variable {X : Cx}
theorem tyx_of {K : PySem.W.Frag} {m : List Addr} {H : Hp} {S : Store} {v : V} {x : D} {t : Ty} (r : RD K m H v x) (rs : RS K m H S) (h : tyD S x = some t) : TyX K H v (.type t.name) := by
  cases r with
  | non => cases h; exact .base .non
  | bl b => cases h; exact .base (.bl b)
  | int b => cases h; exact .base (.int b)
  | str b => cases h; exact .base (.str _)
  | tup ht _ =>
    cases h
    rcases ht with ⟨o, h, _⟩ | ⟨o, its, n, h1, h2, _⟩
    · exact .fTuple h
    · exact .kTuple h1 h2
  | @ref a l hl =>
    unfold tyD at h
    simp only at h
    split at h
    · rename_i xs e
      cases h
      obtain ⟨vs, h1, _⟩ := rs.at_ hl e
      exact .base (.lst h1)
    · rename_i xs e
      cases h
      obtain ⟨vs, h1, _⟩ := rs.at_ hl e
      rcases h1 with ⟨o, h1⟩ | ⟨o, its, n, h1, h2, _⟩
      · exact .base (.frz h1)
      · exact .kList h1 h2
    · rename_i xs e
      cases h
      obtain ⟨vs, h1, _⟩ := rs.at_ hl e
      exact .base (.dK h1)
    · cases h
  | raw v => cases h
theorem c_isi (T : Ty) (hT : T ≠ .non) : CallR X (.builtin "isinstance") (rdC X.K (gIsi T)) := by
  intro pins s σ H vs us Q I r ⟨m, xs, S, hx, rs, h⟩
  unfold gIsi at h
  split at h
  · rename_i x n
    split at h
    · rename_i hn
      subst hn
      cases hx with
      | cons h1 h2 =>
        cases h2 with
        | cons h3 h4 =>
          cases h4
          cases h3
          cases e : tyD S x with
          | none => rw [e] at h; exact h.elim
          | some t =>
            rw [e] at h
            exact call_isi pins s σ H _ us Q I r ⟨_, _, _, .type T.name, isiB t T, rfl, .ty _, tyx_of h1 rs e, kit_ty (kit_all t T hT), h _ _ m .refl rs (.bl _)⟩
    · exact h.elim
  · exact h.elim
theorem c_len : CallR X (.builtin "len") (rdC X.K gLen) := by
  intro pins s σ H vs us Q I r ⟨m, xs, S, hx, rs, h⟩
  unfold gLen at h
  split at h
  · cases hx with
    | cons h1 h2 =>
      cases h2
      cases h1 with
      | str hz => exact call_len pins s σ H _ us Q I r ⟨_, _, rfl, ⟨by rw [← lim_eq]; exact hz, rfl⟩, h _ _ m .refl rs (.int _)⟩
  · cases hx with
    | cons h1 h2 =>
      cases h2
      cases h1 with
      | tup ht rd => exact call_len pins s σ H _ us Q I r ⟨_, _, rfl, .inr ⟨_, ht.sq, rfl⟩, by rw [rd.length]; exact h _ _ m .refl rs (.int _)⟩
  · rename_i l
    cases e : lstAt S l with
    | none => rw [e] at h; exact h.elim
    | some ys =>
      rw [e] at h
      cases hx with
      | cons h1 h2 =>
        cases h2
        cases h1 with
        | ref hl =>
          obtain ⟨ws, hq, rd⟩ := rs.lst hl e
          exact call_len pins s σ H _ us Q I r ⟨_, _, rfl, .inl ⟨_, hq, rfl⟩, by rw [rd.length]; exact h _ _ m .refl rs (.int _)⟩
  · exact h.elim
theorem c_abs : CallR X (.builtin "abs") (rdC X.K gAbs) := by
  intro pins s σ H vs us Q I r ⟨m, xs, S, hx, rs, h⟩
  unfold gAbs at h
  split at h
  · cases hx with
    | cons h1 h2 =>
      cases h2
      cases h1
      exact call_abs pins s σ H _ us Q I r ⟨_, rfl, h _ _ m .refl rs (.int _)⟩
  · exact h.elim
theorem c_int : CallR X (.type "int") (rdC X.K gInt) := by
  intro pins s σ H vs us Q I r ⟨m, xs, S, hx, rs, h⟩
  unfold gInt at h
  split at h
  · cases hx with
    | cons h1 h2 =>
      cases h2
      cases h1
      exact call_int1 pins s σ H _ us Q I r (.inl ⟨_, rfl, h _ _ m .refl rs (.int _)⟩)
  · cases hx with
    | cons h1 h2 =>
      cases h2
      cases h1
      exact call_int1 pins s σ H _ us Q I r (.inr ⟨_, rfl, h _ _ m .refl rs (.int _)⟩)
  · rename_i x
    split at h
    · rename_i hz
      cases e : PySem.intText? x with
      | none => rw [e] at h; exact h.elim
      | some n =>
        rw [e] at h
        cases hx with
        | cons h1 h2 =>
          cases h2
          cases h1
          exact call_int_str pins s σ H _ us Q I r ⟨_, n, rfl, e, hz, h _ _ m .refl rs (.int _)⟩
    · exact h.elim
  · exact h.elim
theorem c_str : CallR X (.type "str") (rdC X.K gStr) := by
  intro pins s σ H vs us Q I r ⟨m, xs, S, hx, rs, h⟩
  unfold gStr at h
  split at h
  · split at h
    · rename_i hz
      cases hx with
      | cons h1 h2 =>
        cases h2
        cases h1
        exact call_str_int pins s σ H _ us Q I r ⟨_, rfl, hz.1, h _ _ m .refl rs (.str hz.2)⟩
    · exact h.elim
  · exact h.elim
theorem c_max2 (hc : X.calm = true) : CallR X (.builtin "max") (rdC X.K gMax2) := by
  intro pins s σ H vs us Q I r ⟨m, xs, S, hx, rs, h⟩
  unfold gMax2 at h
  split at h
  · cases hx with
    | cons h1 h2 =>
      cases h2 with
      | cons h2 h3 =>
        cases h3
        cases h1
        cases h2
        exact call_max2 hc pins s σ H _ us Q I r ⟨_, _, rfl, h _ _ m .refl rs (.int _)⟩
  · exact h.elim
theorem c_min2 (hc : X.calm = true) : CallR X (.builtin "min") (rdC X.K gMin2) := by
  intro pins s σ H vs us Q I r ⟨m, xs, S, hx, rs, h⟩
  unfold gMin2 at h
  split at h
  · cases hx with
    | cons h1 h2 =>
      cases h2 with
      | cons h2 h3 =>
        cases h3
        cases h1
        cases h2
        exact call_min2 hc pins s σ H _ us Q I r ⟨_, _, rfl, h _ _ m .refl rs (.int _)⟩
  · exact h.elim
theorem c_list : CallR X (.type "list") (rdC X.K gList) := by
  intro pins s σ H vs us Q I r ⟨m, xs, S, hx, rs, h⟩
  unfold gList at h
  split at h
  · cases hx with
    | cons h1 h2 =>
      cases h2
      cases h1 with
      | tup ht rd => exact call_list_of pins s σ H _ us Q I r ⟨_, _, rfl, .inr ht.sq, fun p hp => vp_lst rs hp rd h⟩
  · rename_i l
    cases e : lstAt S l with
    | none => rw [e] at h; exact h.elim
    | some ys =>
      rw [e] at h
      cases hx with
      | cons h1 h2 =>
        cases h2
        cases h1 with
        | ref hl =>
          obtain ⟨ws, hq, rd⟩ := rs.lst hl e
          exact call_list_of pins s σ H _ us Q I r ⟨_, _, rfl, .inl hq, fun p hp => vp_lst rs hp rd h⟩
  · exact h.elim
theorem c_tuple : CallR X (.type "tuple") (rdC X.K gTuple) := by
  intro pins s σ H vs us Q I r ⟨m, xs, S, hx, rs, h⟩
  unfold gTuple at h
  split at h
  · cases hx with
    | cons h1 h2 =>
      cases h2
      cases h1 with
      | tup ht rd => exact call_tupleT pins s σ H _ us Q I r ⟨_, _, rfl, ht.sq, h _ _ m .refl rs (.tup ht rd)⟩
  · rename_i l
    cases e : lstAt S l with
    | none => rw [e] at h; exact h.elim
    | some ys =>
      rw [e] at h
      cases hx with
      | cons h1 h2 =>
        cases h2
        cases h1 with
        | ref hl =>
          obtain ⟨ws, hq, rd⟩ := rs.lst hl e
          obtain ⟨u, rfl, rx⟩ := vals1 r
          cases rx
          obtain ⟨its, r', pl, hz⟩ := I.list hq
          have hlen := r'.length
          refine call_tuple_list pl.isList (fun h' kp => ?_) (by simp only [List.size_toArray] <;> omega)
          have I1 : L2.Inv X pins σ H { s with heap := h' } := I.kept (t' := s.toks) kp
          exact lay_tup (s := { s with heap := h' }) (tk := s.toks) I1 hz r' fun o hc hd => vp_tup rs (I1.hok.fresh (Nat.le_refl _)) hc hd rd h
  · exact h.elim
theorem bools_of {K : PySem.W.Frag} {m : List Addr} {H : Hp} : ∀ {xs : List D} {vs : List V} {bs : List Bool}, RDs K m H vs xs → bools xs = some bs → vs = bs.map V.bl
  | [], _, _, r, h => by cases r; cases h; rfl
  | .bl b :: r, _, bs, rr, h => by
    cases rr with
    | cons h1 h2 =>
      cases h1
      have h : (bools r).map (b :: ·) = some bs := h
      cases e : bools r with
      | none => rw [e] at h; cases h
      | some cs =>
        rw [e] at h
        cases h
        rw [bools_of h2 e]
        rfl
  | .non :: _, _, _, _, h => nomatch h
  | .int _ :: _, _, _, _, h => nomatch h
  | .str _ :: _, _, _, _, h => nomatch h
  | .tup _ :: _, _, _, _, h => nomatch h
  | .ref _ :: _, _, _, _, h => nomatch h
  | .raw _ :: _, _, _, _, h => nomatch h
theorem c_all (hc : X.calm = true) : CallR X (.builtin "all") (rdC X.K gAll) := by
  intro pins s σ H vs us Q I r ⟨m, xs, S, hx, rs, h⟩
  unfold gAll at h
  split at h
  · rename_i l
    cases e : lstAt S l with
    | none => rw [e] at h; exact h.elim
    | some ys =>
      rw [e] at h
      simp only [Option.bind_some] at h
      cases e2 : bools ys with
      | none => rw [e2] at h; exact h.elim
      | some bs =>
        rw [e2] at h
        cases hx with
        | cons h1 h2 =>
          cases h2
          cases h1 with
          | ref hl =>
            obtain ⟨ws, hq, rd⟩ := rs.lst hl e
            have ew := bools_of rd e2
            subst ew
            exact cr_all hc pins s σ H _ us Q I r ⟨_, bs, rfl, hq, h _ _ m .refl rs (.bl _)⟩
  · exact h.elim
theorem c_any (hc : X.calm = true) : CallR X (.builtin "any") (rdC X.K gAny) := by
  intro pins s σ H vs us Q I r ⟨m, xs, S, hx, rs, h⟩
  unfold gAny at h
  split at h
  · rename_i l
    cases e : lstAt S l with
    | none => rw [e] at h; exact h.elim
    | some ys =>
      rw [e] at h
      simp only [Option.bind_some] at h
      cases e2 : bools ys with
      | none => rw [e2] at h; exact h.elim
      | some bs =>
        rw [e2] at h
        cases hx with
        | cons h1 h2 =>
          cases h2
          cases h1 with
          | ref hl =>
            obtain ⟨ws, hq, rd⟩ := rs.lst hl e
            have ew := bools_of rd e2
            subst ew
            exact cr_any hc pins s σ H _ us Q I r ⟨_, bs, rfl, hq, h _ _ m .refl rs (.bl _)⟩
  · exact h.elim
end

/-! ## methods of built-in types -/
def eMt (T : Ty) (g : D → List D → Store → Option (D × Store)) (fo : EX) (fa : AX) : EX := fun ρ S => (fo ρ S).bind fun x S1 => if tyD S1 x = some T then (fa ρ S1).bind fun xs S2 => toR (g x xs S2) else .no
section
variable {X : Cx} {W : WX} {o e : Expr} {es : List Expr} {fo fe : EX} {fx : AX} {apos cpos : Pos} {name : Str} {id : String} {T : Ty} {g : D → List D → Store → Option (D × Store)}
theorem ty_is {pins : List (Addr × Obj)} {σ : St} {H : Hp} {s : Shared} {m : List Addr} {S : Store} {v : V} {x : D} {u : Value} (I : L2.Inv X pins σ H s) (r : RelV v u) (rd : RD X.K m H v x) (rs : RS X.K m H S) (h : tyD S x = some T) (hT : T = .str ∨ T = .tup ∨ T = .lst ∨ T = .dic) :
    s.TypeIs u T.name ∧ ∀ a, u = .ref a → ∃ ob, s.heap.get? a = some ob ∧ ob.dict = none := by
  cases rd with
  | non => cases h; rcases hT with z | z | z | z <;> cases z
  | bl b => cases h; rcases hT with z | z | z | z <;> cases z
  | int b => cases h; rcases hT with z | z | z | z <;> cases z
  | str b =>
    cases h
    obtain ⟨t, rfl⟩ := r
    exact ⟨typeIs_str _ _ _, fun _ e => nomatch e⟩
  | @tup a _ _ ht _ =>
    cases h
    cases r
    rcases ht with ⟨ob, h, hc, hd⟩ | ⟨ob, its, n, h1, h2, h3, _⟩
    · obtain ⟨e, _⟩ := (show ObjOk X.prog X.w H s.heap a (.frz ob _) from I.hok a _ h)
      exact ⟨⟨ob, e, hc⟩, fun b eb => by cases eb; exact ⟨ob, e, hd⟩⟩
    · exact ⟨⟨ob, I.kIn a ob h1, h2⟩, fun b eb => by cases eb; exact ⟨ob, I.kIn _ ob h1, h3⟩⟩
  | @ref a l hl =>
    cases r
    unfold tyD at h
    simp only at h
    split at h
    · rename_i xs e
      cases h
      obtain ⟨vs, h1, _⟩ := rs.at_ hl e
      exact tyV_is (T := "list") (x := .ref a) I rfl (.inl ⟨rfl, _, SqL.of h1⟩)
    · rename_i xs e
      cases h
      obtain ⟨vs, h1, _⟩ := rs.at_ hl e
      exact tyV_is (T := "list") (x := .ref a) I rfl (.inl ⟨rfl, _, h1.sq⟩)
    · rename_i xs e
      cases h
      obtain ⟨vs, h1, _⟩ := rs.at_ hl e
      exact tyV_is (T := "dict") (x := .ref a) I rfl (.inr (.inr (.inl ⟨rfl, .inl ⟨_, h1⟩⟩)))
    · cases h
  | raw v => cases h
theorem d_m0 (pa : PlainAttrs T.name) (slot : Slot T.name name id) (hty : typeOf (.builtin id) = pure (.type "method_descriptor")) (hT : T = .str ∨ T = .tup ∨ T = .lst ∨ T = .dic) (hm : MtR X id (rdM X.K g)) (ho : PE X o (rdE (X.cq W) fo))
    (hbase : attributeBase o name X.env (eval o X.env) = eval o X.env := by rfl) (hline : (apos.endLine == cpos.line) = true := by rfl) : PE X (.Call (.Attribute o name apos) [] [] cpos) (rdE (X.cq W) (eMt T g fo aN)) := by
  refine ⟨fun pins s σ H Q I ⟨m, ρ, S, re, rs, h⟩ => ?_⟩
  refine wpAny_Call_method0_late hbase hline (thn (ho.run pins s σ H _ I ⟨m, ρ, S, re, rs, Post.bind h⟩) fun v s1 ⟨x, H1, I1, r1, m1, d, S1, e1, rs1, rd1, h1⟩ => ?_)
  split at h1
  · rename_i ht
    obtain ⟨q1, q2⟩ := ty_is I1 r1 rd1 rs1 ht hT
    exact ⟨T.name, id, pa, slot, hty, q1, q2, Calls.callWith_builtin rfl (PySem.evalArgs_none (hm pins s1 σ H1 x [] v [] Q I1 r1 .nil ⟨m1, d, [], S1, rd1, .nil, rs1, VPost.of h1⟩))⟩
  · exact h1.elim
theorem d_m (pa : PlainAttrs T.name) (slot : Slot T.name name id) (hty : typeOf (.builtin id) = pure (.type "method_descriptor")) (hT : T = .str ∨ T = .tup ∨ T = .lst ∨ T = .dic) (hm : MtR X id (rdM X.K g)) (ho : PE X o (rdE (X.cq W) fo)) (ha : PA X (e :: es) (rdA (X.cq W) fx))
    (hbase : attributeBase o name X.env (eval o X.env) = eval o X.env := by rfl)
    (hfew : ((backTo cpos (starEach (e :: es) X.env)).all (fun x => !x.1) && (backToKw cpos (keywordEach [] X.env)).all (fun x => x.1.isSome)
      && decide ((e :: es).length + ([] : List Keyword).length + (if ([] : List Keyword).isEmpty then 0 else 1) < 30)) = true := by rfl)
    (hline : (apos.endLine == cpos.line) = true := by rfl) (hs : starEach (e :: es) X.env = (false, eval e X.env) :: starEach es X.env := by rfl) (hplain : (backTo cpos (starEach es X.env)).any (·.1) = false := by rfl) :
    PE X (.Call (.Attribute o name apos) (e :: es) [] cpos) (rdE (X.cq W) (eMt T g fo fx)) := by
  refine ⟨fun pins s σ H Q I ⟨m, ρ, S, re, rs, h⟩ => ?_⟩
  refine wpAny_Call_method_late hbase hfew hline rfl (thn (ho.run pins s σ H _ I ⟨m, ρ, S, re, rs, Post.bind h⟩) fun v s1 ⟨x, H1, I1, r1, m1, d, S1, e1, rs1, rd1, h1⟩ => ?_)
  split at h1
  · rename_i ht
    obtain ⟨q1, q2⟩ := ty_is I1 r1 rd1 rs1 ht hT
    refine ⟨T.name, id, pa, slot, hty, q1, q2, ?_⟩
    have hA := ha.run cpos pins s1 σ H1 _ I1 ⟨m1, ρ, S1, re.mono e1, rs1, Post.bind h1⟩
    rw [hs] at hA ⊢
    refine Calls.callWith_builtin (by show (false || (backTo cpos (starEach es X.env)).any (·.1)) = false; rw [hplain] <;> rfl) (Calls.evalArgs_plain ?_)
    exact thn hA fun us s2 ⟨vs, H2, I2, r2, m2, xs, S2, e2, rs2, rd2, h2⟩ => hm pins s2 σ H2 x vs v us Q I2 r1 r2 ⟨m2, d, xs, S2, rd1.mono e2, rd2, rs2, VPost.of h2⟩
  · exact h1.elim
end
/-- xs.append(y) -/
def gAppend : D → List D → Store → Option (D × Store)
  | .ref l, [d], S => match S[l]? with
    | some (.lst xs) => if xs.length < LIM then some (.non, S.set l (.lst (xs ++ [d]))) else none
    | _ => none
  | _, _, _ => none
def gPop : D → List D → Store → Option (D × Store)
  | .ref l, [], S => match S[l]? with
    | some (.lst xs) => (xs[xs.length - 1]?).map fun d => (d, S.set l (.lst xs.dropLast))
    | _ => none
  | _, _, _ => none
/-- s.partition(c), c one sign -/
def partL (c : Nat) (xs : List Nat) : List Nat × List Nat × List Nat := if c ∈ xs then (xs.takeWhile (· != c), [c], (xs.dropWhile (· != c)).drop 1) else (xs, [], [])
def gPart : D → List D → Store → Option (D × Store)
  | .str a, [.str b], S => if b.length = 1 then
      let p := partL (b.cps.getD 0 0) a.cps.toList
      some (.tup [.str ⟨p.1.toArray⟩, .str ⟨p.2.1.toArray⟩, .str ⟨p.2.2.toArray⟩], S) else none
  | _, _, _ => none
/-- t.count(x), l.count(x) -/
def gCountT : D → List D → Store → Option (D × Store)
  | .tup xs, [d], S => if d.flat && flats xs && decide (d.dep ≤ 64) then some (.int (xs.countP fun y => deq y d : Nat), S) else none
  | _, _, _ => none
theorem takeWhile_at {c : Nat} : ∀ {l : List Nat} {i : Nat}, l[i]? = some c → (∀ k, k < i → l[k]? ≠ some c) → l.takeWhile (· != c) = l.take i
  | [], i, h, _ => by simp at h
  | k :: r, 0, h, _ => by
    have e : k = c := by simpa using h
    subst e
    rw [List.takeWhile_cons_of_neg (by simp)]
    rfl
  | k :: r, i + 1, h, hn => by
    have h1 : k ≠ c := fun e => hn 0 (by omega) (by simp [e])
    rw [List.takeWhile_cons_of_pos (by simp [h1]), takeWhile_at (l := r) (i := i) (by simpa using h) fun j hj => by have := hn (j + 1) (by omega); simpa using this]
    rfl
theorem dropWhile_at {c : Nat} : ∀ {l : List Nat} {i : Nat}, l[i]? = some c → (∀ k, k < i → l[k]? ≠ some c) → l.dropWhile (· != c) = c :: l.drop (i + 1)
  | [], i, h, _ => by simp at h
  | k :: r, 0, h, _ => by
    have e : k = c := by simpa using h
    subst e
    rw [List.dropWhile_cons_of_neg (by simp)]
    rfl
  | k :: r, i + 1, h, hn => by
    have h1 : k ≠ c := fun e => hn 0 (by omega) (by simp [e])
    rw [List.dropWhile_cons_of_pos (by simp [h1]), dropWhile_at (l := r) (i := i) (by simpa using h) fun j hj => by have := hn (j + 1) (by omega); simpa using this]
    rfl
theorem part_one (x : Str) (c : Nat) : Txt.partition x ⟨#[c]⟩ = (⟨(partL c x.cps.toList).1.toArray⟩, ⟨(partL c x.cps.toList).2.1.toArray⟩, ⟨(partL c x.cps.toList).2.2.toArray⟩) := by
  unfold Txt.partition
  rcases StrLaws.occ_head x ⟨#[c]⟩ 1 (Nat.le_refl 1) with ⟨h0, hn⟩ | ⟨i, r, h0, hi, hn⟩
  · have hfree : c ∉ x.cps.toList := fun hm => by
      obtain ⟨j, hj⟩ := List.getElem?_of_mem hm
      exact hn j ((StrLaws.subAt_one x c j).mpr hj)
    rw [h0]
    unfold partL
    rw [if_neg hfree]
    rfl
  · rw [h0]
    have hm := (StrLaws.subAt_one x c i).mp hi
    have hn' : ∀ k, k < i → x.cps.toList[k]? ≠ some c := fun k hk e => hn k hk ((StrLaws.subAt_one x c k).mpr e)
    have hmem : c ∈ x.cps.toList := List.mem_of_getElem? hm
    unfold partL
    rw [if_pos hmem, takeWhile_at hm hn', dropWhile_at hm hn']
    have hl : x.cps.toList.length = x.cps.size := Array.length_toList
    refine Prod.ext ?_ (Prod.ext rfl ?_)
    · apply congrArg Str.mk
      apply Array.toList_inj.mp
      show (x.cps.extract 0 i).toList = _
      simp
    · apply congrArg Str.mk
      apply Array.toList_inj.mp
      show (x.cps.extract (i + 1) x.cps.size).toList = _
      rw [Array.toList_extract]
      simp [List.extract_eq_take_drop]
      rw [← hl, ← List.length_drop]
      exact List.take_length
theorem partL_le (c : Nat) (xs : List Nat) : (partL c xs).1.length ≤ xs.length ∧ (partL c xs).2.1.length ≤ 1 ∧ (partL c xs).2.2.length ≤ xs.length := by
  unfold partL
  split
  · refine ⟨(List.takeWhile_sublist _).length_le, Nat.le_refl _, ?_⟩
    exact Nat.le_trans (List.drop_sublist _ _).length_le (List.dropWhile_sublist _).length_le
  · exact ⟨Nat.le_refl _, Nat.zero_le _, Nat.zero_le _⟩
section
variable {X : Cx}
theorem m_append : MtR X "list.append" (rdM X.K gAppend) := by
  intro pins s σ H v vs vv us Q I rv rvs ⟨m, x, xs, S, hx, hxs, rs, h⟩
  unfold gAppend at h
  split at h
  · rename_i l d
    split at h
    · rename_i ys e
      split at h
      · rename_i hz
        cases hx with
        | ref hl =>
          cases hxs with
          | cons h1 h2 =>
            cases h2
            obtain ⟨ws, hw, rw'⟩ := rs.wlst hl e
            refine mt_append pins s σ H _ _ vv us Q I rv rvs ⟨_, ws, _, rfl, rfl, hw, by rw [rw'.length, ← lim_eq]; exact hz, ?_⟩
            obtain ⟨ex, rs'⟩ := rs.write (o := .lst (ws ++ [_])) (c' := .lst (ys ++ [d])) hl e rfl rfl fun ex => ⟨_, upd_same, (rw'.mono ex).append (.one (h1.mono ex))⟩
            exact h _ _ m ex rs' .non
      · exact h.elim
    · exact h.elim
  · exact h.elim
theorem m_pop : MtR X "list.pop" (rdM X.K gPop) := by
  intro pins s σ H v vs vv us Q I rv rvs ⟨m, x, xs, S, hx, hxs, rs, h⟩
  unfold gPop at h
  split at h
  · rename_i l
    split at h
    · rename_i ys e
      cases hx with
      | ref hl =>
        cases hxs
        obtain ⟨ws, hw, rw'⟩ := rs.wlst hl e
        cases e2 : ys[ys.length - 1]? with
        | none => rw [e2] at h; exact h.elim
        | some d =>
          rw [e2] at h
          obtain ⟨w, e3, rd⟩ := rw'.get e2
          refine mt_pop pins s σ H _ _ vv us Q I rv rvs ⟨_, ws, w, rfl, rfl, hw, by rw [rw'.length]; exact e3, ?_⟩
          obtain ⟨ex, rs'⟩ := rs.write (o := .lst ws.dropLast) (c' := .lst ys.dropLast) hl e rfl rfl fun ex => ⟨_, upd_same, (rw'.mono ex).dropLast⟩
          exact h _ _ m ex rs' (rd.mono ex)
    · exact h.elim
  · exact h.elim
theorem m_part : MtR X "str.partition" (rdM X.K gPart) := by
  intro pins s σ H v vs vv us Q I rv rvs ⟨m, x, xs, S, hx, hxs, rs, h⟩
  unfold gPart at h
  split at h
  · rename_i a b
    split at h
    · rename_i hb
      cases hx with
      | str ha =>
        cases hxs with
        | cons h1 h2 =>
          cases h2
          cases h1 with
          | str hb2 =>
            obtain ⟨t, rfl⟩ := rv
            cases rvs with
            | cons r1 rs1 =>
              cases rs1
              obtain ⟨u, rfl⟩ := r1
              have hz : a.length ≤ sizeLine := by rw [← lim_eq]; exact ha
              refine call_meets F.slot_str_partition (typeIs_str _ _ _) F.entry_str_partition (F.args_str_partition_2 _ _) (meets_str_partition a b t u (by rw [hb]; rfl) hz) ?_
              have hp := part_one a (b.cps.getD 0 0)
              rw [← sign_of hb] at hp
              obtain ⟨l1, l2, l3⟩ := partL_le (b.cps.getD 0 0) a.cps.toList
              have la : a.cps.toList.length = a.length := by simp [Str.length]
              have go : ∀ {x y z : Str} {t u v : Tok} {k : Nat}, (x, y, z) = (⟨(partL (b.cps.getD 0 0) a.cps.toList).1.toArray⟩, ⟨(partL (b.cps.getD 0 0) a.cps.toList).2.1.toArray⟩, (⟨(partL (b.cps.getD 0 0) a.cps.toList).2.2.toArray⟩ : Str)) →
                  EP X pins σ Q (.ref s.heap.objs.size) { s with toks := k, heap := s.heap.push { cls := .type "tuple", data := .seq [Value.str x t, .str y u, .str z v].toArray } } := fun {x y z t u v k} e => by
                injection e with e1 e2
                injection e2 with e2 e3
                subst e1 e2 e3
                refine lay_tup (xs := [.str ⟨(partL (b.cps.getD 0 0) a.cps.toList).1.toArray⟩, .str ⟨(partL (b.cps.getD 0 0) a.cps.toList).2.1.toArray⟩, .str ⟨(partL (b.cps.getD 0 0) a.cps.toList).2.2.toArray⟩]) (tk := k) I (by show 3 ≤ sizeLine; decide) (.cons ⟨t, rfl⟩ (.cons ⟨u, rfl⟩ (.cons ⟨v, rfl⟩ .nil))) fun o hc hd => ?_
                have la' : a.cps.toList.length ≤ 16777216 := by rw [la]; exact ha
                exact vp_tup rs (I.hok.fresh (Nat.le_refl _)) hc hd (.cons (.str (by show (List.toArray _).size ≤ _; rw [List.size_toArray]; omega)) (.cons (.str (by show (List.toArray _).size ≤ _; rw [List.size_toArray]; omega)) (.cons (.str (by show (List.toArray _).size ≤ _; rw [List.size_toArray]; omega)) .nil))) h
              unfold Txt.partition at hp
              revert hp
              cases Builtin.Str.occurrences a b 0 a.length 1 with
              | nil => intro hp; exact go hp
              | cons i r => intro hp; exact go hp
    · exact h.elim
  · exact h.elim
theorem m_countT (hu : X.A.units + 65 < cLine) : MtR X "tuple.count" (rdM X.K gCountT) := by
  intro pins s σ H v vs vv us Q I rv rvs ⟨m, x, xs, S, hx, hxs, rs, h⟩
  unfold gCountT at h
  split at h
  · rename_i ys d
    split at h
    · rename_i hc
      simp only [Bool.and_eq_true, decide_eq_true_eq] at hc
      obtain ⟨⟨c1, c2⟩, c3⟩ := hc
      cases hx with
      | tup ht r =>
        cases hxs with
        | cons h1 h2 =>
          cases h2
          cases rv
          obtain ⟨u, rfl, ru⟩ := rvs.one
          obtain ⟨its, r', p, hz⟩ := I.tuple ht.sq
          obtain ⟨as, q1⟩ := Dp.readsAll I _ _ _ (dps_of c2 r) r'
          obtain ⟨bs, q2⟩ := Dp.reads I _ _ _ (dp_of c1 h1) ru
          have hm : min (PyData.depthAll (toPys ys)) (toPy d).depth ≤ (toPy d).depth := Nat.min_le_right _ _
          rw [depth_toPy] at hm
          refine PySem.SeqAt.count_tuple_data (vs := its.toArray) p (by simpa using q1) q2 (plains_toPys ys) (plain_toPy d) (by rw [depth_toPy]; omega) ?_
          have e : ((toPys ys).countP fun y => PyData.eqv y (toPy d)) = ys.countP fun y => deq y d := by
            clear h r r' q1 hm rvs
            induction ys with
            | nil => rfl
            | cons y ys ih =>
              have c2' : (y.flat && flats ys) = true := c2
              rw [Bool.and_eq_true] at c2'
              show ((toPy y :: toPys ys).countP _) = _
              rw [List.countP_cons, List.countP_cons, ih c2'.2, eqv_toPy y d c2'.1 c1]
          rw [e]
          exact ⟨.int _, H, I.tok _, ⟨_, rfl⟩, h _ _ m .refl rs (.int _)⟩
    · exact h.elim
  · exact h.elim
end
end Dl

set_option Elab.async false
set_option linter.all false
set_option maxRecDepth 100000
namespace Dl
open PySem PySem.Spec PyProof.Rows L2
/-! ## room, with no repr under way; a def's promise there -/
structure Room (k : Nat) (A : Around) : Prop extends L2.Room k A where
  gs : A.guards = some []
theorem Room.down {k : Nat} {A : Around} (r : Room (k + 1) A) (env : PySem.Env) : Room k (A.deeper env) := ⟨r.toRoom.deeper env, r.gs⟩
section
variable {P : Program} {w : World} {K : PySem.W.Frag} {mg : Str → Option Value} {base : Heap} {CX : CXT} {k : Nat} {f : Addr} {fd : FuncData} {ps : List Str} {sp : L2.Sp}
structure FnOk (P : Program) (w : World) (K : PySem.W.Frag) (mg : Str → Option Value) (base : Heap) (CX : CXT) (k : Nat) (f : Addr) (fd : FuncData) (ps : List Str) (sp : L2.Sp) : Prop where
  len : ∀ vs H Q E, sp vs H Q E → vs.length = ps.length
  run : ∀ A : Around, Room k A → ∀ outer s H, Env0 P w K mg base A outer s H →
    ∀ args us, BindsTo s fd args (ps.zip us) → ∀ vs, Vals vs us → ∀ Q E, sp vs H Q E → codeAny (model P w) A (.call (.ref f) args) (CR CX outer P w H s Q E) s
theorem FnOk.imp {sp' : L2.Sp} (F : FnOk P w K mg base CX k f fd ps sp) (h : ∀ vs H Q E, sp' vs H Q E → sp vs H Q E) : FnOk P w K mg base CX k f fd ps sp' where
  len vs H Q E q := F.len vs H Q E (h vs H Q E q)
  run A hr outer s H e0 args us b vs r Q E q := F.run A hr outer s H e0 args us b vs r Q E (h vs H Q E q)
/-- the end of a body is the end of the call -/
theorem body_end {A : Around} {outer : List PySem.Env} {s s' : Shared} {H : Hp} {N : List Str} {qual : Str} {scope : PySem.Scope} {cdv : Value} {E : XK} {Q : VK} {fl : Flow}
    (h : SP (cxOf CX P w K mg base N qual scope f cdv A outer s H E) [] { nx := fun _ H' => Q .non H', rt := Q } fl s') : CR CX outer P w H s Q E (match fl with | .ret u => .ok (.ret u) | _ => .ok (.ret .none)) s' := by
  match fl, h with
  | .ret u, ⟨v, σ', H', J, rv, q⟩ => exact ⟨v, H', J.os, J.bare, J.base, J.hok, rv, q⟩
  | .next, ⟨σ', H', J, q⟩ => exact ⟨.non, H', J.os, J.bare, J.base, J.hok, rfl, q⟩
  | .brk, ⟨_, _, _, q⟩ => exact q.elim
  | .cont, ⟨_, _, _, q⟩ => exact q.elim
/-- the parameters' kinds -/
theorem par_kind {N : List Str} {scope : PySem.Scope} (S : FnScope N ps scope) {z : Nat} {us : List Value} {y : Str × Value} (hy : y ∈ ps.zip us) : scope.names.lookup y.1 = some .local ∨ (scope.names.lookup y.1 = some .cell ∧ ((cellsFrom z scope.names []).lookup y.1).isSome = true) :=
  (S.par y.1 (List.of_mem_zip hy).1).imp id fun c => ⟨c, PySem.W.cellsFrom_some _ _ _ (Or.inl c)⟩
/-- a def keeps a promise that its body keeps -/
theorem FnOk.mk_body {name qual : Str} {params : Arguments} {body : List Stmt} {scope : PySem.Scope} {dV kV doc pm cdv ct oc : Value} {an od : Option Addr} {osl : Array (Option Value)} {N : List Str}
    (lk : K.lookup f = some ⟨oc, od, .func (PySem.W.fnOf name qual params body scope dV kV doc pm an cdv ct), osl⟩) (hcd : PySem.W.codeIn K cdv qual = true) (S : FnScope N ps scope) (len : ∀ vs H Q E, sp vs H Q E → vs.length = ps.length)
    (hbody : ∀ A outer s H vs Q E, Room k (A.deeper (envOfC qual scope s.heap.objs.size f cdv)) → sp vs H Q E → ∃ t, PSs (cxOf CX P w K mg base N qual scope f cdv A outer s H E) body t ∧ t { nx := fun _ H' => Q .non H', rt := Q } (start N vs) H) :
    FnOk P w K mg base CX (k + 1) f (PySem.W.fnOf name qual params body scope dV kV doc pm an cdv ct) ps sp where
  len := len
  run A hr outer s H e0 args us b vs r Q E q := by
    have same : ∀ x o, base.get? x = some o → s.heap.get? x = some o := fun x o h => (e0.bs x o h).1
    have inK := e0.mod.kin.keeps same
    have nolim := e0.mod.nolimit.keeps same
    obtain ⟨t, ht, hq⟩ := hbody A outer s H vs Q E (hr.down _) q
    apply codeAny_call_function hr.toRoom.depth (inK _ _ lk) rfl S.co S.gen rfl (PySem.W.codeRec_of inK hcd) (b _ _ _ _ _)
    apply wpAny_newFunctionEnv_cells S.kind fun _ hy => par_kind S hy
    rintro env rfl s1 x
    refine ⟨nolim.keeps x.toInCall.keep, codeAny_func (wpAny_mono (ht.run [] s1 (start N vs) H _ (inv_start S hr.toRoom.hd e0 (len _ _ _ _ q) r x) hq) (fun fl s' z => ?_) fun e s' z => z)⟩
    have y := body_end z
    cases fl <;> exact y
theorem FnOk.of_fun {x qual : Str} {st : Stmt} {N : List Str} (F : Fun K x qual st f fd) (S : FnScope N ps (defScope st)) (len : ∀ vs H Q E, sp vs H Q E → vs.length = ps.length)
    (hbody : ∀ cdv A outer s H vs Q E, Room k (A.deeper (envOfC qual (defScope st) s.heap.objs.size f cdv)) → sp vs H Q E →
      ∃ t, PSs (cxOf CX P w K mg base N qual (defScope st) f cdv A outer s H E) (defBody st) t ∧ t { nx := fun _ H' => Q .non H', rt := Q } (start N vs) H) : FnOk P w K mg base CX (k + 1) f fd ps sp := by
  obtain ⟨oc, od, kV, doc, pm, an, cdv, ct, osl, e, lk, hcd⟩ := F.ex
  subst e
  exact .mk_body lk hcd S len fun A outer s H vs Q E => hbody cdv A outer s H vs Q E
end
/-! ## calls -/
section
variable {X : Cx} {CX : CXT} {k : Nat} {f : Addr} {fd : FuncData} {ps : List Str} {sp : L2.Sp} {E : L2.St → XK} {x : Str} {p pos : Pos} {e : Expr} {es : List Expr} {t : TA}
theorem run_fnS {pins : List (Addr × Obj)} {σ : L2.St} {H : Hp} {s : Shared} {Q : VK} {us : List Value} {vs : List V} (F : FnOk X.prog X.w X.K X.mg X.base CX k f fd ps sp) (hr : Room k X.A) (hb : Binds X.K fd ps []) (hx : PassesAt CX X σ (E σ)) (I : Inv X pins σ H s) (r : Vals vs us) (h : sp vs H Q (E σ)) :
    wpAny (model X.prog X.w) X.A (call (.ref f) us) (EP X pins σ Q) X.xe s := by
  have b := hb s us I.kIn
  simp only [List.append_nil] at b
  have run := F.run X.A hr X.stack s H I.env0 ⟨us, []⟩ us (b (r.length ▸ F.len vs H Q (E σ) h)) vs r Q (E σ) h
  apply wpAny_call
  refine codeAny_mono run fun r s' z => ?_
  match r, z with
  | .ok (.ret u), z => exact I.after z
  | .error e, z => exact hx pins H s e s' I z
  | .ok .next, z | .ok .brk, z | .ok .cont, z => exact z.elim
theorem pe_callS (F : FnOk X.prog X.w X.K X.mg X.base CX k f fd ps sp) (hr : Room k X.A) (hg : Gl X x) (hm : X.mg x = some (.ref f)) (hk : PySem.W.keepIn X.K (.ref f) = true) (hb : Binds X.K fd ps []) (hx : ∀ σ, PassesAt CX X σ (E σ)) (ha : PA X (e :: es) t)
    (hdb : (x == ("__debug__" : Str)) = false := by decide) (he : starEach (e :: es) X.env = (false, eval e X.env) :: starEach es X.env := by rfl) (hpl : (backTo pos (starEach es X.env)).any (·.1) = false := by rfl) :
    PE X (.Call (.Name x p) (e :: es) [] pos) (tCallS sp E t) where
  run pins s σ H Q I h := by
    apply wpAny_Call_Name_kw (ld_glob I hg hm ?_ hdb)
    refine PySem.W.callWith_K (h₀ := X.base) I.ok.mod.kin hk ?_ he hpl
    refine thn (ha.run pos pins s σ H _ I h) ?_
    rintro us s1 ⟨vs, H1, I1, r, q⟩
    exact ⟨I1.kIn, run_fnS F hr hb (hx σ) I1 r q⟩
end
/-! ## the law's own call -/
section
variable {P : Program} {w : World} {K : PySem.W.Frag} {mg mb : Str → Option Value} {CX : CXT} {k : Nat} {fa a : Addr} {fd : FuncData} {x : Str} {sp : L2.Sp} {s₁ : Shared} {vs : List Value} {ns : List Int}
/-- the call ends with True, what stood stands -/
abbrev LawEnd (P : Program) (w : World) (fa a : Addr) (s₁ : Shared) : Prop :=
  codeAny (model P w) callerA (.call (.ref fa) ⟨[.ref a], []⟩) (fun r s' => r = .ok (.ret (.bool true)) ∧ OldK s₁.heap s'.heap ∧ s'.os = s₁.os ∧ AllBare s'.gens) s₁
/-- the heap as the defs see it: without the script, where it is tracked -/
theorem hid_keeps {H : Hp} {b : Addr} {o : Obj} (h : s₁.heap.get? b = some o) (n : H b = none) : (hidT s₁.heap H).get? b = some o := hidT_get h n
theorem law_from {H : Hp} (hO : Only H) (hok : HOk P w H s₁.heap) (only : ∀ b, H b ≠ none → b = a) (apart : H a ≠ none → K.lookup a = none) (KX : K.In s₁.heap) (hns : s₁.heap.Ns mainGlobals mg) (hb : s₁.heap.Ns builtinsNs mb) (hbb : ∀ x : Str, x ≠ "__name__" → mb x = bootBuiltins x) (hlim : s₁.heap.NoLimit) (hg : s₁.gens = #[])
    (ha : s₁.heap.get? a = some { cls := .type "list", data := .seq vs.toArray }) (hr : Room k callerA) (F : ∀ base : Heap, K.In base → base.Ns mainGlobals mg → FnOk P w K mg base CX k fa fd [x] sp) (hbind : ∀ (s : Shared) (u : Value), BindsTo s fd ⟨[u], []⟩ [(x, u)])
    (hq : sp [.ref a] H (fun v _ => v = .bl true) fun _ _ _ => False) (hCX : ∀ e s', CX [] H s₁ (fun _ _ _ => False) e s' → False) : LawEnd P w fa a s₁ := by
  have un_tracked : ∀ {b : Addr}, (b = a → H a = none) → H b = none := fun {b} h => Classical.byContradiction fun z => z (by have e := only b z; rw [e]; exact h e)
  have nsH : ∀ {b : Addr} {m : Str → Option Value}, s₁.heap.Ns b m → (hidT s₁.heap H).Ns b m := fun {b m} ⟨o, es, ep, e, d, r⟩ => ⟨o, es, ep, hid_keeps e (un_tracked fun z => by
    subst z
    rw [ha] at e
    cases e
    exact nomatch d), d, r⟩
  have inH : K.In (hidT s₁.heap H) := fun b o e => hid_keeps (KX b o e) (un_tracked fun z => Classical.byContradiction fun y => by
    subst z
    rw [apart y] at e
    exact nomatch e)
  obtain ⟨mc, l1, l2⟩ := hlim
  have e0 : Env0 P w K mg (hidT s₁.heap H) callerA [] s₁ H :=
    { frames := rfl, mod := ⟨inH, nsH hns, ⟨mb, nsH hb, hbb⟩, mc, nsH l1, l2⟩, bs := fun b o e => of_hidT e, bsz := Nat.le_of_eq (hidT_size _ _), funs := trivial, frf := (fun b z => nomatch z), hok := hok, bare := .of_eq hg }
  have run := (F _ inH (nsH hns)).run callerA hr [] s₁ H e0 ⟨[.ref a], []⟩ [.ref a] (hbind s₁ (.ref a)) [.ref a] (.cons rfl .nil) _ _ hq
  refine codeAny_mono run fun r s' z => ?_
  match r, z with
  | .error e, z => exact (hCX e s' z).elim
  | .ok .next, z => exact z.elim
  | .ok .brk, z => exact z.elim
  | .ok .cont, z => exact z.elim
  | .ok (.ret u), ⟨v, H', os, bare, un, hok', r', q⟩ =>
    cases (show v = .bl true from q)
    cases (show u = Value.bool true from r')
    refine ⟨rfl, OldK.of_keep fun b o e => ?_, os, bare⟩
    rcases hO b with n | ⟨ob, xs, t⟩
    · exact un.keep b o e n (fun z => nomatch z) (fun z => nomatch z)
    · have o1 := (hok b _ t).1
      rw [e] at o1
      cases o1
      exact (hok' b _ (un.frzs b _ _ t)).1
/-- the script: an object of the module, or the one tracked thing -/
theorem law_is (KX : K.In s₁.heap) (hns : s₁.heap.Ns mainGlobals mg) (hb : s₁.heap.Ns builtinsNs mb) (hbb : ∀ x : Str, x ≠ "__name__" → mb x = bootBuiltins x) (hlim : s₁.heap.NoLimit) (hg : s₁.gens = #[])
    (ha : s₁.heap.get? a = some { cls := .type "list", data := .seq vs.toArray }) (hi : IntsAre vs ns) (hl : ns.length ≤ sizeLine) (hr : Room k callerA) (F : ∀ base : Heap, K.In base → base.Ns mainGlobals mg → FnOk P w K mg base CX k fa fd [x] sp) (hbind : ∀ (s : Shared) (u : Value), BindsTo s fd ⟨[u], []⟩ [(x, u)])
    (hq : ∀ H : Hp, Only H → SqL K H a (ns.map V.int) → sp [.ref a] H (fun v _ => v = .bl true) fun _ _ _ => False) (hCX : ∀ H e s', CX [] H s₁ (fun _ _ _ => False) e s' → False) : LawEnd P w fa a s₁ := by
  have rv := vals_ints hi
  have zv := hi.length
  cases hk : K.lookup a with
  | some o =>
    have e := (KX a o hk).symm.trans ha
    injection e with e
    subst e
    have hO : Only fun _ => none := fun _ => Or.inl rfl
    refine law_from hO (fun b u z => nomatch z) (fun b z => absurd rfl z) (fun z => absurd rfl z) KX hns hb hbb hlim hg ha hr F hbind (hq _ hO (Or.inr ⟨_, vs.toArray, _, hk, rfl, rfl, rfl, ?_, ?_⟩)) (hCX _)
    · rw [List.size_toArray, zv]; exact hl
    · simpa using rv
  | none =>
    let H : Hp := fun b => if b = a then some (.frz { cls := .type "list", data := .seq vs.toArray } (.lst (ns.map V.int))) else none
    have at_ : H a = some (.frz { cls := .type "list", data := .seq vs.toArray } (.lst (ns.map V.int))) := if_pos rfl
    have off : ∀ {b : Addr}, b ≠ a → H b = none := fun h => if_neg h
    have hO : Only H := fun b => (Classical.em (b = a)).elim (fun e => Or.inr ⟨{ cls := .type "list", data := .seq vs.toArray }, ns.map V.int, by rw [e]; exact at_⟩) fun e => Or.inl (off e)
    refine law_from hO (fun b u z => ?_) (fun b z => Classical.byContradiction fun y => z (off y)) (fun _ => hk) KX hns hb hbb hlim hg ha hr F hbind (hq _ hO (Or.inl (Or.inr ⟨_, at_⟩))) (hCX _)
    have e : b = a := Classical.byContradiction fun y => nomatch (off y).symm.trans z
    subst e
    cases at_.symm.trans z
    exact ⟨ha, by rw [List.length_map]; exact hl, vs, _, rv, ha⟩
end
/-- what k_head leaves (case hc) -/
theorem walk_of {l : PySem.W.OpenLaw} {n k : Nat} {q : Program} {loose : List Str} {XP : (Str → Option Value) → Heap → Prop} {YP : World → Heap → Prop} {d : DefRec} {K : Params → PySem.W.Frag} {CX : World → CXT} {sp : World → L2.Sp} {x : Str}
    (hn : l.most = some n) (hn2 : n ≤ sizeLine) (hdf : d.params.defaults = []) (hr : Room k callerA) (hY : ∀ w h, YP w h → (K w.params).In h)
    (F : ∀ w mg fa h, (K w.params).In h → h.Ns mainGlobals mg → mg d.name = some (.ref fa) → ∃ fd : FuncData, (∀ (s : Shared) (u : Value), BindsTo s fd ⟨[u], []⟩ [(x, u)]) ∧ ∀ base : Heap, (K w.params).In base → base.Ns mainGlobals mg → FnOk l.prog w (K w.params) mg base (CX w) k fa fd [x] (sp w))
    (hsp : ∀ w H a (ns : List Int), ns.length ≤ n → Only H → SqL (K w.params) H a (ns.map V.int) → sp w [.ref a] H (fun v _ => v = .bl true) fun _ _ _ => False) (hCX : ∀ w H s e s', CX w [] H s (fun _ _ _ => False) e s' → False) :
    PySem.W.WalkO q loose XP YP l.row.toRowW d [] (fun f vs => PySem.call f vs) := by
  apply Att.attach_call hn hdf
  intro w s₀ s₁ mg mb fa o pm cd doc a vs ns G Y ho hd hcd hmg hobj hints hlen hg
  have inK := hY w _ Y
  obtain ⟨fd, hb, hF⟩ := F w mg fa _ inK G.T.g hmg
  exact law_is inK G.T.g G.T.b G.T.builtins G.T.nolimit hg hobj hints (Nat.le_trans hlen hn2) hr hF hb (fun H hO hS => hsp w H a ns hlen hO hS) fun H => hCX w H s₁
end Dl

set_option Elab.async false
set_option linter.all false
set_option maxRecDepth 100000
namespace Dl
open PySem PySem.Spec PyProof.Rows L2

/-! ## tests -/
def truD (S : Store) : D → Option Bool
  | .non => some false
  | .bl b => some b
  | .int i => some (i != 0)
  | .str x => some ((x.length : Int) != 0)
  | .tup xs => some (!xs.isEmpty)
  | .ref l => match S[l]? with
    | some (.lst xs) => some (!xs.isEmpty)
    | some (.rol xs) => some (!xs.isEmpty)
    | some (.dic kvs) => some (!kvs.isEmpty)
    | _ => none
  | .raw _ => none
def toT (S : Store) : Option Bool → R Bool
  | some b => .ok b S
  | none => .no
/-- an expression's truth -/
def tV (f : EX) : TX := fun ρ S => (f ρ S).bind fun d S1 => toT S1 (truD S1 d)
/-- an expression that is a bool -/
def tE (f : EX) : TX := fun ρ S => (f ρ S).bind fun d S1 => match d with
  | .bl b => .ok b S1
  | _ => .no
def tA (f g : TX) : TX := fun ρ S => (f ρ S).bind fun b S1 => if b then g ρ S1 else .ok false S1
def tO (f g : TX) : TX := fun ρ S => (f ρ S).bind fun b S1 => if b then .ok true S1 else g ρ S1
def tN (f : TX) : TX := fun ρ S => (f ρ S).bind fun b S1 => .ok (!b) S1
def eIf (t : TX) (f g : EX) : EX := fun ρ S => (t ρ S).bind fun b S1 => if b then f ρ S1 else g ρ S1
def eAnd (f g : EX) : EX := fun ρ S => (f ρ S).bind fun d S1 => (toT S1 (truD S1 d)).bind fun b S2 => if b then g ρ S2 else .ok d S2
def eOr (f g : EX) : EX := fun ρ S => (f ρ S).bind fun d S1 => (toT S1 (truD S1 d)).bind fun b S2 => if b then .ok d S2 else g ρ S2
def eNot (f : EX) : EX := fun ρ S => (f ρ S).bind fun d S1 => (toT S1 (truD S1 d)).bind fun b S2 => .ok (.bl (!b)) S2
/-- a < b < c -/
def eCh (g g' : D → D → Store → Option (D × Store)) (fa fb fc : EX) : EX := fun ρ S => (fa ρ S).bind fun x S1 => (fb ρ S1).bind fun y S2 => (toR (g x y S2)).bind fun z S3 => match z with
  | .bl true => (fc ρ S3).bind fun w S4 => toR (g' y w S4)
  | .bl false => .ok (.bl false) S3
  | _ => .no
section
variable {X : Cx} {W : WX} {a b c e : Expr} {rest : List Expr} {fa fb fc f g : EX} {ta tb : TX} {pos : Pos}
theorem tru_of {K : PySem.W.Frag} {m : List Addr} {H : Hp} {S : Store} {v : V} {x : D} {k : Bool} (r : RD K m H v x) (rs : RS K m H S) (h : truD S x = some k) : TruV K v H k := by
  cases r with
  | non => cases h; exact rfl
  | bl b => cases h; exact rfl
  | int b => cases h; exact rfl
  | str hz => cases h; exact ⟨by rw [← lim_eq]; exact hz, rfl⟩
  | @tup a vs ds ht r =>
    cases h
    refine .inr (.inl ⟨vs, ht.sq, ?_⟩)
    cases r <;> rfl
  | @ref a l hl =>
    unfold truD at h
    simp only at h
    split at h
    · rename_i xs e1
      cases h
      obtain ⟨vs, h1, r⟩ := rs.at_ hl e1
      refine .inl ⟨vs, SqL.of h1, ?_⟩
      cases r <;> rfl
    · rename_i xs e1
      cases h
      obtain ⟨vs, h1, r⟩ := rs.at_ hl e1
      refine .inl ⟨vs, h1.sq, ?_⟩
      cases r <;> rfl
    · rename_i kvs e1
      cases h
      obtain ⟨ws, h1, h2, r⟩ := rs.at_ hl e1
      refine .inr (.inr ⟨ws, h1, ?_⟩)
      cases kvs <;> cases ws <;> simp at h2 <;> rfl
    · cases h
  | raw v => cases h
theorem d_tv (ha : PE X a (rdE (X.cq W) fa)) (he : ∀ whole, isTrue a X.env whole = (do let v ← whole; standAt a.pos; holding [v] (truthy v)) := by exact fun _ => rfl) : PT X a (rdT (X.cq W) (tV fa)) :=
  PTwk (pt_truth ha he) fun σ H Q ⟨m, ρ, S, re, rs, h⟩ => ⟨m, ρ, S, re, rs, (Post.bind h).imp fun v H1 ⟨m1, x, S1, e1, rs1, rd, h1⟩ => by
    cases e : truD S1 x with
    | none => rw [e] at h1; exact h1.elim
    | some k =>
      rw [e] at h1
      exact ⟨k, tru_of rd rs1 e, h1 _ _ m1 .refl rs1 rfl⟩⟩
theorem d_te {t : TE} (h : PT X e (tTest t)) (k : ∀ σ H Q, rdE (X.cq W) f σ H Q → t σ H Q) : PT X e (rdT (X.cq W) (tE f)) :=
  PTwk h fun σ H Q ⟨m, ρ, S, re, rs, h⟩ => k _ _ _ ⟨m, ρ, S, re, rs, (Post.bind h).imp fun v H1 ⟨m1, x, S1, e1, rs1, rd, h1⟩ => by
    cases rd with
    | bl b => exact ⟨b, rfl, h1 _ _ m1 .refl rs1 rfl⟩
    | _ => exact h1.elim⟩
theorem k2 {r : R2} {g : D → D → Store → Option (D × Store)} (k : ∀ v u H Q, rd2 X.K g v u H Q → r v u H Q) : ∀ σ H Q, rdE (X.cq W) (e2 g fa fb) σ H Q → tOp r (rdE (X.cq W) fa) (rdE (X.cq W) fb) σ H Q := fun σ H Q ⟨m, ρ, S, re, rs, h⟩ =>
  ⟨m, ρ, S, re, rs, (Post.bind h).imp fun v H1 ⟨m1, x, S1, e, rs1, rd, h1⟩ => ⟨m1, ρ, S1, re.mono e, rs1, (Post.bind h1).imp fun u H2 ⟨m2, y, S2, e2, rs2, rd2, h2⟩ =>
    k _ _ _ _ ⟨m2, x, y, S2, rd.mono e2, rd2, rs2, VPost.of h2⟩⟩⟩
/-- a == b and its like: as a value, as a test -/
theorem d_cmp {op : CmpOp} {g : D → D → Store → Option (D × Store)} (ho : OpR X (compareOp op) (rd2 X.K g)) (ha : PE X a (rdE (X.cq W) fa)) (hb : PE X b (rdE (X.cq W) fb)) (hm : behindInMarks op b = false := by first | exact nomark _ | rfl) :
    PE X (.Compare a [op] [b] pos) (rdE (X.cq W) (e2 g fa fb)) := PEwk (pe_cmpR ho ha hb hm) (k2 fun _ _ _ _ h => h)
theorem d_tcmp {op : CmpOp} {g : D → D → Store → Option (D × Store)} (ho : OpR X (compareOp op) (rd2 X.K g)) (ha : PE X a (rdE (X.cq W) fa)) (hb : PE X b (rdE (X.cq W) fb)) (hm : behindInMarks op b = false := by first | exact nomark _ | rfl) :
    PT X (.Compare a [op] [b] pos) (rdT (X.cq W) (tE (e2 g fa fb))) := d_te (pt_cmpR ho ha hb hm) (k2 fun _ _ _ _ h => h)
theorem kCh {r r' : R2} {g g' : D → D → Store → Option (D × Store)} (k : ∀ v u H Q, rd2 X.K g v u H Q → r v u H Q) (k' : ∀ v u H Q, rd2 X.K g' v u H Q → r' v u H Q) :
    ∀ σ H Q, rdE (X.cq W) (eCh g g' fa fb fc) σ H Q → tChain r r' (rdE (X.cq W) fa) (rdE (X.cq W) fb) (rdE (X.cq W) fc) σ H Q := fun σ H Q ⟨m, ρ, S, re, rs, h⟩ =>
  ⟨m, ρ, S, re, rs, (Post.bind h).imp fun v H1 ⟨m1, x, S1, e, rs1, rd, h1⟩ => ⟨m1, ρ, S1, re.mono e, rs1, (Post.bind h1).imp fun u H2 ⟨m2, y, S2, e2, rs2, rd2, h2⟩ => by
    refine k _ _ _ _ ⟨m2, x, y, S2, rd.mono e2, rd2, rs2, ?_⟩
    cases eg : g x y S2 with
    | none => rw [eg] at h2; exact h2.elim
    | some p =>
      obtain ⟨z, S3⟩ := p
      rw [eg] at h2
      intro vz H3 m3 e3 rs3 rdz
      have h2 : Post _ _ m2 H2 σ Q (match z with
        | .bl true => (fc ρ S3).bind fun w S4 => toR (g' y w S4)
        | .bl false => .ok (.bl false) S3
        | _ => .no) := h2
      cases rdz with
      | bl k =>
        refine ⟨k, rfl, ?_⟩
        cases k with
        | true =>
          rw [if_pos rfl]
          have h3 := Post.mono e3 h2
          exact ⟨m3, ρ, S3, ((re.mono e).mono e2).mono e3, rs3, (Post.bind h3).imp fun w H4 ⟨m4, dw, S4, e4, rs4, rdw, h4⟩ => k' _ _ _ _ ⟨m4, y, dw, S4, (rd2.mono e3).mono e4, rdw, rs4, VPost.of h4⟩⟩
        | false =>
          rw [if_neg Bool.false_ne_true]
          exact h2 _ _ m3 e3 rs3 (.bl false)
      | _ => exact h2.elim⟩⟩
theorem d_ch {op op' : CmpOp} {g g' : D → D → Store → Option (D × Store)} (ho : OpR X (compareOp op) (rd2 X.K g)) (ho' : OpR X (compareOp op') (rd2 X.K g')) (ha : PE X a (rdE (X.cq W) fa)) (hb : PE X b (rdE (X.cq W) fb)) (hc : PE X c (rdE (X.cq W) fc))
    (hm : lastMarks [op, op'] [b, c] = false := by with_unfolding_all rfl) : PE X (.Compare a [op, op'] [b, c] pos) (rdE (X.cq W) (eCh g g' fa fb fc)) := PEwk (pe_chain ho ho' ha hb hc hm) (kCh (fun _ _ _ _ h => h) fun _ _ _ _ h => h)
theorem d_tch {op op' : CmpOp} {g g' : D → D → Store → Option (D × Store)} (ho : OpR X (compareOp op) (rd2 X.K g)) (ho' : OpR X (compareOp op') (rd2 X.K g')) (ha : PE X a (rdE (X.cq W) fa)) (hb : PE X b (rdE (X.cq W) fb)) (hc : PE X c (rdE (X.cq W) fc))
    (hm : lastMarks [op, op'] [b, c] = false := by with_unfolding_all rfl) : PT X (.Compare a [op, op'] [b, c] pos) (rdT (X.cq W) (tE (eCh g g' fa fb fc))) := d_te (pt_chain ho ho' ha hb hc hm) (kCh (fun _ _ _ _ h => h) fun _ _ _ _ h => h)
theorem d_and1 (ha : PT X a (rdT (X.cq W) ta)) : PW X (.BoolOp .And [a] pos) (rdT (X.cq W) ta) := pw_and1 ha
theorem d_or1 (ha : PT X a (rdT (X.cq W) ta)) : PW X (.BoolOp .Or [a] pos) (rdT (X.cq W) ta) := pw_or1 ha
theorem d_and (ha : PT X a (rdT (X.cq W) ta)) (hb : PW X (.BoolOp .And (b :: rest) pos) (rdT (X.cq W) tb)) : PW X (.BoolOp .And (a :: b :: rest) pos) (rdT (X.cq W) (tA ta tb)) :=
  PWwk (pw_and ha hb) fun σ H Q ⟨m, ρ, S, re, rs, h⟩ => ⟨m, ρ, S, re, rs, (Post.bind (rel := relB) h).imp fun k H1 ⟨m1, k', S1, e1, rs1, ek, h1⟩ => by
    subst ek
    cases k with
    | true => rw [if_pos rfl]; exact ⟨m1, ρ, S1, re.mono e1, rs1, h1⟩
    | false => rw [if_neg Bool.false_ne_true]; exact h1 _ _ m1 .refl rs1 rfl⟩
theorem d_or (ha : PT X a (rdT (X.cq W) ta)) (hb : PW X (.BoolOp .Or (b :: rest) pos) (rdT (X.cq W) tb)) : PW X (.BoolOp .Or (a :: b :: rest) pos) (rdT (X.cq W) (tO ta tb)) :=
  PWwk (pw_or ha hb) fun σ H Q ⟨m, ρ, S, re, rs, h⟩ => ⟨m, ρ, S, re, rs, (Post.bind (rel := relB) h).imp fun k H1 ⟨m1, k', S1, e1, rs1, ek, h1⟩ => by
    subst ek
    cases k with
    | true => rw [if_pos rfl]; exact h1 _ _ m1 .refl rs1 rfl
    | false => rw [if_neg Bool.false_ne_true]; exact ⟨m1, ρ, S1, re.mono e1, rs1, h1⟩⟩
theorem d_not (ha : PT X a (rdT (X.cq W) ta)) : PT X (.UnaryOp .Not a pos) (rdT (X.cq W) (tN ta)) :=
  PTwk (pt_not ha) fun σ H Q ⟨m, ρ, S, re, rs, h⟩ => ⟨m, ρ, S, re, rs, (Post.bind (rel := relB) h).imp fun k H1 ⟨m1, k', S1, e1, rs1, ek, h1⟩ => by
    subst ek
    exact h1 _ _ m1 .refl rs1 rfl⟩
theorem d_if {t : Expr} (ht : PT X t (rdT (X.cq W) ta)) (ha : PE X a (rdE (X.cq W) fa)) (hb : PE X b (rdE (X.cq W) fb)) : PE X (.IfExp t a b pos) (rdE (X.cq W) (eIf ta fa fb)) :=
  PEwk (pe_ifExp ht ha hb) fun σ H Q ⟨m, ρ, S, re, rs, h⟩ => ⟨m, ρ, S, re, rs, (Post.bind (rel := relB) h).imp fun k H1 ⟨m1, k', S1, e1, rs1, ek, h1⟩ => by
    subst ek
    cases k with
    | true => rw [if_pos rfl]; exact ⟨m1, ρ, S1, re.mono e1, rs1, h1⟩
    | false => rw [if_neg Bool.false_ne_true]; exact ⟨m1, ρ, S1, re.mono e1, rs1, h1⟩⟩
end
/-! .. as values, by truth -/
section
variable {X : Cx} {W : WX} {a b : Expr} {rest : List Expr} {fa fb : EX} {pos : Pos} {op : BoolOp}
theorem d_one (ha : PE X a (rdE (X.cq W) fa)) : PE X (.BoolOp op [a] pos) (rdE (X.cq W) fa) := pe_one ha
theorem d_vand (ha : PE X a (rdE (X.cq W) fa)) (hb : PE X (.BoolOp .And (b :: rest) pos) (rdE (X.cq W) fb)) : PE X (.BoolOp .And (a :: b :: rest) pos) (rdE (X.cq W) (eAnd fa fb)) := by
  refine ⟨fun pins s σ H Q I ⟨m, ρ, S, re, rs, h⟩ => ?_⟩
  refine BoolOp_and (thn (ha.run pins s σ H _ I ⟨m, ρ, S, re, rs, Post.bind h⟩) fun v s1 ⟨x, H1, I1, r1, m1, d, S1, e1, rs1, rd1, h1⟩ => ?_)
  cases e : truD S1 d with
  | none => rw [e] at h1; exact h1.elim
  | some k =>
    rw [e] at h1
    have h1 : Post (X.cq W) (relD (X.cq W)) m1 H1 σ Q (if k then fb ρ S1 else .ok d S1) := h1
    refine thn (tru_ok pins s1 σ H1 x v (fun c H2 => c = k ∧ H2 = H1) I1 r1 ⟨k, tru_of rd1 rs1 e, rfl, rfl⟩) fun c s2 hc => ?_
    obtain ⟨H2, I2, e1', e2⟩ := hc
    rw [e2] at I2
    subst e1'
    cases c with
    | true =>
      rw [if_pos rfl] at h1
      exact hb.run pins s2 σ H1 Q I2 ⟨m1, ρ, S1, re.mono e1, rs1, h1⟩
    | false =>
      rw [if_neg Bool.false_ne_true] at h1
      exact ⟨x, H1, I2, r1, h1 _ _ m1 .refl rs1 rd1⟩
theorem d_vor (ha : PE X a (rdE (X.cq W) fa)) (hb : PE X (.BoolOp .Or (b :: rest) pos) (rdE (X.cq W) fb)) : PE X (.BoolOp .Or (a :: b :: rest) pos) (rdE (X.cq W) (eOr fa fb)) := by
  refine ⟨fun pins s σ H Q I ⟨m, ρ, S, re, rs, h⟩ => ?_⟩
  refine BoolOp_or (thn (ha.run pins s σ H _ I ⟨m, ρ, S, re, rs, Post.bind h⟩) fun v s1 ⟨x, H1, I1, r1, m1, d, S1, e1, rs1, rd1, h1⟩ => ?_)
  cases e : truD S1 d with
  | none => rw [e] at h1; exact h1.elim
  | some k =>
    rw [e] at h1
    have h1 : Post (X.cq W) (relD (X.cq W)) m1 H1 σ Q (if k then .ok d S1 else fb ρ S1) := h1
    refine thn (tru_ok pins s1 σ H1 x v (fun c H2 => c = k ∧ H2 = H1) I1 r1 ⟨k, tru_of rd1 rs1 e, rfl, rfl⟩) fun c s2 hc => ?_
    obtain ⟨H2, I2, e1', e2⟩ := hc
    rw [e2] at I2
    subst e1'
    cases c with
    | false =>
      rw [if_neg Bool.false_ne_true] at h1
      exact hb.run pins s2 σ H1 Q I2 ⟨m1, ρ, S1, re.mono e1, rs1, h1⟩
    | true =>
      rw [if_pos rfl] at h1
      exact ⟨x, H1, I2, r1, h1 _ _ m1 .refl rs1 rd1⟩
theorem d_vnot (ha : PE X a (rdE (X.cq W) fa)) : PE X (.UnaryOp .Not a pos) (rdE (X.cq W) (eNot fa)) := by
  refine ⟨fun pins s σ H Q I ⟨m, ρ, S, re, rs, h⟩ => ?_⟩
  refine UnaryOp_ (thn (ha.run pins s σ H _ I ⟨m, ρ, S, re, rs, Post.bind h⟩) fun v s1 ⟨x, H1, I1, r1, m1, d, S1, e1, rs1, rd1, h1⟩ => ?_)
  cases e : truD S1 d with
  | none => rw [e] at h1; exact h1.elim
  | some k =>
    rw [e] at h1
    exact not_of (thn (tru_ok pins s1 σ H1 x v (fun c H2 => c = k ∧ H2 = H1) I1 r1 ⟨k, tru_of rd1 rs1 e, rfl, rfl⟩) fun c s2 ⟨H2, I2, e1', e2⟩ => by
      subst e1' e2
      exact ⟨.bl (!c), H2, I2, rfl, h1 _ _ m1 .refl rs1 (.bl _)⟩)
end
/-! a call of a def -/
section
variable {X : Cx} {W : WX} {e : Expr} {es : List Expr} {fx : AX} {pos p : Pos} {CX : CXT} {k : Nat} {f : Addr} {fd : FuncData} {ps : List Str} {x : Str} {F : List D → M D}
theorem d_call (G : FnOk X.prog X.w X.K X.mg X.base CX k f fd ps (rdF ⟨X.K, X.mg, W0⟩ F)) (hr : Room k X.A) (hg : Gl X x) (hm : X.mg x = some (.ref f)) (hk : PySem.W.keepIn X.K (.ref f) = true) (hb : Binds X.K fd ps []) (hx : ∀ σ, PassesAt CX X σ (WE W σ))
    (ha : PA X (e :: es) (rdA (X.cq W) fx)) (hdb : (x == ("__debug__" : Str)) = false := by decide) (he : starEach (e :: es) X.env = (false, eval e X.env) :: starEach es X.env := by rfl) (hpl : (backTo pos (starEach es X.env)).any (·.1) = false := by rfl) :
    PE X (.Call (.Name x p) (e :: es) [] pos) (rdE (X.cq W) (eF F fx)) := PEwk (pe_callS G hr hg hm hk hb hx ha hdb he hpl) fun σ H Q ⟨m, ρ, S, re, rs, h⟩ =>
  ⟨m, ρ, S, re, rs, (Post.bind h).imp fun vs H1 ⟨m1, xs, S1, e1, rs1, rds, h1⟩ => ⟨m1, xs, S1, rds, rs1, by
    cases er : F xs S1 with
    | ok d S2 => rw [er] at h1; exact h1
    | ex ex S2 => rw [er] at h1; exact h1
    | no => rw [er] at h1; exact h1⟩⟩
end
end Dl

set_option Elab.async false
set_option linter.all false
set_option maxRecDepth 100000
namespace Dl
open PySem PySem.Spec PyProof.Rows L2

/-! ## statements -/
def sP : SX := fun ρ S => .nx ρ S
def Out.seq (o : Out) (h : SX) : Out := match o with
  | .nx ρ' S' => h ρ' S'
  | o => o
def sQ (g h : SX) : SX := fun ρ S => (g ρ S).seq h
def sBk : SX := fun ρ S => .bk ρ S
def sCt : SX := fun ρ S => .ct ρ S
def sNo : SX := fun _ _ => .no
def sE (f : EX) : SX := fun ρ S => (f ρ S).out ρ fun _ S1 => .nx ρ S1
def sR (f : EX) : SX := fun ρ S => (f ρ S).out ρ fun d S1 => .rt d S1
def sIf (t : TX) (g h : SX) : SX := fun ρ S => (t ρ S).out ρ fun b S1 => if b then g ρ S1 else h ρ S1
/-- name = .. -/
def nm (i : Nat) : D → SX := fun d ρ S => .nx (ρ.set i (some d)) S
def tgO : Out → Out
  | .nx ρ S => .nx ρ S
  | .ex x ρ S => .ex x ρ S
  | _ => .no
def sA (f : EX) (tg : D → SX) : SX := fun ρ S => (f ρ S).out ρ fun d S1 => tgO (tg d ρ S1)
def sN (j : Nat) (f : EX) : SX := fun ρ S => (f ρ S).out ρ fun d S1 => .nx (ρ.set j (some d)) S1
/-- o[i] = .. -/
def tgIx (fo fi : EX) : D → SX := fun d ρ S => (fo ρ S).out ρ fun o S1 => (fi ρ S1).out ρ fun i S2 => match gSet o i d S2 with
  | some S3 => .nx ρ S3
  | none => .no
/-- several targets -/
def tgL : List (D → SX) → List D → SX
  | [], [] => sP
  | t :: ts, d :: ds => fun ρ S => match t d ρ S with
    | .nx ρ' S' => tgL ts ds ρ' S'
    | .ex x ρ' S' => .ex x ρ' S'
    | _ => .no
  | _, _ => sNo
def tgT (ts : List (D → SX)) : D → SX := fun d => match d with
  | .tup ds => if ds.length = ts.length then tgL ts ds else sNo
  | _ => sNo
section
variable {X : Cx} {W : WX} {st : Stmt} {rest : List Stmt} {g h : SX} {e o i : Expr} {f fo fi : EX} {t : Expr} {ft : TX} {pos : Pos} {a b : List Stmt}
theorem t_nil : PSs X [] (rdS (X.cq W) sP) := PSswk pss_nil fun Dn σ H ⟨m, ρ, S, re, rs, h⟩ => h σ H m .refl re rs
theorem seq_post {c : Cq} {m : List Addr} {H : Hp} {Dn : Ends} {o : Out} {h : SX} (q : PostS c m H Dn (o.seq h)) : PostS c m H { Dn with nx := rdS c h Dn } o := by
  cases o with
  | nx ρ' S' => exact fun σ' H' m' e re rs => ⟨m', ρ', S', re, rs, PostS.mono e q⟩
  | _ => exact q
theorem t_cons (h1 : PS X st (rdS (X.cq W) g)) (h2 : PSs X rest (rdS (X.cq W) h)) : PSs X (st :: rest) (rdS (X.cq W) (sQ g h)) := PSswk (pss_cons h1 h2) fun Dn σ H ⟨m, ρ, S, re, rs, q⟩ =>
  ⟨m, ρ, S, re, rs, seq_post q⟩
theorem t_one (h1 : PS X st (rdS (X.cq W) g)) : PSs X [st] (rdS (X.cq W) g) := pss_one h1
theorem t_pass : PS X (.Pass pos) (rdS (X.cq W) sP) := PSwk ps_pass fun Dn σ H ⟨m, ρ, S, re, rs, h⟩ => h σ H m .refl re rs
theorem t_break : PS X (.Break pos) (rdS (X.cq W) sBk) := PSwk ps_break fun Dn σ H ⟨m, ρ, S, re, rs, h⟩ => h σ H m .refl re rs
theorem t_continue : PS X (.Continue pos) (rdS (X.cq W) sCt) := PSwk ps_continue fun Dn σ H ⟨m, ρ, S, re, rs, h⟩ => h σ H m .refl re rs
theorem t_never : PS X st (rdS (X.cq W) sNo) := PSwk ps_never fun Dn σ H ⟨m, ρ, S, re, rs, h⟩ => h
theorem t_doc {x j pos pos'} : PS X (.Expr (.Constant (.str x) j pos) pos') (rdS (X.cq W) sP) := PSwk ps_doc fun Dn σ H ⟨m, ρ, S, re, rs, h⟩ => h σ H m .refl re rs
theorem t_expr (he : PE X e (rdE (X.cq W) f)) (hs : swapsWith e none pos.line X.env = pure false := by rfl) : PS X (.Expr e pos) (rdS (X.cq W) (sE f)) := PSwk (ps_expr he hs) fun Dn σ H ⟨m, ρ, S, re, rs, q⟩ =>
  ⟨m, ρ, S, re, rs, (Post.out re q).imp fun v H1 ⟨m1, d, S1, e1, rs1, rd, re1, q1⟩ => q1 σ H1 m1 .refl re1 rs1⟩
theorem t_ret (he : PE X e (rdE (X.cq W) f)) : PS X (.Return (some e) pos) (rdS (X.cq W) (sR f)) := PSwk (ps_ret he) fun Dn σ H ⟨m, ρ, S, re, rs, q⟩ =>
  ⟨m, ρ, S, re, rs, (Post.out re q).imp fun v H1 ⟨m1, d, S1, e1, rs1, rd, re1, q1⟩ => q1 v H1 m1 .refl rs1 rd⟩
theorem t_retN : PS X (.Return none pos) (rdS (X.cq W) (sR (eC .non))) := PSwk ps_retN fun Dn σ H ⟨m, ρ, S, re, rs, q⟩ => q .non H m .refl rs .non
theorem t_if (ht : PT X t (rdT (X.cq W) ft)) (ha : PSs X a (rdS (X.cq W) g)) (hb : PSs X b (rdS (X.cq W) h)) : PS X (.If t a b pos) (rdS (X.cq W) (sIf ft g h)) := PSwk (ps_if ht ha hb) fun Dn σ H ⟨m, ρ, S, re, rs, q⟩ =>
  ⟨m, ρ, S, re, rs, (Post.out (rel := relB) re q).imp fun k H1 ⟨m1, k', S1, e1, rs1, ek, re1, q1⟩ => by
    subst ek
    cases k with
    | true => rw [if_pos rfl]; exact ⟨m1, ρ, S1, re1, rs1, q1⟩
    | false => rw [if_neg Bool.false_ne_true]; exact ⟨m1, ρ, S1, re1, rs1, q1⟩⟩
/-! ### targets -/
theorem g_nm {j : Nat} {x : Str} (hN : X.N.Nodup) (hi : X.N[j]? = some x := by rfl) (hx : Loc X.env.scope x := by first | exact .inl rfl | exact .inr rfl) (hf : X.fn x = true ∨ X.env.scope.names.lookup x = some .local := by first | exact .inl rfl | exact .inr rfl) :
    PG X (.Name x pos) (rdG (X.cq W) (nm j)) := PGwk (pg_name hN hi hx hf) fun v σ H Q ⟨m, ρ, S, d, re, rs, rd, q⟩ => q _ H m .refl (re.set rd j) rs
def rdGs (c : Cq) (tg : List D → SX) : TGs := fun vs σ H Q => ∃ m ρ S ds, RE c.K m H σ ρ ∧ RS c.K m H S ∧ RDs c.K m H vs ds ∧ PostS c m H { nx := Q, rt := fun _ _ => False } (tg ds ρ S)
theorem g_nil : PGs X [] (rdGs (X.cq W) (tgL [])) := ⟨fun pins s σ H vs us Q I r ⟨m, ρ, S, ds, re, rs, rd, q⟩ => pgs_nil.run pins s σ H vs us Q I r (by
  cases rd with
  | nil => exact ⟨rfl, q σ H m .refl re rs⟩
  | cons _ _ => exact q.elim)⟩
theorem g_cons {es : List Expr} {tg : D → SX} {ts : List (D → SX)} (h1 : PG X e (rdG (X.cq W) tg)) (h2 : PGs X es (rdGs (X.cq W) (tgL ts)))
    (hs : (assignEach (e :: es) X.env).map (·.2) = assign e X.env :: (assignEach es X.env).map (·.2) := by rfl) : PGs X (e :: es) (rdGs (X.cq W) (tgL (tg :: ts))) := ⟨fun pins s σ H vs us Q I r ⟨m, ρ, S, ds, re, rs, rd, q⟩ =>
  (pgs_cons h1 h2 hs).run pins s σ H vs us Q I r (by
    cases rd with
    | nil => exact q.elim
    | @cons v d vs ds hd hds =>
      refine ⟨v, vs, rfl, m, ρ, S, d, re, rs, hd, ?_⟩
      have q : PostS (X.cq W) m H { nx := Q, rt := fun _ _ => False } (match tg d ρ S with
        | .nx ρ' S' => tgL ts ds ρ' S'
        | .ex x ρ' S' => .ex x ρ' S'
        | _ => .no) := q
      cases eo : tg d ρ S with
      | nx ρ' S' =>
        rw [eo] at q
        exact fun σ' H' m' e' re' rs' => ⟨m', ρ', S', ds, re', rs', hds.mono e', PostS.mono e' q⟩
      | ex x ρ' S' => rw [eo] at q; exact q
      | _ => rw [eo] at q; exact q.elim)⟩
theorem g_tup {es : List Expr} {k : Nat} {ts : List (D → SX)} (hc : X.calm = true) (h : PGs X es (rdGs (X.cq W) (tgL ts))) (hl : ts.length = es.length := by rfl)
    (hn : (assignEach es X.env).length = es.length := by rfl) (hst : (assignEach es X.env).findIdx? (·.1) = none := by rfl) : PG X (.Tuple es k pos) (rdG (X.cq W) (tgT ts)) := PGwk (pg_tup hc h hn hst) fun v σ H Q ⟨m, ρ, S, d, re, rs, rd, q⟩ => by
  cases rd with
  | @tup a vs ds ht r =>
    have q : PostS (X.cq W) m H { nx := Q, rt := fun _ _ => False } ((if ds.length = ts.length then tgL ts ds else sNo) ρ S) := q
    by_cases hz : ds.length = ts.length
    · rw [if_pos hz] at q
      exact ⟨a, vs, rfl, ht.sq, by rw [r.length, hz, hl], m, ρ, S, ds, re, rs, r, q⟩
    · rw [if_neg hz] at q
      exact q.elim
  | _ => exact q.elim
theorem g_ix (ho : PE X o (rdE (X.cq W) fo)) (hi : PE X i (rdE (X.cq W) fi))
    (ha : ∀ v, assign (.Subscript o i pos) X.env v = (do
      let ov ← holding [v] (eval o X.env)
      let iv ← holding [v, ov] (eval i X.env)
      standAt pos
      holding [v, ov, iv] (setItem ov iv v)
      release [v, ov, iv] []) := by intro _; rfl) : PG X (.Subscript o i pos) (rdG (X.cq W) (tgIx fo fi)) := PGwk (pg_sub ho hi p_set ha) fun v σ H Q ⟨m, ρ, S, d, re, rs, rd, q⟩ =>
  ⟨m, ρ, S, re, rs, (Post.out re q).imp fun vo H1 ⟨m1, x, S1, e1, rs1, rx, re1, q1⟩ => ⟨m1, ρ, S1, re1, rs1, (Post.out re1 q1).imp fun vi H2 ⟨m2, y, S2, e2, rs2, ry, re2, q2⟩ => by
    refine ⟨m2, x, y, d, S2, rx.mono e2, ry, (rd.mono e1).mono e2, rs2, ?_⟩
    cases eg : gSet x y d S2 with
    | none => rw [eg] at q2; exact q2.elim
    | some S3 =>
      rw [eg] at q2
      exact fun H3 m3 e3 rs3 => q2 σ H3 m3 e3 (re2.mono e3) rs3⟩⟩
/-- target = value -/
theorem t_asg {tg : Expr} {G : D → SX} (he : PE X e (rdE (X.cq W) f)) (hg : PG X tg (rdG (X.cq W) G)) (hs : swapsWithSole [tg] e pos.line X.env = pure false := by rfl) (hw : swappedStores [tg] e X.env = pure none := by rfl)
    (h1 : (assignEach [tg] X.env).map (·.2) = [assign tg X.env] := by rfl) : PS X (.Assign [tg] e pos) (rdS (X.cq W) (sA f G)) := PSwk (ps_asg he hg hs hw h1) fun Dn σ H ⟨m, ρ, S, re, rs, q⟩ =>
  ⟨m, ρ, S, re, rs, (Post.out re q).imp fun v H1 ⟨m1, d, S1, e1, rs1, rd, re1, q1⟩ => ⟨m1, ρ, S1, d, re1, rs1, rd, by
    cases eo : G d ρ S1 with
    | nx ρ' S' => rw [eo] at q1; exact q1
    | ex x ρ' S' => rw [eo] at q1; exact q1
    | _ => rw [eo] at q1; exact q1.elim⟩⟩
theorem t_set {j : Nat} {x : Str} {pos' : Pos} (hN : X.N.Nodup) (he : PE X e (rdE (X.cq W) f)) (hi : X.N[j]? = some x := by rfl) (hx : Loc X.env.scope x := by first | exact .inl rfl | exact .inr rfl) (hs : swapsWith e (some (.Name x pos')) pos.line X.env = pure false := by rfl)
    (hf : X.fn x = true ∨ X.env.scope.names.lookup x = some .local := by first | exact .inl rfl | exact .inr rfl) : PS X (.Assign [.Name x pos'] e pos) (rdS (X.cq W) (sN j f)) := PSwk (ps_set hN hi hx he hs hf) fun Dn σ H ⟨m, ρ, S, re, rs, q⟩ =>
  ⟨m, ρ, S, re, rs, (Post.out re q).imp fun v H1 ⟨m1, d, S1, e1, rs1, rd, re1, q1⟩ => q1 _ H1 m1 .refl (re1.set rd j) rs1⟩
end
end Dl

set_option Elab.async false
set_option linter.all false
set_option maxRecDepth 100000
namespace Dl
open PySem PySem.Spec PyProof.Rows L2

/-! ## what is walked -/
/-- lists that must stand as they are while they are walked -/
abbrev Chk := List (Nat × List D)
def chkOk (k : Chk) (S : Store) : Prop := ∀ p ∈ k, lstAt S p.1 = some p.2
/-- the items, and what must stand -/
abbrev IX := Env → Store → R (List D × Chk)
def ItOk (K : PySem.W.Frag) (m0 : List Addr) (H0 : Hp) (J : It) (xs : List D) (k : Chk) : Prop :=
  ∀ (i : Nat) (m : List Addr) (H : Hp) (S : Store), Ext K m0 H0 m H → RS K m H S → chkOk k S →
    (∀ d, xs[i]? = some d → J.go i H ∧ ∀ x H', J.yld i H x H' → ∃ m', Ext K m H m' H' ∧ RS K m' H' S ∧ RD K m' H' x d) ∧ (xs.length ≤ i → J.stop i H)
def PostI (c : Cq) (m : List Addr) (H : Hp) (σ : L2.St) (R' : It → Hp → Prop) : R (List D × Chk) → Prop
  | .ok p S' => ∀ J H' m', Ext c.K m H m' H' → RS c.K m' H' S' → ItOk c.K m' H' J p.1 p.2 → R' J H'
  | .ex x S' => ∀ cls dd H' m', Ext c.K m H m' H' → RS c.K m' H' S' → RX c m' H' x cls dd → c.W cls dd σ H'
  | .no => False
theorem PostI.mono {c : Cq} {m m1 : List Addr} {H H1 : Hp} {σ : L2.St} {R' : It → Hp → Prop} {r : R (List D × Chk)} (e : Ext c.K m H m1 H1) (h : PostI c m H σ R' r) : PostI c m1 H1 σ R' r := by
  cases r with
  | ok p S2 => exact fun J H2 m2 e2 => h J H2 m2 (e.trans e2)
  | ex x S2 => exact fun cls dd H2 m2 e2 => h cls dd H2 m2 (e.trans e2)
  | no => exact h
def rdI (c : Cq) (src : IX) : TI := fun σ H R' => ∃ m ρ S, RE c.K m H σ ρ ∧ RS c.K m H S ∧ PostI c m H σ R' (src ρ S)
def iL (f : EX) : IX := fun ρ S => (f ρ S).bind fun d S1 => match d with
  | .ref l => match lstAt S1 l with
    | some xs => .ok (xs, [(l, xs)]) S1
    | none => .no
  | _ => .no
def iT (f : EX) : IX := fun ρ S => (f ρ S).bind fun d S1 => match d with
  | .tup xs => .ok (xs, []) S1
  | _ => .no
def iS (f : EX) : IX := fun ρ S => (f ρ S).bind fun d S1 => match d with
  | .str x => .ok (x.cps.toList.map fun c => .str ⟨#[c]⟩, []) S1
  | _ => .no
def rng (lo : Int) (n : Nat) : List D := (List.range n).map fun i => .int (lo + (i : Nat))
def iR1 (f : EX) : IX := fun ρ S => (f ρ S).bind fun d S1 => match d with
  | .int j => if -(2 ^ 62) ≤ j ∧ j < 2 ^ 62 then .ok (rng 0 j.toNat, []) S1 else .no
  | _ => .no
def iR2 (f g : EX) : IX := fun ρ S => (f ρ S).bind fun d S1 => (g ρ S1).bind fun e S2 => match d, e with
  | .int i, .int j => if -(2 ^ 62) ≤ i ∧ i < 2 ^ 62 ∧ -(2 ^ 62) ≤ j ∧ j < 2 ^ 62 then .ok (rng i (j - i).toNat, []) S2 else .no
  | _, _ => .no
/-- reversed(..) of a list or a tuple -/
def iV (f : EX) : IX := fun ρ S => (f ρ S).bind fun d S1 => match d with
  | .ref l => match lstAt S1 l with
    | some xs => .ok (xs.reverse, [(l, xs)]) S1
    | none => .no
  | .tup xs => .ok (xs.reverse, []) S1
  | _ => .no
section
variable {X : Cx} {W : WX} {tg e a b : Expr} {f g : EX} {pos p : Pos}
theorem it_list {K : PySem.W.Frag} {m : List Addr} {H : Hp} {a : Addr} {l : Nat} {xs : List D} (h : m[l]? = some a) : ItOk K m H (Itl K a) xs [(l, xs)] := by
  intro i m' H' S e rs hk
  have q := hk (l, xs) (by simp)
  obtain ⟨vs, h1, r⟩ := rs.lst (e.at h) q
  refine ⟨fun d hd => ?_, fun hl => ⟨vs, h1, by rw [r.length]; exact hl⟩⟩
  obtain ⟨v, h2, rd⟩ := r.get hd
  refine ⟨⟨vs, v, h1, h2⟩, fun x H'' y => ?_⟩
  obtain ⟨eH, y⟩ := y
  subst eH
  have z := y vs h1
  rw [h2] at z
  cases z
  exact ⟨m', .refl, rs, rd⟩
theorem it_tup {K : PySem.W.Frag} {m : List Addr} {H : Hp} {a : Addr} {vs : List V} {xs : List D} (h : TupAt K H a vs) (r : RDs K m H vs xs) : ItOk K m H (Itt K a) xs [] := by
  intro i m' H' S e rs hk
  have h1 := (e.tup _ _ h).sq
  have r := r.mono e
  refine ⟨fun d hd => ?_, fun hl => ⟨vs, h1, by rw [r.length]; exact hl⟩⟩
  obtain ⟨v, h2, rd⟩ := r.get hd
  refine ⟨⟨vs, v, h1, h2⟩, fun x H'' y => ?_⟩
  obtain ⟨eH, y⟩ := y
  subst eH
  have z := y vs h1
  rw [h2] at z
  cases z
  exact ⟨m', .refl, rs, rd⟩
theorem it_rng {K : PySem.W.Frag} {m : List Addr} {H : Hp} {lo : Int} {n : Nat} : ItOk K m H (Itr lo n) (rng lo n) [] := by
  intro i m' H' S e rs hk
  unfold rng
  refine ⟨fun d hd => ?_, fun hl => by rw [List.length_map, List.length_range] at hl; exact hl⟩
  have hi : i < n := by have := (List.getElem?_eq_some_iff.mp hd).1; rwa [List.length_map, List.length_range] at this
  rw [List.getElem?_map, List.getElem?_range hi] at hd
  cases hd
  refine ⟨hi, fun x H'' y => ?_⟩
  obtain ⟨eH, y⟩ := y
  subst eH y
  exact ⟨m', .refl, rs, .int _⟩
theorem it_str {K : PySem.W.Frag} {m : List Addr} {H : Hp} {x : Str} : ItOk K m H (Its x) (x.cps.toList.map fun c => .str ⟨#[c]⟩) [] := by
  intro i m' H' S e rs hk
  refine ⟨fun d hd => ?_, fun hl => by rw [List.length_map, Array.length_toList] at hl; exact hl⟩
  rw [List.getElem?_map] at hd
  cases hc : x.cps.toList[i]? with
  | none => rw [hc] at hd; cases hd
  | some c =>
    rw [hc] at hd
    cases hd
    have hi : i < x.cps.size := by have := (List.getElem?_eq_some_iff.mp hc).1; rwa [Array.length_toList] at this
    refine ⟨hi, fun v H'' y => ?_⟩
    obtain ⟨eH, c', e1, y⟩ := y
    subst eH y
    rw [← Array.getElem?_toList, hc] at e1
    cases e1
    exact ⟨m', .refl, rs, .str (by show (1 : Nat) ≤ _; decide)⟩
theorem get_rev {α : Type} {xs : List α} {i : Nat} {d : α} (h : xs.reverse[i]? = some d) : i < xs.length ∧ xs[xs.length - 1 - i]? = some d := by
  have hi : i < xs.length := by have := (List.getElem?_eq_some_iff.mp h).1; rwa [List.length_reverse] at this
  rw [List.getElem?_reverse hi] at h
  exact ⟨hi, h⟩
theorem it_rev {K : PySem.W.Frag} {m : List Addr} {H : Hp} {a : Addr} {l : Nat} {xs : List D} (h : m[l]? = some a) : ItOk K m H (Itv K a xs.length) xs.reverse [(l, xs)] := by
  intro i m' H' S e rs hk
  have q := hk (l, xs) (by simp)
  obtain ⟨vs, h1, r⟩ := rs.lst (e.at h) q
  refine ⟨fun d hd => ?_, fun hl => by rw [List.length_reverse] at hl; exact hl⟩
  obtain ⟨hi, hd⟩ := get_rev hd
  obtain ⟨v, h2, rd⟩ := r.get hd
  refine ⟨⟨hi, vs, v, h1, h2⟩, fun x H'' y => ?_⟩
  obtain ⟨eH, y⟩ := y
  subst eH
  have z := y vs h1
  rw [h2] at z
  cases z
  exact ⟨m', .refl, rs, rd⟩
theorem it_revT {K : PySem.W.Frag} {m : List Addr} {H : Hp} {a : Addr} {vs : List V} {xs : List D} (h : TupAt K H a vs) (r : RDs K m H vs xs) : ItOk K m H (RT.ItvT K a xs.length) xs.reverse [] := by
  intro i m' H' S e rs hk
  have h1 := (e.tup _ _ h).sq
  have r := r.mono e
  refine ⟨fun d hd => ?_, fun hl => by rw [List.length_reverse] at hl; exact hl⟩
  obtain ⟨hi, hd⟩ := get_rev hd
  obtain ⟨v, h2, rd⟩ := r.get hd
  refine ⟨⟨hi, vs, v, h1, h2⟩, fun x H'' y => ?_⟩
  obtain ⟨eH, y⟩ := y
  subst eH
  have z := y vs h1
  rw [h2] at z
  cases z
  exact ⟨m', .refl, rs, rd⟩
/-- from an expression's outcome to what is walked -/
theorem src_bind {α : Type} {β : Type} {c : Cq} {rel : List Addr → Hp → β → α → Prop} {m : List Addr} {H : Hp} {σ : L2.St} {R' : It → Hp → Prop} {r : R α} {k : α → Store → R (List D × Chk)} (h : PostI c m H σ R' (r.bind k)) :
    Post c rel m H σ (fun b H1 => ∃ m1 a S1, Ext c.K m H m1 H1 ∧ RS c.K m1 H1 S1 ∧ rel m1 H1 b a ∧ PostI c m1 H1 σ R' (k a S1)) r := by
  cases r with
  | ok a S => exact fun b H' m' e rs rl => ⟨m', a, S, e, rs, rl, PostI.mono e h⟩
  | ex x S => exact h
  | no => exact h
theorem w_list (he : PE X e (rdE (X.cq W) f)) : PI X tg e (rdI (X.cq W) (iL f)) := PIwk (pi_list he) fun σ H R' ⟨m, ρ, S, re, rs, q⟩ =>
  ⟨m, ρ, S, re, rs, (src_bind (rel := relD (X.cq W)) q).imp fun v H1 ⟨m1, d, S1, e1, rs1, rd, q1⟩ => by
    cases rd with
    | @ref a l hl =>
      simp only at q1
      cases el : lstAt S1 l with
      | none => rw [el] at q1; exact q1.elim
      | some xs =>
        rw [el] at q1
        obtain ⟨vs, h1, r⟩ := rs1.lst hl el
        exact ⟨a, rfl, ⟨vs, h1⟩, q1 _ _ m1 .refl rs1 (it_list hl)⟩
    | _ => exact q1.elim⟩
theorem w_tup (he : PE X e (rdE (X.cq W) f)) : PI X tg e (rdI (X.cq W) (iT f)) := PIwk (pi_tup he) fun σ H R' ⟨m, ρ, S, re, rs, q⟩ =>
  ⟨m, ρ, S, re, rs, (src_bind (rel := relD (X.cq W)) q).imp fun v H1 ⟨m1, d, S1, e1, rs1, rd, q1⟩ => by
    cases rd with
    | @tup a vs ds ht r => exact ⟨a, rfl, ⟨vs, ht.sq⟩, q1 _ _ m1 .refl rs1 (it_tup ht r)⟩
    | _ => exact q1.elim⟩
theorem w_str (he : PE X e (rdE (X.cq W) f)) : PI X tg e (rdI (X.cq W) (iS f)) := PIwk (pi_str he) fun σ H R' ⟨m, ρ, S, re, rs, q⟩ =>
  ⟨m, ρ, S, re, rs, (src_bind (rel := relD (X.cq W)) q).imp fun v H1 ⟨m1, d, S1, e1, rs1, rd, q1⟩ => by
    cases rd with
    | str h => exact ⟨_, rfl, q1 _ _ m1 .refl rs1 it_str⟩
    | _ => exact q1.elim⟩
theorem w_rng1 (hg : Gl X "range") (hm : X.mg "range" = none) (ha : PE X a (rdE (X.cq W) f)) (hs : starEach [a] X.env = [(false, eval a X.env)] := by rfl) (hs2 : starEach [a] X.env = (false, eval a X.env) :: starEach [] X.env := by rfl) : PI X tg (.Call (.Name "range" p) [a] [] pos) (rdI (X.cq W) (iR1 f)) :=
  PIwk (pi_range1 hg hm (pa_cons ha pa_nil hs2) hs) fun σ H R' ⟨m, ρ, S, re, rs, q⟩ => ⟨m, ρ, S, re, rs, (src_bind (rel := relD (X.cq W)) q).imp fun v H1 ⟨m1, d, S1, e1, rs1, rd, q1⟩ => by
    cases rd with
    | int j =>
      simp only at q1
      split at q1
      · rename_i hz
        exact ⟨j, rfl, hz.1, hz.2, q1 _ _ m1 .refl rs1 it_rng⟩
      · exact q1.elim
    | _ => exact q1.elim⟩
theorem w_rng2 (hg : Gl X "range") (hm : X.mg "range" = none) (ha : PE X a (rdE (X.cq W) f)) (hb : PE X b (rdE (X.cq W) g)) (hs : starEach [a, b] X.env = [(false, eval a X.env), (false, eval b X.env)] := by rfl) (hs2 : starEach [b] X.env = [(false, eval b X.env)] := by rfl) (hs4 : starEach [b] X.env = (false, eval b X.env) :: starEach [] X.env := by rfl)
    (hs3 : starEach [a, b] X.env = (false, eval a X.env) :: starEach [b] X.env := by rfl) : PI X tg (.Call (.Name "range" p) [a, b] [] pos) (rdI (X.cq W) (iR2 f g)) :=
  PIwk (pi_range2 hg hm (pa_cons ha (pa_cons hb pa_nil hs4) hs3) hs hs2) fun σ H R' ⟨m, ρ, S, re, rs, q⟩ => ⟨m, ρ, S, re, rs, (src_bind (rel := relD (X.cq W)) q).imp fun v H1 ⟨m1, d, S1, e1, rs1, rd, q1⟩ =>
    ⟨m1, ρ, S1, re.mono e1, rs1, (src_bind (rel := relD (X.cq W)) q1).imp fun u H2 ⟨m2, d2, S2, e2, rs2, rd2, q2⟩ => by
      cases rd with
      | int i =>
        cases rd2 with
        | int j =>
          simp only at q2
          split at q2
          · rename_i hz
            exact ⟨i, j, rfl, hz, q2 _ _ m2 .refl rs2 it_rng⟩
          · exact q2.elim
        | _ => exact q2.elim
      | _ => cases rd2 <;> exact q2.elim⟩⟩
theorem w_rev (hg : Gl X "reversed") (hm : X.mg "reversed" = none) (ha : PE X a (rdE (X.cq W) f)) (hs : starEach [a] X.env = (false, eval a X.env) :: starEach [] X.env := by rfl) : PI X tg (.Call (.Name "reversed" p) [a] [] pos) (rdI (X.cq W) (iV f)) :=
  PIwk (RT.pi_revA hg hm ha hs) fun σ H R' ⟨m, ρ, S, re, rs, q⟩ => ⟨m, ρ, S, re, rs, (src_bind (rel := relD (X.cq W)) q).imp fun v H1 ⟨m1, d, S1, e1, rs1, rd, q1⟩ => by
    cases rd with
    | @ref a l hl =>
      simp only at q1
      cases el : lstAt S1 l with
      | none => rw [el] at q1; exact q1.elim
      | some xs =>
        rw [el] at q1
        obtain ⟨vs, h1, r⟩ := rs1.lst hl el
        exact ⟨a, vs, rfl, .inl ⟨h1, by rw [r.length]; exact q1 _ _ m1 .refl rs1 (it_rev hl)⟩⟩
    | @tup a vs ds ht r => exact ⟨a, vs, rfl, .inr ⟨ht.sq, by rw [r.length]; exact q1 _ _ m1 .refl rs1 (it_revT ht r)⟩⟩
    | _ => exact q1.elim⟩
end

/-! ## for, while -/
open Classical in
noncomputable def runF (tg : D → SX) (body : SX) (k : Chk) : List D → Env → Store → Out
  | [], ρ, S => if chkOk k S then .nx ρ S else .no
  | d :: ds, ρ, S => if chkOk k S then (match tgO (tg d ρ S) with
    | .nx ρ1 S1 => match body ρ1 S1 with
      | .nx ρ2 S2 => runF tg body k ds ρ2 S2
      | .ct ρ2 S2 => runF tg body k ds ρ2 S2
      | .bk ρ2 S2 => .nx ρ2 S2
      | o => o
    | o => o) else .no
noncomputable def sF (src : IX) (tg : D → SX) (body : SX) : SX := fun ρ S => (src ρ S).out ρ fun p S1 => runF tg body p.2 p.1 ρ S1
def runW (t : TX) (body : SX) : Nat → Env → Store → Out
  | 0, _, _ => .no
  | n + 1, ρ, S => (t ρ S).out ρ fun b S1 => if b then (match body ρ S1 with
      | .nx ρ2 S2 => runW t body n ρ2 S2
      | .ct ρ2 S2 => runW t body n ρ2 S2
      | .bk ρ2 S2 => .nx ρ2 S2
      | o => o) else .nx ρ S1
def sW (n : Nat) (t : TX) (body : SX) : SX := fun ρ S => runW t body n ρ S
section
variable {X : Cx} {W : WX} {tg iter t : Expr} {body : List Stmt} {src : IX} {G : D → SX} {g : SX} {ft : TX} {pos : Pos}
theorem t_for (hp : PassesOwn (model X.prog X.w) X.A X.env X.xe) (hc : X.calm = true) (hi : PI X tg iter (rdI (X.cq W) src)) (hg : PG X tg (rdG (X.cq W) G)) (hb : PSs X body (rdS (X.cq W) g))
    (hs : ∀ x, foldedSetIterable iter X.env x = pure x := by intro _; rfl) : PS X (.For tg iter body [] pos) (rdS (X.cq W) (sF src G g)) := PSwk (ps_for hp hc hi hg hb hs) fun Dn σ H ⟨m, ρ, S, re, rs, q⟩ => by
  refine ⟨m, ρ, S, re, rs, ?_⟩
  have q : PostS (X.cq W) m H Dn ((src ρ S).out ρ fun p S1 => runF G g p.2 p.1 ρ S1) := q
  cases es : src ρ S with
  | no => rw [es] at q; exact q.elim
  | ex x S' => rw [es] at q; exact fun cls dd H' m' e rs' rx => q cls dd σ H' m' e (re.mono e) rs' rx
  | ok p S' =>
    obtain ⟨xs, k⟩ := p
    rw [es] at q
    have q : PostS (X.cq W) m H Dn (runF G g k xs ρ S') := q
    intro J H1 m1 e1 rs1 it
    refine ⟨fun i n σ' H' => ∃ mm ρ' S', Ext X.K m1 H1 mm H' ∧ RE X.K mm H' σ' ρ' ∧ RS X.K mm H' S' ∧ n = xs.length - i ∧ i ≤ xs.length ∧ PostS (X.cq W) mm H' Dn (runF G g k (xs.drop i) ρ' S'),
      ⟨xs.length, m1, ρ, S', .refl, re.mono e1, rs1, by simp, Nat.zero_le _, by simpa using PostS.mono e1 q⟩, ?_⟩
    rintro i n σ' H' ⟨mm, ρ', S', e2, re2, rs2, rfl, hi, q2⟩
    by_cases hlt : i < xs.length
    · rw [List.drop_eq_getElem_cons hlt] at q2
      unfold runF at q2
      split at q2
      · rename_i hk
        obtain ⟨go, yl⟩ := (it i mm H' S' e2 rs2 hk).1 xs[i] (List.getElem?_eq_getElem hlt)
        refine .inr ⟨go, fun σ3 H3 => ∃ mm ρ' S', Ext X.K m1 H1 mm H3 ∧ RE X.K mm H3 σ3 ρ' ∧ RS X.K mm H3 S' ∧ PostS (X.cq W) mm H3 Dn (runF G g k (xs.drop (i + 1)) ρ' S'), fun σ3 H3 ⟨mm3, ρ3, S3, e3, re3, rs3, q3⟩ => ⟨xs.length - (i + 1), by omega, mm3, ρ3, S3, e3, re3, rs3, rfl, hlt, q3⟩, fun x H4 y => ?_⟩
        obtain ⟨m4, e4, rs4, rd4⟩ := yl x H4 y
        have q2 := PostS.mono e4 q2
        refine ⟨m4, ρ', S', xs[i], re2.mono e4, rs4, rd4, ?_⟩
        cases eo : G xs[i] ρ' S' with
        | nx ρ5 S5 =>
          rw [eo] at q2
          intro σ5 H5 m5 e5 re5 rs5
          have q2 : PostS (X.cq W) m5 H5 Dn (match g ρ5 S5 with
            | .nx ρ2 S2 => runF G g k (xs.drop (i + 1)) ρ2 S2
            | .ct ρ2 S2 => runF G g k (xs.drop (i + 1)) ρ2 S2
            | .bk ρ2 S2 => .nx ρ2 S2
            | o => o) := PostS.mono e5 q2
          refine ⟨m5, ρ5, S5, re5, rs5, ?_⟩
          have e15 : Ext X.K m1 H1 m5 H5 := (e2.trans e4).trans e5
          cases eb : g ρ5 S5 with
          | nx ρ6 S6 => rw [eb] at q2; exact fun σ6 H6 m6 e6 re6 rs6 => ⟨m6, ρ6, S6, e15.trans e6, re6, rs6, PostS.mono e6 q2⟩
          | ct ρ6 S6 => rw [eb] at q2; exact fun σ6 H6 m6 e6 re6 rs6 => ⟨m6, ρ6, S6, e15.trans e6, re6, rs6, PostS.mono e6 q2⟩
          | bk ρ6 S6 => rw [eb] at q2; exact q2
          | rt d S6 => rw [eb] at q2; exact q2
          | ex x ρ6 S6 => rw [eb] at q2; exact q2
          | no => rw [eb] at q2; exact q2
        | ex x ρ5 S5 => rw [eo] at q2; exact q2
        | _ => rw [eo] at q2; exact q2.elim
      · exact q2.elim
    · have hz : i = xs.length := by omega
      subst hz
      rw [List.drop_length] at q2
      unfold runF at q2
      split at q2
      · rename_i hk
        exact .inl ⟨(it xs.length mm H' S' e2 rs2 hk).2 (Nat.le_refl _), q2 σ' H' mm .refl re2 rs2⟩
      · exact q2.elim
theorem t_while (n : Nat) (hp : PassesOwn (model X.prog X.w) X.A X.env X.xe) (ht : PT X t (rdT (X.cq W) ft)) (hb : PSs X body (rdS (X.cq W) g)) : PS X (.While t body [] pos) (rdS (X.cq W) (sW n ft g)) := PSwk (ps_while hp ht hb) fun Dn σ H ⟨m, ρ, S, re, rs, q⟩ => by
  refine ⟨fun i σ' H' => ∃ mm ρ' S', RE X.K mm H' σ' ρ' ∧ RS X.K mm H' S' ∧ PostS (X.cq W) mm H' Dn (runW ft g i ρ' S'), ⟨n, m, ρ, S, re, rs, q⟩, ?_⟩
  rintro i σ' H' ⟨mm, ρ', S', re', rs', q'⟩
  cases i with
  | zero => exact q'.elim
  | succ i =>
    refine ⟨mm, ρ', S', re', rs', (Post.out (rel := relB) re' q').imp fun b H1 ⟨m1, b', S1, e1, rs1, eb, re1, q1⟩ => ?_⟩
    subst eb
    cases b with
    | false => rw [if_neg Bool.false_ne_true] at q1 ⊢; exact q1 σ' H1 m1 .refl re1 rs1
    | true =>
      rw [if_pos rfl] at q1 ⊢
      refine ⟨fun σ3 H3 => ∃ mm ρ' S', RE X.K mm H3 σ3 ρ' ∧ RS X.K mm H3 S' ∧ PostS (X.cq W) mm H3 Dn (runW ft g i ρ' S'), fun σ3 H3 h => ⟨i, Nat.lt_succ_self _, h⟩, m1, ρ', S1, re1, rs1, ?_⟩
      cases eb : g ρ' S1 with
      | nx ρ6 S6 => rw [eb] at q1; exact fun σ6 H6 m6 e6 re6 rs6 => ⟨m6, ρ6, S6, re6, rs6, PostS.mono e6 q1⟩
      | ct ρ6 S6 => rw [eb] at q1; exact fun σ6 H6 m6 e6 re6 rs6 => ⟨m6, ρ6, S6, re6, rs6, PostS.mono e6 q1⟩
      | bk ρ6 S6 => rw [eb] at q1; exact q1
      | rt d S6 => rw [eb] at q1; exact q1
      | ex x ρ6 S6 => rw [eb] at q1; exact q1
      | no => rw [eb] at q1; exact q1
end
end Dl

set_option Elab.async false
set_option linter.all false
set_option maxRecDepth 100000
namespace Dl
open PySem PySem.Spec PyProof.Rows L2

/-! ## list comprehensions: the target is names -/
/-- the slots of a comprehension's target: one name, or several -/
inductive Cg where
  | one (j : Nat) | many (js : List Nat)
def setsD (ρ : Env) : List Nat → List D → Env
  | j :: js, d :: ds => setsD (ρ.set j (some d)) js ds
  | _, _ => ρ
def Cg.put : Cg → D → Env → Option Env
  | .one j, d, ρ => some (ρ.set j (some d))
  | .many js, .tup ds, ρ => if ds.length = js.length then some (setsD ρ js ds) else none
  | _, _, _ => none
def Cg.slots : Cg → List Nat
  | .one j => [j]
  | .many js => js
def gNs : List Nat → TGs
  | [] => gNil
  | j :: js => gCons (gName j) (gNs js)
def Cg.tg (K : PySem.W.Frag) : Cg → TG
  | .one j => gName j
  | .many js => L2.gTup K js.length (gNs js)
open Classical in
noncomputable def runC (l : Nat) (ρ : Env) (g : Cg) (ft : TX) (fe : EX) (k : Chk) : List D → Store → R D
  | [], S => if chkOk k S then .ok (.ref l) S else .no
  | d :: ds, S => if chkOk k S then (match g.put d ρ with
    | some ρ1 => match ft ρ1 S with
      | .ok true S2 => match fe ρ1 S2 with
        | .ok e S3 => match S3[l]? with
          | some (.lst acc) => if acc.length < LIM then runC l ρ g ft fe k ds (S3.set l (.lst (acc ++ [e]))) else .no
          | _ => .no
        | _ => .no
      | .ok false S2 => runC l ρ g ft fe k ds S2
      | _ => .no
    | none => .no) else .no
/-- [elt for .. in .. if ..] -/
noncomputable def eLc (vs : List Nat) (src : IX) (g : Cg) (ft : TX) (fe : EX) : EX := fun ρ S => (src ρ S).bind fun p S1 => runC S1.length (wipeD ρ vs) g ft fe p.2 p.1 (S1 ++ [.lst []])
def tYesD : TX := fun _ S => .ok true S
section
theorem wipe_get {σ : L2.St} : ∀ {vs : List Nat} {i : Nat}, i ∈ vs → i < σ.length → (wipe σ vs)[i]? = some none
  | v :: vs, i, h, hl => by
    unfold wipe
    by_cases e : v = i
    · subst e
      exact List.getElem?_set_self (by rw [wipe_length]; exact hl)
    · rw [List.getElem?_set_ne e]
      rcases List.mem_cons.mp h with z | z
      · exact absurd z.symm e
      · exact wipe_get z hl
theorem wipe_out {σ : L2.St} : ∀ {vs : List Nat} {i : Nat}, i ∉ vs → (wipe σ vs)[i]? = σ[i]?
  | [], _, _ => rfl
  | v :: vs, i, h => by
    unfold wipe
    have e : v ≠ i := fun z => h (by simp [z])
    rw [List.getElem?_set_ne e]
    exact wipe_out fun z => h (List.mem_cons_of_mem _ z)
/-- slots among vs do not count -/
theorem wipe_same {σ σ' : L2.St} {vs : List Nat} (hl : σ'.length = σ.length) (h : ∀ i, i ∉ vs → σ'[i]? = σ[i]?) : wipe σ' vs = wipe σ vs := by
  apply List.ext_getElem?
  intro i
  by_cases hi : i ∈ vs
  · by_cases hz : i < σ.length
    · rw [wipe_get hi hz, wipe_get hi (by omega)]
    · rw [List.getElem?_eq_none (by rw [wipe_length]; omega), List.getElem?_eq_none (by rw [wipe_length]; omega)]
  · rw [wipe_out hi, wipe_out hi, h i hi]
def setsV (σ : L2.St) : List Nat → List V → L2.St
  | j :: js, v :: vs => setsV (σ.set j (some v)) js vs
  | _, _ => σ
theorem setsV_length : ∀ {js : List Nat} {ws : List V} {σ : L2.St}, (setsV σ js ws).length = σ.length
  | [], _, _ => rfl
  | _ :: _, [], _ => rfl
  | j :: js, w :: ws, σ => by
    show (setsV (σ.set j (some w)) js ws).length = _
    rw [setsV_length, List.length_set]
theorem setsV_out : ∀ {js : List Nat} {ws : List V} {σ : L2.St} {i : Nat}, i ∉ js → (setsV σ js ws)[i]? = σ[i]?
  | [], _, _, _, _ => rfl
  | _ :: _, [], _, _, _ => rfl
  | j :: js, w :: ws, σ, i, h => by
    show (setsV (σ.set j (some w)) js ws)[i]? = _
    rw [setsV_out fun z => h (List.mem_cons_of_mem _ z), List.getElem?_set_ne fun z => h (by simp [z])]
theorem RE.sets {K : PySem.W.Frag} {m : List Addr} {H : Hp} : ∀ {js : List Nat} {ws : List V} {ds : List D} {σ : L2.St} {ρ : Env}, RE K m H σ ρ → RDs K m H ws ds → RE K m H (setsV σ js ws) (setsD ρ js ds)
  | [], _, _, _, _, re, .nil => re
  | [], _, _, _, _, re, .cons _ _ => re
  | _ :: _, _, _, _, _, re, .nil => re
  | j :: js, _, _, _, _, re, .cons h t => by
    have q := RE.sets (js := js) (re.set h j) t
    exact q
theorem gNs_of {js : List Nat} : ∀ {ws : List V} {σ : L2.St} {H : Hp} {Q : L2.St → Hp → Prop}, ws.length = js.length → Q (setsV σ js ws) H → gNs js ws σ H Q := by
  induction js with
  | nil =>
    intro ws σ H Q hl q
    cases ws with
    | nil => exact ⟨rfl, q⟩
    | cons _ _ => cases hl
  | cons j js ih =>
    intro ws σ H Q hl q
    cases ws with
    | nil => cases hl
    | cons w ws => exact ⟨w, ws, rfl, ih (Nat.succ.inj hl) q⟩
theorem cg_of {K : PySem.W.Frag} {m : List Addr} {H : Hp} {g : Cg} {v : V} {d : D} {σ : L2.St} {ρ ρ1 : Env} {vs : List Nat} (hs : ∀ j ∈ g.slots, j ∈ vs) (re : RE K m H σ ρ) (rd : RD K m H v d) (hp : g.put d ρ = some ρ1) {Q : L2.St → Hp → Prop}
    (q : ∀ σ1, RE K m H σ1 ρ1 → wipe σ1 vs = wipe σ vs → Q σ1 H) : g.tg K v σ H Q := by
  cases g with
  | one j =>
    cases hp
    refine q _ (re.set rd j) (wipe_same (List.length_set ..) fun i hi => List.getElem?_set_ne fun z => hi (hs i ?_))
    rw [z]
    exact List.mem_singleton.mpr rfl
  | many js =>
    cases rd with
    | @tup a ws ds ht r =>
      have hp : (if ds.length = js.length then some (setsD ρ js ds) else none) = some ρ1 := hp
      split at hp
      · rename_i hz
        cases hp
        refine ⟨a, ws, rfl, ht.sq, by rw [r.length]; exact hz, gNs_of (by rw [r.length]; exact hz) (q _ (re.sets r) (wipe_same setsV_length fun i hi => setsV_out fun z => hi (hs i z)))⟩
      · cases hp
    | _ => cases hp
variable {X : Cx} {W : WX}
theorem lc_read {src : IX} {g : Cg} {ft : TX} {fe : EX} {vs : List Nat} (hs : ∀ j ∈ g.slots, j ∈ vs) (σ : L2.St) (H : Hp) (Q : VK) (h : rdE (X.cq W) (eLc vs src g ft fe) σ H Q) :
    tLc (rdI (X.cq W) src) (g.tg X.K) (rdT (X.cq W0) ft) (rdE (X.cq W0) fe) vs σ H Q := by
  obtain ⟨m, ρ, S, re, rs, h⟩ := h
  refine ⟨m, ρ, S, re, rs, ?_⟩
  have h : Post (X.cq W) (relD (X.cq W)) m H σ Q ((src ρ S).bind fun p S1 => runC S1.length (wipeD ρ vs) g ft fe p.2 p.1 (S1 ++ [.lst []])) := h
  cases es : src ρ S with
  | no => rw [es] at h; exact h.elim
  | ex x S' => rw [es] at h; exact h
  | ok p S' =>
    obtain ⟨xs, k⟩ := p
    rw [es] at h
    intro J H1 m1 e1 rs1 it D hD
    have h : Post (X.cq W) (relD (X.cq W)) m1 H1 σ Q (runC S'.length (wipeD ρ vs) g ft fe k xs (S' ++ [.lst []])) := Post.mono e1 h
    obtain ⟨e2, rs2⟩ := rs1.push (o := .lst []) (c := .lst []) hD fun m' e' => ⟨[], upd_same, .nil⟩
    have hl : (m1 ++ [D])[S'.length]? = some D := by
      rw [← rs1.len, List.getElem?_append_right (Nat.le_refl _), Nat.sub_self]
      rfl
    have re0 := re.mono e1
    refine ⟨fun i n H' => ∃ mm S2, Ext X.K m1 H1 mm H' ∧ RS X.K mm H' S2 ∧ mm[S'.length]? = some D ∧ n = xs.length - i ∧ i ≤ xs.length ∧ Post (X.cq W) (relD (X.cq W)) mm H' σ Q (runC S'.length (wipeD ρ vs) g ft fe k (xs.drop i) S2),
      ⟨xs.length, m1 ++ [D], S' ++ [.lst []], e2, rs2, hl, by simp, Nat.zero_le _, by simpa using Post.mono e2 h⟩, ?_⟩
    rintro i n H' ⟨mm, S2, e3, rs3, hl3, rfl, hi, h3⟩
    by_cases hlt : i < xs.length
    · rw [List.drop_eq_getElem_cons hlt] at h3
      unfold runC at h3
      split at h3
      · rename_i hk
        obtain ⟨go, yl⟩ := (it i mm H' S2 e3 rs3 hk).1 xs[i] (List.getElem?_eq_getElem hlt)
        refine .inr ⟨go, fun H3 => ∃ mm S3, Ext X.K m1 H1 mm H3 ∧ RS X.K mm H3 S3 ∧ mm[S'.length]? = some D ∧ Post (X.cq W) (relD (X.cq W)) mm H3 σ Q (runC S'.length (wipeD ρ vs) g ft fe k (xs.drop (i + 1)) S3),
          fun H3 ⟨mm3, S3, a1, a2, a3, a4⟩ => ⟨xs.length - (i + 1), by omega, mm3, S3, a1, a2, a3, rfl, hlt, a4⟩, fun x H4 y => ?_⟩
        obtain ⟨m4, e4, rs4, rd4⟩ := yl x H4 y
        have h3 := Post.mono e4 h3
        cases hp : g.put xs[i] (wipeD ρ vs) with
        | none => rw [hp] at h3; exact h3.elim
        | some ρ1 =>
          rw [hp] at h3
          simp only at h3
          have re4 : RE X.K m4 H4 (wipe σ vs) (wipeD ρ vs) := ((re0.mono e3).mono e4).wipe vs
          refine cg_of hs re4 rd4 hp fun σ1 re1 hw => ⟨by rw [hw]; exact wipe_same (wipe_length σ vs) fun i hi => wipe_out hi, m4, ρ1, S2, re1, rs4, ?_⟩
          cases et : ft ρ1 S2 with
          | no => rw [et] at h3; exact h3.elim
          | ex x S5 => rw [et] at h3; exact h3.elim
          | ok b S5 =>
            rw [et] at h3
            intro b' H5 m5 e5 rs5 eb
            subst eb
            have h3 := Post.mono (c := X.cq W) e5 h3
            have e15 := (e3.trans e4).trans e5
            cases b' with
            | false =>
              rw [if_neg Bool.false_ne_true]
              exact ⟨m5, S5, e15, rs5, e5.at (e4.at hl3), h3⟩
            | true =>
              rw [if_pos rfl]
              simp only at h3
              refine ⟨m5, ρ1, S5, re1.mono e5, rs5, ?_⟩
              cases ee : fe ρ1 S5 with
              | no => rw [ee] at h3; exact h3.elim
              | ex x S6 => rw [ee] at h3; exact h3.elim
              | ok d S6 =>
                rw [ee] at h3
                simp only at h3
                intro v H6 m6 e6 rs6 rd6
                have h3 := Post.mono (c := X.cq W) e6 h3
                have hl6 := e6.at (e5.at (e4.at hl3))
                split at h3
                · rename_i acc ea
                  split at h3
                  · rename_i hz
                    obtain ⟨ws, hw, rw'⟩ := rs6.wlst hl6 ea
                    obtain ⟨e7, rs7⟩ := rs6.write (o := .lst (ws ++ [v])) (c' := .lst (acc ++ [d])) hl6 ea rfl rfl fun ex => ⟨_, upd_same, (rw'.mono ex).append (.one (rd6.mono ex))⟩
                    exact ⟨ws, hw, by rw [rw'.length, ← lim_eq]; exact hz, m6, _, (e15.trans e6).trans e7, rs7, hl6, Post.mono (c := X.cq W) e7 h3⟩
                  · exact h3.elim
                · exact h3.elim
      · exact h3.elim
    · have hz : i = xs.length := by omega
      subst hz
      rw [List.drop_length] at h3
      unfold runC at h3
      split at h3
      · rename_i hk
        exact .inl ⟨(it xs.length mm H' S2 e3 rs3 hk).2 (Nat.le_refl _), h3 _ _ mm .refl rs3 (.ref hl3)⟩
      · exact h3.elim
variable {elt tg iter : Expr} {ifs : List Expr} {scope : Scope} {own : List (Str × Nat)} {pos : Pos} {src : IX} {g : Cg} {ft : TX} {fe : EX}
theorem d_lc (hc : X.calm = true) (hN : X.N.Nodup) (hi : PI X tg iter (rdI (X.cq W) src)) (ok : BlkOk X.N X.env.scope scope own) (hsl : ∀ j ∈ g.slots, j ∈ own.map (·.2))
    (hg : ∀ (s : Shared) (H : Hp) (C : Addr) (cl : List (Str × Addr)) (fp : List Addr), PG (X.blk s H scope (compEnvC scope cl C X.env) fp) tg (g.tg X.K)) (ht : ∀ (s : Shared) (H : Hp) (C : Addr) (cl : List (Str × Addr)) (fp : List Addr), PTs (X.blk s H scope (compEnvC scope cl C X.env) fp) ifs (rdT (X.cq W0) ft))
    (he : ∀ (s : Shared) (H : Hp) (C : Addr) (cl : List (Str × Addr)) (fp : List Addr), PE (X.blk s H scope (compEnvC scope cl C X.env) fp) elt (rdE (X.cq W0) fe)) (hs : ∀ x, foldedSetIterable iter X.env x = pure x := by intro _; rfl) :
    PE X (.ListComp elt [⟨tg, iter, ifs, 0⟩] scope pos) (rdE (X.cq W) (eLc (own.map (·.2)) src g ft fe)) := PEwk (pe_lc hc hN hi ok hg ht he hs) (lc_read hsl)
theorem t_setLc {i : Nat} {y : Str} {py spos : Pos} (hc : X.calm = true) (hN : X.N.Nodup) (hy : X.N[i]? = some y) (hyl : X.env.scope.names.lookup y = some .local)
    (hsw : swapsWith (.ListComp elt [⟨tg, iter, ifs, 0⟩] scope pos) (some (.Name y py)) spos.line X.env = pure true) (hi : PI X tg iter (rdI (X.cq W) src)) (ok : BlkOk X.N X.env.scope scope own) (hsl : ∀ j ∈ g.slots, j ∈ own.map (·.2))
    (hg : ∀ (s : Shared) (H : Hp) (C : Addr) (cl : List (Str × Addr)) (fp : List Addr), PG (X.blk s H scope (compEnvC scope cl C X.env) fp) tg (g.tg X.K)) (ht : ∀ (s : Shared) (H : Hp) (C : Addr) (cl : List (Str × Addr)) (fp : List Addr), PTs (X.blk s H scope (compEnvC scope cl C X.env) fp) ifs (rdT (X.cq W0) ft))
    (he : ∀ (s : Shared) (H : Hp) (C : Addr) (cl : List (Str × Addr)) (fp : List Addr), PE (X.blk s H scope (compEnvC scope cl C X.env) fp) elt (rdE (X.cq W0) fe)) (hs : ∀ x, foldedSetIterable iter X.env x = pure x := by intro _; rfl) :
    PS X (.Assign [.Name y py] (.ListComp elt [⟨tg, iter, ifs, 0⟩] scope pos) spos) (rdS (X.cq W) (sN i (eLc (own.map (·.2)) src g ft fe))) := PSwk (ps_setLc (i := i) hc hN hy hyl hsw hi ok hg ht he hs) fun Dn σ H ⟨m, ρ, S, re, rs, q⟩ =>
  lc_read hsl σ H _ ⟨m, ρ, S, re, rs, (Post.out (rel := relD (X.cq W)) re q).imp fun v H1 ⟨m1, d, S1, e1, rs1, rd, re1, q1⟩ => q1 _ H1 m1 .refl (re1.set rd i) rs1⟩
theorem u_nil : PTs X [] (rdT (X.cq W) tYesD) := ⟨fun pins s σ H Q I ⟨m, ρ, S, re, rs, h⟩ => pts_nil.run pins s σ H Q I (h _ H m .refl rs rfl)⟩
theorem u_one {c : Expr} (h : PT X c (rdT (X.cq W) ft)) : PTs X [c] (rdT (X.cq W) ft) := pts_one h
theorem v_one {j : Nat} {x : Str} (hN : X.N.Nodup) (hi : X.N[j]? = some x := by rfl) (hx : Loc X.env.scope x := by first | exact .inl rfl | exact .inr rfl) (hf : X.fn x = true ∨ X.env.scope.names.lookup x = some .local := by first | exact .inl rfl | exact .inr rfl) :
    PG X (.Name x pos) ((Cg.one j).tg X.K) := pg_name hN hi hx hf
theorem v_nil : PGs X [] (gNs []) := pgs_nil
theorem v_cons {j : Nat} {js : List Nat} {e : Expr} {es : List Expr} (h1 : PG X e (gName j)) (h2 : PGs X es (gNs js)) (hs : (assignEach (e :: es) X.env).map (·.2) = assign e X.env :: (assignEach es X.env).map (·.2) := by rfl) : PGs X (e :: es) (gNs (j :: js)) := pgs_cons h1 h2 hs
theorem v_many {js : List Nat} {es : List Expr} {k : Nat} (hc : X.calm = true) (h : PGs X es (gNs js)) (hn : (assignEach es X.env).length = js.length := by rfl) (hst : (assignEach es X.env).findIdx? (·.1) = none := by rfl) :
    PG X (.Tuple es k pos) ((Cg.many js).tg X.K) := pg_tup hc h hn hst
end
end Dl

set_option Elab.async false
set_option linter.all false
set_option maxRecDepth 100000
namespace Dl
open PySem PySem.Spec PyProof.Rows L2

/-! ## what a def leaves: new cells that nobody knows are forgotten -/
mutual
def D.wf (n : Nat) : D → Bool
  | .tup xs => wfs n xs
  | .ref l => decide (l < n)
  | _ => true
def wfs (n : Nat) : List D → Bool
  | [] => true
  | x :: xs => x.wf n && wfs n xs
end
def Cell.wf (n : Nat) : Cell → Bool
  | .lst xs => wfs n xs
  | .rol xs => wfs n xs
  | .dic kvs => wfs n (kvs.map (·.2))
  | .gone => true
def SWf (n : Nat) (S : Store) : Bool := S.all (Cell.wf n)
def newCell (n : Nat) : Option Cell → Option Cell
  | some (.lst xs) => if wfs n xs then some (.lst xs) else none
  | some (.dic kvs) => if wfs n (kvs.map (·.2)) then some (.dic kvs) else none
  | _ => none
def cmp (n : Nat) (d : D) (S' : Store) : R D :=
  if SWf n (S'.take n) then
    if d.wf n then .ok d (S'.take n)
    else match d with
      | .ref l => match newCell n (S'[l]?) with
        | some c => .ok (.ref n) (S'.take n ++ [c])
        | none => .ok d S'
      | _ => .ok d S'
  else .ok d S'
def runB (np ns : Nat) (g : SX) (ds : List D) (S : Store) : R D := if ds.length = np then (match g (ds.map some ++ List.replicate (ns - np) none) S with
  | .rt d S' => cmp S.length d S'
  | .nx _ S' => cmp S.length .non S'
  | .ex x _ S' => .ex x S'
  | _ => .no) else .no
section
variable {K : PySem.W.Frag} {m r : List Addr} {H : Hp}
mutual
theorem RD.low : ∀ {v : V} {d : D}, RD K (m ++ r) H v d → d.wf m.length = true → RD K m H v d
  | _, _, .non, _ => .non
  | _, _, .bl b, _ => .bl b
  | _, _, .int b, _ => .int b
  | _, _, .str h, _ => .str h
  | _, _, .tup h t, w => .tup h (RDs.low t w)
  | _, _, .ref h, w => .ref (by
      have w' := of_decide_eq_true w
      rwa [List.getElem?_append_left w'] at h)
  | _, _, .raw v, _ => .raw v
theorem RDs.low : ∀ {vs : List V} {ds : List D}, RDs K (m ++ r) H vs ds → wfs m.length ds = true → RDs K m H vs ds
  | _, _, .nil, _ => .nil
  | _, _, .cons h t, w => by
    have w' := Bool.and_eq_true_iff.mp w
    exact .cons (RD.low h w'.1) (RDs.low t w'.2)
end
theorem CellOk.low {a : Addr} {c : Cell} (h : CellOk K (m ++ r) H a c) (w : c.wf m.length = true) : CellOk K m H a c := by
  cases c with
  | lst xs => obtain ⟨vs, h1, h2⟩ := h; exact ⟨vs, h1, h2.low w⟩
  | rol xs => obtain ⟨vs, h1, h2⟩ := h; exact ⟨vs, h1, h2.low w⟩
  | dic kvs => obtain ⟨vs, h1, h2, h3⟩ := h; exact ⟨vs, h1, h2, h3.low w⟩
  | gone => trivial
theorem RS.low {S : Store} (h : RS K (m ++ r) H S) (w : SWf m.length (S.take m.length) = true) : RS K m H (S.take m.length) := by
  have hl := h.len
  rw [List.length_append] at hl
  have gm : ∀ {l : Nat} {a : Addr}, m[l]? = some a → (m ++ r)[l]? = some a := fun {l a} e => by
    rw [List.getElem?_append_left (List.getElem?_eq_some_iff.mp e).1]
    exact e
  have gS : ∀ {l : Nat} {c : Cell}, (S.take m.length)[l]? = some c → S[l]? = some c := fun {l c} e => by
    have z := (List.getElem?_eq_some_iff.mp e).1
    rw [List.length_take] at z
    rwa [List.getElem?_take_of_lt (by omega)] at e
  refine ⟨by rw [List.length_take]; omega, fun {l a c} h1 h2 => (h.at_ (gm h1) (gS h2)).low (List.all_eq_true.mp w c (List.mem_of_getElem? h2)), fun h1 h2 h3 h4 h5 h6 => h.inj (gm h1) (gm h2) (gS h3) (gS h4) h5 h6⟩
theorem newCell_mut {n : Nat} {o : Option Cell} {c : Cell} (h : newCell n o = some c) : o = some c ∧ c.wf n = true := by
  unfold newCell at h
  split at h
  · split at h
    · cases h; exact ⟨rfl, ‹_›⟩
    · cases h
  · split at h
    · cases h; exact ⟨rfl, ‹_›⟩
    · cases h
  · cases h
/-- new at the end -/
theorem RS.last {S : Store} {l : Nat} {a : Addr} {c : Cell} (h : RS K (m ++ r) H S) (w : SWf m.length (S.take m.length) = true) (hn : m.length ≤ l) (hl : (m ++ r)[l]? = some a) (hc : S[l]? = some c) (wc : c.wf m.length = true) :
    RS K (m ++ [a]) H (S.take m.length ++ [c]) := by
  have b := h.low w
  have hlen := b.len
  have e : Ext K m H (m ++ [a]) H := ⟨⟨[a], rfl⟩, fun _ _ h => h⟩
  have split1 : ∀ {i : Nat} {x : Addr}, (m ++ [a])[i]? = some x → m[i]? = some x ∨ (i = m.length ∧ x = a) := fun {i x} q => by
    by_cases z : i < m.length
    · rw [List.getElem?_append_left z] at q
      exact .inl q
    · have := (List.getElem?_eq_some_iff.mp q).1
      simp at this
      have e : i = m.length := by omega
      subst e
      rw [List.getElem?_append_right (Nat.le_refl _)] at q
      simp at q
      exact .inr ⟨rfl, q.symm⟩
  have split2 : ∀ {i : Nat} {x : Cell}, (S.take m.length ++ [c])[i]? = some x → (i < m.length ∧ (S.take m.length)[i]? = some x) ∨ (i = m.length ∧ x = c) := fun {i x} q => by
    by_cases z : i < m.length
    · rw [List.getElem?_append_left (by rw [← hlen]; exact z)] at q
      exact .inl ⟨z, q⟩
    · have := (List.getElem?_eq_some_iff.mp q).1
      rw [List.length_append, ← hlen] at this
      simp at this
      have e : i = m.length := by omega
      subst e
      rw [List.getElem?_append_right (by rw [← hlen]; exact Nat.le_refl _), ← hlen] at q
      simp at q
      exact .inr ⟨rfl, q.symm⟩
  have gm : ∀ {l : Nat} {a : Addr}, m[l]? = some a → (m ++ r)[l]? = some a := fun {l a} e => by
    rw [List.getElem?_append_left (List.getElem?_eq_some_iff.mp e).1]
    exact e
  have gS : ∀ {l : Nat} {c : Cell}, (S.take m.length)[l]? = some c → S[l]? = some c := fun {l c} e => by
    have z := (List.getElem?_eq_some_iff.mp e).1
    rw [List.length_take] at z
    rwa [List.getElem?_take_of_lt (by omega)] at e
  have lt : ∀ {i : Nat} {x : Addr}, m[i]? = some x → i < m.length := fun {i x} q => (List.getElem?_eq_some_iff.mp q).1
  refine ⟨by rw [List.length_append, List.length_append, ← hlen]; rfl, fun {i x y} h1 h2 => ?_, fun {i i' x y y'} h1 h2 h3 h4 h5 h6 => ?_⟩
  · rcases split1 h1 with q1 | ⟨q1, rfl⟩
    · rcases split2 h2 with ⟨z, q2⟩ | ⟨q2, rfl⟩
      · exact (b.at_ q1 q2).mono e (fun _ => rfl) fun _ z => z
      · exact absurd (lt q1) (by omega)
    · rcases split2 h2 with ⟨z, q2⟩ | ⟨q2, rfl⟩
      · exact absurd z (by omega)
      · exact ((h.at_ hl hc).low wc).mono e (fun _ => rfl) fun _ z => z
  · rcases split1 h1 with q1 | ⟨q1, e1⟩
    · rcases split2 h3 with ⟨z, q3⟩ | ⟨q3, _⟩
      · rcases split1 h2 with q2 | ⟨q2, e2⟩
        · rcases split2 h4 with ⟨z', q4⟩ | ⟨q4, _⟩
          · exact b.inj q1 q2 q3 q4 h5 h6
          · exact absurd (lt q2) (by omega)
        · rcases split2 h4 with ⟨z', q4⟩ | ⟨q4, e4⟩
          · exact absurd z' (by omega)
          · subst e2 e4
            have := h.inj (gm q1) hl (gS q3) hc h5 h6
            have := lt q1
            omega
      · exact absurd (lt q1) (by omega)
    · rcases split2 h3 with ⟨z, q3⟩ | ⟨q3, e3⟩
      · exact absurd z (by omega)
      · rcases split1 h2 with q2 | ⟨q2, e2⟩
        · rcases split2 h4 with ⟨z', q4⟩ | ⟨q4, _⟩
          · subst e1 e3
            have := h.inj hl (gm q2) hc (gS q4) h5 h6
            have := lt q2
            omega
          · exact absurd (lt q2) (by omega)
        · omega
end
theorem cmp_post {c : Cq} {m m' : List Addr} {H H' : Hp} {v : V} {d : D} {S S' : Store} {Q : VK} {σ : L2.St} (hm : m.length = S.length) (e : Ext c.K m H m' H') (rs : RS c.K m' H' S') (rd : RD c.K m' H' v d) (h : Post c (relD c) m H σ Q (cmp S.length d S')) : Q v H' := by
  obtain ⟨⟨r, rfl⟩, et⟩ := e
  rw [← hm] at h
  unfold cmp at h
  have e0 : Ext c.K m H m H' := ⟨⟨[], by simp⟩, et⟩
  have same : Post c (relD c) m H σ Q (.ok d S') → Q v H' := fun h => h v H' _ ⟨⟨r, rfl⟩, et⟩ rs rd
  split at h
  · rename_i w
    split at h
    · rename_i wd
      exact h v H' m e0 (rs.low w) (rd.low wd)
    · rename_i wd
      split at h
      · rename_i l
        split at h
        · rename_i cl hc
          obtain ⟨q1, q2⟩ := newCell_mut hc
          cases rd with
          | @ref a _ hl =>
            have hn : m.length ≤ l := by
              have := mt (fun z => decide_eq_true z) (show ¬ (D.ref l).wf m.length = true from wd)
              omega
            refine h _ H' (m ++ [a]) ⟨⟨[a], rfl⟩, et⟩ (rs.last w hn hl q1 q2) (.ref ?_)
            rw [List.getElem?_append_right (Nat.le_refl _), Nat.sub_self]
            rfl
        · exact same h
      · exact same h
  · exact same h
theorem re_start {K : PySem.W.Frag} {m : List Addr} {H : Hp} {N : List Str} {vs : List V} {ds : List D} (r : RDs K m H vs ds) : RE K m H (L2.start N vs) (ds.map some ++ List.replicate (N.length - ds.length) none) := by
  unfold L2.start
  have hl := r.length
  refine ⟨by simp [hl], fun {i d} h => ?_⟩
  by_cases z : i < ds.length
  · rw [List.getElem?_append_left (by simpa using z), List.getElem?_map] at h
    cases e : ds[i]? with
    | none => rw [e] at h; cases h
    | some d' =>
      rw [e] at h
      cases h
      obtain ⟨v, h1, h2⟩ := r.get e
      refine ⟨v, ?_, h2⟩
      rw [List.getElem?_append_left (by simp [hl]; exact z), List.getElem?_map, h1]
      rfl
  · rw [List.getElem?_append_right (by simpa using z), List.getElem?_replicate] at h
    split at h <;> cases h
theorem passB {X : Cx} {σ : L2.St} : PassesAt (L2.CX X.prog X.w) X σ (WE W0 σ) := fun _ _ _ _ _ _ h => by
  obtain ⟨_, _, _, _, _, _, _, _, _, _, _, _, z⟩ := h
  exact z.elim
section
variable {P : Program} {w : World} {K : PySem.W.Frag} {mg : Str → Option Value} {base : Heap}
/-- a def of the text keeps its mirror's promise -/
theorem fn_ok {x qual : Str} {st : Stmt} {f : Addr} {fd : FuncData} {N ps : List Str} {k : Nat} {g : SX} (F : Fun K x qual st f fd) (S : FnScope N ps (defScope st))
    (hbody : ∀ (cdv : Value) (A : Around) (outer : List PySem.Env) (s : Shared) (H : Hp) (E : XK), Room k (A.deeper (envOfC qual (defScope st) s.heap.objs.size f cdv)) →
      PSs (cxOf (L2.CX P w) P w K mg base N qual (defScope st) f cdv A outer s H E) (defBody st) (rdS ⟨K, mg, fun c d _ H => E c d H⟩ g)) :
    FnOk P w K mg base (L2.CX P w) (k + 1) f fd ps (rdF ⟨K, mg, W0⟩ (runB ps.length N.length g)) := by
  refine FnOk.of_fun F S (fun vs H Q E h => ?_) fun cdv A outer s H vs Q E hr h => ⟨_, hbody cdv A outer s H E hr, ?_⟩
  · obtain ⟨m, ds, S, r, rs, h⟩ := h
    rw [r.length]
    unfold runB at h
    split at h
    · assumption
    · exact h.elim
  · obtain ⟨m, ds, S, r, rs, h⟩ := h
    unfold runB at h
    split at h
    · rename_i hl
      refine ⟨m, ds.map some ++ List.replicate (N.length - ps.length) none, S, by rw [← hl]; exact re_start r, rs, ?_⟩
      cases eg : g (ds.map some ++ List.replicate (N.length - ps.length) none) S with
      | rt d S' => rw [eg] at h; exact fun v H' m' e rs' rd => cmp_post (σ := []) rs.len e rs' rd h
      | nx ρ' S' => rw [eg] at h; exact fun σ' H' m' e re' rs' => cmp_post (σ := []) rs.len e rs' .non h
      | ex xx ρ' S' => rw [eg] at h; exact fun cls dd σ' H' m' e re' rs' rx => h cls dd H' m' e rs' rx
      | _ => rw [eg] at h; exact h.elim
    · exact h.elim
/-- none is called with no calls left -/
theorem fn_zero {f : Addr} {fd : FuncData} {ps : List Str} : FnOk P w K mg base (L2.CX P w) 0 f fd ps (rdF ⟨K, mg, W0⟩ fun _ _ => .no) :=
  ⟨fun vs H Q E ⟨m, ds, S, r, rs, h⟩ => h.elim, fun A _ outer s H _ args us _ vs _ Q E ⟨m, ds, S, r, rs, h⟩ => h.elim⟩
end
/-- a promise without exceptions -/
def rdL (K : PySem.W.Frag) (F : List D → M D) : Sp := fun vs H Q _ => ∃ m ds S d S', RDs K m H vs ds ∧ RS K m H S ∧ F ds S = .ok d S' ∧ ∀ v H' m', Ext K m H m' H' → RS K m' H' S' → RD K m' H' v d → Q v H'
theorem rdL_F {K : PySem.W.Frag} {mg : Str → Option Value} {F : List D → M D} {vs : List V} {H : Hp} {Q : VK} {E : XK} (h : rdL K F vs H Q E) : rdF ⟨K, mg, W0⟩ F vs H Q E := by
  obtain ⟨m, ds, S, d, S', r, rs, e, k⟩ := h
  exact ⟨m, ds, S, r, rs, by rw [e]; exact k⟩
/-- THE END: a script's ints, True -/
theorem law_sp {K : PySem.W.Frag} {F : List D → M D} {H : Hp} {a : Addr} {ns : List Int} (hO : Only H) (hS : SqL K H a (ns.map V.int)) (h : ∃ S, F [.ref 0] [.rol (ns.map D.int)] = .ok (.bl true) S) :
    rdL K F [.ref a] H (fun v _ => v = .bl true) fun _ _ _ => False := by
  obtain ⟨S, h⟩ := h
  have rds : ∀ ns : List Int, RDs K [a] H (ns.map V.int) (ns.map D.int) := fun ns => by
    induction ns with
    | nil => exact .nil
    | cons n ns ih => exact .cons (.int n) ih
  have hR : RolAt K H a (ns.map V.int) := by
    rcases hS with hS | hS
    · rcases hS with hS | hS
      · rcases hO a with z | ⟨o, xs, z⟩
        · rw [z] at hS; cases hS
        · rw [z] at hS; cases hS
      · exact .inl hS
    · exact .inr hS
  refine ⟨[a], [.ref 0], [.rol (ns.map D.int)], .bl true, S, .cons (.ref rfl) .nil, ⟨rfl, fun {l a' c} h1 h2 => ?_, fun {l l' a' c c'} h1 h2 h3 h4 h5 h6 => ?_⟩, ?_⟩
  · cases l with
    | zero =>
      simp at h1 h2
      subst h1 h2
      exact ⟨_, hR, rds ns⟩
    | succ l => simp at h1
  · cases l with
    | zero => simp at h3; subst h3; cases h5
    | succ l => simp at h3
  · exact ⟨h, fun v H' m' e rs rd => by cases rd; rfl⟩
end Dl

set_option Elab.async false
set_option linter.all false
set_option maxRecDepth 100000
set_option maxHeartbeats 1000000
namespace Dl
open PySem PySem.Spec PyProof.Rows L2 RT
/-! ## list(reversed(xs)) -/
section
variable {prog : Program} {w : World} {A : Around} {E : Value → Shared → Prop} {s : Shared}
theorem extend_rev {it l S : Addr} {items : Array Value} {res : Value} {c₀ : Nat} {R : Result → Shared → Prop} (hh : A.handled = none) (hit : s.heap.IsRevIter it l ((items.size : Int) - 1)) (hl : s.heap.IsList l items) (hne : l ≠ it) (hn : items.size ≤ sizeLine)
    (hSi : S ≠ it) (hSl : S ≠ l) (hS : s.heap.get? S = some { cls := .type "list", data := .seq #[] c₀ })
    (hR : ∀ h' tk acc c', (∀ b o, b ≠ it → b ≠ S → s.heap.get? b = some o → h'.get? b = some o) → h'.get? S = some { cls := .type "list", dict := none, data := .seq acc c', slots := #[] } →
      ItemsOf (fun i v => items[items.size - 1 - i]? = some v) acc items.size → R (.ok (.ret res)) { s with heap := h', toks := tk }) :
    wpAny (model prog w) A.in1 (Builtin.List.listExtendWith (.ref S) (.ref it) res)
      (fun fin s' => match fin with | .done f => R (.ok f) s' | .again c' => c'.quiet = true ∧ codeAny (model prog w) A c' R s') (fun e s' => R (.error e) s') s := by
  have W := (Walks.listRev (prog := prog) (w := w) (A := A.in1) hh it l hne items).toS
  have hSf : S ∉ [it, l] := by simp only [List.mem_cons, List.not_mem_nil, or_false, not_or]; exact ⟨hSi, hSl⟩
  have hT : s.TypeIs (.ref it) "list_reverseiterator" := hit.typeIs
  have h1 : Builtin.List.listSameRef (.ref S) (.ref it) = false := by simp [Builtin.List.listSameRef, hSi]
  unfold Builtin.List.listExtendWith
  refine wpAny_bind (wpAny_typeOf hT ?_)
  rw [if_neg (by rw [h1]; decide)]
  refine wpAny_bind (wpAny_pyIter_revIter hit ?_)
  refine wpAny_bind (wpAny_holding ?_)
  unfold Builtin.List.listLengthHint
  refine wpAny_bind (wpAny_specialOf hT nolen_lri ?_)
  show wpAny _ A.in1 (specialOf (Value.ref it) (Str.ofString "__length_hint__") >>= _) _ _ _
  refine wpAny_bind (wpAny_specialOf hT hint_lri ?_)
  generalize hid : ("list_reverseiterator.__length_hint__" : String) = id0
  wp_delta
  rw [show splitId id0 = some ("list_reverseiterator", "__length_hint__") from by subst hid; decide +kernel]
  subst hid
  refine wpAny_bind (wpAny_isInstance (b := true) hT (by rw [isSubtype_type]; kernel_rfl) ?_)
  refine wpAny_pure ?_
  rw [if_neg (by decide)]
  have e0 : ((items.size : Nat) : Int) - 1 - ((0 : Nat) : Int) = (items.size : Int) - 1 := by omega
  refine wpAny_pure ⟨plainId_quiet F.plain_extend_loop _, codeAny_extend_loopS W hn _ hSf _ items.size 0 _ _ _ rfl (Nat.zero_le _) ⟨Nat.zero_le _, by rw [e0]; exact hit, hl⟩ hS (ItemsOf.nil _) fun s' acc' c' hm hS' hacc => ?_⟩
  rw [Moved.eq_with hm]
  refine hR s'.heap s'.toks acc' c' (fun b o hb hb2 e => hm.heap b o (fun hmem => ?_) e) hS' hacc
  rcases List.mem_cons.mp hmem with e' | hmem
  · exact hb2 e'
  · exact hb (List.mem_singleton.mp hmem)
theorem list_init_rev {it l S : Addr} {items : Array Value} {R : Result → Shared → Prop} (hh : A.handled = none) (hit : s.heap.IsRevIter it l ((items.size : Int) - 1)) (hl : s.heap.IsList l items) (hne : l ≠ it) (hn : items.size ≤ sizeLine)
    (hSi : S ≠ it) (hSl : S ≠ l) (hS : s.heap.get? S = some { cls := .type "list", data := .seq #[] })
    (hR : ∀ h' tk acc c', (∀ b o, b ≠ it → b ≠ S → s.heap.get? b = some o → h'.get? b = some o) → h'.get? S = some { cls := .type "list", dict := none, data := .seq acc c', slots := #[] } →
      ItemsOf (fun i v => items[items.size - 1 - i]? = some v) acc items.size → R (.ok (.ret .none)) { s with heap := h', toks := tk }) :
    wpAny (model prog w) A.in1 (Builtin.«list.__init__» ⟨[.ref S, .ref it], []⟩)
      (fun fin s' => match fin with | .done f => R (.ok f) s' | .again c' => c'.quiet = true ∧ codeAny (model prog w) A c' R s') (fun e s' => R (.error e) s') s := by
  show wpAny _ _ (do let old ← Builtin.List.listItems (.ref S); Builtin.List.listUpdate (.ref S) (fun _ => #[]); letGo old.toList.reverse; Builtin.List.listExtendWith (.ref S) (.ref it) .none) _ _ s
  refine wpAny_bind ?_
  unfold Builtin.List.listItems
  refine wpAny_bind (wpAny_seqItems hS rfl (wpAny_pure ?_))
  show wpAny _ _ (updateSeq S (fun _ => #[]) >>= fun _ => letGo (#[] : Array Value).toList.reverse >>= fun _ => Builtin.List.listExtendWith (.ref S) (.ref it) .none) _ _ s
  refine wpAny_bind (wpAny_updateSeq hS rfl ?_)
  have hS₂ := Heap.get?_update_self (Obj.mapSeq (fun _ => (#[] : Array Value))) hS rfl
  have oth : ∀ b o, b ≠ S → s.heap.get? b = some o → (s.heap.update S (Obj.mapSeq (fun _ => (#[] : Array Value)))).get? b = some o :=
    fun b o hb e => (Heap.get?_update_other _ _ (Ne.symm hb)).trans e
  refine wpAny_bind (wpAny_letGo ?_)
  obtain ⟨ol, hol, hcl, hdl⟩ := id hl
  refine extend_rev hh (hit.at fun o e => oth it o (Ne.symm hSi) e) ⟨ol, oth l _ (Ne.symm hSl) hol, hcl, hdl⟩ hne hn hSi hSl hS₂ fun h' tk acc' c' hk hS' hacc => ?_
  exact hR h' tk acc' c' (fun b o hb hb2 e => hk b o hb hb2 (oth b o hb2 e)) hS' hacc
theorem call_list_rev {it l : Addr} {items : Array Value} {Q : Value → Shared → Prop} (hh : A.handled = none) (hit : s.heap.IsRevIter it l ((items.size : Int) - 1)) (hl : s.heap.IsList l items) (hne : l ≠ it) (hn : items.size ≤ sizeLine)
    (hQ : ∀ h' tk acc' c', (∀ b o, b ≠ it → s.heap.get? b = some o → h'.get? b = some o) →
      h'.get? s.heap.objs.size = some { cls := .type "list", dict := none, data := .seq acc' c', slots := #[] } → ItemsOf (fun i v => items[items.size - 1 - i]? = some v) acc' items.size → Q (.ref s.heap.objs.size) { s with heap := h', toks := tk }) :
    wpAny (model prog w) A (call (.type "list") [.ref it]) Q E s := by
  refine callType_codes (Q₁ := fun obj s₁ => obj = .ref s.heap.objs.size ∧ s₁ = { s with heap := s.heap.push { cls := .type "list", data := .seq #[] } }) F.called_list (F.typeCall_list_1 _) F.entry_list_init
    (code_list_new _ ⟨rfl, rfl⟩) fun obj s₁ h₁ => ?_
  obtain ⟨rfl, rfl⟩ := h₁
  have hS : (s.heap.push { cls := .type "list", data := .seq #[] }).get? s.heap.objs.size = some { cls := .type "list", data := .seq #[] } := Heap.get?_push_size _ rfl
  obtain ⟨oi, hoi, _⟩ := id hit
  obtain ⟨ol, hol, _⟩ := id hl
  refine ⟨⟨_, hS, rfl⟩, F.args_list_init_2 _ _, list_init_rev (A := A.in1) hh (hit.at fun o e => Heap.get?_push_of_some _ e) (hl.push _) hne hn (Nat.ne_of_gt (Heap.lt_size hoi)) (Nat.ne_of_gt (Heap.lt_size hol)) hS fun h' tk acc' c' hk hS' hacc => ?_⟩
  exact ⟨rfl, hQ h' tk acc' c' (fun b o hb e => hk b o hb (Nat.ne_of_lt (Heap.lt_size e)) (Heap.get?_push_of_some _ e)) hS' hacc⟩
end
def gListRev : D → Store → Option (D × Store)
  | .ref l, S => (lstAt S l).map fun xs => (.ref S.length, S ++ [.lst xs.reverse])
  | _, _ => none
section
variable {X : Cx} {W : WX} {e : Expr} {f : EX} {p p2 pos pos2 : Pos}
theorem d_listRev (hc : X.calm = true) (hg : Gl X "list") (hm : X.mg "list" = none) (hg2 : Gl X "reversed") (hm2 : X.mg "reversed" = none) (he : PE X e (rdE (X.cq W) f))
    (hs : starEach [e] X.env = (false, eval e X.env) :: starEach [] X.env := by rfl)
    (hs2 : starEach [.Call (.Name "reversed" p2) [e] [] pos2] X.env = (false, eval (.Call (.Name "reversed" p2) [e] [] pos2) X.env) :: starEach [] X.env := by rfl) :
    PE X (.Call (.Name "list" p) [.Call (.Name "reversed" p2) [e] [] pos2] [] pos) (rdE (X.cq W) (e1 gListRev f)) := by
  refine ⟨fun pins s σ H Q I ⟨m, ρ, S, re, rs, h⟩ => ?_⟩
  refine Call_ (ld_blt I hg hm boot_list (PyProof.Rows.callWith_type1 (args_cons (Call_ (ld_blt I hg2 hm2 PyProof.Rows.boot_reversed (PyProof.Rows.callWith_type1 (args_cons (thn (he.run pins s σ H _ I ⟨m, ρ, S, re, rs, Post.bind h⟩) fun u s1 ⟨v, H1, I1, r1, q1⟩ => args_nil ?_) hs) hs rfl))) hs2) hs2 rfl))
  obtain ⟨m1, d, S1, e1, rs1, rd1, q⟩ := q1
  have q := VPost.of q
  cases rd1 with
  | @ref a l hla =>
    have q : VPost X.K m1 H1 Q ((lstAt S1 l).map fun xs => (.ref S1.length, S1 ++ [.lst xs.reverse])) := q
    cases el : lstAt S1 l with
    | none => rw [el] at q; exact q.elim
    | some xs =>
      rw [el] at q
      obtain ⟨vs, hq, rds⟩ := rs1.lst hla el
      obtain rfl : u = Value.ref a := r1
      obtain ⟨its, rv, p', hz⟩ := I1.list hq
      refine call_reversed_list p'.isList (args_nil ?_)
      have k0 : ∀ b o, s1.heap.get? b = some o → (s1.heap.push (revObj a ((its.toArray.size : Int) - 1))).get? b = some o := fun b o e => Heap.get?_push_of_some _ e
      have I2 : L2.Inv X pins σ H1 { s1 with heap := s1.heap.push (revObj a ((its.toArray.size : Int) - 1)) } := I1.kept (t' := s1.toks) k0
      obtain ⟨f0, f1, f2, f3, f4, f5⟩ := I1.fpOk (H' := H1) (b := s1.heap.objs.size) (Nat.le_refl _) (I1.hok.fresh (Nat.le_refl _))
      have hl := p'.isList
      obtain ⟨ol, hol, _⟩ := id hl
      have hne : a ≠ s1.heap.objs.size := Nat.ne_of_lt (Heap.lt_size hol)
      have hn : its.toArray.size ≤ sizeLine := by rw [List.size_toArray, ← rv.length]; exact hz
      have ksz : (s1.heap.push (revObj a ((its.toArray.size : Int) - 1))).objs.size = s1.heap.objs.size + 1 := Heap.size_push _ _
      refine call_list_rev (s := { s1 with heap := s1.heap.push (revObj a ((its.toArray.size : Int) - 1)) }) (I1.ok.hd hc) ⟨_, Heap.get?_push_size _ rfl, rfl, rfl⟩ (hl.push _) hne hn fun h' tk acc c' hk hS' hi => ?_
      have hfr : H1 (s1.heap.push (revObj a ((its.toArray.size : Int) - 1))).objs.size = none := I2.hok.fresh (Nat.le_refl _)
      refine ⟨.ref (s1.heap.push (revObj a ((its.toArray.size : Int) - 1))).objs.size, upd H1 _ (.lst vs.reverse), ?_, rfl, vp_lst rs1 hfr rds.reverse q⟩
      have I3 : L2.Inv X pins σ H1 { s1 with heap := h', toks := tk } := I2.turned (t' := tk) (fun b o hb e => hk b o hb e) f0 f1 f3 f4 f5
      obtain ⟨g0, g1, g2, g3, g4, g5⟩ := I2.fpOk (H' := H1) (b := (s1.heap.push (revObj a ((its.toArray.size : Int) - 1))).objs.size) (Nat.le_refl _) hfr
      have hS'' : h'.get? (s1.heap.push (revObj a ((its.toArray.size : Int) - 1))).objs.size = some { cls := .type "list", dict := none, data := .seq acc c', slots := #[] } := hS'
      generalize (s1.heap.push (revObj a ((its.toArray.size : Int) - 1))).objs.size = p0 at *
      refine L2.Inv.step (s := { s1 with heap := h', toks := tk }) (g' := s1.gens) (t' := tk) (d' := s1.drawn) (h' := h') (ch := [p0]) I3 (fun b hb => ?_) (fun b o _ _ _ q _ => q) (fun b o _ _ _ q _ => ⟨o.slots, q⟩) (fun b o hb q n => ?_) (fun b o _ q => ⟨o, q⟩) (fun b ws q => by rw [upd_ne (ne_of_none q hfr)]; exact q)
        (fun b o u q => by rw [upd_ne (ne_of_none q hfr)]; exact q) (fun b ps q => ⟨#[], by rw [upd_ne (ne_of_none q hfr), q]; simp⟩) (fun m hm => hm) (fun b u q => ?_) I1.bare
      · have e : b = p0 := by simpa using hb
        subst e
        exact ⟨g3, g1, g4, g5⟩
      · rw [upd_ne (fun z => hb (by simp [z]))]
        exact n
      · by_cases hb : b = p0
        · subst hb
          rw [upd_same] at q
          cases q
          refine ⟨by rw [List.length_reverse]; exact hz, acc.toList, c', RT.vals_rev rv hi, ?_⟩
          rw [Array.toArray_toList]
          exact hS''
        · rw [upd_ne hb] at q
          exact (I3.hok b u q).stay (fun c v _ r => r) (fun c r => by rw [upd_ne (ne_of_none r hfr)]; exact r) fun c ws r => by rw [upd_ne (ne_of_none r hfr)]; exact r
  | _ => exact q.elim
end
end Dl

set_option Elab.async false
set_option linter.all false
set_option maxRecDepth 100000
namespace Dl
open PySem PySem.Spec PyProof.Rows L2
/-! ## a walk over whatever stands there: a list, a tuple, a text -/
def iA (f : EX) : IX := fun ρ S => (f ρ S).bind fun d S1 => match d with
  | .ref l => match lstAt S1 l with
    | some xs => .ok (xs, [(l, xs)]) S1
    | none => .no
  | .tup xs => .ok (xs, []) S1
  | .str x => .ok (x.cps.toList.map fun c => .str ⟨#[c]⟩, []) S1
  | _ => .no
section
variable {X : Cx} {W : WX} {tg e : Expr} {f : EX}
theorem w_any (he : PE X e (rdE (X.cq W) f)) : PI X tg e (rdI (X.cq W) (iA f)) := by
  refine ⟨fun pins s σ H R' I ⟨m, ρ, S, re, rs, q⟩ => thn (he.run pins s σ H _ I ⟨m, ρ, S, re, rs, src_bind q⟩) fun v s1 ⟨x, H1, I1, r1, m1, d, S1, e1, rs1, rd, q1⟩ => ?_⟩
  cases rd with
  | @ref a l hl =>
    simp only at q1
    cases el : lstAt S1 l with
    | none => rw [el] at q1; exact q1.elim
    | some xs =>
      rw [el] at q1
      obtain ⟨vs, hq, r⟩ := rs1.lst hl el
      cases r1
      obtain ⟨its, rv, p, hz⟩ := I1.list hq
      refine wpAny_pyIter_list p.isList ?_
      refine ⟨s1.heap.objs.size, [s1.heap.objs.size], _, _, H1, rfl, I1.kept (t' := s1.toks) fun b o e => Heap.get?_push_of_some _ e, turn_list a _, ⟨_, Heap.get?_push_size _ rfl, rfl, rfl⟩, fun b hb => ?_, q1 _ _ m1 .refl rs1 (it_list hl)⟩
      have e : b = s1.heap.objs.size := by simpa using hb
      subst e
      exact I1.fpOk (Nat.le_refl _) (I1.hok.fresh (Nat.le_refl _))
  | @tup a vs ds ht r =>
    cases r1
    obtain ⟨its, rv, p, hz⟩ := I1.tuple ht.sq
    refine wpAny_pyIter_tuple (show s1.heap.IsTuple a its.toArray from p) ?_
    refine ⟨s1.heap.objs.size, [s1.heap.objs.size], _, _, H1, rfl, I1.kept (t' := s1.toks) fun b o e => Heap.get?_push_of_some _ e, turn_tuple a _, ⟨_, Heap.get?_push_size _ rfl, rfl, rfl⟩, fun b hb => ?_, q1 _ _ m1 .refl rs1 (it_tup ht r)⟩
    have e : b = s1.heap.objs.size := by simpa using hb
    subst e
    exact I1.fpOk (Nat.le_refl _) (I1.hok.fresh (Nat.le_refl _))
  | @str x h =>
    obtain ⟨t, rfl⟩ := r1
    have q : (fun J H' => R' J H') (Its x) H1 := q1 _ _ m1 .refl rs1 it_str
    cases ha : x.cps.all (· < 128)
    · exact wpAny_pyIter_wide ha (pi_one (tk := s1.toks) I1 _ (turn_str _ x t "str_iterator" (.inr rfl)) ⟨_, Heap.get?_push_size _ rfl, rfl, rfl⟩ q)
    · exact wpAny_pyIter_ascii ha (pi_one (tk := s1.toks) I1 _ (turn_str _ x t "str_ascii_iterator" (.inl rfl)) ⟨_, Heap.get?_push_size _ rfl, rfl, rfl⟩ q)
  | _ => exact q1.elim
end
theorem r65 {k : Nat} {A : Around} (r : Room k A) : A.units + 65 < cLine := by have := r.un; omega
end Dl

set_option Elab.async false
set_option linter.all false
set_option maxRecDepth 100000
namespace Dl
open PySem L2
/-! ## the mirror, evaluated from the outside in -/
def kE (ρ : Env) : R D → Out
  | .ok _ S => .nx ρ S
  | .ex x S => .ex x ρ S
  | .no => .no
def kR (ρ : Env) : R D → Out
  | .ok d S => .rt d S
  | .ex x S => .ex x ρ S
  | .no => .no
def kIf (g h : SX) (ρ : Env) : R Bool → Out
  | .ok b S => if b then g ρ S else h ρ S
  | .ex x S => .ex x ρ S
  | .no => .no
def kN (j : Nat) (ρ : Env) : R D → Out
  | .ok d S => .nx (ρ.set j (some d)) S
  | .ex x S => .ex x ρ S
  | .no => .no
def kA (tg : D → SX) (ρ : Env) : R D → Out
  | .ok d S => tgO (tg d ρ S)
  | .ex x S => .ex x ρ S
  | .no => .no
def kIx3 (ρ : Env) : Option Store → Out
  | some S => .nx ρ S
  | none => .no
def kIx2 (o d : D) (ρ : Env) : R D → Out
  | .ok i S => kIx3 ρ (gSet o i d S)
  | .ex x S => .ex x ρ S
  | .no => .no
def kIx1 (f : EX) (d : D) (ρ : Env) : R D → Out
  | .ok o S => kIx2 o d ρ (f ρ S)
  | .ex x S => .ex x ρ S
  | .no => .no
def kE1 (g : D → Store → Option (D × Store)) : R D → R D
  | .ok x S => toR (g x S)
  | .ex x S => .ex x S
  | .no => .no
def kE2 (g : D → D → Store → Option (D × Store)) (x : D) : R D → R D
  | .ok y S => toR (g x y S)
  | .ex x S => .ex x S
  | .no => .no
def kE21 (g : D → D → Store → Option (D × Store)) (fb : EX) (ρ : Env) : R D → R D
  | .ok x S => kE2 g x (fb ρ S)
  | .ex x S => .ex x S
  | .no => .no
def kB (g : List D → Store → Option (D × Store)) : R (List D) → R D
  | .ok xs S => toR (g xs S)
  | .ex x S => .ex x S
  | .no => .no
def kF (F : List D → M D) : R (List D) → R D
  | .ok xs S => F xs S
  | .ex x S => .ex x S
  | .no => .no
def kC (x : D) : R (List D) → R (List D)
  | .ok xs S => .ok (x :: xs) S
  | .ex x S => .ex x S
  | .no => .no
def kC1 (fr : AX) (ρ : Env) : R D → R (List D)
  | .ok x S => kC x (fr ρ S)
  | .ex x S => .ex x S
  | .no => .no
def kM (g : D → List D → Store → Option (D × Store)) (x : D) : R (List D) → R D
  | .ok xs S => toR (g x xs S)
  | .ex x S => .ex x S
  | .no => .no
def kM2 (g : D → List D → Store → Option (D × Store)) (fx : AX) (ρ : Env) (x : D) (S : Store) (T : Ty) : Option Ty → R D
  | some T' => if T' = T then kM g x (fx ρ S) else .no
  | none => .no
def kM1 (g : D → List D → Store → Option (D × Store)) (fx : AX) (ρ : Env) (T : Ty) : R D → R D
  | .ok x S => kM2 g fx ρ x S T (tyD S x)
  | .ex x S => .ex x S
  | .no => .no
def kS3 (x : D) (l : Option Int) : R (Option Int) → R D
  | .ok h S => toR (gSl x l h S)
  | .ex x S => .ex x S
  | .no => .no
def kS2 (x : D) (hi : Env → Store → R (Option Int)) (ρ : Env) : R (Option Int) → R D
  | .ok l S => kS3 x l (hi ρ S)
  | .ex x S => .ex x S
  | .no => .no
def kS1 (lo hi : Env → Store → R (Option Int)) (ρ : Env) : R D → R D
  | .ok x S => kS2 x hi ρ (lo ρ S)
  | .ex x S => .ex x S
  | .no => .no
def kO : R D → R (Option Int)
  | .ok d S => match d with
    | .int i => .ok (some i) S
    | _ => .no
  | .ex x S => .ex x S
  | .no => .no
def kV : R D → R Bool
  | .ok d S => toT S (truD S d)
  | .ex x S => .ex x S
  | .no => .no
def kT : R D → R Bool
  | .ok d S => match d with
    | .bl b => .ok b S
    | _ => .no
  | .ex x S => .ex x S
  | .no => .no
def kAn (u : TX) (ρ : Env) : R Bool → R Bool
  | .ok b S => if b then u ρ S else .ok false S
  | .ex x S => .ex x S
  | .no => .no
def kOr (u : TX) (ρ : Env) : R Bool → R Bool
  | .ok b S => if b then .ok true S else u ρ S
  | .ex x S => .ex x S
  | .no => .no
def kNo : R Bool → R Bool
  | .ok b S => .ok (!b) S
  | .ex x S => .ex x S
  | .no => .no
def kIfE (fa fb : EX) (ρ : Env) : R Bool → R D
  | .ok b S => if b then fa ρ S else fb ρ S
  | .ex x S => .ex x S
  | .no => .no
def kVa2 (fb : EX) (d : D) (ρ : Env) : R Bool → R D
  | .ok b S => if b then fb ρ S else .ok d S
  | .ex x S => .ex x S
  | .no => .no
def kVa (fb : EX) (ρ : Env) : R D → R D
  | .ok d S => kVa2 fb d ρ (toT S (truD S d))
  | .ex x S => .ex x S
  | .no => .no
def kVo2 (fb : EX) (d : D) (ρ : Env) : R Bool → R D
  | .ok b S => if b then .ok d S else fb ρ S
  | .ex x S => .ex x S
  | .no => .no
def kVo (fb : EX) (ρ : Env) : R D → R D
  | .ok d S => kVo2 fb d ρ (toT S (truD S d))
  | .ex x S => .ex x S
  | .no => .no
def kVn2 : R Bool → R D
  | .ok b S => .ok (.bl (!b)) S
  | .ex x S => .ex x S
  | .no => .no
def kVn : R D → R D
  | .ok d S => kVn2 (toT S (truD S d))
  | .ex x S => .ex x S
  | .no => .no
def kH3 (g' : D → D → Store → Option (D × Store)) (y : D) : R D → R D
  | .ok w S => toR (g' y w S)
  | .ex x S => .ex x S
  | .no => .no
def kH2 (g' : D → D → Store → Option (D × Store)) (fc : EX) (y : D) (ρ : Env) : R D → R D
  | .ok z S => match z with
    | .bl b => if b then kH3 g' y (fc ρ S) else .ok (.bl false) S
    | _ => .no
  | .ex x S => .ex x S
  | .no => .no
def kH1 (g g' : D → D → Store → Option (D × Store)) (fc : EX) (x : D) (ρ : Env) : R D → R D
  | .ok y S => kH2 g' fc y ρ (toR (g x y S))
  | .ex x S => .ex x S
  | .no => .no
def kH (g g' : D → D → Store → Option (D × Store)) (fb fc : EX) (ρ : Env) : R D → R D
  | .ok x S => kH1 g g' fc x ρ (fb ρ S)
  | .ex x S => .ex x S
  | .no => .no
/-- an equation that simp takes as a step of its own -/
theorem nr {α : Sort u} {a b : α} (h : a = b) : a = b := h
theorem seq_nx {h : SX} {ρ : Env} {S : Store} : (Out.nx ρ S).seq h = h ρ S := nr rfl
theorem seq_rt {h : SX} {d : D} {S : Store} : (Out.rt d S).seq h = .rt d S := nr rfl
theorem seq_bk {h : SX} {ρ : Env} {S : Store} : (Out.bk ρ S).seq h = .bk ρ S := nr rfl
theorem seq_ct {h : SX} {ρ : Env} {S : Store} : (Out.ct ρ S).seq h = .ct ρ S := nr rfl
theorem seq_ex {h : SX} {x : Exn} {ρ : Env} {S : Store} : (Out.ex x ρ S).seq h = .ex x ρ S := nr rfl
section
variable {ρ : Env} {S : Store} {g h : SX} {f fa fb fc fo : EX} {t u : TX} {fx fr : AX} {i j : Nat} {d x y : D} {tg : D → SX}
theorem sQ_ : sQ g h ρ S = (g ρ S).seq h := nr rfl
theorem sP_ : sP ρ S = .nx ρ S := nr rfl
theorem sE_ : sE f ρ S = kE ρ (f ρ S) := by show (f ρ S).out ρ _ = _; cases f ρ S <;> rfl
theorem sR_ : sR f ρ S = kR ρ (f ρ S) := by show (f ρ S).out ρ _ = _; cases f ρ S <;> rfl
theorem sIf_ : sIf t g h ρ S = kIf g h ρ (t ρ S) := by show (t ρ S).out ρ _ = _; cases t ρ S <;> rfl
theorem sN_ : sN j f ρ S = kN j ρ (f ρ S) := by show (f ρ S).out ρ _ = _; cases f ρ S <;> rfl
theorem sA_ : sA f tg ρ S = kA tg ρ (f ρ S) := by show (f ρ S).out ρ _ = _; cases f ρ S <;> rfl
theorem tgO_nx : tgO (.nx ρ S) = .nx ρ S := nr rfl
theorem nm_ : nm i d ρ S = .nx (ρ.set i (some d)) S := nr rfl
theorem tgIx_ : tgIx fo f d ρ S = kIx1 f d ρ (fo ρ S) := by
  show (fo ρ S).out ρ _ = _
  cases fo ρ S with
  | ok o S1 =>
    show (f ρ S1).out ρ _ = kIx2 o d ρ (f ρ S1)
    cases f ρ S1 with
    | ok i S2 =>
      show (match gSet o i d S2 with | some S3 => Out.nx ρ S3 | none => .no) = kIx3 ρ (gSet o i d S2)
      cases gSet o i d S2 <;> rfl
    | _ => rfl
  | _ => rfl
theorem eC_ : eC d ρ S = .ok d S := nr rfl
theorem eV0 {r : Env} : eV 0 (some d :: r) S = .ok d S := nr rfl
theorem eV1 {a : Option D} {r : Env} {n : Nat} : eV (n + 1) (a :: r) S = eV n r S := nr rfl
theorem e1_ {g : D → Store → Option (D × Store)} : e1 g fa ρ S = kE1 g (fa ρ S) := by show (fa ρ S).bind _ = _; cases fa ρ S <;> rfl
theorem e2_ {g : D → D → Store → Option (D × Store)} : e2 g fa fb ρ S = kE21 g fb ρ (fa ρ S) := by
  show (fa ρ S).bind _ = _
  cases fa ρ S with
  | ok x S1 =>
    show (fb ρ S1).bind _ = kE2 g x (fb ρ S1)
    cases fb ρ S1 <;> rfl
  | _ => rfl
theorem eB_ {g : List D → Store → Option (D × Store)} : eB g fx ρ S = kB g (fx ρ S) := by show (fx ρ S).bind _ = _; cases fx ρ S <;> rfl
theorem eF_ {F : List D → M D} : eF F fx ρ S = kF F (fx ρ S) := by show (fx ρ S).bind _ = _; cases fx ρ S <;> rfl
theorem aN_ : aN ρ S = .ok [] S := nr rfl
theorem aC_ : aC fa fr ρ S = kC1 fr ρ (fa ρ S) := by
  show (fa ρ S).bind _ = _
  cases fa ρ S with
  | ok x S1 =>
    show (fr ρ S1).bind _ = kC x (fr ρ S1)
    cases fr ρ S1 <;> rfl
  | _ => rfl
theorem eMt_ {T : Ty} {g : D → List D → Store → Option (D × Store)} : eMt T g fo fx ρ S = kM1 g fx ρ T (fo ρ S) := by
  show (fo ρ S).bind _ = _
  cases fo ρ S with
  | ok x S1 =>
    show (if tyD S1 x = some T then (fx ρ S1).bind fun xs S2 => toR (g x xs S2) else .no) = kM2 g fx ρ x S1 T (tyD S1 x)
    have q : (fx ρ S1).bind (fun xs S2 => toR (g x xs S2)) = kM g x (fx ρ S1) := by cases fx ρ S1 <;> rfl
    cases tyD S1 x with
    | none => rw [if_neg (fun z => nomatch z)]; rfl
    | some T' =>
      show _ = if T' = T then _ else _
      by_cases e : T' = T
      · rw [if_pos (by rw [e]), if_pos e, q]
      · rw [if_neg (fun z => e (Option.some.inj z)), if_neg e]
  | _ => rfl
theorem eSl_ {lo hi : Env → Store → R (Option Int)} : eSl fa lo hi ρ S = kS1 lo hi ρ (fa ρ S) := by
  show (fa ρ S).bind _ = _
  cases fa ρ S with
  | ok x S1 =>
    show (lo ρ S1).bind _ = kS2 x hi ρ (lo ρ S1)
    cases lo ρ S1 with
    | ok l S2 =>
      show (hi ρ S2).bind _ = kS3 x l (hi ρ S2)
      cases hi ρ S2 <;> rfl
    | _ => rfl
  | _ => rfl
theorem oN_ : oN ρ S = .ok none S := nr rfl
theorem oI_ : oI fa ρ S = kO (fa ρ S) := by show (fa ρ S).bind _ = _; cases fa ρ S <;> rfl
theorem tV_ : tV f ρ S = kV (f ρ S) := by show (f ρ S).bind _ = _; cases f ρ S <;> rfl
theorem tE_ : tE f ρ S = kT (f ρ S) := by show (f ρ S).bind _ = _; cases f ρ S <;> rfl
theorem tA_ : tA t u ρ S = kAn u ρ (t ρ S) := by show (t ρ S).bind _ = _; cases t ρ S <;> rfl
theorem tO_ : tO t u ρ S = kOr u ρ (t ρ S) := by show (t ρ S).bind _ = _; cases t ρ S <;> rfl
theorem tN_ : tN t ρ S = kNo (t ρ S) := by show (t ρ S).bind _ = _; cases t ρ S <;> rfl
theorem eIf_ : eIf t fa fb ρ S = kIfE fa fb ρ (t ρ S) := by show (t ρ S).bind _ = _; cases t ρ S <;> rfl
theorem eAnd_ : eAnd fa fb ρ S = kVa fb ρ (fa ρ S) := by
  show (fa ρ S).bind _ = _
  cases fa ρ S with
  | ok d S1 =>
    show (toT S1 (truD S1 d)).bind _ = kVa2 fb d ρ (toT S1 (truD S1 d))
    cases toT S1 (truD S1 d) <;> rfl
  | _ => rfl
theorem eOr_ : eOr fa fb ρ S = kVo fb ρ (fa ρ S) := by
  show (fa ρ S).bind _ = _
  cases fa ρ S with
  | ok d S1 =>
    show (toT S1 (truD S1 d)).bind _ = kVo2 fb d ρ (toT S1 (truD S1 d))
    cases toT S1 (truD S1 d) <;> rfl
  | _ => rfl
theorem eNot_ : eNot fa ρ S = kVn (fa ρ S) := by
  show (fa ρ S).bind _ = _
  cases fa ρ S with
  | ok d S1 =>
    show (toT S1 (truD S1 d)).bind _ = kVn2 (toT S1 (truD S1 d))
    cases toT S1 (truD S1 d) <;> rfl
  | _ => rfl
theorem eCh_ {g g' : D → D → Store → Option (D × Store)} : eCh g g' fa fb fc ρ S = kH g g' fb fc ρ (fa ρ S) := by
  show (fa ρ S).bind _ = _
  cases fa ρ S with
  | ok x S1 =>
    show (fb ρ S1).bind _ = kH1 g g' fc x ρ (fb ρ S1)
    cases fb ρ S1 with
    | ok y S2 =>
      show (toR (g x y S2)).bind _ = kH2 g' fc y ρ (toR (g x y S2))
      cases toR (g x y S2) with
      | ok z S3 =>
        cases z with
        | bl b =>
          cases b with
          | true =>
            show (fc ρ S3).bind _ = kH3 g' y (fc ρ S3)
            cases fc ρ S3 <;> rfl
          | false => rfl
        | _ => rfl
      | _ => rfl
    | _ => rfl
  | _ => rfl
/-! ### what goes on with an outcome -/
theorem kE_ : kE ρ (.ok d S) = .nx ρ S := nr rfl
theorem kR_ : kR ρ (.ok d S) = .rt d S := nr rfl
theorem kIf_t : kIf g h ρ (.ok true S) = g ρ S := nr rfl
theorem kIf_f : kIf g h ρ (.ok false S) = h ρ S := nr rfl
theorem kN_ : kN j ρ (.ok d S) = .nx (ρ.set j (some d)) S := nr rfl
theorem kA_ : kA tg ρ (.ok d S) = tgO (tg d ρ S) := nr rfl
theorem kIx1_ : kIx1 f d ρ (.ok x S) = kIx2 x d ρ (f ρ S) := nr rfl
theorem kIx2_ : kIx2 x d ρ (.ok y S) = kIx3 ρ (gSet x y d S) := nr rfl
theorem kIx3_ : kIx3 ρ (some S) = .nx ρ S := nr rfl
theorem kE1_ {g : D → Store → Option (D × Store)} : kE1 g (.ok x S) = toR (g x S) := nr rfl
theorem kE21_ {g : D → D → Store → Option (D × Store)} : kE21 g fb ρ (.ok x S) = kE2 g x (fb ρ S) := nr rfl
theorem kE2_ {g : D → D → Store → Option (D × Store)} : kE2 g x (.ok y S) = toR (g x y S) := nr rfl
theorem kB_ {g : List D → Store → Option (D × Store)} {xs : List D} : kB g (.ok xs S) = toR (g xs S) := nr rfl
theorem kF_ {F : List D → M D} {xs : List D} : kF F (.ok xs S) = F xs S := nr rfl
theorem kC1_ : kC1 fr ρ (.ok x S) = kC x (fr ρ S) := nr rfl
theorem kC_ {xs : List D} : kC x (.ok xs S) = .ok (x :: xs) S := nr rfl
theorem kM1_ {T : Ty} {g : D → List D → Store → Option (D × Store)} : kM1 g fx ρ T (.ok x S) = kM2 g fx ρ x S T (tyD S x) := nr rfl
theorem kM2_ {T : Ty} {g : D → List D → Store → Option (D × Store)} : kM2 g fx ρ x S T (some T) = kM g x (fx ρ S) := if_pos rfl
theorem kM_ {g : D → List D → Store → Option (D × Store)} {xs : List D} : kM g x (.ok xs S) = toR (g x xs S) := nr rfl
theorem kS1_ {lo hi : Env → Store → R (Option Int)} : kS1 lo hi ρ (.ok x S) = kS2 x hi ρ (lo ρ S) := nr rfl
theorem kS2_ {hi : Env → Store → R (Option Int)} {l : Option Int} : kS2 x hi ρ (.ok l S) = kS3 x l (hi ρ S) := nr rfl
theorem kS3_ {l h : Option Int} : kS3 x l (.ok h S) = toR (gSl x l h S) := nr rfl
theorem kO_ {i : Int} : kO (.ok (.int i) S) = .ok (some i) S := nr rfl
theorem kV_ : kV (.ok d S) = toT S (truD S d) := nr rfl
theorem kT_ {b : Bool} : kT (.ok (.bl b) S) = .ok b S := nr rfl
theorem kAn_t : kAn u ρ (.ok true S) = u ρ S := nr rfl
theorem kAn_f : kAn u ρ (.ok false S) = .ok false S := nr rfl
theorem kOr_t : kOr u ρ (.ok true S) = .ok true S := nr rfl
theorem kOr_f : kOr u ρ (.ok false S) = u ρ S := nr rfl
theorem kNo_ {b : Bool} : kNo (.ok b S) = .ok (!b) S := nr rfl
theorem kIfE_t : kIfE fa fb ρ (.ok true S) = fa ρ S := nr rfl
theorem kIfE_f : kIfE fa fb ρ (.ok false S) = fb ρ S := nr rfl
theorem kVa_ : kVa fb ρ (.ok d S) = kVa2 fb d ρ (toT S (truD S d)) := nr rfl
theorem kVa2_t : kVa2 fb d ρ (.ok true S) = fb ρ S := nr rfl
theorem kVa2_f : kVa2 fb d ρ (.ok false S) = .ok d S := nr rfl
theorem kVo_ : kVo fb ρ (.ok d S) = kVo2 fb d ρ (toT S (truD S d)) := nr rfl
theorem kVo2_t : kVo2 fb d ρ (.ok true S) = .ok d S := nr rfl
theorem kVo2_f : kVo2 fb d ρ (.ok false S) = fb ρ S := nr rfl
theorem kVn_ : kVn (.ok d S) = kVn2 (toT S (truD S d)) := nr rfl
theorem kVn2_ {b : Bool} : kVn2 (.ok b S) = .ok (.bl (!b)) S := nr rfl
theorem kH_ {g g' : D → D → Store → Option (D × Store)} : kH g g' fb fc ρ (.ok x S) = kH1 g g' fc x ρ (fb ρ S) := nr rfl
theorem kH1_ {g g' : D → D → Store → Option (D × Store)} : kH1 g g' fc x ρ (.ok y S) = kH2 g' fc y ρ (toR (g x y S)) := nr rfl
theorem kH2_t {g' : D → D → Store → Option (D × Store)} : kH2 g' fc y ρ (.ok (.bl true) S) = kH3 g' y (fc ρ S) := nr rfl
theorem kH2_f {g' : D → D → Store → Option (D × Store)} : kH2 g' fc y ρ (.ok (.bl false) S) = .ok (.bl false) S := nr rfl
theorem kH3_ {g' : D → D → Store → Option (D × Store)} : kH3 g' y (.ok x S) = toR (g' y x S) := nr rfl
theorem toT_some {b : Bool} : toT S (some b) = .ok b S := nr rfl
theorem truD_bl {b : Bool} : truD S (.bl b) = some b := nr rfl
theorem truD_int {b : Int} : truD S (.int b) = some (b != 0) := nr rfl
theorem truD_tup {xs : List D} : truD S (.tup xs) = some (!xs.isEmpty) := nr rfl
theorem tyD_str {a : Str} : tyD S (.str a) = some .str := nr rfl
theorem tyD_tup {a : List D} : tyD S (.tup a) = some .tup := nr rfl
theorem tyD_int {a : Int} : tyD S (.int a) = some .int := nr rfl
theorem tyD_bl {a : Bool} : tyD S (.bl a) = some .bl := nr rfl
theorem tyD_non : tyD S .non = some .non := nr rfl
theorem tyD_lst {l : Nat} {xs : List D} (h : S[l]? = some (.lst xs)) : tyD S (.ref l) = some .lst := by unfold tyD; simp only [h]
theorem lstAt_lst {l : Nat} {xs : List D} (h : S[l]? = some (.lst xs)) : lstAt S l = some xs := by unfold lstAt; rw [h]
theorem gAdd_int {a b : Int} : gAdd (.int a) (.int b) S = some (.int (a + b), S) := nr rfl
theorem gAdd_str {a b : Str} (h : a.length + b.length ≤ 16777216) : gAdd (.str a) (.str b) S = some (.str (a ++ b), S) := if_pos h
theorem gAdd_tup {xs ys : List D} (h0 : 0 < xs.length) (h : xs.length + ys.length ≤ 16777216) : gAdd (.tup xs) (.tup ys) S = some (.tup (xs ++ ys), S) := by
  cases xs with
  | nil => exact absurd h0 (Nat.lt_irrefl _)
  | cons x xs => exact if_pos h
theorem gAdd_tup0 {ys : List D} : gAdd (.tup []) (.tup ys) S = some (.tup ys, S) := nr rfl
theorem gAdd_lst {l k : Nat} {xs ys : List D} (h1 : S[l]? = some (.lst xs)) (h2 : S[k]? = some (.lst ys)) (h : xs.length + ys.length ≤ 16777216) : gAdd (.ref l) (.ref k) S = some (.ref S.length, S ++ [.lst (xs ++ ys)]) := by
  show catL S l k = _
  unfold catL
  rw [h1, h2]
  exact if_pos h
theorem gSub_int {a b : Int} : Dl.gSub (.int a) (.int b) S = some (.int (a - b), S) := nr rfl
theorem gMul_l {a b : Int} (h0 : 0 ≤ a) (h1 : a < 18446744073709551616) : gMul (.int a) (.int b) S = some (.int (a * b), S) := if_pos (.inl ⟨by omega, by omega⟩)
theorem gMul_r {a b : Int} (h0 : 0 ≤ b) (h1 : b < 18446744073709551616) : gMul (.int a) (.int b) S = some (.int (a * b), S) := if_pos (.inr ⟨by omega, by omega⟩)
theorem gFdiv_int {a b : Int} (h0 : 0 < b) (h1 : b < 1073741824) : gFdiv (.int a) (.int b) S = some (.int (a / b), S) := if_pos ⟨h0, h1⟩
theorem gMod_int {a b : Int} (h0 : 0 < b) : gMod (.int a) (.int b) S = some (.int (a % b), S) := if_pos h0
theorem gLt_int {a b : Int} : gLt (.int a) (.int b) S = some (.bl (decide (a < b)), S) := nr rfl
theorem gLe_int {a b : Int} : gLe (.int a) (.int b) S = some (.bl (decide (a ≤ b)), S) := nr rfl
theorem gGt_int {a b : Int} : gGt (.int a) (.int b) S = some (.bl (decide (b < a)), S) := nr rfl
theorem gGe_int {a b : Int} : gGe (.int a) (.int b) S = some (.bl (decide (b ≤ a)), S) := nr rfl
theorem gInt_int {a : Int} : gInt [.int a] S = some (.int a, S) := nr rfl
theorem gAbs_int {a : Int} : gAbs [.int a] S = some (.int (if a < 0 then -a else a), S) := nr rfl
theorem gLen_tup {xs : List D} : gLen [.tup xs] S = some (.int xs.length, S) := nr rfl
theorem gLen_str {x : Str} : gLen [.str x] S = some (.int x.length, S) := nr rfl
theorem gLen_lst {l : Nat} {xs : List D} (h : lstAt S l = some xs) : gLen [.ref l] S = some (.int xs.length, S) := by show Option.map _ (lstAt S l) = _; rw [h]; rfl
theorem gTpl_ {xs : List D} (h : xs.length ≤ 16777216) : gTpl xs S = some (.tup xs, S) := if_pos h
theorem gLsd_ {xs : List D} (h : xs.length ≤ 16777216) : gLsd xs S = some (.ref S.length, S ++ [.lst xs]) := if_pos h
theorem gIx_tup {xs : List D} {k : Int} (h : atI xs k = some d) : gIx (.tup xs) (.int k) S = some (d, S) := by show Option.map _ (atI xs k) = _; rw [h]; rfl
theorem gIx_lst {l : Nat} {xs : List D} {k : Int} (h : lstAt S l = some xs) (h2 : atI xs k = some d) : gIx (.ref l) (.int k) S = some (d, S) := by
  show (lstAt S l).bind (fun xs => (atI xs k).map fun d => (d, S)) = _
  rw [h]
  show Option.map _ (atI xs k) = _
  rw [h2]
  rfl
theorem gIx_str {x : Str} {k : Int} {c : Nat} (h : atI x.cps.toList k = some c) : gIx (.str x) (.int k) S = some (.str ⟨#[c]⟩, S) := by show Option.map _ (atI x.cps.toList k) = _; rw [h]; rfl
theorem gSet_lst {l : Nat} {xs : List D} {k : Int} {m : Nat} (h : S[l]? = some (.lst xs)) (h2 : ixN xs.length k = some m) : gSet (.ref l) (.int k) d S = some (S.set l (.lst (xs.set m d))) := by
  show (match S[l]? with | some (.lst xs) => (ixN xs.length k).map fun j => S.set l (.lst (xs.set j d)) | _ => none) = _
  rw [h]
  show Option.map _ (ixN xs.length k) = _
  rw [h2]
  rfl
theorem gAppend_ {l : Nat} {xs : List D} (h : S[l]? = some (.lst xs)) (hz : xs.length < 16777216) : gAppend (.ref l) [d] S = some (.non, S.set l (.lst (xs ++ [d]))) := by
  show (match S[l]? with | some (.lst xs) => if xs.length < LIM then some (D.non, S.set l (.lst (xs ++ [d]))) else none | _ => none) = _
  rw [h]
  exact if_pos hz
theorem tgT_ {ts : List (D → SX)} {ds : List D} (h : ds.length = ts.length) : tgT ts (.tup ds) ρ S = tgL ts ds ρ S := by
  show (if ds.length = ts.length then tgL ts ds else sNo) ρ S = _
  rw [if_pos h]
theorem tgL0 : tgL [] [] ρ S = .nx ρ S := nr rfl
theorem tgL1 {ts : List (D → SX)} {ds : List D} {j : Nat} : tgL (nm j :: ts) (d :: ds) ρ S = tgL ts ds (ρ.set j (some d)) S := nr rfl
/-! ### what a def leaves -/
theorem runB_rt {np ns : Nat} {ds : List D} {S' : Store} (h : ds.length = np) (hg : g (ds.map some ++ List.replicate (ns - np) none) S = .rt d S') : runB np ns g ds S = cmp S.length d S' := by
  unfold runB
  rw [if_pos h, hg]
theorem runB_nx {np ns : Nat} {ds : List D} {ρ' : Env} {S' : Store} (h : ds.length = np) (hg : g (ds.map some ++ List.replicate (ns - np) none) S = .nx ρ' S') : runB np ns g ds S = cmp S.length D.non S' := by
  unfold runB
  rw [if_pos h, hg]
theorem cmp_same {n : Nat} (h : S.length = n) (w : d.wf n = true) : cmp n d S = .ok d S := by
  unfold cmp
  rw [← h, List.take_length]
  split
  · rw [if_pos (by rw [h]; exact w)]
  · rfl
theorem cmp_more {n : Nat} {T : Store} (h : S.length = n) (wS : SWf n S = true) (w : d.wf n = true) : cmp n d (S ++ T) = .ok d S := by
  unfold cmp
  rw [← h, List.take_left' rfl]
  rw [if_pos (by rw [h]; exact wS), if_pos (by rw [h]; exact w)]
theorem cmp_new {n l : Nat} {T : Store} {xs : List D} (h : S.length = n) (wS : SWf n S = true) (hl : n ≤ l) (hx : (S ++ T)[l]? = some (.lst xs)) (w : wfs n xs = true) : cmp n (.ref l) (S ++ T) = .ok (.ref n) (S ++ [.lst xs]) := by
  unfold cmp
  have e : (S ++ T).take n = S := by rw [← h]; exact List.take_left' rfl
  rw [e, if_pos wS, if_neg (show ¬ (D.ref l).wf n = true from fun z => by
    have z' : l < n := of_decide_eq_true z
    omega)]
  simp only [hx, newCell, w, if_true]
mutual
theorem wf_flat {n : Nat} : ∀ {d : D}, d.flat = true → d.wf n = true
  | .non, _ => rfl
  | .bl _, _ => rfl
  | .int _, _ => rfl
  | .str _, _ => rfl
  | .tup xs, h => wfs_flat (show flats xs = true from h)
  | .ref _, h => nomatch h
  | .raw _, _ => rfl
theorem wfs_flat {n : Nat} : ∀ {ds : List D}, flats ds = true → wfs n ds = true
  | [], _ => rfl
  | d :: ds, h => by
    have h' : (d.flat && flats ds) = true := h
    rw [Bool.and_eq_true] at h'
    show (d.wf n && wfs n ds) = true
    rw [wf_flat h'.1, wfs_flat h'.2]
    rfl
end
/-- all cells hold flat data -/
def Cell.flat : Cell → Bool
  | .lst xs => flats xs
  | .rol xs => flats xs
  | .dic kvs => flats (kvs.map (·.2))
  | .gone => true
def SFlat (S : Store) : Prop := ∀ c ∈ S, Cell.flat c = true
theorem SFlat.wf {n : Nat} (h : SFlat S) : SWf n S = true := by
  refine List.all_eq_true.mpr fun c hc => ?_
  have q := h c hc
  cases c with
  | lst xs => exact wfs_flat q
  | rol xs => exact wfs_flat q
  | dic kvs => exact wfs_flat q
  | gone => rfl
theorem SFlat.set {c : Cell} (h : SFlat S) (hc : c.flat = true) : SFlat (S.set i c) := fun x hx => by
  rcases List.mem_or_eq_of_mem_set hx with q | q
  · exact h x q
  · rw [q]; exact hc
theorem SFlat.push {c : Cell} (h : SFlat S) (hc : c.flat = true) : SFlat (S ++ [c]) := fun x hx => by
  rcases List.mem_append.mp hx with q | q
  · exact h x q
  · rw [List.mem_singleton.mp q]; exact hc
end
end Dl

set_option Elab.async false
set_option linter.all false
set_option maxRecDepth 100000
namespace Dl
open PySem L2
/-! ## tools -/
theorem set_self {S : Store} {p : Nat} {c : Cell} (h : S[p]? = some c) : S.set p c = S := by
  apply List.ext_getElem?
  intro i
  by_cases e : p = i
  · subst e
    rw [List.getElem?_set_self (List.getElem?_eq_some_iff.mp h).1, h]
  · rw [List.getElem?_set_ne e]
theorem get_lt {α : Type} {S : List α} {p : Nat} {c : α} (h : S[p]? = some c) : p < S.length := (List.getElem?_eq_some_iff.mp h).1
theorem get_set {S : Store} {p : Nat} {c d : Cell} (h : S[p]? = some c) : (S.set p d)[p]? = some d := List.getElem?_set_self (get_lt h)
theorem get_app {α : Type} {S T : List α} {p : Nat} {c : α} (h : S[p]? = some c) : (S ++ T)[p]? = some c := by
  rw [List.getElem?_append_left (get_lt h)]
  exact h
theorem set_app {S T : Store} {p : Nat} {c d : Cell} (h : S[p]? = some c) : (S ++ T).set p d = S.set p d ++ T := List.set_append_left _ _ (get_lt h)
theorem get_end {S : Store} {c : Cell} : (S ++ [c])[S.length]? = some c := by rw [List.getElem?_append_right (Nat.le_refl _), Nat.sub_self]; rfl
theorem set_end {S : Store} {c d : Cell} : (S ++ [c]).set S.length d = S ++ [d] := by rw [List.set_append_right _ _ (Nat.le_refl _), Nat.sub_self]; rfl
theorem atI_of {α : Type} {xs : List α} {k : Int} {v : α} (h0 : 0 ≤ k) (h : xs[k.toNat]? = some v) : atI xs k = some v := by
  have e : k = ((k.toNat : Nat) : Int) := by omega
  rw [e]
  exact atI_nat h
theorem atI_in {α : Type} {xs : List α} {k : Int} (h0 : 0 ≤ k) (h1 : k < xs.length) : ∃ v, atI xs k = some v ∧ v ∈ xs := by
  have hk : k.toNat < xs.length := by omega
  exact ⟨xs[k.toNat], atI_of h0 (List.getElem?_eq_getElem hk), List.getElem_mem hk⟩
theorem chk_nil {S : Store} : chkOk [] S := fun _ h => nomatch h
theorem chk_one {S : Store} {l : Nat} {xs : List D} (h : lstAt S l = some xs) : chkOk [(l, xs)] S := fun p hp => by rw [List.mem_singleton.mp hp]; exact h
section
variable {tg : D → SX} {body : SX} {k : Chk} {d : D} {ds : List D} {ρ ρ1 ρ2 : Env} {S S1 S2 : Store}
theorem runF_nil (h : chkOk k S) : runF tg body k [] ρ S = .nx ρ S := by unfold runF; rw [if_pos h]
theorem runF_cons (h : chkOk k S) (ht : tg d ρ S = .nx ρ1 S1) (hb : body ρ1 S1 = .nx ρ2 S2) : runF tg body k (d :: ds) ρ S = runF tg body k ds ρ2 S2 := by
  rw [runF, if_pos h, ht]
  show (match body ρ1 S1 with | .nx ρ2 S2 => runF tg body k ds ρ2 S2 | .ct ρ2 S2 => runF tg body k ds ρ2 S2 | .bk ρ2 S2 => .nx ρ2 S2 | o => o) = _
  rw [hb]
theorem sF_ok {src : IX} {p : List D × Chk} {S' : Store} (h : src ρ S = .ok p S') : sF src tg body ρ S = runF tg body p.2 p.1 ρ S' := by
  show (src ρ S).out ρ _ = _
  rw [h]
  rfl
theorem iR1_ok {f : EX} {j : Int} {S' : Store} (h : f ρ S = .ok (.int j) S') (h0 : 0 ≤ j) (h1 : j < 1000000000) : iR1 f ρ S = .ok (rng 0 j.toNat, []) S' := by
  show (f ρ S).bind _ = _
  rw [h]
  exact if_pos ⟨by omega, by omega⟩
theorem iA_lst {f : EX} {l : Nat} {S' : Store} {xs : List D} (h : f ρ S = .ok (.ref l) S') (hl : lstAt S' l = some xs) : iA f ρ S = .ok (xs, [(l, xs)]) S' := by
  show (f ρ S).bind _ = _
  rw [h]
  show (match lstAt S' l with | some xs => R.ok (xs, [(l, xs)]) S' | none => .no) = _
  rw [hl]
theorem iA_tup {f : EX} {S' : Store} {xs : List D} (h : f ρ S = .ok (.tup xs) S') : iA f ρ S = .ok (xs, []) S' := by
  show (f ρ S).bind _ = _
  rw [h]
  rfl
theorem iA_str {f : EX} {S' : Store} {x : Str} (h : f ρ S = .ok (.str x) S') : iA f ρ S = .ok (x.cps.toList.map fun c => .str ⟨#[c]⟩, []) S' := by
  show (f ρ S).bind _ = _
  rw [h]
  rfl
/-- over a range -/
theorem rng_succ (n : Nat) (lo : Int) : rng lo (n + 1) = .int lo :: rng (lo + 1) n := by
  unfold rng
  rw [List.range_succ_eq_map, List.map_cons, List.map_map]
  congr 1
  · simp
  · apply List.map_congr_left
    intro i _
    show D.int (lo + ((i + 1 : Nat) : Int)) = .int (lo + 1 + (i : Nat))
    congr 1
    omega
theorem rng_length (n : Nat) (lo : Int) : (rng lo n).length = n := by unfold rng; rw [List.length_map, List.length_range]
/-- a comprehension over items that leaves the store as it is: the items' values -/
theorem runC_map {l : Nat} {g : Cg} {ft : TX} {fe : EX} (val : D → D) (keep : D → Bool) : ∀ (ds acc : List D) (T : Store), SFlat T → l = T.length → acc.length + ds.length ≤ 1000000 → (∀ S, chkOk k T → chkOk k (T ++ S)) → chkOk k T →
    (∀ d ∈ ds, ∃ ρ1, g.put d ρ = some ρ1 ∧ ∀ a, ft ρ1 (T ++ [.lst a]) = .ok (keep d) (T ++ [.lst a]) ∧ (keep d = true → fe ρ1 (T ++ [.lst a]) = .ok (val d) (T ++ [.lst a]))) →
    runC l ρ g ft fe k ds (T ++ [.lst acc]) = .ok (.ref l) (T ++ [.lst (acc ++ (ds.filter keep).map val)])
  | [], acc, T, hT, hl, hz, hk, hk0, _ => by
    unfold runC
    rw [if_pos (hk _ hk0)]
    simp
  | d :: ds, acc, T, hT, hl, hz, hk, hk0, hd => by
    obtain ⟨ρ1, h1, h2⟩ := hd d (List.mem_cons_self ..)
    obtain ⟨h3, h4⟩ := h2 acc
    have hz' : acc.length + (ds.length + 1) ≤ 1000000 := hz
    unfold runC
    rw [if_pos (hk _ hk0)]
    simp only [h1, h3]
    cases hkd : keep d with
    | false =>
      simp only
      rw [runC_map val keep ds acc T hT hl (by omega) hk hk0 fun x hx => hd x (List.mem_cons_of_mem _ hx), List.filter_cons_of_neg (by rw [hkd]; exact Bool.false_ne_true)]
    | true =>
      have h4' := h4 hkd
      subst hl
      simp only [h4', get_end]
      rw [if_pos (show acc.length < LIM by show acc.length < 16777216; omega), set_end, runC_map val keep ds (acc ++ [val d]) T hT rfl (by rw [List.length_append]; simp only [List.length_singleton]; omega) hk hk0 fun x hx => hd x (List.mem_cons_of_mem _ hx),
        List.filter_cons_of_pos hkd, List.map_cons, List.append_assoc]
      rfl
theorem eLc_ok {vs : List Nat} {src : IX} {g : Cg} {ft : TX} {fe : EX} {p : List D × Chk} {S' : Store} (h : src ρ S = .ok p S') : eLc vs src g ft fe ρ S = runC S'.length (wipeD ρ vs) g ft fe p.2 p.1 (S' ++ [.lst []]) := by
  show (src ρ S).bind _ = _
  rw [h]
  rfl
end
end Dl

set_option Elab.async false
set_option linter.all false
set_option maxRecDepth 100000
namespace Dl
open PySem L2
/-! ## exceptions -/
def sX (x : Str) : SX := fun ρ S => .ex ⟨x, []⟩ ρ S
/-- what the written part says of an own error class without own __init__ -/
structure XCls (K : PySem.W.Frag) (mg : Str → Option Value) (x : Str) (bm : List Value) (nid : String) (C : Addr) : Prop where
  m : mg x = some (.ref C)
  q : PySem.W.excIn K C bm nid = true
  k : PySem.W.keepIn K (.ref C) = true
  s : PySem.W.subIn K (.ref C) (.type "BaseException") = some true
  t : PySem.W.typeIn K (.ref C) = some (.type "type")
section
variable {X : Cx} {W : WX} {C : Addr} {bm : List Value} {B nid iid : String}
theorem t_raise {x m : Str} {j : Nat} {p p2 pos pos2 : Pos} (hc : X.calm = true) (tk : Takes X W) (F : ExcBaseFacts B nid iid bm) (T : XCls X.K X.mg x bm nid C) (hg : Gl X x) (hdb : (x == ("__debug__" : Str)) = false := by decide) :
    PS X (.Raise (some (.Call (.Name x p) [.Constant (.str m) j p2] [] pos)) none pos2) (rdS (X.cq W) (sX x)) :=
  PSwk (ps_raise hc tk (pmk_own F T.q T.m T.k (raises_own T.s T.t) hg hdb)) fun Dn σ H ⟨m, ρ, S, re, rs, h⟩ => h (.ref C) none σ H m .refl re rs ⟨T.m, rfl⟩
end
/-- a slot laid bare -/
def clr (i : Nat) : Out → Out
  | .nx ρ S => .nx (ρ.set i none) S
  | .bk ρ S => .bk (ρ.set i none) S
  | .ct ρ S => .ct (ρ.set i none) S
  | .rt d S => .rt d S
  | _ => .no
abbrev Tab := List (Str × Bool × (Addr → SX))
/-- try: g; except .. as slot i: by the table -/
def sTry (i : Nat) (L : Tab) (g : SX) : SX := fun ρ S => match g ρ S with
  | .ex x ρ1 S1 => match x.fs, L.lookup x.name with
    | [], some (true, su) => clr i (su 0 (ρ1.set i (some (.raw (.ref 0)))) S1)
    | [], some (false, _) => .ex x ρ1 S1
    | _, _ => .no
  | o => o
theorem re_unset {K : PySem.W.Frag} {m : List Addr} {H : Hp} {σ : St} {ρ : Env} (r : RE K m H σ ρ) (i : Nat) : RE K m H (σ.set i none) (ρ.set i none) := by
  refine ⟨by rw [List.length_set, List.length_set]; exact r.len, fun {j d'} e => ?_⟩
  by_cases z : i = j
  · subst z
    rw [List.getElem?_set] at e
    split at e
    · split at e
      · cases e
      · cases e
    · exact absurd rfl (by assumption)
  · rw [List.getElem?_set_ne z] at e
    obtain ⟨v, h1, h2⟩ := r.at_ e
    exact ⟨v, by rw [List.getElem?_set_ne z]; exact h1, h2⟩
structure TryEnt (X : Cx) (W : WX) (c : Value) (i : Nat) (suite : List Stmt) (p : Str × Bool × (Addr → SX)) : Prop where
  cls : ∃ C, X.mg p.1 = some (.ref C) ∧ PySem.W.exmOne X.K (.ref C) c = some p.2.1 ∧
    (p.2.1 = true → ∀ (a : Addr) (oe : Obj) (pn : List (Addr × Obj)), Zc (.ref C) none oe → (∃ vs, oe.data = .fields vs) → PSs (X.suite a ((a, oe) :: pn)) suite (rdS ((X.suite a ((a, oe) :: pn)).cq W0) (p.2.2 a)))
  sim : p.2.1 = true → ∀ (a : Addr) (ρ : Env) (S : Store), clr i (p.2.2 a (ρ.set i (some (.raw (.ref a)))) S) = clr i (p.2.2 0 (ρ.set i (some (.raw (.ref 0)))) S)
inductive Ents (X : Cx) (W : WX) (c : Value) (i : Nat) (suite : List Stmt) : Tab → Prop
  | nil : Ents X W c i suite []
  | cons {p : Str × Bool × (Addr → SX)} {L : Tab} (h : TryEnt X W c i suite p) (t : Ents X W c i suite L) : Ents X W c i suite (p :: L)
theorem Ents.all {X : Cx} {W : WX} {c : Value} {i : Nat} {suite : List Stmt} : ∀ {L : Tab}, Ents X W c i suite L → ∀ p ∈ L, TryEnt X W c i suite p
  | _, .cons h t, p, hp => by
    rcases List.mem_cons.mp hp with rfl | hp
    · exact h
    · exact t.all p hp
theorem ent_t {X : Cx} {W : WX} {c : Value} {i : Nat} {suite : List Stmt} {R : Str} {su : Addr → SX} {C : Addr} (m : X.mg R = some (.ref C)) (x : PySem.W.exmOne X.K (.ref C) c = some true)
    (h : ∀ (a : Addr) (oe : Obj) (pn : List (Addr × Obj)), Zc (.ref C) none oe → (∃ vs, oe.data = .fields vs) → PSs (X.suite a ((a, oe) :: pn)) suite (rdS ((X.suite a ((a, oe) :: pn)).cq W0) (su a)))
    (s : ∀ (a : Addr) (ρ : Env) (S : Store), clr i (su a (ρ.set i (some (.raw (.ref a)))) S) = clr i (su 0 (ρ.set i (some (.raw (.ref 0)))) S)) : TryEnt X W c i suite (R, true, su) := ⟨⟨C, m, x, fun _ => h⟩, fun _ => s⟩
theorem ent_f {X : Cx} {W : WX} {c : Value} {i : Nat} {suite : List Stmt} {R : Str} {su : Addr → SX} {C : Addr} (m : X.mg R = some (.ref C)) (x : PySem.W.exmOne X.K (.ref C) c = some false) : TryEnt X W c i suite (R, false, su) :=
  ⟨⟨C, m, x, fun h => nomatch h⟩, fun h => nomatch h⟩
theorem lookup_mem {α : Type} {x : Str} {v : α} : ∀ {L : List (Str × α)}, L.lookup x = some v → (x, v) ∈ L
  | (y, w) :: L, h => by
    rw [List.lookup_cons] at h
    cases e : x == y with
    | true => rw [e] at h; cases h; rw [show x = y from LawfulBEq.eq_of_beq e]; exact List.mem_cons_self ..
    | false => rw [e] at h; exact List.mem_cons_of_mem _ (lookup_mem h)
section
variable {X : Cx} {W : WX} {x n : Str} {c : Value} {i : Nat} {body suite : List Stmt} {b₀ : Stmt} {np pos pos' : Pos} {g : SX} {L : Tab}
theorem t_try (hs : X.stack = X.env :: X.outer) (hf : X.env.frame = some X.env.locals) (hN : X.N.Nodup) (hi : X.N[i]? = some n) (hln : X.env.kindOf n = some .local) (hc : Names X x c) (tk : Takes X W)
    (hb : ∀ (W : WX) (pn : List (Addr × Obj)) (xe : Value → Shared → Prop), Takes (X.tr pn xe) W → PassesOwn (model X.prog X.w) X.A X.env xe → PSs (X.tr pn xe) body (rdS ((X.tr pn xe).cq W) g))
    (hLs : Ents X W c i (b₀ :: suite) L) :
    PS X (.Try body [.ExceptHandler (some (.Name x np)) (some n) (b₀ :: suite) pos'] [] [] pos) (rdS (X.cq W) (sTry i L g)) := by
  have hL := hLs.all
  refine PSwk (ps_try_as (tb := fun W' => rdS ⟨X.K, X.mg, W'⟩ g) (ts := fun a cls d => fun D σ H => d = none ∧ ∃ p ∈ L, X.mg p.1 = some cls ∧ p.2.1 = true ∧ rdS ⟨X.K, X.mg, W0⟩ (p.2.2 a) D σ H) hs hf hN hi hln hc tk hb fun a oe cls d pn hz hv => ⟨fun pins s σ H D I ⟨hd, p, hp, hm, ht, q⟩ => ?_⟩) fun Dn σ H ⟨m, ρ, S, re, rs, h⟩ => ⟨m, ρ, S, re, rs, ?_⟩
  · obtain ⟨C, h1, h2, h3⟩ := (hL p hp).cls
    rw [h1] at hm
    cases hm
    subst hd
    exact (h3 ht a oe pn hz hv).run pins s σ H D I q
  · have h : PostS (X.cq W) m H Dn (match g ρ S with
      | .ex x ρ1 S1 => match x.fs, L.lookup x.name with
        | [], some (true, su) => clr i (su 0 (ρ1.set i (some (.raw (.ref 0)))) S1)
        | [], some (false, _) => .ex x ρ1 S1
        | _, _ => .no
      | o => o) := h
    cases e : g ρ S with
    | ex z ρ1 S1 =>
      rw [e] at h
      simp only at h
      intro cls dd σ1 H1 m1 ex1 re1 rs1 rx
      obtain ⟨rx1, rx2⟩ := rx
      split at h
      · rename_i su efs el
        have hm := lookup_mem el
        obtain ⟨C, h1, h2, h3⟩ := (hL _ hm).cls
        have sim := (hL _ hm).sim rfl
        rw [efs] at rx2
        have h1' : X.mg z.name = some (.ref C) := h1
        have rx1' : X.mg z.name = some cls := rx1
        rw [h1'] at rx1'
        cases rx1'
        refine ⟨true, h2, fun _ a ha => ⟨rx2, _, hm, h1, rfl, ?_⟩, (fun q => nomatch q)⟩
        refine ⟨m1, ρ1.set i (some (.raw (.ref a))), S1, re1.set (.raw _) i, rs1, ?_⟩
        rw [← sim a ρ1 S1] at h
        have h := PostS.mono (c := X.cq W) (m1 := m1) (H1 := H1) ex1 h
        revert h
        show PostS (X.cq W) m1 H1 Dn (clr i (su a _ S1)) → PostS _ m1 H1 _ (su a _ S1)
        cases su a (ρ1.set i (some (.raw (.ref a)))) S1 with
        | nx ρ' S' => exact fun h σ' H' m' e re rs => h _ H' m' e (re_unset re i) rs
        | bk ρ' S' => exact fun h σ' H' m' e re rs => h _ H' m' e (re_unset re i) rs
        | ct ρ' S' => exact fun h σ' H' m' e re rs => h _ H' m' e (re_unset re i) rs
        | rt d S' => exact fun h => h
        | ex x ρ' S' => exact fun h => h.elim
        | no => exact fun h => h.elim
      · rename_i su efs el
        have hm := lookup_mem el
        obtain ⟨C, h1, h2, h3⟩ := (hL _ hm).cls
        have h1' : X.mg z.name = some (.ref C) := h1
        have rx1' : X.mg z.name = some cls := rx1
        rw [h1'] at rx1'
        cases rx1'
        exact ⟨false, h2, (fun q => nomatch q), fun _ => h (.ref C) dd σ1 H1 m1 ex1 re1 rs1 ⟨h1', rx2⟩⟩
      · exact h.elim
    | nx ρ1 S1 => rw [e] at h; exact h
    | bk ρ1 S1 => rw [e] at h; exact h
    | ct ρ1 S1 => rw [e] at h; exact h
    | rt d S1 => rw [e] at h; exact h
    | no => rw [e] at h; exact h
end
/-- isinstance's answers, from what k_is finds -/
theorem kit_t {K : PySem.W.Frag} {R C : Addr} (hd : PySem.W.hasDictIn K C = true) (ht : PySem.W.typeIn K (.ref C) = some (.type "type")) (h : PySem.W.subIn K (.ref R) (.ref C) = some true) : PySem.W.kitOne K (.ref R) (.ref C) = some true := by
  obtain ⟨cd, hc, _⟩ := PySem.W.any_some hd
  have e2 : ((PySem.W.clsIn K C).isSome && PySem.W.typeIn K (.ref C) == some (.type "type")) = true := by rw [hc, ht] <;> rfl
  show (if (Value.ref R == Value.ref C) = true then some true else if ((PySem.W.clsIn K C).isSome && PySem.W.typeIn K (.ref C) == some (.type "type")) = true then PySem.W.subIn K (.ref R) (.ref C) else none) = some true
  by_cases e : (Value.ref R == Value.ref C) = true
  · rw [if_pos e]
  · rw [if_neg e, if_pos e2]; exact h
theorem kit_f {K : PySem.W.Frag} {R C : Addr} (hd : PySem.W.hasDictIn K C = true) (ht : PySem.W.typeIn K (.ref C) = some (.type "type")) (h : PySem.W.subIn K (.ref R) (.ref C) = some false) (hn : (Value.ref R == Value.ref C) = false) : PySem.W.kitOne K (.ref R) (.ref C) = some false := by
  obtain ⟨cd, hc, _⟩ := PySem.W.any_some hd
  have e2 : ((PySem.W.clsIn K C).isSome && PySem.W.typeIn K (.ref C) == some (.type "type")) = true := by rw [hc, ht] <;> rfl
  show (if (Value.ref R == Value.ref C) = true then some true else if ((PySem.W.clsIn K C).isSome && PySem.W.typeIn K (.ref C) == some (.type "type")) = true then PySem.W.subIn K (.ref R) (.ref C) else none) = some false
  rw [hn, if_neg Bool.false_ne_true, if_pos e2]
  exact h
theorem kit_b {K : PySem.W.Frag} {R : Addr} {T : String} {b : Bool} (hm : PySem.W.kitMeta T = true) (h : PySem.W.subIn K (.ref R) (.type T) = some b) : PySem.W.kitOne K (.ref R) (.type T) = some b := by
  show (if (Value.ref R == Value.type T) = true then some true else if PySem.W.kitMeta T = true then PySem.W.subIn K (.ref R) (.type T) else none) = some b
  rw [show (Value.ref R == Value.type T) = false from rfl, if_neg Bool.false_ne_true, if_pos hm]
  exact h
/-! ### isinstance of the error that the suite holds -/
def eIs (i : Nat) (a : Addr) (b : Bool) : EX := fun ρ S => match ρ[i]? with
  | some (some (.raw (.ref a'))) => if a' = a then .ok (.bl b) S else .no
  | _ => .no
def gIsE (a : Addr) (cv : V) (b : Bool) : List D → Store → Option (D × Store)
  | [.raw x, .raw y], S => if x = .ref a ∧ y = cv then some (.bl b, S) else none
  | _, _ => none
section
variable {X : Cx} {C : Addr} {a : Addr} {oe : Obj} {pn : List (Addr × Obj)} {cv : V} {cu : Value} {b : Bool}
theorem c_isE (E : ExcC X.K C) (hz : Zc (.ref C) none oe) (hf : ∃ vs, oe.data = .fields vs) (hk : PySem.W.kitOne X.K (.ref C) cu = some b) (hr : ∀ u, RelV cv u → u = cu) :
    CallR (X.suite a ((a, oe) :: pn)) (.builtin "isinstance") (rdC X.K (gIsE a cv b)) := by
  intro pins s σ H vs us Q I r ⟨m, xs, S, hx, rs, h⟩
  unfold gIsE at h
  split at h
  · rename_i x y
    split at h
    · rename_i hc
      obtain ⟨rfl, rfl⟩ := hc
      cases hx with
      | cons h1 h2 =>
        cases h2 with
        | cons h3 h4 =>
          cases h4
          cases h1 with
          | raw =>
            cases h3 with
            | raw => exact call_isE E hz hf pins s σ H _ us Q I r ⟨_, cu, b, rfl, hr, hk, h _ _ m .refl rs (.bl b)⟩
    · exact h.elim
  · exact h.elim
theorem d_isE {i : Nat} {e1 e2 : Expr} {p pos : Pos} (E : ExcC X.K C) (hz : Zc (.ref C) none oe) (hf : ∃ vs, oe.data = .fields vs) (hk : PySem.W.kitOne X.K (.ref C) cu = some b) (hr : ∀ u, RelV cv u → u = cu)
    (hg : Gl (X.suite a ((a, oe) :: pn)) "isinstance") (hm : X.mg "isinstance" = none) (hv : bootBuiltins "isinstance" = some (.builtin "isinstance"))
    (ha : PA (X.suite a ((a, oe) :: pn)) [e1, e2] (rdA ((X.suite a ((a, oe) :: pn)).cq W0) (aC (eV i) (aC (eC (.raw cv)) aN))))
    (he : starEach (e1 :: [e2]) X.env = (false, eval e1 X.env) :: starEach [e2] X.env := by rfl) (hpl : (backTo pos (starEach [e2] X.env)).any (·.1) = false := by rfl) :
    PE (X.suite a ((a, oe) :: pn)) (.Call (.Name "isinstance" p) [e1, e2] [] pos) (rdE ((X.suite a ((a, oe) :: pn)).cq W0) (eIs i a b)) := by
  refine PEwk (d_callB (c_isE (a := a) (pn := pn) E hz hf hk hr) hg hm hv ha (by decide) (by decide) he hpl) fun σ H Q ⟨m, ρ, S, re, rs, h⟩ => ⟨m, ρ, S, re, rs, ?_⟩
  unfold eIs at h
  split at h
  · rename_i a' e
    split at h
    · rename_i ea
      subst ea
      have e' : eB (gIsE a' cv b) (aC (eV i) (aC (eC (.raw cv)) aN)) ρ S = .ok (.bl b) S := by
        show (R.bind (R.bind (eV i ρ S) _) _) = _
        unfold eV
        rw [e]
        show toR (if V.ref a' = .ref a' ∧ cv = cv then some (D.bl b, S) else none) = _
        rw [if_pos ⟨rfl, rfl⟩]
        rfl
      rw [e']
      exact h
    · exact h.elim
  · exact h.elim
end
/-! ### the answer does not hang on the address -/
structure OffA (i : Nat) (a : Addr) (ρ ρ' : Env) : Prop where
  l : ρ.length = ρ'.length
  h : (ρ[i]? = some (some (.raw (.ref a))) ∧ ρ'[i]? = some (some (.raw (.ref 0)))) ∨ (ρ[i]? = none ∧ ρ'[i]? = none)
  o : ∀ j, j ≠ i → ρ[j]? = ρ'[j]?
def SimE (i : Nat) (a : Addr) {α : Type} (f f' : Env → Store → R α) : Prop := ∀ ρ ρ' S, OffA i a ρ ρ' → f ρ S = f' ρ' S
/-- outcomes alike but for slot i -/
def OutA (i : Nat) (a : Addr) : Out → Out → Prop
  | .nx ρ S, .nx ρ' S' => OffA i a ρ ρ' ∧ S = S'
  | .bk ρ S, .bk ρ' S' => OffA i a ρ ρ' ∧ S = S'
  | .ct ρ S, .ct ρ' S' => OffA i a ρ ρ' ∧ S = S'
  | .rt d S, .rt d' S' => d = d' ∧ S = S'
  | .ex _ _ _, .ex _ _ _ => True
  | .no, .no => True
  | _, _ => False
def SimS (i : Nat) (a : Addr) (g g' : SX) : Prop := ∀ ρ ρ' S, OffA i a ρ ρ' → OutA i a (g ρ S) (g' ρ' S)
section
variable {i j : Nat} {a : Addr} {f f' h h' : EX} {r r' : AX} {g g' k k' : SX}
theorem OffA.set {ρ ρ' : Env} (o : OffA i a ρ ρ') {d : Option D} (hj : j ≠ i) : OffA i a (ρ.set j d) (ρ'.set j d) :=
  ⟨by rw [List.length_set, List.length_set, o.l], by rw [List.getElem?_set_ne hj, List.getElem?_set_ne hj]; exact o.h, fun k hk => by
    by_cases e : j = k
    · subst e
      rw [List.getElem?_set, List.getElem?_set, o.l, if_pos rfl, if_pos rfl]
    · rw [List.getElem?_set_ne e, List.getElem?_set_ne e, o.o k hk]⟩
theorem m_eC {d : D} : SimE i a (eC d) (eC d) := fun _ _ _ _ => rfl
theorem m_eV (hj : j ≠ i) : SimE i a (eV j) (eV j) := fun ρ ρ' S o => by unfold eV; rw [o.o j hj]
theorem m_eIs {b : Bool} : SimE i a (eIs i a b) (eIs i 0 b) := fun ρ ρ' S o => by
  unfold eIs
  rcases o.h with ⟨e1, e2⟩ | ⟨e1, e2⟩
  · rw [e1, e2]; simp
  · rw [e1, e2]
theorem m_aN : SimE i a aN aN := fun _ _ _ _ => rfl
theorem m_aC (h1 : SimE i a f f') (h2 : SimE i a r r') : SimE i a (aC f r) (aC f' r') := fun ρ ρ' S o => by
  unfold aC
  rw [h1 ρ ρ' S o]
  congr 1
  funext x S1
  rw [h2 ρ ρ' S1 o]
theorem m_eB {q : List D → Store → Option (D × Store)} (h2 : SimE i a r r') : SimE i a (eB q r) (eB q r') := fun ρ ρ' S o => by
  unfold eB
  rw [h2 ρ ρ' S o]
theorem m_e2 {q : D → D → Store → Option (D × Store)} (h1 : SimE i a f f') (h2 : SimE i a h h') : SimE i a (Dl.e2 q f h) (Dl.e2 q f' h') := fun ρ ρ' S o => by
  unfold Dl.e2
  rw [h1 ρ ρ' S o]
  congr 1
  funext x S1
  rw [h2 ρ ρ' S1 o]
theorem m_eAnd (h1 : SimE i a f f') (h2 : SimE i a h h') : SimE i a (eAnd f h) (eAnd f' h') := fun ρ ρ' S o => by
  unfold eAnd
  rw [h1 ρ ρ' S o]
  congr 1
  funext x S1
  congr 1
  funext b S2
  rw [h2 ρ ρ' S2 o]
theorem m_eOr (h1 : SimE i a f f') (h2 : SimE i a h h') : SimE i a (eOr f h) (eOr f' h') := fun ρ ρ' S o => by
  unfold eOr
  rw [h1 ρ ρ' S o]
  congr 1
  funext x S1
  congr 1
  funext b S2
  rw [h2 ρ ρ' S2 o]
theorem m_eNot (h1 : SimE i a f f') : SimE i a (eNot f) (eNot f') := fun ρ ρ' S o => by
  unfold eNot
  rw [h1 ρ ρ' S o]
theorem m_sN (hj : j ≠ i) (h1 : SimE i a f f') : SimS i a (sN j f) (sN j f') := fun ρ ρ' S o => by
  unfold sN
  rw [h1 ρ ρ' S o]
  cases f' ρ' S with
  | ok d S1 => exact ⟨o.set hj, rfl⟩
  | ex x S1 => exact True.intro
  | no => exact True.intro
theorem m_sQ (h1 : SimS i a g g') (h2 : SimS i a k k') : SimS i a (sQ g k) (sQ g' k') := fun ρ ρ' S o => by
  have q := h1 ρ ρ' S o
  show OutA i a ((g ρ S).seq k) ((g' ρ' S).seq k')
  revert q
  cases g ρ S <;> cases g' ρ' S <;> intro q <;> first | exact q.elim | skip
  · obtain ⟨q1, rfl⟩ := q
    exact h2 _ _ _ q1
  all_goals exact q
theorem m_sR (h1 : SimE i a f f') : SimS i a (sR f) (sR f') := fun ρ ρ' S o => by
  unfold sR
  rw [h1 ρ ρ' S o]
  cases f' ρ' S with
  | ok d S1 => exact ⟨rfl, rfl⟩
  | ex x S1 => exact True.intro
  | no => exact True.intro
theorem set_off {ρ ρ' : Env} (o : OffA i a ρ ρ') : ρ.set i none = ρ'.set i none := by
  apply List.ext_getElem?
  intro k
  by_cases e : i = k
  · subst e
    rw [List.getElem?_set, List.getElem?_set, o.l, if_pos rfl, if_pos rfl]
  · rw [List.getElem?_set_ne e, List.getElem?_set_ne e, o.o k (Ne.symm e)]
theorem m_clr {o o' : Out} (q : OutA i a o o') : clr i o = clr i o' := by
  cases o <;> cases o' <;> first | exact q.elim | skip
  · obtain ⟨q1, rfl⟩ := q; show Out.nx _ _ = Out.nx _ _; rw [set_off q1]
  · obtain ⟨rfl, rfl⟩ := q; rfl
  · obtain ⟨q1, rfl⟩ := q; show Out.bk _ _ = Out.bk _ _; rw [set_off q1]
  · obtain ⟨q1, rfl⟩ := q; show Out.ct _ _ = Out.ct _ _; rw [set_off q1]
  · rfl
  · rfl
/-- the table's last field -/
theorem m_sim {su : Addr → SX} (h : ∀ a, SimS i a (su a) (su 0)) : ∀ (a : Addr) (ρ : Env) (S : Store), clr i (su a (ρ.set i (some (.raw (.ref a)))) S) = clr i (su 0 (ρ.set i (some (.raw (.ref 0)))) S) := fun a ρ S => by
  by_cases hl : i < ρ.length
  · exact m_clr (h a _ _ S ⟨by rw [List.length_set, List.length_set], Or.inl ⟨List.getElem?_set_self hl, List.getElem?_set_self hl⟩, fun j hj => by rw [List.getElem?_set_ne (Ne.symm hj), List.getElem?_set_ne (Ne.symm hj)]⟩)
  · have e : ∀ d, ρ.set i d = ρ := fun d => List.set_eq_of_length_le (by omega)
    rw [e, e]
    exact m_clr (h a ρ ρ S ⟨rfl, Or.inr ⟨List.getElem?_eq_none (by omega), List.getElem?_eq_none (by omega)⟩, fun j _ => rfl⟩)
end
end Dl

set_option Elab.async false
set_option linter.all false
set_option maxRecDepth 100000
namespace Dl
open PySem L2
/-! ## more methods -/
def gSplit : D → List D → Store → Option (D × Store)
  | .str a, [.str b], S => if b.length ≠ 0 ∧ a.length + 2 ≤ LIM ∧ ((Txt.split a b).all fun p => decide (p.length ≤ LIM)) = true then some (.ref S.length, S ++ [.lst ((Txt.split a b).map .str)]) else none
  | _, _, _ => none
def gCountS : D → List D → Store → Option (D × Store)
  | .str a, [.str b], S => some (.int (Txt.count a b), S)
  | _, _, _ => none
def gInsert : D → List D → Store → Option (D × Store)
  | .ref l, [.int i, d], S => match S[l]? with
    | some (.lst xs) => if xs.length < LIM ∧ 0 ≤ i ∧ i < 2 ^ 63 then some (.non, S.set l (.lst (xs.take i.toNat ++ [d] ++ xs.drop i.toNat))) else none
    | _ => none
  | _, _, _ => none
/-- a module's own table -/
def gTab (L : List (Str × D)) : D → D → Store → Option (D × Store)
  | _, .str s, S => (L.lookup s).map fun d => (d, S)
  | _, _, _ => none
section
variable {X : Cx}
theorem strs_rd {K : PySem.W.Frag} {m : List Addr} {H : Hp} : ∀ {xs : List Str}, (xs.all fun p => decide (p.length ≤ LIM)) = true → RDs K m H (xs.map V.str) (xs.map D.str)
  | [], _ => .nil
  | x :: xs, h => by
    rw [List.all_cons, Bool.and_eq_true] at h
    exact .cons (.str (of_decide_eq_true h.1)) (strs_rd h.2)
theorem m_split : MtR X "str.split" (rdM X.K gSplit) := by
  intro pins s σ H v vs vv us Q I rv rvs ⟨m, x, xs, S, hx, hxs, rs, h⟩
  unfold gSplit at h
  split at h
  · rename_i a b
    split at h
    · rename_i hc
      obtain ⟨h1, h2, h3⟩ := hc
      cases hx with
      | str ha =>
        cases hxs with
        | cons g1 g2 =>
          cases g2
          cases g1 with
          | str hb =>
            exact mt_split pins s σ H _ _ vv us Q I rv rvs ⟨a, b, rfl, rfl, by simpa using h1, by rw [← lim_eq]; exact h2, fun p hp => vp_lst rs hp (strs_rd h3) h⟩
    · exact h.elim
  · exact h.elim
theorem m_countS : MtR X "str.count" (rdM X.K gCountS) := by
  intro pins s σ H v vs vv us Q I rv rvs ⟨m, x, xs, S, hx, hxs, rs, h⟩
  unfold gCountS at h
  split at h
  · rename_i a b
    cases hx with
    | str ha =>
      cases hxs with
      | cons g1 g2 =>
        cases g2
        cases g1 with
        | str hb => exact mt_count pins s σ H _ _ vv us Q I rv rvs ⟨a, b, rfl, rfl, h _ _ m .refl rs (.int _)⟩
  · exact h.elim
theorem rds_take {K : PySem.W.Frag} {m : List Addr} {H : Hp} : ∀ {vs : List V} {ds : List D}, RDs K m H vs ds → ∀ n : Nat, RDs K m H (vs.take n) (ds.take n)
  | _, _, .nil, n => by rw [List.take_nil, List.take_nil]; exact .nil
  | _, _, .cons h t, 0 => .nil
  | _, _, .cons h t, n + 1 => .cons h (rds_take t n)
theorem rds_drop {K : PySem.W.Frag} {m : List Addr} {H : Hp} : ∀ {vs : List V} {ds : List D}, RDs K m H vs ds → ∀ n : Nat, RDs K m H (vs.drop n) (ds.drop n)
  | _, _, .nil, n => by rw [List.drop_nil, List.drop_nil]; exact .nil
  | _, _, .cons h t, 0 => .cons h t
  | _, _, .cons h t, n + 1 => rds_drop t n
theorem m_insert : MtR X "list.insert" (rdM X.K gInsert) := by
  intro pins s σ H v vs vv us Q I rv rvs ⟨m, x, xs, S, hx, hxs, rs, h⟩
  unfold gInsert at h
  split at h
  · rename_i l i d
    split at h
    · rename_i ys e
      split at h
      · rename_i hc
        obtain ⟨hz, h0, h1⟩ := hc
        cases hx with
        | ref hl =>
          cases hxs with
          | cons g1 g2 =>
            cases g1 with
            | int =>
              cases g2 with
              | cons g3 g4 =>
                cases g4
                obtain ⟨ws, hw, rw'⟩ := rs.wlst hl e
                refine mt_insert pins s σ H _ _ vv us Q I rv rvs ⟨_, ws, i, _, rfl, rfl, hw, by rw [rw'.length, ← lim_eq]; exact hz, h0, h1, ?_⟩
                obtain ⟨ex, rs'⟩ := rs.write (o := .lst (ws.take i.toNat ++ [_] ++ ws.drop i.toNat)) (c' := .lst (ys.take i.toNat ++ [d] ++ ys.drop i.toNat)) hl e rfl rfl fun ex => ⟨_, upd_same, ((rds_take (rw'.mono ex) _).append (.one (g3.mono ex))).append (rds_drop (rw'.mono ex) _)⟩
                exact h _ _ m ex rs' .non
      · exact h.elim
    · exact h.elim
  · exact h.elim
/-- what the written part says of such a table -/
structure TabK (K : PySem.W.Frag) (w : World) (p : Addr) (L : List (Str × D)) : Prop where
  at_ : ∀ q ∈ L, ∃ v, KDct K w p q.1 v ∧ ∀ m H, RD K m H v q.2
variable {W : WX} {a b : Expr} {fa fb : EX} {pos p1 : Pos}
/-- D[e], D a module's table -/
def eTab (L : List (Str × D)) (fb : EX) : EX := fun ρ S => (fb ρ S).bind fun y S1 => toR (gTab L .non y S1)
theorem d_tab {x : Str} {p : Addr} {L : List (Str × D)} (T : TabK X.K X.w p L) (hg : Gl X x) (hm : X.mg x = some (.ref p)) (hb : PE X b (rdE (X.cq W) fb)) (hd : (x == ("__debug__" : Str)) = false := by decide) (hs : PlainIx b := by exact fun _ _ => rfl) :
    PE X (.Subscript (.Name x p1) b pos) (rdE (X.cq W) (eTab L fb)) := by
  refine PEwk (pe_ix ix_kdict (pe_glob (v := .ref p) hg hm rfl hd) hb hs) fun σ H Q ⟨m, ρ, S, re, rs, h⟩ => ?_
  refine ⟨m, ρ, S, re, rs, (Post.bind h).imp fun u H2 ⟨m2, y, S2, e2, rs2, rd2', h2⟩ => ?_⟩
  replace h2 : VPost X.K m2 H2 Q (gTab L .non y S2) := VPost.of h2
  unfold gTab at h2
  split at h2
  · rename_i s
    cases e : L.lookup s with
    | none => rw [e] at h2; exact h2.elim
    | some d =>
      rw [e] at h2
      cases rd2' with
      | str hs =>
        obtain ⟨z, g1, g2⟩ := T.at_ _ (lookup_mem e)
        exact ⟨p, s, z, rfl, rfl, g1, h2 _ _ m2 .refl rs2 (g2 m2 H2)⟩
  · exact h2.elim
/-! ## a, b = a tuple or a list -/
def tgU (ts : List (D → SX)) : D → SX := fun d => match d with
  | .tup ds => if ds.length = ts.length then tgL ts ds else sNo
  | .ref l => fun ρ S => match lstAt S l with
    | some ds => if ds.length = ts.length then tgL ts ds ρ S else .no
    | none => .no
  | _ => sNo
theorem g_seq {es : List Expr} {k : Nat} {ts : List (D → SX)} (hc : X.calm = true) (h : PGs X es (rdGs (X.cq W) (tgL ts))) (hl : ts.length = es.length := by rfl)
    (hn : (assignEach es X.env).length = es.length := by rfl) (hst : (assignEach es X.env).findIdx? (·.1) = none := by rfl) : PG X (.Tuple es k pos) (rdG (X.cq W) (tgU ts)) := ⟨fun pins s σ H v u Q I r ⟨m, ρ, S, d, re, rs, rd, q⟩ => by
  cases d with
  | tup ds => exact (g_tup (pos := pos) (k := k) hc h hl hn hst).run pins s σ H v u Q I r ⟨m, ρ, S, _, re, rs, rd, q⟩
  | ref l =>
    have q : PostS (X.cq W) m H { nx := Q, rt := fun _ _ => False } (match lstAt S l with
      | some ds => if ds.length = ts.length then tgL ts ds ρ S else .no
      | none => .no) := q
    cases e : lstAt S l with
    | none => rw [e] at q; exact q.elim
    | some ds =>
      rw [e] at q
      by_cases hz : ds.length = ts.length
      · simp only [if_pos hz] at q
        cases rd with
        | ref hm =>
          obtain ⟨vs, h1, h2⟩ := rs.lst hm e
          exact (pg_lst (k := k) (pos := pos) hc h hn hst).run pins s σ H _ u Q I r ⟨_, vs, rfl, h1, by rw [h2.length, hz, hl], m, ρ, S, ds, re, rs, h2, q⟩
      · simp only [if_neg hz] at q
        exact q.elim
  | _ => exact q.elim⟩
end
end Dl

set_option Elab.async false
set_option linter.all false
set_option maxRecDepth 100000
namespace Dl
open PySem L2
/-! ## unary minus, extend, reverse, sum, is None -/
def gNeg : D → Store → Option (D × Store)
  | .int i, S => some (.int (-i), S)
  | _, _ => none
def gExtend : D → List D → Store → Option (D × Store)
  | .ref l, [.ref k], S => match S[l]?, S[k]? with
    | some (.lst xs), some (.lst ys) => if xs.length + ys.length ≤ LIM then some (.non, S.set l (.lst (xs ++ ys))) else none
    | _, _ => none
  | _, _, _ => none
def gReverse : D → List D → Store → Option (D × Store)
  | .ref l, [], S => match S[l]? with
    | some (.lst xs) => some (.non, S.set l (.lst xs.reverse))
    | _ => none
  | _, _, _ => none
def intsD : List D → Option (List Int)
  | [] => some []
  | .int i :: r => (intsD r).map (i :: ·)
  | _ :: _ => none
def gSum : List D → Store → Option (D × Store)
  | [.ref l], S => ((lstAt S l).bind intsD).map fun ns => (.int ns.sum, S)
  | _, _ => none
section
variable {X : Cx} {W : WX} {e : Expr} {f : EX} {pos : Pos}
theorem d_neg (he : PE X e (rdE (X.cq W) f)) : PE X (.UnaryOp .USub e pos) (rdE (X.cq W) (e1 gNeg f)) := PEwk (pe_un un_neg he) fun σ H Q ⟨m, ρ, S, re, rs, h⟩ =>
  ⟨m, ρ, S, re, rs, (Post.bind h).imp fun v H1 ⟨m1, x, S1, e1, rs1, rd, h1⟩ => by
    have h1 : VPost X.K m1 H1 Q (gNeg x S1) := VPost.of h1
    unfold gNeg at h1
    split at h1
    · cases rd with
      | int => exact ⟨_, rfl, h1 _ _ m1 .refl rs1 (.int _)⟩
    · exact h1.elim⟩
theorem m_extend : MtR X "list.extend" (rdM X.K gExtend) := by
  intro pins s σ H v vs vv us Q I rv rvs ⟨m, x, xs, S, hx, hxs, rs, h⟩
  unfold gExtend at h
  split at h
  · rename_i l k
    split at h
    · rename_i xs ys e1 e2
      split at h
      · rename_i hc
        cases hx with
        | ref hl =>
          cases hxs with
          | cons g1 g2 =>
            cases g2
            cases g1 with
            | ref hk =>
              obtain ⟨ws, hw, rw'⟩ := rs.wlst hl e1
              obtain ⟨us', hu, ru⟩ := rs.wlst hk e2
              refine mt_extend pins s σ H _ _ vv us Q I rv rvs ⟨_, _, ws, us', rfl, rfl, hw, hu, by rw [rw'.length, ru.length, ← lim_eq]; exact hc, ?_⟩
              obtain ⟨ex, rs'⟩ := rs.write (o := .lst (ws ++ us')) (c' := .lst (xs ++ ys)) hl e1 rfl rfl fun ex => ⟨_, upd_same, (rw'.mono ex).append (ru.mono ex)⟩
              exact h _ _ m ex rs' .non
      · exact h.elim
    · exact h.elim
  · exact h.elim
theorem rds_reverse {K : PySem.W.Frag} {m : List Addr} {H : Hp} : ∀ {vs : List V} {ds : List D}, RDs K m H vs ds → RDs K m H vs.reverse ds.reverse
  | _, _, .nil => .nil
  | _, _, .cons h t => by
    rw [List.reverse_cons, List.reverse_cons]
    exact (rds_reverse t).append (.one h)
theorem m_reverse : MtR X "list.reverse" (rdM X.K gReverse) := by
  intro pins s σ H v vs vv us Q I rv rvs ⟨m, x, xs, S, hx, hxs, rs, h⟩
  unfold gReverse at h
  split at h
  · rename_i l
    split at h
    · rename_i xs e1
      cases hx with
      | ref hl =>
        cases hxs
        obtain ⟨ws, hw, rw'⟩ := rs.wlst hl e1
        refine mt_reverse pins s σ H _ _ vv us Q I rv rvs ⟨_, ws, rfl, rfl, hw, ?_⟩
        obtain ⟨ex, rs'⟩ := rs.write (o := .lst ws.reverse) (c' := .lst xs.reverse) hl e1 rfl rfl fun ex => ⟨_, upd_same, rds_reverse (rw'.mono ex)⟩
        exact h _ _ m ex rs' .non
    · exact h.elim
  · exact h.elim
theorem ints_rd {K : PySem.W.Frag} {m : List Addr} {H : Hp} : ∀ {vs : List V} {ds : List D} {ns : List Int}, RDs K m H vs ds → intsD ds = some ns → vs = ns.map V.int
  | _, _, ns, .nil, h => by cases h; rfl
  | _, d :: ds, ns, .cons g t, h => by
    cases d with
    | int i =>
      have h' : (intsD ds).map (i :: ·) = some ns := h
      cases e : intsD ds with
      | none => rw [e] at h'; cases h'
      | some r =>
        rw [e] at h'
        cases h'
        cases g
        rw [ints_rd t e]
        rfl
    | _ => cases h
theorem c_sum (hc : X.calm = true) : CallR X (.builtin "sum") (rdC X.K gSum) := by
  intro pins s σ H vs us Q I r ⟨m, xs, S, hx, rs, h⟩
  unfold gSum at h
  split at h
  · rename_i l
    cases e : lstAt S l with
    | none => rw [e] at h; exact h.elim
    | some ds =>
      cases e2 : intsD ds with
      | none => rw [e] at h; simp only [Option.bind_some, e2] at h; exact h.elim
      | some ns =>
        rw [e] at h
        simp only [Option.bind_some, e2] at h
        cases hx with
        | cons h1 h2 =>
          cases h2
          cases h1 with
          | ref hl =>
            obtain ⟨ws, hw, rw'⟩ := rs.lst hl e
            have ew := ints_rd rw' e2
            subst ew
            exact cr_sum hc pins s σ H _ us Q I r ⟨_, ns, rfl, hw, h _ _ m .refl rs (.int _)⟩
  · exact h.elim
end
end Dl

set_option Elab.async false
set_option linter.all false
set_option maxRecDepth 100000
namespace Dl
open PySem L2
/-! ## dicts: a display with written keys, d[k], k in d, d[k] = v -/
def keyD : D → Option Key
  | .int i => some (.inl i)
  | .str s => some (.inr s)
  | _ => none
def findK (kvs : List (Key × D)) (k : Key) : Option D := (kvs.find? fun kv => decide (kv.1 = k)).map (·.2)
def gDget : D → D → Store → Option (D × Store)
  | .ref l, y, S => match S[l]?, keyD y with
    | some (.dic kvs), some k => (findK kvs k).map fun d => (d, S)
    | _, _ => none
  | _, _, _ => none
def gDin (f : Bool → Bool) : D → D → Store → Option (D × Store)
  | y, .ref l, S => match S[l]?, keyD y with
    | some (.dic kvs), some k => some (.bl (f (findK kvs k).isSome), S)
    | _, _ => none
  | _, _, _ => none
def aL : List (Key × EX) → AX
  | [] => aN
  | (_, f) :: r => aC f (aL r)
/-- {k: f, ..} -/
def eDct (L : List (Key × EX)) : EX := fun ρ S => (aL L ρ (S ++ [.dic []])).bind fun ds S1 => match S1[S.length]? with
  | some (.dic []) => if L.length ≤ 15 ∧ (L.map (·.1)).Nodup then .ok (.ref S.length) (S1.set S.length (.dic ((L.map (·.1)).zip ds))) else .no
  | _ => .no
theorem find_rd {K : PySem.W.Frag} {m : List Addr} {H : Hp} {k : Key} {d : D} : ∀ {kvs : List (Key × D)} {ws : List (Key × V)}, ws.map (·.1) = kvs.map (·.1) → RDs K m H (ws.map (·.2)) (kvs.map (·.2)) → findK kvs k = some d → ∃ v, valV ws k = some v ∧ RD K m H v d
  | [], _, _, _, h => nomatch h
  | (k1, d1) :: kvs, [], e, _, _ => nomatch e
  | (k1, d1) :: kvs, (k2, v2) :: ws, e, r, h => by
    cases r with
    | cons rh rt =>
      have e1 : k2 = k1 := (List.cons.inj e).1
      have e2 : ws.map (·.1) = kvs.map (·.1) := (List.cons.inj e).2
      subst e1
      by_cases z : k2 = k
      · rw [valV_pos (show (k2, v2).1 = k from z)]
        unfold findK at h
        rw [List.find?_cons_of_pos (by simpa using z)] at h
        cases h
        exact ⟨_, rfl, rh⟩
      · rw [valV_neg (show ¬ (k2, v2).1 = k from z)]
        unfold findK at h
        rw [List.find?_cons_of_neg (by simpa using z)] at h
        exact find_rd e2 rt h
theorem find_none {k : Key} : ∀ {kvs : List (Key × D)} {ws : List (Key × V)}, ws.map (·.1) = kvs.map (·.1) → findK kvs k = none → valV ws k = none
  | [], [], _, _ => rfl
  | [], _ :: _, e, _ => nomatch e
  | (k1, d1) :: kvs, [], e, _ => nomatch e
  | (k1, d1) :: kvs, (k2, v2) :: ws, e, h => by
    have e1 : k2 = k1 := (List.cons.inj e).1
    have e2 : ws.map (·.1) = kvs.map (·.1) := (List.cons.inj e).2
    subst e1
    by_cases z : k2 = k
    · unfold findK at h
      rw [List.find?_cons_of_pos (by simpa using z)] at h
      cases h
    · rw [valV_neg (show ¬ (k2, v2).1 = k from z)]
      unfold findK at h
      rw [List.find?_cons_of_neg (by simpa using z)] at h
      exact find_none e2 h
theorem key_rd {K : PySem.W.Frag} {m : List Addr} {H : Hp} {v : V} {d : D} {k : Key} (r : RD K m H v d) (h : keyD d = some k) : v = L2.kV k := by
  unfold keyD at h
  split at h
  · cases h; cases r; rfl
  · cases h; cases r; rfl
  · cases h
theorem val_none {k : Key} : ∀ {ws : List (Key × V)}, k ∉ ws.map (·.1) → valV ws k = none
  | [], _ => rfl
  | (k2, v2) :: ws, h => by
    rw [List.map_cons, List.mem_cons, not_or] at h
    rw [valV_neg (show ¬ (k2, v2).1 = k from fun e => h.1 e.symm)]
    exact val_none h.2
theorem merge_nd : ∀ (more acc : List (Key × V)), ((acc ++ more).map (·.1)).Nodup → mergeK acc more = acc ++ more
  | [], acc, _ => by rw [List.append_nil]; rfl
  | (k, v) :: more, acc, h => by
    have h' : ((acc ++ [(k, v)] ++ more).map (·.1)).Nodup := by rw [List.append_assoc]; exact h
    have hk : k ∉ acc.map (·.1) := fun q => by
      rw [List.map_append, List.map_cons] at h
      exact (List.nodup_append.mp h).2.2 k q k (List.mem_cons_self ..) rfl
    show mergeK (putK acc k v) more = _
    rw [putK_new v (val_none hk), merge_nd more (acc ++ [(k, v)]) h', List.append_assoc]
    rfl
theorem u1 {k : Nat} {A : Around} (r : Room k A) : A.units + 1 < cLine := by have := r.un; omega
section
variable {X : Cx} {W : WX} {o i e : Expr} {fo fi f : EX} {pos : Pos}
theorem d_dget (hu : X.A.units + 1 < cLine) (ho : PE X o (rdE (X.cq W) fo)) (hi : PE X i (rdE (X.cq W) fi)) (hs : NoSl i := by exact fun _ _ => rfl) : PE X (.Subscript o i pos) (rdE (X.cq W) (Dl.e2 gDget fo fi)) :=
  PEwk (pe_dget hu ho hi hs) fun σ H Q ⟨m, ρ, S, re, rs, h⟩ =>
  ⟨m, ρ, S, re, rs, (Post.bind h).imp fun v H1 ⟨m1, x, S1, e1, rs1, rd, h1⟩ => ⟨m1, ρ, S1, re.mono e1, rs1, (Post.bind h1).imp fun u H2 ⟨m2, y, S2, e2, rs2, rd2, h2⟩ => by
    have h2 : VPost X.K m2 H2 Q (gDget x y S2) := VPost.of h2
    have rd' := rd.mono e2
    unfold gDget at h2
    split at h2
    · split at h2
      · rename_i kvs k es ek
        cases ef : findK kvs k with
        | none => rw [ef] at h2; exact h2.elim
        | some d =>
          rw [ef] at h2
          cases rd' with
          | ref hl =>
            obtain ⟨ws, g1, g2, g3⟩ := rs2.at_ hl es
            obtain ⟨w, q1, q2⟩ := find_rd g2 g3 ef
            have eu := key_rd rd2 ek
            subst eu
            refine ⟨_, w, rfl, ?_, h2 _ _ m2 .refl rs2 q2⟩
            rw [← q1]
            exact DGet.k g1
      · exact h2.elim
    · exact h2.elim⟩⟩
inductive Ents2 (X : Cx) (W : WX) (pos : Pos) : List (Option Expr) → List Expr → List (Key × EX) → Prop
  | nil : Ents2 X W pos [] [] []
  | cons {k : Key} {ke v : Expr} {f : EX} {ks : List (Option Expr)} {vs : List Expr} {L : List (Key × EX)} (hk : PE X ke (tC (L2.kV k))) (hv : PE X v (rdE (X.cq W) f)) (t : Ents2 X W pos ks vs L) : Ents2 X W pos (some ke :: ks) (v :: vs) ((k, f) :: L)
def trsL (c : Cq) (L : List (Key × EX)) : List (TE × TE) := L.map fun kf => (tC (L2.kV kf.1), rdE c kf.2)
theorem Ents2.pps {ks : List (Option Expr)} {vs : List Expr} : ∀ {L : List (Key × EX)}, Ents2 X W pos ks vs L → PPs X pos ks vs (trsL (X.cq W) L) := by
  intro L h
  induction h with
  | nil => exact pps_nil
  | cons hk hv t ih => exact pps_cons hk hv ih
theorem Ents2.len {ks : List (Option Expr)} {vs : List Expr} {L : List (Key × EX)} (h : Ents2 X W pos ks vs L) : ks.length = L.length ∧ vs.length = L.length ∧ ks.all (·.isSome) = true := by
  induction h with
  | nil => exact ⟨rfl, rfl, rfl⟩
  | cons hk hv t ih =>
    obtain ⟨a, b, c⟩ := ih
    exact ⟨by rw [List.length_cons, List.length_cons, a], by rw [List.length_cons, List.length_cons, b], by rw [List.all_cons, c]; rfl⟩
theorem tPairs_imp : ∀ {trs : List (TE × TE)} {σ : St} {H : Hp} {Q Q' : List (V × V) → Hp → Prop}, (∀ (t : TE × TE), t ∈ trs → (∀ σ H (P P' : V → Hp → Prop), t.1 σ H P → (∀ v H', P v H' → P' v H') → t.1 σ H P') ∧ (∀ σ H (P P' : V → Hp → Prop), t.2 σ H P → (∀ v H', P v H' → P' v H') → t.2 σ H P')) → tPairs trs σ H Q → (∀ ps H', Q ps H' → Q' ps H') → tPairs trs σ H Q'
  | [], σ, H, Q, Q', _, h, k => k _ _ h
  | (tk, tv) :: r, σ, H, Q, Q', mn, h, k => by
    obtain ⟨m1, m2⟩ := mn _ (List.mem_cons_self ..)
    exact m1 σ H _ _ h fun x H1 h1 => m2 σ H1 _ _ h1 fun y H2 h2 => tPairs_imp (fun t ht => mn t (List.mem_cons_of_mem _ ht)) h2 fun ps H3 h3 => k _ _ h3
theorem trsL_mono (c : Cq) (L : List (Key × EX)) : ∀ (t : TE × TE), t ∈ trsL c L → (∀ σ H (P P' : V → Hp → Prop), t.1 σ H P → (∀ v H', P v H' → P' v H') → t.1 σ H P') ∧ (∀ σ H (P P' : V → Hp → Prop), t.2 σ H P → (∀ v H', P v H' → P' v H') → t.2 σ H P') := by
  intro t ht
  obtain ⟨kf, _, rfl⟩ := List.mem_map.mp ht
  exact ⟨fun σ H P P' h k => k _ _ h, fun σ H P P' ⟨m, ρ, S, re, rs, h⟩ k => ⟨m, ρ, S, re, rs, h.imp k⟩⟩
theorem pairs_post {c : Cq} : ∀ (L : List (Key × EX)) {m : List Addr} {H : Hp} {σ : St} {ρ : Env} {S : Store} {Q : List V → Hp → Prop}, RE c.K m H σ ρ → RS c.K m H S → Post c (relDs c) m H σ Q (aL L ρ S) → tPairs (trsL c L) σ H fun ps H3 => ∃ vs, ps = ((L.map fun kf => L2.kV kf.1).zip vs) ∧ vs.length = L.length ∧ Q vs H3
  | [], m, H, σ, ρ, S, Q, re, rs, h => ⟨[], rfl, rfl, h [] H m .refl rs .nil⟩
  | (k, f) :: L, m, H, σ, ρ, S, Q, re, rs, h => by
    show rdE c f σ H fun y H2 => tPairs (trsL c L) σ H2 fun ps H3 => ∃ vs, ((L2.kV k, y) :: ps) = _ ∧ _ ∧ Q vs H3
    have h : Post c (relDs c) m H σ Q ((f ρ S).bind fun x S1 => (aL L ρ S1).bind fun xs S2 => .ok (x :: xs) S2) := h
    refine ⟨m, ρ, S, re, rs, (Post.bind h).imp fun y H2 ⟨m1, x, S1, e1, rs1, rd, h1⟩ => ?_⟩
    have q := pairs_post L (re.mono e1) rs1 ((Post.bind h1).imp (rel := relDs c) (Q' := fun vs H3 => Q (y :: vs) H3) fun vs H3 ⟨m3, xs, S3, e3, rs3, rds, h3⟩ => h3 _ _ m3 .refl rs3 (.cons (rd.mono e3) rds))
    exact tPairs_imp (trsL_mono c L) q fun ps H3 ⟨vs, q1, q2, q3⟩ => ⟨y :: vs, by rw [q1]; rfl, by rw [List.length_cons, q2, List.length_cons], q3⟩
theorem zip_fst {α β : Type} : ∀ (ks : List α) (vs : List β), vs.length = ks.length → (ks.zip vs).map (·.1) = ks
  | [], _, _ => rfl
  | k :: ks, [], h => nomatch h
  | k :: ks, v :: vs, h => by
    show k :: (ks.zip vs).map (·.1) = k :: ks
    rw [zip_fst ks vs (Nat.succ.inj h)]
theorem zip_snd {α β : Type} : ∀ (ks : List α) (vs : List β), vs.length = ks.length → (ks.zip vs).map (·.2) = vs
  | [], [], _ => rfl
  | [], _ :: _, h => nomatch h
  | k :: ks, [], h => nomatch h
  | k :: ks, v :: vs, h => by
    show v :: (ks.zip vs).map (·.2) = v :: vs
    rw [zip_snd ks vs (Nat.succ.inj h)]
theorem zip_kv : ∀ (ks : List Key) (vs : List V), (ks.zip vs).map (fun kv => (L2.kV kv.1, kv.2)) = (ks.map L2.kV).zip vs
  | [], _ => rfl
  | _ :: _, [] => rfl
  | k :: ks, v :: vs => by
    show (L2.kV k, v) :: (ks.zip vs).map _ = (L2.kV k, v) :: (ks.map L2.kV).zip vs
    rw [zip_kv ks vs]
theorem d_dct {ks : List (Option Expr)} {vs : List Expr} {L : List (Key × EX)} (h : Ents2 X W pos ks vs L) (h0 : ks ≠ [] := by simp) (h15 : L.length ≤ 15 := by decide) : PE X (.Dict ks vs pos) (rdE (X.cq W) (eDct L)) := by
  obtain ⟨l1, l2, l3⟩ := h.len
  refine PEwk (pe_disp h.pps l3 (l1.trans l2.symm) h0 (by rw [l1]; exact h15)) fun σ H Q ⟨m, ρ, S, re, rs, q⟩ p hp => ?_
  obtain ⟨e1, rs1⟩ := rs.push (o := .dK []) (c := .dic []) hp fun m' e' => ⟨[], upd_same, rfl, .nil⟩
  have q : Post (X.cq W) (relD (X.cq W)) m H σ Q ((aL L ρ (S ++ [.dic []])).bind fun ds S1 => match S1[S.length]? with
    | some (.dic []) => if L.length ≤ 15 ∧ (L.map (·.1)).Nodup then .ok (.ref S.length) (S1.set S.length (.dic ((L.map (·.1)).zip ds))) else .no
    | _ => .no) := q
  have q1 := pairs_post L (re.mono e1) rs1 (Post.bind (rel := relDs (X.cq W)) (Post.mono e1 q))
  refine tPairs_imp (trsL_mono _ L) q1 fun ps H3 ⟨us, ep, lu, m1, ds, S1, e3, rs3, rds, h3⟩ => ?_
  have hl : m1[S.length]? = some p := by
    obtain ⟨r, rfl⟩ := e3.pre
    rw [List.getElem?_append_left (by rw [List.length_append, ← rs.len]; show _ < _ + 1; omega), ← rs.len, List.getElem?_append_right (Nat.le_refl _), Nat.sub_self]
    rfl
  cases es : S1[S.length]? with
  | none => rw [es] at h3; exact h3.elim
  | some c =>
    rw [es] at h3
    cases c with
    | dic kvs =>
      cases kvs with
      | nil =>
        simp only at h3
        by_cases hc : L.length ≤ 15 ∧ (L.map (·.1)).Nodup
        · rw [if_pos hc] at h3
          obtain ⟨ws, g1, g2, g3⟩ := rs3.at_ hl es
          have ews : ws = [] := List.map_eq_nil_iff.mp g2
          subst ews
          refine ⟨g1, (L.map (·.1)).zip us, by rw [ep, zip_kv, List.map_map]; rfl, by rw [List.length_zip, List.length_map]; omega, ?_⟩
          have nd : (((L.map (·.1)).zip us).map (·.1)).Nodup := by rw [zip_fst _ _ (by rw [List.length_map]; exact lu)]; exact hc.2
          rw [show mergeK [] ((L.map (·.1)).zip us) = (L.map (·.1)).zip us from merge_nd _ [] nd]
          have ld := rds.length
          obtain ⟨ex, rs4⟩ := rs3.write (o := .dK ((L.map (·.1)).zip us)) (c' := .dic ((L.map (·.1)).zip ds)) hl es rfl rfl fun ex => ⟨_, upd_same, by rw [zip_fst _ _ (by rw [List.length_map]; exact lu), zip_fst _ _ (by rw [List.length_map, ← ld]; exact lu)], by
            rw [zip_snd _ _ (by rw [List.length_map]; exact lu), zip_snd _ _ (by rw [List.length_map, ← ld]; exact lu)]
            exact rds.mono ex⟩
          exact h3 _ _ m1 ex rs4 (.ref hl)
        · rw [if_neg hc] at h3
          exact h3.elim
      | cons a b => exact h3.elim
    | lst xs => exact h3.elim
    | rol xs => exact h3.elim
    | gone => exact h3.elim
end
end Dl

set_option Elab.async false
set_option linter.all false
set_option maxRecDepth 100000
namespace Dl
open PySem L2
/-! ## is None, is True; x += i -/
/-- the fuel of a while -/
def WF : Nat := 100000
def nonD : D → Bool
  | .non => true
  | _ => false
def isD : D → D → Option Bool
  | .raw _, _ => none
  | x, .non => some (nonD x)
  | .bl a, .bl b => some (decide (a = b))
  | _, _ => none
def gIs (x y : D) (S : Store) : Option (D × Store) := (isD x y).map fun b => (.bl b, S)
def gIsN (x y : D) (S : Store) : Option (D × Store) := (isD x y).map fun b => (.bl (!b), S)
theorem is_non {K : PySem.W.Frag} {m : List Addr} {H : Hp} {v : V} {d : D} (r : RD K m H v d) (hr : ∀ u, d ≠ .raw u) : decide (v = .non) = nonD d := by
  cases r with
  | non => rfl
  | bl b => rfl
  | int i => rfl
  | str h => rfl
  | tup h r => rfl
  | ref h => rfl
  | raw v => exact absurd rfl (hr v)
section
variable {X : Cx}
theorem o_is : OpR X (compareOp .Is) (rd2 X.K gIs) := by
  intro pins s σ H v u vv uu Q I rv ru ⟨m, x, y, S, hx, hy, rs, h⟩
  unfold gIs isD at h
  split at h
  · exact h.elim
  · rename_i x' hr
    cases hy
    refine op_isN pins s σ H _ _ vv uu Q I rv ru ⟨rfl, ?_⟩
    rw [is_non hx (fun w e => hr w e)]
    exact h _ _ m .refl rs (.bl _)
  · cases hx
    cases hy
    exact op_is_bl pins s σ H _ _ vv uu Q I rv ru ⟨_, _, rfl, rfl, h _ _ m .refl rs (.bl _)⟩
  · exact h.elim
theorem o_isn : OpR X (compareOp .IsNot) (rd2 X.K gIsN) := by
  intro pins s σ H v u vv uu Q I rv ru ⟨m, x, y, S, hx, hy, rs, h⟩
  unfold gIsN isD at h
  split at h
  · exact h.elim
  · rename_i x' hr
    cases hy
    refine op_notN pins s σ H _ _ vv uu Q I rv ru ⟨rfl, ?_⟩
    rw [is_non hx (fun w e => hr w e)]
    exact h _ _ m .refl rs (.bl _)
  · cases hx
    cases hy
    exact op_isnot_bl pins s σ H _ _ vv uu Q I rv ru ⟨_, _, rfl, rfl, h _ _ m .refl rs (.bl _)⟩
  · exact h.elim
def gAugAdd : D → D → Store → Option (D × Store)
  | .int i, .int j, S => some (.int (i + j), S)
  | _, _, _ => none
def gAugSub : D → D → Store → Option (D × Store)
  | .int i, .int j, S => some (.int (i - j), S)
  | _, _, _ => none
/-- x op= f -/
def sAug (j : Nat) (g : D → D → Store → Option (D × Store)) (f : EX) : SX := fun ρ S => match ρ[j]? with
  | some (some d) => (f ρ S).out ρ fun y S1 => match g d y S1 with
    | some (z, S2) => .nx (ρ.set j (some z)) S2
    | none => .no
  | _ => .no
theorem ip_addD : PIp X .Add (fun v u H Q => rd2 X.K gAugAdd v u H Q) := fun pins s σ H x y v u Q I rx ry ⟨m, d, e, S, hx, hy, rs, h⟩ => by
  unfold gAugAdd at h
  split at h
  · cases hx
    cases hy
    exact ip_add pins s σ H _ _ v u Q I rx ry ⟨_, _, rfl, rfl, h _ _ m .refl rs (.int _)⟩
  · exact h.elim
theorem ip_subD : PIp X .Sub (fun v u H Q => rd2 X.K gAugSub v u H Q) := fun pins s σ H x y v u Q I rx ry ⟨m, d, e, S, hx, hy, rs, h⟩ => by
  unfold gAugSub at h
  split at h
  · cases hx
    cases hy
    exact ip_sub pins s σ H _ _ v u Q I rx ry ⟨_, _, rfl, rfl, h _ _ m .refl rs (.int _)⟩
  · exact h.elim
variable {W : WX} {e : Expr} {f : EX} {pos : Pos}
theorem t_aug {op : Operator} {g : D → D → Store → Option (D × Store)} {j : Nat} {x : Str} {pos' : Pos} (hN : X.N.Nodup) (ho : PIp X op (fun v u H Q => rd2 X.K g v u H Q)) (he : PE X e (rdE (X.cq W) f)) (hi : X.N[j]? = some x := by rfl) (hx : Loc X.env.scope x := by first | exact .inl rfl | exact .inr rfl)
    (hf : X.fn x = true ∨ X.env.scope.names.lookup x = some .local := by first | exact .inl rfl | exact .inr rfl) : PS X (.AugAssign (.Name x pos') op e pos) (rdS (X.cq W) (sAug j g f)) := PSwk (ps_aug hN hi hx he ho hf) fun Dn σ H ⟨m, ρ, S, re, rs, q⟩ => by
  have q : PostS (X.cq W) m H Dn (match ρ[j]? with
    | some (some d) => (f ρ S).out ρ fun y S1 => match g d y S1 with
      | some (z, S2) => .nx (ρ.set j (some z)) S2
      | none => .no
    | _ => .no) := q
  cases ed : ρ[j]? with
  | none => rw [ed] at q; exact q.elim
  | some od =>
    cases od with
    | none => rw [ed] at q; exact q.elim
    | some d =>
      rw [ed] at q
      obtain ⟨v, hv, rd⟩ := re.at_ ed
      refine ⟨v, hv, m, ρ, S, re, rs, (Post.out re q).imp fun u H1 ⟨m1, y, S1, e1, rs1, rdy, re1, q1⟩ => ⟨m1, d, y, S1, rd.mono e1, rdy, rs1, ?_⟩⟩
      cases eg : g d y S1 with
      | none => rw [eg] at q1; exact q1.elim
      | some p =>
        obtain ⟨z, S2⟩ := p
        rw [eg] at q1
        exact fun w H2 m2 ex rs2 rz => q1 _ H2 m2 ex ((re1.mono ex).set rz j) rs2
end
end Dl

set_option Elab.async false
set_option linter.all false
set_option maxRecDepth 100000
namespace Dl
open PySem L2
/-! ## a def's promise, shown by evaluation under an open end -/
abbrev Sp (r : R D) (Q : R D → Prop) : Prop := Q r
def fin (n : Nat) : Out → R D
  | .rt d S' => cmp n d S'
  | .nx _ S' => cmp n .non S'
  | .ex x _ S' => .ex x S'
  | _ => .no
def So (n : Nat) (Q : R D → Prop) (o : Out) : Prop := Q (fin n o)
/-- the store T, the pool P at p, behind it the def's own cells -/
def st (T : Store) (p : Nat) (P : List D) (L : List Cell) : Store := T.set p (.lst P) ++ L
/-- the store T, behind it the def's own cells -/
def sx (T : Store) (L : List Cell) : Store := T ++ L
section
variable {n np ns : Nat} {g : SX} {ds : List D} {S T : Store} {Q : R D → Prop} {p q k : Nat} {P P' : List D} {L M : List Cell} {c : Cell} {d : D} {ρ : Env} {x : Exn}
theorem runB_fin (h : ds.length = np) : runB np ns g ds S = fin S.length (g (ds.map some ++ List.replicate (ns - np) none) S) := by
  unfold runB
  rw [if_pos h]
  cases g (ds.map some ++ List.replicate (ns - np) none) S <;> rfl
theorem sp_run (h : ds.length = np) (k : ∀ Q' : R D → Prop, (∀ r, Q r → Q' r) → So S.length Q' (g (ds.map some ++ List.replicate (ns - np) none) S)) : Sp (runB np ns g ds S) Q := by
  show Q _
  rw [runB_fin h]
  exact k Q fun _ h => h
theorem st_in (hp : S[p]? = some (.lst P)) : S = st S p P [] := by
  unfold st
  rw [List.append_nil]
  apply List.ext_getElem?
  intro i
  by_cases e : p = i
  · subst e
    rw [List.getElem?_set_self (List.getElem?_eq_some_iff.mp hp).1, hp]
  · rw [List.getElem?_set_ne e]
theorem sx_in : S = sx S [] := (List.append_nil S).symm
/-- with a pool -/
theorem sp_pool (h : ds.length = np) (hp : S[p]? = some (.lst P)) (k : p < S.length → ∀ Q' : R D → Prop, (∀ r, Q r → Q' r) → So S.length Q' (g (ds.map some ++ List.replicate (ns - np) none) (st S p P []))) : Sp (runB np ns g ds S) Q :=
  sp_run h fun Q' hQ => by
    have z := k (List.getElem?_eq_some_iff.mp hp).1 Q' hQ
    rwa [← st_in hp] at z
/-- without one -/
theorem sp_plain (h : ds.length = np) (k : ∀ Q' : R D → Prop, (∀ r, Q r → Q' r) → So S.length Q' (g (ds.map some ++ List.replicate (ns - np) none) (sx S []))) : Sp (runB np ns g ds S) Q :=
  sp_run h fun Q' hQ => by
    have z := k Q' hQ
    rwa [← sx_in] at z
theorem So_rt : So n Q (.rt d S) = Q (cmp n d S) := nr rfl
theorem So_nx : So n Q (.nx ρ S) = Q (cmp n .non S) := nr rfl
theorem So_ex : So n Q (.ex x ρ S) = Q (.ex x S) := nr rfl
/-! ### the store's normal forms -/
theorem st_len : (st T p P L).length = T.length + L.length := by unfold st; rw [List.length_append, List.length_set]
theorem st_p (h : p < T.length) : (st T p P L)[p]? = some (.lst P) := by
  unfold st
  rw [List.getElem?_append_left (by rw [List.length_set]; exact h), List.getElem?_set_self h]
theorem st_k : (st T p P L)[T.length + k]? = L[k]? := by
  unfold st
  rw [List.getElem?_append_right (by rw [List.length_set]; omega), List.length_set, Nat.add_sub_cancel_left]
theorem st_0 : (st T p P L)[T.length]? = L[0]? := st_k (k := 0)
theorem st_q (h : q < T.length) (e : q ≠ p) : (st T p P L)[q]? = T[q]? := by
  unfold st
  rw [List.getElem?_append_left (by rw [List.length_set]; exact h), List.getElem?_set_ne (Ne.symm e)]
theorem st_set_p (h : p < T.length) : (st T p P L).set p (.lst P') = st T p P' L := by
  unfold st
  rw [List.set_append_left _ _ (by rw [List.length_set]; exact h), List.set_set]
theorem st_set_k : (st T p P L).set (T.length + k) c = st T p P (L.set k c) := by
  unfold st
  rw [List.set_append_right _ _ (by rw [List.length_set]; omega), List.length_set, Nat.add_sub_cancel_left]
theorem st_set_0 : (st T p P L).set T.length c = st T p P (L.set 0 c) := st_set_k (k := 0)
theorem st_push : st T p P L ++ M = st T p P (L ++ M) := List.append_assoc ..
theorem sx_len : (sx T L).length = T.length + L.length := List.length_append ..
theorem sx_k : (sx T L)[T.length + k]? = L[k]? := by
  unfold sx
  rw [List.getElem?_append_right (by omega), Nat.add_sub_cancel_left]
theorem sx_0 : (sx T L)[T.length]? = L[0]? := sx_k (k := 0)
theorem sx_q (h : q < T.length) : (sx T L)[q]? = T[q]? := by
  unfold sx
  rw [List.getElem?_append_left h]
theorem sx_set_q (h : q < T.length) : (sx T L).set q c = sx (T.set q c) L := by
  unfold sx
  rw [List.set_append_left _ _ h]
theorem sx_set_k : (sx T L).set (T.length + k) c = sx T (L.set k c) := by
  unfold sx
  rw [List.set_append_right _ _ (by omega), Nat.add_sub_cancel_left]
theorem sx_set_0 : (sx T L).set T.length c = sx T (L.set 0 c) := sx_set_k (k := 0)
theorem sx_push : sx T L ++ M = sx T (L ++ M) := List.append_assoc ..
/-! ### what a def leaves -/
theorem SWf_set (hS : SWf n T = true) (hc : c.wf n = true) : SWf n (T.set q c) = true := List.all_eq_true.mpr fun x hx => by
  rcases List.mem_or_eq_of_mem_set hx with z | z
  · exact List.all_eq_true.mp hS x z
  · rw [z]; exact hc
theorem fin_p (hT : SWf T.length T = true) (hP : wfs T.length P = true) (hd : d.wf T.length = true) : cmp T.length d (st T p P L) = .ok d (T.set p (.lst P)) := by
  unfold cmp st
  have e : (T.set p (Cell.lst P) ++ L).take T.length = T.set p (.lst P) := List.take_left' (List.length_set ..)
  rw [e, if_pos (SWf_set (c := .lst P) hT hP), if_pos hd]
theorem fin_pl {xs : List D} (hT : SWf T.length T = true) (hP : wfs T.length P = true) (hL : L[k]? = some (.lst xs)) (hx : wfs T.length xs = true) : cmp T.length (.ref (T.length + k)) (st T p P L) = .ok (.ref T.length) (T.set p (.lst P) ++ [.lst xs]) := by
  unfold cmp
  have e : (st T p P L).take T.length = T.set p (.lst P) := List.take_left' (List.length_set ..)
  rw [e, if_pos (SWf_set (c := .lst P) hT hP), if_neg (show ¬ (D.ref (T.length + k)).wf T.length = true from fun z => by
    have z' : T.length + k < T.length := of_decide_eq_true z
    omega)]
  simp only [st_k, hL, newCell, hx, if_true]
theorem fin_pl0 {xs : List D} (hT : SWf T.length T = true) (hP : wfs T.length P = true) (hx : wfs T.length xs = true) : cmp T.length (.ref T.length) (st T p P (.lst xs :: L)) = .ok (.ref T.length) (T.set p (.lst P) ++ [.lst xs]) := fin_pl (k := 0) hT hP rfl hx
theorem fin_x (hT : SWf T.length T = true) (hd : d.wf T.length = true) : cmp T.length d (sx T L) = .ok d T := by
  unfold cmp sx
  rw [List.take_left' rfl, if_pos hT, if_pos hd]
theorem fin_xl {xs : List D} (hT : SWf T.length T = true) (hL : L[k]? = some (.lst xs)) (hx : wfs T.length xs = true) : cmp T.length (.ref (T.length + k)) (sx T L) = .ok (.ref T.length) (T ++ [.lst xs]) := by
  unfold cmp
  have e : (sx T L).take T.length = T := List.take_left' rfl
  rw [e, if_pos hT, if_neg (show ¬ (D.ref (T.length + k)).wf T.length = true from fun z => by
    have z' : T.length + k < T.length := of_decide_eq_true z
    omega)]
  simp only [sx_k, hL, newCell, hx, if_true]
theorem fin_xl0 {xs : List D} (hT : SWf T.length T = true) (hx : wfs T.length xs = true) : cmp T.length (.ref T.length) (sx T (.lst xs :: L)) = .ok (.ref T.length) (T ++ [.lst xs]) := fin_xl (k := 0) hT rfl hx
theorem Qp (hT : SWf T.length T = true) (hP : wfs T.length P = true) (hd : d.wf T.length = true) (h : Q (.ok d (T.set p (.lst P)))) : Q (cmp T.length d (st T p P L)) := by rw [fin_p hT hP hd]; exact h
theorem Qpl {xs : List D} (hT : SWf T.length T = true) (hP : wfs T.length P = true) (hL : L[k]? = some (.lst xs)) (hx : wfs T.length xs = true) (h : Q (.ok (.ref T.length) (T.set p (.lst P) ++ [.lst xs]))) : Q (cmp T.length (.ref (T.length + k)) (st T p P L)) := by rw [fin_pl hT hP hL hx]; exact h
theorem Qpl0 {xs : List D} (hT : SWf T.length T = true) (hP : wfs T.length P = true) (hx : wfs T.length xs = true) (h : Q (.ok (.ref T.length) (T.set p (.lst P) ++ [.lst xs]))) : Q (cmp T.length (.ref T.length) (st T p P (.lst xs :: L))) := by rw [fin_pl0 hT hP hx]; exact h
theorem Qx (hT : SWf T.length T = true) (hd : d.wf T.length = true) (h : Q (.ok d T)) : Q (cmp T.length d (sx T L)) := by rw [fin_x hT hd]; exact h
theorem Qxl {xs : List D} (hT : SWf T.length T = true) (hL : L[k]? = some (.lst xs)) (hx : wfs T.length xs = true) (h : Q (.ok (.ref T.length) (T ++ [.lst xs]))) : Q (cmp T.length (.ref (T.length + k)) (sx T L)) := by rw [fin_xl hT hL hx]; exact h
theorem Qxl0 {xs : List D} (hT : SWf T.length T = true) (hx : wfs T.length xs = true) (h : Q (.ok (.ref T.length) (T ++ [.lst xs]))) : Q (cmp T.length (.ref T.length) (sx T (.lst xs :: L))) := by rw [fin_xl0 hT hx]; exact h
/-- nothing is new and nothing is bad -/
theorem fin_s (hS : S.length = n) (hd : d.wf n = true) : cmp n d S = .ok d S := cmp_same hS hd
end
/-! ### cells, read -/
def tyC : Option Cell → Option Ty
  | some (.lst _) => some .lst
  | some (.rol _) => some .lst
  | some (.dic _) => some .dic
  | _ => none
def lstC : Option Cell → Option (List D)
  | some (.lst xs) => some xs
  | some (.rol xs) => some xs
  | _ => none
def ixO (S : Store) : Option D → Option (D × Store)
  | some d => some (d, S)
  | none => none
def ixC (i : Int) (S : Store) : Option (List D) → Option (D × Store)
  | some xs => ixO S (atI xs i)
  | none => none
def ixS (S : Store) : Option Nat → Option (D × Store)
  | some c => some (.str ⟨#[c]⟩, S)
  | none => none
def lenC (S : Store) : Option (List D) → Option (D × Store)
  | some xs => some (.int xs.length, S)
  | none => none
def appC (l : Nat) (d : D) (S : Store) : Option Cell → Option (D × Store)
  | some (.lst xs) => if xs.length < LIM then some (.non, S.set l (.lst (xs ++ [d]))) else none
  | _ => none
def extC (l : Nat) (S : Store) : Option Cell → Option Cell → Option (D × Store)
  | some (.lst xs), some (.lst ys) => if xs.length + ys.length ≤ LIM then some (.non, S.set l (.lst (xs ++ ys))) else none
  | _, _ => none
def popC (l : Nat) (S : Store) : Option Cell → Option (D × Store)
  | some (.lst xs) => (xs[xs.length - 1]?).map fun d => (d, S.set l (.lst xs.dropLast))
  | _ => none
def setC (l : Nat) (k : Int) (d : D) (S : Store) : Option Cell → Option Store
  | some (.lst xs) => (ixN xs.length k).map fun j => S.set l (.lst (xs.set j d))
  | _ => none
def catC (S : Store) : Option Cell → Option Cell → Option (D × Store)
  | some (.lst xs), some (.lst ys) => if xs.length + ys.length ≤ LIM then some (.ref S.length, S ++ [.lst (xs ++ ys)]) else none
  | _, _ => none
def tupC (S : Store) : Option (List D) → Option (D × Store)
  | some xs => some (.tup xs, S)
  | none => none
def newC (S : Store) : Option (List D) → Option (D × Store)
  | some xs => some (.ref S.length, S ++ [.lst xs])
  | none => none
def slC (lo hi : Option Int) (S : Store) : Option (List D) → Option (D × Store)
  | some xs => some (.ref S.length, S ++ [.lst (cutD xs lo hi)])
  | none => none
def truC : Option Cell → Option Bool
  | some (.lst xs) => some (!xs.isEmpty)
  | some (.rol xs) => some (!xs.isEmpty)
  | some (.dic kvs) => some (!kvs.isEmpty)
  | _ => none
def isO (T : Ty) (S : Store) : Option Ty → Option (D × Store)
  | some t => some (.bl (isiB t T), S)
  | none => none
def sumO (S : Store) : Option (List Int) → Option (D × Store)
  | some is => some (.int is.sum, S)
  | none => none
def sumC (S : Store) : Option (List D) → Option (D × Store)
  | some xs => sumO S (intsD xs)
  | none => none
def iaC (l : Nat) (S : Store) : Option (List D) → R (List D × Chk)
  | some xs => .ok (xs, [(l, xs)]) S
  | none => .no
section
variable {S : Store} {l r : Nat} {i k : Int} {d e : D} {xs ys : List D} {x : Str} {T : Ty} {t : Ty} {lo hi : Option Int}
theorem tyD_ref : tyD S (.ref l) = tyC S[l]? := by
  show (match S[l]? with | some (.lst _) => some Ty.lst | some (.rol _) => some Ty.lst | some (.dic _) => some Ty.dic | _ => none) = tyC S[l]?
  cases S[l]? with
  | none => rfl
  | some c => cases c <;> rfl
theorem tyC_lst : tyC (some (.lst xs)) = some .lst := nr rfl
theorem tyC_rol : tyC (some (.rol xs)) = some .lst := nr rfl
theorem tyC_dic {kvs : List (Key × D)} : tyC (some (.dic kvs)) = some .dic := nr rfl
theorem lstAt_C : lstAt S l = lstC S[l]? := by
  unfold lstAt
  cases S[l]? with
  | none => rfl
  | some c => cases c <;> rfl
theorem lstC_lst : lstC (some (.lst xs)) = some xs := nr rfl
theorem lstC_rol : lstC (some (.rol xs)) = some xs := nr rfl
theorem gIx_r : gIx (.ref l) (.int i) S = ixC i S (lstC S[l]?) := by
  show (lstAt S l).bind (fun xs => (atI xs i).map fun d => (d, S)) = _
  rw [lstAt_C]
  cases lstC S[l]? with
  | none => rfl
  | some xs =>
    show (atI xs i).map (fun d => (d, S)) = ixO S (atI xs i)
    cases atI xs i <;> rfl
theorem ixC_s : ixC i S (some xs) = ixO S (atI xs i) := nr rfl
theorem ixO_s : ixO S (some d) = some (d, S) := nr rfl
theorem gIx_t : gIx (.tup xs) (.int i) S = ixO S (atI xs i) := by
  show (atI xs i).map (fun d => (d, S)) = _
  cases atI xs i <;> rfl
theorem gIx_s : gIx (.str x) (.int i) S = ixS S (atI x.cps.toList i) := by
  show (atI x.cps.toList i).map _ = _
  cases atI x.cps.toList i <;> rfl
theorem ixS_s {c : Nat} : ixS S (some c) = some (.str ⟨#[c]⟩, S) := nr rfl
theorem atI_0 {α : Type} {a : α} {as : List α} : atI (a :: as) 0 = some a := by
  have h : atI (a :: as) ((0 : Nat) : Int) = (a :: as)[0]? := atI_nat (by rfl)
  exact h
theorem atI_1 {α : Type} {a b : α} {as : List α} : atI (a :: b :: as) 1 = some b := atI_nat (j := 1) rfl
theorem atI_2 {α : Type} {a b c : α} {as : List α} : atI (a :: b :: c :: as) 2 = some c := atI_nat (j := 2) rfl
theorem atI_3 {α : Type} {a b c d : α} {as : List α} : atI (a :: b :: c :: d :: as) 3 = some d := atI_nat (j := 3) rfl
theorem atI_4 {α : Type} {a b c d e : α} {as : List α} : atI (a :: b :: c :: d :: e :: as) 4 = some e := atI_nat (j := 4) rfl
theorem atI_5 {α : Type} {a b c d e f : α} {as : List α} : atI (a :: b :: c :: d :: e :: f :: as) 5 = some f := atI_nat (j := 5) rfl
theorem gLen_r : gLen [.ref l] S = lenC S (lstC S[l]?) := by
  show (lstAt S l).map _ = _
  rw [lstAt_C]
  cases lstC S[l]? <;> rfl
theorem lenC_s : lenC S (some xs) = some (.int xs.length, S) := nr rfl
theorem gAppend_r : gAppend (.ref l) [d] S = appC l d S S[l]? := by
  show (match S[l]? with | some (.lst xs) => if xs.length < LIM then some (D.non, S.set l (.lst (xs ++ [d]))) else none | _ => none) = _
  cases S[l]? with
  | none => rfl
  | some c => cases c <;> rfl
theorem appC_s (h : xs.length < 16777216) : appC l d S (some (.lst xs)) = some (.non, S.set l (.lst (xs ++ [d]))) := if_pos h
theorem gExtend_r : gExtend (.ref l) [.ref r] S = extC l S S[l]? S[r]? := by
  show (match S[l]?, S[r]? with | some (.lst xs), some (.lst ys) => if xs.length + ys.length ≤ LIM then some (D.non, S.set l (.lst (xs ++ ys))) else none | _, _ => none) = _
  cases S[l]? with
  | none => rfl
  | some c =>
    cases S[r]? with
    | none => cases c <;> rfl
    | some c' => cases c <;> cases c' <;> rfl
theorem extC_s (h : xs.length + ys.length ≤ 16777216) : extC l S (some (.lst xs)) (some (.lst ys)) = some (.non, S.set l (.lst (xs ++ ys))) := if_pos h
theorem gPop_r : gPop (.ref l) [] S = popC l S S[l]? := by
  show (match S[l]? with | some (.lst xs) => (xs[xs.length - 1]?).map fun d => (d, S.set l (.lst xs.dropLast)) | _ => none) = _
  cases S[l]? with
  | none => rfl
  | some c => cases c <;> rfl
theorem popC_s : popC l S (some (.lst (xs ++ [d]))) = some (d, S.set l (.lst xs)) := by
  show ((xs ++ [d])[(xs ++ [d]).length - 1]?).map _ = _
  rw [List.length_append, List.length_singleton, Nat.add_sub_cancel, List.getElem?_append_right (Nat.le_refl _), Nat.sub_self, List.dropLast_concat]
  rfl
theorem gSet_r : gSet (.ref l) (.int k) d S = setC l k d S S[l]? := by
  show (match S[l]? with | some (.lst xs) => (ixN xs.length k).map fun j => S.set l (.lst (xs.set j d)) | _ => none) = _
  cases S[l]? with
  | none => rfl
  | some c => cases c <;> rfl
theorem setC_s {m : Nat} (h : ixN xs.length k = some m) : setC l k d S (some (.lst xs)) = some (S.set l (.lst (xs.set m d))) := by
  show (ixN xs.length k).map _ = _
  rw [h]
  rfl
theorem setC_0 {a : D} : setC l 0 d S (some (.lst (a :: xs))) = some (S.set l (.lst (d :: xs))) := setC_s (m := 0) (xs := a :: xs) (by unfold ixN; rw [if_pos (by decide), if_pos (by rw [List.length_cons]; omega)]; rfl)
theorem setC_2 {a b c : D} : setC l 2 d S (some (.lst (a :: b :: c :: xs))) = some (S.set l (.lst (a :: b :: d :: xs))) := setC_s (m := 2) (xs := a :: b :: c :: xs) (by unfold ixN; rw [if_pos (by decide), if_pos (by rw [List.length_cons, List.length_cons, List.length_cons]; omega)]; rfl)
theorem gAdd_r : gAdd (.ref l) (.ref r) S = catC S S[l]? S[r]? := by
  show catL S l r = _
  unfold catL
  cases S[l]? with
  | none => rfl
  | some c =>
    cases S[r]? with
    | none => cases c <;> rfl
    | some c' => cases c <;> cases c' <;> rfl
theorem catC_s (h : xs.length + ys.length ≤ 16777216) : catC S (some (.lst xs)) (some (.lst ys)) = some (.ref S.length, S ++ [.lst (xs ++ ys)]) := if_pos h
/-- tuples, the left one empty or not -/
theorem gAdd_t (h : xs.length + ys.length ≤ 16777216) : gAdd (.tup xs) (.tup ys) S = some (.tup (xs ++ ys), S) := by
  cases xs with
  | nil => rfl
  | cons x xs => exact if_pos h
theorem gTuple_r : gTuple [.ref l] S = tupC S (lstC S[l]?) := by
  show (lstAt S l).map _ = _
  rw [lstAt_C]
  cases lstC S[l]? <;> rfl
theorem tupC_s : tupC S (some xs) = some (.tup xs, S) := nr rfl
theorem gTuple_t : gTuple [.tup xs] S = some (.tup xs, S) := nr rfl
theorem gList_r : gList [.ref l] S = newC S (lstC S[l]?) := by
  show (lstAt S l).map _ = _
  rw [lstAt_C]
  cases lstC S[l]? <;> rfl
theorem gList_t : gList [.tup xs] S = some (.ref S.length, S ++ [.lst xs]) := nr rfl
theorem newC_s : newC S (some xs) = some (.ref S.length, S ++ [.lst xs]) := nr rfl
theorem gSl_r : gSl (.ref l) lo hi S = slC lo hi S (lstC S[l]?) := by
  show (lstAt S l).map _ = _
  rw [lstAt_C]
  cases lstC S[l]? <;> rfl
theorem slC_s : slC lo hi S (some xs) = some (.ref S.length, S ++ [.lst (cutD xs lo hi)]) := nr rfl
theorem gSl_t : gSl (.tup xs) lo hi S = some (.tup (cutD xs lo hi), S) := nr rfl
theorem gSl_s : gSl (.str x) lo hi S = some (.str (cutS x lo hi), S) := nr rfl
theorem truD_ref : truD S (.ref l) = truC S[l]? := by
  show (match S[l]? with | some (.lst xs) => some (!xs.isEmpty) | some (.rol xs) => some (!xs.isEmpty) | some (.dic kvs) => some (!kvs.isEmpty) | _ => none) = _
  cases S[l]? with
  | none => rfl
  | some c => cases c <;> rfl
theorem truC_lst : truC (some (.lst xs)) = some (!xs.isEmpty) := nr rfl
theorem truD_non : truD S .non = some false := nr rfl
theorem truD_str : truD S (.str x) = some ((x.length : Int) != 0) := nr rfl
theorem isi_str : gIsi .str [d, .raw (.ty "str")] S = isO .str S (tyD S d) := by
  show (tyD S d).map (fun t => (D.bl (isiB t .str), S)) = _
  cases tyD S d <;> rfl
theorem isi_int : gIsi .int [d, .raw (.ty "int")] S = isO .int S (tyD S d) := by
  show (tyD S d).map (fun t => (D.bl (isiB t .int), S)) = _
  cases tyD S d <;> rfl
theorem isi_bool : gIsi .bl [d, .raw (.ty "bool")] S = isO .bl S (tyD S d) := by
  show (tyD S d).map (fun t => (D.bl (isiB t .bl), S)) = _
  cases tyD S d <;> rfl
theorem isi_tup : gIsi .tup [d, .raw (.ty "tuple")] S = isO .tup S (tyD S d) := by
  show (tyD S d).map (fun t => (D.bl (isiB t .tup), S)) = _
  cases tyD S d <;> rfl
theorem isi_lst : gIsi .lst [d, .raw (.ty "list")] S = isO .lst S (tyD S d) := by
  show (tyD S d).map (fun t => (D.bl (isiB t .lst), S)) = _
  cases tyD S d <;> rfl
theorem isO_s : isO T S (some t) = some (.bl (isiB t T), S) := nr rfl
theorem isB_1 : isiB .str .str = true := nr rfl
theorem isB_2 : isiB .tup .str = false := nr rfl
theorem isB_3 : isiB .int .str = false := nr rfl
theorem isB_4 : isiB .lst .str = false := nr rfl
theorem isB_5 : isiB .non .str = false := nr rfl
theorem isB_6 : isiB .bl .str = false := nr rfl
theorem isB_7 : isiB .str .int = false := nr rfl
theorem isB_8 : isiB .tup .int = false := nr rfl
theorem isB_9 : isiB .int .int = true := nr rfl
theorem isB_10 : isiB .lst .int = false := nr rfl
theorem isB_11 : isiB .non .int = false := nr rfl
theorem isB_12 : isiB .bl .int = true := nr rfl
theorem isB_13 : isiB .str .tup = false := nr rfl
theorem isB_14 : isiB .tup .tup = true := nr rfl
theorem isB_15 : isiB .int .tup = false := nr rfl
theorem isB_16 : isiB .lst .tup = false := nr rfl
theorem isB_17 : isiB .non .tup = false := nr rfl
theorem isB_18 : isiB .bl .tup = false := nr rfl
theorem isB_19 : isiB .str .bl = false := nr rfl
theorem isB_20 : isiB .tup .bl = false := nr rfl
theorem isB_21 : isiB .int .bl = false := nr rfl
theorem isB_22 : isiB .bl .bl = true := nr rfl
theorem isB_23 : isiB .dic .str = false := nr rfl
theorem isB_24 : isiB .dic .tup = false := nr rfl
theorem isB_25 : isiB .lst .lst = true := nr rfl
theorem isB_26 : isiB .tup .lst = false := nr rfl
theorem gSum_r : gSum [.ref l] S = sumC S (lstC S[l]?) := by
  show ((lstAt S l).bind intsD).map _ = _
  rw [lstAt_C]
  cases lstC S[l]? with
  | none => rfl
  | some xs =>
    show (intsD xs).map (fun ns => (D.int ns.sum, S)) = sumO S (intsD xs)
    cases intsD xs <;> rfl
theorem sumC_s : sumC S (some xs) = sumO S (intsD xs) := nr rfl
theorem sumO_s {is : List Int} : sumO S (some is) = some (.int is.sum, S) := nr rfl
theorem gMin_ {a b : Int} : gMin2 [.int a, .int b] S = some (.int (if b < a then b else a), S) := nr rfl
theorem gMax_ {a b : Int} : gMax2 [.int a, .int b] S = some (.int (if b > a then b else a), S) := nr rfl
theorem qEq_int {a b : Int} : gEq (.int a) (.int b) S = some (.bl (decide (a = b)), S) := by
  rw [gEq_int]
  by_cases e : a = b
  · rw [decide_eq_true e, e, beq_self_eq_true]
  · rw [decide_eq_false e, beq_eq_false_iff_ne.mpr e]
theorem qNe_int {a b : Int} : gNe (.int a) (.int b) S = some (.bl (!decide (a = b)), S) := by
  rw [gNe_int]
  by_cases e : a = b
  · rw [decide_eq_true e, e, beq_self_eq_true]
  · rw [decide_eq_false e, beq_eq_false_iff_ne.mpr e]
theorem qEq_str {a b : Str} : gEq (.str a) (.str b) S = some (.bl (decide (a = b)), S) := by
  rw [gEq_str]
  by_cases e : a = b
  · rw [decide_eq_true e, e, beq_self_eq_true]
  · rw [decide_eq_false e, beq_eq_false_iff_ne.mpr e]
theorem qNe_str {a b : Str} : gNe (.str a) (.str b) S = some (.bl (!decide (a = b)), S) := by
  rw [gNe_str]
  by_cases e : a = b
  · rw [decide_eq_true e, e, beq_self_eq_true]
  · rw [decide_eq_false e, beq_eq_false_iff_ne.mpr e]
theorem gNeg_z : gNeg (.int i) S = some (.int (-i), S) := nr rfl
end
/-! ### slices -/
theorem sIx_nat (n d k : Nat) (h : k ≤ n) : HT.sIx n d (some (k : Int)) = k := by
  unfold HT.sIx
  simp only
  split
  · omega
  · rw [Int.toNat_natCast]; omega
theorem cut_take {α : Type} {xs : List α} {k : Int} (h0 : 0 ≤ k) : cutD xs none (some k) = xs.take k.toNat := by
  unfold cutD HT.sIx
  simp only
  rw [if_neg (by omega)]
  simp only [List.drop_zero, Nat.sub_zero]
  rcases Nat.le_total k.toNat xs.length with h | h
  · rw [Nat.min_eq_left h]
  · rw [Nat.min_eq_right h, List.take_length, List.take_of_length_le h]
theorem cut_drop {α : Type} {xs : List α} {k : Int} (h0 : 0 ≤ k) : cutD xs (some k) none = xs.drop k.toNat := by
  unfold cutD HT.sIx
  simp only
  rw [if_neg (by omega)]
  rcases Nat.le_total k.toNat xs.length with h | h
  · rw [Nat.min_eq_left h, List.take_of_length_le (by rw [List.length_drop]; omega)]
  · rw [Nat.min_eq_right h, List.drop_length, List.drop_of_length_le h, List.take_nil]
theorem cut_mid {α : Type} {xs : List α} {j k : Int} (h0 : 0 ≤ j) (h1 : j ≤ k) (h2 : k ≤ xs.length) : cutD xs (some j) (some k) = (xs.drop j.toNat).take (k.toNat - j.toNat) := by
  unfold cutD HT.sIx
  simp only
  rw [if_neg (by omega), if_neg (by omega), Nat.min_eq_left (by omega), Nat.min_eq_left (by omega)]
theorem cut_init {α : Type} {xs : List α} : cutD xs none (some (-1)) = xs.dropLast := by
  unfold cutD HT.sIx
  simp only
  rw [if_pos (by decide), List.drop_zero, List.dropLast_eq_take, Nat.sub_zero]
  congr 1
  omega
theorem atI_last {α : Type} {xs : List α} {a : α} : atI (xs ++ [a]) (-1) = some a := L2.atI_last _ _
/-! ### loops -/
def Tn (I : Env → Store → Prop) (P : Out → Prop) : Out → Prop
  | .nx ρ S => I ρ S
  | .ct ρ S => I ρ S
  | .bk ρ S => P (.nx ρ S)
  | .rt d S => P (.rt d S)
  | .ex x ρ S => P (.ex x ρ S)
  | .no => False
section
variable {tg : D → SX} {body h : SX} {k : Chk} {P : Out → Prop}
theorem Tn_nx {I : Env → Store → Prop} {ρ : Env} {S : Store} : Tn I P (.nx ρ S) = I ρ S := nr rfl
theorem Tn_ct {I : Env → Store → Prop} {ρ : Env} {S : Store} : Tn I P (.ct ρ S) = I ρ S := nr rfl
theorem Tn_bk {I : Env → Store → Prop} {ρ : Env} {S : Store} : Tn I P (.bk ρ S) = P (.nx ρ S) := nr rfl
theorem Tn_rt {I : Env → Store → Prop} {d : D} {S : Store} : Tn I P (.rt d S) = P (.rt d S) := nr rfl
theorem Tn_ex {I : Env → Store → Prop} {x : Exn} {ρ : Env} {S : Store} : Tn I P (.ex x ρ S) = P (.ex x ρ S) := nr rfl
theorem forQ' (I : Nat → Env → Store → Prop) {all : List D} (hs : ∀ j d ρ S, all[j]? = some d → I j ρ S → chkOk k S ∧ ∃ ρ1 S1, tg d ρ S = .nx ρ1 S1 ∧ Tn (I (j + 1)) P (body ρ1 S1))
    (he : ∀ ρ S, I all.length ρ S → chkOk k S ∧ P (.nx ρ S)) : ∀ (xs : List D) (i : Nat) (ρ : Env) (S : Store), all.drop i = xs → i + xs.length = all.length → I i ρ S → P (runF tg body k xs ρ S)
  | [], i, ρ, S, _, hi, h0 => by
    have hi : i = all.length := hi
    subst hi
    obtain ⟨h1, h2⟩ := he ρ S h0
    unfold runF
    rw [if_pos h1]
    exact h2
  | d :: ds, i, ρ, S, e, hi, h0 => by
    have hd : all[i]? = some d := by
      have := congrArg (fun l => l[0]?) e
      simpa using this
    have ht : all.drop (i + 1) = ds := by
      rw [← List.drop_drop, e]
      rfl
    have hi' : i + 1 + ds.length = all.length := by rw [← hi, List.length_cons]; omega
    obtain ⟨h1, ρ1, S1, h2, h3⟩ := hs i d ρ S hd h0
    unfold runF
    rw [if_pos h1, h2]
    show P (match body ρ1 S1 with
      | .nx ρ2 S2 => runF tg body k ds ρ2 S2
      | .ct ρ2 S2 => runF tg body k ds ρ2 S2
      | .bk ρ2 S2 => .nx ρ2 S2
      | o => o)
    cases eb : body ρ1 S1 with
    | nx ρ2 S2 => rw [eb] at h3; exact forQ' I hs he ds (i + 1) ρ2 S2 ht hi' h3
    | ct ρ2 S2 => rw [eb] at h3; exact forQ' I hs he ds (i + 1) ρ2 S2 ht hi' h3
    | bk ρ2 S2 => rw [eb] at h3; exact h3
    | rt d S2 => rw [eb] at h3; exact h3
    | ex x ρ2 S2 => rw [eb] at h3; exact h3
    | no => rw [eb] at h3; exact h3.elim
/-- a for loop by an invariant, something behind it -/
theorem forQ (I : Nat → Env → Store → Prop) {all : List D} {ρ : Env} {S : Store} (h0 : I 0 ρ S) (hs : ∀ j d ρ S, all[j]? = some d → I j ρ S → chkOk k S ∧ ∃ ρ1 S1, tg d ρ S = .nx ρ1 S1 ∧ Tn (I (j + 1)) (fun o => P (o.seq h)) (body ρ1 S1))
    (he : ∀ ρ S, I all.length ρ S → chkOk k S ∧ P (h ρ S)) : P ((runF tg body k all ρ S).seq h) :=
  forQ' (P := fun o => P (o.seq h)) I hs he all 0 ρ S rfl (Nat.zero_add _) h0
/-- the same, nothing behind it -/
theorem forQe (I : Nat → Env → Store → Prop) {all : List D} {ρ : Env} {S : Store} (h0 : I 0 ρ S) (hs : ∀ j d ρ S, all[j]? = some d → I j ρ S → chkOk k S ∧ ∃ ρ1 S1, tg d ρ S = .nx ρ1 S1 ∧ Tn (I (j + 1)) P (body ρ1 S1))
    (he : ∀ ρ S, I all.length ρ S → chkOk k S ∧ P (.nx ρ S)) : P (runF tg body k all ρ S) :=
  forQ' I hs he all 0 ρ S rfl (Nat.zero_add _) h0
/-- over a range from lo -/
theorem rng_get {lo : Int} {n j : Nat} {d : D} (h : (rng lo n)[j]? = some d) : j < n ∧ d = .int (lo + j) := by
  unfold rng at h
  rw [List.getElem?_map] at h
  by_cases z : j < n
  · rw [List.getElem?_range z] at h
    cases h
    exact ⟨z, rfl⟩
  · rw [List.getElem?_eq_none (by rw [List.length_range]; omega)] at h
    cases h
/-- a while loop: what is left falls -/
theorem whileQ' {t : TX} (I : Nat → Env → Store → Prop) (hs : ∀ j ρ S, I j ρ S → (∃ S1, t ρ S = .ok false S1 ∧ P (.nx ρ S1)) ∨ ∃ S1, t ρ S = .ok true S1 ∧ Tn (fun ρ S => ∃ i, i < j ∧ I i ρ S) P (body ρ S1)) :
    ∀ (m j : Nat) (ρ : Env) (S : Store), j < m → I j ρ S → P (runW t body m ρ S)
  | 0, j, _, _, h, _ => absurd h (Nat.not_lt_zero _)
  | m + 1, j, ρ, S, hj, h0 => by
    unfold runW
    rcases hs j ρ S h0 with ⟨S1, e, q⟩ | ⟨S1, e, q⟩
    · rw [e]; exact q
    · rw [e]
      show P (match body ρ S1 with
        | .nx ρ2 S2 => runW t body m ρ2 S2
        | .ct ρ2 S2 => runW t body m ρ2 S2
        | .bk ρ2 S2 => .nx ρ2 S2
        | o => o)
      cases eb : body ρ S1 with
      | nx ρ2 S2 => rw [eb] at q; obtain ⟨i, hi, q⟩ := q; exact whileQ' I hs m i ρ2 S2 (by omega) q
      | ct ρ2 S2 => rw [eb] at q; obtain ⟨i, hi, q⟩ := q; exact whileQ' I hs m i ρ2 S2 (by omega) q
      | bk ρ2 S2 => rw [eb] at q; exact q
      | rt d S2 => rw [eb] at q; exact q
      | ex x ρ2 S2 => rw [eb] at q; exact q
      | no => rw [eb] at q; exact q.elim
/-- a comprehension by an invariant: what stands in the new list after j turns, and in what store -/
theorem compQ {l : Nat} {ρ : Env} {g : Cg} {ft : TX} {fe : EX} (I : Nat → List D → Store → Prop) {all : List D} (hl : all.length ≤ 1000000)
    (hs : ∀ j d acc S, all[j]? = some d → acc.length ≤ j → S[l]? = some (.lst acc) → I j acc S → chkOk k S ∧ ∃ ρ1, g.put d ρ = some ρ1 ∧ ∃ b S2, ft ρ1 S = .ok b S2 ∧ S2[l]? = some (.lst acc) ∧
      (b = false → I (j + 1) acc S2) ∧ (b = true → ∃ e S3, fe ρ1 S2 = .ok e S3 ∧ S3[l]? = some (.lst acc) ∧ I (j + 1) (acc ++ [e]) (S3.set l (.lst (acc ++ [e])))))
    (he : ∀ acc S, I all.length acc S → chkOk k S) :
    ∀ (xs : List D) (i : Nat) (acc : List D) (S : Store), all.drop i = xs → i + xs.length = all.length → acc.length ≤ i → S[l]? = some (.lst acc) → I i acc S → ∃ acc' S', acc'.length ≤ all.length ∧ S'[l]? = some (.lst acc') ∧ I all.length acc' S' ∧ runC l ρ g ft fe k xs S = .ok (.ref l) S'
  | [], i, acc, S, _, hi, ha, hS, h0 => by
    have hi : i = all.length := hi
    subst hi
    refine ⟨acc, S, ha, hS, h0, ?_⟩
    unfold runC
    rw [if_pos (he acc S h0)]
  | d :: ds, i, acc, S, e, hi, ha, hS, h0 => by
    have hd : all[i]? = some d := by
      have := congrArg (fun l => l[0]?) e
      simpa using this
    have ht : all.drop (i + 1) = ds := by
      rw [← List.drop_drop, e]
      rfl
    have hi' : i + 1 + ds.length = all.length := by rw [← hi, List.length_cons]; omega
    have hlt : i < all.length := by rw [← hi, List.length_cons]; omega
    obtain ⟨h1, ρ1, h2, b, S2, h3, h4, h5, h6⟩ := hs i d acc S hd ha hS h0
    unfold runC
    rw [if_pos h1]
    simp only [h2, h3]
    cases b with
    | false => exact compQ I hl hs he ds (i + 1) acc S2 ht hi' (by omega) h4 (h5 rfl)
    | true =>
      obtain ⟨e, S3, h7, h8, h9⟩ := h6 rfl
      simp only [h7, h8]
      rw [if_pos (show acc.length < LIM by show acc.length < 16777216; omega)]
      exact compQ I hl hs he ds (i + 1) (acc ++ [e]) _ ht hi' (by rw [List.length_append, List.length_singleton]; omega) (List.getElem?_set_self (List.getElem?_eq_some_iff.mp h8).1) h9
end
/-! ### what is walked, evaluated -/
noncomputable def kFor (tg : D → SX) (body : SX) (ρ : Env) : R (List D × Chk) → Out
  | .ok p S => runF tg body p.2 p.1 ρ S
  | .ex x S => .ex x ρ S
  | .no => .no
def kR1 : R D → R (List D × Chk)
  | .ok d S => match d with
    | .int j => if -(2 ^ 62) ≤ j ∧ j < 2 ^ 62 then .ok (rng 0 j.toNat, []) S else .no
    | _ => .no
  | .ex x S => .ex x S
  | .no => .no
def kR3 (d : D) : R D → R (List D × Chk)
  | .ok e S => match d, e with
    | .int i, .int j => if -(2 ^ 62) ≤ i ∧ i < 2 ^ 62 ∧ -(2 ^ 62) ≤ j ∧ j < 2 ^ 62 then .ok (rng i (j - i).toNat, []) S else .no
    | _, _ => .no
  | .ex x S => .ex x S
  | .no => .no
def kR2 (g : EX) (ρ : Env) : R D → R (List D × Chk)
  | .ok d S => kR3 d (g ρ S)
  | .ex x S => .ex x S
  | .no => .no
def kAny : R D → R (List D × Chk)
  | .ok d S => match d with
    | .ref l => iaC l S (lstC S[l]?)
    | .tup xs => .ok (xs, []) S
    | .str x => .ok (x.cps.toList.map fun c => .str ⟨#[c]⟩, []) S
    | _ => .no
  | .ex x S => .ex x S
  | .no => .no
noncomputable def kLc (vs : List Nat) (g : Cg) (ft : TX) (fe : EX) (ρ : Env) : R (List D × Chk) → R D
  | .ok p S => runC S.length (wipeD ρ vs) g ft fe p.2 p.1 (S ++ [.lst []])
  | .ex x S => .ex x S
  | .no => .no
section
variable {src : IX} {tg : D → SX} {body : SX} {f g : EX} {ρ : Env} {S : Store} {i j : Int} {l : Nat} {xs : List D} {x : Str} {k : Chk} {vs : List Nat} {cg : Cg} {ft : TX} {fe : EX}
theorem sF_ : sF src tg body ρ S = kFor tg body ρ (src ρ S) := by show (src ρ S).out ρ _ = _; cases src ρ S <;> rfl
theorem kFor_ : kFor tg body ρ (.ok (xs, k) S) = runF tg body k xs ρ S := nr rfl
theorem iR1_ : iR1 f ρ S = kR1 (f ρ S) := by show (f ρ S).bind _ = _; cases f ρ S <;> rfl
theorem kR1_ (h0 : -4611686018427387904 ≤ j) (h1 : j < 4611686018427387904) : kR1 (.ok (.int j) S) = .ok (rng 0 j.toNat, []) S := if_pos ⟨h0, h1⟩
theorem iR2_ : iR2 f g ρ S = kR2 g ρ (f ρ S) := by
  show (f ρ S).bind _ = _
  cases f ρ S with
  | ok d S1 =>
    show (g ρ S1).bind _ = kR3 d (g ρ S1)
    cases g ρ S1 <;> rfl
  | _ => rfl
theorem kR2_ {d : D} : kR2 g ρ (.ok d S) = kR3 d (g ρ S) := nr rfl
theorem kR3_ (h0 : -4611686018427387904 ≤ i) (h1 : i < 4611686018427387904) (h2 : -4611686018427387904 ≤ j) (h3 : j < 4611686018427387904) : kR3 (.int i) (.ok (.int j) S) = .ok (rng i (j - i).toNat, []) S := if_pos ⟨h0, h1, h2, h3⟩
theorem iA_ : iA f ρ S = kAny (f ρ S) := by
  show (f ρ S).bind _ = _
  cases f ρ S with
  | ok d S1 =>
    cases d with
    | ref l =>
      show (match lstAt S1 l with | some xs => R.ok (xs, [(l, xs)]) S1 | none => .no) = iaC l S1 (lstC S1[l]?)
      rw [lstAt_C]
      cases lstC S1[l]? <;> rfl
    | _ => rfl
  | _ => rfl
theorem kAny_r : kAny (.ok (.ref l) S) = iaC l S (lstC S[l]?) := nr rfl
theorem kAny_t : kAny (.ok (.tup xs) S) = .ok (xs, []) S := nr rfl
theorem kAny_s : kAny (.ok (.str x) S) = .ok (x.cps.toList.map fun c => .str ⟨#[c]⟩, []) S := nr rfl
theorem iaC_s : iaC l S (some xs) = .ok (xs, [(l, xs)]) S := nr rfl
theorem eLc_ : eLc vs src cg ft fe ρ S = kLc vs cg ft fe ρ (src ρ S) := by show (src ρ S).bind _ = _; cases src ρ S <;> rfl
theorem kLc_ : kLc vs cg ft fe ρ (.ok (xs, k) S) = runC S.length (wipeD ρ vs) cg ft fe k xs (S ++ [.lst []]) := nr rfl
theorem wipeD_c {v : Nat} : wipeD ρ (v :: vs) = (wipeD ρ vs).set v none := nr rfl
theorem wipeD_n : wipeD ρ [] = ρ := nr rfl
theorem tYes_ : tYesD ρ S = .ok true S := nr rfl
theorem put_one {d : D} {m : Nat} : (Cg.one m).put d ρ = some (ρ.set m (some d)) := nr rfl
theorem sAug_ {m : Nat} {gg : D → D → Store → Option (D × Store)} {d : D} (h : ρ[m]? = some (some d)) : sAug m gg f ρ S = kN m ρ (kE2 gg d (f ρ S)) := by
  unfold sAug
  rw [h]
  show (f ρ S).out ρ _ = _
  cases f ρ S with
  | ok y S1 =>
    show (match gg d y S1 with | some (z, S2) => Out.nx (ρ.set m (some z)) S2 | none => .no) = kN m ρ (toR (gg d y S1))
    cases gg d y S1 <;> rfl
  | _ => rfl
theorem gAug_i : gAugAdd (.int i) (.int j) S = some (.int (i + j), S) := nr rfl
theorem sBk_ : sBk ρ S = .bk ρ S := nr rfl
theorem sCt_ : sCt ρ S = .ct ρ S := nr rfl
theorem sW_ {n : Nat} {t : TX} : sW n t body ρ S = runW t body n ρ S := nr rfl
/-- flat cells -/
inductive FL : List Cell → Prop
  | nil : FL []
  | cons {c : Cell} {L : List Cell} (h : c.flat = true) (t : FL L) : FL (c :: L)
end
theorem SOK_FL_wf {n : Nat} {c : Cell} (h : c.flat = true) : Cell.wf n c = true := by
  cases c with
  | lst xs => exact wfs_flat h
  | rol xs => exact wfs_flat h
  | dic kvs => exact wfs_flat h
  | gone => rfl
theorem FL.app : ∀ {L M : List Cell}, FL L → FL M → FL (L ++ M)
  | [], _, _, h => h
  | _ :: _, _, .cons h t, h' => .cons h (FL.app t h')
theorem FL.one {c : Cell} (h : c.flat = true) : FL [c] := .cons h .nil
theorem FL.set : ∀ {L : List Cell} {i : Nat} {c : Cell}, FL L → c.flat = true → FL (L.set i c)
  | [], _, _, _, _ => .nil
  | _ :: _, 0, _, .cons _ t, h => .cons h t
  | _ :: _, i + 1, _, .cons h0 t, h => .cons h0 (FL.set t h)
theorem FL.mem : ∀ {L : List Cell} {c : Cell}, FL L → c ∈ L → c.flat = true
  | _ :: _, _, .cons h t, hc => by
    rcases List.mem_cons.mp hc with rfl | hc
    · exact h
    · exact FL.mem t hc
section
variable {S : Store} {ρ : Env} {g : Cg} {fe : EX} {k : Chk} {ds : List D} {L : List Cell} {m p : Nat} {P : List D}
/-- a comprehension that leaves the store as it is -/
theorem comp_sx (val : D → D) (hz : ds.length ≤ 1000000) (hL : L[m]? = some (.lst [])) (hk : ∀ a, chkOk k (sx S (L.set m (.lst a))))
    (h : ∀ d ∈ ds, ∃ ρ1, g.put d ρ = some ρ1 ∧ ∀ a, fe ρ1 (sx S (L.set m (.lst a))) = .ok (val d) (sx S (L.set m (.lst a)))) :
    runC (S.length + m) ρ g tYesD fe k ds (sx S L) = .ok (.ref (S.length + m)) (sx S (L.set m (.lst (ds.map val)))) := by
  have hm := (List.getElem?_eq_some_iff.mp hL).1
  have e0 : L.set m (.lst []) = L := by
    apply List.ext_getElem?
    intro i
    by_cases e : m = i
    · subst e; rw [List.getElem?_set_self hm, hL]
    · rw [List.getElem?_set_ne e]
  obtain ⟨acc, T, h1, h2, ⟨rfl, rfl⟩, e⟩ := compQ (l := S.length + m) (ρ := ρ) (g := g) (ft := tYesD) (fe := fe) (k := k) (fun j acc T => acc = (ds.take j).map val ∧ T = sx S (L.set m (.lst acc))) (all := ds) hz (fun j d acc T hd ha hT hI => by
    obtain ⟨rfl, rfl⟩ := hI
    obtain ⟨ρ1, q1, q2⟩ := h d (List.mem_of_getElem? hd)
    refine ⟨hk _, ρ1, q1, true, _, rfl, hT, (fun z => nomatch z), fun _ => ⟨_, _, q2 _, hT, ?_, ?_⟩⟩
    · have hj := (List.getElem?_eq_some_iff.mp hd)
      rw [List.take_succ, hd, List.map_append]
      rfl
    · rw [sx_set_k, List.set_set]) (fun acc T hI => by rw [hI.2]; exact hk _) ds 0 [] (sx S L) rfl (Nat.zero_add _) (Nat.le_refl _) (by rw [sx_k]; exact hL) ⟨rfl, by rw [e0]⟩
  rw [e, List.take_length]
theorem comp_sx0 (val : D → D) (hz : ds.length ≤ 1000000) (hk : ∀ a, chkOk k (sx S (.lst a :: L)))
    (h : ∀ d ∈ ds, ∃ ρ1, g.put d ρ = some ρ1 ∧ ∀ a, fe ρ1 (sx S (.lst a :: L)) = .ok (val d) (sx S (.lst a :: L))) :
    runC S.length ρ g tYesD fe k ds (sx S (.lst [] :: L)) = .ok (.ref S.length) (sx S (.lst (ds.map val) :: L)) := comp_sx (m := 0) (L := .lst [] :: L) val hz rfl hk h
end
/-! ### dict displays -/
def dgC (k : Key) : Option Cell → Option D
  | some (.dic kvs) => findK kvs k
  | _ => none
theorem gDget_r {S : Store} {l : Nat} {s : Str} : gDget (.ref l) (.str s) S = ixO S (dgC (.inr s) S[l]?) := by
  show (match S[l]?, keyD (.str s) with | some (.dic kvs), some k => (findK kvs k).map fun d => (d, S) | _, _ => none) = _
  cases S[l]? with
  | none => rfl
  | some c =>
    cases c with
    | dic kvs =>
      show (findK kvs (.inr s)).map (fun d => (d, S)) = ixO S (findK kvs (.inr s))
      cases findK kvs (.inr s) <;> rfl
    | _ => rfl
theorem dgC_s {k : Key} {kvs : List (Key × D)} : dgC k (some (.dic kvs)) = findK kvs k := nr rfl
/-- a display of constants -/
theorem eDct_c {L : List (Key × EX)} {ds : List D} {ρ : Env} {S : Store} (h : aL L ρ (S ++ [.dic []]) = .ok ds (S ++ [.dic []])) (hL : L.length ≤ 15 ∧ (L.map (·.1)).Nodup) : eDct L ρ S = .ok (.ref S.length) (S ++ [.dic ((L.map (·.1)).zip ds)]) := by
  unfold eDct
  rw [h]
  simp only [R.bind_ok, get_end]
  rw [if_pos hL, set_end]
end Dl

set_option Elab.async false
set_option linter.all false
set_option maxRecDepth 100000
namespace Dl
open PySem L2
/-! ## a call of a def that a name holds -/
def heldF (a : Addr) : List (Addr × (List D → M D)) → Option (List D → M D)
  | [] => none
  | p :: r => if p.1 = a then some p.2 else heldF a r
/-- the def that stands in the i-th slot, called -/
def eFv (i : Nat) (cs : List (Addr × (List D → M D))) (fx : AX) : EX := fun ρ S => match ρ[i]? with
  | some (some (.raw (.ref a))) => match heldF a cs with
    | some F => (fx ρ S).bind fun xs S1 => F xs S1
    | none => .no
  | _ => .no
theorem heldF_mem {a : Addr} : ∀ {cs : List (Addr × (List D → M D))} {F : List D → M D}, heldF a cs = some F → (a, F) ∈ cs
  | [], _, h => nomatch h
  | p :: r, F, h => by
    unfold heldF at h
    split at h
    · rename_i e
      cases h
      rw [← e]
      exact List.mem_cons_self ..
    · exact List.mem_cons_of_mem _ (heldF_mem h)
section
variable {X : Cx} {W : WX} {e : Expr} {es : List Expr} {fx : AX} {pos p : Pos} {CX : CXT} {k i : Nat} {x : Str}
theorem d_callV {cs : List (Addr × (List D → M D))} (C : ∀ q ∈ cs, ∃ fd ps, FnOk X.prog X.w X.K X.mg X.base CX k q.1 fd ps (rdF ⟨X.K, X.mg, W0⟩ q.2) ∧ PySem.W.keepIn X.K (.ref q.1) = true ∧ Binds X.K fd ps []) (hr : Room k X.A)
    (hx : ∀ σ, PassesAt CX X σ (WE W σ)) (ha : PA X (e :: es) (rdA (X.cq W) fx)) (hN : X.N[i]? = some x := by rfl) (hv : Vis X.env.scope x := by first | exact Or.inl rfl | exact Or.inr (Or.inl rfl) | exact Or.inr (Or.inr rfl))
    (hdb : (x == ("__debug__" : Str)) = false := by decide) (hcd : (x == ("__classdict__" : Str)) = false := by decide)
    (he : starEach (e :: es) X.env = (false, eval e X.env) :: starEach es X.env := by rfl) (hpl : (backTo pos (starEach es X.env)).any (·.1) = false := by rfl) :
    PE X (.Call (.Name x p) (e :: es) [] pos) (rdE (X.cq W) (eFv i cs fx)) := by
  refine ⟨fun pins s σ H Q I ⟨m, ρ, S, re, rs, h⟩ => ?_⟩
  unfold eFv at h
  split at h
  · rename_i a er
    split at h
    · rename_i F eF
      obtain ⟨fd, ps, G, hk, hb⟩ := C _ (heldF_mem eF)
      obtain ⟨v, hs, rd⟩ := re.at_ er
      cases rd
      refine wpAny_Call_Name_kw (thn ((pe_var (pos := p) hN hv hdb hcd).run pins s σ H (fun v H1 => v = .ref a ∧ H1 = H) I ⟨.ref a, hs, rfl, rfl⟩) fun u s1 ⟨v, H1, I1, r1, q1⟩ => ?_)
      obtain ⟨q1, q2⟩ := q1
      subst q1 q2
      cases r1
      refine PySem.W.callWith_K (h₀ := X.base) I.ok.mod.kin hk (thn (ha.run pos pins s1 σ _ (fun vs H2 => rdF ⟨X.K, X.mg, W0⟩ F vs H2 Q (WE W σ)) I1 ⟨m, ρ, S, re, rs, (Post.bind h).imp fun vs H2 ⟨m2, xs, S2, e2, rs2, rds, h2⟩ => ⟨m2, xs, S2, rds, rs2, by
        cases er2 : F xs S2 with
        | ok d S3 => rw [er2] at h2; exact h2
        | ex ex S3 => rw [er2] at h2; exact h2
        | no => rw [er2] at h2; exact h2⟩⟩) fun us s2 ⟨vs, H2, I2, r, q⟩ => ⟨I2.kIn, run_fnS G hr hb (hx σ) I2 r q⟩) he hpl
    · exact h.elim
  · exact h.elim
end
/-! ## max of a list -/
def maxL : List Int → Int
  | [] => 0
  | [x] => x
  | x :: y :: r => if maxL (y :: r) < x then x else maxL (y :: r)
theorem maxL_mem : ∀ {xs : List Int}, xs ≠ [] → maxL xs ∈ xs
  | [], h => absurd rfl h
  | [x], _ => List.mem_cons_self ..
  | x :: y :: r, _ => by
    unfold maxL
    split
    · exact List.mem_cons_self ..
    · exact List.mem_cons_of_mem _ (maxL_mem (by simp))
theorem maxL_le : ∀ {xs : List Int} {y : Int}, y ∈ xs → y ≤ maxL xs
  | [x], y, h => by rw [List.mem_singleton.mp h]; exact Int.le_refl _
  | x :: z :: r, y, h => by
    unfold maxL
    have q : ∀ {w : Int}, w ∈ z :: r → w ≤ maxL (z :: r) := fun h => maxL_le h
    rcases List.mem_cons.mp h with e | h
    · subst e
      split <;> omega
    · have := q h
      split <;> omega
def gMaxL : List D → Store → Option (D × Store)
  | [.ref l], S => match (lstAt S l).bind intsD with
    | some (x :: r) => some (.int (maxL (x :: r)), S)
    | _ => none
  | _, _ => none
theorem ints_rdA {K : PySem.W.Frag} {m : List Addr} {H : Hp} : ∀ {xs : List D} {vs : List V} {ns : List Int}, RDs K m H vs xs → intsD xs = some ns → vs = ns.map V.int
  | [], _, _, r, h => by cases r; cases h; rfl
  | .int i :: r, _, ns, rr, h => by
    cases rr with
    | cons h1 h2 =>
      cases h1
      have h : (intsD r).map (i :: ·) = some ns := h
      cases e : intsD r with
      | none => rw [e] at h; cases h
      | some cs =>
        rw [e] at h
        cases h
        rw [ints_rdA h2 e]
        rfl
  | .non :: _, _, _, _, h => nomatch h
  | .bl _ :: _, _, _, _, h => nomatch h
  | .str _ :: _, _, _, _, h => nomatch h
  | .tup _ :: _, _, _, _, h => nomatch h
  | .ref _ :: _, _, _, _, h => nomatch h
  | .raw _ :: _, _, _, _, h => nomatch h
section
variable {X : Cx}
theorem c_maxL (hc : X.calm = true) : CallR X (.builtin "max") (rdC X.K gMaxL) := by
  intro pins s σ H vs us Q I r ⟨m, xs, S, hx, rs, h⟩
  unfold gMaxL at h
  split at h
  · rename_i l
    split at h
    · rename_i x ns e0
      cases e1 : lstAt S l with
      | none => rw [e1] at e0; exact nomatch e0
      | some ys =>
        rw [e1] at e0
        have e2 : intsD ys = some (x :: ns) := e0
        cases hx with
        | cons h1 h2 =>
          cases h2
          cases h1 with
          | ref hl =>
            obtain ⟨ws, hq, rd⟩ := rs.lst hl e1
            have ew := ints_rdA rd e2
            subst ew
            refine cr_max hc pins s σ H _ us Q I r ⟨_, x :: ns, rfl, hq, by rw [List.length_cons]; omega, fun mm h1 h2 => ?_⟩
            have e3 : mm = maxL (x :: ns) := Int.le_antisymm (maxL_le h1) (h2 _ (maxL_mem (by simp)))
            subst e3
            exact h _ _ m .refl rs (.int _)
    · exact h.elim
  · exact h.elim
end
/-! ## a list, times -/
def gRep : D → D → Store → Option (D × Store)
  | .ref l, .int k, S => match S[l]? with
    | some (.lst xs) => if -(2 ^ 63) ≤ k ∧ k < 2 ^ 63 ∧ xs.length * k.toNat ≤ LIM then some (.ref S.length, S ++ [.lst (List.replicate k.toNat xs).flatten]) else none
    | _ => none
  | _, _, _ => none
theorem RDs.rep {K : PySem.W.Frag} {m : List Addr} {H : Hp} {vs : List V} {ds : List D} (r : RDs K m H vs ds) : ∀ n : Nat, RDs K m H (List.replicate n vs).flatten (List.replicate n ds).flatten
  | 0 => .nil
  | n + 1 => by
    rw [List.replicate_succ, List.replicate_succ, List.flatten_cons, List.flatten_cons]
    exact r.append (RDs.rep r n)
theorem o_rep {X : Cx} : OpR X (binaryOp .Mult) (rd2 X.K gRep) := by
  intro pins s σ H v u vv uu Q I rv ru ⟨m, x, y, S, hx, hy, rs, h⟩
  unfold gRep at h
  split at h
  · rename_i l k
    split at h
    · rename_i xs e
      split at h
      · rename_i hc
        obtain ⟨c1, c2, c3⟩ := hc
        cases hx with
        | ref hl =>
          cases hy
          obtain ⟨ws, h1, r1⟩ := rs.wlst hl e
          exact op_rep pins s σ H _ _ vv uu Q I rv ru ⟨_, k, ws, rfl, rfl, h1, c1, c2, by rw [r1.length, ← lim_eq]; exact c3, fun p hp => vp_lst rs hp (r1.rep k.toNat) h⟩
      · exact h.elim
    · exact h.elim
  · exact h.elim
/-! ## // by a large number -/
def gFdivW : D → D → Store → Option (D × Store)
  | .int i, .int j, S => if 0 < j ∧ j.natAbs.log2 < 9000 then some (.int (i / j), S) else none
  | _, _, _ => none
theorem o_fdivW {X : Cx} : OpR X (binaryOp .FloorDiv) (rd2 X.K gFdivW) :=
  o_int (C := fun _ j => 0 < j ∧ j.natAbs.log2 < 9000) (g := fun i j => i / j) op_fdivW (fun i j H Q c q => ⟨i, j, rfl, rfl, c, q⟩) fun x y S => by cases x <;> cases y <;> rfl
/-! ## == with a wide bound -/
def gEqBW (lim : Nat) (x y : D) (S : Store) : Option Bool := match asP S x, asP S y with
  | some p, some q => if p.depth ≤ lim then some (PyData.eqv p q) else none
  | _, _ => none
def gEqW (lim : Nat) (x y : D) (S : Store) : Option (D × Store) := (gEqBW lim x y S).map fun b => (.bl b, S)
def gNeW (lim : Nat) (x y : D) (S : Store) : Option (D × Store) := (gEqBW lim x y S).map fun b => (.bl (!b), S)
section
variable {X : Cx}
theorem o_eqBW {lim : Nat} {op : CmpOp} {f : Bool → Bool} {g : D → D → Store → Option (D × Store)} (hg : ∀ x y S, g x y S = (gEqBW lim x y S).map fun b => (.bl (f b), S))
    (rule : ∀ {s : Shared} {a b : Value} {da db : PyData} {as bs : List Addr} {Q E : Value → Shared → Prop}, Reads s.heap a da as → Reads s.heap b db bs → da.plain = true → db.plain = true → X.A.units + min da.depth db.depth < cLine →
      Q (.bool (f (PyData.eqv da db))) s → wpAny (model X.prog X.w) X.A (compareOp op a b) Q E s) (hu : X.A.units + lim < cLine) : OpR X (compareOp op) (rd2 X.K g) := by
  intro pins s σ H v u vv uu Q I rv ru ⟨m, x, y, S, hx, hy, rs, h⟩
  rw [hg] at h
  unfold gEqBW at h
  split at h
  · rename_i p q e1 e2
    split at h
    · rename_i hd
      obtain ⟨d1, p1⟩ := asP_of rs hx e1
      obtain ⟨d2, p2⟩ := asP_of rs hy e2
      obtain ⟨as, r1⟩ := Dp.reads I _ _ _ d1 rv
      obtain ⟨bs, r2⟩ := Dp.reads I _ _ _ d2 ru
      have hm : min p.depth q.depth ≤ p.depth := Nat.min_le_left _ _
      exact rule r1 r2 p1 p2 (by omega) ⟨.bl _, H, I, rfl, h _ _ m .refl rs (.bl _)⟩
    · exact h.elim
  · exact h.elim
theorem o_eqW {lim : Nat} (hu : X.A.units + lim < cLine) : OpR X (compareOp .Eq) (rd2 X.K (gEqW lim)) := o_eqBW (f := fun b => b) (fun _ _ _ => rfl) PySem.SeqAt.eq_plain hu
theorem o_neW {lim : Nat} (hu : X.A.units + lim < cLine) : OpR X (compareOp .NotEq) (rd2 X.K (gNeW lim)) := o_eqBW (f := fun b => !b) (fun _ _ _ => rfl) PySem.SeqAt.ne_plain hu
end
theorem rW {k : Nat} {A : Around} (r : Room k A) : A.units + (199 + 16 * k) < cLine := by have := r.un; omega
theorem gEqBW_flat {lim : Nat} {x y : D} {S : Store} (hx : x.flat = true) (hy : y.flat = true) (hd : x.dep ≤ lim) : gEqBW lim x y S = some (deq x y) := by
  unfold gEqBW
  rw [asP_flat hx, asP_flat hy]
  show (if (toPy x).depth ≤ lim then some (PyData.eqv (toPy x) (toPy y)) else none) = _
  rw [depth_toPy, if_pos hd, eqv_toPy x y hx hy]
theorem gEqW_flat {lim : Nat} {x y : D} {S : Store} (hx : x.flat = true) (hy : y.flat = true) (hd : x.dep ≤ lim) : gEqW lim x y S = some (.bl (deq x y), S) := by unfold gEqW; rw [gEqBW_flat hx hy hd]; rfl
theorem gNeW_flat {lim : Nat} {x y : D} {S : Store} (hx : x.flat = true) (hy : y.flat = true) (hd : x.dep ≤ lim) : gNeW lim x y S = some (.bl (!deq x y), S) := by unfold gNeW; rw [gEqBW_flat hx hy hd]; rfl
/-! ## dicts: d[k] = v, d.get(k, z) -/
def putD (kvs : List (Key × D)) (k : Key) (d : D) : List (Key × D) :=
  if (kvs.any fun kv => decide (kv.1 = k)) = true then kvs.map (fun kv => if kv.1 = k then (kv.1, d) else kv) else kvs ++ [(k, d)]
def gSetX : D → D → D → Store → Option Store
  | .ref l, y, d, S => match S[l]?, y with
    | some (.lst xs), .int k => (ixN xs.length k).map fun j => S.set l (.lst (xs.set j d))
    | some (.dic kvs), y => (keyD y).bind fun k => if kvs.length < LIM then some (S.set l (.dic (putD kvs k d))) else none
    | _, _ => none
  | _, _, _, _ => none
theorem any_key {k : Key} : ∀ {ws : List (Key × V)} {kvs : List (Key × D)}, ws.map (·.1) = kvs.map (·.1) → (ws.any fun kv => decide (kv.1 = k)) = kvs.any fun kv => decide (kv.1 = k)
  | [], [], _ => rfl
  | [], _ :: _, h => nomatch h
  | _ :: _, [], h => nomatch h
  | (a, v) :: ws, (b, d) :: kvs, h => by
    have h1 : a = b := (List.cons.inj h).1
    subst h1
    rw [List.any_cons, List.any_cons, any_key (List.cons.inj h).2]
theorem put_keys {k : Key} {v : V} {d : D} {ws : List (Key × V)} {kvs : List (Key × D)} (h : ws.map (·.1) = kvs.map (·.1)) : (putK ws k v).map (·.1) = (putD kvs k d).map (·.1) := by
  unfold putK putD
  rw [any_key h]
  split
  · rw [List.map_map, List.map_map]
    have e1 : ws.map ((·.1) ∘ fun kv : Key × V => if kv.1 = k then (kv.1, v) else kv) = ws.map (·.1) := List.map_congr_left fun q _ => by
      show (if q.1 = k then (q.1, v) else q).1 = q.1
      split <;> rfl
    have e2 : kvs.map ((·.1) ∘ fun kv : Key × D => if kv.1 = k then (kv.1, d) else kv) = kvs.map (·.1) := List.map_congr_left fun q _ => by
      show (if q.1 = k then (q.1, d) else q).1 = q.1
      split <;> rfl
    rw [e1, e2, h]
  · rw [List.map_append, List.map_append, h]
    rfl
theorem put_vals {K : PySem.W.Frag} {m : List Addr} {H : Hp} {k : Key} {v : V} {d : D} (hv : RD K m H v d) : ∀ {ws : List (Key × V)} {kvs : List (Key × D)}, ws.map (·.1) = kvs.map (·.1) → RDs K m H (ws.map (·.2)) (kvs.map (·.2)) →
    RDs K m H ((ws.map fun kv => if kv.1 = k then (kv.1, v) else kv).map (·.2)) ((kvs.map fun kv => if kv.1 = k then (kv.1, d) else kv).map (·.2))
  | [], [], _, _ => .nil
  | [], _ :: _, h, _ => nomatch h
  | _ :: _, [], h, _ => nomatch h
  | (a, w) :: ws, (b, e) :: kvs, h, r => by
    have h1 : a = b := (List.cons.inj h).1
    subst h1
    cases r with
    | cons r1 r2 =>
      have ih := put_vals (k := k) hv (List.cons.inj h).2 r2
      by_cases z : a = k
      · simp only [List.map_cons, z, if_true]
        subst z
        exact .cons hv ih
      · simp only [List.map_cons, if_neg z]
        exact .cons r1 ih
theorem put_rd {K : PySem.W.Frag} {m : List Addr} {H : Hp} {k : Key} {v : V} {d : D} {ws : List (Key × V)} {kvs : List (Key × D)} (hv : RD K m H v d) (h : ws.map (·.1) = kvs.map (·.1)) (r : RDs K m H (ws.map (·.2)) (kvs.map (·.2))) :
    RDs K m H ((putK ws k v).map (·.2)) ((putD kvs k d).map (·.2)) := by
  unfold putK putD
  rw [any_key h]
  split
  · exact put_vals hv h r
  · rw [List.map_append, List.map_append]
    exact r.append (.one hv)
section
variable {X : Cx}
theorem p_setX (hu : X.A.units + 1 < cLine) : PSet X (rdSet X.K gSetX) := by
  intro pins s σ H o i v ov iv u Q I ro ri rv ⟨m, x, y, z, S, hx, hy, hz, rs, h⟩
  cases x with
  | ref l =>
    cases e : S[l]? with
    | none => unfold gSetX at h; simp only [e] at h
    | some c =>
      cases c with
      | lst xs =>
        cases y with
        | int k => exact p_set pins s σ H o i v ov iv u Q I ro ri rv ⟨m, .ref l, .int k, z, S, hx, hy, hz, rs, by unfold gSetX at h; simp only [e] at h; unfold gSet; simp only [e]; exact h⟩
        | _ => unfold gSetX at h; simp only [e] at h
      | dic kvs =>
        unfold gSetX at h
        simp only [e] at h
        cases ek : keyD y with
        | none => rw [ek] at h; exact h.elim
        | some k =>
          rw [ek] at h
          simp only [Option.bind_some] at h
          by_cases hc : kvs.length < LIM
          · rw [if_pos hc] at h
            cases hx with
            | ref hl =>
              obtain ⟨ws, g1, g2, g3⟩ := rs.at_ hl e
              have ei := key_rd hy ek
              subst ei
              have hw : ws.length = kvs.length := by have := congrArg List.length g2; rwa [List.length_map, List.length_map] at this
              refine set_dict hu pins s σ H _ _ v ov iv u Q I ro ri rv ⟨_, _, rfl, DPut.k g1 (by rw [hw, ← lim_eq]; exact hc), ?_⟩
              obtain ⟨ex, rs'⟩ := rs.write (o := .dK (putK ws k v)) (c' := .dic (putD kvs k z)) hl e rfl rfl fun ex => ⟨_, upd_same, put_keys g2, put_rd (hz.mono ex) g2 (g3.mono ex)⟩
              exact h _ _ ex rs'
          · rw [if_neg hc] at h; exact h.elim
      | _ => unfold gSetX at h; simp only [e] at h
  | _ => exact h.elim
/-- o[i] = .., a list or a dict -/
def tgIxX (fo fi : EX) : D → SX := fun d ρ S => (fo ρ S).out ρ fun o S1 => (fi ρ S1).out ρ fun i S2 => match gSetX o i d S2 with
  | some S3 => .nx ρ S3
  | none => .no
variable {W : WX} {o i e f : Expr} {fo fi fe ff : EX} {pos apos cpos : Pos}
theorem g_ixX (hu : X.A.units + 1 < cLine) (ho : PE X o (rdE (X.cq W) fo)) (hi : PE X i (rdE (X.cq W) fi))
    (ha : ∀ v, assign (.Subscript o i pos) X.env v = (do
      let ov ← holding [v] (eval o X.env)
      let iv ← holding [v, ov] (eval i X.env)
      standAt pos
      holding [v, ov, iv] (setItem ov iv v)
      release [v, ov, iv] []) := by intro _; rfl) : PG X (.Subscript o i pos) (rdG (X.cq W) (tgIxX fo fi)) := PGwk (pg_sub ho hi (p_setX hu) ha) fun v σ H Q ⟨m, ρ, S, d, re, rs, rd, q⟩ =>
  ⟨m, ρ, S, re, rs, (Post.out re q).imp fun vo H1 ⟨m1, x, S1, e1, rs1, rx, re1, q1⟩ => ⟨m1, ρ, S1, re1, rs1, (Post.out re1 q1).imp fun vi H2 ⟨m2, y, S2, e2, rs2, ry, re2, q2⟩ => by
    refine ⟨m2, x, y, d, S2, rx.mono e2, ry, (rd.mono e1).mono e2, rs2, ?_⟩
    cases eg : gSetX x y d S2 with
    | none => rw [eg] at q2; exact q2.elim
    | some S3 =>
      rw [eg] at q2
      exact fun H3 m3 e3 rs3 => q2 σ H3 m3 e3 (re2.mono e3) rs3⟩⟩
/-- d.get(k, z) -/
def gGetD (x y z : D) (S : Store) : Option (D × Store) := match x with
  | .ref l => match S[l]?, keyD y with
    | some (.dic kvs), some k => some ((findK kvs k).getD z, S)
    | _, _ => none
  | _ => none
def isDic (S : Store) (x : D) : Bool := match x with
  | .ref l => match S[l]? with
    | some (.dic _) => true
    | _ => false
  | _ => false
def eGetD (fo fe ff : EX) : EX := fun ρ S => (fo ρ S).bind fun x S1 => if isDic S1 x then (fe ρ S1).bind fun y S2 => (ff ρ S2).bind fun z S3 => toR (gGetD x y z S3) else .no
theorem find_get {K : PySem.W.Frag} {m : List Addr} {H : Hp} {k : Key} {z : V} {d : D} (hz : RD K m H z d) : ∀ {kvs : List (Key × D)} {ws : List (Key × V)}, ws.map (·.1) = kvs.map (·.1) → RDs K m H (ws.map (·.2)) (kvs.map (·.2)) → RD K m H ((valV ws k).getD z) ((findK kvs k).getD d)
  | [], [], _, _ => hz
  | (k1, d1) :: kvs, [], e, _ => nomatch e
  | [], _ :: _, e, _ => nomatch e
  | (k1, d1) :: kvs, (k2, v2) :: ws, e, r => by
    cases r with
    | cons rh rt =>
      have e1 : k2 = k1 := (List.cons.inj e).1
      subst e1
      by_cases z : k2 = k
      · rw [valV_pos (show (k2, v2).1 = k from z)]
        unfold findK
        rw [List.find?_cons_of_pos (by simpa using z)]
        exact rh
      · rw [valV_neg (show ¬ (k2, v2).1 = k from z)]
        unfold findK
        rw [List.find?_cons_of_neg (by simpa using z)]
        exact find_get hz (List.cons.inj e).2 rt
theorem d_getD (hu : X.A.units + 1 < cLine) (ho : PE X o (rdE (X.cq W) fo)) (he : PE X e (rdE (X.cq W) fe)) (hf : PE X f (rdE (X.cq W) ff)) (m2 : M2 X o "get" apos e f cpos) : PE X (.Call (.Attribute o "get" apos) [e, f] [] cpos) (rdE (X.cq W) (eGetD fo fe ff)) :=
  PEwk (pe_dget2 hu ho he hf m2) fun σ H Q ⟨m, ρ, S, re, rs, h⟩ =>
  ⟨m, ρ, S, re, rs, (Post.bind h).imp fun v H1 ⟨m1, x, S1, e1, rs1, rd, h1⟩ => by
    have re1 := re.mono e1
    by_cases hd : isDic S1 x = true
    · rw [if_pos hd] at h1
      unfold isDic at hd
      split at hd
      · rename_i l
        split at hd
        · rename_i kvs es
          cases rd with
          | ref hl =>
            obtain ⟨ws, g1, g2, g3⟩ := rs1.at_ hl es
            refine ⟨_, rfl, .inl ⟨ws, .inl g1⟩, m1, ρ, S1, re1, rs1, (Post.bind h1).imp fun u H2 ⟨m2, y, S2, e2, rs2, rd2, h2⟩ => ⟨m2, ρ, S2, re1.mono e2, rs2, (Post.bind h2).imp fun w H3 ⟨m3, z, S3, e3, rs3, rd3, h3⟩ => ?_⟩⟩
            have h3 : VPost X.K m3 H3 Q (gGetD (.ref l) y z S3) := VPost.of h3
            unfold gGetD at h3
            simp only at h3
            split at h3
            · rename_i kvs' k es' ek
              obtain ⟨ws', g1', g2', g3'⟩ := rs3.at_ ((e2.trans e3).at hl) es'
              have eu := key_rd (rd2.mono e3) ek
              subst eu
              exact ⟨_, DGet.k g1', h3 _ _ m3 .refl rs3 (find_get rd3 g2' g3')⟩
            · exact h3.elim
        · cases hd
      · cases hd
    · rw [if_neg hd] at h1
      exact h1.elim⟩
end
/-- two defs of unlike names stand at unlike places -/
theorem fn_ne {K : PySem.W.Frag} {a b : Addr} {oc oc' : Value} {od od' : Option Addr} {sl sl' : Array (Option Value)} {x y q q' : Str} {ar ar' : Arguments} {bo bo' : List Stmt} {sc sc' : Scope} {d1 d2 d3 d4 d5 d6 e1 e2 e3 e4 e5 e6 : Value} {an an' : Option Addr}
    (h1 : K.lookup a = some ⟨oc, od, .func (PySem.W.fnOf x q ar bo sc d1 d2 d3 d4 an d5 d6), sl⟩) (h2 : K.lookup b = some ⟨oc', od', .func (PySem.W.fnOf y q' ar' bo' sc' e1 e2 e3 e4 an' e5 e6), sl'⟩) (h : x ≠ y) : a ≠ b := fun e => by
  subst e
  have q := h1.symm.trans h2
  injection q with q
  injection q with _ _ q _
  injection q with q
  exact h (congrArg FuncData.name q)
/-! ## {}; a, b = x, y -/
def eD0 : EX := fun _ S => .ok (.ref S.length) (S ++ [.dic []])
def sPar (i j : Nat) (fx : AX) : SX := fun ρ S => (fx ρ S).out ρ fun xs S1 => match xs with
  | [d, e] => .nx ((ρ.set i (some d)).set j (some e)) S1
  | _ => .no
section
variable {X : Cx} {W : WX} {pos px py pt pt2 : Pos} {kt k2 i j : Nat} {x y : Str} {a b : Expr} {fx : AX}
theorem d_d0 : PE X (.Dict [] [] pos) (rdE (X.cq W) eD0) := PEwk pe_dnewK fun σ H Q ⟨m, ρ, S, re, rs, h⟩ p hp => by
  obtain ⟨e1, rs1⟩ := rs.push (o := .dK []) (c := .dic []) hp fun m' e' => ⟨[], upd_same, rfl, .nil⟩
  refine h _ _ _ e1 rs1 (.ref ?_)
  rw [← rs.len, List.getElem?_append_right (Nat.le_refl _), Nat.sub_self]
  rfl
theorem t_par (hc : X.calm = true) (hN : X.N.Nodup) (ha : PA X [a, b] (rdA (X.cq W) fx)) (hi : X.N[i]? = some x := by rfl) (hj : X.N[j]? = some y := by rfl) (hij : i ≠ j := by decide)
    (hx : X.env.scope.names.lookup x = some .local := by rfl) (hy : X.env.scope.names.lookup y = some .local := by rfl)
    (hw : swappedStores [.Tuple [.Name x px, .Name y py] kt pt] (.Tuple [a, b] k2 pt2) X.env = pure (some [x, y]) := by rfl)
    (hs : swapsWithSole [.Tuple [.Name x px, .Name y py] kt pt] (.Tuple [a, b] k2 pt2) pos.line X.env = pure false := by rfl) :
    PS X (.Assign [.Tuple [.Name x px, .Name y py] kt pt] (.Tuple [a, b] k2 pt2) pos) (rdS (X.cq W) (sPar i j fx)) := PSwk (ps_par hc hN hi hj hij hx hy ha hw hs) fun Dn σ H ⟨m, ρ, S, re, rs, q⟩ =>
  ⟨m, ρ, S, re, rs, (Post.out (rel := relDs (X.cq W)) re q).imp fun vs H1 ⟨m1, xs, S1, e1, rs1, rds, re1, q1⟩ => by
    cases rds with
    | nil => exact q1.elim
    | cons h1 t =>
      cases t with
      | nil => exact q1.elim
      | cons h2 t =>
        cases t with
        | nil => exact ⟨_, _, rfl, q1 _ _ m1 .refl ((re1.set h1 i).set h2 j) rs1⟩
        | cons _ _ => exact q1.elim⟩
end
end Dl

set_option Elab.async false
set_option linter.all false
set_option maxRecDepth 100000
namespace Dl
open PySem L2
/-! ## DlAA's forms, evaluated -/
def kX3 (ρ : Env) : Option Store → Out
  | some S => .nx ρ S
  | none => .no
def kX2 (o d : D) (ρ : Env) : R D → Out
  | .ok i S => kX3 ρ (gSetX o i d S)
  | .ex x S => .ex x ρ S
  | .no => .no
def kX1 (f : EX) (d : D) (ρ : Env) : R D → Out
  | .ok o S => kX2 o d ρ (f ρ S)
  | .ex x S => .ex x ρ S
  | .no => .no
def setX (l : Nat) (y d : D) (S : Store) : Option Cell → Option Store
  | some (.lst xs) => match y with
    | .int k => (ixN xs.length k).map fun j => S.set l (.lst (xs.set j d))
    | _ => none
  | some (.dic kvs) => (keyD y).bind fun k => if kvs.length < LIM then some (S.set l (.dic (putD kvs k d))) else none
  | _ => none
def kPar (i j : Nat) (ρ : Env) : R (List D) → Out
  | .ok xs S => match xs with
    | [d, e] => .nx ((ρ.set i (some d)).set j (some e)) S
    | _ => .no
  | .ex x S => .ex x ρ S
  | .no => .no
def kFv (cs : List (Addr × (List D → M D))) (r : R (List D)) : Option (Option D) → R D
  | some (some (.raw (.ref a))) => match heldF a cs with
    | some F => r.bind fun xs S1 => F xs S1
    | none => .no
  | _ => .no
def kG3 (x y : D) : R D → R D
  | .ok z S => toR (gGetD x y z S)
  | .ex x S => .ex x S
  | .no => .no
def kG2 (x : D) (ff : EX) (ρ : Env) : R D → R D
  | .ok y S => kG3 x y (ff ρ S)
  | .ex x S => .ex x S
  | .no => .no
def kG1b (x : D) (fe ff : EX) (ρ : Env) (S : Store) (b : Bool) : R D := if b then kG2 x ff ρ (fe ρ S) else .no
def kG1 (fe ff : EX) (ρ : Env) : R D → R D
  | .ok x S => kG1b x fe ff ρ S (isDic S x)
  | .ex x S => .ex x S
  | .no => .no
def isDC : Option Cell → Bool
  | some (.dic _) => true
  | _ => false
def getC (y z : D) (S : Store) : Option Cell → Option (D × Store)
  | some (.dic kvs) => match keyD y with
    | some k => some ((findK kvs k).getD z, S)
    | none => none
  | _ => none
def maxC (S : Store) : Option (List Int) → Option (D × Store)
  | some (x :: r) => some (.int (maxL (x :: r)), S)
  | _ => none
def repC (k : Int) (S : Store) : Option Cell → Option (D × Store)
  | some (.lst xs) => if -(2 ^ 63) ≤ k ∧ k < 2 ^ 63 ∧ xs.length * k.toNat ≤ LIM then some (.ref S.length, S ++ [.lst (List.replicate k.toNat xs).flatten]) else none
  | _ => none
section
variable {ρ : Env} {S : Store} {f g fe ff : EX} {fx : AX} {d y z e x : D} {l i j : Nat} {k : Int} {xs : List D} {a : Addr} {kvs : List (Key × D)} {s : Str}
theorem tgIxX_ : tgIxX f g d ρ S = kX1 g d ρ (f ρ S) := by
  show (f ρ S).out ρ _ = _
  cases f ρ S with
  | ok o S1 =>
    show (g ρ S1).out ρ _ = kX2 o d ρ (g ρ S1)
    cases g ρ S1 with
    | ok i S2 =>
      show (match gSetX o i d S2 with | some S3 => Out.nx ρ S3 | none => .no) = kX3 ρ (gSetX o i d S2)
      cases gSetX o i d S2 <;> rfl
    | _ => rfl
  | _ => rfl
theorem kX1_ : kX1 g d ρ (.ok x S) = kX2 x d ρ (g ρ S) := nr rfl
theorem kX2_ : kX2 x d ρ (.ok y S) = kX3 ρ (gSetX x y d S) := nr rfl
theorem kX3_ : kX3 ρ (some S) = .nx ρ S := nr rfl
theorem gSetX_r : gSetX (.ref l) y d S = setX l y d S S[l]? := by
  cases e : S[l]? with
  | none => unfold gSetX setX; simp only [e]
  | some c =>
    cases c with
    | lst xs => cases y <;> (unfold gSetX setX; simp only [e])
    | _ => unfold gSetX setX; simp only [e]
theorem setX_0 {a : D} : setX l (.int 0) d S (some (.lst (a :: xs))) = some (S.set l (.lst (d :: xs))) := by
  have h : ixN (a :: xs).length 0 = some 0 := by unfold ixN; rw [if_pos (by decide), if_pos (by rw [List.length_cons]; omega)]; rfl
  show (ixN (a :: xs).length 0).map _ = _
  rw [h]
  rfl
theorem setX_2 {a b c : D} : setX l (.int 2) d S (some (.lst (a :: b :: c :: xs))) = some (S.set l (.lst (a :: b :: d :: xs))) := by
  have h : ixN (a :: b :: c :: xs).length 2 = some 2 := by unfold ixN; rw [if_pos (by decide), if_pos (by rw [List.length_cons, List.length_cons, List.length_cons]; omega)]; rfl
  show (ixN (a :: b :: c :: xs).length 2).map _ = _
  rw [h]
  rfl
theorem setX_l {m : Nat} (h : ixN xs.length k = some m) : setX l (.int k) d S (some (.lst xs)) = some (S.set l (.lst (xs.set m d))) := by
  show (ixN xs.length k).map _ = _
  rw [h]
  rfl
theorem setX_s (h : kvs.length < 16777216) : setX l (.str s) d S (some (.dic kvs)) = some (S.set l (.dic (putD kvs (.inr s) d))) := if_pos h
theorem sPar_ : sPar i j fx ρ S = kPar i j ρ (fx ρ S) := by
  show (fx ρ S).out ρ _ = _
  cases fx ρ S <;> rfl
theorem kPar_ : kPar i j ρ (.ok [d, e] S) = .nx ((ρ.set i (some d)).set j (some e)) S := nr rfl
theorem eFv_ {cs : List (Addr × (List D → M D))} : eFv i cs fx ρ S = kFv cs (fx ρ S) ρ[i]? := by
  unfold eFv kFv
  rfl
theorem kFv_ {cs : List (Addr × (List D → M D))} {F : List D → M D} (h : heldF a cs = some F) : kFv cs (.ok xs S) (some (some (.raw (.ref a)))) = F xs S := by
  show (match heldF a cs with | some F => F xs S | none => .no) = _
  rw [h]
theorem eGetD_ : eGetD f fe ff ρ S = kG1 fe ff ρ (f ρ S) := by
  show (f ρ S).bind _ = _
  cases f ρ S with
  | ok x S1 =>
    show (if isDic S1 x then (fe ρ S1).bind _ else .no) = kG1b x fe ff ρ S1 (isDic S1 x)
    unfold kG1b
    split
    · cases fe ρ S1 with
      | ok y S2 =>
        show (ff ρ S2).bind _ = kG3 x y (ff ρ S2)
        cases ff ρ S2 <;> rfl
      | _ => rfl
    · rfl
  | _ => rfl
theorem kG1_ : kG1 fe ff ρ (.ok x S) = kG1b x fe ff ρ S (isDic S x) := nr rfl
theorem isDic_r : isDic S (.ref l) = isDC S[l]? := by
  unfold isDic isDC
  rfl
theorem isDC_d : isDC (some (.dic kvs)) = true := nr rfl
theorem kG1b_ : kG1b x fe ff ρ S true = kG2 x ff ρ (fe ρ S) := if_pos rfl
theorem kG2_ : kG2 x ff ρ (.ok y S) = kG3 x y (ff ρ S) := nr rfl
theorem kG3_ : kG3 x y (.ok z S) = toR (gGetD x y z S) := nr rfl
theorem gGetD_r : gGetD (.ref l) y z S = getC y z S S[l]? := by
  cases e : S[l]? with
  | none => unfold gGetD getC; simp only [e]
  | some c =>
    cases c with
    | dic kvs => unfold gGetD getC; simp only [e]; cases keyD y <;> rfl
    | _ => unfold gGetD getC; simp only [e]
theorem getC_s : getC (.str s) z S (some (.dic kvs)) = some ((findK kvs (.inr s)).getD z, S) := nr rfl
theorem gMaxL_r : gMaxL [.ref l] S = maxC S ((lstC S[l]?).bind intsD) := by
  show (match (lstAt S l).bind intsD with | some (x :: r) => some (D.int (maxL (x :: r)), S) | _ => none) = _
  rw [lstAt_C]
  rfl
theorem maxC_ {x : Int} {r : List Int} : maxC S (some (x :: r)) = some (.int (maxL (x :: r)), S) := nr rfl
theorem gRep_r : gRep (.ref l) (.int k) S = repC k S S[l]? := by
  cases e : S[l]? with
  | none => unfold gRep repC; simp only [e]
  | some c => cases c <;> (unfold gRep repC; simp only [e])
theorem repC_ (h0 : 0 ≤ k) (h : xs.length * k.toNat ≤ 16777216) (h1 : k < 1000000000) : repC k S (some (.lst xs)) = some (.ref S.length, S ++ [.lst (List.replicate k.toNat xs).flatten]) := if_pos ⟨by omega, by omega, h⟩
theorem eD0_ : eD0 ρ S = .ok (.ref S.length) (S ++ [.dic []]) := nr rfl
theorem gFdivW_ (h0 : 0 < j) (h1 : (j : Int).natAbs.log2 < 9000) : gFdivW (.int k) (.int j) S = some (.int (k / j), S) := if_pos ⟨by omega, h1⟩
end
end Dl

set_option Elab.async false
set_option linter.all false
set_option maxRecDepth 100000
set_option maxHeartbeats 1000000
namespace Dl
open PySem PySem.Spec PyProof.Rows L2 RT
/-! ## list(reversed(t)), t a tuple -/
theorem nolen_rt : typeLookup (.type "reversed") "__len__" = pure none := by rw [typeLookup_type, builtinLookup_eq_fast]; kernel_rfl
theorem hint_rt : typeLookup (.type "reversed") "__length_hint__" = pure (some (.builtin "reversed.__length_hint__")) := by rw [typeLookup_type, builtinLookup_eq_fast]; kernel_rfl
theorem IsTup.stays {h h' : Heap} {t : Addr} {items : Array Value} (x : IsTup h t items) (e : ∀ o, h.get? t = some o → h'.get? t = some o) : IsTup h' t items := let ⟨o, ho, r⟩ := x; ⟨o, e o ho, r⟩
theorem walks_rt {prog : Program} {w : World} {A : Around} (hh : A.handled = none) (I t : Addr) (hne : t ≠ I) (items : Array Value) (hz : items.size ≤ sizeLine) :
    Walks prog w A I [I, t] [I] items.size (fun i v => items[items.size - 1 - i]? = some v) (fun i h => i ≤ items.size ∧ IsRt h I t ((items.size : Int) - 1 - (i : Int)) ∧ IsTup h t items) where
  sub b hb := by
    rw [List.mem_singleton.mp hb]
    exact List.mem_cons_self ..
  frame i h h' x hk := ⟨x.1, x.2.1.at fun o e => hk I (List.mem_cons_self ..) o e, IsTup.stays x.2.2 fun o e => hk t (List.mem_cons_of_mem _ (List.mem_singleton.mpr rfl)) o e⟩
  item i s Q E hi x hQ := by
    have hit := x.2.1
    have h1 : (items.size : Int) - 1 - (i : Int) = ((items.size - 1 - i : Nat) : Int) := by omega
    rw [h1] at hit
    have hx : items[items.size - 1 - i]? = some (items[items.size - 1 - i]'(by omega)) := Array.getElem?_eq_getElem (by omega)
    refine next_rt_item hit x.2.2 hx hz fun h' hit' hs' => ?_
    have h2 : ((items.size - 1 - i : Nat) : Int) - 1 = (items.size : Int) - 1 - ((i + 1 : Nat) : Int) := by omega
    rw [h2] at hit'
    refine hQ _ h' _ hx ⟨hi, hit', IsTup.stays x.2.2 fun o eo => (hs'.2 t hne).trans eo⟩ fun b o hb eo => ?_
    exact hs'.extBut b o (fun z => hb (by rw [z]; exact List.mem_singleton.mpr rfl)) eo
  done s Q E x hQ := by
    have hit := x.2.1
    have h1 : (items.size : Int) - 1 - (items.size : Int) = -1 := by omega
    rw [h1] at hit
    refine next_rt_end hh hit fun h' he' => hQ h' s.toks fun b o hb eo => ?_
    exact he' b o (fun z => hb (by rw [z]; exact List.mem_singleton.mpr rfl)) eo
  self i s Q E x hQ := iter_rt x.2.1 hQ
theorem slot_rt_hint : Slot "reversed" "__length_hint__" "reversed.__length_hint__" :=
  .of (owner := "reversed") (n := "__length_hint__") hint_rt (by decide +kernel) (by decide +kernel) (by decide +kernel)
    (by first | exact .inl (by decide +kernel) | exact .inr (by decide +kernel)) (by rw [isSubtype_type]; kernel_rfl)
theorem entry_rt_hint : entryFor table "reversed.__length_hint__" = some Builtin.«reversed.__length_hint__» := entryFor_of_tree (by kernel_rfl)
theorem args_rt_hint (a : Value) : argsOk "reversed.__length_hint__" ⟨[a], []⟩ := by
  unfold argsOk; rw [signature?_of (id := "reversed.__length_hint__") (n := ['_', '_', 't', 'n', 'i', 'h', '_', 'h', 't', 'g', 'n', 'e', 'l', '_', '_']) (o := ['d', 'e', 's', 'r', 'e', 'v', 'e', 'r']) (by kernel_rfl) owner_rt]; kernel_rfl
section
variable {prog : Program} {w : World} {A : Around} {E : Value → Shared → Prop} {s : Shared} {it t : Addr} {items : Array Value}
theorem call_hint {Q : Value → Shared → Prop} (hit : IsRt s.heap it t ((items.size : Int) - 1)) (hl : IsTup s.heap t items) (hn : items.size ≤ sizeLine)
    (hQ : ∀ a b, Q (.int (items.size : Int) a) { s with toks := b }) : wpAny (model prog w) A (call (.builtin "reversed.__length_hint__") [.ref it]) Q E s := by
  obtain ⟨o, ho, hc, hd⟩ := id hit
  rw [sizeLine_eq] at hn
  refine wpAny_call_entry slot_rt_hint hit.typeIs entry_rt_hint ?_ (args_rt_hint _)
  unfold Builtin.«reversed.__length_hint__»
  refine wpAny_bind (wpAny_of_eq (a := (Value.ref it)) rfl ?_)
  refine wpAny_bind (wpAny_field ho hd (x := .ref t) rfl ?_)
  rw [if_neg (show ¬ ((Value.ref t == Value.none) = true) from fun z => by first | cases z | (revert z; simp [BEq.beq]) | (revert z; exact Bool.false_ne_true))]
  refine wpAny_bind (len_tuple hl (by omega) ?_)
  refine wpAny_bind (wpAny_pure ?_)
  refine wpAny_bind (wpAny_field (s := { s with toks := s.toks + 1 + 1 }) ho hd (x := rawInt ((items.size : Int) - 1)) rfl ?_)
  show wpAny _ _ (if (items.size : Int) < (items.size : Int) - 1 + 1 then _ else _) _ _ _
  rw [if_neg (by omega)]
  have e : (items.size : Int) - 1 + 1 = (items.size : Int) := by omega
  rw [e]
  refine wpAny_bind (wpAny_mkInt (wpAny_pure ⟨_, rfl, ?_⟩))
  exact hQ _ _
theorem hint_rtd {Q : Bool → Shared → Prop} (hit : IsRt s.heap it t ((items.size : Int) - 1)) (hl : IsTup s.heap t items) (hn : items.size ≤ sizeLine)
    (hQ : ∀ b, Q ((items.size : Int) != 0) { s with toks := b }) : wpAny (model prog w) A (Builtin.List.listLengthHint (.ref it)) Q E s := by
  have hT : s.TypeIs (.ref it) "reversed" := hit.typeIs
  unfold Builtin.List.listLengthHint
  refine wpAny_bind (wpAny_specialOf hT nolen_rt ?_)
  show wpAny _ A (specialOf (Value.ref it) (Str.ofString "__length_hint__") >>= _) _ _ _
  refine wpAny_bind (wpAny_specialOf hT hint_rt ?_)
  generalize hid : ("reversed.__length_hint__" : String) = name
  wp_delta
  rw [show splitId name = some ("reversed", "__length_hint__") from by subst hid; decide +kernel]
  subst hid
  refine wpAny_bind (wpAny_isInstance (b := true) hT (by rw [isSubtype_type]; kernel_rfl) ?_)
  rw [if_neg (by decide)]
  dsimp only
  rw [if_neg (by decide +kernel)]
  refine wpAny_bind (wpAny_rule ?_)
  rw [slot_rt_hint.bind]
  refine wpAny_bind (wpAny_pure ?_)
  refine wpAny_bind (wpAny_attempt (call_hint hit hl hn fun a b => ?_))
  dsimp only
  have h1 : Builtin.List.listFitsIndex (items.size : Int) = true := by
    rw [sizeLine_eq] at hn
    unfold Builtin.List.listFitsIndex
    simp only [Bool.and_eq_true, decide_eq_true_eq]
    omega
  have h2 : Builtin.List.listTooLong ((items.size : Int).toNat) = false := by
    unfold Builtin.List.listTooLong
    simp only [decide_eq_false_iff_not]
    omega
  have h3 : ¬ ((items.size : Int) < 0) := by omega
  have hA : asInt? (Value.int (items.size : Int) a) = pure (some (items.size : Int)) := by simp only [asInt?]
  rw [hA]
  have q := hQ b
  clear hQ
  generalize (items.size : Int) = z at h1 h2 h3 q ⊢
  refine wpAny_bind (wpAny_pure ?_)
  simp only [h1, h2, h3, Bool.not_true, Bool.false_eq_true, if_false]
  exact wpAny_pure q
end
section
variable {prog : Program} {w : World} {A : Around} {E : Value → Shared → Prop} {s : Shared} {it t S : Addr} {items : Array Value}
theorem extend_rt {res : Value} {c₀ : Nat} {R : Result → Shared → Prop} (hh : A.handled = none) (hit : IsRt s.heap it t ((items.size : Int) - 1)) (hl : IsTup s.heap t items) (hne : t ≠ it) (hn : items.size ≤ sizeLine)
    (hSi : S ≠ it) (hSl : S ≠ t) (hS : s.heap.get? S = some { cls := .type "list", data := .seq #[] c₀ })
    (hR : ∀ h' tk acc c', (∀ b o, b ≠ it → b ≠ S → s.heap.get? b = some o → h'.get? b = some o) → h'.get? S = some { cls := .type "list", dict := none, data := .seq acc c', slots := #[] } →
      ItemsOf (fun i v => items[items.size - 1 - i]? = some v) acc items.size → R (.ok (.ret res)) { s with heap := h', toks := tk }) :
    wpAny (model prog w) A.in1 (Builtin.List.listExtendWith (.ref S) (.ref it) res)
      (fun fin s' => match fin with | .done f => R (.ok f) s' | .again c' => c'.quiet = true ∧ codeAny (model prog w) A c' R s') (fun e s' => R (.error e) s') s := by
  have W := (walks_rt (prog := prog) (w := w) (A := A.in1) hh it t hne items hn).toS
  have hSf : S ∉ [it, t] := fun z => by
    rcases List.mem_cons.mp z with z | z
    · exact hSi z
    · exact hSl (List.mem_singleton.mp z)
  have hT : s.TypeIs (.ref it) "reversed" := hit.typeIs
  have hsame : Builtin.List.listSameRef (.ref S) (.ref it) = false := by simp [Builtin.List.listSameRef, hSi]
  unfold Builtin.List.listExtendWith
  refine wpAny_bind (wpAny_typeOf hT ?_)
  rw [if_neg (by rw [hsame]; decide)]
  refine wpAny_bind (iter_rt hit ?_)
  refine wpAny_bind (wpAny_holding ?_)
  refine hint_rtd hit hl hn fun tk => ?_
  have e0 : ((items.size : Nat) : Int) - 1 - ((0 : Nat) : Int) = (items.size : Int) - 1 := by omega
  by_cases h0 : items.size = 0
  · rw [if_neg (by rw [h0]; decide)]
    refine wpAny_pure ⟨plainId_quiet F.plain_extend_loop _, codeAny_extend_loopS W hn _ hSf _ items.size 0 _ _ _ rfl (Nat.zero_le _) ⟨Nat.zero_le _, by rw [e0]; exact hit, hl⟩ hS (ItemsOf.nil _) fun s' acc' c' hm hS' hacc => ?_⟩
    rw [Moved.eq_with hm]
    refine hR s'.heap s'.toks acc' c' (fun b o hb hb2 eo => hm.heap b o (fun hmem => ?_) eo) hS' hacc
    rcases List.mem_cons.mp hmem with z | hmem
    · exact hb2 z
    · exact hb (List.mem_singleton.mp hmem)
  · rw [if_pos (by rw [show ((items.size : Int) != 0) = true by simp [h0]]; rfl)]
    refine wpAny_bind (wpAny_rule ?_)
    refine wpAny_bind ?_
    show wpAny _ A.in1 (updateSeq S (·.push .none) >>= fun _ => updateSeq S (·.pop)) _ _ _
    refine wpAny_bind (wpAny_updateSeq (s := { s with toks := tk }) hS rfl ?_)
    have hS₂ := Heap.get?_update_self (Obj.mapSeq (·.push Value.none)) hS rfl
    refine wpAny_updateSeq (hz := by seq_fits) (s := { s with toks := tk, heap := s.heap.update S (Obj.mapSeq (·.push Value.none)) }) hS₂ rfl ?_
    have hS₃ := Heap.get?_update_self (Obj.mapSeq (·.pop)) hS₂ rfl
    have oth : ∀ b o, b ≠ S → s.heap.get? b = some o → ((s.heap.update S (Obj.mapSeq (·.push Value.none))).update S (Obj.mapSeq (·.pop))).get? b = some o :=
      fun b o hb e => (Heap.get?_update_other _ _ (Ne.symm hb)).trans ((Heap.get?_update_other _ _ (Ne.symm hb)).trans e)
    refine wpAny_pure ⟨plainId_quiet F.plain_extend_loop _, codeAny_extend_loopS W hn _ hSf _ items.size 0 _ _ _ rfl (Nat.zero_le _) ⟨Nat.zero_le _, by rw [e0]; exact hit.at fun o eo => oth it o (Ne.symm hSi) eo, IsTup.stays hl fun o eo => oth t o (Ne.symm hSl) eo⟩ hS₃ (ItemsOf.nil _) fun s' acc' c' hm hS' hacc => ?_⟩
    rw [Moved.eq_with hm]
    refine hR s'.heap s'.toks acc' c' (fun b o hb hb2 eo => hm.heap b o (fun hmem => ?_) (oth b o hb2 eo)) hS' hacc
    rcases List.mem_cons.mp hmem with z | hmem
    · exact hb2 z
    · exact hb (List.mem_singleton.mp hmem)
theorem list_init_rt {R : Result → Shared → Prop} (hh : A.handled = none) (hit : IsRt s.heap it t ((items.size : Int) - 1)) (hl : IsTup s.heap t items) (hne : t ≠ it) (hn : items.size ≤ sizeLine)
    (hSi : S ≠ it) (hSl : S ≠ t) (hS : s.heap.get? S = some { cls := .type "list", data := .seq #[] })
    (hR : ∀ h' tk acc c', (∀ b o, b ≠ it → b ≠ S → s.heap.get? b = some o → h'.get? b = some o) → h'.get? S = some { cls := .type "list", dict := none, data := .seq acc c', slots := #[] } →
      ItemsOf (fun i v => items[items.size - 1 - i]? = some v) acc items.size → R (.ok (.ret .none)) { s with heap := h', toks := tk }) :
    wpAny (model prog w) A.in1 (Builtin.«list.__init__» ⟨[.ref S, .ref it], []⟩)
      (fun fin s' => match fin with | .done f => R (.ok f) s' | .again c' => c'.quiet = true ∧ codeAny (model prog w) A c' R s') (fun e s' => R (.error e) s') s := by
  show wpAny _ _ (do let old ← Builtin.List.listItems (.ref S); Builtin.List.listUpdate (.ref S) (fun _ => #[]); letGo old.toList.reverse; Builtin.List.listExtendWith (.ref S) (.ref it) .none) _ _ s
  refine wpAny_bind ?_
  unfold Builtin.List.listItems
  refine wpAny_bind (wpAny_seqItems hS rfl (wpAny_pure ?_))
  show wpAny _ _ (updateSeq S (fun _ => #[]) >>= fun _ => letGo (#[] : Array Value).toList.reverse >>= fun _ => Builtin.List.listExtendWith (.ref S) (.ref it) .none) _ _ s
  refine wpAny_bind (wpAny_updateSeq hS rfl ?_)
  have hS₂ := Heap.get?_update_self (Obj.mapSeq (fun _ => (#[] : Array Value))) hS rfl
  have oth : ∀ b o, b ≠ S → s.heap.get? b = some o → (s.heap.update S (Obj.mapSeq (fun _ => (#[] : Array Value)))).get? b = some o :=
    fun b o hb eo => (Heap.get?_update_other _ _ (Ne.symm hb)).trans eo
  refine wpAny_bind (wpAny_letGo ?_)
  refine extend_rt hh (hit.at fun o eo => oth it o (Ne.symm hSi) eo) (IsTup.stays hl fun o eo => oth t o (Ne.symm hSl) eo) hne hn hSi hSl hS₂ fun h' tk acc' c' hk hS' hacc => ?_
  exact hR h' tk acc' c' (fun b o hb hb2 eo => hk b o hb hb2 (oth b o hb2 eo)) hS' hacc
theorem call_list_rt {Q : Value → Shared → Prop} (hh : A.handled = none) (hit : IsRt s.heap it t ((items.size : Int) - 1)) (hl : IsTup s.heap t items) (hne : t ≠ it) (hn : items.size ≤ sizeLine)
    (hQ : ∀ h' tk acc' c', (∀ b o, b ≠ it → s.heap.get? b = some o → h'.get? b = some o) →
      h'.get? s.heap.objs.size = some { cls := .type "list", dict := none, data := .seq acc' c', slots := #[] } → ItemsOf (fun i v => items[items.size - 1 - i]? = some v) acc' items.size → Q (.ref s.heap.objs.size) { s with heap := h', toks := tk }) :
    wpAny (model prog w) A (call (.type "list") [.ref it]) Q E s := by
  refine callType_codes (Q₁ := fun obj s₁ => obj = .ref s.heap.objs.size ∧ s₁ = { s with heap := s.heap.push { cls := .type "list", data := .seq #[] } }) F.called_list (F.typeCall_list_1 _) F.entry_list_init
    (code_list_new _ ⟨rfl, rfl⟩) fun obj s₁ h₁ => ?_
  obtain ⟨rfl, rfl⟩ := h₁
  have hS : (s.heap.push { cls := .type "list", data := .seq #[] }).get? s.heap.objs.size = some { cls := .type "list", data := .seq #[] } := Heap.get?_push_size _ rfl
  obtain ⟨oi, hoi, _⟩ := id hit
  obtain ⟨ol, hol, _⟩ := id hl
  refine ⟨⟨_, hS, rfl⟩, F.args_list_init_2 _ _, list_init_rt (A := A.in1) hh (hit.at fun o eo => Heap.get?_push_of_some _ eo) (IsTup.stays hl fun o eo => Heap.get?_push_of_some _ eo) hne hn (Nat.ne_of_gt (Heap.lt_size hoi)) (Nat.ne_of_gt (Heap.lt_size hol)) hS fun h' tk acc' c' hk hS' hacc => ?_⟩
  exact ⟨rfl, hQ h' tk acc' c' (fun b o hb eo => hk b o hb (Nat.ne_of_lt (Heap.lt_size eo)) (Heap.get?_push_of_some _ eo)) hS' hacc⟩
end
/-- list(reversed(x)), x a tuple -/
def gRevT : D → Store → Option (D × Store)
  | .tup xs, S => some (.ref S.length, S ++ [.lst xs.reverse])
  | _, _ => none
section
variable {X : Cx} {W : WX} {e : Expr} {f : EX} {p p2 pos pos2 : Pos}
theorem d_revT (hc : X.calm = true) (hg : Gl X "list") (hm : X.mg "list" = none) (hg2 : Gl X "reversed") (hm2 : X.mg "reversed" = none) (he : PE X e (rdE (X.cq W) f))
    (hs : starEach [e] X.env = (false, eval e X.env) :: starEach [] X.env := by rfl)
    (hs2 : starEach [.Call (.Name "reversed" p2) [e] [] pos2] X.env = (false, eval (.Call (.Name "reversed" p2) [e] [] pos2) X.env) :: starEach [] X.env := by rfl) :
    PE X (.Call (.Name "list" p) [.Call (.Name "reversed" p2) [e] [] pos2] [] pos) (rdE (X.cq W) (e1 gRevT f)) := by
  refine ⟨fun pins s σ H Q I ⟨m, ρ, S, re, rs, h⟩ => ?_⟩
  refine Call_ (ld_blt I hg hm boot_list (PyProof.Rows.callWith_type1 (args_cons (Call_ (ld_blt I hg2 hm2 PyProof.Rows.boot_reversed (PyProof.Rows.callWith_type1 (args_cons (thn (he.run pins s σ H _ I ⟨m, ρ, S, re, rs, Post.bind h⟩) fun u s1 ⟨v, H1, I1, r1, q1⟩ => args_nil ?_) hs) hs rfl))) hs2) hs2 rfl))
  obtain ⟨m1, d, S1, e1, rs1, rd1, q⟩ := q1
  have q := VPost.of q
  cases rd1 with
  | @tup a ws ds ht rds =>
    have q : VPost X.K m1 H1 Q (some (.ref S1.length, S1 ++ [.lst ds.reverse])) := q
    obtain rfl : u = Value.ref a := r1
    obtain ⟨its, rv, p', hz⟩ := I1.tuple ht.sq
    have hz2 : its.toArray.size ≤ sizeLine := by rw [List.size_toArray, ← rv.length]; exact hz
    have hlen := rv.length
    have hbig := line63
    have hvs : ws.length ≤ sizeLine := hz
    refine call_reversed_tup p' (fun A E Q k => len_tuple p' (by simp only [List.size_toArray] <;> omega) k) (args_nil ?_)
    have k0 : ∀ b o, s1.heap.get? b = some o → (s1.heap.push (rtObj a ((its.toArray.size : Int) - 1))).get? b = some o := fun b o eo => Heap.get?_push_of_some _ eo
    have I2 : L2.Inv X pins σ H1 { s1 with heap := s1.heap.push (rtObj a ((its.toArray.size : Int) - 1)), toks := s1.toks + 1 + 1 } := I1.kept (t' := s1.toks + 1 + 1) k0
    obtain ⟨f0, f1, f2, f3, f4, f5⟩ := I1.fpOk (H' := H1) (b := s1.heap.objs.size) (Nat.le_refl _) (I1.hok.fresh (Nat.le_refl _))
    obtain ⟨ol, hol, _⟩ := id p'
    have hne : a ≠ s1.heap.objs.size := Nat.ne_of_lt (Heap.lt_size hol)
    refine call_list_rt (s := { s1 with heap := s1.heap.push (rtObj a ((its.toArray.size : Int) - 1)), toks := s1.toks + 1 + 1 }) (I1.ok.hd hc) ⟨_, Heap.get?_push_size _ rfl, rfl, rfl⟩ (IsTup.stays p' fun o eo => k0 _ _ eo) hne hz2 fun h' tk acc c' hk hS' hi => ?_
    have hfr : H1 (s1.heap.push (rtObj a ((its.toArray.size : Int) - 1))).objs.size = none := I2.hok.fresh (Nat.le_refl _)
    refine ⟨.ref (s1.heap.push (rtObj a ((its.toArray.size : Int) - 1))).objs.size, upd H1 _ (.lst ws.reverse), ?_, rfl, vp_lst rs1 hfr rds.reverse q⟩
    have I3 : L2.Inv X pins σ H1 { s1 with heap := h', toks := tk } := I2.turned (t' := tk) (fun b o hb eo => hk b o hb eo) f0 f1 f3 f4 f5
    obtain ⟨g0, g1, g2, g3, g4, g5⟩ := I2.fpOk (H' := H1) (b := (s1.heap.push (rtObj a ((its.toArray.size : Int) - 1))).objs.size) (Nat.le_refl _) hfr
    have hS'' : h'.get? (s1.heap.push (rtObj a ((its.toArray.size : Int) - 1))).objs.size = some { cls := .type "list", dict := none, data := .seq acc c', slots := #[] } := hS'
    generalize (s1.heap.push (rtObj a ((its.toArray.size : Int) - 1))).objs.size = p0 at *
    refine L2.Inv.step (s := { s1 with heap := h', toks := tk }) (g' := s1.gens) (t' := tk) (d' := s1.drawn) (h' := h') (ch := [p0]) I3 (fun b hb => ?_) (fun b o _ _ _ q _ => q) (fun b o _ _ _ q _ => ⟨o.slots, q⟩) (fun b o hb q n => ?_) (fun b o _ q => ⟨o, q⟩) (fun b ws q => by rw [upd_ne (ne_of_none q hfr)]; exact q)
      (fun b o u q => by rw [upd_ne (ne_of_none q hfr)]; exact q) (fun b ps q => ⟨#[], by rw [upd_ne (ne_of_none q hfr), q]; simp⟩) (fun m hm => hm) (fun b u q => ?_) I1.bare
    · have e : b = p0 := by simpa using hb
      subst e
      exact ⟨g3, g1, g4, g5⟩
    · rw [upd_ne (fun z => hb (by simp [z]))]
      exact n
    · by_cases hb : b = p0
      · subst hb
        rw [upd_same] at q
        cases q
        refine ⟨by rw [List.length_reverse]; exact hvs, acc.toList, c', RT.vals_rev rv hi, ?_⟩
        rw [Array.toArray_toList]
        exact hS''
      · rw [upd_ne hb] at q
        exact (I3.hok b u q).stay (fun c v _ r => r) (fun c r => by rw [upd_ne (ne_of_none r hfr)]; exact r) fun c ws r => by rw [upd_ne (ne_of_none r hfr)]; exact r
  | _ => exact q.elim
end
end Dl

set_option Elab.async false
set_option linter.all false
set_option maxRecDepth 100000
namespace Dl
open PySem PySem.Spec PyProof.Rows L2
/-! ## str.join, str.upper, str.replace -/
def strsO : List D → Option (List Str)
  | [] => some []
  | .str x :: r => (strsO r).map (x :: ·)
  | _ :: _ => none
def gJoin : D → List D → Store → Option (D × Store)
  | .str a, [.ref l], S => (lstAt S l).bind fun xs => (strsO xs).bind fun ys => if (ys.map (·.length)).sum + ys.length * a.length ≤ 16777216 ∧ (Txt.join a ys).length ≤ LIM then some (.str (Txt.join a ys), S) else none
  | _, _, _ => none
def gUpper : D → List D → Store → Option (D × Store)
  | .str a, [], S => if a.length ≤ 5592405 ∧ (Txt.upper a).length ≤ LIM then some (.str (Txt.upper a), S) else none
  | _, _, _ => none
def gRepl (y z : Str) : D → Store → Option (D × Store)
  | .str x, S => if x.length + (x.length + 1) * z.length ≤ 16777216 ∧ (Txt.replace x y z).length ≤ LIM then some (.str (Txt.replace x y z), S) else none
  | _, _ => none
section
variable {X : Cx}
theorem strsO_rd {K : PySem.W.Frag} {m : List Addr} {H : Hp} : ∀ {ds : List D} {vs : List V} {ys : List Str}, RDs K m H vs ds → strsO ds = some ys → vs = ys.map V.str
  | [], _, ys, .nil, h => by cases h; rfl
  | d :: ds, _, ys, .cons g r, h => by
    cases g with
    | str hx =>
      rename_i x
      have h : (strsO ds).map (x :: ·) = some ys := h
      cases e : strsO ds with
      | none => rw [e] at h; cases h
      | some zs =>
        rw [e] at h
        cases h
        rw [List.map_cons, ← strsO_rd r e]
    | _ => cases h
theorem m_join : MtR X "str.join" (rdM X.K gJoin) := by
  intro pins s σ H v vs vv us Q I rv rvs ⟨m, x, xs, S, hx, hxs, rs, h⟩
  unfold gJoin at h
  split at h
  · rename_i a l
    cases el : lstAt S l with
    | none => rw [el] at h; exact h.elim
    | some ds =>
      rw [el] at h
      cases es : strsO ds with
      | none => rw [Option.bind_some, es] at h; exact h.elim
      | some ys =>
        rw [Option.bind_some, es, Option.bind_some] at h
        split at h
        · rename_i hc
          cases hx with
          | str ha =>
            cases hxs with
            | cons g1 g2 =>
              cases g2
              cases g1 with
              | ref hl =>
                obtain ⟨ws, hq, rds⟩ := rs.lst hl el
                exact mt_join pins s σ H _ _ vv us Q I rv rvs ⟨a, _, ys, rfl, rfl, .inl (by rw [← strsO_rd rds es]; exact hq), hc.1, h _ _ m .refl rs (.str hc.2)⟩
        · exact h.elim
  · exact h.elim
theorem m_upper : MtR X "str.upper" (rdM X.K gUpper) := by
  intro pins s σ H v vs vv us Q I rv rvs ⟨m, x, xs, S, hx, hxs, rs, h⟩
  unfold gUpper at h
  split at h
  · rename_i a
    split at h
    · rename_i hc
      cases hx with
      | str ha =>
        cases hxs
        exact mt_upper pins s σ H _ _ vv us Q I rv rvs ⟨a, rfl, rfl, hc.1, h _ _ m .refl rs (.str hc.2)⟩
    · exact h.elim
  · exact h.elim
/-- an expression behind which a token is out -/
def PEp (X : Cx) (e : Expr) (t : TE) : Prop :=
  ∀ (pins : List (Addr × Obj)) (s : Shared) (σ : L2.St) (H : Hp) (Q : VK), Inv X pins σ H s → t σ H Q → wpAny (model X.prog X.w) X.A (eval e X.env) (fun v s1 => EP X pins σ Q v s1 ∧ 1 ≤ s1.toks) X.xe s
variable {W : WX} {e a : Expr} {es : List Expr} {f fe : EX} {fr : AX}
theorem pep_opC {op : Operator} {g : D → D → Store → Option (D × Store)} {y : Str} {j : Nat} {c pos : Pos} (ho : OpR X (binaryOp op) (rd2 X.K g)) (ha : PE X a (rdE (X.cq W) f)) (hy : y.length ≤ LIM := by decide) :
    PEp X (.BinOp a op (.Constant (.str y) j c) pos) (rdE (X.cq W) (e2 g f (eC (.str y)))) := by
  intro pins s σ H Q I ⟨m, ρ, S, re, rs, h⟩
  refine wpAny_BinOp (thn (ha.run pins s σ H _ I ⟨m, ρ, S, re, rs, Post.bind h⟩) fun v s1 ⟨x, H1, I1, r1, m1, d, S1, e1, rs1, rd1, q1⟩ => ?_)
  refine Calls.Constant_str ?_
  have q2 := VPost.of q1
  refine wpAny_mono (PySem.wpAny_toks (ho pins { s1 with toks := s1.toks + 1 } σ H1 x (.str y) v (.str y s1.toks) Q (I1.tok (s1.toks + 1)) r1 ⟨_, rfl⟩ ⟨m1, d, .str y, S1, rd1, .str hy, rs1, q2⟩)) (fun u s2 q => ⟨q.2, Nat.le_trans (Nat.le_add_left 1 s1.toks) q.1⟩) fun _ _ z => z.2
theorem pep_op {b : Expr} {fb : EX} {op : Operator} {g : D → D → Store → Option (D × Store)} {pos : Pos} (ho : OpR X (binaryOp op) (rd2 X.K g)) (ha : PEp X a (rdE (X.cq W) f)) (hb : PE X b (rdE (X.cq W) fb)) :
    PEp X (.BinOp a op b pos) (rdE (X.cq W) (e2 g f fb)) := by
  intro pins s σ H Q I ⟨m, ρ, S, re, rs, h⟩
  refine wpAny_BinOp (wpAny_mono (ha pins s σ H _ I ⟨m, ρ, S, re, rs, Post.bind h⟩) (fun v s1 q => ?_) fun _ _ z => z)
  obtain ⟨⟨x, H1, I1, r1, m1, d, S1, e1, rs1, rd1, q1⟩, hk⟩ := q
  refine wpAny_mono (PySem.wpAny_toks (hb.run pins s1 σ H1 _ I1 ⟨m1, ρ, S1, re.mono e1, rs1, Post.bind q1⟩)) (fun u s2 q => ?_) fun _ _ z => z.2
  obtain ⟨hk2, y, H2, I2, r2, m2, d2, S2, e2, rs2, rd2', q2⟩ := q
  have q2 := VPost.of q2
  exact wpAny_mono (PySem.wpAny_toks (ho pins s2 σ H2 x y v u Q I2 r1 r2 ⟨m2, d, d2, S2, rd1.mono e2, rd2', rs2, q2⟩)) (fun w s3 q => ⟨q.2, Nat.le_trans hk (Nat.le_trans hk2 q.1)⟩) fun _ _ z => z.2
theorem PET_of {t : TE} (h : PE X e t) : PET X e t := fun pins s σ H Q _ I q => h.run pins s σ H Q I q
theorem d_aNT : PAT X [] (rdA (X.cq W) aN) := fun pos pins s σ H Q _ I h => d_aN.run pos pins s σ H Q I h
theorem aC_cons {c : Cq} {σ : L2.St} {H : Hp} {Q : List V → Hp → Prop} (h : rdA c (aC fe fr) σ H Q) : tCons (rdE c fe) (rdA c fr) σ H Q := by
  obtain ⟨m, ρ, S, re, rs, h⟩ := h
  exact ⟨m, ρ, S, re, rs, (Post.bind h).imp fun v H1 ⟨m1, x, S1, e, rs1, rd, h1⟩ =>
    ⟨m1, ρ, S1, re.mono e, rs1, (Post.bind h1).imp fun vs H2 ⟨m2, xs, S2, e2, rs2, rds, h2⟩ => h2 _ _ m2 .refl rs2 (.cons (rd.mono e2) rds)⟩⟩
theorem d_aCT (he : PET X e (rdE (X.cq W) fe)) (hr : PAT X es (rdA (X.cq W) fr)) (hs : starEach (e :: es) X.env = (false, eval e X.env) :: starEach es X.env := by rfl) : PAT X (e :: es) (rdA (X.cq W) (aC fe fr)) :=
  fun pos pins s σ H Q h0 I h => pat_cons he hr hs pos pins s σ H Q h0 I (aC_cons h)
theorem d_aCP (he : PEp X e (rdE (X.cq W) fe)) (hr : PAT X es (rdA (X.cq W) fr)) (hs : starEach (e :: es) X.env = (false, eval e X.env) :: starEach es X.env := by rfl) : PA X (e :: es) (rdA (X.cq W) (aC fe fr)) := by
  refine ⟨fun pos pins s σ H Q I h => ?_⟩
  rw [hs]
  show wpAny _ _ (spliced ((false, eval e X.env) :: backTo pos (starEach es X.env))) _ _ s
  refine Calls.spliced_cons (wpAny_mono (he pins s σ H _ I (aC_cons h)) (fun v s1 q => ?_) fun _ _ z => z)
  obtain ⟨⟨x, H1, I1, r1, q1⟩, hk⟩ := q
  exact thn (hr pos pins s1 σ H1 _ hk I1 q1) fun us s2 ⟨xs, H2, I2, r2, q2⟩ => ⟨x :: xs, H2, I2, .cons r1 r2, q2⟩
theorem d_repl {o : Expr} {y z : Str} {j k : Nat} {c0 c1 apos pos : Pos} (ho : PE X o (rdE (X.cq W) f)) (hyz : (y == z) = false := by decide)
    (hst : starEach [.Constant (.str y) j c0, .Constant (.str z) k c1] X.env = [(false, eval (.Constant (.str y) j c0) X.env), (false, eval (.Constant (.str z) k c1) X.env)] := by rfl)
    (hbase : attributeBase o "replace" X.env (eval o X.env) = eval o X.env := by rfl) (hline : (apos.endLine == pos.line) = true := by rfl) :
    PET X (.Call (.Attribute o "replace" apos) [.Constant (.str y) j c0, .Constant (.str z) k c1] [] pos) (rdE (X.cq W) (e1 (gRepl y z) f)) :=
  fun pins s σ H Q h0 I ⟨m, ρ, S, re, rs, h⟩ => CwR.pet_replC ho hyz hst hbase hline pins s σ H Q h0 I ⟨m, ρ, S, re, rs, (Post.bind h).imp fun v H1 ⟨m1, d, S1, e, rs1, rd, h1⟩ => by
    have h1 := VPost.of h1
    unfold gRepl at h1
    split at h1
    · split at h1
      · rename_i hc
        cases rd with
        | str hx => exact ⟨_, rfl, hc.1, h1 _ _ m1 .refl rs1 (.str hc.2)⟩
      · exact h1.elim
    · exact h1.elim⟩
end
/-! ## x in D, D a module's table -/
def keyS (e : DictEntry) : Option Str := match e.key with
  | .str x _ => some x
  | _ => none
structure TabM (K : PySem.W.Frag) (w : World) (p : Addr) (ks : List Str) : Prop where
  ex : ∃ es n, K.lookup p = some ⟨.type "dict", none, .dict es n, #[]⟩ ∧ PySem.W.KeysLit w.params es.toList ∧ es.toList.map keyS = ks.map some
theorem find_lit {P : Params} {z : Str} : ∀ {l : List DictEntry} {ks : List Str}, PySem.W.KeysLit P l → l.map keyS = ks.map some → (l.find? (·.key.isStr z)).isSome = decide (z ∈ ks) ∧ l.any (·.refKey) = false
  | [], [], _, _ => ⟨rfl, rfl⟩
  | [], _ :: _, _, h => nomatch h
  | _ :: _, [], _, h => nomatch h
  | e :: l, k :: ks, ⟨⟨x, t, hx, _⟩, hl⟩, h => by
    rw [List.map_cons, List.map_cons] at h
    obtain ⟨h1, h2⟩ := List.cons.inj h
    obtain ⟨i1, i2⟩ := find_lit (z := z) hl h2
    have hk : x = k := by unfold keyS at h1; rw [hx] at h1; exact Option.some.inj h1
    subst hk
    have hs : e.key.isStr z = decide (x = z) := by
      rw [hx, PySem.W.isStr_of]
      by_cases e : x = z
      · subst e; simp [Value.isStrOf]
      · rw [decide_eq_false e]
        simp [Value.isStrOf, e]
    refine ⟨?_, ?_⟩
    · rw [List.find?_cons, hs]
      by_cases e : x = z
      · simp [e]
      · rw [decide_eq_false e]
        simp only [i1]
        have : z ≠ x := fun y => e y.symm
        simp [this]
    · rw [List.any_cons, i2, Bool.or_false]
      unfold DictEntry.refKey
      rw [hx]
theorem TabM.ns {K : PySem.W.Frag} {w : World} {p : Addr} {ks : List Str} (T : TabM K w p ks) (z : Str) : ∃ r, PySem.W.nsIn K p z = some r ∧ r.isSome = decide (z ∈ ks) := by
  obtain ⟨es, n, h1, h2, h3⟩ := T.ex
  obtain ⟨i1, i2⟩ := find_lit (z := z) h2 h3
  unfold PySem.W.nsIn
  rw [h1]
  dsimp only
  cases e : es.toList.find? (·.key.isStr z) with
  | some v =>
    rw [e] at i1
    exact ⟨some v.val, rfl, i1⟩
  | none =>
    rw [e] at i1
    refine ⟨none, ?_, i1⟩
    rw [i2]
    rfl
def gInK (ks : List Str) : D → Store → Option (D × Store)
  | .str z, S => some (.bl (decide (z ∈ ks)), S)
  | _, _ => none
def gNinK (ks : List Str) : D → Store → Option (D × Store)
  | .str z, S => some (.bl (!decide (z ∈ ks)), S)
  | _, _ => none
section
variable {X : Cx} {W : WX} {a : Expr} {fa : EX} {p1 pos : Pos} {x : Str} {p : Addr} {ks : List Str}
theorem k1g {v : V} {g : D → Store → Option (D × Store)} {r : R2} (k : ∀ m u H S Q d, RD X.K m H u d → RS X.K m H S → VPost X.K m H Q (g d S) → r u v H Q) : ∀ σ H Q, rdE (X.cq W) (e1 g fa) σ H Q → tOp r (rdE (X.cq W) fa) (tC v) σ H Q := fun σ H Q ⟨m, ρ, S, re, rs, h⟩ =>
  ⟨m, ρ, S, re, rs, (Post.bind h).imp fun u H1 ⟨m1, d, S1, e, rs1, rd, h1⟩ => k m1 u H1 S1 Q d rd rs1 (VPost.of h1)⟩
theorem kin {T : TabM X.K X.w p ks} {m : List Addr} {u : V} {H : Hp} {S : Store} {Q : VK} {d : D} (rd : RD X.K m H u d) (rs : RS X.K m H S) (h : VPost X.K m H Q (gInK ks d S)) :
    ∃ (z : Str) (r : Option Value), u = .str z ∧ (V.ref p) = .ref p ∧ PySem.W.nsIn X.K p z = some r ∧ Q (.bl r.isSome) H := by
  unfold gInK at h
  split at h
  · rename_i z
    cases rd with
    | str hz =>
      obtain ⟨r, h1, h2⟩ := T.ns z
      exact ⟨z, r, rfl, rfl, h1, by rw [h2]; exact h _ _ m .refl rs (.bl _)⟩
  · exact h.elim
theorem knin {T : TabM X.K X.w p ks} {m : List Addr} {u : V} {H : Hp} {S : Store} {Q : VK} {d : D} (rd : RD X.K m H u d) (rs : RS X.K m H S) (h : VPost X.K m H Q (gNinK ks d S)) :
    ∃ (z : Str) (r : Option Value), u = .str z ∧ (V.ref p) = .ref p ∧ PySem.W.nsIn X.K p z = some r ∧ Q (.bl (!r.isSome)) H := by
  unfold gNinK at h
  split at h
  · rename_i z
    cases rd with
    | str hz =>
      obtain ⟨r, h1, h2⟩ := T.ns z
      exact ⟨z, r, rfl, rfl, h1, by rw [h2]; exact h _ _ m .refl rs (.bl _)⟩
  · exact h.elim
theorem TabM.kd {K : PySem.W.Frag} {w : World} (T : TabM K w p ks) (hs : (p == sysModules) = false) : ∃ es n, KDict K w p es n := by
  obtain ⟨es, n, h1, h2, h3⟩ := T.ex
  exact ⟨es, n, h1, h2, hs⟩
theorem d_tInK (T : TabM X.K X.w p ks) (hs : (p == sysModules) = false) (hg : Gl X x) (hm : X.mg x = some (.ref p)) (ha : PE X a (rdE (X.cq W) fa)) (hd : (x == ("__debug__" : Str)) = false := by decide) (hmk : behindInMarks .In (.Name x p1) = false := by first | exact nomark _ | rfl) :
    PT X (.Compare a [.In] [.Name x p1] pos) (rdT (X.cq W) (tE (e1 (gInK ks) fa))) := by
  obtain ⟨es, n, D⟩ := T.kd hs
  exact d_te (pt_cmpR (op_in_kd D) ha (pe_glob (v := .ref p) hg hm rfl hd) hmk) (k1g fun m u H S Q d rd rs h => kin (T := T) rd rs h)
theorem d_tNinK (T : TabM X.K X.w p ks) (hs : (p == sysModules) = false) (hg : Gl X x) (hm : X.mg x = some (.ref p)) (ha : PE X a (rdE (X.cq W) fa)) (hd : (x == ("__debug__" : Str)) = false := by decide) (hmk : behindInMarks .NotIn (.Name x p1) = false := by first | exact nomark _ | rfl) :
    PT X (.Compare a [.NotIn] [.Name x p1] pos) (rdT (X.cq W) (tE (e1 (gNinK ks) fa))) := by
  obtain ⟨es, n, D⟩ := T.kd hs
  exact d_te (pt_cmpR (op_notIn_kd D) ha (pe_glob (v := .ref p) hg hm rfl hd) hmk) (k1g fun m u H S Q d rd rs h => knin (T := T) rd rs h)
end
/-! ## a def called without arguments -/
theorem d_call0 {X : Cx} {W : WX} {CX : CXT} {k : Nat} {f : Addr} {fd : FuncData} {ps : List Str} {F : List D → M D} {x : Str} {p pos : Pos} (G : FnOk X.prog X.w X.K X.mg X.base CX k f fd ps (rdF ⟨X.K, X.mg, W0⟩ F)) (hr : Room k X.A) (hg : Gl X x) (hm : X.mg x = some (.ref f)) (hk : PySem.W.keepIn X.K (.ref f) = true) (hb : Binds X.K fd ps []) (hx : ∀ σ, PassesAt CX X σ (WE W σ))
    (hdb : (x == ("__debug__" : Str)) = false := by decide) : PE X (.Call (.Name x p) [] [] pos) (rdE (X.cq W) (eF F aN)) := by
  refine ⟨fun pins s σ H Q I ⟨m, ρ, S, re, rs, h⟩ => ?_⟩
  refine wpAny_Call_Name_kw (ld_glob I hg hm ?_ hdb)
  refine PySem.W.callWith_K0 I.kIn hk (run_fnS G hr hb (hx σ) I .nil ⟨m, [], S, .nil, rs, ?_⟩)
  have h1 : Post (X.cq W) (relD (X.cq W)) m H σ Q (F [] S) := h
  cases er : F [] S with
  | ok d S2 => rw [er] at h1; exact h1
  | ex ex S2 => rw [er] at h1; exact h1
  | no => rw [er] at h1; exact h1
/-! ## a module's tuple of texts -/
inductive SVals : List Str → List Value → Prop
  | nil : SVals [] []
  | cons {x : Str} {t : Tok} {xs : List Str} {us : List Value} (h : x.length ≤ 16777216) (r : SVals xs us) : SVals (x :: xs) (.str x t :: us)
theorem SVals.vals : ∀ {xs : List Str} {us : List Value}, SVals xs us → Vals (xs.map V.str) us
  | _, _, .nil => .nil
  | _, _, .cons h r => .cons ⟨_, rfl⟩ r.vals
theorem SVals.rds {K : PySem.W.Frag} {m : List Addr} {H : Hp} : ∀ {xs : List Str} {us : List Value}, SVals xs us → RDs K m H (xs.map V.str) (xs.map D.str)
  | _, _, .nil => .nil
  | _, _, .cons h r => .cons (.str h) r.rds
theorem tupK_rd {K : PySem.W.Frag} {a : Addr} {its : Array Value} {n : Nat} {sl : Array (Option Value)} {xs : List Str} {us : List Value} (hl : K.lookup a = some ⟨.type "tuple", none, .seq its n, sl⟩) (hv : its.toList = us) (hz : us.length ≤ 1000) (r : SVals xs us) (m : List Addr) (H : Hp) : RD K m H (.ref a) (.tup (xs.map D.str)) := by
  have hs : its.size ≤ sizeLine := by
    have h1 : its.size = us.length := by rw [← hv, Array.length_toList]
    have h2 : (1000 : Nat) ≤ sizeLine := by decide
    omega
  exact .tup (.inr ⟨_, its, n, hl, rfl, rfl, rfl, hs, by rw [hv]; exact r.vals⟩) r.rds
end Dl

set_option Elab.async false
set_option linter.all false
set_option maxRecDepth 100000
namespace Dl
open PySem L2
/-! ## DlAD's forms, evaluated -/
def joinC (a : Str) (S : Store) : Option (List Str) → Option (D × Store)
  | some ys => if (ys.map (·.length)).sum + ys.length * a.length ≤ 16777216 ∧ (Txt.join a ys).length ≤ LIM then some (.str (Txt.join a ys), S) else none
  | none => none
theorem gJoin_r {a : Str} {l : Nat} {S : Store} : gJoin (.str a) [.ref l] S = joinC a S ((lstC S[l]?).bind strsO) := by
  show ((lstAt S l).bind fun xs => (strsO xs).bind _) = _
  rw [lstAt_C]
  cases lstC S[l]? with
  | none => rfl
  | some xs => show (strsO xs).bind _ = joinC a S (strsO xs); cases strsO xs <;> rfl
theorem joinC_ {a : Str} {S : Store} {ys : List Str} (h : (ys.map (·.length)).sum + ys.length * a.length ≤ 16777216 ∧ (Txt.join a ys).length ≤ LIM) : joinC a S (some ys) = some (.str (Txt.join a ys), S) := if_pos h
theorem gUpper_ {a : Str} {S : Store} (h : a.length ≤ 5592405 ∧ (Txt.upper a).length ≤ LIM) : gUpper (.str a) [] S = some (.str (Txt.upper a), S) := if_pos h
theorem gRepl_ {x y z : Str} {S : Store} (h : x.length + (x.length + 1) * z.length ≤ 16777216 ∧ (Txt.replace x y z).length ≤ LIM) : gRepl y z (.str x) S = some (.str (Txt.replace x y z), S) := if_pos h
theorem gInK_ {ks : List Str} {z : Str} {S : Store} : gInK ks (.str z) S = some (.bl (decide (z ∈ ks)), S) := nr rfl
theorem gNinK_ {ks : List Str} {z : Str} {S : Store} : gNinK ks (.str z) S = some (.bl (!decide (z ∈ ks)), S) := nr rfl
end Dl

set_option Elab.async false
set_option linter.all false
set_option maxRecDepth 100000
namespace Dl
open PySem PySem.Spec PyProof.Rows L2
/-! ## repr -/
def gRepr (lim : Nat) : List D → Store → Option (D × Store)
  | [x], S => match asP S x with
    | some p => if p.depth + 1 ≤ lim ∧ p.showable = true ∧ p.hasDict = false ∧ p.shown.length ≤ 16777216 then some (.str p.shown, S) else none
    | none => none
  | _, _ => none
theorem c_repr {X : Cx} {lim : Nat} (hg : X.A.guards = some []) (hu : X.A.units + lim < cLine) : CallR X (.builtin "repr") (rdC X.K (gRepr lim)) := by
  intro pins s σ H vs us Q I r ⟨m, xs, S, hx, rs, h⟩
  unfold gRepr at h
  split at h
  · rename_i x
    split at h
    · rename_i p e
      split at h
      · rename_i c
        obtain ⟨c1, c2, c3, c4⟩ := c
        cases hx with
        | cons h1 h2 =>
          cases h2
          cases r with
          | cons rv r2 =>
            cases r2
            obtain ⟨d1, p1⟩ := asP_of rs h1 e
            obtain ⟨as, q⟩ := Dp.reads I _ _ _ d1 rv
            have fin : ∀ {u : Tok} {s1 : Shared}, Inv X pins σ H s1 → EP X pins σ Q (.str p.shown u) s1 := fun J => ⟨.str _, H, J, ⟨_, rfl⟩, h _ _ m .refl rs (.str c4)⟩
            cases q with
            | none => exact PySem.P.repr_of_none (fin (I.tok _))
            | bool b => exact PySem.P.repr_of_bool (fin (I.tok _))
            | int i t => exact PySem.P.repr_of_int (of_decide_eq_true c2) (fin (I.tok _))
            | str y t => exact PySem.P.repr_of_str (fin (I.tok _)) c4
            | list g1 g2 g3 g4 => exact repr_of_reads' (.list g1 g2 g3 g4) c2 (fun z => by rw [c3] at z; exact nomatch z) hg (by omega) (fun _ _ z => z) (fun h' u tk k => fin (I.kept k)) c4
            | tuple g1 g2 g3 g4 => exact repr_of_reads' (.tuple g1 g2 g3 g4) c2 (fun z => by rw [c3] at z; exact nomatch z) hg (by omega) (fun _ _ z => z) (fun h' u tk k => fin (I.kept k)) c4
            | dict g1 g2 g3 g4 g5 => exact nomatch c3
      · exact h.elim
    · exact h.elim
  · exact h.elim
end Dl

set_option Elab.async false
set_option linter.all false
set_option maxRecDepth 100000
namespace Dl
open PySem L2
/-! ## reverse, reversed in a loop, evaluated -/
def revC (l : Nat) (S : Store) : Option Cell → Option (D × Store)
  | some (.lst xs) => some (.non, S.set l (.lst xs.reverse))
  | _ => none
theorem gReverse_r {l : Nat} {S : Store} : gReverse (.ref l) [] S = revC l S S[l]? := by
  show (match S[l]? with | some (.lst xs) => some (D.non, S.set l (.lst xs.reverse)) | _ => none) = _
  cases S[l]? with
  | none => rfl
  | some c => cases c <;> rfl
theorem revC_s {l : Nat} {S : Store} {xs : List D} : revC l S (some (.lst xs)) = some (.non, S.set l (.lst xs.reverse)) := nr rfl
def revI (l : Nat) (S : Store) : Option (List D) → R (List D × Chk)
  | some xs => .ok (xs.reverse, [(l, xs)]) S
  | none => .no
def kVV : R D → R (List D × Chk)
  | .ok (.tup xs) S => .ok (xs.reverse, []) S
  | .ok (.ref l) S => revI l S (lstC S[l]?)
  | .ok _ _ => .no
  | .ex x S => .ex x S
  | .no => .no
theorem iV_ {f : EX} {ρ : Env} {S : Store} : iV f ρ S = kVV (f ρ S) := by
  unfold iV
  cases h : f ρ S with
  | ok d S1 =>
    cases d with
    | ref l =>
      show (match lstAt S1 l with | some xs => R.ok (xs.reverse, [(l, xs)]) S1 | none => .no) = revI l S1 (lstC S1[l]?)
      rw [lstAt_C]
      cases lstC S1[l]? <;> rfl
    | _ => rfl
  | ex x S => rfl
  | no => rfl
theorem kVV_t {xs : List D} {S : Store} : kVV (.ok (.tup xs) S) = .ok (xs.reverse, []) S := nr rfl
theorem kVV_r {l : Nat} {S : Store} : kVV (.ok (.ref l) S) = revI l S (lstC S[l]?) := nr rfl
theorem revI_s {l : Nat} {S : Store} {xs : List D} : revI l S (some xs) = .ok (xs.reverse, [(l, xs)]) S := nr rfl
end Dl

set_option Elab.async false
set_option linter.all false
set_option maxRecDepth 100000
namespace Dl
open PySem PySem.Spec PyProof.Rows L2
/-! ## reversed(range(n)) in a loop -/
def iW (f : EX) : IX := fun ρ S => (f ρ S).bind fun d S1 => match d with
  | .int j => if -(2 ^ 62) ≤ j ∧ j < 2 ^ 62 then .ok ((rng 0 j.toNat).reverse, []) S1 else .no
  | _ => .no
theorem it_rngR {K : PySem.W.Frag} {m : List Addr} {H : Hp} {n : Nat} : ItOk K m H (Itc (0 + ((n : Nat) : Int) - 1) (-1) n) (rng 0 n).reverse [] := by
  intro i m' H' S e rs hk
  have hl : (rng 0 n).length = n := by unfold rng; rw [List.length_map, List.length_range]
  refine ⟨fun d hd => ?_, fun h => by rw [List.length_reverse, hl] at h; exact h⟩
  have hi : i < n := by have := (List.getElem?_eq_some_iff.mp hd).1; rwa [List.length_reverse, hl] at this
  rw [List.getElem?_reverse (by rw [hl]; exact hi), hl] at hd
  unfold rng at hd
  rw [List.getElem?_map, List.getElem?_range (by omega)] at hd
  cases hd
  refine ⟨hi, fun x H'' y => ?_⟩
  obtain ⟨eH, y⟩ := y
  subst eH y
  refine ⟨m', .refl, rs, ?_⟩
  rw [show (0 : Int) + ((n : Nat) : Int) - 1 + ((i : Nat) : Int) * (-1) = 0 + ((n - 1 - i : Nat) : Int) by omega]
  exact .int _
section
variable {X : Cx} {W : WX} {tg a : Expr} {f : EX} {pos p pos2 p2 : Pos}
theorem w_revR (hg : Gl X "reversed") (hm : X.mg "reversed" = none) (hg2 : Gl X "range") (hm2 : X.mg "range" = none) (ha : PE X a (rdE (X.cq W) f)) (hs : starEach [a] X.env = (false, eval a X.env) :: starEach [] X.env := by rfl)
    (hs2 : starEach [.Call (.Name "range" p2) [a] [] pos2] X.env = (false, eval (.Call (.Name "range" p2) [a] [] pos2) X.env) :: starEach [] X.env := by rfl) : PI X tg (.Call (.Name "reversed" p) [.Call (.Name "range" p2) [a] [] pos2] [] pos) (rdI (X.cq W) (iW f)) :=
  PIwk (pi_revR hg hm (prg_1 hg2 hm2 ha hs) hs2) fun σ H R' ⟨m, ρ, S, re, rs, q⟩ => ⟨m, ρ, S, re, rs, (src_bind (rel := relD (X.cq W)) q).imp fun v H1 ⟨m1, d, S1, e1, rs1, rd, q1⟩ => by
    cases rd with
    | int j =>
      simp only at q1
      split at q1
      · rename_i hz
        refine ⟨j, rfl, by decide, by decide, hz.1, hz.2, ?_⟩
        rw [Int.sub_zero]
        exact q1 _ _ m1 .refl rs1 it_rngR
      · exact q1.elim
    | _ => exact q1.elim⟩
end
/-! ### evaluated -/
def kW : R D → R (List D × Chk)
  | .ok (.int j) S => if -4611686018427387904 ≤ j ∧ j < 4611686018427387904 then .ok ((rng 0 j.toNat).reverse, []) S else .no
  | .ok _ _ => .no
  | .ex x S => .ex x S
  | .no => .no
theorem iW_ {f : EX} {ρ : Env} {S : Store} : iW f ρ S = kW (f ρ S) := by
  unfold iW
  cases h : f ρ S with
  | ok d S1 => cases d <;> rfl
  | ex x S => rfl
  | no => rfl
theorem kW_ {j : Int} {S : Store} (h0 : -4611686018427387904 ≤ j) (h1 : j < 4611686018427387904) : kW (.ok (.int j) S) = .ok ((rng 0 j.toNat).reverse, []) S := if_pos ⟨h0, h1⟩
end Dl

set_option Elab.async false
set_option linter.all false
set_option maxRecDepth 100000
namespace Dl
open PySem L2
/-! ## a table's tuple of numbers -/
inductive IVals : List Int → List Value → Prop
  | nil : IVals [] []
  | cons {x : Int} {t : Tok} {xs : List Int} {us : List Value} (r : IVals xs us) : IVals (x :: xs) (.int x t :: us)
theorem IVals.vals : ∀ {xs : List Int} {us : List Value}, IVals xs us → Vals (xs.map V.int) us
  | _, _, .nil => .nil
  | _, _, .cons r => .cons ⟨_, rfl⟩ r.vals
theorem IVals.rds {K : PySem.W.Frag} {m : List Addr} {H : Hp} : ∀ {xs : List Int} {us : List Value}, IVals xs us → RDs K m H (xs.map V.int) (xs.map D.int)
  | _, _, .nil => .nil
  | _, _, .cons r => .cons (.int _) r.rds
theorem tupK_rdi {K : PySem.W.Frag} {a : Addr} {its : Array Value} {n : Nat} {sl : Array (Option Value)} {xs : List Int} {us : List Value} (hl : K.lookup a = some ⟨.type "tuple", none, .seq its n, sl⟩) (hv : its.toList = us) (hz : us.length ≤ 1000) (r : IVals xs us) (m : List Addr) (H : Hp) : RD K m H (.ref a) (.tup (xs.map D.int)) := by
  have hs : its.size ≤ sizeLine := by
    have h1 : its.size = us.length := by rw [← hv, Array.length_toList]
    have h2 : (1000 : Nat) ≤ sizeLine := by decide
    omega
  exact .tup (.inr ⟨_, its, n, hl, rfl, rfl, rfl, hs, by rw [hv]; exact r.vals⟩) r.rds
end Dl

set_option Elab.async false
set_option linter.all false
set_option maxRecDepth 100000
namespace Dl
open PySem L2
/-! ## k in d, k not in d, for a dict too -/
def gInX (x y : D) (S : Store) : Option (D × Store) := match gDin (fun b => b) x y S with
  | some r => some r
  | none => gIn x y S
def gNinX (x y : D) (S : Store) : Option (D × Store) := match gDin (fun b => !b) x y S with
  | some r => some r
  | none => gNin x y S
section
variable {X : Cx}
theorem gDin_some {f : Bool → Bool} {x y : D} {S : Store} {r : D × Store} (e : gDin f x y S = some r) : ∃ l kvs k, y = .ref l ∧ S[l]? = some (.dic kvs) ∧ keyD x = some k ∧ r = (.bl (f (findK kvs k).isSome), S) := by
  unfold gDin at e
  split at e
  · rename_i l
    split at e
    · rename_i kvs k es ek
      cases e
      exact ⟨l, kvs, k, rfl, es, ek, rfl⟩
    · cases e
  · cases e
theorem find_some {K : PySem.W.Frag} {m : List Addr} {H : Hp} {k : Key} {kvs : List (Key × D)} {ws : List (Key × V)} (h1 : ws.map (·.1) = kvs.map (·.1)) (h2 : RDs K m H (ws.map (·.2)) (kvs.map (·.2))) : (valV ws k).isSome = (findK kvs k).isSome := by
  cases e : findK kvs k with
  | none => rw [find_none h1 e]; rfl
  | some d =>
    obtain ⟨v, e1, _⟩ := find_rd h1 h2 e
    rw [e1]; rfl
theorem o_inX (hu : X.A.units + 65 < cLine) : OpR X (compareOp .In) (rd2 X.K gInX) := by
  intro pins s σ H v u vv uu Q I rv ru ⟨m, x, y, S, hx, hy, rs, h⟩
  cases e : gDin (fun b => b) x y S with
  | none =>
    have e2 : gInX x y S = gIn x y S := by unfold gInX; rw [e]
    rw [e2] at h
    exact o_in hu pins s σ H v u vv uu Q I rv ru ⟨m, x, y, S, hx, hy, rs, h⟩
  | some r =>
    have e2 : gInX x y S = some r := by unfold gInX; rw [e]
    rw [e2] at h
    obtain ⟨l, kvs, k, rfl, es, ek, rfl⟩ := gDin_some e
    cases hy with
    | ref hl =>
      obtain ⟨ws, g1, g2, g3⟩ := rs.at_ hl es
      have eu := key_rd hx ek
      subst eu
      rename_i a
      obtain rfl : uu = Value.ref a := ru
      refine d_in (by omega) I (DGet.k g1) rv fun s' I' => ⟨.bl _, H, I', rfl, ?_⟩
      rw [find_some g2 g3]
      exact h _ _ m .refl rs (.bl _)
theorem o_ninX (hu : X.A.units + 65 < cLine) : OpR X (compareOp .NotIn) (rd2 X.K gNinX) := by
  intro pins s σ H v u vv uu Q I rv ru ⟨m, x, y, S, hx, hy, rs, h⟩
  cases e : gDin (fun b => !b) x y S with
  | none =>
    have e2 : gNinX x y S = gNin x y S := by unfold gNinX; rw [e]
    rw [e2] at h
    exact o_nin hu pins s σ H v u vv uu Q I rv ru ⟨m, x, y, S, hx, hy, rs, h⟩
  | some r =>
    have e2 : gNinX x y S = some r := by unfold gNinX; rw [e]
    rw [e2] at h
    obtain ⟨l, kvs, k, rfl, es, ek, rfl⟩ := gDin_some e
    cases hy with
    | ref hl =>
      obtain ⟨ws, g1, g2, g3⟩ := rs.at_ hl es
      have eu := key_rd hx ek
      subst eu
      rename_i a
      obtain rfl : uu = Value.ref a := ru
      refine d_notIn (by omega) I (DGet.k g1) rv fun s' I' => ⟨.bl _, H, I', rfl, ?_⟩
      rw [find_some g2 g3]
      exact h _ _ m .refl rs (.bl _)
end
/-! ### their evaluation -/
def inC (f : Bool → Bool) (s : Str) (S : Store) (z : Option (D × Store)) : Option Cell → Option (D × Store)
  | some (.dic kvs) => some (.bl (f (findK kvs (.inr s)).isSome), S)
  | _ => z
theorem gInX_r {s : Str} {l : Nat} {S : Store} : gInX (.str s) (.ref l) S = inC (fun b => b) s S (gIn (.str s) (.ref l) S) S[l]? := by
  cases e : S[l]? with
  | none => simp only [gInX, gDin, keyD, e]; rfl
  | some c => cases c <;> (simp only [gInX, gDin, keyD, e]; rfl)
theorem gNinX_r {s : Str} {l : Nat} {S : Store} : gNinX (.str s) (.ref l) S = inC (fun b => !b) s S (gNin (.str s) (.ref l) S) S[l]? := by
  cases e : S[l]? with
  | none => simp only [gNinX, gDin, keyD, e]; rfl
  | some c => cases c <;> (simp only [gNinX, gDin, keyD, e]; rfl)
theorem inC_d {f : Bool → Bool} {s : Str} {S : Store} {z : Option (D × Store)} {kvs : List (Key × D)} : inC f s S z (some (.dic kvs)) = some (.bl (f (findK kvs (.inr s)).isSome), S) := nr rfl
end Dl

set_option Elab.async false
set_option linter.all false
set_option maxRecDepth 100000
set_option maxHeartbeats 4000000
namespace Dl
open PySem PySem.Spec PyProof.Rows L2
/-! ## a tuple, times -/
def gRepT : D → D → Store → Option (D × Store)
  | .tup xs, .int k, S => if 0 < xs.length ∧ xs.length ≤ 1000 ∧ 2 ≤ k ∧ k ≤ 1000 then some (.tup (List.replicate k.toNat xs).flatten, S) else none
  | _, _, _ => none
theorem o_repT {X : Cx} : OpR X (binaryOp .Mult) (rd2 X.K gRepT) := by
  intro pins s σ H v u vv uu Q I rv ru ⟨m, x, y, S, hx, hy, rs, h⟩
  unfold gRepT at h
  split at h
  · rename_i xs k
    split at h
    · rename_i hc
      obtain ⟨z0, z1, z2, z3⟩ := hc
      cases hx with
      | @tup a vs ds ha r =>
        cases hy
        cases rv
        obtain ⟨t, rfl⟩ := ru
        obtain ⟨its, r1, ⟨⟨cls, dd, data, sl⟩, ho, hcls, n, hd⟩, hs⟩ := I.tuple ha.sq
        simp only at hcls hd
        subst hcls hd
        have e1 : its.length = xs.length := r1.length.symm.trans r.length
        have e2 : its.toArray.size = xs.length := by rw [List.size_toArray, e1]
        have ne : its.toArray.isEmpty = false := by
          cases its with
          | nil => rw [← e1] at z0; exact absurd z0 (Nat.lt_irrefl _)
          | cons _ _ => rfl
        have big : ((its.toArray.size : Nat) : Int) * k ≤ 1000 * 1000 := by
          rw [e2]
          exact Int.le_trans (Int.mul_le_mul_of_nonneg_right (by omega : ((xs.length : Nat) : Int) ≤ 1000) (by omega)) (Int.mul_le_mul_of_nonneg_left z3 (by decide))
        have small : ∀ {α : Type} (l : List α), l.length = xs.length → (List.replicate k.toNat l).flatten.length ≤ sizeLine := fun l hl => by
          rw [PyProof.Rows.lm_len_rep_flat, hl, sizeLine_eq]
          exact Nat.le_trans (Nat.mul_le_mul (by omega : k.toNat ≤ 1000) z1) (by decide)
        have sz := L2.size_rep its k.toNat
        refine wpAny_binaryOp_repeat_ref (T := "tuple") (U := "int") (by decide) ⟨_, ho, rfl⟩ (fun s' => typeIs_int s' k t) L2.noFill_tuple_mul F.fills_int_mul F.slot_int_rmul L2.repeat_tuple F.slot_int_index.lookup
          (call_meets F.slot_int_rmul (typeIs_int s k t) F.entry_int_rmul (F.args_int_rmul_2 _ _) (L2.int_rmul_tuple k t a its.toArray n dd sl) ⟨ho, rfl, ⟨_, ho, rfl⟩, call_meets F.slot_tuple_mul ⟨_, ho, rfl⟩ F.entry_tuple_mul (F.args_tuple_mul_2 _ _)
            (L2.tuple_mulW a its.toArray n dd sl k t (by rw [decide_eq_false (by omega), decide_eq_false (by omega)] <;> rfl) (by rw [ne, Bool.false_or]; exact beq_eq_false_iff_ne.mpr (by omega)) (by rw [ne, Bool.or_false]; exact decide_eq_false (by omega)) (by omega)
              (by unfold Builtin.Tuple.tupleTooMany; rw [sizeLine_eq]; exact decide_eq_false (by omega)) (by rw [sz, List.size_toArray]; exact small its e1)) ⟨ho, ?_⟩⟩)
        rw [sz]
        exact lay_tup (tk := s.toks) I (small vs r.length) (r1.rep k.toNat) fun o hc hd => vp_tup rs (I.hok.fresh (Nat.le_refl _)) hc hd (RDs.rep r k.toNat) h
    · exact h.elim
  · exact h.elim
theorem gRepT_ {xs : List D} {k : Int} {S : Store} (h0 : 0 < xs.length) (h1 : xs.length ≤ 1000) (h2 : 2 ≤ k) (h3 : k ≤ 1000) : gRepT (.tup xs) (.int k) S = some (.tup (List.replicate k.toNat xs).flatten, S) := if_pos ⟨h0, h1, h2, h3⟩
end Dl

set_option Elab.async false
set_option linter.all false
set_option maxRecDepth 100000
set_option maxHeartbeats 4000000
namespace Dl
open PySem PySem.Spec PyProof.Rows L2
/-! ## a statement, an expression of which nothing is said -/
def eNo : EX := fun _ _ => .no
section
variable {X : Cx} {W : WX}
theorem d_no {e : Expr} : PE X e (rdE (X.cq W) eNo) := ⟨fun pins s σ H Q I ⟨m, ρ, S, re, rs, h⟩ => h.elim⟩
theorem eNo_ {ρ : Env} {S : Store} : eNo ρ S = .no := nr rfl
end
/-! ## x.startswith(y) -/
def gStartsW : D → List D → Store → Option (D × Store)
  | .str a, [.str b], S => some (.bl (Txt.startswith a b), S)
  | _, _, _ => none
theorem m_startsW {X : Cx} : MtR X "str.startswith" (rdM X.K gStartsW) := by
  intro pins s σ H v vs vv us Q I rv rvs ⟨m, x, xs, S, hx, hxs, rs, h⟩
  unfold gStartsW at h
  split at h
  · rename_i a b
    cases hx with
    | str ha =>
      cases hxs with
      | cons g1 g2 =>
        cases g2
        cases g1 with
        | str hb => exact mt_startswith pins s σ H _ _ vv us Q I rv rvs ⟨a, b, rfl, rfl, h _ _ m .refl rs (.bl _)⟩
  · exact h.elim
theorem gStartsW_ {a b : Str} {S : Store} : gStartsW (.str a) [.str b] S = some (.bl (Txt.startswith a b), S) := nr rfl
/-! ## a text, times -/
def repS (x : Str) (k : Int) : Str := ⟨(List.replicate k.toNat x.cps.toList).flatten.toArray⟩
def gRepS : D → D → Store → Option (D × Store)
  | .str x, .int k, S => if 0 ≤ k ∧ k ≤ 4096 ∧ x.length ≤ 1024 then some (.str (repS x k), S) else none
  | _, _, _ => none
theorem foldl_cps (l : Array Nat) : ∀ (n : Nat) (acc : Array Nat), ((List.replicate n l).foldl (· ++ ·) acc).toList = acc.toList ++ (List.replicate n l.toList).flatten
  | 0, acc => by simp
  | n + 1, acc => by
    rw [List.replicate_succ, List.foldl_cons, foldl_cps l n, List.replicate_succ, List.flatten_cons, Array.toList_append, List.append_assoc]
theorem repS_cps (x : Str) (k : Int) : (⟨(List.replicate k.toNat x.cps).foldl (· ++ ·) #[]⟩ : Str) = repS x k := by
  unfold repS
  congr 1
  rw [← Array.toList_inj, foldl_cps]
  rfl
theorem repS_len (x : Str) (k : Int) : (repS x k).length = k.toNat * x.length := by
  show (List.replicate k.toNat x.cps.toList).flatten.toArray.size = _
  rw [List.size_toArray, PyProof.Rows.lm_len_rep_flat]
  rfl
theorem o_repS {X : Cx} : OpR X (binaryOp .Mult) (rd2 X.K gRepS) := by
  intro pins s σ H v u vv uu Q I rv ru ⟨m, x, y, S, hx, hy, rs, h⟩
  unfold gRepS at h
  split at h
  · rename_i x k
    split at h
    · rename_i hc
      obtain ⟨h0, h1, h2⟩ := hc
      cases hx with
      | str ha =>
        cases hy
        obtain ⟨t, rfl⟩ := rv
        obtain ⟨t', rfl⟩ := ru
        have hm : k.toNat * x.length ≤ 4096 * 1024 := Nat.mul_le_mul (by omega) h2
        have hl : (repS x k).length ≤ LIM := by rw [repS_len]; exact Nat.le_trans hm (by decide)
        have fin : ∀ (w : Value) (s' : Shared), Inv X pins σ H s' → RelV (.str (repS x k)) w → EP X pins σ Q w s' := fun w s' I' rw' => ⟨.str (repS x k), H, I', rw', h _ _ m .refl rs (.str hl)⟩
        refine PySem.P.mul_str (by rw [decide_eq_false (by omega), decide_eq_false (by omega)]; rfl) (fun a b => ?_) (fun a b => ?_) ?_
        · have hk : 0 < k := by omega
          have : (x.length : Int) ≤ (2 ^ 63 - 1) / k := (Int.le_ediv_iff_mul_le hk).mpr (by
            have e : ((x.length : Nat) : Int) * k ≤ 1024 * 4096 := Int.le_trans (Int.mul_le_mul_of_nonneg_right (by omega : ((x.length : Nat) : Int) ≤ 1024) (by omega)) (Int.mul_le_mul_of_nonneg_left h1 (by decide))
            omega)
          omega
        · unfold Builtin.Str.tooLong
          rw [sizeLine_eq]
          refine decide_eq_false ?_
          rw [Nat.mul_comm]
          omega
        · have hl2 : (repS x k).length ≤ sizeLine := by rw [← lim_eq]; exact hl
          split
          · rename_i hk
            have e0 : k = 0 := by omega
            have e : Str.empty = repS x k := by rw [e0]; rfl
            refine ⟨by decide, ?_⟩
            refine fin _ _ (I.tok _) ?_
            rw [← e]
            exact ⟨_, rfl⟩
          · split
            · rename_i hk hc
              have e : repS x k = x := by
                rcases Bool.or_eq_true_iff.mp hc with q | q
                · have : k = 1 := by simpa using q
                  subst this
                  unfold repS
                  show (⟨(x.cps.toList ++ []).toArray⟩ : Str) = x
                  rw [List.append_nil]
                · have q : x.length = 0 := by simpa using q
                  have : x.cps.toList = [] := List.eq_nil_of_length_eq_zero (by rw [Array.length_toList]; exact q)
                  have hx : x = ⟨#[]⟩ := by
                    cases x with
                    | mk a => rw [show a = #[] from by rw [← Array.toList_inj]; exact this]
                  subst hx
                  unfold repS
                  show (⟨(List.replicate k.toNat []).flatten.toArray⟩ : Str) = _
                  have : (List.replicate k.toNat ([] : List Nat)).flatten = [] := by simp
                  rw [this]
              refine fin _ _ I ?_
              rw [e]
              exact ⟨_, rfl⟩
            · refine ⟨?_, ?_⟩
              · rw [repS_cps]; exact hl2
              · refine fin _ _ (I.tok _) ?_
                rw [repS_cps]
                exact ⟨_, rfl⟩
    · exact h.elim
  · exact h.elim
theorem gRepS_ {x : Str} {k : Int} {S : Store} (h0 : 0 ≤ k) (h1 : k ≤ 4096) (h2 : x.length ≤ 1024) : gRepS (.str x) (.int k) S = some (.str (repS x k), S) := if_pos ⟨h0, h1, h2⟩
end Dl

set_option Elab.async false
set_option linter.all false
set_option maxRecDepth 100000
set_option maxHeartbeats 4000000
namespace Dl
open PySem PySem.Spec PyProof.Rows L2
/-! ## a def with defaults; a call with a keyword -/
section
variable {X : Cx} {W : WX} {CX : CXT} {k : Nat} {f : Addr} {fd : FuncData} {ps : List Str} {F : List D → M D} {x : Str} {p pos : Pos} {e : Expr} {es : List Expr} {fx fk : AX} {ds : List Value} {dvs : List V} {dd : List D}
theorem run_fnD {sp : L2.Sp} {E : L2.St → XK} {pins : List (Addr × Obj)} {σ : L2.St} {H : Hp} {s : Shared} {Q : VK} {us : List Value} {vs : List V} (F : FnOk X.prog X.w X.K X.mg X.base CX k f fd ps sp) (hr : Room k X.A) (hb : Binds X.K fd ps ds) (rd : Vals dvs ds) (hx : PassesAt CX X σ (E σ)) (I : Inv X pins σ H s) (r : Vals vs us) (h : sp (vs ++ dvs) H Q (E σ)) :
    wpAny (model X.prog X.w) X.A (call (.ref f) us) (EP X pins σ Q) X.xe s := by
  have r2 := r.append rd
  have run := F.run X.A hr X.stack s H I.env0 ⟨us, []⟩ (us ++ ds) (hb s us I.kIn (r2.length ▸ F.len _ H Q (E σ) h)) (vs ++ dvs) r2 Q (E σ) h
  apply wpAny_call
  refine codeAny_mono run fun r s' z => ?_
  match r, z with
  | .ok (.ret u), z => exact I.after z
  | .error e, z => exact hx pins H s e s' I z
  | .ok .next, z | .ok .brk, z | .ok .cont, z => exact z.elim
theorem run_fnK {sp : L2.Sp} {E : L2.St → XK} {ks : List Str} {n : Nat} {g : List Value → List Value → List Value} {gV : List V → List V → List V} {pins : List (Addr × Obj)} {σ : L2.St} {H : Hp} {s : Shared} {Q : VK} {us ws : List Value} {vs zs : List V} (F : FnOk X.prog X.w X.K X.mg X.base CX k f fd ps sp) (hr : Room k X.A) (hb : KBn X.K fd ps n ks g gV) (hx : PassesAt CX X σ (E σ))
    (I : Inv X pins σ H s) (r : Vals vs us) (rz : Vals zs ws) (l1 : vs.length = n) (l2 : zs.length = ks.length) (h : sp (gV vs zs) H Q (E σ)) : wpAny (model X.prog X.w) X.A (call (.ref f) us (ks.zip ws)) (EP X pins σ Q) X.xe s := by
  have run := F.run X.A hr X.stack s H I.env0 ⟨us, ks.zip ws⟩ (g us ws) (hb.to s us ws I.kIn (r.length.symm.trans l1) (rz.length.symm.trans l2)) (gV vs zs) (hb.rel r rz) Q (E σ) h
  apply wpAny_call
  refine codeAny_mono run fun r s' z => ?_
  match r, z with
  | .ok (.ret u), z => exact I.after z
  | .error e, z => exact hx pins H s e s' I z
  | .ok .next, z | .ok .brk, z | .ok .cont, z => exact z.elim
/-- f(e, ..), the default of the last parameter(s) taken -/
theorem d_callD (G : FnOk X.prog X.w X.K X.mg X.base CX k f fd ps (rdF ⟨X.K, X.mg, W0⟩ F)) (hr : Room k X.A) (hg : Gl X x) (hm : X.mg x = some (.ref f)) (hk : PySem.W.keepIn X.K (.ref f) = true) (hb : Binds X.K fd ps ds) (rd : Vals dvs ds) (rdd : ∀ m H, RDs X.K m H dvs dd) (hx : ∀ σ, PassesAt CX X σ (WE W σ))
    (ha : PA X (e :: es) (rdA (X.cq W) fx)) (hdb : (x == ("__debug__" : Str)) = false := by decide) (he : starEach (e :: es) X.env = (false, eval e X.env) :: starEach es X.env := by rfl) (hpl : (backTo pos (starEach es X.env)).any (·.1) = false := by rfl) :
    PE X (.Call (.Name x p) (e :: es) [] pos) (rdE (X.cq W) (eF (fun xs => F (xs ++ dd)) fx)) where
  run pins s σ H Q I h := by
    apply wpAny_Call_Name_kw (ld_glob I hg hm ?_ hdb)
    refine PySem.W.callWith_K (h₀ := X.base) I.ok.mod.kin hk ?_ he hpl
    obtain ⟨m, ρ, S, re, rs, h⟩ := h
    refine thn (ha.run pos pins s σ H _ I ⟨m, ρ, S, re, rs, Post.bind h⟩) ?_
    rintro us s1 ⟨vs, H1, I1, r, m1, xs, S1, e1, rs1, rds, h1⟩
    refine ⟨I1.kIn, run_fnD (E := WE W) G hr hb rd (hx σ) I1 r ⟨m1, xs ++ dd, S1, rds.append (rdd m1 H1), rs1, ?_⟩⟩
    have h1 : Post (X.cq W) (relD (X.cq W)) m1 H1 σ Q (F (xs ++ dd) S1) := h1
    cases er : F (xs ++ dd) S1 with
    | ok d S2 => rw [er] at h1; exact h1
    | ex ex S2 => rw [er] at h1; exact h1
    | no => rw [er] at h1; exact h1
/-- the written values, then the keyword's -/
def aK (fx : AX) (f2 : EX) : AX := fun ρ S => (fx ρ S).bind fun xs S1 => (f2 ρ S1).bind fun y S2 => .ok (xs ++ [y]) S2
/-- f(e, .., kw = e2) -/
theorem d_callK1 {n : Nat} {kw : Str} {e2 : Expr} {kpos : Pos} {f2 : EX} (G : FnOk X.prog X.w X.K X.mg X.base CX k f fd ps (rdF ⟨X.K, X.mg, W0⟩ F)) (hr : Room k X.A) (hg : Gl X x) (hm : X.mg x = some (.ref f)) (hk : PySem.W.keepIn X.K (.ref f) = true) (hb : KBn X.K fd ps n [kw] (fun us ws => us ++ ws) (fun vs zs => vs ++ zs)) (hx : ∀ σ, PassesAt CX X σ (WE W σ))
    (ha : PA X (e :: es) (rdA (X.cq W) fx)) (he2 : PE X e2 (rdE (X.cq W) f2)) (hfx : ∀ ρ S xs S', fx ρ S = .ok xs S' → xs.length = n) (hdb : (x == ("__debug__" : Str)) = false := by decide)
    (hall : (backToKw pos (keywordEach [⟨some kw, e2, kpos⟩] X.env)).all (·.1.isSome) = true := by rfl) (hks : (backToKw pos (keywordEach [⟨some kw, e2, kpos⟩] X.env)).filterMap (·.1) = [kw] := by rfl)
    (he : starEach (e :: es) X.env = (false, eval e X.env) :: starEach es X.env := by rfl)
    (hpl : ((backTo pos (starEach (e :: es) X.env)).any (·.1) || (backToKw pos (keywordEach [⟨some kw, e2, kpos⟩] X.env)).any (·.1.isNone)) = false := by rfl) :
    PE X (.Call (.Name x p) (e :: es) [⟨some kw, e2, kpos⟩] pos) (rdE (X.cq W) (eF F (aK fx f2))) where
  run pins s σ H Q I h := by
    apply wpAny_Call_Name_kw (ld_glob I hg hm ?_ hdb)
    obtain ⟨m, ρ, S, re, rs, h⟩ := h
    have h : Post (X.cq W) (relD (X.cq W)) m H σ Q (((fx ρ S).bind fun xs S1 => (f2 ρ S1).bind fun y S2 => .ok (xs ++ [y]) S2).bind F) := h
    have hall' := hall
    refine PySem.W.callWith_KW (h₀ := X.base) I.ok.mod.kin hk hall ?_ hpl he
    cases er : fx ρ S with
    | no => rw [er] at h; exact h.elim
    | ex z S1 =>
      rw [er] at h
      refine thn (ha.run pos pins s σ H (fun _ _ => False) I ⟨m, ρ, S, re, rs, by rw [er]; exact h⟩) ?_
      rintro us s1 ⟨vs, H1, I1, r, q⟩
      exact q.elim
    | ok xs S1 =>
      rw [er] at h
      have hlen := hfx ρ S xs S1 er
      have h : Post (X.cq W) (relD (X.cq W)) m H σ Q (((f2 ρ S1).bind fun y S2 => .ok (xs ++ [y]) S2).bind F) := h
      refine thn (ha.run pos pins s σ H (fun vs H1 => ∃ m1, Ext X.K m H m1 H1 ∧ RS X.K m1 H1 S1 ∧ RDs X.K m1 H1 vs xs) I ⟨m, ρ, S, re, rs, by rw [er]; exact fun b H' m' e rs rl => ⟨m', e, rs, rl⟩⟩) ?_
      rintro us s1 ⟨vs, H1, I1, r, m1, e1, rs1, rds⟩
      have hpk : PK X [⟨some kw, e2, kpos⟩] (tCons (rdE (X.cq W) f2) tNil) := pk_cons he2 pk_nil
      have h2 : Post (X.cq W) (relD (X.cq W)) m1 H1 σ Q ((f2 ρ S1).bind fun y S2 => F (xs ++ [y]) S2) := by
        have e : ((f2 ρ S1).bind fun y S2 => (R.ok (xs ++ [y]) S2 : R (List D))).bind F = (f2 ρ S1).bind fun y S2 => F (xs ++ [y]) S2 := by cases f2 ρ S1 <;> rfl
        rw [e] at h
        exact Post.mono e1 h
      refine thn (hpk.run pos pins s1 σ H1 (fun zs H2 => ∃ m2 y S2, zs.length = 1 ∧ Ext X.K m1 H1 m2 H2 ∧ RS X.K m2 H2 S2 ∧ RDs X.K m2 H2 zs [y] ∧ Post (X.cq W) (relD (X.cq W)) m2 H2 σ Q (F (xs ++ [y]) S2)) I1 ?_) ?_
      · refine ⟨m1, ρ, S1, re.mono e1, rs1, (Post.bind h2).imp ?_⟩
        rintro v H2 ⟨m2, y, S2, e2', rs2, rd, h3⟩
        exact ⟨m2, y, S2, rfl, e2', rs2, .cons rd .nil, h3⟩
      · rintro ws s2 ⟨zs, H2, I2, rz, m2, y, S2, lz, e2', rs2, rdy, h3⟩
        refine ⟨I2.kIn, ?_⟩
        rw [hks]
        refine run_fnK (E := WE W) G hr hb (hx σ) I2 r rz (rds.length.trans hlen) lz ⟨m2, xs ++ [y], S2, (rds.mono e2').append rdy, rs2, ?_⟩
        cases er3 : F (xs ++ [y]) S2 with
        | ok d S3 => rw [er3] at h3; exact h3
        | ex ex S3 => rw [er3] at h3; exact h3
        | no => rw [er3] at h3; exact h3
theorem aK_ {fx : AX} {f2 : EX} {ρ : Env} {S : Store} : aK fx f2 ρ S = (fx ρ S).bind fun xs S1 => (f2 ρ S1).bind fun y S2 => .ok (xs ++ [y]) S2 := nr rfl
theorem aN_len : ∀ ρ S xs S', aN ρ S = .ok xs S' → xs.length = 0 := fun ρ S xs S' h => by cases h; rfl
theorem aC_len {n : Nat} {g : EX} {fx : AX} (h : ∀ ρ S xs S', fx ρ S = .ok xs S' → xs.length = n) : ∀ ρ S xs S', aC g fx ρ S = .ok xs S' → xs.length = n + 1 := fun ρ S xs S' e => by
  have e : ((g ρ S).bind fun x S1 => (fx ρ S1).bind fun ys S2 => (R.ok (x :: ys) S2 : R (List D))) = .ok xs S' := e
  cases e1 : g ρ S with
  | ok x S1 =>
    rw [e1] at e
    have e : ((fx ρ S1).bind fun ys S2 => (R.ok (x :: ys) S2 : R (List D))) = .ok xs S' := e
    cases e2 : fx ρ S1 with
    | ok ys S2 =>
      rw [e2] at e
      have e : (R.ok (x :: ys) S2 : R (List D)) = .ok xs S' := e
      cases e
      exact congrArg (· + 1) (h _ _ _ _ e2)
    | ex z S2 => rw [e2] at e; cases e
    | no => rw [e2] at e; cases e
  | ex z S1 => rw [e1] at e; cases e
  | no => rw [e1] at e; cases e
end
/-- a def of n parameters and one keyword-only parameter with a default -/
structure KwDef (K : PySem.W.Frag) (fd : FuncData) (ps : List Str) (n : Nat) (kw : Str) (d : D) : Prop where
  dflt : ∃ (ds : List Value) (dvs : List V), Vals dvs ds ∧ Binds K fd ps ds ∧ ∀ m H, RDs K m H dvs [d]
  key : KBn K fd ps n [kw] (fun us ws => us ++ ws) (fun vs zs => vs ++ zs)
theorem kwdef_mk {K : PySem.W.Frag} {fd : FuncData} {ps : List Str} {n : Nat} {kw : Str} {Da ka : Addr} {its : Array Value} {m : Nat} {sl : Array (Option Value)} (hps : ps.length = n + 1) (hd : PySem.W.nsIn K Da kw = some (some (.ref ka))) (hl : K.lookup ka = some ⟨.type "tuple", none, .seq its m, sl⟩) (hv : its.toList = [])
    (h1 : ∀ (us : List Value) (u : Value), us.length = n → KwChain Da [(kw, u)] (bindArgs fd ⟨us, []⟩) (ps.zip (us ++ [u]))) (h2 : ∀ (us : List Value) (u : Value), us.length = n → bindArgs fd ⟨us, [(kw, u)]⟩ = pure (ps.zip (us ++ [u]))) : KwDef K fd ps n kw (.tup []) where
  dflt := ⟨[.ref ka], [.ref ka], .cons rfl .nil, fun s us X hlen => BindsTo.of_looks fun M => KwChain.looks X (fun q hq => by rw [List.mem_singleton.mp hq]; exact hd) (h1 us _ (by rw [List.length_append, hps] at hlen; simpa using hlen)), fun m H => .cons (tupK_rd (xs := []) hl hv (by decide) .nil m H) .nil⟩
  key := ⟨fun s us ws X l1 l2 => by
    match ws, l2 with
    | [w], _ => exact .of_eq (h2 us w l1), fun r rz => r.append rz⟩
section
variable {X : Cx} {W : WX} {CX : CXT} {k : Nat} {f : Addr} {fd : FuncData} {ps : List Str} {F : List D → M D} {x : Str} {p pos : Pos} {e : Expr} {es : List Expr} {fx : AX} {n : Nat} {kw : Str} {d : D}
theorem d_callKD (G : FnOk X.prog X.w X.K X.mg X.base CX k f fd ps (rdF ⟨X.K, X.mg, W0⟩ F)) (hr : Room k X.A) (hg : Gl X x) (hm : X.mg x = some (.ref f)) (hk : PySem.W.keepIn X.K (.ref f) = true) (hb : KwDef X.K fd ps n kw d) (hx : ∀ σ, PassesAt CX X σ (WE W σ))
    (ha : PA X (e :: es) (rdA (X.cq W) fx)) (hdb : (x == ("__debug__" : Str)) = false := by decide) (he : starEach (e :: es) X.env = (false, eval e X.env) :: starEach es X.env := by rfl) (hpl : (backTo pos (starEach es X.env)).any (·.1) = false := by rfl) :
    PE X (.Call (.Name x p) (e :: es) [] pos) (rdE (X.cq W) (eF (fun xs => F (xs ++ [d])) fx)) := by
  obtain ⟨ds, dvs, r, b, rd⟩ := hb.dflt
  exact d_callD G hr hg hm hk b r rd hx ha hdb he hpl
theorem d_callKK {e2 : Expr} {kpos : Pos} {f2 : EX} (G : FnOk X.prog X.w X.K X.mg X.base CX k f fd ps (rdF ⟨X.K, X.mg, W0⟩ F)) (hr : Room k X.A) (hg : Gl X x) (hm : X.mg x = some (.ref f)) (hk : PySem.W.keepIn X.K (.ref f) = true) (hb : KwDef X.K fd ps n kw d) (hx : ∀ σ, PassesAt CX X σ (WE W σ))
    (ha : PA X (e :: es) (rdA (X.cq W) fx)) (he2 : PE X e2 (rdE (X.cq W) f2)) (hfx : ∀ ρ S xs S', fx ρ S = .ok xs S' → xs.length = n) (hdb : (x == ("__debug__" : Str)) = false := by decide)
    (hall : (backToKw pos (keywordEach [⟨some kw, e2, kpos⟩] X.env)).all (·.1.isSome) = true := by rfl) (hks : (backToKw pos (keywordEach [⟨some kw, e2, kpos⟩] X.env)).filterMap (·.1) = [kw] := by rfl)
    (he : starEach (e :: es) X.env = (false, eval e X.env) :: starEach es X.env := by rfl)
    (hpl : ((backTo pos (starEach (e :: es) X.env)).any (·.1) || (backToKw pos (keywordEach [⟨some kw, e2, kpos⟩] X.env)).any (·.1.isNone)) = false := by rfl) :
    PE X (.Call (.Name x p) (e :: es) [⟨some kw, e2, kpos⟩] pos) (rdE (X.cq W) (eF F (aK fx f2))) := d_callK1 G hr hg hm hk hb.key hx ha he2 hfx hdb hall hks he hpl
end
end Dl

set_option Elab.async false
set_option linter.all false
set_option maxRecDepth 100000
namespace Lw
open PySem L2 Dl
/-! ## the mirror of the text, def by def -/
inductive FN where
  | size_of | format_part | format_kind | end_of_run | read_atom | is_name_beginning | read_short | read_unit | join_units | read_kind | parse_kind | _law_cell | _law_mix | _law_pool | _law_draw | _law_letters | _law_atom | _law_atoms | _law_bracket | _law_full | _law_text | _law_parts | _law_pairs | _law_blanks | _law_loose | _law_room | _law_both_names | _law_read_back | law
def k_MOST_IN_NAME : D := .int 8
def k_LETTERS : D := .str "abcdefghijklmnopqrstuvwxyz"
def k_DIGITS : D := .str "0123456789"
def k_MOST_IN_NUMBER : D := .int 6
def k_SIGNS : D := .tup [.str "/", .str ">", .str "*"]
def k_MOST_CHARACTERS : D := .int 400
def k_MOST : D := .int 40
noncomputable def b_size_of (F : FN → List D → M D) : SX := (sQ (sIf (tV (eB (gIsi .str) (aC (eV 0) (aC (eC (.raw (.ty "str"))) aN)))) (sR (eC (.int 1))) sP)
  (sR (e2 gAdd (eF (F .size_of) (aC (e2 gIx (eV 0) (eC (.int 1))) aN)) (eF (F .size_of) (aC (e2 gIx (eV 0) (eC (.int 2))) aN)))))
noncomputable def b_format_part (F : FN → List D → M D) : SX := (sQ (sIf (tV (eB (gIsi .str) (aC (eV 0) (aC (eC (.raw (.ty "str"))) aN)))) (sR (eV 0)) sP)
  (sR (e2 gAdd (e2 gAdd (eC (.str "(")) (eF (F .format_kind) (aC (eV 0) aN))) (eC (.str ")")))))
noncomputable def b_format_kind (F : FN → List D → M D) : SX := (sQ (sIf (tV (eB (gIsi .str) (aC (eV 0) (aC (eC (.raw (.ty "str"))) aN)))) (sR (eV 0)) sP)
  (sQ (sA (eV 0) (tgU [(nm 1), (nm 2), (nm 3)]))
  (sR (e2 gAdd (e2 gAdd (e2 gAdd (e2 gAdd (eF (F .format_part) (aC (eV 2) aN)) (eC (.str " "))) (eV 1)) (eC (.str " "))) (eF (F .format_part) (aC (eV 3) aN))))))
noncomputable def b_end_of_run (F : FN → List D → M D) : SX := (sQ (sN 4 (eV 1))
  (sQ (sW WF (tA (tE (e2 gLt (eV 4) (eB gLen (aC (eV 0) aN)))) (tA (tE (e2 gLt (eV 4) (e2 gAdd (eV 1) (eV 3)))) (tE (e2 gIn (e2 gIx (eV 0) (eV 4)) (eV 2))))) (sAug 4 gAugAdd (eC (.int 1))))
  (sR (eV 4))))
noncomputable def b_read_atom (F : FN → List D → M D) : SX := (sQ (sN 2 (eF (F .end_of_run) (aC (eV 0) (aC (eV 1) (aC (e2 gAdd (eC k_LETTERS) (eC k_DIGITS)) (aC (eC k_MOST_IN_NAME) aN))))))
  (sQ (sIf (tA (tE (e2 gLt (eV 2) (eB gLen (aC (eV 0) aN)))) (tE (e2 gEq (e2 gIx (eV 0) (eV 2)) (eC (.str "."))))) (sQ (sN 3 (e2 gAdd (eV 2) (eC (.int 1))))
  (sQ (sIf (tO (tE (e2 gEq (eV 3) (eB gLen (aC (eV 0) aN)))) (tO (tE (e2 gEq (e2 gIx (eV 0) (eV 3)) (eC (.str "0")))) (tE (e2 gNin (e2 gIx (eV 0) (eV 3)) (eC k_DIGITS))))) sNo sP)
  (sN 2 (eF (F .end_of_run) (aC (eV 0) (aC (eV 3) (aC (eC k_DIGITS) (aC (eC k_MOST_IN_NUMBER) aN)))))))) sP)
  (sR (eB gTpl (aC (eSl (eV 0) (oI (eV 1)) (oI (eV 2))) (aC (eV 2) aN))))))
noncomputable def b_is_name_beginning (F : FN → List D → M D) : SX := (sR (eB gAny (aC (eLc [2, 3] (iA (eV 1)) (.many [2, 3]) tYesD (eMt .str gStartsW (eV 2) (aC (eV 0) aN))) aN)))
noncomputable def b_read_short (F : FN → List D → M D) : SX := (sQ (sN 3 (eV 1))
  (sQ (sW WF (tA (tE (e2 gLt (eV 3) (eB gLen (aC (eV 0) aN)))) (tV (eF (F .is_name_beginning) (aC (eSl (eV 0) (oI (eV 1)) (oI (e2 gAdd (eV 3) (eC (.int 1))))) (aC (eV 2) aN))))) (sAug 3 gAugAdd (eC (.int 1))))
  (sQ (sF (iA (eV 2)) (tgU [(nm 4), (nm 5)]) (sIf (tE (e2 gEq (eV 4) (eSl (eV 0) (oI (eV 1)) (oI (eV 3))))) (sR (eB gTpl (aC (eV 5) (aC (eV 3) aN)))) sP))
  sNo)))
noncomputable def b_read_unit (F : FN → List D → M D) : SX := (sQ (sIf (tE (e2 gIn (e2 gIx (eV 0) (eV 1)) (eC k_LETTERS))) (sR (eF (F .read_atom) (aC (eV 0) (aC (eV 1) aN)))) sP)
  (sR (eF (F .read_short) (aC (eV 0) (aC (eV 1) (aC (eV 2) aN))))))
noncomputable def b_join_units (F : FN → List D → M D) : SX := (sQ (sIf (tE (e2 gEq (eB gLen (aC (eV 0) aN)) (eC (.int 1)))) (sR (e2 gIx (eV 0) (eC (.int 0)))) sP)
  (sQ (sA (eV 0) (tgU [(nm 1), (nm 2), (nm 3)]))
  (sR (eB gTpl (aC (eV 2) (aC (eV 1) (aC (eV 3) aN)))))))
noncomputable def b_read_kind (F : FN → List D → M D) : SX := (sQ (sN 2 (eB gLsd (aC (eB gLsd aN) aN)))
  (sQ (sN 3 (eC (.int 0)))
  (sQ (sW WF (tE (e2 gLt (eV 3) (eB gLen (aC (eV 0) aN)))) (sQ (sN 4 (e2 gIx (eV 0) (eV 3)))
  (sQ (sN 5 (e2 gIx (eV 2) (e1 gNeg (eC (.int 1)))))
  (sQ (sN 6 (e2 gIn (eB gLen (aC (eV 5) aN)) (eB gTpl (aC (eC (.int 0)) (aC (eC (.int 2)) aN)))))
  (sIf (tE (e2 gEq (eV 4) (eC (.str " ")))) (sAug 3 gAugAdd (eC (.int 1))) (sIf (tA (tV (eV 6)) (tE (e2 gEq (eV 4) (eC (.str "("))))) (sQ (sE (eMt .lst gAppend (eV 2) (aC (eB gLsd aN) aN)))
  (sAug 3 gAugAdd (eC (.int 1)))) (sIf (tV (eV 6)) (sQ (sA (eF (F .read_unit) (aC (eV 0) (aC (eV 3) (aC (eV 1) aN)))) (tgU [(nm 7), (nm 3)]))
  (sE (eMt .lst gAppend (eV 5) (aC (eV 7) aN)))) (sIf (tA (tE (e2 gEq (eV 4) (eC (.str ")")))) (tE (e2 gGt (eB gLen (aC (eV 2) aN)) (eC (.int 1))))) (sQ (sE (eMt .lst gPop (eV 2) aN))
  (sQ (sN 7 (eF (F .join_units) (aC (eV 5) aN)))
  (sQ (sE (eMt .lst gAppend (e2 gIx (eV 2) (e1 gNeg (eC (.int 1)))) (aC (eV 7) aN)))
  (sAug 3 gAugAdd (eC (.int 1)))))) (sIf (tA (tE (e2 gIn (eV 4) (eC k_SIGNS))) (tE (e2 gEq (eB gLen (aC (eV 5) aN)) (eC (.int 1))))) (sQ (sE (eMt .lst gAppend (eV 5) (aC (eV 4) aN)))
  (sAug 3 gAugAdd (eC (.int 1)))) sNo)))))))))
  (sQ (sIf (tO (tE (e2 gGt (eB gLen (aC (eV 2) aN)) (eC (.int 1)))) (tE (e2 gIn (eB gLen (aC (e2 gIx (eV 2) (eC (.int 0))) aN)) (eB gTpl (aC (eC (.int 0)) (aC (eC (.int 2)) aN)))))) sNo sP)
  (sR (eF (F .join_units) (aC (e2 gIx (eV 2) (eC (.int 0))) aN)))))))
noncomputable def b_parse_kind (F : FN → List D → M D) : SX := (sQ (sIf (tE (e2 gGt (eB gLen (aC (eV 0) aN)) (eC k_MOST_CHARACTERS))) (sX "SizeError") sP)
  (sQ (sN 2 (eF (F .read_kind) (aC (eV 0) (aC (eV 1) aN))))
  (sQ (sIf (tE (e2 gGt (eF (F .size_of) (aC (eV 2) aN)) (eC k_MOST))) (sX "SizeError") sP)
  (sR (eV 2)))))
noncomputable def b__law_cell (F : FN → List D → M D) : SX := (sQ (sIf (tE (e2 gLt (eV 1) (eB gLen (aC (eV 0) aN)))) (sR (eB gInt (aC (e2 gIx (eV 0) (eV 1)) aN))) sP)
  (sR (eC (.int 0))))
noncomputable def b__law_mix (F : FN → List D → M D) : SX := (sQ (sN 0 (e2 gMod (eB gInt (aC (e2 gAdd (e2 gAdd (e2 gMul (eV 0) (eV 0)) (e2 gMul (eC (.int 3)) (eV 0))) (eC (.int 7919))) aN)) (eC (.int 1000003))))
  (sR (e2 gMod (eB gInt (aC (e2 gAdd (e2 gAdd (e2 gMul (eV 0) (eV 0)) (e2 gMul (eC (.int 5)) (eV 0))) (eC (.int 104729))) aN)) (eC (.int 998244353)))))
noncomputable def b__law_pool (F : FN → List D → M D) : SX := (sQ (sN 2 (eF (F ._law_cell) (aC (eV 0) (aC (eV 1) aN))))
  (sQ (sIf (tE (e2 gGe (eV 2) (e2 gPow (eC (.int 10)) (eC (.int 18))))) (sR (eB gLsd (aC (e2 gSub (eV 2) (e2 gPow (eC (.int 10)) (eC (.int 18)))) (aC (e2 gMul (eC (.int 40009)) (e2 gAdd (eV 1) (eC (.int 1)))) (aC (eC (.int 0)) aN))))) sP)
  (sR (eB gLsd (aC (eC (.int 0)) (aC (e2 gAdd (e2 gMod (eB gInt (aC (eB gAbs (aC (eV 2) aN)) aN)) (eC (.int 2000000011))) (e2 gMul (eC (.int 7919)) (eV 1))) (aC (eC (.int 0)) aN)))))))
noncomputable def b__law_draw (F : FN → List D → M D) : SX := (sQ (sIf (tE (e2 gGt (e2 gIx (eV 0) (eC (.int 0))) (eC (.int 0)))) (sQ (sN 2 (e2 gMod (eB gInt (aC (e2 gIx (eV 0) (eC (.int 0))) aN)) (eV 1)))
  (sQ (sA (e2 gFdivW (e2 gIx (eV 0) (eC (.int 0))) (eV 1)) (tgIxX (eV 0) (eC (.int 0))))
  (sR (eV 2)))) sP)
  (sQ (sA (e2 gAdd (e2 gIx (eV 0) (eC (.int 2))) (eC (.int 1))) (tgIxX (eV 0) (eC (.int 2))))
  (sR (e2 gMod (eB gInt (aC (e2 gFdivW (eF (F ._law_mix) (aC (e2 gAdd (e2 gIx (eV 0) (eC (.int 1))) (e2 gMul (eC (.int 7368787)) (e2 gIx (eV 0) (eC (.int 2))))) aN)) (eC (.int 8))) aN)) (eV 1)))))
noncomputable def b__law_letters (F : FN → List D → M D) : SX := (sR (eC (.str "abcdefghijklmnopqrstuvwxyz")))
noncomputable def b__law_atom (F : FN → List D → M D) : SX := (sQ (sN 2 (e2 gIx (eF (F ._law_letters) aN) (eF (F ._law_draw) (aC (eV 0) (aC (eC (.int 26)) aN)))))
  (sQ (sF (iR1 (e2 gIx (eB gLsd (aC (eC (.int 0)) (aC (eC (.int 0)) (aC (eC (.int 1)) (aC (eC (.int 7)) (aC (eC (.int 0)) (aC (eC (.int 2)) (aC (eC (.int 3)) (aC (eC (.int 5)) (aC (eC (.int 4)) (aC (eC (.int 6)) aN))))))))))) (eF (F ._law_draw) (aC (eV 0) (aC (eC (.int 10)) aN))))) (nm 3) (sN 2 (e2 gAdd (eV 2) (e2 gIx (e2 gAdd (eF (F ._law_letters) aN) (eC (.str "0123456789"))) (eF (F ._law_draw) (aC (eV 0) (aC (eC (.int 36)) aN)))))))
  (sQ (sN 4 (eF (F ._law_draw) (aC (eV 0) (aC (eC (.int 4)) aN))))
  (sQ (sIf (tE (e2 gLt (eV 1) (eC (.int 8)))) (sR (eSl (eV 2) oN (oI (eV 1)))) sP)
  (sQ (sIf (tE (e2 gEq (eV 4) (eC (.int 2)))) (sR (e2 gAdd (e2 gAdd (eV 2) (eC (.str "."))) (eB gStr (aC (e2 gAdd (eC (.int 1)) (eF (F ._law_draw) (aC (eV 0) (aC (eC (.int 20)) aN)))) aN)))) sP)
  (sQ (sIf (tE (e2 gEq (eV 4) (eC (.int 3)))) (sR (e2 gAdd (e2 gAdd (eV 2) (eC (.str "."))) (eB gStr (aC (e2 gAdd (eC (.int 1)) (eF (F ._law_draw) (aC (eV 0) (aC (eC (.int 999999)) aN)))) aN)))) sP)
  (sR (eV 2))))))))
noncomputable def b__law_atoms (F : FN → List D → M D) : SX := (sQ (sN 1 (e2 gAdd (eC (.int 1)) (eF (F ._law_draw) (aC (eV 0) (aC (eC (.int 8)) aN)))))
  (sQ (sN 2 (eC (.int 8)))
  (sQ (sIf (tE (e2 gEq (eF (F ._law_draw) (aC (eV 0) (aC (eC (.int 8)) aN))) (eC (.int 7)))) (sQ (sN 1 (e2 gIx (eB gLsd (aC (eC (.int 40)) (aC (eC (.int 39)) (aC (e2 gAdd (eC (.int 9)) (eF (F ._law_draw) (aC (eV 0) (aC (eC (.int 32)) aN)))) aN)))) (eF (F ._law_draw) (aC (eV 0) (aC (eC (.int 3)) aN)))))
  (sN 2 (e2 gIx (eB gLsd (aC (eC (.int 1)) (aC (eC (.int 1)) (aC (eC (.int 2)) (aC (eC (.int 8)) aN))))) (eF (F ._law_draw) (aC (eV 0) (aC (eC (.int 4)) aN)))))) sP)
  (sQ (sN 3 (eB gLsd (aC (eF (F ._law_atom) (aC (eV 0) (aC (eV 2) aN))) aN)))
  (sQ (sF (iR1 (e2 gSub (eV 1) (eC (.int 1)))) (nm 4) (sIf (tE (e2 gEq (eF (F ._law_draw) (aC (eV 0) (aC (eC (.int 4)) aN))) (eC (.int 3)))) (sE (eMt .lst gAppend (eV 3) (aC (e2 gIx (eV 3) (eF (F ._law_draw) (aC (eV 0) (aC (eB gLen (aC (eV 3) aN)) aN)))) aN))) (sE (eMt .lst gAppend (eV 3) (aC (eF (F ._law_atom) (aC (eV 0) (aC (eV 2) aN))) aN)))))
  (sR (eV 3)))))))
noncomputable def b__law_bracket (F : FN → List D → M D) : SX := (sQ (sIf (tE (e2 gEq (eB gLen (aC (eV 1) aN)) (eC (.int 1)))) (sR (e2 gIx (eV 1) (eC (.int 0)))) sP)
  (sQ (sN 3 (e2 gAdd (eC (.int 1)) (eF (F ._law_draw) (aC (eV 0) (aC (e2 gSub (eB gLen (aC (eV 1) aN)) (eC (.int 1))) aN)))))
  (sQ (sIf (tE (e2 gEq (eV 2) (eC (.int 1)))) (sN 3 (eC (.int 1))) sP)
  (sQ (sIf (tE (e2 gEq (eV 2) (eC (.int 2)))) (sN 3 (e2 gSub (eB gLen (aC (eV 1) aN)) (eC (.int 1)))) sP)
  (sQ (sN 4 (e2 gIx (eC (.str "/>*")) (eF (F ._law_draw) (aC (eV 0) (aC (eC (.int 3)) aN)))))
  (sQ (sN 5 (eF (F ._law_bracket) (aC (eV 0) (aC (eSl (eV 1) oN (oI (eV 3))) (aC (eV 2) aN)))))
  (sR (eB gTpl (aC (eV 4) (aC (eV 5) (aC (eF (F ._law_bracket) (aC (eV 0) (aC (eSl (eV 1) (oI (eV 3)) oN) (aC (eV 2) aN)))) aN)))))))))))
noncomputable def b__law_full (F : FN → List D → M D) : SX := (sQ (sIf (tV (eB (gIsi .str) (aC (eV 0) (aC (eC (.raw (.ty "str"))) aN)))) (sR (eV 0)) sP)
  (sR (e2 gAdd (e2 gAdd (e2 gAdd (e2 gAdd (e2 gAdd (e2 gAdd (eC (.str "(")) (eF (F ._law_full) (aC (e2 gIx (eV 0) (eC (.int 1))) aN))) (eC (.str " "))) (e2 gIx (eV 0) (eC (.int 0)))) (eC (.str " "))) (eF (F ._law_full) (aC (e2 gIx (eV 0) (eC (.int 2))) aN))) (eC (.str ")")))))
noncomputable def b__law_text (F : FN → List D → M D) : SX := (sQ (sIf (tV (eB (gIsi .str) (aC (eV 0) (aC (eC (.raw (.ty "str"))) aN)))) (sR (eV 0)) sP)
  (sR (eSl (eF (F ._law_full) (aC (eV 0) aN)) (oI (eC (.int 1))) (oI (e1 gNeg (eC (.int 1)))))))
noncomputable def b__law_parts (F : FN → List D → M D) : SX := (sQ (sIf (tV (eB (gIsi .str) (aC (eV 0) (aC (eC (.raw (.ty "str"))) aN)))) (sR (eB gLsd (aC (eV 0) aN))) sP)
  (sR (e2 gAdd (e2 gAdd (eB gLsd (aC (eV 0) aN)) (eF (F ._law_parts) (aC (e2 gIx (eV 0) (eC (.int 1))) aN))) (eF (F ._law_parts) (aC (e2 gIx (eV 0) (eC (.int 2))) aN)))))
noncomputable def b__law_pairs (F : FN → List D → M D) : SX := (sQ (sN 2 (eF (F ._law_parts) (aC (eV 1) aN)))
  (sQ (sN 3 (eB gLsd aN))
  (sQ (sN 4 (eC (.str "")))
  (sQ (sF (iR1 (eF (F ._law_draw) (aC (eV 0) (aC (eC (.int 4)) aN)))) (nm 5) (sQ (sN 6 (e2 gAdd (eSl (eV 4) oN (oI (eC (.int 7)))) (e2 gIx (eF (F ._law_letters) aN) (eF (F ._law_draw) (aC (eV 0) (aC (eC (.int 26)) aN))))))
  (sQ (sIf (tO (tE (e2 gEq (eV 4) (eC (.str "")))) (tE (e2 gEq (eF (F ._law_draw) (aC (eV 0) (aC (eC (.int 2)) aN))) (eC (.int 1))))) (sQ (sN 6 (e2 gIx (eC (.str "ABCDEFGHIJKLMNOPQRSTUVWXYZ")) (eF (F ._law_draw) (aC (eV 0) (aC (eC (.int 26)) aN)))))
  (sF (iR1 (e2 gIx (eB gLsd (aC (eC (.int 0)) (aC (eC (.int 0)) (aC (eC (.int 1)) (aC (eC (.int 7)) (aC (eC (.int 2)) (aC (eC (.int 3)) (aC (eC (.int 4)) (aC (eC (.int 5)) (aC (eC (.int 6)) aN)))))))))) (eF (F ._law_draw) (aC (eV 0) (aC (eC (.int 9)) aN))))) (nm 8) (sN 6 (e2 gAdd (eV 6) (e2 gIx (eF (F ._law_letters) aN) (eF (F ._law_draw) (aC (eV 0) (aC (eC (.int 26)) aN)))))))) sP)
  (sQ (sN 4 (eV 6))
  (sQ (sN 7 (e2 gIx (eV 2) (eF (F ._law_draw) (aC (eV 0) (aC (eB gLen (aC (eV 2) aN)) aN)))))
  (sIf (tE (e2 gNin (eV 4) (eLc [9] (iA (eV 3)) (.one 9) tYesD (e2 gIx (eV 9) (eC (.int 0)))))) (sE (eMt .lst gInsert (eV 3) (aC (eF (F ._law_draw) (aC (eV 0) (aC (e2 gAdd (eB gLen (aC (eV 3) aN)) (eC (.int 1))) aN))) (aC (eB gTpl (aC (eV 4) (aC (eV 7) aN))) aN)))) sP))))))
  (sR (eV 3))))))
noncomputable def b__law_blanks (F : FN → List D → M D) : SX := (sQ (sN 1 (e2 gIx (eB gLsd (aC (eC (.int 0)) (aC (eC (.int 1)) (aC (eC (.int 1)) (aC (eC (.int 0)) (aC (eC (.int 2)) (aC (eC (.int 3)) (aC (eC (.int 1)) (aC (eC (.int 9)) aN))))))))) (eF (F ._law_draw) (aC (eV 0) (aC (eC (.int 8)) aN)))))
  (sQ (sIf (tE (e2 gEq (eV 1) (eC (.int 9)))) (sN 1 (eF (F ._law_draw) (aC (eV 0) (aC (eC (.int 13)) aN)))) sP)
  (sR (e2 gRepS (eC (.str " ")) (eV 1)))))
noncomputable def b__law_loose (F : FN → List D → M D) : SX := (sQ (sN 4 (eLc [8] (iA (eV 2)) (.one 8) (tE (e2 gEq (e2 gIx (eV 8) (eC (.int 1))) (eV 1))) (e2 gIx (eV 8) (eC (.int 0)))))
  (sQ (sN 5 (e2 gIx (eB gLsd (aC (eC (.int 0)) (aC (eC (.int 0)) (aC (eC (.int 0)) (aC (eC (.int 1)) (aC (eC (.int 0)) (aC (eC (.int 2)) aN))))))) (eF (F ._law_draw) (aC (eV 0) (aC (eC (.int 6)) aN)))))
  (sQ (sIf (tA (tE (e2 gGt (eB gLen (aC (eV 4) aN)) (eC (.int 0)))) (tE (e2 gGt (eF (F ._law_draw) (aC (eV 0) (aC (eC (.int 3)) aN))) (eC (.int 0))))) (sN 7 (e2 gIx (eV 4) (eF (F ._law_draw) (aC (eV 0) (aC (eB gLen (aC (eV 4) aN)) aN))))) (sIf (tV (eB (gIsi .str) (aC (eV 1) (aC (eC (.raw (.ty "str"))) aN)))) (sN 7 (eV 1)) (sQ (sN 9 (eF (F ._law_loose) (aC (eV 0) (aC (e2 gIx (eV 1) (eC (.int 1))) (aC (eV 2) (aC (eC (.int 1)) aN))))))
  (sQ (sN 10 (eF (F ._law_loose) (aC (eV 0) (aC (e2 gIx (eV 1) (eC (.int 2))) (aC (eV 2) (aC (eC (.int 1)) aN))))))
  (sQ (sN 7 (e2 gAdd (e2 gAdd (e2 gAdd (e2 gAdd (eV 9) (eF (F ._law_blanks) (aC (eV 0) aN))) (e2 gIx (eV 1) (eC (.int 0)))) (eF (F ._law_blanks) (aC (eV 0) aN))) (eV 10)))
  (sN 5 (e2 gAdd (eV 5) (eV 3))))))))
  (sQ (sF (iR1 (eV 5)) (nm 6) (sN 7 (e2 gAdd (e2 gAdd (e2 gAdd (e2 gAdd (eC (.str "(")) (eF (F ._law_blanks) (aC (eV 0) aN))) (eV 7)) (eF (F ._law_blanks) (aC (eV 0) aN))) (eC (.str ")")))))
  (sR (eV 7))))))
noncomputable def b__law_room (F : FN → List D → M D) : SX := (sQ (sN 3 (eV 1))
  (sQ (sIf (tE (e2 gGt (eB gLen (aC (eV 3) aN)) (eC (.int 400)))) (sN 3 (eV 2)) sP)
  (sQ (sN 4 (eF (F ._law_draw) (aC (eV 0) (aC (eC (.int 8)) aN))))
  (sQ (sN 5 (e2 gSub (eC (.int 400)) (eB gLen (aC (eV 3) aN))))
  (sQ (sIf (tE (e2 gEq (eV 4) (eC (.int 7)))) (sQ (sN 8 (eF (F ._law_draw) (aC (eV 0) (aC (e2 gAdd (eC (.int 1)) (e2 gFdiv (eV 5) (eC (.int 2)))) aN))))
  (sQ (sN 3 (e2 gAdd (e2 gAdd (e2 gRepS (eC (.str "(")) (eV 8)) (eV 3)) (e2 gRepS (eC (.str ")")) (eV 8))))
  (sN 5 (e2 gSub (eV 5) (e2 gMul (eC (.int 2)) (eV 8)))))) sP)
  (sQ (sN 6 (eB gMin2 (aC (eV 5) (aC (eF (F ._law_draw) (aC (eV 0) (aC (eC (.int 4)) aN))) aN))))
  (sQ (sN 7 (eB gMin2 (aC (e2 gSub (eV 5) (eV 6)) (aC (eF (F ._law_draw) (aC (eV 0) (aC (eC (.int 4)) aN))) aN))))
  (sQ (sIf (tE (e2 gGe (eV 4) (eC (.int 6)))) (sQ (sN 6 (eF (F ._law_draw) (aC (eV 0) (aC (e2 gAdd (eC (.int 1)) (eV 5)) aN))))
  (sN 7 (e2 gSub (eV 5) (eV 6)))) sP)
  (sR (e2 gAdd (e2 gAdd (e2 gRepS (eC (.str " ")) (eV 6)) (eV 3)) (e2 gRepS (eC (.str " ")) (eV 7))))))))))))
noncomputable def b__law_both_names (F : FN → List D → M D) : SX := (sQ (sN 3 (e2 gIx (eC (.str "ABCDEFGHIJKLMNOPQRSTUVWXYZ")) (eF (F ._law_draw) (aC (eV 0) (aC (eC (.int 26)) aN)))))
  (sQ (sF (iR1 (eF (F ._law_draw) (aC (eV 0) (aC (eC (.int 7)) aN)))) (nm 4) (sN 3 (e2 gAdd (eV 3) (e2 gIx (eF (F ._law_letters) aN) (eF (F ._law_draw) (aC (eV 0) (aC (eC (.int 26)) aN)))))))
  (sQ (sN 5 (e2 gAdd (eV 3) (e2 gIx (eF (F ._law_letters) aN) (eF (F ._law_draw) (aC (eV 0) (aC (eC (.int 26)) aN))))))
  (sQ (sN 6 (e2 gAdd (e2 gAdd (e2 gAdd (e2 gAdd (eV 5) (eF (F ._law_blanks) (aC (eV 0) aN))) (eC (.str "*"))) (eF (F ._law_blanks) (aC (eV 0) aN))) (eV 3)))
  (sQ (sF (iA (eB gLsd (aC (eB gTpl (aC (eB gTpl (aC (eV 3) (aC (eV 1) aN))) (aC (eB gTpl (aC (eV 5) (aC (eV 2) aN))) aN))) (aC (eB gTpl (aC (eB gTpl (aC (eV 5) (aC (eV 2) aN))) (aC (eB gTpl (aC (eV 3) (aC (eV 1) aN))) aN))) aN)))) (nm 7) (sIf (tO (tE (e2 gNe (eF (F .parse_kind) (aK (aC (eV 6) aN) (eV 7))) (eB gTpl (aC (eC (.str "*")) (aC (eV 2) (aC (eV 1) aN)))))) (tE (e2 gNe (eF (F .parse_kind) (aK (aC (eV 3) aN) (eV 7))) (eV 1)))) (sR (eC (.bl false))) sP))
  (sR (eC (.bl true))))))))
noncomputable def b__law_read_back (F : FN → List D → M D) : SX := (sQ (sA (eV 1) (tgU [(nm 4), (nm 5), (nm 6)]))
  (sQ (sF (iA (eB gLsd (aC (eV 4) (aC (eV 5) aN)))) (nm 3) (sIf (tO (tE (e2 gNe (eF (fun xs => F .parse_kind (xs ++ [.tup []])) (aC (eV 3) aN)) (eV 0))) (tO (tE (e2 gNe (eF (F .parse_kind) (aK (aC (eV 3) aN) (eB gTpl aN))) (eV 0))) (tE (e2 gNe (eF (F .parse_kind) (aK (aC (eV 3) aN) (eV 2))) (eV 0))))) (sR (eC (.bl false))) sP))
  (sQ (sIf (tE (e2 gNe (eF (F .parse_kind) (aK (aC (eV 6) aN) (eV 2))) (eV 0))) (sR (eC (.bl false))) sP)
  (sR (e2 gEq (eF (fun xs => F .parse_kind (xs ++ [.tup []])) (aC (eV 4) aN)) (eV 0))))))
noncomputable def b_law (F : FN → List D → M D) : SX := (sQ (sN 1 (eF (F ._law_pool) (aC (eV 0) (aC (eC (.int 0)) aN))))
  (sQ (sN 2 (eF (F ._law_atoms) (aC (eV 1) aN)))
  (sQ (sN 3 (eF (F ._law_pool) (aC (eV 0) (aC (eC (.int 1)) aN))))
  (sQ (sN 4 (eF (F ._law_bracket) (aC (eV 3) (aC (eV 2) (aC (eF (F ._law_draw) (aC (eV 3) (aC (eC (.int 8)) aN))) aN)))))
  (sQ (sN 5 (eF (F ._law_text) (aC (eV 4) aN)))
  (sQ (sN 6 (eF (F .format_kind) (aC (eV 4) aN)))
  (sQ (sIf (tO (tN (tV (eB (gIsi .str) (aC (eV 6) (aC (eC (.raw (.ty "str"))) aN))))) (tE (e2 gNe (eV 6) (eV 5)))) (sR (eC (.bl false))) sP)
  (sQ (sIf (tE (e2 gLe (eB gLen (aC (eV 5) aN)) (eC (.int 400)))) (sQ (sN 7 (eF (F ._law_pairs) (aC (eF (F ._law_pool) (aC (eV 0) (aC (eC (.int 2)) aN))) (aC (eV 4) aN))))
  (sQ (sN 8 (eF (F ._law_pool) (aC (eV 0) (aC (eC (.int 3)) aN))))
  (sQ (sN 9 (eF (F ._law_room) (aC (eV 8) (aC (eF (F ._law_loose) (aC (eV 8) (aC (eV 4) (aC (eB gLsd aN) (aC (eC (.int 0)) aN))))) (aC (eV 5) aN)))))
  (sQ (sN 8 (eF (F ._law_pool) (aC (eV 0) (aC (eC (.int 4)) aN))))
  (sQ (sN 10 (eF (F ._law_room) (aC (eV 8) (aC (eF (F ._law_loose) (aC (eV 8) (aC (eV 4) (aC (eV 7) (aC (eC (.int 0)) aN))))) (aC (eV 5) aN)))))
  (sIf (tN (tV (eF (F ._law_read_back) (aC (eV 4) (aC (eB gLsd (aC (eV 5) (aC (eV 9) (aC (eV 10) aN)))) (aC (eB gTuple (aC (eV 7) aN)) aN)))))) (sR (eC (.bl false))) sP)))))) sP)
  (sQ (sIf (tN (tV (eF (F ._law_both_names) (aC (eF (F ._law_pool) (aC (eV 0) (aC (eC (.int 5)) aN))) (aC (e2 gIx (eV 2) (eC (.int 0))) (aC (e2 gIx (eV 2) (e1 gNeg (eC (.int 1)))) aN)))))) (sR (eC (.bl false))) sP)
  (sR (e2 gEq (eF (F .format_kind) (aC (eV 4) aN)) (eV 5))))))))))))
noncomputable def tab : Nat → FN → List D → M D
  | 0, _ => fun _ _ => .no
  | n + 1, .size_of => runB 1 1 (b_size_of (tab n))
  | n + 1, .format_part => runB 1 1 (b_format_part (tab n))
  | n + 1, .format_kind => runB 1 4 (b_format_kind (tab n))
  | n + 1, .end_of_run => runB 4 5 (b_end_of_run (tab n))
  | n + 1, .read_atom => runB 2 4 (b_read_atom (tab n))
  | n + 1, .is_name_beginning => runB 2 4 (b_is_name_beginning (tab n))
  | n + 1, .read_short => runB 3 6 (b_read_short (tab n))
  | n + 1, .read_unit => runB 3 3 (b_read_unit (tab n))
  | n + 1, .join_units => runB 1 4 (b_join_units (tab n))
  | n + 1, .read_kind => runB 2 8 (b_read_kind (tab n))
  | n + 1, .parse_kind => runB 2 3 (b_parse_kind (tab n))
  | n + 1, ._law_cell => runB 2 2 (b__law_cell (tab n))
  | n + 1, ._law_mix => runB 1 1 (b__law_mix (tab n))
  | n + 1, ._law_pool => runB 2 3 (b__law_pool (tab n))
  | n + 1, ._law_draw => runB 2 3 (b__law_draw (tab n))
  | n + 1, ._law_letters => runB 0 0 (b__law_letters (tab n))
  | n + 1, ._law_atom => runB 2 5 (b__law_atom (tab n))
  | n + 1, ._law_atoms => runB 1 5 (b__law_atoms (tab n))
  | n + 1, ._law_bracket => runB 3 6 (b__law_bracket (tab n))
  | n + 1, ._law_full => runB 1 1 (b__law_full (tab n))
  | n + 1, ._law_text => runB 1 1 (b__law_text (tab n))
  | n + 1, ._law_parts => runB 1 1 (b__law_parts (tab n))
  | n + 1, ._law_pairs => runB 2 10 (b__law_pairs (tab n))
  | n + 1, ._law_blanks => runB 1 2 (b__law_blanks (tab n))
  | n + 1, ._law_loose => runB 4 11 (b__law_loose (tab n))
  | n + 1, ._law_room => runB 3 9 (b__law_room (tab n))
  | n + 1, ._law_both_names => runB 3 8 (b__law_both_names (tab n))
  | n + 1, ._law_read_back => runB 3 7 (b__law_read_back (tab n))
  | n + 1, .law => runB 1 11 (b_law (tab n))
end Lw

set_option Elab.async false
set_option linter.all false
set_option maxRecDepth 100000
namespace Lw
open PySem L2 Dl
/-! ## the text by places -/
def topS (i : Nat) : Stmt := PySem.Challenge.pw_wordfractions_k02_kind_text_back.main.body.getD i (.Pass ⟨0, 0, 0, 0⟩)
abbrev st_size_of : Stmt := topS 11
abbrev nl_size_of : List Str := ["kind"]
abbrev st_format_part : Stmt := topS 14
abbrev nl_format_part : List Str := ["kind"]
abbrev st_format_kind : Stmt := topS 15
abbrev nl_format_kind : List Str := ["kind", "sign", "first", "second"]
abbrev st_end_of_run : Stmt := topS 16
abbrev nl_end_of_run : List Str := ["text", "start", "characters", "most", "end"]
abbrev st_read_atom : Stmt := topS 17
abbrev nl_read_atom : List Str := ["text", "start", "end", "first"]
abbrev st_is_name_beginning : Stmt := topS 18
abbrev nl_is_name_beginning : List Str := ["text", "shorts", "name", "_"]
abbrev st_read_short : Stmt := topS 19
abbrev nl_read_short : List Str := ["text", "start", "shorts", "end", "name", "kind"]
abbrev st_read_unit : Stmt := topS 20
abbrev nl_read_unit : List Str := ["text", "start", "shorts"]
abbrev st_join_units : Stmt := topS 21
abbrev nl_join_units : List Str := ["units", "first", "sign", "second"]
abbrev st_read_kind : Stmt := topS 22
abbrev nl_read_kind : List Str := ["text", "shorts", "waiting", "at", "char", "units", "wants_unit", "kind"]
abbrev st_parse_kind : Stmt := topS 23
abbrev nl_parse_kind : List Str := ["text", "shorts", "kind"]
abbrev st__law_cell : Stmt := topS 25
abbrev nl__law_cell : List Str := ["script", "k"]
abbrev st__law_mix : Stmt := topS 26
abbrev nl__law_mix : List Str := ["x"]
abbrev st__law_pool : Stmt := topS 27
abbrev nl__law_pool : List Str := ["script", "k", "cell"]
abbrev st__law_draw : Stmt := topS 28
abbrev nl__law_draw : List Str := ["pool", "many", "digit"]
abbrev st__law_letters : Stmt := topS 29
abbrev nl__law_letters : List Str := []
abbrev st__law_atom : Stmt := topS 30
abbrev nl__law_atom : List Str := ["pool", "most", "base", "k", "way"]
abbrev st__law_atoms : Stmt := topS 31
abbrev nl__law_atoms : List Str := ["pool", "many", "most", "texts", "k"]
abbrev st__law_bracket : Stmt := topS 32
abbrev nl__law_bracket : List Str := ["pool", "texts", "way", "left", "sign", "first"]
abbrev st__law_full : Stmt := topS 33
abbrev nl__law_full : List Str := ["kind"]
abbrev st__law_text : Stmt := topS 34
abbrev nl__law_text : List Str := ["kind"]
abbrev st__law_parts : Stmt := topS 35
abbrev nl__law_parts : List Str := ["kind"]
abbrev st__law_pairs : Stmt := topS 36
abbrev nl__law_pairs : List Str := ["pool", "kind", "parts", "pairs", "name", "k", "longer", "part", "turn", "pair"]
abbrev st__law_blanks : Stmt := topS 37
abbrev nl__law_blanks : List Str := ["pool", "many"]
abbrev st__law_loose : Stmt := topS 38
abbrev nl__law_loose : List Str := ["pool", "kind", "pairs", "inner", "names", "more", "k", "text", "pair", "first", "second"]
abbrev st__law_room : Stmt := topS 39
abbrev nl__law_room : List Str := ["pool", "loose", "strict", "text", "way", "room", "ahead", "behind", "deep"]
abbrev st__law_both_names : Stmt := topS 40
abbrev nl__law_both_names : List Str := ["pool", "low", "high", "name", "k", "longer", "text", "pairs"]
abbrev st__law_read_back : Stmt := topS 41
abbrev nl__law_read_back : List Str := ["kind", "texts", "pairs", "text", "strict", "loose", "named"]
abbrev st_law : Stmt := topS 42
abbrev nl_law : List Str := ["script", "pool", "texts", "shape", "kind", "strict", "told", "pairs", "road", "loose", "named"]
theorem sc_size_of : FnScope nl_size_of ["kind"] (defScope st_size_of) := ⟨rfl, rfl, rfl, by decide +kernel, rfl, by decide +kernel, by decide +kernel⟩
theorem sc_format_part : FnScope nl_format_part ["kind"] (defScope st_format_part) := ⟨rfl, rfl, rfl, by decide +kernel, rfl, by decide +kernel, by decide +kernel⟩
theorem sc_format_kind : FnScope nl_format_kind ["kind"] (defScope st_format_kind) := ⟨rfl, rfl, rfl, by decide +kernel, rfl, by decide +kernel, by decide +kernel⟩
theorem sc_end_of_run : FnScope nl_end_of_run ["text", "start", "characters", "most"] (defScope st_end_of_run) := ⟨rfl, rfl, rfl, by decide +kernel, rfl, by decide +kernel, by decide +kernel⟩
theorem sc_read_atom : FnScope nl_read_atom ["text", "start"] (defScope st_read_atom) := ⟨rfl, rfl, rfl, by decide +kernel, rfl, by decide +kernel, by decide +kernel⟩
theorem sc_is_name_beginning : FnScope nl_is_name_beginning ["text", "shorts"] (defScope st_is_name_beginning) := ⟨rfl, rfl, rfl, by decide +kernel, rfl, by decide +kernel, by decide +kernel⟩
theorem sc_read_short : FnScope nl_read_short ["text", "start", "shorts"] (defScope st_read_short) := ⟨rfl, rfl, rfl, by decide +kernel, rfl, by decide +kernel, by decide +kernel⟩
theorem sc_read_unit : FnScope nl_read_unit ["text", "start", "shorts"] (defScope st_read_unit) := ⟨rfl, rfl, rfl, by decide +kernel, rfl, by decide +kernel, by decide +kernel⟩
theorem sc_join_units : FnScope nl_join_units ["units"] (defScope st_join_units) := ⟨rfl, rfl, rfl, by decide +kernel, rfl, by decide +kernel, by decide +kernel⟩
theorem sc_read_kind : FnScope nl_read_kind ["text", "shorts"] (defScope st_read_kind) := ⟨rfl, rfl, rfl, by decide +kernel, rfl, by decide +kernel, by decide +kernel⟩
theorem sc_parse_kind : FnScope nl_parse_kind ["text", "shorts"] (defScope st_parse_kind) := ⟨rfl, rfl, rfl, by decide +kernel, rfl, by decide +kernel, by decide +kernel⟩
theorem sc__law_cell : FnScope nl__law_cell ["script", "k"] (defScope st__law_cell) := ⟨rfl, rfl, rfl, by decide +kernel, rfl, by decide +kernel, by decide +kernel⟩
theorem sc__law_mix : FnScope nl__law_mix ["x"] (defScope st__law_mix) := ⟨rfl, rfl, rfl, by decide +kernel, rfl, by decide +kernel, by decide +kernel⟩
theorem sc__law_pool : FnScope nl__law_pool ["script", "k"] (defScope st__law_pool) := ⟨rfl, rfl, rfl, by decide +kernel, rfl, by decide +kernel, by decide +kernel⟩
theorem sc__law_draw : FnScope nl__law_draw ["pool", "many"] (defScope st__law_draw) := ⟨rfl, rfl, rfl, by decide +kernel, rfl, by decide +kernel, by decide +kernel⟩
theorem sc__law_letters : FnScope nl__law_letters [] (defScope st__law_letters) := ⟨rfl, rfl, rfl, by decide +kernel, rfl, by decide +kernel, by decide +kernel⟩
theorem sc__law_atom : FnScope nl__law_atom ["pool", "most"] (defScope st__law_atom) := ⟨rfl, rfl, rfl, by decide +kernel, rfl, by decide +kernel, by decide +kernel⟩
theorem sc__law_atoms : FnScope nl__law_atoms ["pool"] (defScope st__law_atoms) := ⟨rfl, rfl, rfl, by decide +kernel, rfl, by decide +kernel, by decide +kernel⟩
theorem sc__law_bracket : FnScope nl__law_bracket ["pool", "texts", "way"] (defScope st__law_bracket) := ⟨rfl, rfl, rfl, by decide +kernel, rfl, by decide +kernel, by decide +kernel⟩
theorem sc__law_full : FnScope nl__law_full ["kind"] (defScope st__law_full) := ⟨rfl, rfl, rfl, by decide +kernel, rfl, by decide +kernel, by decide +kernel⟩
theorem sc__law_text : FnScope nl__law_text ["kind"] (defScope st__law_text) := ⟨rfl, rfl, rfl, by decide +kernel, rfl, by decide +kernel, by decide +kernel⟩
theorem sc__law_parts : FnScope nl__law_parts ["kind"] (defScope st__law_parts) := ⟨rfl, rfl, rfl, by decide +kernel, rfl, by decide +kernel, by decide +kernel⟩
theorem sc__law_pairs : FnScope nl__law_pairs ["pool", "kind"] (defScope st__law_pairs) := ⟨rfl, rfl, rfl, by decide +kernel, rfl, by decide +kernel, by decide +kernel⟩
theorem sc__law_blanks : FnScope nl__law_blanks ["pool"] (defScope st__law_blanks) := ⟨rfl, rfl, rfl, by decide +kernel, rfl, by decide +kernel, by decide +kernel⟩
theorem sc__law_loose : FnScope nl__law_loose ["pool", "kind", "pairs", "inner"] (defScope st__law_loose) := ⟨rfl, rfl, rfl, by decide +kernel, rfl, by decide +kernel, by decide +kernel⟩
theorem sc__law_room : FnScope nl__law_room ["pool", "loose", "strict"] (defScope st__law_room) := ⟨rfl, rfl, rfl, by decide +kernel, rfl, by decide +kernel, by decide +kernel⟩
theorem sc__law_both_names : FnScope nl__law_both_names ["pool", "low", "high"] (defScope st__law_both_names) := ⟨rfl, rfl, rfl, by decide +kernel, rfl, by decide +kernel, by decide +kernel⟩
theorem sc__law_read_back : FnScope nl__law_read_back ["kind", "texts", "pairs"] (defScope st__law_read_back) := ⟨rfl, rfl, rfl, by decide +kernel, rfl, by decide +kernel, by decide +kernel⟩
theorem sc_law : FnScope nl_law ["script"] (defScope st_law) := ⟨rfl, rfl, rfl, by decide +kernel, rfl, by decide +kernel, by decide +kernel⟩
theorem boot_isinstance_ : bootBuiltins "isinstance" = some (.builtin "isinstance") := by decide +kernel
theorem boot_str_ : bootBuiltins "str" = some (.type "str") := by decide +kernel
theorem boot_len_ : bootBuiltins "len" = some (.builtin "len") := by decide +kernel
theorem boot_any_ : bootBuiltins "any" = some (.builtin "any") := by decide +kernel
theorem boot_int_ : bootBuiltins "int" = some (.type "int") := by decide +kernel
theorem boot_abs_ : bootBuiltins "abs" = some (.builtin "abs") := by decide +kernel
theorem boot_min_ : bootBuiltins "min" = some (.builtin "min") := by decide +kernel
theorem boot_tuple_ : bootBuiltins "tuple" = some (.type "tuple") := by decide +kernel
/-- a module's constant -/
structure Kon (K : PySem.W.Frag) (mg : Str → Option Value) (x : Str) (d : D) (v : V) (u : Value) : Prop where
  m : mg x = some u
  r : RelV v u
  d : ∀ m H, RD K m H v d
structure Txt (w : World) (K : PySem.W.Frag) (mg : Str → Option Value) (f : FN → Addr) (fd : FN → FuncData) (cv : Nat → V) (cu : Nat → Value) (cl : Nat → Addr) (tb : Nat → Addr) : Prop where
  F_size_of : Fun K "size_of" "size_of" st_size_of (f .size_of) (fd .size_of)
  b_size_of : Binds K (fd .size_of) ["kind"] []
  m_size_of : mg "size_of" = some (.ref (f .size_of))
  F_format_part : Fun K "format_part" "format_part" st_format_part (f .format_part) (fd .format_part)
  b_format_part : Binds K (fd .format_part) ["kind"] []
  m_format_part : mg "format_part" = some (.ref (f .format_part))
  F_format_kind : Fun K "format_kind" "format_kind" st_format_kind (f .format_kind) (fd .format_kind)
  b_format_kind : Binds K (fd .format_kind) ["kind"] []
  m_format_kind : mg "format_kind" = some (.ref (f .format_kind))
  F_end_of_run : Fun K "end_of_run" "end_of_run" st_end_of_run (f .end_of_run) (fd .end_of_run)
  b_end_of_run : Binds K (fd .end_of_run) ["text", "start", "characters", "most"] []
  m_end_of_run : mg "end_of_run" = some (.ref (f .end_of_run))
  F_read_atom : Fun K "read_atom" "read_atom" st_read_atom (f .read_atom) (fd .read_atom)
  b_read_atom : Binds K (fd .read_atom) ["text", "start"] []
  m_read_atom : mg "read_atom" = some (.ref (f .read_atom))
  F_is_name_beginning : Fun K "is_name_beginning" "is_name_beginning" st_is_name_beginning (f .is_name_beginning) (fd .is_name_beginning)
  b_is_name_beginning : Binds K (fd .is_name_beginning) ["text", "shorts"] []
  m_is_name_beginning : mg "is_name_beginning" = some (.ref (f .is_name_beginning))
  F_read_short : Fun K "read_short" "read_short" st_read_short (f .read_short) (fd .read_short)
  b_read_short : Binds K (fd .read_short) ["text", "start", "shorts"] []
  m_read_short : mg "read_short" = some (.ref (f .read_short))
  F_read_unit : Fun K "read_unit" "read_unit" st_read_unit (f .read_unit) (fd .read_unit)
  b_read_unit : Binds K (fd .read_unit) ["text", "start", "shorts"] []
  m_read_unit : mg "read_unit" = some (.ref (f .read_unit))
  F_join_units : Fun K "join_units" "join_units" st_join_units (f .join_units) (fd .join_units)
  b_join_units : Binds K (fd .join_units) ["units"] []
  m_join_units : mg "join_units" = some (.ref (f .join_units))
  F_read_kind : Fun K "read_kind" "read_kind" st_read_kind (f .read_kind) (fd .read_kind)
  b_read_kind : Binds K (fd .read_kind) ["text", "shorts"] []
  m_read_kind : mg "read_kind" = some (.ref (f .read_kind))
  F_parse_kind : Fun K "parse_kind" "parse_kind" st_parse_kind (f .parse_kind) (fd .parse_kind)
  b_parse_kind : KwDef K (fd .parse_kind) ["text", "shorts"] 1 "shorts" (.tup [])
  m_parse_kind : mg "parse_kind" = some (.ref (f .parse_kind))
  F__law_cell : Fun K "_law_cell" "_law_cell" st__law_cell (f ._law_cell) (fd ._law_cell)
  b__law_cell : Binds K (fd ._law_cell) ["script", "k"] []
  m__law_cell : mg "_law_cell" = some (.ref (f ._law_cell))
  F__law_mix : Fun K "_law_mix" "_law_mix" st__law_mix (f ._law_mix) (fd ._law_mix)
  b__law_mix : Binds K (fd ._law_mix) ["x"] []
  m__law_mix : mg "_law_mix" = some (.ref (f ._law_mix))
  F__law_pool : Fun K "_law_pool" "_law_pool" st__law_pool (f ._law_pool) (fd ._law_pool)
  b__law_pool : Binds K (fd ._law_pool) ["script", "k"] []
  m__law_pool : mg "_law_pool" = some (.ref (f ._law_pool))
  F__law_draw : Fun K "_law_draw" "_law_draw" st__law_draw (f ._law_draw) (fd ._law_draw)
  b__law_draw : Binds K (fd ._law_draw) ["pool", "many"] []
  m__law_draw : mg "_law_draw" = some (.ref (f ._law_draw))
  F__law_letters : Fun K "_law_letters" "_law_letters" st__law_letters (f ._law_letters) (fd ._law_letters)
  b__law_letters : Binds K (fd ._law_letters) [] []
  m__law_letters : mg "_law_letters" = some (.ref (f ._law_letters))
  F__law_atom : Fun K "_law_atom" "_law_atom" st__law_atom (f ._law_atom) (fd ._law_atom)
  b__law_atom : Binds K (fd ._law_atom) ["pool", "most"] []
  m__law_atom : mg "_law_atom" = some (.ref (f ._law_atom))
  F__law_atoms : Fun K "_law_atoms" "_law_atoms" st__law_atoms (f ._law_atoms) (fd ._law_atoms)
  b__law_atoms : Binds K (fd ._law_atoms) ["pool"] []
  m__law_atoms : mg "_law_atoms" = some (.ref (f ._law_atoms))
  F__law_bracket : Fun K "_law_bracket" "_law_bracket" st__law_bracket (f ._law_bracket) (fd ._law_bracket)
  b__law_bracket : Binds K (fd ._law_bracket) ["pool", "texts", "way"] []
  m__law_bracket : mg "_law_bracket" = some (.ref (f ._law_bracket))
  F__law_full : Fun K "_law_full" "_law_full" st__law_full (f ._law_full) (fd ._law_full)
  b__law_full : Binds K (fd ._law_full) ["kind"] []
  m__law_full : mg "_law_full" = some (.ref (f ._law_full))
  F__law_text : Fun K "_law_text" "_law_text" st__law_text (f ._law_text) (fd ._law_text)
  b__law_text : Binds K (fd ._law_text) ["kind"] []
  m__law_text : mg "_law_text" = some (.ref (f ._law_text))
  F__law_parts : Fun K "_law_parts" "_law_parts" st__law_parts (f ._law_parts) (fd ._law_parts)
  b__law_parts : Binds K (fd ._law_parts) ["kind"] []
  m__law_parts : mg "_law_parts" = some (.ref (f ._law_parts))
  F__law_pairs : Fun K "_law_pairs" "_law_pairs" st__law_pairs (f ._law_pairs) (fd ._law_pairs)
  b__law_pairs : Binds K (fd ._law_pairs) ["pool", "kind"] []
  m__law_pairs : mg "_law_pairs" = some (.ref (f ._law_pairs))
  F__law_blanks : Fun K "_law_blanks" "_law_blanks" st__law_blanks (f ._law_blanks) (fd ._law_blanks)
  b__law_blanks : Binds K (fd ._law_blanks) ["pool"] []
  m__law_blanks : mg "_law_blanks" = some (.ref (f ._law_blanks))
  F__law_loose : Fun K "_law_loose" "_law_loose" st__law_loose (f ._law_loose) (fd ._law_loose)
  b__law_loose : Binds K (fd ._law_loose) ["pool", "kind", "pairs", "inner"] []
  m__law_loose : mg "_law_loose" = some (.ref (f ._law_loose))
  F__law_room : Fun K "_law_room" "_law_room" st__law_room (f ._law_room) (fd ._law_room)
  b__law_room : Binds K (fd ._law_room) ["pool", "loose", "strict"] []
  m__law_room : mg "_law_room" = some (.ref (f ._law_room))
  F__law_both_names : Fun K "_law_both_names" "_law_both_names" st__law_both_names (f ._law_both_names) (fd ._law_both_names)
  b__law_both_names : Binds K (fd ._law_both_names) ["pool", "low", "high"] []
  m__law_both_names : mg "_law_both_names" = some (.ref (f ._law_both_names))
  F__law_read_back : Fun K "_law_read_back" "_law_read_back" st__law_read_back (f ._law_read_back) (fd ._law_read_back)
  b__law_read_back : Binds K (fd ._law_read_back) ["kind", "texts", "pairs"] []
  m__law_read_back : mg "_law_read_back" = some (.ref (f ._law_read_back))
  F_law : Fun K "law" "law" st_law (f .law) (fd .law)
  b_law : Binds K (fd .law) ["script"] []
  m_law : mg "law" = some (.ref (f .law))
  n_isinstance : mg "isinstance" = none
  n_str : mg "str" = none
  n_len : mg "len" = none
  n_any : mg "any" = none
  n_int : mg "int" = none
  n_abs : mg "abs" = none
  n_range : mg "range" = none
  n_min : mg "min" = none
  n_tuple : mg "tuple" = none
  c_MOST_IN_NAME : Kon K mg "MOST_IN_NAME" k_MOST_IN_NAME (cv 0) (cu 0)
  c_LETTERS : Kon K mg "LETTERS" k_LETTERS (cv 1) (cu 1)
  c_DIGITS : Kon K mg "DIGITS" k_DIGITS (cv 2) (cu 2)
  c_MOST_IN_NUMBER : Kon K mg "MOST_IN_NUMBER" k_MOST_IN_NUMBER (cv 3) (cu 3)
  c_SIGNS : Kon K mg "SIGNS" k_SIGNS (cv 4) (cu 4)
  c_MOST_CHARACTERS : Kon K mg "MOST_CHARACTERS" k_MOST_CHARACTERS (cv 5) (cu 5)
  c_MOST : Kon K mg "MOST" k_MOST (cv 6) (cu 6)
  gm_SizeError : mg "SizeError" = some (.ref (cl 0))
  e_SizeError : XCls K mg "SizeError" [.type "ValueError", .type "Exception", .type "BaseException", .type "object"] "ValueError.__new__" (cl 0)
structure Oks (P : Program) (w : World) (K : PySem.W.Frag) (mg : Str → Option Value) (base : Heap) (f : FN → Addr) (fd : FN → FuncData) (n : Nat) : Prop where
  o_size_of : Dl.FnOk P w K mg base (L2.CX P w) n (f .size_of) (fd .size_of) ["kind"] (rdF ⟨K, mg, W0⟩ (tab n .size_of))
  o_format_part : Dl.FnOk P w K mg base (L2.CX P w) n (f .format_part) (fd .format_part) ["kind"] (rdF ⟨K, mg, W0⟩ (tab n .format_part))
  o_format_kind : Dl.FnOk P w K mg base (L2.CX P w) n (f .format_kind) (fd .format_kind) ["kind"] (rdF ⟨K, mg, W0⟩ (tab n .format_kind))
  o_end_of_run : Dl.FnOk P w K mg base (L2.CX P w) n (f .end_of_run) (fd .end_of_run) ["text", "start", "characters", "most"] (rdF ⟨K, mg, W0⟩ (tab n .end_of_run))
  o_read_atom : Dl.FnOk P w K mg base (L2.CX P w) n (f .read_atom) (fd .read_atom) ["text", "start"] (rdF ⟨K, mg, W0⟩ (tab n .read_atom))
  o_is_name_beginning : Dl.FnOk P w K mg base (L2.CX P w) n (f .is_name_beginning) (fd .is_name_beginning) ["text", "shorts"] (rdF ⟨K, mg, W0⟩ (tab n .is_name_beginning))
  o_read_short : Dl.FnOk P w K mg base (L2.CX P w) n (f .read_short) (fd .read_short) ["text", "start", "shorts"] (rdF ⟨K, mg, W0⟩ (tab n .read_short))
  o_read_unit : Dl.FnOk P w K mg base (L2.CX P w) n (f .read_unit) (fd .read_unit) ["text", "start", "shorts"] (rdF ⟨K, mg, W0⟩ (tab n .read_unit))
  o_join_units : Dl.FnOk P w K mg base (L2.CX P w) n (f .join_units) (fd .join_units) ["units"] (rdF ⟨K, mg, W0⟩ (tab n .join_units))
  o_read_kind : Dl.FnOk P w K mg base (L2.CX P w) n (f .read_kind) (fd .read_kind) ["text", "shorts"] (rdF ⟨K, mg, W0⟩ (tab n .read_kind))
  o_parse_kind : Dl.FnOk P w K mg base (L2.CX P w) n (f .parse_kind) (fd .parse_kind) ["text", "shorts"] (rdF ⟨K, mg, W0⟩ (tab n .parse_kind))
  o__law_cell : Dl.FnOk P w K mg base (L2.CX P w) n (f ._law_cell) (fd ._law_cell) ["script", "k"] (rdF ⟨K, mg, W0⟩ (tab n ._law_cell))
  o__law_mix : Dl.FnOk P w K mg base (L2.CX P w) n (f ._law_mix) (fd ._law_mix) ["x"] (rdF ⟨K, mg, W0⟩ (tab n ._law_mix))
  o__law_pool : Dl.FnOk P w K mg base (L2.CX P w) n (f ._law_pool) (fd ._law_pool) ["script", "k"] (rdF ⟨K, mg, W0⟩ (tab n ._law_pool))
  o__law_draw : Dl.FnOk P w K mg base (L2.CX P w) n (f ._law_draw) (fd ._law_draw) ["pool", "many"] (rdF ⟨K, mg, W0⟩ (tab n ._law_draw))
  o__law_letters : Dl.FnOk P w K mg base (L2.CX P w) n (f ._law_letters) (fd ._law_letters) [] (rdF ⟨K, mg, W0⟩ (tab n ._law_letters))
  o__law_atom : Dl.FnOk P w K mg base (L2.CX P w) n (f ._law_atom) (fd ._law_atom) ["pool", "most"] (rdF ⟨K, mg, W0⟩ (tab n ._law_atom))
  o__law_atoms : Dl.FnOk P w K mg base (L2.CX P w) n (f ._law_atoms) (fd ._law_atoms) ["pool"] (rdF ⟨K, mg, W0⟩ (tab n ._law_atoms))
  o__law_bracket : Dl.FnOk P w K mg base (L2.CX P w) n (f ._law_bracket) (fd ._law_bracket) ["pool", "texts", "way"] (rdF ⟨K, mg, W0⟩ (tab n ._law_bracket))
  o__law_full : Dl.FnOk P w K mg base (L2.CX P w) n (f ._law_full) (fd ._law_full) ["kind"] (rdF ⟨K, mg, W0⟩ (tab n ._law_full))
  o__law_text : Dl.FnOk P w K mg base (L2.CX P w) n (f ._law_text) (fd ._law_text) ["kind"] (rdF ⟨K, mg, W0⟩ (tab n ._law_text))
  o__law_parts : Dl.FnOk P w K mg base (L2.CX P w) n (f ._law_parts) (fd ._law_parts) ["kind"] (rdF ⟨K, mg, W0⟩ (tab n ._law_parts))
  o__law_pairs : Dl.FnOk P w K mg base (L2.CX P w) n (f ._law_pairs) (fd ._law_pairs) ["pool", "kind"] (rdF ⟨K, mg, W0⟩ (tab n ._law_pairs))
  o__law_blanks : Dl.FnOk P w K mg base (L2.CX P w) n (f ._law_blanks) (fd ._law_blanks) ["pool"] (rdF ⟨K, mg, W0⟩ (tab n ._law_blanks))
  o__law_loose : Dl.FnOk P w K mg base (L2.CX P w) n (f ._law_loose) (fd ._law_loose) ["pool", "kind", "pairs", "inner"] (rdF ⟨K, mg, W0⟩ (tab n ._law_loose))
  o__law_room : Dl.FnOk P w K mg base (L2.CX P w) n (f ._law_room) (fd ._law_room) ["pool", "loose", "strict"] (rdF ⟨K, mg, W0⟩ (tab n ._law_room))
  o__law_both_names : Dl.FnOk P w K mg base (L2.CX P w) n (f ._law_both_names) (fd ._law_both_names) ["pool", "low", "high"] (rdF ⟨K, mg, W0⟩ (tab n ._law_both_names))
  o__law_read_back : Dl.FnOk P w K mg base (L2.CX P w) n (f ._law_read_back) (fd ._law_read_back) ["kind", "texts", "pairs"] (rdF ⟨K, mg, W0⟩ (tab n ._law_read_back))
  o_law : Dl.FnOk P w K mg base (L2.CX P w) n (f .law) (fd .law) ["script"] (rdF ⟨K, mg, W0⟩ (tab n .law))
section
variable {P : Program} {w : World} {K : PySem.W.Frag} {mg : Str → Option Value} {base : Heap} {f : FN → Addr} {fd : FN → FuncData} {cv : Nat → V} {cu : Nat → Value} {cl tb : Nat → Addr} {n : Nat}
set_option maxHeartbeats 4000000 in
theorem ok_size_of (T : Txt w K mg f fd cv cu cl tb) (O : Oks P w K mg base f fd n) : Dl.FnOk P w K mg base (L2.CX P w) (n + 1) (f .size_of) (fd .size_of) ["kind"] (rdF ⟨K, mg, W0⟩ (tab (n + 1) .size_of)) :=
  fn_ok (N := nl_size_of) (g := b_size_of (tab n)) T.F_size_of sc_size_of fun cdv A outer s H E hr =>
    (t_cons (t_if (d_tv (d_callB (c_isi .str (by decide)) rfl T.n_isinstance boot_isinstance_ (d_aC (d_v 0) (d_aC (d_blt rfl T.n_str boot_str_ rfl) d_aN)))) (t_one (t_ret d_int)) t_nil)
    (t_one (t_ret (d_op o_add (d_call O.o_size_of hr rfl T.m_size_of T.F_size_of.kp T.b_size_of (fun σ => passAt (takes_of rfl rfl rfl rfl) σ) (d_aC (d_ix (d_v 0) d_int) d_aN)) (d_call O.o_size_of hr rfl T.m_size_of T.F_size_of.kp T.b_size_of (fun σ => passAt (takes_of rfl rfl rfl rfl) σ) (d_aC (d_ix (d_v 0) d_int) d_aN))))))
set_option maxHeartbeats 4000000 in
theorem ok_format_part (T : Txt w K mg f fd cv cu cl tb) (O : Oks P w K mg base f fd n) : Dl.FnOk P w K mg base (L2.CX P w) (n + 1) (f .format_part) (fd .format_part) ["kind"] (rdF ⟨K, mg, W0⟩ (tab (n + 1) .format_part)) :=
  fn_ok (N := nl_format_part) (g := b_format_part (tab n)) T.F_format_part sc_format_part fun cdv A outer s H E hr =>
    (t_cons (t_if (d_tv (d_callB (c_isi .str (by decide)) rfl T.n_isinstance boot_isinstance_ (d_aC (d_v 0) (d_aC (d_blt rfl T.n_str boot_str_ rfl) d_aN)))) (t_one (t_ret (d_v 0))) t_nil)
    (t_one (t_ret (d_op o_add (d_op o_add d_str (d_call O.o_format_kind hr rfl T.m_format_kind T.F_format_kind.kp T.b_format_kind (fun σ => passAt (takes_of rfl rfl rfl rfl) σ) (d_aC (d_v 0) d_aN))) d_str))))
set_option maxHeartbeats 4000000 in
theorem ok_format_kind (T : Txt w K mg f fd cv cu cl tb) (O : Oks P w K mg base f fd n) : Dl.FnOk P w K mg base (L2.CX P w) (n + 1) (f .format_kind) (fd .format_kind) ["kind"] (rdF ⟨K, mg, W0⟩ (tab (n + 1) .format_kind)) :=
  fn_ok (N := nl_format_kind) (g := b_format_kind (tab n)) T.F_format_kind sc_format_kind fun cdv A outer s H E hr =>
    (t_cons (t_if (d_tv (d_callB (c_isi .str (by decide)) rfl T.n_isinstance boot_isinstance_ (d_aC (d_v 0) (d_aC (d_blt rfl T.n_str boot_str_ rfl) d_aN)))) (t_one (t_ret (d_v 0))) t_nil)
    (t_cons (t_asg (d_v 0) (g_seq rfl (g_cons (g_nm (j := 1) sc_format_kind.nd) (g_cons (g_nm (j := 2) sc_format_kind.nd) (g_cons (g_nm (j := 3) sc_format_kind.nd) g_nil)))))
    (t_one (t_ret (d_op o_add (d_op o_add (d_op o_add (d_op o_add (d_call O.o_format_part hr rfl T.m_format_part T.F_format_part.kp T.b_format_part (fun σ => passAt (takes_of rfl rfl rfl rfl) σ) (d_aC (d_v 2) d_aN)) d_str) (d_v 1)) d_str) (d_call O.o_format_part hr rfl T.m_format_part T.F_format_part.kp T.b_format_part (fun σ => passAt (takes_of rfl rfl rfl rfl) σ) (d_aC (d_v 3) d_aN)))))))
set_option maxHeartbeats 4000000 in
theorem ok_end_of_run (T : Txt w K mg f fd cv cu cl tb) (O : Oks P w K mg base f fd n) : Dl.FnOk P w K mg base (L2.CX P w) (n + 1) (f .end_of_run) (fd .end_of_run) ["text", "start", "characters", "most"] (rdF ⟨K, mg, W0⟩ (tab (n + 1) .end_of_run)) :=
  fn_ok (N := nl_end_of_run) (g := b_end_of_run (tab n)) T.F_end_of_run sc_end_of_run fun cdv A outer s H E hr =>
    (t_cons (t_set (j := 4) sc_end_of_run.nd (d_v 1))
    (t_cons (t_while WF (passes_of rfl) (PW.pt (d_and (d_tcmp o_lt (d_v 4) (d_callB c_len rfl T.n_len boot_len_ (d_aC (d_v 0) d_aN))) (d_and (d_tcmp o_lt (d_v 4) (d_op o_add (d_v 1) (d_v 3))) (d_and1 (d_tcmp (o_in (r65 hr)) (d_ix (d_v 0) (d_v 4)) (d_v 2)))))) (t_one (t_aug (j := 4) sc_end_of_run.nd ip_addD d_int)))
    (t_one (t_ret (d_v 4)))))
set_option maxHeartbeats 4000000 in
theorem ok_read_atom (T : Txt w K mg f fd cv cu cl tb) (O : Oks P w K mg base f fd n) : Dl.FnOk P w K mg base (L2.CX P w) (n + 1) (f .read_atom) (fd .read_atom) ["text", "start"] (rdF ⟨K, mg, W0⟩ (tab (n + 1) .read_atom)) :=
  fn_ok (N := nl_read_atom) (g := b_read_atom (tab n)) T.F_read_atom sc_read_atom fun cdv A outer s H E hr =>
    (t_cons (t_set (j := 2) sc_read_atom.nd (d_call O.o_end_of_run hr rfl T.m_end_of_run T.F_end_of_run.kp T.b_end_of_run (fun σ => passAt (takes_of rfl rfl rfl rfl) σ) (d_aC (d_v 0) (d_aC (d_v 1) (d_aC (d_op o_add (d_glob rfl T.c_LETTERS.m T.c_LETTERS.r T.c_LETTERS.d) (d_glob rfl T.c_DIGITS.m T.c_DIGITS.r T.c_DIGITS.d)) (d_aC (d_glob rfl T.c_MOST_IN_NAME.m T.c_MOST_IN_NAME.r T.c_MOST_IN_NAME.d) d_aN))))))
    (t_cons (t_if (PW.pt (d_and (d_tcmp o_lt (d_v 2) (d_callB c_len rfl T.n_len boot_len_ (d_aC (d_v 0) d_aN))) (d_and1 (d_tcmp (o_eq hr.units) (d_ix (d_v 0) (d_v 2)) d_str)))) (t_cons (t_set (j := 3) sc_read_atom.nd (d_op o_add (d_v 2) d_int))
    (t_cons (t_if (PW.pt (d_or (d_tcmp (o_eq hr.units) (d_v 3) (d_callB c_len rfl T.n_len boot_len_ (d_aC (d_v 0) d_aN))) (d_or (d_tcmp (o_eq hr.units) (d_ix (d_v 0) (d_v 3)) d_str) (d_or1 (d_tcmp (o_nin (r65 hr)) (d_ix (d_v 0) (d_v 3)) (d_glob rfl T.c_DIGITS.m T.c_DIGITS.r T.c_DIGITS.d)))))) (t_one t_never) t_nil)
    (t_one (t_set (j := 2) sc_read_atom.nd (d_call O.o_end_of_run hr rfl T.m_end_of_run T.F_end_of_run.kp T.b_end_of_run (fun σ => passAt (takes_of rfl rfl rfl rfl) σ) (d_aC (d_v 0) (d_aC (d_v 3) (d_aC (d_glob rfl T.c_DIGITS.m T.c_DIGITS.r T.c_DIGITS.d) (d_aC (d_glob rfl T.c_MOST_IN_NUMBER.m T.c_MOST_IN_NUMBER.r T.c_MOST_IN_NUMBER.d) d_aN))))))))) t_nil)
    (t_one (t_ret (d_tup (d_aC (d_sl (d_v 0) (d_oI (d_v 1)) (d_oI (d_v 2))) (d_aC (d_v 2) d_aN)))))))
set_option maxHeartbeats 4000000 in
theorem ok_is_name_beginning (T : Txt w K mg f fd cv cu cl tb) (O : Oks P w K mg base f fd n) : Dl.FnOk P w K mg base (L2.CX P w) (n + 1) (f .is_name_beginning) (fd .is_name_beginning) ["text", "shorts"] (rdF ⟨K, mg, W0⟩ (tab (n + 1) .is_name_beginning)) :=
  fn_ok (N := nl_is_name_beginning) (g := b_is_name_beginning (tab n)) T.F_is_name_beginning sc_is_name_beginning fun cdv A outer s H E hr =>
    (t_one (t_ret (d_callB (c_any rfl) rfl T.n_any boot_any_ (d_aC (d_lc (own := [("name", 2), ("_", 3)]) (g := (.many [2, 3])) rfl sc_is_name_beginning.nd (w_any (d_v 1)) (blkOk_by (own := [("name", 2), ("_", 3)]) (N := nl_is_name_beginning) (sc := defScope st_is_name_beginning) (by decide +kernel)) (by decide) (fun _ _ _ _ _ => (v_many rfl (v_cons (v_one sc_is_name_beginning.nd) (v_cons (v_one sc_is_name_beginning.nd) v_nil)))) (fun _ _ _ _ _ => u_nil) (fun _ _ _ _ _ => (d_m (T := .str) PySem.F.plainAttrs_str PySem.F.slot_str_startswith PySem.F.type_str_startswith (by decide) m_startsW (d_v 2) (d_aC (d_v 0) d_aN)))) d_aN))))
set_option maxHeartbeats 4000000 in
theorem ok_read_short (T : Txt w K mg f fd cv cu cl tb) (O : Oks P w K mg base f fd n) : Dl.FnOk P w K mg base (L2.CX P w) (n + 1) (f .read_short) (fd .read_short) ["text", "start", "shorts"] (rdF ⟨K, mg, W0⟩ (tab (n + 1) .read_short)) :=
  fn_ok (N := nl_read_short) (g := b_read_short (tab n)) T.F_read_short sc_read_short fun cdv A outer s H E hr =>
    (t_cons (t_set (j := 3) sc_read_short.nd (d_v 1))
    (t_cons (t_while WF (passes_of rfl) (PW.pt (d_and (d_tcmp o_lt (d_v 3) (d_callB c_len rfl T.n_len boot_len_ (d_aC (d_v 0) d_aN))) (d_and1 (d_tv (d_call O.o_is_name_beginning hr rfl T.m_is_name_beginning T.F_is_name_beginning.kp T.b_is_name_beginning (fun σ => passAt (takes_of rfl rfl rfl rfl) σ) (d_aC (d_sl (d_v 0) (d_oI (d_v 1)) (d_oI (d_op o_add (d_v 3) d_int))) (d_aC (d_v 2) d_aN))))))) (t_one (t_aug (j := 3) sc_read_short.nd ip_addD d_int)))
    (t_cons (t_for (passes_of rfl) rfl (w_any (d_v 2)) (g_seq rfl (g_cons (g_nm (j := 4) sc_read_short.nd) (g_cons (g_nm (j := 5) sc_read_short.nd) g_nil))) (t_one (t_if (d_tcmp (o_eq hr.units) (d_v 4) (d_sl (d_v 0) (d_oI (d_v 1)) (d_oI (d_v 3)))) (t_one (t_ret (d_tup (d_aC (d_v 5) (d_aC (d_v 3) d_aN))))) t_nil)))
    (t_one t_never))))
set_option maxHeartbeats 4000000 in
theorem ok_read_unit (T : Txt w K mg f fd cv cu cl tb) (O : Oks P w K mg base f fd n) : Dl.FnOk P w K mg base (L2.CX P w) (n + 1) (f .read_unit) (fd .read_unit) ["text", "start", "shorts"] (rdF ⟨K, mg, W0⟩ (tab (n + 1) .read_unit)) :=
  fn_ok (N := nl_read_unit) (g := b_read_unit (tab n)) T.F_read_unit sc_read_unit fun cdv A outer s H E hr =>
    (t_cons (t_if (d_tcmp (o_in (r65 hr)) (d_ix (d_v 0) (d_v 1)) (d_glob rfl T.c_LETTERS.m T.c_LETTERS.r T.c_LETTERS.d)) (t_one (t_ret (d_call O.o_read_atom hr rfl T.m_read_atom T.F_read_atom.kp T.b_read_atom (fun σ => passAt (takes_of rfl rfl rfl rfl) σ) (d_aC (d_v 0) (d_aC (d_v 1) d_aN))))) t_nil)
    (t_one (t_ret (d_call O.o_read_short hr rfl T.m_read_short T.F_read_short.kp T.b_read_short (fun σ => passAt (takes_of rfl rfl rfl rfl) σ) (d_aC (d_v 0) (d_aC (d_v 1) (d_aC (d_v 2) d_aN)))))))
set_option maxHeartbeats 4000000 in
theorem ok_join_units (T : Txt w K mg f fd cv cu cl tb) (O : Oks P w K mg base f fd n) : Dl.FnOk P w K mg base (L2.CX P w) (n + 1) (f .join_units) (fd .join_units) ["units"] (rdF ⟨K, mg, W0⟩ (tab (n + 1) .join_units)) :=
  fn_ok (N := nl_join_units) (g := b_join_units (tab n)) T.F_join_units sc_join_units fun cdv A outer s H E hr =>
    (t_cons (t_if (d_tcmp (o_eq hr.units) (d_callB c_len rfl T.n_len boot_len_ (d_aC (d_v 0) d_aN)) d_int) (t_one (t_ret (d_ix (d_v 0) d_int))) t_nil)
    (t_cons (t_asg (d_v 0) (g_seq rfl (g_cons (g_nm (j := 1) sc_join_units.nd) (g_cons (g_nm (j := 2) sc_join_units.nd) (g_cons (g_nm (j := 3) sc_join_units.nd) g_nil)))))
    (t_one (t_ret (d_tup (d_aC (d_v 2) (d_aC (d_v 1) (d_aC (d_v 3) d_aN))))))))
set_option maxHeartbeats 4000000 in
theorem ok_read_kind (T : Txt w K mg f fd cv cu cl tb) (O : Oks P w K mg base f fd n) : Dl.FnOk P w K mg base (L2.CX P w) (n + 1) (f .read_kind) (fd .read_kind) ["text", "shorts"] (rdF ⟨K, mg, W0⟩ (tab (n + 1) .read_kind)) :=
  fn_ok (N := nl_read_kind) (g := b_read_kind (tab n)) T.F_read_kind sc_read_kind fun cdv A outer s H E hr =>
    (t_cons (t_set (j := 2) sc_read_kind.nd (d_lst (d_aC (d_lst d_aN) d_aN)))
    (t_cons (t_set (j := 3) sc_read_kind.nd d_int)
    (t_cons (t_while WF (passes_of rfl) (d_tcmp o_lt (d_v 3) (d_callB c_len rfl T.n_len boot_len_ (d_aC (d_v 0) d_aN))) (t_cons (t_set (j := 4) sc_read_kind.nd (d_ix (d_v 0) (d_v 3)))
    (t_cons (t_set (j := 5) sc_read_kind.nd (d_ix (d_v 2) (d_neg d_int)))
    (t_cons (t_set (j := 6) sc_read_kind.nd (d_cmp (o_in (r65 hr)) (d_callB c_len rfl T.n_len boot_len_ (d_aC (d_v 5) d_aN)) (d_tup (d_aC d_int (d_aC d_int d_aN)))))
    (t_one (t_if (d_tcmp (o_eq hr.units) (d_v 4) d_str) (t_one (t_aug (j := 3) sc_read_kind.nd ip_addD d_int)) (t_one (t_if (PW.pt (d_and (d_tv (d_v 6)) (d_and1 (d_tcmp (o_eq hr.units) (d_v 4) d_str)))) (t_cons (t_expr (d_m (T := .lst) PySem.F.plainAttrs_list PySem.F.slot_list_append PySem.F.type_list_append (by decide) m_append (d_v 2) (d_aC (d_lst d_aN) d_aN)))
    (t_one (t_aug (j := 3) sc_read_kind.nd ip_addD d_int))) (t_one (t_if (d_tv (d_v 6)) (t_cons (t_asg (d_call O.o_read_unit hr rfl T.m_read_unit T.F_read_unit.kp T.b_read_unit (fun σ => passAt (takes_of rfl rfl rfl rfl) σ) (d_aC (d_v 0) (d_aC (d_v 3) (d_aC (d_v 1) d_aN)))) (g_seq rfl (g_cons (g_nm (j := 7) sc_read_kind.nd) (g_cons (g_nm (j := 3) sc_read_kind.nd) g_nil))))
    (t_one (t_expr (d_m (T := .lst) PySem.F.plainAttrs_list PySem.F.slot_list_append PySem.F.type_list_append (by decide) m_append (d_v 5) (d_aC (d_v 7) d_aN))))) (t_one (t_if (PW.pt (d_and (d_tcmp (o_eq hr.units) (d_v 4) d_str) (d_and1 (d_tcmp o_gt (d_callB c_len rfl T.n_len boot_len_ (d_aC (d_v 2) d_aN)) d_int)))) (t_cons (t_expr (d_m0 (T := .lst) PySem.F.plainAttrs_list PySem.F.slot_list_pop PySem.F.type_list_pop (by decide) m_pop (d_v 2)))
    (t_cons (t_set (j := 7) sc_read_kind.nd (d_call O.o_join_units hr rfl T.m_join_units T.F_join_units.kp T.b_join_units (fun σ => passAt (takes_of rfl rfl rfl rfl) σ) (d_aC (d_v 5) d_aN)))
    (t_cons (t_expr (d_m (T := .lst) PySem.F.plainAttrs_list PySem.F.slot_list_append PySem.F.type_list_append (by decide) m_append (d_ix (d_v 2) (d_neg d_int)) (d_aC (d_v 7) d_aN)))
    (t_one (t_aug (j := 3) sc_read_kind.nd ip_addD d_int))))) (t_one (t_if (PW.pt (d_and (d_tcmp (o_in (r65 hr)) (d_v 4) (d_glob rfl T.c_SIGNS.m T.c_SIGNS.r T.c_SIGNS.d)) (d_and1 (d_tcmp (o_eq hr.units) (d_callB c_len rfl T.n_len boot_len_ (d_aC (d_v 5) d_aN)) d_int)))) (t_cons (t_expr (d_m (T := .lst) PySem.F.plainAttrs_list PySem.F.slot_list_append PySem.F.type_list_append (by decide) m_append (d_v 5) (d_aC (d_v 4) d_aN)))
    (t_one (t_aug (j := 3) sc_read_kind.nd ip_addD d_int))) (t_one t_never)))))))))))))))
    (t_cons (t_if (PW.pt (d_or (d_tcmp o_gt (d_callB c_len rfl T.n_len boot_len_ (d_aC (d_v 2) d_aN)) d_int) (d_or1 (d_tcmp (o_in (r65 hr)) (d_callB c_len rfl T.n_len boot_len_ (d_aC (d_ix (d_v 2) d_int) d_aN)) (d_tup (d_aC d_int (d_aC d_int d_aN))))))) (t_one t_never) t_nil)
    (t_one (t_ret (d_call O.o_join_units hr rfl T.m_join_units T.F_join_units.kp T.b_join_units (fun σ => passAt (takes_of rfl rfl rfl rfl) σ) (d_aC (d_ix (d_v 2) d_int) d_aN))))))))
set_option maxHeartbeats 4000000 in
theorem ok_parse_kind (T : Txt w K mg f fd cv cu cl tb) (O : Oks P w K mg base f fd n) : Dl.FnOk P w K mg base (L2.CX P w) (n + 1) (f .parse_kind) (fd .parse_kind) ["text", "shorts"] (rdF ⟨K, mg, W0⟩ (tab (n + 1) .parse_kind)) :=
  fn_ok (N := nl_parse_kind) (g := b_parse_kind (tab n)) T.F_parse_kind sc_parse_kind fun cdv A outer s H E hr =>
    (t_cons (t_if (d_tcmp o_gt (d_callB c_len rfl T.n_len boot_len_ (d_aC (d_v 0) d_aN)) (d_glob rfl T.c_MOST_CHARACTERS.m T.c_MOST_CHARACTERS.r T.c_MOST_CHARACTERS.d)) (t_one (t_raise rfl (takes_of rfl rfl rfl rfl) PySem.F.excBase_ValueError T.e_SizeError rfl)) t_nil)
    (t_cons (t_set (j := 2) sc_parse_kind.nd (d_call O.o_read_kind hr rfl T.m_read_kind T.F_read_kind.kp T.b_read_kind (fun σ => passAt (takes_of rfl rfl rfl rfl) σ) (d_aC (d_v 0) (d_aC (d_v 1) d_aN))))
    (t_cons (t_if (d_tcmp o_gt (d_call O.o_size_of hr rfl T.m_size_of T.F_size_of.kp T.b_size_of (fun σ => passAt (takes_of rfl rfl rfl rfl) σ) (d_aC (d_v 2) d_aN)) (d_glob rfl T.c_MOST.m T.c_MOST.r T.c_MOST.d)) (t_one (t_raise rfl (takes_of rfl rfl rfl rfl) PySem.F.excBase_ValueError T.e_SizeError rfl)) t_nil)
    (t_one (t_ret (d_v 2))))))
set_option maxHeartbeats 4000000 in
theorem ok__law_cell (T : Txt w K mg f fd cv cu cl tb) (O : Oks P w K mg base f fd n) : Dl.FnOk P w K mg base (L2.CX P w) (n + 1) (f ._law_cell) (fd ._law_cell) ["script", "k"] (rdF ⟨K, mg, W0⟩ (tab (n + 1) ._law_cell)) :=
  fn_ok (N := nl__law_cell) (g := b__law_cell (tab n)) T.F__law_cell sc__law_cell fun cdv A outer s H E hr =>
    (t_cons (t_if (d_tcmp o_lt (d_v 1) (d_callB c_len rfl T.n_len boot_len_ (d_aC (d_v 0) d_aN))) (t_one (t_ret (d_callT c_int rfl T.n_int boot_int_ (d_aC (d_ix (d_v 0) (d_v 1)) d_aN)))) t_nil)
    (t_one (t_ret d_int)))
set_option maxHeartbeats 4000000 in
theorem ok__law_mix (T : Txt w K mg f fd cv cu cl tb) (O : Oks P w K mg base f fd n) : Dl.FnOk P w K mg base (L2.CX P w) (n + 1) (f ._law_mix) (fd ._law_mix) ["x"] (rdF ⟨K, mg, W0⟩ (tab (n + 1) ._law_mix)) :=
  fn_ok (N := nl__law_mix) (g := b__law_mix (tab n)) T.F__law_mix sc__law_mix fun cdv A outer s H E hr =>
    (t_cons (t_set (j := 0) sc__law_mix.nd (d_op o_mod (d_callT c_int rfl T.n_int boot_int_ (d_aC (d_op o_add (d_op o_add (d_op o_mul (d_v 0) (d_v 0)) (d_op o_mul d_int (d_v 0))) d_int) d_aN)) d_int))
    (t_one (t_ret (d_op o_mod (d_callT c_int rfl T.n_int boot_int_ (d_aC (d_op o_add (d_op o_add (d_op o_mul (d_v 0) (d_v 0)) (d_op o_mul d_int (d_v 0))) d_int) d_aN)) d_int))))
set_option maxHeartbeats 4000000 in
theorem ok__law_pool (T : Txt w K mg f fd cv cu cl tb) (O : Oks P w K mg base f fd n) : Dl.FnOk P w K mg base (L2.CX P w) (n + 1) (f ._law_pool) (fd ._law_pool) ["script", "k"] (rdF ⟨K, mg, W0⟩ (tab (n + 1) ._law_pool)) :=
  fn_ok (N := nl__law_pool) (g := b__law_pool (tab n)) T.F__law_pool sc__law_pool fun cdv A outer s H E hr =>
    (t_cons (t_set (j := 2) sc__law_pool.nd (d_call O.o__law_cell hr rfl T.m__law_cell T.F__law_cell.kp T.b__law_cell (fun σ => passAt (takes_of rfl rfl rfl rfl) σ) (d_aC (d_v 0) (d_aC (d_v 1) d_aN))))
    (t_cons (t_if (d_tcmp o_ge (d_v 2) (d_op o_pow d_int d_int)) (t_one (t_ret (d_lst (d_aC (d_op o_sub (d_v 2) (d_op o_pow d_int d_int)) (d_aC (d_op o_mul d_int (d_op o_add (d_v 1) d_int)) (d_aC d_int d_aN)))))) t_nil)
    (t_one (t_ret (d_lst (d_aC d_int (d_aC (d_op o_add (d_op o_mod (d_callT c_int rfl T.n_int boot_int_ (d_aC (d_callB c_abs rfl T.n_abs boot_abs_ (d_aC (d_v 2) d_aN)) d_aN)) d_int) (d_op o_mul d_int (d_v 1))) (d_aC d_int d_aN))))))))
set_option maxHeartbeats 4000000 in
theorem ok__law_draw (T : Txt w K mg f fd cv cu cl tb) (O : Oks P w K mg base f fd n) : Dl.FnOk P w K mg base (L2.CX P w) (n + 1) (f ._law_draw) (fd ._law_draw) ["pool", "many"] (rdF ⟨K, mg, W0⟩ (tab (n + 1) ._law_draw)) :=
  fn_ok (N := nl__law_draw) (g := b__law_draw (tab n)) T.F__law_draw sc__law_draw fun cdv A outer s H E hr =>
    (t_cons (t_if (d_tcmp o_gt (d_ix (d_v 0) d_int) d_int) (t_cons (t_set (j := 2) sc__law_draw.nd (d_op o_mod (d_callT c_int rfl T.n_int boot_int_ (d_aC (d_ix (d_v 0) d_int) d_aN)) (d_v 1)))
    (t_cons (t_asg (d_op o_fdivW (d_ix (d_v 0) d_int) (d_v 1)) (g_ixX (u1 hr) (d_v 0) d_int))
    (t_one (t_ret (d_v 2))))) t_nil)
    (t_cons (t_asg (d_op o_add (d_ix (d_v 0) d_int) d_int) (g_ixX (u1 hr) (d_v 0) d_int))
    (t_one (t_ret (d_op o_mod (d_callT c_int rfl T.n_int boot_int_ (d_aC (d_op o_fdivW (d_call O.o__law_mix hr rfl T.m__law_mix T.F__law_mix.kp T.b__law_mix (fun σ => passAt (takes_of rfl rfl rfl rfl) σ) (d_aC (d_op o_add (d_ix (d_v 0) d_int) (d_op o_mul d_int (d_ix (d_v 0) d_int))) d_aN)) d_int) d_aN)) (d_v 1))))))
set_option maxHeartbeats 4000000 in
theorem ok__law_letters (T : Txt w K mg f fd cv cu cl tb) (O : Oks P w K mg base f fd n) : Dl.FnOk P w K mg base (L2.CX P w) (n + 1) (f ._law_letters) (fd ._law_letters) [] (rdF ⟨K, mg, W0⟩ (tab (n + 1) ._law_letters)) :=
  fn_ok (N := nl__law_letters) (g := b__law_letters (tab n)) T.F__law_letters sc__law_letters fun cdv A outer s H E hr =>
    (t_one (t_ret d_str))
set_option maxHeartbeats 4000000 in
theorem ok__law_atom (T : Txt w K mg f fd cv cu cl tb) (O : Oks P w K mg base f fd n) : Dl.FnOk P w K mg base (L2.CX P w) (n + 1) (f ._law_atom) (fd ._law_atom) ["pool", "most"] (rdF ⟨K, mg, W0⟩ (tab (n + 1) ._law_atom)) :=
  fn_ok (N := nl__law_atom) (g := b__law_atom (tab n)) T.F__law_atom sc__law_atom fun cdv A outer s H E hr =>
    (t_cons (t_set (j := 2) sc__law_atom.nd (d_ix (d_call0 O.o__law_letters hr rfl T.m__law_letters T.F__law_letters.kp T.b__law_letters (fun σ => passAt (takes_of rfl rfl rfl rfl) σ)) (d_call O.o__law_draw hr rfl T.m__law_draw T.F__law_draw.kp T.b__law_draw (fun σ => passAt (takes_of rfl rfl rfl rfl) σ) (d_aC (d_v 0) (d_aC d_int d_aN)))))
    (t_cons (t_for (passes_of rfl) rfl (w_rng1 rfl T.n_range (d_ix (d_lst (d_aC d_int (d_aC d_int (d_aC d_int (d_aC d_int (d_aC d_int (d_aC d_int (d_aC d_int (d_aC d_int (d_aC d_int (d_aC d_int d_aN))))))))))) (d_call O.o__law_draw hr rfl T.m__law_draw T.F__law_draw.kp T.b__law_draw (fun σ => passAt (takes_of rfl rfl rfl rfl) σ) (d_aC (d_v 0) (d_aC d_int d_aN))))) (g_nm (j := 3) sc__law_atom.nd) (t_one (t_set (j := 2) sc__law_atom.nd (d_op o_add (d_v 2) (d_ix (d_op o_add (d_call0 O.o__law_letters hr rfl T.m__law_letters T.F__law_letters.kp T.b__law_letters (fun σ => passAt (takes_of rfl rfl rfl rfl) σ)) d_str) (d_call O.o__law_draw hr rfl T.m__law_draw T.F__law_draw.kp T.b__law_draw (fun σ => passAt (takes_of rfl rfl rfl rfl) σ) (d_aC (d_v 0) (d_aC d_int d_aN))))))))
    (t_cons (t_set (j := 4) sc__law_atom.nd (d_call O.o__law_draw hr rfl T.m__law_draw T.F__law_draw.kp T.b__law_draw (fun σ => passAt (takes_of rfl rfl rfl rfl) σ) (d_aC (d_v 0) (d_aC d_int d_aN))))
    (t_cons (t_if (d_tcmp o_lt (d_v 1) d_int) (t_one (t_ret (d_sl (d_v 2) d_oN (d_oI (d_v 1))))) t_nil)
    (t_cons (t_if (d_tcmp (o_eq hr.units) (d_v 4) d_int) (t_one (t_ret (d_op o_add (d_op o_add (d_v 2) d_str) (d_callT c_str rfl T.n_str boot_str_ (d_aC (d_op o_add d_int (d_call O.o__law_draw hr rfl T.m__law_draw T.F__law_draw.kp T.b__law_draw (fun σ => passAt (takes_of rfl rfl rfl rfl) σ) (d_aC (d_v 0) (d_aC d_int d_aN)))) d_aN))))) t_nil)
    (t_cons (t_if (d_tcmp (o_eq hr.units) (d_v 4) d_int) (t_one (t_ret (d_op o_add (d_op o_add (d_v 2) d_str) (d_callT c_str rfl T.n_str boot_str_ (d_aC (d_op o_add d_int (d_call O.o__law_draw hr rfl T.m__law_draw T.F__law_draw.kp T.b__law_draw (fun σ => passAt (takes_of rfl rfl rfl rfl) σ) (d_aC (d_v 0) (d_aC d_int d_aN)))) d_aN))))) t_nil)
    (t_one (t_ret (d_v 2)))))))))
set_option maxHeartbeats 4000000 in
theorem ok__law_atoms (T : Txt w K mg f fd cv cu cl tb) (O : Oks P w K mg base f fd n) : Dl.FnOk P w K mg base (L2.CX P w) (n + 1) (f ._law_atoms) (fd ._law_atoms) ["pool"] (rdF ⟨K, mg, W0⟩ (tab (n + 1) ._law_atoms)) :=
  fn_ok (N := nl__law_atoms) (g := b__law_atoms (tab n)) T.F__law_atoms sc__law_atoms fun cdv A outer s H E hr =>
    (t_cons (t_set (j := 1) sc__law_atoms.nd (d_op o_add d_int (d_call O.o__law_draw hr rfl T.m__law_draw T.F__law_draw.kp T.b__law_draw (fun σ => passAt (takes_of rfl rfl rfl rfl) σ) (d_aC (d_v 0) (d_aC d_int d_aN)))))
    (t_cons (t_set (j := 2) sc__law_atoms.nd d_int)
    (t_cons (t_if (d_tcmp (o_eq hr.units) (d_call O.o__law_draw hr rfl T.m__law_draw T.F__law_draw.kp T.b__law_draw (fun σ => passAt (takes_of rfl rfl rfl rfl) σ) (d_aC (d_v 0) (d_aC d_int d_aN))) d_int) (t_cons (t_set (j := 1) sc__law_atoms.nd (d_ix (d_lst (d_aC d_int (d_aC d_int (d_aC (d_op o_add d_int (d_call O.o__law_draw hr rfl T.m__law_draw T.F__law_draw.kp T.b__law_draw (fun σ => passAt (takes_of rfl rfl rfl rfl) σ) (d_aC (d_v 0) (d_aC d_int d_aN)))) d_aN)))) (d_call O.o__law_draw hr rfl T.m__law_draw T.F__law_draw.kp T.b__law_draw (fun σ => passAt (takes_of rfl rfl rfl rfl) σ) (d_aC (d_v 0) (d_aC d_int d_aN)))))
    (t_one (t_set (j := 2) sc__law_atoms.nd (d_ix (d_lst (d_aC d_int (d_aC d_int (d_aC d_int (d_aC d_int d_aN))))) (d_call O.o__law_draw hr rfl T.m__law_draw T.F__law_draw.kp T.b__law_draw (fun σ => passAt (takes_of rfl rfl rfl rfl) σ) (d_aC (d_v 0) (d_aC d_int d_aN))))))) t_nil)
    (t_cons (t_set (j := 3) sc__law_atoms.nd (d_lst (d_aC (d_call O.o__law_atom hr rfl T.m__law_atom T.F__law_atom.kp T.b__law_atom (fun σ => passAt (takes_of rfl rfl rfl rfl) σ) (d_aC (d_v 0) (d_aC (d_v 2) d_aN))) d_aN)))
    (t_cons (t_for (passes_of rfl) rfl (w_rng1 rfl T.n_range (d_op o_sub (d_v 1) d_int)) (g_nm (j := 4) sc__law_atoms.nd) (t_one (t_if (d_tcmp (o_eq hr.units) (d_call O.o__law_draw hr rfl T.m__law_draw T.F__law_draw.kp T.b__law_draw (fun σ => passAt (takes_of rfl rfl rfl rfl) σ) (d_aC (d_v 0) (d_aC d_int d_aN))) d_int) (t_one (t_expr (d_m (T := .lst) PySem.F.plainAttrs_list PySem.F.slot_list_append PySem.F.type_list_append (by decide) m_append (d_v 3) (d_aC (d_ix (d_v 3) (d_call O.o__law_draw hr rfl T.m__law_draw T.F__law_draw.kp T.b__law_draw (fun σ => passAt (takes_of rfl rfl rfl rfl) σ) (d_aC (d_v 0) (d_aC (d_callB c_len rfl T.n_len boot_len_ (d_aC (d_v 3) d_aN)) d_aN)))) d_aN)))) (t_one (t_expr (d_m (T := .lst) PySem.F.plainAttrs_list PySem.F.slot_list_append PySem.F.type_list_append (by decide) m_append (d_v 3) (d_aC (d_call O.o__law_atom hr rfl T.m__law_atom T.F__law_atom.kp T.b__law_atom (fun σ => passAt (takes_of rfl rfl rfl rfl) σ) (d_aC (d_v 0) (d_aC (d_v 2) d_aN))) d_aN)))))))
    (t_one (t_ret (d_v 3))))))))
set_option maxHeartbeats 4000000 in
theorem ok__law_bracket (T : Txt w K mg f fd cv cu cl tb) (O : Oks P w K mg base f fd n) : Dl.FnOk P w K mg base (L2.CX P w) (n + 1) (f ._law_bracket) (fd ._law_bracket) ["pool", "texts", "way"] (rdF ⟨K, mg, W0⟩ (tab (n + 1) ._law_bracket)) :=
  fn_ok (N := nl__law_bracket) (g := b__law_bracket (tab n)) T.F__law_bracket sc__law_bracket fun cdv A outer s H E hr =>
    (t_cons (t_if (d_tcmp (o_eq hr.units) (d_callB c_len rfl T.n_len boot_len_ (d_aC (d_v 1) d_aN)) d_int) (t_one (t_ret (d_ix (d_v 1) d_int))) t_nil)
    (t_cons (t_set (j := 3) sc__law_bracket.nd (d_op o_add d_int (d_call O.o__law_draw hr rfl T.m__law_draw T.F__law_draw.kp T.b__law_draw (fun σ => passAt (takes_of rfl rfl rfl rfl) σ) (d_aC (d_v 0) (d_aC (d_op o_sub (d_callB c_len rfl T.n_len boot_len_ (d_aC (d_v 1) d_aN)) d_int) d_aN)))))
    (t_cons (t_if (d_tcmp (o_eq hr.units) (d_v 2) d_int) (t_one (t_set (j := 3) sc__law_bracket.nd d_int)) t_nil)
    (t_cons (t_if (d_tcmp (o_eq hr.units) (d_v 2) d_int) (t_one (t_set (j := 3) sc__law_bracket.nd (d_op o_sub (d_callB c_len rfl T.n_len boot_len_ (d_aC (d_v 1) d_aN)) d_int))) t_nil)
    (t_cons (t_set (j := 4) sc__law_bracket.nd (d_ix d_str (d_call O.o__law_draw hr rfl T.m__law_draw T.F__law_draw.kp T.b__law_draw (fun σ => passAt (takes_of rfl rfl rfl rfl) σ) (d_aC (d_v 0) (d_aC d_int d_aN)))))
    (t_cons (t_set (j := 5) sc__law_bracket.nd (d_call O.o__law_bracket hr rfl T.m__law_bracket T.F__law_bracket.kp T.b__law_bracket (fun σ => passAt (takes_of rfl rfl rfl rfl) σ) (d_aC (d_v 0) (d_aC (d_sl (d_v 1) d_oN (d_oI (d_v 3))) (d_aC (d_v 2) d_aN)))))
    (t_one (t_ret (d_tup (d_aC (d_v 4) (d_aC (d_v 5) (d_aC (d_call O.o__law_bracket hr rfl T.m__law_bracket T.F__law_bracket.kp T.b__law_bracket (fun σ => passAt (takes_of rfl rfl rfl rfl) σ) (d_aC (d_v 0) (d_aC (d_sl (d_v 1) (d_oI (d_v 3)) d_oN) (d_aC (d_v 2) d_aN)))) d_aN))))))))))))
set_option maxHeartbeats 4000000 in
theorem ok__law_full (T : Txt w K mg f fd cv cu cl tb) (O : Oks P w K mg base f fd n) : Dl.FnOk P w K mg base (L2.CX P w) (n + 1) (f ._law_full) (fd ._law_full) ["kind"] (rdF ⟨K, mg, W0⟩ (tab (n + 1) ._law_full)) :=
  fn_ok (N := nl__law_full) (g := b__law_full (tab n)) T.F__law_full sc__law_full fun cdv A outer s H E hr =>
    (t_cons (t_if (d_tv (d_callB (c_isi .str (by decide)) rfl T.n_isinstance boot_isinstance_ (d_aC (d_v 0) (d_aC (d_blt rfl T.n_str boot_str_ rfl) d_aN)))) (t_one (t_ret (d_v 0))) t_nil)
    (t_one (t_ret (d_op o_add (d_op o_add (d_op o_add (d_op o_add (d_op o_add (d_op o_add d_str (d_call O.o__law_full hr rfl T.m__law_full T.F__law_full.kp T.b__law_full (fun σ => passAt (takes_of rfl rfl rfl rfl) σ) (d_aC (d_ix (d_v 0) d_int) d_aN))) d_str) (d_ix (d_v 0) d_int)) d_str) (d_call O.o__law_full hr rfl T.m__law_full T.F__law_full.kp T.b__law_full (fun σ => passAt (takes_of rfl rfl rfl rfl) σ) (d_aC (d_ix (d_v 0) d_int) d_aN))) d_str))))
set_option maxHeartbeats 4000000 in
theorem ok__law_text (T : Txt w K mg f fd cv cu cl tb) (O : Oks P w K mg base f fd n) : Dl.FnOk P w K mg base (L2.CX P w) (n + 1) (f ._law_text) (fd ._law_text) ["kind"] (rdF ⟨K, mg, W0⟩ (tab (n + 1) ._law_text)) :=
  fn_ok (N := nl__law_text) (g := b__law_text (tab n)) T.F__law_text sc__law_text fun cdv A outer s H E hr =>
    (t_cons (t_if (d_tv (d_callB (c_isi .str (by decide)) rfl T.n_isinstance boot_isinstance_ (d_aC (d_v 0) (d_aC (d_blt rfl T.n_str boot_str_ rfl) d_aN)))) (t_one (t_ret (d_v 0))) t_nil)
    (t_one (t_ret (d_sl (d_call O.o__law_full hr rfl T.m__law_full T.F__law_full.kp T.b__law_full (fun σ => passAt (takes_of rfl rfl rfl rfl) σ) (d_aC (d_v 0) d_aN)) (d_oI d_int) (d_oI (d_neg d_int))))))
set_option maxHeartbeats 4000000 in
theorem ok__law_parts (T : Txt w K mg f fd cv cu cl tb) (O : Oks P w K mg base f fd n) : Dl.FnOk P w K mg base (L2.CX P w) (n + 1) (f ._law_parts) (fd ._law_parts) ["kind"] (rdF ⟨K, mg, W0⟩ (tab (n + 1) ._law_parts)) :=
  fn_ok (N := nl__law_parts) (g := b__law_parts (tab n)) T.F__law_parts sc__law_parts fun cdv A outer s H E hr =>
    (t_cons (t_if (d_tv (d_callB (c_isi .str (by decide)) rfl T.n_isinstance boot_isinstance_ (d_aC (d_v 0) (d_aC (d_blt rfl T.n_str boot_str_ rfl) d_aN)))) (t_one (t_ret (d_lst (d_aC (d_v 0) d_aN)))) t_nil)
    (t_one (t_ret (d_op o_add (d_op o_add (d_lst (d_aC (d_v 0) d_aN)) (d_call O.o__law_parts hr rfl T.m__law_parts T.F__law_parts.kp T.b__law_parts (fun σ => passAt (takes_of rfl rfl rfl rfl) σ) (d_aC (d_ix (d_v 0) d_int) d_aN))) (d_call O.o__law_parts hr rfl T.m__law_parts T.F__law_parts.kp T.b__law_parts (fun σ => passAt (takes_of rfl rfl rfl rfl) σ) (d_aC (d_ix (d_v 0) d_int) d_aN))))))
set_option maxHeartbeats 4000000 in
theorem ok__law_pairs (T : Txt w K mg f fd cv cu cl tb) (O : Oks P w K mg base f fd n) : Dl.FnOk P w K mg base (L2.CX P w) (n + 1) (f ._law_pairs) (fd ._law_pairs) ["pool", "kind"] (rdF ⟨K, mg, W0⟩ (tab (n + 1) ._law_pairs)) :=
  fn_ok (N := nl__law_pairs) (g := b__law_pairs (tab n)) T.F__law_pairs sc__law_pairs fun cdv A outer s H E hr =>
    (t_cons (t_set (j := 2) sc__law_pairs.nd (d_call O.o__law_parts hr rfl T.m__law_parts T.F__law_parts.kp T.b__law_parts (fun σ => passAt (takes_of rfl rfl rfl rfl) σ) (d_aC (d_v 1) d_aN)))
    (t_cons (t_set (j := 3) sc__law_pairs.nd (d_lst d_aN))
    (t_cons (t_set (j := 4) sc__law_pairs.nd d_str)
    (t_cons (t_for (passes_of rfl) rfl (w_rng1 rfl T.n_range (d_call O.o__law_draw hr rfl T.m__law_draw T.F__law_draw.kp T.b__law_draw (fun σ => passAt (takes_of rfl rfl rfl rfl) σ) (d_aC (d_v 0) (d_aC d_int d_aN)))) (g_nm (j := 5) sc__law_pairs.nd) (t_cons (t_set (j := 6) sc__law_pairs.nd (d_op o_add (d_sl (d_v 4) d_oN (d_oI d_int)) (d_ix (d_call0 O.o__law_letters hr rfl T.m__law_letters T.F__law_letters.kp T.b__law_letters (fun σ => passAt (takes_of rfl rfl rfl rfl) σ)) (d_call O.o__law_draw hr rfl T.m__law_draw T.F__law_draw.kp T.b__law_draw (fun σ => passAt (takes_of rfl rfl rfl rfl) σ) (d_aC (d_v 0) (d_aC d_int d_aN))))))
    (t_cons (t_if (PW.pt (d_or (d_tcmp (o_eq hr.units) (d_v 4) d_str) (d_or1 (d_tcmp (o_eq hr.units) (d_call O.o__law_draw hr rfl T.m__law_draw T.F__law_draw.kp T.b__law_draw (fun σ => passAt (takes_of rfl rfl rfl rfl) σ) (d_aC (d_v 0) (d_aC d_int d_aN))) d_int)))) (t_cons (t_set (j := 6) sc__law_pairs.nd (d_ix d_str (d_call O.o__law_draw hr rfl T.m__law_draw T.F__law_draw.kp T.b__law_draw (fun σ => passAt (takes_of rfl rfl rfl rfl) σ) (d_aC (d_v 0) (d_aC d_int d_aN)))))
    (t_one (t_for (passes_of rfl) rfl (w_rng1 rfl T.n_range (d_ix (d_lst (d_aC d_int (d_aC d_int (d_aC d_int (d_aC d_int (d_aC d_int (d_aC d_int (d_aC d_int (d_aC d_int (d_aC d_int d_aN)))))))))) (d_call O.o__law_draw hr rfl T.m__law_draw T.F__law_draw.kp T.b__law_draw (fun σ => passAt (takes_of rfl rfl rfl rfl) σ) (d_aC (d_v 0) (d_aC d_int d_aN))))) (g_nm (j := 8) sc__law_pairs.nd) (t_one (t_set (j := 6) sc__law_pairs.nd (d_op o_add (d_v 6) (d_ix (d_call0 O.o__law_letters hr rfl T.m__law_letters T.F__law_letters.kp T.b__law_letters (fun σ => passAt (takes_of rfl rfl rfl rfl) σ)) (d_call O.o__law_draw hr rfl T.m__law_draw T.F__law_draw.kp T.b__law_draw (fun σ => passAt (takes_of rfl rfl rfl rfl) σ) (d_aC (d_v 0) (d_aC d_int d_aN)))))))))) t_nil)
    (t_cons (t_set (j := 4) sc__law_pairs.nd (d_v 6))
    (t_cons (t_set (j := 7) sc__law_pairs.nd (d_ix (d_v 2) (d_call O.o__law_draw hr rfl T.m__law_draw T.F__law_draw.kp T.b__law_draw (fun σ => passAt (takes_of rfl rfl rfl rfl) σ) (d_aC (d_v 0) (d_aC (d_callB c_len rfl T.n_len boot_len_ (d_aC (d_v 2) d_aN)) d_aN)))))
    (t_one (t_if (d_tcmp (o_nin (r65 hr)) (d_v 4) (d_lc (own := [("pair", 9)]) (g := (.one 9)) rfl sc__law_pairs.nd (w_any (d_v 3)) (blkOk_by (own := [("pair", 9)]) (N := nl__law_pairs) (sc := defScope st__law_pairs) (by decide +kernel)) (by decide) (fun _ _ _ _ _ => (v_one sc__law_pairs.nd)) (fun _ _ _ _ _ => u_nil) (fun _ _ _ _ _ => (d_ix (d_v 9) d_int)))) (t_one (t_expr (d_m (T := .lst) PySem.F.plainAttrs_list PySem.F.slot_list_insert PySem.F.type_list_insert (by decide) m_insert (d_v 3) (d_aC (d_call O.o__law_draw hr rfl T.m__law_draw T.F__law_draw.kp T.b__law_draw (fun σ => passAt (takes_of rfl rfl rfl rfl) σ) (d_aC (d_v 0) (d_aC (d_op o_add (d_callB c_len rfl T.n_len boot_len_ (d_aC (d_v 3) d_aN)) d_int) d_aN))) (d_aC (d_tup (d_aC (d_v 4) (d_aC (d_v 7) d_aN))) d_aN))))) t_nil)))))))
    (t_one (t_ret (d_v 3)))))))
set_option maxHeartbeats 4000000 in
theorem ok__law_blanks (T : Txt w K mg f fd cv cu cl tb) (O : Oks P w K mg base f fd n) : Dl.FnOk P w K mg base (L2.CX P w) (n + 1) (f ._law_blanks) (fd ._law_blanks) ["pool"] (rdF ⟨K, mg, W0⟩ (tab (n + 1) ._law_blanks)) :=
  fn_ok (N := nl__law_blanks) (g := b__law_blanks (tab n)) T.F__law_blanks sc__law_blanks fun cdv A outer s H E hr =>
    (t_cons (t_set (j := 1) sc__law_blanks.nd (d_ix (d_lst (d_aC d_int (d_aC d_int (d_aC d_int (d_aC d_int (d_aC d_int (d_aC d_int (d_aC d_int (d_aC d_int d_aN))))))))) (d_call O.o__law_draw hr rfl T.m__law_draw T.F__law_draw.kp T.b__law_draw (fun σ => passAt (takes_of rfl rfl rfl rfl) σ) (d_aC (d_v 0) (d_aC d_int d_aN)))))
    (t_cons (t_if (d_tcmp (o_eq hr.units) (d_v 1) d_int) (t_one (t_set (j := 1) sc__law_blanks.nd (d_call O.o__law_draw hr rfl T.m__law_draw T.F__law_draw.kp T.b__law_draw (fun σ => passAt (takes_of rfl rfl rfl rfl) σ) (d_aC (d_v 0) (d_aC d_int d_aN))))) t_nil)
    (t_one (t_ret (d_op o_repS d_str (d_v 1))))))
set_option maxHeartbeats 4000000 in
theorem ok__law_loose (T : Txt w K mg f fd cv cu cl tb) (O : Oks P w K mg base f fd n) : Dl.FnOk P w K mg base (L2.CX P w) (n + 1) (f ._law_loose) (fd ._law_loose) ["pool", "kind", "pairs", "inner"] (rdF ⟨K, mg, W0⟩ (tab (n + 1) ._law_loose)) :=
  fn_ok (N := nl__law_loose) (g := b__law_loose (tab n)) T.F__law_loose sc__law_loose fun cdv A outer s H E hr =>
    (t_cons (t_setLc (i := 4) (own := [("pair", 8)]) (g := (.one 8)) rfl sc__law_loose.nd rfl rfl (sw_true rfl rfl rfl (by decide +kernel)) (w_any (d_v 2)) (blkOk_by (own := [("pair", 8)]) (N := nl__law_loose) (sc := defScope st__law_loose) (by decide +kernel)) (by decide) (fun _ _ _ _ _ => (v_one sc__law_loose.nd)) (fun _ _ _ _ _ => (u_one (d_tcmp (o_eq hr.units) (d_ix (d_v 8) d_int) (d_v 1)))) (fun _ _ _ _ _ => (d_ix (d_v 8) d_int)))
    (t_cons (t_set (j := 5) sc__law_loose.nd (d_ix (d_lst (d_aC d_int (d_aC d_int (d_aC d_int (d_aC d_int (d_aC d_int (d_aC d_int d_aN))))))) (d_call O.o__law_draw hr rfl T.m__law_draw T.F__law_draw.kp T.b__law_draw (fun σ => passAt (takes_of rfl rfl rfl rfl) σ) (d_aC (d_v 0) (d_aC d_int d_aN)))))
    (t_cons (t_if (PW.pt (d_and (d_tcmp o_gt (d_callB c_len rfl T.n_len boot_len_ (d_aC (d_v 4) d_aN)) d_int) (d_and1 (d_tcmp o_gt (d_call O.o__law_draw hr rfl T.m__law_draw T.F__law_draw.kp T.b__law_draw (fun σ => passAt (takes_of rfl rfl rfl rfl) σ) (d_aC (d_v 0) (d_aC d_int d_aN))) d_int)))) (t_one (t_set (j := 7) sc__law_loose.nd (d_ix (d_v 4) (d_call O.o__law_draw hr rfl T.m__law_draw T.F__law_draw.kp T.b__law_draw (fun σ => passAt (takes_of rfl rfl rfl rfl) σ) (d_aC (d_v 0) (d_aC (d_callB c_len rfl T.n_len boot_len_ (d_aC (d_v 4) d_aN)) d_aN)))))) (t_one (t_if (d_tv (d_callB (c_isi .str (by decide)) rfl T.n_isinstance boot_isinstance_ (d_aC (d_v 1) (d_aC (d_blt rfl T.n_str boot_str_ rfl) d_aN)))) (t_one (t_set (j := 7) sc__law_loose.nd (d_v 1))) (t_cons (t_set (j := 9) sc__law_loose.nd (d_call O.o__law_loose hr rfl T.m__law_loose T.F__law_loose.kp T.b__law_loose (fun σ => passAt (takes_of rfl rfl rfl rfl) σ) (d_aC (d_v 0) (d_aC (d_ix (d_v 1) d_int) (d_aC (d_v 2) (d_aC d_int d_aN))))))
    (t_cons (t_set (j := 10) sc__law_loose.nd (d_call O.o__law_loose hr rfl T.m__law_loose T.F__law_loose.kp T.b__law_loose (fun σ => passAt (takes_of rfl rfl rfl rfl) σ) (d_aC (d_v 0) (d_aC (d_ix (d_v 1) d_int) (d_aC (d_v 2) (d_aC d_int d_aN))))))
    (t_cons (t_set (j := 7) sc__law_loose.nd (d_op o_add (d_op o_add (d_op o_add (d_op o_add (d_v 9) (d_call O.o__law_blanks hr rfl T.m__law_blanks T.F__law_blanks.kp T.b__law_blanks (fun σ => passAt (takes_of rfl rfl rfl rfl) σ) (d_aC (d_v 0) d_aN))) (d_ix (d_v 1) d_int)) (d_call O.o__law_blanks hr rfl T.m__law_blanks T.F__law_blanks.kp T.b__law_blanks (fun σ => passAt (takes_of rfl rfl rfl rfl) σ) (d_aC (d_v 0) d_aN))) (d_v 10)))
    (t_one (t_set (j := 5) sc__law_loose.nd (d_op o_add (d_v 5) (d_v 3))))))))))
    (t_cons (t_for (passes_of rfl) rfl (w_rng1 rfl T.n_range (d_v 5)) (g_nm (j := 6) sc__law_loose.nd) (t_one (t_set (j := 7) sc__law_loose.nd (d_op o_add (d_op o_add (d_op o_add (d_op o_add d_str (d_call O.o__law_blanks hr rfl T.m__law_blanks T.F__law_blanks.kp T.b__law_blanks (fun σ => passAt (takes_of rfl rfl rfl rfl) σ) (d_aC (d_v 0) d_aN))) (d_v 7)) (d_call O.o__law_blanks hr rfl T.m__law_blanks T.F__law_blanks.kp T.b__law_blanks (fun σ => passAt (takes_of rfl rfl rfl rfl) σ) (d_aC (d_v 0) d_aN))) d_str))))
    (t_one (t_ret (d_v 7)))))))
set_option maxHeartbeats 4000000 in
theorem ok__law_room (T : Txt w K mg f fd cv cu cl tb) (O : Oks P w K mg base f fd n) : Dl.FnOk P w K mg base (L2.CX P w) (n + 1) (f ._law_room) (fd ._law_room) ["pool", "loose", "strict"] (rdF ⟨K, mg, W0⟩ (tab (n + 1) ._law_room)) :=
  fn_ok (N := nl__law_room) (g := b__law_room (tab n)) T.F__law_room sc__law_room fun cdv A outer s H E hr =>
    (t_cons (t_set (j := 3) sc__law_room.nd (d_v 1))
    (t_cons (t_if (d_tcmp o_gt (d_callB c_len rfl T.n_len boot_len_ (d_aC (d_v 3) d_aN)) d_int) (t_one (t_set (j := 3) sc__law_room.nd (d_v 2))) t_nil)
    (t_cons (t_set (j := 4) sc__law_room.nd (d_call O.o__law_draw hr rfl T.m__law_draw T.F__law_draw.kp T.b__law_draw (fun σ => passAt (takes_of rfl rfl rfl rfl) σ) (d_aC (d_v 0) (d_aC d_int d_aN))))
    (t_cons (t_set (j := 5) sc__law_room.nd (d_op o_sub d_int (d_callB c_len rfl T.n_len boot_len_ (d_aC (d_v 3) d_aN))))
    (t_cons (t_if (d_tcmp (o_eq hr.units) (d_v 4) d_int) (t_cons (t_set (j := 8) sc__law_room.nd (d_call O.o__law_draw hr rfl T.m__law_draw T.F__law_draw.kp T.b__law_draw (fun σ => passAt (takes_of rfl rfl rfl rfl) σ) (d_aC (d_v 0) (d_aC (d_op o_add d_int (d_op o_fdiv (d_v 5) d_int)) d_aN))))
    (t_cons (t_set (j := 3) sc__law_room.nd (d_op o_add (d_op o_add (d_op o_repS d_str (d_v 8)) (d_v 3)) (d_op o_repS d_str (d_v 8))))
    (t_one (t_set (j := 5) sc__law_room.nd (d_op o_sub (d_v 5) (d_op o_mul d_int (d_v 8))))))) t_nil)
    (t_cons (t_set (j := 6) sc__law_room.nd (d_callB (c_min2 rfl) rfl T.n_min boot_min_ (d_aC (d_v 5) (d_aC (d_call O.o__law_draw hr rfl T.m__law_draw T.F__law_draw.kp T.b__law_draw (fun σ => passAt (takes_of rfl rfl rfl rfl) σ) (d_aC (d_v 0) (d_aC d_int d_aN))) d_aN))))
    (t_cons (t_set (j := 7) sc__law_room.nd (d_callB (c_min2 rfl) rfl T.n_min boot_min_ (d_aC (d_op o_sub (d_v 5) (d_v 6)) (d_aC (d_call O.o__law_draw hr rfl T.m__law_draw T.F__law_draw.kp T.b__law_draw (fun σ => passAt (takes_of rfl rfl rfl rfl) σ) (d_aC (d_v 0) (d_aC d_int d_aN))) d_aN))))
    (t_cons (t_if (d_tcmp o_ge (d_v 4) d_int) (t_cons (t_set (j := 6) sc__law_room.nd (d_call O.o__law_draw hr rfl T.m__law_draw T.F__law_draw.kp T.b__law_draw (fun σ => passAt (takes_of rfl rfl rfl rfl) σ) (d_aC (d_v 0) (d_aC (d_op o_add d_int (d_v 5)) d_aN))))
    (t_one (t_set (j := 7) sc__law_room.nd (d_op o_sub (d_v 5) (d_v 6))))) t_nil)
    (t_one (t_ret (d_op o_add (d_op o_add (d_op o_repS d_str (d_v 6)) (d_v 3)) (d_op o_repS d_str (d_v 7)))))))))))))
set_option maxHeartbeats 4000000 in
theorem ok__law_both_names (T : Txt w K mg f fd cv cu cl tb) (O : Oks P w K mg base f fd n) : Dl.FnOk P w K mg base (L2.CX P w) (n + 1) (f ._law_both_names) (fd ._law_both_names) ["pool", "low", "high"] (rdF ⟨K, mg, W0⟩ (tab (n + 1) ._law_both_names)) :=
  fn_ok (N := nl__law_both_names) (g := b__law_both_names (tab n)) T.F__law_both_names sc__law_both_names fun cdv A outer s H E hr =>
    (t_cons (t_set (j := 3) sc__law_both_names.nd (d_ix d_str (d_call O.o__law_draw hr rfl T.m__law_draw T.F__law_draw.kp T.b__law_draw (fun σ => passAt (takes_of rfl rfl rfl rfl) σ) (d_aC (d_v 0) (d_aC d_int d_aN)))))
    (t_cons (t_for (passes_of rfl) rfl (w_rng1 rfl T.n_range (d_call O.o__law_draw hr rfl T.m__law_draw T.F__law_draw.kp T.b__law_draw (fun σ => passAt (takes_of rfl rfl rfl rfl) σ) (d_aC (d_v 0) (d_aC d_int d_aN)))) (g_nm (j := 4) sc__law_both_names.nd) (t_one (t_set (j := 3) sc__law_both_names.nd (d_op o_add (d_v 3) (d_ix (d_call0 O.o__law_letters hr rfl T.m__law_letters T.F__law_letters.kp T.b__law_letters (fun σ => passAt (takes_of rfl rfl rfl rfl) σ)) (d_call O.o__law_draw hr rfl T.m__law_draw T.F__law_draw.kp T.b__law_draw (fun σ => passAt (takes_of rfl rfl rfl rfl) σ) (d_aC (d_v 0) (d_aC d_int d_aN))))))))
    (t_cons (t_set (j := 5) sc__law_both_names.nd (d_op o_add (d_v 3) (d_ix (d_call0 O.o__law_letters hr rfl T.m__law_letters T.F__law_letters.kp T.b__law_letters (fun σ => passAt (takes_of rfl rfl rfl rfl) σ)) (d_call O.o__law_draw hr rfl T.m__law_draw T.F__law_draw.kp T.b__law_draw (fun σ => passAt (takes_of rfl rfl rfl rfl) σ) (d_aC (d_v 0) (d_aC d_int d_aN))))))
    (t_cons (t_set (j := 6) sc__law_both_names.nd (d_op o_add (d_op o_add (d_op o_add (d_op o_add (d_v 5) (d_call O.o__law_blanks hr rfl T.m__law_blanks T.F__law_blanks.kp T.b__law_blanks (fun σ => passAt (takes_of rfl rfl rfl rfl) σ) (d_aC (d_v 0) d_aN))) d_str) (d_call O.o__law_blanks hr rfl T.m__law_blanks T.F__law_blanks.kp T.b__law_blanks (fun σ => passAt (takes_of rfl rfl rfl rfl) σ) (d_aC (d_v 0) d_aN))) (d_v 3)))
    (t_cons (t_for (passes_of rfl) rfl (w_any (d_lst (d_aC (d_tup (d_aC (d_tup (d_aC (d_v 3) (d_aC (d_v 1) d_aN))) (d_aC (d_tup (d_aC (d_v 5) (d_aC (d_v 2) d_aN))) d_aN))) (d_aC (d_tup (d_aC (d_tup (d_aC (d_v 5) (d_aC (d_v 2) d_aN))) (d_aC (d_tup (d_aC (d_v 3) (d_aC (d_v 1) d_aN))) d_aN))) d_aN)))) (g_nm (j := 7) sc__law_both_names.nd) (t_one (t_if (PW.pt (d_or (d_tcmp (o_ne hr.units) (d_callKK O.o_parse_kind hr rfl T.m_parse_kind T.F_parse_kind.kp T.b_parse_kind (fun σ => passAt (takes_of rfl rfl rfl rfl) σ) (d_aC (d_v 6) d_aN) (d_v 7) (aC_len aN_len)) (d_tup (d_aC d_str (d_aC (d_v 2) (d_aC (d_v 1) d_aN))))) (d_or1 (d_tcmp (o_ne hr.units) (d_callKK O.o_parse_kind hr rfl T.m_parse_kind T.F_parse_kind.kp T.b_parse_kind (fun σ => passAt (takes_of rfl rfl rfl rfl) σ) (d_aC (d_v 3) d_aN) (d_v 7) (aC_len aN_len)) (d_v 1))))) (t_one (t_ret d_bl)) t_nil)))
    (t_one (t_ret d_bl)))))))
set_option maxHeartbeats 4000000 in
theorem ok__law_read_back (T : Txt w K mg f fd cv cu cl tb) (O : Oks P w K mg base f fd n) : Dl.FnOk P w K mg base (L2.CX P w) (n + 1) (f ._law_read_back) (fd ._law_read_back) ["kind", "texts", "pairs"] (rdF ⟨K, mg, W0⟩ (tab (n + 1) ._law_read_back)) :=
  fn_ok (N := nl__law_read_back) (g := b__law_read_back (tab n)) T.F__law_read_back sc__law_read_back fun cdv A outer s H E hr =>
    (t_cons (t_asg (d_v 1) (g_seq rfl (g_cons (g_nm (j := 4) sc__law_read_back.nd) (g_cons (g_nm (j := 5) sc__law_read_back.nd) (g_cons (g_nm (j := 6) sc__law_read_back.nd) g_nil)))))
    (t_cons (t_for (passes_of rfl) rfl (w_any (d_lst (d_aC (d_v 4) (d_aC (d_v 5) d_aN)))) (g_nm (j := 3) sc__law_read_back.nd) (t_one (t_if (PW.pt (d_or (d_tcmp (o_ne hr.units) (d_callKD O.o_parse_kind hr rfl T.m_parse_kind T.F_parse_kind.kp T.b_parse_kind (fun σ => passAt (takes_of rfl rfl rfl rfl) σ) (d_aC (d_v 3) d_aN)) (d_v 0)) (d_or (d_tcmp (o_ne hr.units) (d_callKK O.o_parse_kind hr rfl T.m_parse_kind T.F_parse_kind.kp T.b_parse_kind (fun σ => passAt (takes_of rfl rfl rfl rfl) σ) (d_aC (d_v 3) d_aN) (d_tup d_aN) (aC_len aN_len)) (d_v 0)) (d_or1 (d_tcmp (o_ne hr.units) (d_callKK O.o_parse_kind hr rfl T.m_parse_kind T.F_parse_kind.kp T.b_parse_kind (fun σ => passAt (takes_of rfl rfl rfl rfl) σ) (d_aC (d_v 3) d_aN) (d_v 2) (aC_len aN_len)) (d_v 0)))))) (t_one (t_ret d_bl)) t_nil)))
    (t_cons (t_if (d_tcmp (o_ne hr.units) (d_callKK O.o_parse_kind hr rfl T.m_parse_kind T.F_parse_kind.kp T.b_parse_kind (fun σ => passAt (takes_of rfl rfl rfl rfl) σ) (d_aC (d_v 6) d_aN) (d_v 2) (aC_len aN_len)) (d_v 0)) (t_one (t_ret d_bl)) t_nil)
    (t_one (t_ret (d_cmp (o_eq hr.units) (d_callKD O.o_parse_kind hr rfl T.m_parse_kind T.F_parse_kind.kp T.b_parse_kind (fun σ => passAt (takes_of rfl rfl rfl rfl) σ) (d_aC (d_v 4) d_aN)) (d_v 0)))))))
set_option maxHeartbeats 4000000 in
theorem ok_law (T : Txt w K mg f fd cv cu cl tb) (O : Oks P w K mg base f fd n) : Dl.FnOk P w K mg base (L2.CX P w) (n + 1) (f .law) (fd .law) ["script"] (rdF ⟨K, mg, W0⟩ (tab (n + 1) .law)) :=
  fn_ok (N := nl_law) (g := b_law (tab n)) T.F_law sc_law fun cdv A outer s H E hr =>
    (t_cons (t_set (j := 1) sc_law.nd (d_call O.o__law_pool hr rfl T.m__law_pool T.F__law_pool.kp T.b__law_pool (fun σ => passAt (takes_of rfl rfl rfl rfl) σ) (d_aC (d_v 0) (d_aC d_int d_aN))))
    (t_cons (t_set (j := 2) sc_law.nd (d_call O.o__law_atoms hr rfl T.m__law_atoms T.F__law_atoms.kp T.b__law_atoms (fun σ => passAt (takes_of rfl rfl rfl rfl) σ) (d_aC (d_v 1) d_aN)))
    (t_cons (t_set (j := 3) sc_law.nd (d_call O.o__law_pool hr rfl T.m__law_pool T.F__law_pool.kp T.b__law_pool (fun σ => passAt (takes_of rfl rfl rfl rfl) σ) (d_aC (d_v 0) (d_aC d_int d_aN))))
    (t_cons (t_set (j := 4) sc_law.nd (d_call O.o__law_bracket hr rfl T.m__law_bracket T.F__law_bracket.kp T.b__law_bracket (fun σ => passAt (takes_of rfl rfl rfl rfl) σ) (d_aC (d_v 3) (d_aC (d_v 2) (d_aC (d_call O.o__law_draw hr rfl T.m__law_draw T.F__law_draw.kp T.b__law_draw (fun σ => passAt (takes_of rfl rfl rfl rfl) σ) (d_aC (d_v 3) (d_aC d_int d_aN))) d_aN)))))
    (t_cons (t_set (j := 5) sc_law.nd (d_call O.o__law_text hr rfl T.m__law_text T.F__law_text.kp T.b__law_text (fun σ => passAt (takes_of rfl rfl rfl rfl) σ) (d_aC (d_v 4) d_aN)))
    (t_cons (t_set (j := 6) sc_law.nd (d_call O.o_format_kind hr rfl T.m_format_kind T.F_format_kind.kp T.b_format_kind (fun σ => passAt (takes_of rfl rfl rfl rfl) σ) (d_aC (d_v 4) d_aN)))
    (t_cons (t_if (PW.pt (d_or (d_not (d_tv (d_callB (c_isi .str (by decide)) rfl T.n_isinstance boot_isinstance_ (d_aC (d_v 6) (d_aC (d_blt rfl T.n_str boot_str_ rfl) d_aN))))) (d_or1 (d_tcmp (o_ne hr.units) (d_v 6) (d_v 5))))) (t_one (t_ret d_bl)) t_nil)
    (t_cons (t_if (d_tcmp o_le (d_callB c_len rfl T.n_len boot_len_ (d_aC (d_v 5) d_aN)) d_int) (t_cons (t_set (j := 7) sc_law.nd (d_call O.o__law_pairs hr rfl T.m__law_pairs T.F__law_pairs.kp T.b__law_pairs (fun σ => passAt (takes_of rfl rfl rfl rfl) σ) (d_aC (d_call O.o__law_pool hr rfl T.m__law_pool T.F__law_pool.kp T.b__law_pool (fun σ => passAt (takes_of rfl rfl rfl rfl) σ) (d_aC (d_v 0) (d_aC d_int d_aN))) (d_aC (d_v 4) d_aN))))
    (t_cons (t_set (j := 8) sc_law.nd (d_call O.o__law_pool hr rfl T.m__law_pool T.F__law_pool.kp T.b__law_pool (fun σ => passAt (takes_of rfl rfl rfl rfl) σ) (d_aC (d_v 0) (d_aC d_int d_aN))))
    (t_cons (t_set (j := 9) sc_law.nd (d_call O.o__law_room hr rfl T.m__law_room T.F__law_room.kp T.b__law_room (fun σ => passAt (takes_of rfl rfl rfl rfl) σ) (d_aC (d_v 8) (d_aC (d_call O.o__law_loose hr rfl T.m__law_loose T.F__law_loose.kp T.b__law_loose (fun σ => passAt (takes_of rfl rfl rfl rfl) σ) (d_aC (d_v 8) (d_aC (d_v 4) (d_aC (d_lst d_aN) (d_aC d_int d_aN))))) (d_aC (d_v 5) d_aN)))))
    (t_cons (t_set (j := 8) sc_law.nd (d_call O.o__law_pool hr rfl T.m__law_pool T.F__law_pool.kp T.b__law_pool (fun σ => passAt (takes_of rfl rfl rfl rfl) σ) (d_aC (d_v 0) (d_aC d_int d_aN))))
    (t_cons (t_set (j := 10) sc_law.nd (d_call O.o__law_room hr rfl T.m__law_room T.F__law_room.kp T.b__law_room (fun σ => passAt (takes_of rfl rfl rfl rfl) σ) (d_aC (d_v 8) (d_aC (d_call O.o__law_loose hr rfl T.m__law_loose T.F__law_loose.kp T.b__law_loose (fun σ => passAt (takes_of rfl rfl rfl rfl) σ) (d_aC (d_v 8) (d_aC (d_v 4) (d_aC (d_v 7) (d_aC d_int d_aN))))) (d_aC (d_v 5) d_aN)))))
    (t_one (t_if (d_not (d_tv (d_call O.o__law_read_back hr rfl T.m__law_read_back T.F__law_read_back.kp T.b__law_read_back (fun σ => passAt (takes_of rfl rfl rfl rfl) σ) (d_aC (d_v 4) (d_aC (d_lst (d_aC (d_v 5) (d_aC (d_v 9) (d_aC (d_v 10) d_aN)))) (d_aC (d_callT c_tuple rfl T.n_tuple boot_tuple_ (d_aC (d_v 7) d_aN)) d_aN)))))) (t_one (t_ret d_bl)) t_nil))))))) t_nil)
    (t_cons (t_if (d_not (d_tv (d_call O.o__law_both_names hr rfl T.m__law_both_names T.F__law_both_names.kp T.b__law_both_names (fun σ => passAt (takes_of rfl rfl rfl rfl) σ) (d_aC (d_call O.o__law_pool hr rfl T.m__law_pool T.F__law_pool.kp T.b__law_pool (fun σ => passAt (takes_of rfl rfl rfl rfl) σ) (d_aC (d_v 0) (d_aC d_int d_aN))) (d_aC (d_ix (d_v 2) d_int) (d_aC (d_ix (d_v 2) (d_neg d_int)) d_aN)))))) (t_one (t_ret d_bl)) t_nil)
    (t_one (t_ret (d_cmp (o_eq hr.units) (d_call O.o_format_kind hr rfl T.m_format_kind T.F_format_kind.kp T.b_format_kind (fun σ => passAt (takes_of rfl rfl rfl rfl) σ) (d_aC (d_v 4) d_aN)) (d_v 5)))))))))))))
theorem oks (T : Txt w K mg f fd cv cu cl tb) : ∀ n : Nat, Oks P w K mg base f fd n
  | 0 => ⟨fn_zero, fn_zero, fn_zero, fn_zero, fn_zero, fn_zero, fn_zero, fn_zero, fn_zero, fn_zero, fn_zero, fn_zero, fn_zero, fn_zero, fn_zero, fn_zero, fn_zero, fn_zero, fn_zero, fn_zero, fn_zero, fn_zero, fn_zero, fn_zero, fn_zero, fn_zero, fn_zero, fn_zero, fn_zero⟩
  | n + 1 => by
    have O := oks T n
    exact ⟨ok_size_of T O, ok_format_part T O, ok_format_kind T O, ok_end_of_run T O, ok_read_atom T O, ok_is_name_beginning T O, ok_read_short T O, ok_read_unit T O, ok_join_units T O, ok_read_kind T O, ok_parse_kind T O, ok__law_cell T O, ok__law_mix T O, ok__law_pool T O, ok__law_draw T O, ok__law_letters T O, ok__law_atom T O, ok__law_atoms T O, ok__law_bracket T O, ok__law_full T O, ok__law_text T O, ok__law_parts T O, ok__law_pairs T O, ok__law_blanks T O, ok__law_loose T O, ok__law_room T O, ok__law_both_names T O, ok__law_read_back T O, ok_law T O⟩
end
set_option maxHeartbeats 4000000 in
theorem all_mk (LV : Nat) {l : PySem.W.OpenLaw} {w : World} {K : PySem.W.Frag} {h : Heap} {mg : Str → Option Value} {fa : Addr} (X : K.In h) (G : h.Ns mainGlobals mg) (hfa : mg "law" = some (.ref fa))
    {f0 : Addr} {od0 an0 : Option Addr} {sl0 : Array (Option Value)} {oc0 kV0 dc0 pm0 cd0 ct0 : Value}
    {f1 : Addr} {od1 an1 : Option Addr} {sl1 : Array (Option Value)} {oc1 kV1 dc1 pm1 cd1 ct1 : Value}
    {f2 : Addr} {od2 an2 : Option Addr} {sl2 : Array (Option Value)} {oc2 kV2 dc2 pm2 cd2 ct2 : Value}
    {f3 : Addr} {od3 an3 : Option Addr} {sl3 : Array (Option Value)} {oc3 kV3 dc3 pm3 cd3 ct3 : Value}
    {f4 : Addr} {od4 an4 : Option Addr} {sl4 : Array (Option Value)} {oc4 kV4 dc4 pm4 cd4 ct4 : Value}
    {f5 : Addr} {od5 an5 : Option Addr} {sl5 : Array (Option Value)} {oc5 kV5 dc5 pm5 cd5 ct5 : Value}
    {f6 : Addr} {od6 an6 : Option Addr} {sl6 : Array (Option Value)} {oc6 kV6 dc6 pm6 cd6 ct6 : Value}
    {f7 : Addr} {od7 an7 : Option Addr} {sl7 : Array (Option Value)} {oc7 kV7 dc7 pm7 cd7 ct7 : Value}
    {f8 : Addr} {od8 an8 : Option Addr} {sl8 : Array (Option Value)} {oc8 kV8 dc8 pm8 cd8 ct8 : Value}
    {f9 : Addr} {od9 an9 : Option Addr} {sl9 : Array (Option Value)} {oc9 kV9 dc9 pm9 cd9 ct9 : Value}
    {f10 : Addr} {od10 an10 : Option Addr} {sl10 : Array (Option Value)} {oc10 dc10 pm10 cd10 ct10 : Value}
    {f11 : Addr} {od11 an11 : Option Addr} {sl11 : Array (Option Value)} {oc11 kV11 dc11 pm11 cd11 ct11 : Value}
    {f12 : Addr} {od12 an12 : Option Addr} {sl12 : Array (Option Value)} {oc12 kV12 dc12 pm12 cd12 ct12 : Value}
    {f13 : Addr} {od13 an13 : Option Addr} {sl13 : Array (Option Value)} {oc13 kV13 dc13 pm13 cd13 ct13 : Value}
    {f14 : Addr} {od14 an14 : Option Addr} {sl14 : Array (Option Value)} {oc14 kV14 dc14 pm14 cd14 ct14 : Value}
    {f15 : Addr} {od15 an15 : Option Addr} {sl15 : Array (Option Value)} {oc15 kV15 dc15 pm15 cd15 ct15 : Value}
    {f16 : Addr} {od16 an16 : Option Addr} {sl16 : Array (Option Value)} {oc16 kV16 dc16 pm16 cd16 ct16 : Value}
    {f17 : Addr} {od17 an17 : Option Addr} {sl17 : Array (Option Value)} {oc17 kV17 dc17 pm17 cd17 ct17 : Value}
    {f18 : Addr} {od18 an18 : Option Addr} {sl18 : Array (Option Value)} {oc18 kV18 dc18 pm18 cd18 ct18 : Value}
    {f19 : Addr} {od19 an19 : Option Addr} {sl19 : Array (Option Value)} {oc19 kV19 dc19 pm19 cd19 ct19 : Value}
    {f20 : Addr} {od20 an20 : Option Addr} {sl20 : Array (Option Value)} {oc20 kV20 dc20 pm20 cd20 ct20 : Value}
    {f21 : Addr} {od21 an21 : Option Addr} {sl21 : Array (Option Value)} {oc21 kV21 dc21 pm21 cd21 ct21 : Value}
    {f22 : Addr} {od22 an22 : Option Addr} {sl22 : Array (Option Value)} {oc22 kV22 dc22 pm22 cd22 ct22 : Value}
    {f23 : Addr} {od23 an23 : Option Addr} {sl23 : Array (Option Value)} {oc23 kV23 dc23 pm23 cd23 ct23 : Value}
    {f24 : Addr} {od24 an24 : Option Addr} {sl24 : Array (Option Value)} {oc24 kV24 dc24 pm24 cd24 ct24 : Value}
    {f25 : Addr} {od25 an25 : Option Addr} {sl25 : Array (Option Value)} {oc25 kV25 dc25 pm25 cd25 ct25 : Value}
    {f26 : Addr} {od26 an26 : Option Addr} {sl26 : Array (Option Value)} {oc26 kV26 dc26 pm26 cd26 ct26 : Value}
    {f27 : Addr} {od27 an27 : Option Addr} {sl27 : Array (Option Value)} {oc27 kV27 dc27 pm27 cd27 ct27 : Value}
    {f28 : Addr} {od28 an28 : Option Addr} {sl28 : Array (Option Value)} {oc28 kV28 dc28 pm28 cd28 ct28 : Value}
    {kd10 ke10 : Addr} {kg10 : Array Value} {kh10 : Nat} {kj10 : Array (Option Value)}
    (a0 : PySem.W.nsIn K mainGlobals "size_of" = some (some (.ref f0))) (l0 : K.lookup f0 = some ⟨oc0, od0, .func (PySem.W.fnOf "size_of" "size_of" (defArgs st_size_of) (defBody st_size_of) (defScope st_size_of) .none kV0 dc0 pm0 an0 cd0 ct0), sl0⟩) (c0 : PySem.W.codeIn K cd0 "size_of" = true) (k0 : PySem.W.keepIn K (.ref f0) = true)
    (a1 : PySem.W.nsIn K mainGlobals "format_part" = some (some (.ref f1))) (l1 : K.lookup f1 = some ⟨oc1, od1, .func (PySem.W.fnOf "format_part" "format_part" (defArgs st_format_part) (defBody st_format_part) (defScope st_format_part) .none kV1 dc1 pm1 an1 cd1 ct1), sl1⟩) (c1 : PySem.W.codeIn K cd1 "format_part" = true) (k1 : PySem.W.keepIn K (.ref f1) = true)
    (a2 : PySem.W.nsIn K mainGlobals "format_kind" = some (some (.ref f2))) (l2 : K.lookup f2 = some ⟨oc2, od2, .func (PySem.W.fnOf "format_kind" "format_kind" (defArgs st_format_kind) (defBody st_format_kind) (defScope st_format_kind) .none kV2 dc2 pm2 an2 cd2 ct2), sl2⟩) (c2 : PySem.W.codeIn K cd2 "format_kind" = true) (k2 : PySem.W.keepIn K (.ref f2) = true)
    (a3 : PySem.W.nsIn K mainGlobals "end_of_run" = some (some (.ref f3))) (l3 : K.lookup f3 = some ⟨oc3, od3, .func (PySem.W.fnOf "end_of_run" "end_of_run" (defArgs st_end_of_run) (defBody st_end_of_run) (defScope st_end_of_run) .none kV3 dc3 pm3 an3 cd3 ct3), sl3⟩) (c3 : PySem.W.codeIn K cd3 "end_of_run" = true) (k3 : PySem.W.keepIn K (.ref f3) = true)
    (a4 : PySem.W.nsIn K mainGlobals "read_atom" = some (some (.ref f4))) (l4 : K.lookup f4 = some ⟨oc4, od4, .func (PySem.W.fnOf "read_atom" "read_atom" (defArgs st_read_atom) (defBody st_read_atom) (defScope st_read_atom) .none kV4 dc4 pm4 an4 cd4 ct4), sl4⟩) (c4 : PySem.W.codeIn K cd4 "read_atom" = true) (k4 : PySem.W.keepIn K (.ref f4) = true)
    (a5 : PySem.W.nsIn K mainGlobals "is_name_beginning" = some (some (.ref f5))) (l5 : K.lookup f5 = some ⟨oc5, od5, .func (PySem.W.fnOf "is_name_beginning" "is_name_beginning" (defArgs st_is_name_beginning) (defBody st_is_name_beginning) (defScope st_is_name_beginning) .none kV5 dc5 pm5 an5 cd5 ct5), sl5⟩) (c5 : PySem.W.codeIn K cd5 "is_name_beginning" = true) (k5 : PySem.W.keepIn K (.ref f5) = true)
    (a6 : PySem.W.nsIn K mainGlobals "read_short" = some (some (.ref f6))) (l6 : K.lookup f6 = some ⟨oc6, od6, .func (PySem.W.fnOf "read_short" "read_short" (defArgs st_read_short) (defBody st_read_short) (defScope st_read_short) .none kV6 dc6 pm6 an6 cd6 ct6), sl6⟩) (c6 : PySem.W.codeIn K cd6 "read_short" = true) (k6 : PySem.W.keepIn K (.ref f6) = true)
    (a7 : PySem.W.nsIn K mainGlobals "read_unit" = some (some (.ref f7))) (l7 : K.lookup f7 = some ⟨oc7, od7, .func (PySem.W.fnOf "read_unit" "read_unit" (defArgs st_read_unit) (defBody st_read_unit) (defScope st_read_unit) .none kV7 dc7 pm7 an7 cd7 ct7), sl7⟩) (c7 : PySem.W.codeIn K cd7 "read_unit" = true) (k7 : PySem.W.keepIn K (.ref f7) = true)
    (a8 : PySem.W.nsIn K mainGlobals "join_units" = some (some (.ref f8))) (l8 : K.lookup f8 = some ⟨oc8, od8, .func (PySem.W.fnOf "join_units" "join_units" (defArgs st_join_units) (defBody st_join_units) (defScope st_join_units) .none kV8 dc8 pm8 an8 cd8 ct8), sl8⟩) (c8 : PySem.W.codeIn K cd8 "join_units" = true) (k8 : PySem.W.keepIn K (.ref f8) = true)
    (a9 : PySem.W.nsIn K mainGlobals "read_kind" = some (some (.ref f9))) (l9 : K.lookup f9 = some ⟨oc9, od9, .func (PySem.W.fnOf "read_kind" "read_kind" (defArgs st_read_kind) (defBody st_read_kind) (defScope st_read_kind) .none kV9 dc9 pm9 an9 cd9 ct9), sl9⟩) (c9 : PySem.W.codeIn K cd9 "read_kind" = true) (k9 : PySem.W.keepIn K (.ref f9) = true)
    (a10 : PySem.W.nsIn K mainGlobals "parse_kind" = some (some (.ref f10))) (l10 : K.lookup f10 = some ⟨oc10, od10, .func (PySem.W.fnOf "parse_kind" "parse_kind" (defArgs st_parse_kind) (defBody st_parse_kind) (defScope st_parse_kind) .none (.ref kd10) dc10 pm10 an10 cd10 ct10), sl10⟩) (c10 : PySem.W.codeIn K cd10 "parse_kind" = true) (k10 : PySem.W.keepIn K (.ref f10) = true)
    (a11 : PySem.W.nsIn K mainGlobals "_law_cell" = some (some (.ref f11))) (l11 : K.lookup f11 = some ⟨oc11, od11, .func (PySem.W.fnOf "_law_cell" "_law_cell" (defArgs st__law_cell) (defBody st__law_cell) (defScope st__law_cell) .none kV11 dc11 pm11 an11 cd11 ct11), sl11⟩) (c11 : PySem.W.codeIn K cd11 "_law_cell" = true) (k11 : PySem.W.keepIn K (.ref f11) = true)
    (a12 : PySem.W.nsIn K mainGlobals "_law_mix" = some (some (.ref f12))) (l12 : K.lookup f12 = some ⟨oc12, od12, .func (PySem.W.fnOf "_law_mix" "_law_mix" (defArgs st__law_mix) (defBody st__law_mix) (defScope st__law_mix) .none kV12 dc12 pm12 an12 cd12 ct12), sl12⟩) (c12 : PySem.W.codeIn K cd12 "_law_mix" = true) (k12 : PySem.W.keepIn K (.ref f12) = true)
    (a13 : PySem.W.nsIn K mainGlobals "_law_pool" = some (some (.ref f13))) (l13 : K.lookup f13 = some ⟨oc13, od13, .func (PySem.W.fnOf "_law_pool" "_law_pool" (defArgs st__law_pool) (defBody st__law_pool) (defScope st__law_pool) .none kV13 dc13 pm13 an13 cd13 ct13), sl13⟩) (c13 : PySem.W.codeIn K cd13 "_law_pool" = true) (k13 : PySem.W.keepIn K (.ref f13) = true)
    (a14 : PySem.W.nsIn K mainGlobals "_law_draw" = some (some (.ref f14))) (l14 : K.lookup f14 = some ⟨oc14, od14, .func (PySem.W.fnOf "_law_draw" "_law_draw" (defArgs st__law_draw) (defBody st__law_draw) (defScope st__law_draw) .none kV14 dc14 pm14 an14 cd14 ct14), sl14⟩) (c14 : PySem.W.codeIn K cd14 "_law_draw" = true) (k14 : PySem.W.keepIn K (.ref f14) = true)
    (a15 : PySem.W.nsIn K mainGlobals "_law_letters" = some (some (.ref f15))) (l15 : K.lookup f15 = some ⟨oc15, od15, .func (PySem.W.fnOf "_law_letters" "_law_letters" (defArgs st__law_letters) (defBody st__law_letters) (defScope st__law_letters) .none kV15 dc15 pm15 an15 cd15 ct15), sl15⟩) (c15 : PySem.W.codeIn K cd15 "_law_letters" = true) (k15 : PySem.W.keepIn K (.ref f15) = true)
    (a16 : PySem.W.nsIn K mainGlobals "_law_atom" = some (some (.ref f16))) (l16 : K.lookup f16 = some ⟨oc16, od16, .func (PySem.W.fnOf "_law_atom" "_law_atom" (defArgs st__law_atom) (defBody st__law_atom) (defScope st__law_atom) .none kV16 dc16 pm16 an16 cd16 ct16), sl16⟩) (c16 : PySem.W.codeIn K cd16 "_law_atom" = true) (k16 : PySem.W.keepIn K (.ref f16) = true)
    (a17 : PySem.W.nsIn K mainGlobals "_law_atoms" = some (some (.ref f17))) (l17 : K.lookup f17 = some ⟨oc17, od17, .func (PySem.W.fnOf "_law_atoms" "_law_atoms" (defArgs st__law_atoms) (defBody st__law_atoms) (defScope st__law_atoms) .none kV17 dc17 pm17 an17 cd17 ct17), sl17⟩) (c17 : PySem.W.codeIn K cd17 "_law_atoms" = true) (k17 : PySem.W.keepIn K (.ref f17) = true)
    (a18 : PySem.W.nsIn K mainGlobals "_law_bracket" = some (some (.ref f18))) (l18 : K.lookup f18 = some ⟨oc18, od18, .func (PySem.W.fnOf "_law_bracket" "_law_bracket" (defArgs st__law_bracket) (defBody st__law_bracket) (defScope st__law_bracket) .none kV18 dc18 pm18 an18 cd18 ct18), sl18⟩) (c18 : PySem.W.codeIn K cd18 "_law_bracket" = true) (k18 : PySem.W.keepIn K (.ref f18) = true)
    (a19 : PySem.W.nsIn K mainGlobals "_law_full" = some (some (.ref f19))) (l19 : K.lookup f19 = some ⟨oc19, od19, .func (PySem.W.fnOf "_law_full" "_law_full" (defArgs st__law_full) (defBody st__law_full) (defScope st__law_full) .none kV19 dc19 pm19 an19 cd19 ct19), sl19⟩) (c19 : PySem.W.codeIn K cd19 "_law_full" = true) (k19 : PySem.W.keepIn K (.ref f19) = true)
    (a20 : PySem.W.nsIn K mainGlobals "_law_text" = some (some (.ref f20))) (l20 : K.lookup f20 = some ⟨oc20, od20, .func (PySem.W.fnOf "_law_text" "_law_text" (defArgs st__law_text) (defBody st__law_text) (defScope st__law_text) .none kV20 dc20 pm20 an20 cd20 ct20), sl20⟩) (c20 : PySem.W.codeIn K cd20 "_law_text" = true) (k20 : PySem.W.keepIn K (.ref f20) = true)
    (a21 : PySem.W.nsIn K mainGlobals "_law_parts" = some (some (.ref f21))) (l21 : K.lookup f21 = some ⟨oc21, od21, .func (PySem.W.fnOf "_law_parts" "_law_parts" (defArgs st__law_parts) (defBody st__law_parts) (defScope st__law_parts) .none kV21 dc21 pm21 an21 cd21 ct21), sl21⟩) (c21 : PySem.W.codeIn K cd21 "_law_parts" = true) (k21 : PySem.W.keepIn K (.ref f21) = true)
    (a22 : PySem.W.nsIn K mainGlobals "_law_pairs" = some (some (.ref f22))) (l22 : K.lookup f22 = some ⟨oc22, od22, .func (PySem.W.fnOf "_law_pairs" "_law_pairs" (defArgs st__law_pairs) (defBody st__law_pairs) (defScope st__law_pairs) .none kV22 dc22 pm22 an22 cd22 ct22), sl22⟩) (c22 : PySem.W.codeIn K cd22 "_law_pairs" = true) (k22 : PySem.W.keepIn K (.ref f22) = true)
    (a23 : PySem.W.nsIn K mainGlobals "_law_blanks" = some (some (.ref f23))) (l23 : K.lookup f23 = some ⟨oc23, od23, .func (PySem.W.fnOf "_law_blanks" "_law_blanks" (defArgs st__law_blanks) (defBody st__law_blanks) (defScope st__law_blanks) .none kV23 dc23 pm23 an23 cd23 ct23), sl23⟩) (c23 : PySem.W.codeIn K cd23 "_law_blanks" = true) (k23 : PySem.W.keepIn K (.ref f23) = true)
    (a24 : PySem.W.nsIn K mainGlobals "_law_loose" = some (some (.ref f24))) (l24 : K.lookup f24 = some ⟨oc24, od24, .func (PySem.W.fnOf "_law_loose" "_law_loose" (defArgs st__law_loose) (defBody st__law_loose) (defScope st__law_loose) .none kV24 dc24 pm24 an24 cd24 ct24), sl24⟩) (c24 : PySem.W.codeIn K cd24 "_law_loose" = true) (k24 : PySem.W.keepIn K (.ref f24) = true)
    (a25 : PySem.W.nsIn K mainGlobals "_law_room" = some (some (.ref f25))) (l25 : K.lookup f25 = some ⟨oc25, od25, .func (PySem.W.fnOf "_law_room" "_law_room" (defArgs st__law_room) (defBody st__law_room) (defScope st__law_room) .none kV25 dc25 pm25 an25 cd25 ct25), sl25⟩) (c25 : PySem.W.codeIn K cd25 "_law_room" = true) (k25 : PySem.W.keepIn K (.ref f25) = true)
    (a26 : PySem.W.nsIn K mainGlobals "_law_both_names" = some (some (.ref f26))) (l26 : K.lookup f26 = some ⟨oc26, od26, .func (PySem.W.fnOf "_law_both_names" "_law_both_names" (defArgs st__law_both_names) (defBody st__law_both_names) (defScope st__law_both_names) .none kV26 dc26 pm26 an26 cd26 ct26), sl26⟩) (c26 : PySem.W.codeIn K cd26 "_law_both_names" = true) (k26 : PySem.W.keepIn K (.ref f26) = true)
    (a27 : PySem.W.nsIn K mainGlobals "_law_read_back" = some (some (.ref f27))) (l27 : K.lookup f27 = some ⟨oc27, od27, .func (PySem.W.fnOf "_law_read_back" "_law_read_back" (defArgs st__law_read_back) (defBody st__law_read_back) (defScope st__law_read_back) .none kV27 dc27 pm27 an27 cd27 ct27), sl27⟩) (c27 : PySem.W.codeIn K cd27 "_law_read_back" = true) (k27 : PySem.W.keepIn K (.ref f27) = true)
    (a28 : PySem.W.nsIn K mainGlobals "law" = some (some (.ref f28))) (l28 : K.lookup f28 = some ⟨oc28, od28, .func (PySem.W.fnOf "law" "law" (defArgs st_law) (defBody st_law) (defScope st_law) .none kV28 dc28 pm28 an28 cd28 ct28), sl28⟩) (c28 : PySem.W.codeIn K cd28 "law" = true) (k28 : PySem.W.keepIn K (.ref f28) = true)
    (z0 : PySem.W.nsIn K mainGlobals "isinstance" = some none) (z1 : PySem.W.nsIn K mainGlobals "str" = some none) (z2 : PySem.W.nsIn K mainGlobals "len" = some none) (z3 : PySem.W.nsIn K mainGlobals "any" = some none) (z4 : PySem.W.nsIn K mainGlobals "int" = some none) (z5 : PySem.W.nsIn K mainGlobals "abs" = some none) (z6 : PySem.W.nsIn K mainGlobals "range" = some none) (z7 : PySem.W.nsIn K mainGlobals "min" = some none) (z8 : PySem.W.nsIn K mainGlobals "tuple" = some none) {kt0 : Tok} (y0 : PySem.W.nsIn K mainGlobals "MOST_IN_NAME" = some (some (.int 8 kt0)))
    {kt1 : Tok} (y1 : PySem.W.nsIn K mainGlobals "LETTERS" = some (some (.str "abcdefghijklmnopqrstuvwxyz" kt1)))
    {kt2 : Tok} (y2 : PySem.W.nsIn K mainGlobals "DIGITS" = some (some (.str "0123456789" kt2)))
    {kt3 : Tok} (y3 : PySem.W.nsIn K mainGlobals "MOST_IN_NUMBER" = some (some (.int 6 kt3)))
    {ka4 : Addr} {ki4 : Array Value} {kn4 : Nat} {ks4 : Array (Option Value)} {kt4_0 kt4_1 kt4_2 : Tok} (y4 : PySem.W.nsIn K mainGlobals "SIGNS" = some (some (.ref ka4))) (yl4 : K.lookup ka4 = some ⟨.type "tuple", none, .seq ki4 kn4, ks4⟩) (yv4 : ki4.toList = [.str "/" kt4_0, .str ">" kt4_1, .str "*" kt4_2])
    {kt5 : Tok} (y5 : PySem.W.nsIn K mainGlobals "MOST_CHARACTERS" = some (some (.int 400 kt5)))
    {kt6 : Tok} (y6 : PySem.W.nsIn K mainGlobals "MOST" = some (some (.int 40 kt6)))
    (kq10 : PySem.W.nsIn K kd10 "shorts" = some (some (.ref ke10)))
    (kl10 : K.lookup ke10 = some ⟨.type "tuple", none, .seq kg10 kh10, kj10⟩)
    (kv10 : kg10.toList = [])
    {xc0 : Addr} (u0 : PySem.W.nsIn K mainGlobals "SizeError" = some (some (.ref xc0)))
    (ve0 : PySem.W.excIn K xc0 [.type "ValueError", .type "Exception", .type "BaseException", .type "object"] "ValueError.__new__" = true)
    (vk0 : PySem.W.keepIn K (.ref xc0) = true)
    (vs0 : PySem.W.subIn K (.ref xc0) (.type "BaseException") = some true)
    (vt0 : PySem.W.typeIn K (.ref xc0) = some (.type "type")) :
    ∃ fd : FuncData, (∀ (s : Shared) (v : Value), BindsTo s fd ⟨[v], []⟩ [("script", v)]) ∧ ∀ base : Heap, K.In base → base.Ns mainGlobals mg → Dl.FnOk l.prog w K mg base (L2.CX l.prog w) LV fa fd ["script"] (rdF ⟨K, mg, W0⟩ (tab LV .law)) := by
  have e := hfa.symm.trans (PySem.W.mg_of X G a28)
  cases e
  let f : FN → Addr := fun
    | .size_of => f0
    | .format_part => f1
    | .format_kind => f2
    | .end_of_run => f3
    | .read_atom => f4
    | .is_name_beginning => f5
    | .read_short => f6
    | .read_unit => f7
    | .join_units => f8
    | .read_kind => f9
    | .parse_kind => f10
    | ._law_cell => f11
    | ._law_mix => f12
    | ._law_pool => f13
    | ._law_draw => f14
    | ._law_letters => f15
    | ._law_atom => f16
    | ._law_atoms => f17
    | ._law_bracket => f18
    | ._law_full => f19
    | ._law_text => f20
    | ._law_parts => f21
    | ._law_pairs => f22
    | ._law_blanks => f23
    | ._law_loose => f24
    | ._law_room => f25
    | ._law_both_names => f26
    | ._law_read_back => f27
    | .law => fa
  let fd : FN → FuncData := fun
    | .size_of => PySem.W.fnOf "size_of" "size_of" (defArgs st_size_of) (defBody st_size_of) (defScope st_size_of) .none kV0 dc0 pm0 an0 cd0 ct0
    | .format_part => PySem.W.fnOf "format_part" "format_part" (defArgs st_format_part) (defBody st_format_part) (defScope st_format_part) .none kV1 dc1 pm1 an1 cd1 ct1
    | .format_kind => PySem.W.fnOf "format_kind" "format_kind" (defArgs st_format_kind) (defBody st_format_kind) (defScope st_format_kind) .none kV2 dc2 pm2 an2 cd2 ct2
    | .end_of_run => PySem.W.fnOf "end_of_run" "end_of_run" (defArgs st_end_of_run) (defBody st_end_of_run) (defScope st_end_of_run) .none kV3 dc3 pm3 an3 cd3 ct3
    | .read_atom => PySem.W.fnOf "read_atom" "read_atom" (defArgs st_read_atom) (defBody st_read_atom) (defScope st_read_atom) .none kV4 dc4 pm4 an4 cd4 ct4
    | .is_name_beginning => PySem.W.fnOf "is_name_beginning" "is_name_beginning" (defArgs st_is_name_beginning) (defBody st_is_name_beginning) (defScope st_is_name_beginning) .none kV5 dc5 pm5 an5 cd5 ct5
    | .read_short => PySem.W.fnOf "read_short" "read_short" (defArgs st_read_short) (defBody st_read_short) (defScope st_read_short) .none kV6 dc6 pm6 an6 cd6 ct6
    | .read_unit => PySem.W.fnOf "read_unit" "read_unit" (defArgs st_read_unit) (defBody st_read_unit) (defScope st_read_unit) .none kV7 dc7 pm7 an7 cd7 ct7
    | .join_units => PySem.W.fnOf "join_units" "join_units" (defArgs st_join_units) (defBody st_join_units) (defScope st_join_units) .none kV8 dc8 pm8 an8 cd8 ct8
    | .read_kind => PySem.W.fnOf "read_kind" "read_kind" (defArgs st_read_kind) (defBody st_read_kind) (defScope st_read_kind) .none kV9 dc9 pm9 an9 cd9 ct9
    | .parse_kind => PySem.W.fnOf "parse_kind" "parse_kind" (defArgs st_parse_kind) (defBody st_parse_kind) (defScope st_parse_kind) .none (.ref kd10) dc10 pm10 an10 cd10 ct10
    | ._law_cell => PySem.W.fnOf "_law_cell" "_law_cell" (defArgs st__law_cell) (defBody st__law_cell) (defScope st__law_cell) .none kV11 dc11 pm11 an11 cd11 ct11
    | ._law_mix => PySem.W.fnOf "_law_mix" "_law_mix" (defArgs st__law_mix) (defBody st__law_mix) (defScope st__law_mix) .none kV12 dc12 pm12 an12 cd12 ct12
    | ._law_pool => PySem.W.fnOf "_law_pool" "_law_pool" (defArgs st__law_pool) (defBody st__law_pool) (defScope st__law_pool) .none kV13 dc13 pm13 an13 cd13 ct13
    | ._law_draw => PySem.W.fnOf "_law_draw" "_law_draw" (defArgs st__law_draw) (defBody st__law_draw) (defScope st__law_draw) .none kV14 dc14 pm14 an14 cd14 ct14
    | ._law_letters => PySem.W.fnOf "_law_letters" "_law_letters" (defArgs st__law_letters) (defBody st__law_letters) (defScope st__law_letters) .none kV15 dc15 pm15 an15 cd15 ct15
    | ._law_atom => PySem.W.fnOf "_law_atom" "_law_atom" (defArgs st__law_atom) (defBody st__law_atom) (defScope st__law_atom) .none kV16 dc16 pm16 an16 cd16 ct16
    | ._law_atoms => PySem.W.fnOf "_law_atoms" "_law_atoms" (defArgs st__law_atoms) (defBody st__law_atoms) (defScope st__law_atoms) .none kV17 dc17 pm17 an17 cd17 ct17
    | ._law_bracket => PySem.W.fnOf "_law_bracket" "_law_bracket" (defArgs st__law_bracket) (defBody st__law_bracket) (defScope st__law_bracket) .none kV18 dc18 pm18 an18 cd18 ct18
    | ._law_full => PySem.W.fnOf "_law_full" "_law_full" (defArgs st__law_full) (defBody st__law_full) (defScope st__law_full) .none kV19 dc19 pm19 an19 cd19 ct19
    | ._law_text => PySem.W.fnOf "_law_text" "_law_text" (defArgs st__law_text) (defBody st__law_text) (defScope st__law_text) .none kV20 dc20 pm20 an20 cd20 ct20
    | ._law_parts => PySem.W.fnOf "_law_parts" "_law_parts" (defArgs st__law_parts) (defBody st__law_parts) (defScope st__law_parts) .none kV21 dc21 pm21 an21 cd21 ct21
    | ._law_pairs => PySem.W.fnOf "_law_pairs" "_law_pairs" (defArgs st__law_pairs) (defBody st__law_pairs) (defScope st__law_pairs) .none kV22 dc22 pm22 an22 cd22 ct22
    | ._law_blanks => PySem.W.fnOf "_law_blanks" "_law_blanks" (defArgs st__law_blanks) (defBody st__law_blanks) (defScope st__law_blanks) .none kV23 dc23 pm23 an23 cd23 ct23
    | ._law_loose => PySem.W.fnOf "_law_loose" "_law_loose" (defArgs st__law_loose) (defBody st__law_loose) (defScope st__law_loose) .none kV24 dc24 pm24 an24 cd24 ct24
    | ._law_room => PySem.W.fnOf "_law_room" "_law_room" (defArgs st__law_room) (defBody st__law_room) (defScope st__law_room) .none kV25 dc25 pm25 an25 cd25 ct25
    | ._law_both_names => PySem.W.fnOf "_law_both_names" "_law_both_names" (defArgs st__law_both_names) (defBody st__law_both_names) (defScope st__law_both_names) .none kV26 dc26 pm26 an26 cd26 ct26
    | ._law_read_back => PySem.W.fnOf "_law_read_back" "_law_read_back" (defArgs st__law_read_back) (defBody st__law_read_back) (defScope st__law_read_back) .none kV27 dc27 pm27 an27 cd27 ct27
    | .law => PySem.W.fnOf "law" "law" (defArgs st_law) (defBody st_law) (defScope st_law) .none kV28 dc28 pm28 an28 cd28 ct28
  let cv : Nat → V := fun i => ([.int 8, .str "abcdefghijklmnopqrstuvwxyz", .str "0123456789", .int 6, .ref ka4, .int 400, .int 40] : List V).getD i .non
  let cu : Nat → Value := fun i => ([.int 8 kt0, .str "abcdefghijklmnopqrstuvwxyz" kt1, .str "0123456789" kt2, .int 6 kt3, .ref ka4, .int 400 kt5, .int 40 kt6] : List Value).getD i .none
  have F0 : Fun K "size_of" "size_of" st_size_of (f .size_of) (fd .size_of) := fun_mk (st := st_size_of) l0 c0 k0
  have b0 : Binds K (fd .size_of) ["kind"] [] := F0.binds (ps := ["kind"]) fun _ _ _ _ _ _ us hl => match us, hl with | [_], _ => rfl
  have F1 : Fun K "format_part" "format_part" st_format_part (f .format_part) (fd .format_part) := fun_mk (st := st_format_part) l1 c1 k1
  have b1 : Binds K (fd .format_part) ["kind"] [] := F1.binds (ps := ["kind"]) fun _ _ _ _ _ _ us hl => match us, hl with | [_], _ => rfl
  have F2 : Fun K "format_kind" "format_kind" st_format_kind (f .format_kind) (fd .format_kind) := fun_mk (st := st_format_kind) l2 c2 k2
  have b2 : Binds K (fd .format_kind) ["kind"] [] := F2.binds (ps := ["kind"]) fun _ _ _ _ _ _ us hl => match us, hl with | [_], _ => rfl
  have F3 : Fun K "end_of_run" "end_of_run" st_end_of_run (f .end_of_run) (fd .end_of_run) := fun_mk (st := st_end_of_run) l3 c3 k3
  have b3 : Binds K (fd .end_of_run) ["text", "start", "characters", "most"] [] := F3.binds (ps := ["text", "start", "characters", "most"]) fun _ _ _ _ _ _ us hl => match us, hl with | [_, _, _, _], _ => rfl
  have F4 : Fun K "read_atom" "read_atom" st_read_atom (f .read_atom) (fd .read_atom) := fun_mk (st := st_read_atom) l4 c4 k4
  have b4 : Binds K (fd .read_atom) ["text", "start"] [] := F4.binds (ps := ["text", "start"]) fun _ _ _ _ _ _ us hl => match us, hl with | [_, _], _ => rfl
  have F5 : Fun K "is_name_beginning" "is_name_beginning" st_is_name_beginning (f .is_name_beginning) (fd .is_name_beginning) := fun_mk (st := st_is_name_beginning) l5 c5 k5
  have b5 : Binds K (fd .is_name_beginning) ["text", "shorts"] [] := F5.binds (ps := ["text", "shorts"]) fun _ _ _ _ _ _ us hl => match us, hl with | [_, _], _ => rfl
  have F6 : Fun K "read_short" "read_short" st_read_short (f .read_short) (fd .read_short) := fun_mk (st := st_read_short) l6 c6 k6
  have b6 : Binds K (fd .read_short) ["text", "start", "shorts"] [] := F6.binds (ps := ["text", "start", "shorts"]) fun _ _ _ _ _ _ us hl => match us, hl with | [_, _, _], _ => rfl
  have F7 : Fun K "read_unit" "read_unit" st_read_unit (f .read_unit) (fd .read_unit) := fun_mk (st := st_read_unit) l7 c7 k7
  have b7 : Binds K (fd .read_unit) ["text", "start", "shorts"] [] := F7.binds (ps := ["text", "start", "shorts"]) fun _ _ _ _ _ _ us hl => match us, hl with | [_, _, _], _ => rfl
  have F8 : Fun K "join_units" "join_units" st_join_units (f .join_units) (fd .join_units) := fun_mk (st := st_join_units) l8 c8 k8
  have b8 : Binds K (fd .join_units) ["units"] [] := F8.binds (ps := ["units"]) fun _ _ _ _ _ _ us hl => match us, hl with | [_], _ => rfl
  have F9 : Fun K "read_kind" "read_kind" st_read_kind (f .read_kind) (fd .read_kind) := fun_mk (st := st_read_kind) l9 c9 k9
  have b9 : Binds K (fd .read_kind) ["text", "shorts"] [] := F9.binds (ps := ["text", "shorts"]) fun _ _ _ _ _ _ us hl => match us, hl with | [_, _], _ => rfl
  have F10 : Fun K "parse_kind" "parse_kind" st_parse_kind (f .parse_kind) (fd .parse_kind) := fun_mk (st := st_parse_kind) l10 c10 k10
  have b10 : KwDef K (fd .parse_kind) ["text", "shorts"] 1 "shorts" (.tup []) := kwdef_mk rfl kq10 kl10 kv10 (fun us u hl => match us, hl with | [_], _ => ⟨_, _, _, _, _, _, rfl, rfl, rfl⟩) (fun us u hl => match us, hl with | [_], _ => rfl)
  have F11 : Fun K "_law_cell" "_law_cell" st__law_cell (f ._law_cell) (fd ._law_cell) := fun_mk (st := st__law_cell) l11 c11 k11
  have b11 : Binds K (fd ._law_cell) ["script", "k"] [] := F11.binds (ps := ["script", "k"]) fun _ _ _ _ _ _ us hl => match us, hl with | [_, _], _ => rfl
  have F12 : Fun K "_law_mix" "_law_mix" st__law_mix (f ._law_mix) (fd ._law_mix) := fun_mk (st := st__law_mix) l12 c12 k12
  have b12 : Binds K (fd ._law_mix) ["x"] [] := F12.binds (ps := ["x"]) fun _ _ _ _ _ _ us hl => match us, hl with | [_], _ => rfl
  have F13 : Fun K "_law_pool" "_law_pool" st__law_pool (f ._law_pool) (fd ._law_pool) := fun_mk (st := st__law_pool) l13 c13 k13
  have b13 : Binds K (fd ._law_pool) ["script", "k"] [] := F13.binds (ps := ["script", "k"]) fun _ _ _ _ _ _ us hl => match us, hl with | [_, _], _ => rfl
  have F14 : Fun K "_law_draw" "_law_draw" st__law_draw (f ._law_draw) (fd ._law_draw) := fun_mk (st := st__law_draw) l14 c14 k14
  have b14 : Binds K (fd ._law_draw) ["pool", "many"] [] := F14.binds (ps := ["pool", "many"]) fun _ _ _ _ _ _ us hl => match us, hl with | [_, _], _ => rfl
  have F15 : Fun K "_law_letters" "_law_letters" st__law_letters (f ._law_letters) (fd ._law_letters) := fun_mk (st := st__law_letters) l15 c15 k15
  have b15 : Binds K (fd ._law_letters) [] [] := F15.binds (ps := []) fun _ _ _ _ _ _ us hl => match us, hl with | [], _ => rfl
  have F16 : Fun K "_law_atom" "_law_atom" st__law_atom (f ._law_atom) (fd ._law_atom) := fun_mk (st := st__law_atom) l16 c16 k16
  have b16 : Binds K (fd ._law_atom) ["pool", "most"] [] := F16.binds (ps := ["pool", "most"]) fun _ _ _ _ _ _ us hl => match us, hl with | [_, _], _ => rfl
  have F17 : Fun K "_law_atoms" "_law_atoms" st__law_atoms (f ._law_atoms) (fd ._law_atoms) := fun_mk (st := st__law_atoms) l17 c17 k17
  have b17 : Binds K (fd ._law_atoms) ["pool"] [] := F17.binds (ps := ["pool"]) fun _ _ _ _ _ _ us hl => match us, hl with | [_], _ => rfl
  have F18 : Fun K "_law_bracket" "_law_bracket" st__law_bracket (f ._law_bracket) (fd ._law_bracket) := fun_mk (st := st__law_bracket) l18 c18 k18
  have b18 : Binds K (fd ._law_bracket) ["pool", "texts", "way"] [] := F18.binds (ps := ["pool", "texts", "way"]) fun _ _ _ _ _ _ us hl => match us, hl with | [_, _, _], _ => rfl
  have F19 : Fun K "_law_full" "_law_full" st__law_full (f ._law_full) (fd ._law_full) := fun_mk (st := st__law_full) l19 c19 k19
  have b19 : Binds K (fd ._law_full) ["kind"] [] := F19.binds (ps := ["kind"]) fun _ _ _ _ _ _ us hl => match us, hl with | [_], _ => rfl
  have F20 : Fun K "_law_text" "_law_text" st__law_text (f ._law_text) (fd ._law_text) := fun_mk (st := st__law_text) l20 c20 k20
  have b20 : Binds K (fd ._law_text) ["kind"] [] := F20.binds (ps := ["kind"]) fun _ _ _ _ _ _ us hl => match us, hl with | [_], _ => rfl
  have F21 : Fun K "_law_parts" "_law_parts" st__law_parts (f ._law_parts) (fd ._law_parts) := fun_mk (st := st__law_parts) l21 c21 k21
  have b21 : Binds K (fd ._law_parts) ["kind"] [] := F21.binds (ps := ["kind"]) fun _ _ _ _ _ _ us hl => match us, hl with | [_], _ => rfl
  have F22 : Fun K "_law_pairs" "_law_pairs" st__law_pairs (f ._law_pairs) (fd ._law_pairs) := fun_mk (st := st__law_pairs) l22 c22 k22
  have b22 : Binds K (fd ._law_pairs) ["pool", "kind"] [] := F22.binds (ps := ["pool", "kind"]) fun _ _ _ _ _ _ us hl => match us, hl with | [_, _], _ => rfl
  have F23 : Fun K "_law_blanks" "_law_blanks" st__law_blanks (f ._law_blanks) (fd ._law_blanks) := fun_mk (st := st__law_blanks) l23 c23 k23
  have b23 : Binds K (fd ._law_blanks) ["pool"] [] := F23.binds (ps := ["pool"]) fun _ _ _ _ _ _ us hl => match us, hl with | [_], _ => rfl
  have F24 : Fun K "_law_loose" "_law_loose" st__law_loose (f ._law_loose) (fd ._law_loose) := fun_mk (st := st__law_loose) l24 c24 k24
  have b24 : Binds K (fd ._law_loose) ["pool", "kind", "pairs", "inner"] [] := F24.binds (ps := ["pool", "kind", "pairs", "inner"]) fun _ _ _ _ _ _ us hl => match us, hl with | [_, _, _, _], _ => rfl
  have F25 : Fun K "_law_room" "_law_room" st__law_room (f ._law_room) (fd ._law_room) := fun_mk (st := st__law_room) l25 c25 k25
  have b25 : Binds K (fd ._law_room) ["pool", "loose", "strict"] [] := F25.binds (ps := ["pool", "loose", "strict"]) fun _ _ _ _ _ _ us hl => match us, hl with | [_, _, _], _ => rfl
  have F26 : Fun K "_law_both_names" "_law_both_names" st__law_both_names (f ._law_both_names) (fd ._law_both_names) := fun_mk (st := st__law_both_names) l26 c26 k26
  have b26 : Binds K (fd ._law_both_names) ["pool", "low", "high"] [] := F26.binds (ps := ["pool", "low", "high"]) fun _ _ _ _ _ _ us hl => match us, hl with | [_, _, _], _ => rfl
  have F27 : Fun K "_law_read_back" "_law_read_back" st__law_read_back (f ._law_read_back) (fd ._law_read_back) := fun_mk (st := st__law_read_back) l27 c27 k27
  have b27 : Binds K (fd ._law_read_back) ["kind", "texts", "pairs"] [] := F27.binds (ps := ["kind", "texts", "pairs"]) fun _ _ _ _ _ _ us hl => match us, hl with | [_, _, _], _ => rfl
  have F28 : Fun K "law" "law" st_law (f .law) (fd .law) := fun_mk (st := st_law) l28 c28 k28
  have b28 : Binds K (fd .law) ["script"] [] := F28.binds (ps := ["script"]) fun _ _ _ _ _ _ us hl => match us, hl with | [_], _ => rfl
  let cl : Nat → Addr := fun i => ([xc0] : List Addr).getD i 0
  let tb : Nat → Addr := fun i => ([] : List Addr).getD i 0
  have T : Txt w K mg f fd cv cu cl tb := ⟨F0, b0, PySem.W.mg_of X G a0, F1, b1, PySem.W.mg_of X G a1, F2, b2, PySem.W.mg_of X G a2, F3, b3, PySem.W.mg_of X G a3, F4, b4, PySem.W.mg_of X G a4, F5, b5, PySem.W.mg_of X G a5, F6, b6, PySem.W.mg_of X G a6, F7, b7, PySem.W.mg_of X G a7, F8, b8, PySem.W.mg_of X G a8, F9, b9, PySem.W.mg_of X G a9, F10, b10, PySem.W.mg_of X G a10, F11, b11, PySem.W.mg_of X G a11, F12, b12, PySem.W.mg_of X G a12, F13, b13, PySem.W.mg_of X G a13, F14, b14, PySem.W.mg_of X G a14, F15, b15, PySem.W.mg_of X G a15, F16, b16, PySem.W.mg_of X G a16, F17, b17, PySem.W.mg_of X G a17, F18, b18, PySem.W.mg_of X G a18, F19, b19, PySem.W.mg_of X G a19, F20, b20, PySem.W.mg_of X G a20, F21, b21, PySem.W.mg_of X G a21, F22, b22, PySem.W.mg_of X G a22, F23, b23, PySem.W.mg_of X G a23, F24, b24, PySem.W.mg_of X G a24, F25, b25, PySem.W.mg_of X G a25, F26, b26, PySem.W.mg_of X G a26, F27, b27, PySem.W.mg_of X G a27, F28, b28, PySem.W.mg_of X G a28, PySem.W.mg_none_of X G z0, PySem.W.mg_none_of X G z1, PySem.W.mg_none_of X G z2, PySem.W.mg_none_of X G z3, PySem.W.mg_none_of X G z4, PySem.W.mg_none_of X G z5, PySem.W.mg_none_of X G z6, PySem.W.mg_none_of X G z7, PySem.W.mg_none_of X G z8, ⟨PySem.W.mg_of X G y0, ⟨_, rfl⟩, fun _ _ => .int _⟩, ⟨PySem.W.mg_of X G y1, ⟨_, rfl⟩, fun _ _ => .str (by decide +kernel)⟩, ⟨PySem.W.mg_of X G y2, ⟨_, rfl⟩, fun _ _ => .str (by decide +kernel)⟩, ⟨PySem.W.mg_of X G y3, ⟨_, rfl⟩, fun _ _ => .int _⟩, ⟨PySem.W.mg_of X G y4, rfl, fun m H => tupK_rd (xs := ["/", ">", "*"]) yl4 yv4 (by show 3 ≤ 1000; decide) (.cons (by decide +kernel) (.cons (by decide +kernel) (.cons (by decide +kernel) .nil))) m H⟩, ⟨PySem.W.mg_of X G y5, ⟨_, rfl⟩, fun _ _ => .int _⟩, ⟨PySem.W.mg_of X G y6, ⟨_, rfl⟩, fun _ _ => .int _⟩, PySem.W.mg_of X G u0, ⟨PySem.W.mg_of X G u0, ve0, vk0, vs0, vt0⟩⟩
  exact ⟨fd .law, fun s v => .of_eq rfl, fun base _ _ => (oks T LV).o_law⟩
theorem walk (LV : Nat) (hLV : Dl.Room LV callerA) (good : ∀ ns : List Int, ns.length ≤ 63 → ∃ S, tab LV .law [.ref 0] [.rol (ns.map D.int)] = .ok (.bl true) S) {l : PySem.W.OpenLaw} {q : Program} {loose : List Str} {XP : (Str → Option Value) → Heap → Prop} {YP : World → Heap → Prop} {d : DefRec} {K : Params → PySem.W.Frag} (hn : l.most = some 63) (hdf : d.params.defaults = [])
    (hY : ∀ (w : World) (h : Heap), YP w h → (K w.params).In h)
    (F : ∀ (w : World) (mg : Str → Option Value) (fa : Addr) (h : Heap), (K w.params).In h → h.Ns mainGlobals mg → mg d.name = some (.ref fa) →
      ∃ fd : FuncData, (∀ (s : Shared) (u : Value), BindsTo s fd ⟨[u], []⟩ [("script", u)]) ∧ ∀ base : Heap, (K w.params).In base → base.Ns mainGlobals mg → Dl.FnOk l.prog w (K w.params) mg base (L2.CX l.prog w) LV fa fd ["script"] (rdF ⟨K w.params, mg, W0⟩ (tab LV .law))) :
    PySem.W.WalkO q loose XP YP l.row.toRowW d [] (fun f vs => PySem.call f vs) :=
  Dl.walk_of (n := 63) (k := LV) (x := "script") (CX := fun w => L2.CX l.prog w) (sp := fun w => rdL (K w.params) (tab LV .law)) hn (by decide) hdf hLV hY
    (fun w mg fa h KX G hm => by
      obtain ⟨fd, hb, hF⟩ := F w mg fa h KX G hm
      exact ⟨fd, hb, fun base kb gb => (hF base kb gb).imp fun vs H Q E h => rdL_F h⟩)
    (fun w H a ns hl hO hS => law_sp hO hS (good ns hl)) fun w H s e s' z => by
      obtain ⟨_, _, _, _, _, _, _, _, _, _, _, _, z⟩ := z
      exact z.elim
end Lw

set_option Elab.async false
set_option linter.all false
set_option maxRecDepth 100000
namespace Lw
open PySem L2 Dl
/-! ## tools of this law -/
theorem tgU_ {ts : List (D → SX)} {ds : List D} {ρ : Dl.Env} {S : Store} (h : ds.length = ts.length) : tgU ts (.tup ds) ρ S = tgL ts ds ρ S := by
  show (if ds.length = ts.length then tgL ts ds else sNo) ρ S = _
  rw [if_pos h]
theorem tgU_l {ts : List (D → SX)} {ds : List D} {ρ : Dl.Env} {S : Store} {l : Nat} (hl : lstAt S l = some ds) (h : ds.length = ts.length) : tgU ts (.ref l) ρ S = tgL ts ds ρ S := by
  show (match lstAt S l with
    | some ds => if ds.length = ts.length then tgL ts ds ρ S else .no
    | none => .no) = _
  rw [hl]
  exact if_pos h
noncomputable def kTab (L : List (Str × D)) : Dl.R D → Dl.R D
  | .ok y S => toR (gTab L .non y S)
  | .ex x S => .ex x S
  | .no => .no
theorem eTab_ {L : List (Str × D)} {f : EX} {ρ : Dl.Env} {S : Store} : eTab L f ρ S = kTab L (f ρ S) := by show (f ρ S).bind _ = _; cases f ρ S <;> rfl
theorem kTab_ {L : List (Str × D)} {y : D} {S : Store} : kTab L (.ok y S) = toR (gTab L .non y S) := rfl
theorem sX_ {x : Str} {ρ : Dl.Env} {S : Store} : sX x ρ S = .ex ⟨x, []⟩ ρ S := rfl
/-! ### stores -/
mutual
theorem wf_mono {n m : Nat} (h : n ≤ m) : ∀ {d : D}, d.wf n = true → d.wf m = true
  | .non, _ => rfl
  | .bl _, _ => rfl
  | .int _, _ => rfl
  | .str _, _ => rfl
  | .tup xs, q => wfs_mono h (show wfs n xs = true from q)
  | .ref l, q => by
    have q' : l < n := of_decide_eq_true q
    exact decide_eq_true (by omega)
  | .raw _, _ => rfl
theorem wfs_mono {n m : Nat} (h : n ≤ m) : ∀ {ds : List D}, wfs n ds = true → wfs m ds = true
  | [], _ => rfl
  | d :: ds, q => by
    have q' : (d.wf n && wfs n ds) = true := q
    rw [Bool.and_eq_true] at q'
    show (d.wf m && wfs m ds) = true
    rw [wf_mono h q'.1, wfs_mono h q'.2]
    rfl
end
theorem cwf_mono {n m : Nat} (h : n ≤ m) {c : Cell} (q : Cell.wf n c = true) : Cell.wf m c = true := by
  cases c with
  | lst xs => exact wfs_mono h q
  | rol xs => exact wfs_mono h q
  | dic kvs => exact wfs_mono h q
  | gone => rfl
theorem cwf_flat {n : Nat} {c : Cell} (q : Cell.flat c = true) : Cell.wf n c = true := by
  cases c with
  | lst xs => exact wfs_flat q
  | rol xs => exact wfs_flat q
  | dic kvs => exact wfs_flat q
  | gone => rfl
/-- no cell holds an address beyond the store -/
def SOK (S : Store) : Prop := ∀ c ∈ S, Cell.wf S.length c = true
theorem SOK.wf {S : Store} {n : Nat} (h : SOK S) (e : S.length = n) : SWf n S = true := by
  subst e
  exact List.all_eq_true.mpr h
theorem SOK.set {S : Store} {i : Nat} {c : Cell} (h : SOK S) (hc : Cell.flat c = true) : SOK (S.set i c) := fun x hx => by
  rw [List.length_set]
  rcases List.mem_or_eq_of_mem_set hx with q | q
  · exact h x q
  · rw [q]; exact cwf_flat hc
theorem SOK.push {S : Store} {c : Cell} (h : SOK S) (hc : Cell.wf S.length c = true) : SOK (S ++ [c]) := fun x hx => by
  have l : S.length ≤ (S ++ [c]).length := by rw [List.length_append]; omega
  rcases List.mem_append.mp hx with q | q
  · exact cwf_mono l (h x q)
  · rw [List.mem_singleton.mp q]; exact cwf_mono l hc
theorem SOK.pushF {S : Store} {c : Cell} (h : SOK S) (hc : Cell.flat c = true) : SOK (S ++ [c]) := h.push (cwf_flat hc)
theorem get_end' {S : Store} {c : Cell} {l : Nat} (h : l = S.length) : (S ++ [c])[l]? = some c := by rw [h]; exact get_end
theorem set_end' {S : Store} {c d : Cell} {l : Nat} (h : l = S.length) : (S ++ [c]).set l d = S ++ [d] := by rw [h]; exact set_end
theorem set_keep {S : Store} {p q : Nat} {c d : Cell} (h : S[q]? = some c) (n : p ≠ q) : (S.set p d)[q]? = some c := by rw [List.getElem?_set_ne n]; exact h
theorem ne_end {S : Store} {p : Nat} {c : Cell} (h : S[p]? = some c) : p ≠ S.length := Nat.ne_of_lt (get_lt h)
theorem chk_app {k : Chk} {T : Store} (S : Store) (h : chkOk k T) : chkOk k (T ++ S) := fun p hp => by
  have q := h p hp
  unfold lstAt at q ⊢
  cases e : T[p.1]? with
  | none => rw [e] at q; exact nomatch q
  | some c => rw [get_app e]; rw [e] at q; exact q
theorem lstAt_app {T : Store} (S : Store) {l : Nat} {xs : List D} (h : lstAt T l = some xs) : lstAt (T ++ S) l = some xs := chk_app (k := [(l, xs)]) S (chk_one h) _ (List.mem_singleton.mpr rfl)
theorem lstAt_lt {T : Store} {l : Nat} {xs : List D} (h : lstAt T l = some xs) : l < T.length := by
  unfold lstAt at h
  cases e : T[l]? with
  | none => rw [e] at h; exact nomatch h
  | some c => exact get_lt e
theorem seq_step {a b : SX} {ρ ρ' : Dl.Env} {S S' : Store} {o : Dl.Out} (h1 : a ρ S = .nx ρ' S') (h2 : b ρ' S' = o) : sQ a b ρ S = o := by rw [sQ_, h1]; exact h2
theorem isi_ss {t : Str} {S : Store} : gIsi .str [.str t, .raw (.ty "str")] S = some (.bl true, S) := by unfold gIsi; exact if_pos rfl
theorem isi_st {t : List D} {S : Store} : gIsi .str [.tup t, .raw (.ty "str")] S = some (.bl false, S) := by unfold gIsi; exact if_pos rfl
theorem isi_tt {t : List D} {S : Store} : gIsi .tup [.tup t, .raw (.ty "tuple")] S = some (.bl true, S) := by unfold gIsi; exact if_pos rfl
theorem runC_all {k : Chk} {ρ : Dl.Env} {l : Nat} {g : Cg} {ft : TX} {fe : EX} (val : D → D) (keep : D → Bool) : ∀ (ds acc : List D) (T : Store), l = T.length → acc.length + ds.length ≤ 1000000 → (∀ S, chkOk k T → chkOk k (T ++ S)) → chkOk k T →
    (∀ d ∈ ds, ∃ ρ1, g.put d ρ = some ρ1 ∧ ∀ a, ft ρ1 (T ++ [Cell.lst a]) = .ok (keep d) (T ++ [Cell.lst a]) ∧ (keep d = true → fe ρ1 (T ++ [Cell.lst a]) = .ok (val d) (T ++ [Cell.lst a]))) →
    runC l ρ g ft fe k ds (T ++ [Cell.lst acc]) = .ok (.ref l) (T ++ [Cell.lst (acc ++ (ds.filter keep).map val)])
  | [], acc, T, hl, hz, hk, hk0, _ => by
    unfold runC
    rw [if_pos (hk _ hk0)]
    simp
  | d :: ds, acc, T, hl, hz, hk, hk0, hd => by
    obtain ⟨ρ1, h1, h2⟩ := hd d (List.mem_cons_self ..)
    obtain ⟨h3, h4⟩ := h2 acc
    have hz' : acc.length + (ds.length + 1) ≤ 1000000 := hz
    unfold runC
    rw [if_pos (hk _ hk0)]
    simp only [h1, h3]
    cases hkd : keep d with
    | false =>
      simp only
      rw [runC_all val keep ds acc T hl (by omega) hk hk0 fun x hx => hd x (List.mem_cons_of_mem _ hx), List.filter_cons_of_neg (by rw [hkd]; exact Bool.false_ne_true)]
    | true =>
      have h4' := h4 hkd
      subst hl
      simp only [h4', get_end]
      rw [if_pos (show acc.length < LIM by show acc.length < 16777216; omega), set_end, runC_all val keep ds (acc ++ [val d]) T rfl (by rw [List.length_append]; simp only [List.length_singleton]; omega) hk hk0 fun x hx => hd x (List.mem_cons_of_mem _ hx),
        List.filter_cons_of_pos hkd, List.map_cons, List.append_assoc]
      rfl
/-! ### == of lists -/
theorem deps_str : ∀ xs : List Str, deps (xs.map D.str) = 0
  | [] => rfl
  | x :: xs => by show max 0 (deps (xs.map D.str)) = 0; rw [deps_str xs]; rfl
def sts (xs : List Str) : List D := xs.map D.str
theorem sts_flat : ∀ xs : List Str, flats (sts xs) = true
  | [] => rfl
  | x :: xs => by show (true && flats (sts xs)) = true; rw [sts_flat xs]; rfl
theorem sts_len (xs : List Str) : (sts xs).length = xs.length := List.length_map ..
theorem sts_app (xs ys : List Str) : sts (xs ++ ys) = sts xs ++ sts ys := List.map_append ..
theorem sts_deqs : ∀ xs : List Str, deqs (sts xs) (sts xs) = true
  | [] => rfl
  | x :: xs => by show ((x == x) && deqs (sts xs) (sts xs)) = true; rw [sts_deqs xs, beq_self_eq_true]; rfl
theorem asP_lst {S : Store} {l : Nat} {xs : List D} (h : lstAt S l = some xs) (hf : flats xs = true) : asP S (.ref l) = some (.list (toPys xs)) := by
  unfold asP
  rw [if_neg (show ¬ (D.ref l).flat = true from Bool.false_ne_true)]
  simp only [h, hf, if_true]
theorem gEq_sts {S : Store} {l r : Nat} {xs : List Str} (h1 : lstAt S l = some (sts xs)) (h2 : lstAt S r = some (sts xs)) : gEq (.ref l) (.ref r) S = some (.bl true, S) := by
  unfold gEq gEqB
  rw [asP_lst h1 (sts_flat xs), asP_lst h2 (sts_flat xs)]
  have e : (PyData.list (toPys (sts xs))).depth ≤ 64 := by
    have q := depth_toPy (.tup (sts xs))
    have q' : PyData.depthAll (toPys (sts xs)) + 1 = deps (sts xs) + 1 := q
    show PyData.depthAll (toPys (sts xs)) + 1 ≤ 64
    rw [q', show deps (sts xs) = 0 from deps_str xs]
    decide
  show Option.map _ (if (PyData.list (toPys (sts xs))).depth ≤ 64 then some (PyData.eqv (.list (toPys (sts xs))) (.list (toPys (sts xs)))) else none) = _
  rw [if_pos e]
  show some (D.bl (PyData.eqvAll (toPys (sts xs)) (toPys (sts xs))), S) = _
  rw [eqvs_toPys (sts xs) (sts xs) (sts_flat xs) (sts_flat xs), sts_deqs]
def mixZ (x : Int) : Int :=
  let y := (x * x + 3 * x + 7919) % 1000003
  (y * y + 5 * y + 104729) % 998244353
def Pool (N : Nat) (P : List D) : Prop := ∃ a b c : Int, P = [.int a, .int b, .int c] ∧ 0 ≤ b ∧ b ≤ 10000000000 ∧ 0 ≤ c ∧ c ≤ N
theorem Pool.flat {N : Nat} {P : List D} (h : Pool N P) : flats P = true := by obtain ⟨a, b, c, rfl, _⟩ := h; rfl
theorem Pool.mono {N M : Nat} {P : List D} (h : Pool N P) (l : N ≤ M) : Pool M P := by obtain ⟨a, b, c, e, h1, h2, h3, h4⟩ := h; exact ⟨a, b, c, e, h1, h2, h3, by omega⟩
/-! ## atoms -/
def SM : List Nat := ("abcdefghijklmnopqrstuvwxyz0123456789" : Str).cps.toList
structure Base (b : Str) : Prop where
  all : ∀ c ∈ b.cps.toList, c ∈ SM
  fst : ∃ c, b.cps.toList[0]? = some c ∧ c ∈ ("abcdefghijklmnopqrstuvwxyz" : Str).cps.toList
  len : b.length ≤ 8
theorem sm_dot : ∀ c ∈ SM, c ≠ 46 := by decide +kernel
theorem Base.dot {b : Str} (h : Base b) : 46 ∉ b.cps.toList := fun q => sm_dot 46 (h.all 46 q) rfl
theorem Base.ne {b : Str} (h : Base b) : 1 ≤ b.length := by
  obtain ⟨c, hc, _⟩ := h.fst
  have q := (List.getElem?_eq_some_iff.mp hc).1
  show 1 ≤ b.cps.size
  rw [← Array.length_toList]; omega
def atT (b : Str) (m : Int) : Str := if m = 0 then b else b ++ "." ++ (toString m : Str)
theorem dot_ : ("." : Str) = ⟨#[46]⟩ := by decide +kernel
theorem dot_list : ("." : Str).cps.toList = [46] := by decide +kernel
theorem app_list (a b : Str) : (a ++ b).cps.toList = a.cps.toList ++ b.cps.toList := Array.toList_append
theorem app_len (a b : Str) : (a ++ b).length = a.length + b.length := str_app_len a b
theorem dot_len : ("." : Str).length = 1 := by decide +kernel
theorem len_list (a : Str) : a.cps.toList.length = a.length := Array.length_toList
theorem num_len {m : Int} (h0 : 0 ≤ m) (h1 : m ≤ 999999) : (toString m : Str).length ≤ 6 := PyProof.Rows.toString_length_le h0 (by decide) (by omega)
theorem log_small {m : Int} (h0 : 0 ≤ m) (h1 : m ≤ 999999) : m.natAbs.log2 < 1920 := by
  by_cases e : m.natAbs = 0
  · rw [e]; decide
  · have : m.natAbs.log2 < 20 := (Nat.log2_lt e).mpr (by omega)
    omega
theorem gStr_ {m : Int} {S : Store} (h0 : 0 ≤ m) (h1 : m ≤ 999999) : gStr [.int m] S = some (.str (toString m), S) := if_pos ⟨log_small h0 h1, by have := num_len h0 h1; show _ ≤ 16777216; omega⟩
theorem digs (n : Nat) : ∀ c ∈ (Nat.toDigits 10 n).map Char.toNat, c ∈ ("0123456789" : Str).cps.toList := by
  induction n using Nat.strongRecOn with
  | _ n ih =>
    have one : ∀ d : Nat, d < 10 → (Nat.digitChar d).toNat ∈ ("0123456789" : Str).cps.toList := by decide +kernel
    by_cases h : n < 10
    · rw [Nat.toDigits_of_lt_base h]
      intro c hc
      rw [List.mem_singleton.mp hc]
      exact one n h
    · have hm : n % 10 < 10 := Nat.mod_lt n (by decide)
      have t : Nat.toDigits 10 (n / 10) ++ Nat.toDigits 10 (n % 10) = Nat.toDigits 10 (10 * (n / 10) + n % 10) := Nat.toDigits_append_toDigits (by decide) (by omega) hm
      rw [Nat.div_add_mod] at t
      rw [← t, List.map_append, Nat.toDigits_of_lt_base hm]
      intro c hc
      rcases List.mem_append.mp hc with q | q
      · exact ih (n / 10) (by omega) c q
      · rw [List.mem_singleton.mp q]
        exact one _ hm
theorem dig_head (n : Nat) (h0 : 0 < n) : ∃ c, ((Nat.toDigits 10 n).map Char.toNat)[0]? = some c ∧ c ≠ 48 := by
  induction n using Nat.strongRecOn with
  | _ n ih =>
    have one : ∀ d : Nat, d < 10 → 0 < d → (Nat.digitChar d).toNat ≠ 48 := by decide +kernel
    by_cases h : n < 10
    · rw [Nat.toDigits_of_lt_base h]
      exact ⟨_, rfl, one n h h0⟩
    · have hm : n % 10 < 10 := Nat.mod_lt n (by decide)
      have t : Nat.toDigits 10 (n / 10) ++ Nat.toDigits 10 (n % 10) = Nat.toDigits 10 (10 * (n / 10) + n % 10) := Nat.toDigits_append_toDigits (by decide) (by omega) hm
      rw [Nat.div_add_mod] at t
      rw [← t, List.map_append]
      obtain ⟨c, h1, h2⟩ := ih (n / 10) (by omega) (by omega)
      exact ⟨c, by rw [List.getElem?_append_left (List.getElem?_eq_some_iff.mp h1).1]; exact h1, h2⟩
theorem num_list {m : Int} (h0 : 0 ≤ m) : (toString m : Str).cps.toList = (Nat.toDigits 10 m.toNat).map Char.toNat := by
  obtain ⟨n, rfl⟩ := Int.eq_ofNat_of_zero_le h0
  exact PySem.W.KIN.signs_num n
theorem num_dig {m : Int} (h0 : 0 ≤ m) : ∀ c ∈ (toString m : Str).cps.toList, c ∈ ("0123456789" : Str).cps.toList := by rw [num_list h0]; exact digs _
theorem dig_dot : ∀ c ∈ ("0123456789" : Str).cps.toList, c ≠ 46 := by decide +kernel
theorem num_dot {m : Int} (h0 : 0 ≤ m) : 46 ∉ (toString m : Str).cps.toList := fun q => dig_dot 46 (num_dig h0 46 q) rfl
/-- its split at the dot -/
theorem ext_list {a b : Str} (h : a.cps.toList = b.cps.toList) : a = b := by
  cases a; cases b
  exact congrArg Str.mk (Array.toList_inj.mp h)
theorem split_atom {b : Str} {m : Int} (hb : Base b) (h0 : 0 ≤ m) : Txt.split (atT b m) "." = if m = 0 then [b] else [b, (toString m : Str)] := by
  unfold atT
  by_cases e : m = 0
  · rw [if_pos e, if_pos e]
    have q := TL.split_join (y := ".") (s := 46) (S := []) dot_list (by decide +kernel) (parts := [b]) (by simp) (fun p hp => by rw [List.mem_singleton.mp hp]; exact hb.dot)
    rw [show Txt.join "." [b] = b from rfl] at q
    exact q
  · rw [if_neg e, if_neg e]
    have q := TL.split_join (y := ".") (s := 46) (S := []) dot_list (by decide +kernel) (parts := [b, (toString m : Str)]) (by simp) (fun p hp => by
      rcases List.mem_cons.mp hp with rfl | hp
      · exact hb.dot
      · rw [List.mem_singleton.mp hp]; exact num_dot h0)
    rw [show Txt.join "." [b, (toString m : Str)] = b ++ "." ++ (toString m : Str) from ext_list (by
      rw [TL.join_eq]
      have t := TL.tl_join "." [b, (toString m : Str)]
      rw [show (Str.join "." [b, (toString m : Str)]).cps.toList = _ from t, app_list, app_list, dot_list]
      show b.cps.toList ++ (("." : Str).cps.toList ++ (toString m : Str).cps.toList) = _
      rw [dot_list, List.append_assoc])] at q
    exact q
theorem atT_len {b : Str} {m : Int} (hb : Base b) (h0 : 0 ≤ m) (h1 : m ≤ 999999) : (atT b m).length ≤ 15 := by
  unfold atT
  have l1 := num_len h0 h1
  have l2 := hb.len
  have l3 := dot_len
  by_cases e : m = 0
  · rw [if_pos e]; omega
  · rw [if_neg e, app_len, app_len]; omega
theorem gSplit_ {t : Str} {ps : List Str} {S : Store} (h : Txt.split t "." = ps) (hl : t.length ≤ 100) (hp : ∀ p ∈ ps, p.length ≤ 100) : gSplit (.str t) [.str "."] S = some (.ref S.length, S ++ [Cell.lst (sts ps)]) := by
  show (if ("." : Str).length ≠ 0 ∧ t.length + 2 ≤ LIM ∧ ((Txt.split t ".").all fun p => decide (p.length ≤ LIM)) = true then some (D.ref S.length, S ++ [Cell.lst ((Txt.split t ".").map .str)]) else none) = _
  rw [h, if_pos ⟨by rw [dot_len]; decide, by show _ ≤ 16777216; omega, List.all_eq_true.mpr fun p q => decide_eq_true (by have := hp p q; show _ ≤ 16777216; omega)⟩]
  rfl

theorem dotted {S : Store} {b : Str} {m : Int} (hb : Base b) (h0 : 0 < m) (h1 : m ≤ 999999) : gStr [.int m] S = some (.str (toString m), S) ∧ gAdd (.str b) (.str ".") S = some (.str (b ++ "."), S) ∧ gAdd (.str (b ++ ".")) (.str (toString m)) S = some (.str (atT b m), S) := by
  have l1 := num_len (by omega) h1
  have l2 := app_len b "."
  have l3 := dot_len
  have l4 := hb.len
  refine ⟨gStr_ (by omega) h1, gAdd_str (by omega), ?_⟩
  rw [gAdd_str (by omega)]
  unfold atT
  rw [if_neg (by omega)]
def AtS (t : Str) : Prop := ∃ b m, t = atT b m ∧ Base b ∧ 0 ≤ m ∧ m ≤ 999999
theorem base_at {b : Str} (hb : Base b) : AtS b := ⟨b, 0, by unfold atT; rw [if_pos rfl], hb, by decide, by decide⟩
/-! ## a base, a numbered atom -/
theorem sm36 : (("abcdefghijklmnopqrstuvwxyz" : Str) ++ ("0123456789" : Str)).cps.toList = SM := by decide +kernel
theorem small_len : ("abcdefghijklmnopqrstuvwxyz" : Str).length = 26 := by decide +kernel
theorem dig_len : ("0123456789" : Str).length = 10 := by decide +kernel
theorem small26_len : ("abcdefghijklmnopqrstuvwxyz" : Str).cps.toList.length = 26 := by decide +kernel
theorem sm_len : SM.length = 36 := by decide +kernel
theorem small_sm : ∀ c ∈ ("abcdefghijklmnopqrstuvwxyz" : Str).cps.toList, c ∈ SM := by decide +kernel
/-! ## kinds as trees -/
def Sg (s : Str) : Prop := s = "/" ∨ s = ">" ∨ s = "*"
inductive KT where
  | leaf (t : Str) | node (s : Str) (a b : KT)
namespace KT
def d : KT → D
  | leaf t => .str t
  | node s a b => .tup [.str s, a.d, b.d]
def at_ : KT → List Str
  | leaf t => [t]
  | node _ a b => a.at_ ++ b.at_
def ok (P : Str → Prop) : KT → Prop
  | leaf t => P t
  | node s a b => Sg s ∧ a.ok P ∧ b.ok P
theorem flat : ∀ k : KT, k.d.flat = true
  | leaf t => rfl
  | node s a b => by show (true && (a.d.flat && (b.d.flat && true))) = true; rw [flat a, flat b]; rfl
theorem pos : ∀ k : KT, 1 ≤ k.at_.length
  | leaf t => Nat.le_refl _
  | node s a b => by
    have := pos a
    show 1 ≤ (a.at_ ++ b.at_).length
    rw [List.length_append]; omega
theorem dep : ∀ k : KT, k.d.dep + 1 ≤ k.at_.length
  | leaf t => Nat.le_refl _
  | node s a b => by
    have ha := dep a
    have hb := dep b
    have pa := pos a
    have pb := pos b
    show max 0 (max a.d.dep (max b.d.dep 0)) + 1 + 1 ≤ (a.at_ ++ b.at_).length
    rw [List.length_append]; omega
theorem len_node {s : Str} {a b : KT} : (node s a b).at_.length = a.at_.length + b.at_.length := List.length_append ..
end KT
theorem ix0 {s a b : D} {S : Store} : gIx (.tup [s, a, b]) (.int 0) S = some (s, S) := rfl
theorem ix1 {s a b : D} {S : Store} : gIx (.tup [s, a, b]) (.int 1) S = some (a, S) := rfl
theorem ix2 {s a b : D} {S : Store} : gIx (.tup [s, a, b]) (.int 2) S = some (b, S) := rfl
theorem signs3 {d : Int} (h0 : 0 ≤ d) (h1 : d < 3) (S : Store) : ∃ s : Str, Sg s ∧ gIx (.str "/>*") (.int d) S = some (.str s, S) := by
  have h : d = 0 ∨ d = 1 ∨ d = 2 := by omega
  rcases h with rfl | rfl | rfl
  · exact ⟨"/", .inl rfl, (gIx_str (c := 47) (by decide +kernel)).trans (by rw [show (⟨#[47]⟩ : Str) = "/" by decide +kernel])⟩
  · exact ⟨">", .inr (.inl rfl), (gIx_str (c := 62) (by decide +kernel)).trans (by rw [show (⟨#[62]⟩ : Str) = ">" by decide +kernel])⟩
  · exact ⟨"*", .inr (.inr rfl), (gIx_str (c := 42) (by decide +kernel)).trans (by rw [show (⟨#[42]⟩ : Str) = "*" by decide +kernel])⟩
def ins (xs : List Int) : List D := xs.map D.int
theorem ins_flat : ∀ xs : List Int, flats (ins xs) = true
  | [] => rfl
  | x :: xs => by show (true && flats (ins xs)) = true; rw [ins_flat xs]; rfl
theorem ins_len (xs : List Int) : (ins xs).length = xs.length := List.length_map ..
theorem ins_app (xs ys : List Int) : ins (xs ++ ys) = ins xs ++ ins ys := List.map_append ..
theorem ins_D : ∀ xs : List Int, intsD (ins xs) = some xs
  | [] => rfl
  | x :: xs => by show (intsD (ins xs)).map (x :: ·) = _; rw [ins_D xs]; rfl
theorem gSum_ {S : Store} {l : Nat} {xs : List Int} (h : lstAt S l = some (ins xs)) : gSum [.ref l] S = some (.int xs.sum, S) := by
  show ((lstAt S l).bind intsD).map (fun ns => (D.int ns.sum, S)) = _
  rw [h]
  show (intsD (ins xs)).map (fun ns => (D.int ns.sum, S)) = _
  rw [ins_D]
  rfl
def kds (ks : List KT) : List D := ks.map KT.d
theorem kds_flat : ∀ ks : List KT, flats (kds ks) = true
  | [] => rfl
  | k :: ks => by show (k.d.flat && flats (kds ks)) = true; rw [KT.flat k, kds_flat ks]; rfl
theorem kds_len (ks : List KT) : (kds ks).length = ks.length := List.length_map ..
theorem kds_app (ks js : List KT) : kds (ks ++ js) = kds ks ++ kds js := List.map_append ..
/-- a kind of at most 40 atoms -/
def Fit (k : KT) : Prop := k.ok AtS ∧ k.at_.length ≤ 40
theorem KTd_leaf {t : Str} : KT.d (.leaf t) = .str t := Dl.nr rfl
theorem KTd_node {s : Str} {a b : KT} : KT.d (.node s a b) = .tup [.str s, a.d, b.d] := Dl.nr rfl
theorem e1 : (("" : Str) = "/") = False := eq_false (by decide)
theorem e2 : (("" : Str) = ">") = False := eq_false (by decide)
theorem e3 : (("" : Str) = "*") = False := eq_false (by decide)
theorem q1 : (("/" : Str) = ">") = False := eq_false (by decide)
theorem q2 : (("/" : Str) = "*") = False := eq_false (by decide)
theorem q3 : ((">" : Str) = "/") = False := eq_false (by decide)
theorem q4 : ((">" : Str) = "*") = False := eq_false (by decide)
theorem q5 : (("*" : Str) = "/") = False := eq_false (by decide)
theorem q6 : (("*" : Str) = ">") = False := eq_false (by decide)
theorem flats_iff : ∀ {xs : List D}, flats xs = true ↔ ∀ x ∈ xs, x.flat = true
  | [] => ⟨fun _ x h => (nomatch h), fun _ => rfl⟩
  | x :: xs => by
    show (x.flat && flats xs) = true ↔ _
    rw [Bool.and_eq_true, flats_iff (xs := xs), List.forall_mem_cons]
theorem flats_app {xs ys : List D} (h : flats xs = true) (h2 : flats ys = true) : flats (xs ++ ys) = true := flats_iff.mpr fun x hx => by
  rcases List.mem_append.mp hx with z | z
  · exact flats_iff.mp h x z
  · exact flats_iff.mp h2 x z
theorem flats_take {xs : List D} (n : Nat) (h : flats xs = true) : flats (xs.take n) = true := flats_iff.mpr fun x hx => flats_iff.mp h x (List.mem_of_mem_take hx)
theorem flats_drop {xs : List D} (n : Nat) (h : flats xs = true) : flats (xs.drop n) = true := flats_iff.mpr fun x hx => flats_iff.mp h x (List.mem_of_mem_drop hx)
theorem flats_cons {x : D} {xs : List D} (h : x.flat = true) (h2 : flats xs = true) : flats (x :: xs) = true := flats_iff.mpr fun y hy => by
  rcases List.mem_cons.mp hy with rfl | z
  · exact h
  · exact flats_iff.mp h2 y z
theorem deps_kds : ∀ {ks : List KT} {m : Nat}, (∀ k ∈ ks, Fit k) → 40 ≤ m → deps (kds ks) ≤ m
  | [], _, _, _ => Nat.zero_le _
  | k :: ks, m, h, hm => by
    have h1 := KT.dep k
    have h2 := (h k (List.mem_cons_self ..)).2
    have h3 := deps_kds (ks := ks) (fun x hx => h x (List.mem_cons_of_mem _ hx)) hm
    show max k.d.dep (deps (kds ks)) ≤ m
    omega
theorem SOK.sx {S : Store} {L : List Cell} (h : SOK S) (hL : Dl.FL L) : SOK (Dl.sx S L) := fun c hc => by
  rcases List.mem_append.mp (show c ∈ S ++ L from hc) with z | z
  · exact cwf_mono (by rw [Dl.sx_len]; omega) (h c z)
  · exact cwf_flat (hL.mem z)
theorem gEqT {x y : List D} {S : Store} (hx : flats x = true) (hy : flats y = true) (hd : deps x ≤ 63) : gEq (.tup x) (.tup y) S = some (.bl (deqs x y), S) := gEq_flat hx hy (by show deps x + 1 ≤ 64; omega)
theorem rng_map {n : Nat} {lo : Int} {f : Nat → D} {g : D → D} (h : ∀ k, k < n → g (.int (lo + k)) = f k) : (rng lo n).map g = (List.range n).map f := by
  unfold rng
  rw [List.map_map]
  exact List.map_congr_left fun k hk => h k (List.mem_range.mp hk)
theorem deqs_ints : ∀ xs : List Int, deqs (xs.map D.int) (xs.map D.int) = true
  | [] => rfl
  | x :: xs => by show ((x == x) && deqs _ _) = true; rw [deqs_ints xs, beq_self_eq_true]; rfl
theorem ints_flat : ∀ xs : List Int, flats (xs.map D.int) = true
  | [] => rfl
  | x :: xs => by show (true && flats _) = true; rw [ints_flat xs]; rfl
theorem deps_ints : ∀ xs : List Int, deps (xs.map D.int) = 0
  | [] => rfl
  | x :: xs => by show max 0 (deps _) = 0; rw [deps_ints xs]; rfl
theorem gNe_ints {S : Store} {l r : Nat} {xs : List Int} (h1 : lstAt S l = some (xs.map D.int)) (h2 : lstAt S r = some (xs.map D.int)) : gNe (.ref l) (.ref r) S = some (.bl false, S) := by
  unfold gNe gEqB
  rw [asP_lst h1 (ints_flat xs), asP_lst h2 (ints_flat xs)]
  have e : (PyData.list (toPys (xs.map D.int))).depth ≤ 64 := by
    have q := depth_toPy (.tup (xs.map D.int))
    have q' : PyData.depthAll (toPys (xs.map D.int)) + 1 = deps (xs.map D.int) + 1 := q
    show PyData.depthAll (toPys (xs.map D.int)) + 1 ≤ 64
    rw [q', deps_ints xs]
    decide
  show Option.map _ (if (PyData.list (toPys (xs.map D.int))).depth ≤ 64 then some (PyData.eqv (.list (toPys (xs.map D.int))) (.list (toPys (xs.map D.int)))) else none) = _
  rw [if_pos e]
  show some (D.bl (!PyData.eqvAll (toPys (xs.map D.int)) (toPys (xs.map D.int))), S) = _
  rw [eqvs_toPys _ _ (ints_flat xs) (ints_flat xs), deqs_ints]
  rfl
theorem atI_mid {A B : List D} {x : D} {i : Nat} (h : A.length = i) : atI (A ++ x :: B) (i : Int) = some x := atI_nat (by rw [← h, List.getElem?_append_right (Nat.le_refl _), Nat.sub_self]; rfl)
theorem atI_mid1 {A B : List D} {x y : D} {i : Nat} (h : A.length = i) : atI (A ++ x :: y :: B) ((i : Int) + 1) = some y := by
  rw [show ((i : Int) + 1) = ((i + 1 : Nat) : Int) by omega]
  exact atI_nat (by rw [← h, List.getElem?_append_right (by omega), Nat.add_sub_cancel_left]; rfl)
theorem cut_mid1 {A B : List D} {i : Nat} (h : A.length = i) : cutD (A ++ B) none (some (i : Int)) = A := by
  rw [Dl.cut_take (by omega), Int.toNat_natCast]
  exact List.take_left' h
theorem cut_mid2 {A B : List D} {x : D} {i : Nat} (h : A.length = i) : cutD (A ++ x :: B) (some ((i : Int) + 1)) none = B := by
  rw [Dl.cut_drop (by omega), show ((i : Int) + 1).toNat = A.length + 1 by omega, ← List.drop_drop, List.drop_left' rfl]
  rfl
theorem cut_mid3 {A B : List D} {x y : D} {i : Nat} (h : A.length = i) : cutD (A ++ x :: y :: B) (some ((i : Int) + 2)) none = B := by
  rw [Dl.cut_drop (by omega), show ((i : Int) + 2).toNat = A.length + 2 by omega, ← List.drop_drop, List.drop_left' rfl]
  rfl
theorem take_mid {ks : List D} {i : Nat} {x : D} (h : ks[i]? = some x) : ks.take i ++ x :: ks.drop (i + 1) = ks := by
  have hl := get_lt h
  have e : ks.drop i = x :: ks.drop (i + 1) := by
    rw [List.drop_eq_getElem_cons hl]
    congr 1
    rw [List.getElem?_eq_getElem hl] at h
    exact Option.some.inj h
  rw [← e, List.take_append_drop]
theorem deq_self_str {d : D} {t : Str} (h : deq d (.str t) = true) : d = .str t := by
  cases d with
  | str x => exact congrArg D.str (eq_of_beq (show (x == t) = true from h))
  | _ => exact nomatch h
theorem SOK.st {S : Store} {p : Nat} {P : List D} {L : List Cell} (h : SOK S) (hP : flats P = true) (hL : Dl.FL L) : SOK (Dl.st S p P L) := fun c hc => by
  have q : SOK (S.set p (Cell.lst P)) := h.set (c := Cell.lst P) hP
  rcases List.mem_append.mp (show c ∈ S.set p (Cell.lst P) ++ L from hc) with z | z
  · exact cwf_mono (by rw [Dl.st_len, List.length_set]; omega) (q c z)
  · exact cwf_flat (hL.mem z)
theorem partL_free {c : Nat} {xs : List Nat} (h : c ∉ xs) : partL c xs = (xs, [], []) := if_neg h
theorem partL_at {c : Nat} {xs ys : List Nat} (h : c ∉ xs) : partL c (xs ++ c :: ys) = (xs, [c], ys) := by
  have hp : ∀ x ∈ xs, (x != c) = true := fun x hx => bne_iff_ne.mpr fun e => h (e ▸ hx)
  have hn : (c != c) = false := bne_self_eq_false c
  unfold partL
  rw [if_pos (List.mem_append.mpr (.inr (List.mem_cons_self ..))), List.takeWhile_append_of_pos hp, List.dropWhile_append_of_pos hp, List.takeWhile_cons_of_neg (by rw [hn]; exact Bool.false_ne_true), List.dropWhile_cons_of_neg (by rw [hn]; exact Bool.false_ne_true), List.append_nil]
  rfl
theorem str_back (x : Str) : (⟨x.cps.toList.toArray⟩ : Str) = x := by cases x with | mk a => show (⟨a.toList.toArray⟩ : Str) = _; rw [Array.toArray_toList]
theorem part_at {b : Str} {m : Int} (hb : Base b) (S : Store) : gPart (.str (atT b m)) [.str "."] S = some (.tup [.str b, .str ⟨(if m = 0 then [] else [46]).toArray⟩, .str (if m = 0 then ⟨#[]⟩ else (toString m : Str))], S) := by
  show (if ("." : Str).length = 1 then _ else none) = _
  rw [if_pos dot_len, show ("." : Str).cps.getD 0 0 = 46 by decide +kernel]
  unfold atT
  by_cases e : m = 0
  · rw [if_pos e, if_pos e, if_pos e, partL_free hb.dot]
    show some (D.tup [.str ⟨b.cps.toList.toArray⟩, _, _], S) = _
    rw [str_back]
  · rw [if_neg e, if_neg e, if_neg e, app_list, app_list, dot_list, List.append_assoc, List.singleton_append, partL_at hb.dot]
    show some (D.tup [.str ⟨b.cps.toList.toArray⟩, _, .str ⟨_⟩], S) = _
    rw [str_back]
/-! ### signs in texts -/
theorem chr_len (c : Nat) : (⟨#[c]⟩ : Str).length = 1 := rfl
theorem gIn_c {c : Nat} {b : Str} {S : Store} : gIn (.str ⟨#[c]⟩) (.str b) S = some (.bl (decide (c ∈ b.cps.toList)), S) := by
  show Option.map _ (if (⟨#[c]⟩ : Str).length = 1 then some (decide ((⟨#[c]⟩ : Str).cps.getD 0 0 ∈ b.cps.toList)) else none) = _
  rw [if_pos (chr_len c)]
  rfl
theorem gNin_c {c : Nat} {b : Str} {S : Store} : gNin (.str ⟨#[c]⟩) (.str b) S = some (.bl (!decide (c ∈ b.cps.toList)), S) := by
  show Option.map _ (if (⟨#[c]⟩ : Str).length = 1 then some (decide ((⟨#[c]⟩ : Str).cps.getD 0 0 ∈ b.cps.toList)) else none) = _
  rw [if_pos (chr_len c)]
  rfl
theorem chr_inj {a b : Nat} (h : (⟨#[a]⟩ : Str) = ⟨#[b]⟩) : a = b := by
  have := congrArg (fun s : Str => s.cps.toList) h
  exact (List.cons.inj this).1
def allC (S : Store) : Option (List Bool) → Option (D × Store)
  | some bs => some (.bl (bs.all id), S)
  | none => none
theorem gAll_r {S : Store} {l : Nat} : gAll [.ref l] S = allC S ((lstC S[l]?).bind bools) := by
  show ((lstAt S l).bind bools).map (fun bs => (D.bl (bs.all id), S)) = _
  rw [lstAt_C]
  cases (lstC S[l]?).bind bools <;> rfl
theorem allC_s {S : Store} {bs : List Bool} : allC S (some bs) = some (.bl (bs.all id), S) := Dl.nr rfl
theorem bools_true {α : Type} : ∀ xs : List α, bools (xs.map fun _ => D.bl true) = some (xs.map fun _ => true)
  | [] => rfl
  | x :: xs => by show (bools (xs.map fun _ => D.bl true)).map (true :: ·) = _; rw [bools_true xs]; rfl
theorem all_true {α : Type} : ∀ xs : List α, ((xs.map fun _ => true).all id) = true
  | [] => rfl
  | x :: xs => by show (true && (xs.map fun _ => true).all id) = true; rw [all_true xs]; rfl
theorem chars_map {x : Str} : (x.cps.toList.map fun c => D.str ⟨#[c]⟩).map (fun _ => D.bl true) = (x.cps.toList.map fun _ => D.bl true) := by rw [List.map_map]; rfl
theorem num_head {m : Int} (h0 : 0 < m) : ∃ c, (toString m : Str).cps.toList[0]? = some c ∧ c ≠ 48 := by
  rw [num_list (by omega)]
  exact dig_head m.toNat (by omega)
end Lw

set_option Elab.async false
set_option linter.all false
set_option maxRecDepth 100000
namespace Lw
open PySem L2 Dl
/-! ## names of rules -/
theorem r_ax_or : (("axiom" : Str) = "over right") = False := eq_false (by decide)
theorem r_ax_ur : (("axiom" : Str) = "under right") = False := eq_false (by decide)
theorem r_ax_pr : (("axiom" : Str) = "pair right") = False := eq_false (by decide)
theorem r_ax_ol : (("axiom" : Str) = "over left") = False := eq_false (by decide)
theorem r_ax_ul : (("axiom" : Str) = "under left") = False := eq_false (by decide)
theorem r_ax_pl : (("axiom" : Str) = "pair left") = False := eq_false (by decide)
theorem r_ax_ct : (("axiom" : Str) = "cut") = False := eq_false (by decide)
theorem r_or_ax : (("over right" : Str) = "axiom") = False := eq_false (by decide)
theorem r_or_ur : (("over right" : Str) = "under right") = False := eq_false (by decide)
theorem r_or_pr : (("over right" : Str) = "pair right") = False := eq_false (by decide)
theorem r_or_ol : (("over right" : Str) = "over left") = False := eq_false (by decide)
theorem r_or_ul : (("over right" : Str) = "under left") = False := eq_false (by decide)
theorem r_or_pl : (("over right" : Str) = "pair left") = False := eq_false (by decide)
theorem r_or_ct : (("over right" : Str) = "cut") = False := eq_false (by decide)
theorem r_ur_ax : (("under right" : Str) = "axiom") = False := eq_false (by decide)
theorem r_ur_or : (("under right" : Str) = "over right") = False := eq_false (by decide)
theorem r_ur_pr : (("under right" : Str) = "pair right") = False := eq_false (by decide)
theorem r_ur_ol : (("under right" : Str) = "over left") = False := eq_false (by decide)
theorem r_ur_ul : (("under right" : Str) = "under left") = False := eq_false (by decide)
theorem r_ur_pl : (("under right" : Str) = "pair left") = False := eq_false (by decide)
theorem r_ur_ct : (("under right" : Str) = "cut") = False := eq_false (by decide)
theorem r_pr_ax : (("pair right" : Str) = "axiom") = False := eq_false (by decide)
theorem r_pr_or : (("pair right" : Str) = "over right") = False := eq_false (by decide)
theorem r_pr_ur : (("pair right" : Str) = "under right") = False := eq_false (by decide)
theorem r_pr_ol : (("pair right" : Str) = "over left") = False := eq_false (by decide)
theorem r_pr_ul : (("pair right" : Str) = "under left") = False := eq_false (by decide)
theorem r_pr_pl : (("pair right" : Str) = "pair left") = False := eq_false (by decide)
theorem r_pr_ct : (("pair right" : Str) = "cut") = False := eq_false (by decide)
theorem r_ol_ax : (("over left" : Str) = "axiom") = False := eq_false (by decide)
theorem r_ol_or : (("over left" : Str) = "over right") = False := eq_false (by decide)
theorem r_ol_ur : (("over left" : Str) = "under right") = False := eq_false (by decide)
theorem r_ol_pr : (("over left" : Str) = "pair right") = False := eq_false (by decide)
theorem r_ol_ul : (("over left" : Str) = "under left") = False := eq_false (by decide)
theorem r_ol_pl : (("over left" : Str) = "pair left") = False := eq_false (by decide)
theorem r_ol_ct : (("over left" : Str) = "cut") = False := eq_false (by decide)
theorem r_ul_ax : (("under left" : Str) = "axiom") = False := eq_false (by decide)
theorem r_ul_or : (("under left" : Str) = "over right") = False := eq_false (by decide)
theorem r_ul_ur : (("under left" : Str) = "under right") = False := eq_false (by decide)
theorem r_ul_pr : (("under left" : Str) = "pair right") = False := eq_false (by decide)
theorem r_ul_ol : (("under left" : Str) = "over left") = False := eq_false (by decide)
theorem r_ul_pl : (("under left" : Str) = "pair left") = False := eq_false (by decide)
theorem r_ul_ct : (("under left" : Str) = "cut") = False := eq_false (by decide)
theorem r_pl_ax : (("pair left" : Str) = "axiom") = False := eq_false (by decide)
theorem r_pl_or : (("pair left" : Str) = "over right") = False := eq_false (by decide)
theorem r_pl_ur : (("pair left" : Str) = "under right") = False := eq_false (by decide)
theorem r_pl_pr : (("pair left" : Str) = "pair right") = False := eq_false (by decide)
theorem r_pl_ol : (("pair left" : Str) = "over left") = False := eq_false (by decide)
theorem r_pl_ul : (("pair left" : Str) = "under left") = False := eq_false (by decide)
theorem r_pl_ct : (("pair left" : Str) = "cut") = False := eq_false (by decide)
theorem r_ct_ax : (("cut" : Str) = "axiom") = False := eq_false (by decide)
theorem r_ct_or : (("cut" : Str) = "over right") = False := eq_false (by decide)
theorem r_ct_ur : (("cut" : Str) = "under right") = False := eq_false (by decide)
theorem r_ct_pr : (("cut" : Str) = "pair right") = False := eq_false (by decide)
theorem r_ct_ol : (("cut" : Str) = "over left") = False := eq_false (by decide)
theorem r_ct_ul : (("cut" : Str) = "under left") = False := eq_false (by decide)
theorem r_ct_pl : (("cut" : Str) = "pair left") = False := eq_false (by decide)
/-! ## x in a list of texts -/
def strsD : List D → Option (List Str)
  | [] => some []
  | .str a :: r => (strsD r).map (a :: ·)
  | _ :: _ => none
theorem strsD_flat : ∀ {ys : List D} {xs : List Str}, strsD ys = some xs → flats ys = true ∧ ∀ t : Str, (ys.any fun y => deq y (.str t)) = xs.any (· == t)
  | [], xs, h => by cases h; exact ⟨rfl, fun t => rfl⟩
  | .str a :: r, xs, h => by
    have h : (strsD r).map (a :: ·) = some xs := h
    cases e : strsD r with
    | none => rw [e] at h; exact nomatch h
    | some zs =>
      rw [e] at h
      cases h
      obtain ⟨h1, h2⟩ := strsD_flat e
      refine ⟨by show (true && flats r) = true; rw [h1]; rfl, fun t => ?_⟩
      rw [List.any_cons, List.any_cons, h2 t]
      rfl
  | .non :: _, _, h => nomatch h
  | .bl _ :: _, _, h => nomatch h
  | .int _ :: _, _, h => nomatch h
  | .tup _ :: _, _, h => nomatch h
  | .ref _ :: _, _, h => nomatch h
  | .raw _ :: _, _, h => nomatch h
theorem gIn_strs {S : Store} {l : Nat} {ys : List D} {xs : List Str} {t : Str} (h : S[l]? = some (.lst ys)) (hs : strsD ys = some xs) : gIn (.str t) (.ref l) S = some (.bl (xs.any (· == t)), S) := by
  obtain ⟨h1, h2⟩ := strsD_flat hs
  show Option.map _ (match lstAt S l with
    | some ys => if (D.str t).flat && flats ys && decide ((D.str t).dep ≤ 64) then some (ys.any fun y => deq y (.str t)) else none
    | none => none) = _
  rw [lstAt_lst h]
  simp only [h1, h2 t]
  rfl
theorem gNin_strs {S : Store} {l : Nat} {ys : List D} {xs : List Str} {t : Str} (h : S[l]? = some (.lst ys)) (hs : strsD ys = some xs) : gNin (.str t) (.ref l) S = some (.bl (!xs.any (· == t)), S) := by
  obtain ⟨h1, h2⟩ := strsD_flat hs
  show Option.map _ (match lstAt S l with
    | some ys => if (D.str t).flat && flats ys && decide ((D.str t).dep ≤ 64) then some (ys.any fun y => deq y (.str t)) else none
    | none => none) = _
  rw [lstAt_lst h]
  simp only [h1, h2 t]
  rfl
theorem gInt_bl {b : Bool} {S : Store} : gInt [.bl b] S = some (.int (if b then 1 else 0), S) := Dl.nr rfl
theorem gIs_tn {xs : List D} {S : Store} : gIs (.tup xs) .non S = some (.bl false, S) := Dl.nr rfl
theorem gIs_nn {S : Store} : gIs .non .non S = some (.bl true, S) := Dl.nr rfl
theorem gIsN_tn {xs : List D} {S : Store} : gIsN (.tup xs) .non S = some (.bl true, S) := Dl.nr rfl
theorem gIsN_nn {S : Store} : gIsN .non .non S = some (.bl false, S) := Dl.nr rfl
theorem count_atom {b : Str} {m : Int} (hb : Base b) (h0 : 0 < m) : Txt.count (atT b m) "." = 1 := by
  unfold atT
  rw [if_neg (by omega), dot_, PyProof.Rows.count_cnt, app_list, app_list, PyProof.Rows.cnt_append, PyProof.Rows.cnt_append, PyProof.Rows.cnt_none _ _ hb.dot, PyProof.Rows.cnt_none _ _ (num_dot (by omega))]
  show 0 + PyProof.Rows.cnt 46 [46] + 0 = 1
  rw [PyProof.Rows.cnt_cons, PyProof.Rows.cnt_nil]
  simp
theorem gCountS_ {a b : Str} {S : Store} : gCountS (.str a) [.str b] S = some (.int (Txt.count a b), S) := Dl.nr rfl
/-- what stands behind the dot -/
theorem tail_at {b : Str} {m : Int} (hm : m ≠ 0) : cutS (atT b m) (some ((b.length : Int) + 1)) none = (toString m : Str) := by
  have hl : (atT b m).cps.toList = b.cps.toList ++ 46 :: (toString m : Str).cps.toList := by
    unfold atT
    rw [if_neg hm, app_list, app_list, dot_list, List.append_assoc]
    rfl
  have h2 : (atT b m).length = b.length + 1 + (toString m : Str).length := by
    rw [← len_list, hl, List.length_append, List.length_cons, len_list, len_list]; omega
  have s1 : HT.sIx (atT b m).length 0 (some ((b.length : Int) + 1)) = b.length + 1 := by
    unfold HT.sIx
    simp only
    rw [if_neg (by omega)]
    omega
  have s2 : HT.sIx (atT b m).length (atT b m).length none = (atT b m).length := rfl
  unfold cutS
  apply ext_list
  rw [s1, s2]
  show List.take _ (List.drop (b.length + 1) (atT b m).cps.toList) = _
  rw [hl, ← List.drop_drop, List.drop_left' (len_list b)]
  show List.take _ (List.drop 1 (46 :: (toString m : Str).cps.toList)) = _
  rw [List.drop_succ_cons, List.drop_zero, List.take_of_length_le]
  rw [len_list]; omega
/-- a comprehension that keeps nothing -/
theorem comp_skip {l : Nat} {ρ : Dl.Env} {g : Cg} {ft : TX} {fe : EX} {k : Chk} {T : Store} (hk : chkOk k T) : ∀ ds : List D, (∀ d ∈ ds, ∃ ρ1, g.put d ρ = some ρ1 ∧ ft ρ1 T = .ok false T) → runC l ρ g ft fe k ds T = .ok (.ref l) T
  | [], _ => by unfold runC; rw [if_pos hk]
  | d :: ds, h => by
    obtain ⟨ρ1, h1, h2⟩ := h d (List.mem_cons_self ..)
    unfold runC
    rw [if_pos hk]
    simp only [h1, h2]
    exact comp_skip hk ds fun x hx => h x (List.mem_cons_of_mem _ hx)
mutual
theorem deq_refl : ∀ {d : D}, d.flat = true → deq d d = true
  | .non, _ => rfl
  | .bl b, _ => beq_self_eq_true b
  | .int i, _ => beq_self_eq_true i
  | .str t, _ => beq_self_eq_true t
  | .tup xs, h => deqs_refl (show flats xs = true from h)
  | .ref _, h => nomatch h
  | .raw _, h => nomatch h
theorem deqs_refl : ∀ {ds : List D}, flats ds = true → deqs ds ds = true
  | [], _ => rfl
  | d :: ds, h => by
    have h' : (d.flat && flats ds) = true := h
    rw [Bool.and_eq_true] at h'
    show (deq d d && deqs ds ds) = true
    rw [deq_refl h'.1, deqs_refl h'.2]
    rfl
end
theorem gEq_refl {d : D} {S : Store} (hf : d.flat = true) (hd : d.dep ≤ 64) : gEq d d S = some (.bl true, S) := by rw [gEq_flat hf hf hd, deq_refl hf]
theorem gNe_refl {d : D} {S : Store} (hf : d.flat = true) (hd : d.dep ≤ 64) : gNe d d S = some (.bl false, S) := by rw [gNe_flat hf hf hd, deq_refl hf]; rfl
theorem gNeW_refl {lim : Nat} {d : D} {S : Store} (hf : d.flat = true) (hd : d.dep ≤ lim) : gNeW lim d d S = some (.bl false, S) := by rw [gNeW_flat hf hf hd, deq_refl hf]; rfl
theorem gEqW_refl {lim : Nat} {d : D} {S : Store} (hf : d.flat = true) (hd : d.dep ≤ lim) : gEqW lim d d S = some (.bl true, S) := by rw [gEqW_flat hf hf hd, deq_refl hf]
end Lw

set_option Elab.async false
set_option linter.all false
set_option maxRecDepth 100000
namespace Lw
open PySem L2 Dl
/-! ## a comprehension over the image of a list -/
section
variable {S : Store} {ρ : Dl.Env} {g : Cg} {fe : EX} {k : Chk} {L : List Cell} {m : Nat}
theorem compA {α : Type} (ds : List α) (f val : α → D) (hz : ds.length ≤ 1000000) (hL : L[m]? = some (.lst [])) (hk : ∀ a, chkOk k (Dl.sx S (L.set m (.lst a))))
    (hv : ∀ d, (val d).flat = true) (h : ∀ d ∈ ds, ∃ ρ1, g.put (f d) ρ = some ρ1 ∧ ∀ a, flats a = true → fe ρ1 (Dl.sx S (L.set m (.lst a))) = .ok (val d) (Dl.sx S (L.set m (.lst a)))) :
    runC (S.length + m) ρ g tYesD fe k (ds.map f) (Dl.sx S L) = .ok (.ref (S.length + m)) (Dl.sx S (L.set m (.lst (ds.map val)))) := by
  have hm := (List.getElem?_eq_some_iff.mp hL).1
  have e0 : L.set m (.lst []) = L := by
    apply List.ext_getElem?
    intro i
    by_cases e : m = i
    · subst e; rw [List.getElem?_set_self hm, hL]
    · rw [List.getElem?_set_ne e]
  have len : (ds.map f).length = ds.length := List.length_map ..
  obtain ⟨acc, T, h1, h2, ⟨rfl, rfl⟩, e⟩ := compQ (l := S.length + m) (ρ := ρ) (g := g) (ft := tYesD) (fe := fe) (k := k) (fun j acc T => acc = (ds.take j).map val ∧ T = Dl.sx S (L.set m (.lst acc))) (all := ds.map f) (by rw [len]; exact hz) (fun j d acc T hd ha hT hI => by
    obtain ⟨rfl, rfl⟩ := hI
    rw [List.getElem?_map] at hd
    obtain ⟨x, hx, rfl⟩ := Option.map_eq_some_iff.mp hd
    obtain ⟨ρ1, q1, q2⟩ := h x (List.mem_of_getElem? hx)
    refine ⟨hk _, ρ1, q1, true, _, rfl, hT, (fun z => nomatch z), fun _ => ⟨_, _, q2 _ (flats_iff.mpr fun y hy => by
      obtain ⟨z, _, rfl⟩ := List.mem_map.mp hy
      exact hv z), hT, ?_, ?_⟩⟩
    · rw [List.take_succ, hx, List.map_append]
      rfl
    · rw [Dl.sx_set_k, List.set_set]) (fun acc T hI => by rw [hI.2]; exact hk _) (ds.map f) 0 [] (Dl.sx S L) rfl (Nat.zero_add _) (Nat.le_refl _) (by rw [Dl.sx_k]; exact hL) ⟨rfl, by rw [e0]⟩
  rw [e, len, List.take_length]
theorem compF {ft : TX} {α : Type} (ds : List α) (f val : α → D) (b : α → Bool) (hz : ds.length ≤ 1000000) (hL : L[m]? = some (.lst [])) (hk : ∀ a, chkOk k (Dl.sx S (L.set m (.lst a))))
    (hv : ∀ d, (val d).flat = true) (h : ∀ d ∈ ds, ∃ ρ1, g.put (f d) ρ = some ρ1 ∧ ∀ a, flats a = true → ft ρ1 (Dl.sx S (L.set m (.lst a))) = .ok (b d) (Dl.sx S (L.set m (.lst a))) ∧ (b d = true → fe ρ1 (Dl.sx S (L.set m (.lst a))) = .ok (val d) (Dl.sx S (L.set m (.lst a))))) :
    runC (S.length + m) ρ g ft fe k (ds.map f) (Dl.sx S L) = .ok (.ref (S.length + m)) (Dl.sx S (L.set m (.lst ((ds.filter b).map val)))) := by
  have hm := (List.getElem?_eq_some_iff.mp hL).1
  have e0 : L.set m (.lst []) = L := by
    apply List.ext_getElem?
    intro i
    by_cases e : m = i
    · subst e; rw [List.getElem?_set_self hm, hL]
    · rw [List.getElem?_set_ne e]
  have len : (ds.map f).length = ds.length := List.length_map ..
  obtain ⟨acc, T, h1, h2, ⟨rfl, rfl⟩, e⟩ := compQ (l := S.length + m) (ρ := ρ) (g := g) (ft := ft) (fe := fe) (k := k) (fun j acc T => acc = ((ds.take j).filter b).map val ∧ T = Dl.sx S (L.set m (.lst acc))) (all := ds.map f) (by rw [len]; exact hz) (fun j d acc T hd ha hT hI => by
    obtain ⟨rfl, rfl⟩ := hI
    rw [List.getElem?_map] at hd
    obtain ⟨x, hx, rfl⟩ := Option.map_eq_some_iff.mp hd
    obtain ⟨ρ1, q1, q2⟩ := h x (List.mem_of_getElem? hx)
    have fl : flats (((ds.take j).filter b).map val) = true := flats_iff.mpr fun y hy => by
      obtain ⟨z, _, rfl⟩ := List.mem_map.mp hy
      exact hv z
    obtain ⟨q3, q4⟩ := q2 _ fl
    refine ⟨hk _, ρ1, q1, b x, _, q3, hT, fun z => ⟨?_, rfl⟩, fun z => ⟨_, _, q4 z, hT, ?_, ?_⟩⟩
    · rw [List.take_succ, hx, List.filter_append, show (some x).toList = [x] from rfl, List.filter_cons_of_neg (by rw [z]; exact Bool.false_ne_true), List.filter_nil, List.append_nil]
    · rw [List.take_succ, hx, List.filter_append, show (some x).toList = [x] from rfl, List.filter_cons_of_pos z, List.filter_nil, List.map_append]
      rfl
    · rw [Dl.sx_set_k, List.set_set]) (fun acc T hI => by rw [hI.2]; exact hk _) (ds.map f) 0 [] (Dl.sx S L) rfl (Nat.zero_add _) (Nat.le_refl _) (by rw [Dl.sx_k]; exact hL) ⟨rfl, by rw [e0]⟩
  rw [e, len, List.take_length]
theorem compA0 {α : Type} (ds : List α) (f val : α → D) (hz : ds.length ≤ 1000000) (hk : ∀ a, chkOk k (Dl.sx S (.lst a :: L)))
    (hv : ∀ d, (val d).flat = true) (h : ∀ d ∈ ds, ∃ ρ1, g.put (f d) ρ = some ρ1 ∧ ∀ a, flats a = true → fe ρ1 (Dl.sx S (.lst a :: L)) = .ok (val d) (Dl.sx S (.lst a :: L))) :
    runC S.length ρ g tYesD fe k (ds.map f) (Dl.sx S (.lst [] :: L)) = .ok (.ref S.length) (Dl.sx S (.lst (ds.map val) :: L)) := compA (m := 0) (L := .lst [] :: L) ds f val hz rfl hk hv h
end
section
variable {T : Store} {p : Nat} {P : List D} {ρ : Dl.Env} {g : Cg} {fe : EX} {k : Chk} {L : List Cell} {m : Nat}
theorem compS {α : Type} (ds : List α) (f val : α → D) (hz : ds.length ≤ 1000000) (hL : L[m]? = some (.lst [])) (hk : ∀ a, chkOk k (Dl.st T p P (L.set m (.lst a))))
    (hv : ∀ d, (val d).flat = true) (h : ∀ d ∈ ds, ∃ ρ1, g.put (f d) ρ = some ρ1 ∧ ∀ a, flats a = true → fe ρ1 (Dl.st T p P (L.set m (.lst a))) = .ok (val d) (Dl.st T p P (L.set m (.lst a)))) :
    runC (T.length + m) ρ g tYesD fe k (ds.map f) (Dl.st T p P L) = .ok (.ref (T.length + m)) (Dl.st T p P (L.set m (.lst (ds.map val)))) := by
  have e := compA (S := T.set p (.lst P)) (m := m) (L := L) (ρ := ρ) (g := g) (fe := fe) (k := k) ds f val hz hL hk hv h
  rw [List.length_set] at e
  exact e
theorem compFS {ft : TX} {α : Type} (ds : List α) (f val : α → D) (b : α → Bool) (hz : ds.length ≤ 1000000) (hL : L[m]? = some (.lst [])) (hk : ∀ a, chkOk k (Dl.st T p P (L.set m (.lst a))))
    (hv : ∀ d, (val d).flat = true) (h : ∀ d ∈ ds, ∃ ρ1, g.put (f d) ρ = some ρ1 ∧ ∀ a, flats a = true → ft ρ1 (Dl.st T p P (L.set m (.lst a))) = .ok (b d) (Dl.st T p P (L.set m (.lst a))) ∧ (b d = true → fe ρ1 (Dl.st T p P (L.set m (.lst a))) = .ok (val d) (Dl.st T p P (L.set m (.lst a))))) :
    runC (T.length + m) ρ g ft fe k (ds.map f) (Dl.st T p P L) = .ok (.ref (T.length + m)) (Dl.st T p P (L.set m (.lst ((ds.filter b).map val)))) := by
  have e := compF (S := T.set p (.lst P)) (m := m) (L := L) (ρ := ρ) (g := g) (ft := ft) (fe := fe) (k := k) ds f val b hz hL hk hv h
  rw [List.length_set] at e
  exact e
end
theorem intsD_map {α : Type} (f : α → Int) : ∀ xs : List α, intsD (xs.map fun x => D.int (f x)) = some (xs.map f)
  | [] => rfl
  | x :: xs => by
    show (intsD (xs.map fun x => D.int (f x))).map (f x :: ·) = _
    rw [intsD_map f xs]
    rfl
theorem maxL_ge : ∀ {xs : List Int}, ∀ x ∈ xs, x ≤ maxL xs
  | [], x, h => nomatch h
  | [a], x, h => by rw [List.mem_singleton.mp h]; exact Int.le_refl _
  | a :: b :: r, x, h => by
    show x ≤ (if maxL (b :: r) < a then a else maxL (b :: r))
    rcases List.mem_cons.mp h with rfl | h
    · split <;> omega
    · have := maxL_ge x h
      split <;> omega
theorem bools_map {α : Type} (f : α → Bool) : ∀ xs : List α, bools (xs.map fun x => D.bl (f x)) = some (xs.map f)
  | [] => rfl
  | x :: xs => by
    show (bools (xs.map fun x => D.bl (f x))).map (f x :: ·) = _
    rw [bools_map f xs]
    rfl
theorem all_id {α : Type} (f : α → Bool) (xs : List α) : (xs.map f).all id = xs.all f := by rw [List.all_map]; rfl
def sz (k : KT) : Int := k.at_.length
def szs (js : List KT) : Int := (js.map sz).sum
theorem szs_app (a b : List KT) : szs (a ++ b) = szs a + szs b := by unfold szs; rw [List.map_append, List.sum_append]
theorem szs_cons (k : KT) (b : List KT) : szs (k :: b) = sz k + szs b := by unfold szs; rw [List.map_cons, List.sum_cons]
theorem szs_nil : szs [] = 0 := rfl
theorem sz_pos (k : KT) : 1 ≤ sz k := by have := KT.pos k; unfold sz; omega
theorem sz_node (s : Str) (a b : KT) : sz (.node s a b) = sz a + sz b := by unfold sz; rw [KT.len_node]; omega
theorem cutA {α : Type} {A X : List α} {k : Int} (h : k = A.length) : cutD (A ++ X) none (some k) = A := by
  rw [h, cut_take (by omega), Int.toNat_natCast, List.take_left]
theorem cutB {α : Type} {A X : List α} {k : Int} (h : k = A.length) : cutD (A ++ X) (some k) none = X := by
  rw [h, cut_drop (by omega), Int.toNat_natCast, List.drop_left]
theorem cutM {α : Type} {A M B : List α} {j k : Int} (h : j = A.length) (h2 : k = A.length + M.length) : cutD (A ++ (M ++ B)) (some j) (some k) = M := by
  rw [cut_mid (by omega) (by omega) (by rw [List.length_append, List.length_append]; omega)]
  rw [show j.toNat = A.length by omega, List.drop_left, show k.toNat - A.length = M.length by omega, List.take_left]
theorem mid_js {α : Type} {js : List α} {a : Int} (h0 : 0 ≤ a) (h1 : a < (js.length : Int)) : ∃ A K B, js = A ++ K :: B ∧ a = A.length := by
  have h2 : a.toNat < js.length := by omega
  refine ⟨js.take a.toNat, js[a.toNat], js.drop (a.toNat + 1), ?_, by rw [List.length_take]; omega⟩
  rw [List.getElem_cons_drop, List.take_append_drop]
theorem Q_keep {n : Nat} {xs : List D} {S : Store} {Q : R D → Prop} (h : D.wf n (.tup xs) = false) (hq : Q (.ok (.tup xs) S)) : Q (cmp n (.tup xs) S) := by
  have e : cmp n (.tup xs) S = .ok (.tup xs) S := by
    unfold cmp
    rw [h]
    split <;> rfl
  rw [e]; exact hq
theorem SOK.stw {S : Store} {p : Nat} {P : List D} {L : List Cell} (h : SOK S) (hP : flats P = true) (hL : ∀ c ∈ L, Cell.wf (S.length + L.length) c = true) : SOK (Dl.st S p P L) := fun c hc => by
  have q : SOK (S.set p (Cell.lst P)) := h.set (c := Cell.lst P) hP
  rcases List.mem_append.mp (show c ∈ S.set p (Cell.lst P) ++ L from hc) with z | z
  · exact cwf_mono (by rw [Dl.st_len, List.length_set]; omega) (q c z)
  · rw [Dl.st_len]; exact hL c z
end Lw

set_option Elab.async false
set_option linter.all false
set_option maxRecDepth 100000
namespace Lw
open PySem L2 Dl
/-! ## the length of a repr -/
mutual
def cst : D → Nat
  | .str x => 10 * x.length + 2
  | .int _ => 10
  | .tup xs => csts xs + 4
  | _ => 5
def csts : List D → Nat
  | [] => 0
  | x :: xs => cst x + 2 + csts xs
end
mutual
/-- made of short texts, small numbers, tuples -/
def Shw : D → Prop
  | .str x => ∀ c ∈ x.cps.toList, c < 128
  | .int i => i.natAbs ≤ 1000
  | .tup xs => Shws xs
  | .non => True
  | .bl _ => True
  | _ => False
def Shws : List D → Prop
  | [] => True
  | x :: xs => Shw x ∧ Shws xs
end
theorem len_small {i : Int} (h : i.natAbs ≤ 1000) : (toString i : Str).length ≤ 10 := by
  have : ∀ k : Nat, k ≤ 1000 → (toString (k : Int) : Str).length ≤ 10 ∧ (toString (-(k : Int)) : Str).length ≤ 10 := by decide +kernel
  rcases Int.natAbs_eq i with e | e
  · rw [e]; exact (this _ h).1
  · rw [e]; exact (this _ h).2
theorem log_small' {i : Int} (h : i.natAbs ≤ 1000) : i.natAbs.log2 < 1920 := by
  by_cases e : i.natAbs = 0
  · rw [e]; decide
  · have : i.natAbs.log2 < 20 := (Nat.log2_lt e).mpr (by omega)
    omega
theorem tup_text_len (ts : List Str) : (tupleText ts).length ≤ piled ts + 2 := fmt_text ts
mutual
theorem shw_len : ∀ {d : D}, Shw d → (toPy d).shown.length ≤ cst d
  | .str x, h => StrLaws.reprText_len x fun c hc => Nat.lt_trans (h c hc) (by decide)
  | .int i, h => len_small h
  | .non, _ => by decide +kernel
  | .bl true, _ => by decide +kernel
  | .bl false, _ => by decide +kernel
  | .tup xs, h => by
    have h1 := shws_len (xs := xs) h
    have h2 := tup_text_len (PyData.shownAll (toPys xs))
    show (tupleText (PyData.shownAll (toPys xs))).length ≤ csts xs + 4
    omega
theorem shws_len : ∀ {xs : List D}, Shws xs → piled (PyData.shownAll (toPys xs)) ≤ csts xs
  | [], _ => Nat.le_refl _
  | x :: xs, h => by
    have h1 := shw_len (d := x) h.1
    have h2 := shws_len (xs := xs) h.2
    show piled ((toPy x).shown :: PyData.shownAll (toPys xs)) ≤ cst x + 2 + csts xs
    rw [piled_cons]
    omega
end
mutual
theorem shw_able : ∀ {d : D}, Shw d → (toPy d).showable = true ∧ (toPy d).hasDict = false ∧ d.flat = true
  | .str x, h => ⟨rfl, rfl, rfl⟩
  | .int i, h => ⟨decide_eq_true (log_small' h), rfl, rfl⟩
  | .non, _ => ⟨rfl, rfl, rfl⟩
  | .bl _, _ => ⟨rfl, rfl, rfl⟩
  | .tup xs, h => shws_able (xs := xs) h
theorem shws_able : ∀ {xs : List D}, Shws xs → PyData.showableAll (toPys xs) = true ∧ PyData.hasDictAll (toPys xs) = false ∧ flats xs = true
  | [], _ => ⟨rfl, rfl, rfl⟩
  | x :: xs, h => by
    obtain ⟨a1, a2, a3⟩ := shw_able (d := x) h.1
    obtain ⟨b1, b2, b3⟩ := shws_able (xs := xs) h.2
    refine ⟨?_, ?_, ?_⟩
    · show ((toPy x).showable && _) = true; rw [a1, b1]; rfl
    · show ((toPy x).hasDict || _) = false; rw [a2, b2]; rfl
    · show (x.flat && _) = true; rw [a3, b3]; rfl
end
/-- its repr -/
theorem gRepr_ {lim : Nat} {d : D} {S : Store} (h : Shw d) (hd : d.dep + 1 ≤ lim) (hl : cst d ≤ 16777216) : gRepr lim [d] S = some (.str (toPy d).shown, S) := by
  obtain ⟨h1, h2, h3⟩ := shw_able h
  have h4 := shw_len h
  have h5 : (toPy d).depth = d.dep := depth_toPy d
  unfold gRepr
  simp only [asP_flat h3]
  rw [if_pos ⟨by omega, h1, h2, by omega⟩]
theorem csts_app (a b : List D) : csts (a ++ b) = csts a + csts b := by
  induction a with
  | nil => show csts b = 0 + csts b; omega
  | cons x a ih => show cst x + 2 + csts (a ++ b) = cst x + 2 + csts a + csts b; omega
theorem shws_mem : ∀ {xs : List D} {d : D}, Shws xs → d ∈ xs → Shw d
  | x :: xs, d, h, hd => by
    rcases List.mem_cons.mp hd with rfl | z
    · exact h.1
    · exact shws_mem h.2 z
theorem shws_of : ∀ {xs : List D}, (∀ d ∈ xs, Shw d) → Shws xs
  | [], _ => trivial
  | x :: xs, h => ⟨h x (List.mem_cons_self ..), shws_of fun d hd => h d (List.mem_cons_of_mem _ hd)⟩
end Lw

set_option Elab.async false
set_option linter.all false
set_option maxRecDepth 100000
namespace Lw
open PySem L2 Dl
/-! ## derivations as trees -/
inductive DT where
  | st (rule : Str) (row : List KT) (g : KT) (a w : Int) (ps : List DT)
namespace DT
def rule : DT → Str | st r _ _ _ _ _ => r
def row : DT → List KT | st _ r _ _ _ _ => r
def g : DT → KT | st _ _ g _ _ _ => g
def a : DT → Int | st _ _ _ a _ _ => a
def w : DT → Int | st _ _ _ _ w _ => w
def ps : DT → List DT | st _ _ _ _ _ ps => ps
end DT
mutual
def DT.d : DT → D
  | .st r row g a w ps => .tup [.str r, .tup (kds row), g.d, .int a, .int w, .tup (dtds ps)]
def dtds : List DT → List D
  | [] => []
  | p :: ps => p.d :: dtds ps
end
mutual
def DT.cnt : DT → Nat
  | .st _ _ _ _ _ ps => 1 + cnts ps
def cnts : List DT → Nat
  | [] => 0
  | p :: ps => p.cnt + cnts ps
end
mutual
def DT.dp : DT → Nat
  | .st _ _ _ _ _ ps => 1 + dps ps
def dps : List DT → Nat
  | [] => 0
  | p :: ps => max p.dp (dps ps)
end
theorem dtds_map : ∀ ps : List DT, dtds ps = ps.map DT.d
  | [] => rfl
  | p :: ps => by rw [List.map_cons, ← dtds_map ps]; rfl
theorem dtds_app (a b : List DT) : dtds (a ++ b) = dtds a ++ dtds b := by rw [dtds_map, dtds_map, dtds_map, List.map_append]
theorem dtds_len (a : List DT) : (dtds a).length = a.length := by rw [dtds_map, List.length_map]
theorem cnts_app (a b : List DT) : cnts (a ++ b) = cnts a + cnts b := by
  induction a with
  | nil => show cnts b = 0 + cnts b; omega
  | cons x a ih => show x.cnt + cnts (a ++ b) = x.cnt + cnts a + cnts b; omega
theorem dps_mem : ∀ {ps : List DT} {p : DT}, p ∈ ps → p.dp ≤ dps ps
  | q :: ps, p, h => by
    show p.dp ≤ max q.dp (dps ps)
    rcases List.mem_cons.mp h with rfl | z
    · exact Nat.le_max_left ..
    · exact Nat.le_trans (dps_mem z) (Nat.le_max_right ..)
theorem DT.d_eq (t : DT) : t.d = .tup [.str t.rule, .tup (kds t.row), t.g.d, .int t.a, .int t.w, .tup (dtds t.ps)] := by cases t; rfl
theorem DT.cnt_eq (t : DT) : t.cnt = 1 + cnts t.ps := by cases t; rfl
theorem DT.dp_eq (t : DT) : t.dp = 1 + dps t.ps := by cases t; rfl
mutual
theorem DT.flat : ∀ t : DT, t.d.flat = true
  | .st r row g a w ps => by
    show (true && (flats (kds row) && (g.d.flat && (true && (true && (flats (dtds ps) && true)))))) = true
    rw [kds_flat, KT.flat, dtds_flat]; rfl
theorem dtds_flat : ∀ ps : List DT, flats (dtds ps) = true
  | [] => rfl
  | p :: ps => by show (p.d.flat && flats (dtds ps)) = true; rw [DT.flat p, dtds_flat ps]; rfl
end
/-- it is a rule's step over its parts -/
inductive Shape (P : Str → Prop) : DT → Prop
  | ax {t : Str} : P t → Shape P (.st "axiom" [.leaf t] (.leaf t) 0 0 [])
  | or {p : DT} {A : List KT} {b : KT} : p.row = A ++ [b] → A ≠ [] → Shape P (.st "over right" A (.node "/" p.g b) 0 0 [p])
  | ur {p : DT} {A : List KT} {b : KT} : p.row = b :: A → A ≠ [] → Shape P (.st "under right" A (.node ">" b p.g) 0 0 [p])
  | pr {p q : DT} : Shape P (.st "pair right" (p.row ++ q.row) (.node "*" p.g q.g) p.row.length 0 [p, q])
  | ol {p q : DT} {A B : List KT} {K : KT} : q.row = A ++ K :: B → Shape P (.st "over left" (A ++ .node "/" K p.g :: (p.row ++ B)) q.g A.length p.row.length [p, q])
  | ul {p q : DT} {A B : List KT} {K : KT} {x : Int} : q.row = A ++ K :: B → x = A.length + p.row.length → Shape P (.st "under left" (A ++ (p.row ++ .node ">" p.g K :: B)) q.g x p.row.length [p, q])
  | pl {p : DT} {A B : List KT} {K K2 : KT} : p.row = A ++ K :: K2 :: B → Shape P (.st "pair left" (A ++ .node "*" K K2 :: B) p.g A.length 0 [p])
  | ct {p q : DT} {A B : List KT} : q.row = A ++ p.g :: B → Shape P (.st "cut" (A ++ (p.row ++ B)) q.g A.length p.row.length [p, q])
/-- within the bounds of a sequent -/
structure Bd (P : Str → Prop) (t : DT) : Prop where
  ne : t.row ≠ []
  len : t.row.length ≤ 40
  sum : szs t.row + sz t.g ≤ 80
  fit : ∀ k ∈ t.row ++ [t.g], k.ok P ∧ k.at_.length ≤ 40
inductive Made (P : Str → Prop) : DT → Prop
  | mk {t : DT} : Shape P t → Bd P t → (∀ p ∈ t.ps, Made P p) → Made P t
theorem Made.sh {P : Str → Prop} {t : DT} : Made P t → Shape P t | .mk h _ _ => h
theorem Made.bd {P : Str → Prop} {t : DT} : Made P t → Bd P t | .mk _ h _ => h
theorem Made.parts {P : Str → Prop} {t : DT} : Made P t → ∀ p ∈ t.ps, Made P p | .mk _ _ h => h
theorem Bd.row {P : Str → Prop} {t : DT} (h : Bd P t) : ∀ k ∈ t.row, k.ok P ∧ k.at_.length ≤ 40 := fun k hk => h.fit k (List.mem_append_left _ hk)
theorem Bd.g {P : Str → Prop} {t : DT} (h : Bd P t) : t.g.ok P ∧ t.g.at_.length ≤ 40 := h.fit t.g (List.mem_append_right _ (List.mem_singleton.mpr rfl))
def RN8 : List Str := ["axiom", "over right", "under right", "pair right", "over left", "under left", "pair left", "cut"]
theorem Shape.rn {P : Str → Prop} {t : DT} (h : Shape P t) : t.rule ∈ RN8 := by
  cases h <;> (show _ ∈ RN8) <;> simp [RN8, DT.rule]
theorem Shape.two {P : Str → Prop} {t : DT} (h : Shape P t) : t.ps.length ≤ 2 := by cases h <;> (show _ ≤ 2) <;> simp [DT.ps]
/-! ### depth, length of the repr -/
theorem deps_le {m : Nat} : ∀ {xs : List D}, (∀ d ∈ xs, d.dep ≤ m) → deps xs ≤ m
  | [], _ => Nat.zero_le _
  | x :: xs, h => Nat.max_le.mpr ⟨h x (List.mem_cons_self ..), deps_le fun d hd => h d (List.mem_cons_of_mem _ hd)⟩
theorem kds_dep {ks : List KT} (h : ∀ k ∈ ks, k.at_.length ≤ 40) : deps (kds ks) ≤ 39 := deps_le fun d hd => by
  obtain ⟨k, hk, rfl⟩ := List.mem_map.mp hd
  have := KT.dep k
  have := h k hk
  omega
theorem Made.dep {P : Str → Prop} {t : DT} (h : Made P t) : t.d.dep ≤ 2 * t.dp + 40 := by
  induction h with
  | @mk t hs hb hp ih =>
    have h1 : deps (kds t.row) ≤ 39 := kds_dep fun k hk => (hb.row k hk).2
    have h2 := KT.dep t.g
    have h3 := hb.g.2
    have h4 : deps (dtds t.ps) ≤ 2 * dps t.ps + 40 := by
      rw [dtds_map]
      exact deps_le fun d hd => by
        obtain ⟨p, hp, rfl⟩ := List.mem_map.mp hd
        have := ih p hp
        have := dps_mem hp
        omega
    rw [DT.d_eq, DT.dp_eq]
    show max 0 (max (deps (kds t.row) + 1) (max t.g.d.dep (max 0 (max 0 (max (deps (dtds t.ps) + 1) 0))))) + 1 ≤ _
    omega
/-- a text of few plain signs -/
def AtN (t : Str) : Prop := t.length ≤ 20 ∧ ∀ c ∈ t.cps.toList, c < 128
theorem sg_shw {s : Str} (h : Sg s) : s.length = 1 ∧ ∀ c ∈ s.cps.toList, c < 128 := by
  rcases h with rfl | rfl | rfl <;> decide +kernel
theorem kt_cst : ∀ {k : KT}, k.ok AtN → Shw k.d ∧ cst k.d + 22 ≤ 224 * k.at_.length
  | .leaf t, h => ⟨h.2, by have := h.1; show 10 * t.length + 2 + 22 ≤ 224 * 1; omega⟩
  | .node s a b, h => by
    obtain ⟨a1, a2⟩ := kt_cst (k := a) h.2.1
    obtain ⟨b1, b2⟩ := kt_cst (k := b) h.2.2
    obtain ⟨s1, s2⟩ := sg_shw h.1
    refine ⟨⟨s2, a1, b1, trivial⟩, ?_⟩
    rw [KT.len_node]
    show 10 * s.length + 2 + 2 + (cst a.d + 2 + (cst b.d + 2 + 0)) + 4 + 22 ≤ _
    omega
theorem kds_cst : ∀ {ks : List KT}, (∀ k ∈ ks, k.ok AtN) → Shws (kds ks) ∧ (csts (kds ks) : Int) ≤ 224 * szs ks
  | [], _ => ⟨trivial, by show (0 : Int) ≤ 224 * 0; omega⟩
  | k :: ks, h => by
    obtain ⟨a1, a2⟩ := kt_cst (h k (List.mem_cons_self ..))
    obtain ⟨b1, b2⟩ := kds_cst fun x hx => h x (List.mem_cons_of_mem _ hx)
    refine ⟨⟨a1, b1⟩, ?_⟩
    rw [szs_cons]
    have e : sz k = (k.at_.length : Int) := rfl
    show ((cst k.d + 2 + csts (kds ks) : Nat) : Int) ≤ _
    omega
theorem rn8_shw : ∀ r ∈ RN8, r.length ≤ 11 ∧ ∀ c ∈ r.cps.toList, c < 128 := by decide +kernel
theorem z0 : (0 : Int).natAbs ≤ 1000 := by decide
theorem Shape.nums {P : Str → Prop} {t : DT} (h : Shape P t) (hp : ∀ p ∈ t.ps, p.row.length ≤ 40) : t.a.natAbs ≤ 1000 ∧ t.w.natAbs ≤ 1000 := by
  cases h with
  | ax _ => exact ⟨z0, z0⟩
  | or _ _ => exact ⟨z0, z0⟩
  | ur _ _ => exact ⟨z0, z0⟩
  | @pr p q => have h1 : p.row.length ≤ 40 := hp p (by simp [DT.ps]); exact ⟨by show ((p.row.length : Nat) : Int).natAbs ≤ _; omega, z0⟩
  | @ol p q A B K e => have h1 : p.row.length ≤ 40 := hp p (by simp [DT.ps]); have h2 : q.row.length ≤ 40 := hp q (by simp [DT.ps]); rw [e, List.length_append] at h2; exact ⟨by show ((A.length : Nat) : Int).natAbs ≤ _; omega, by show ((p.row.length : Nat) : Int).natAbs ≤ _; omega⟩
  | @ul p q A B K x e hx => have h1 : p.row.length ≤ 40 := hp p (by simp [DT.ps]); have h2 : q.row.length ≤ 40 := hp q (by simp [DT.ps]); rw [e, List.length_append] at h2; exact ⟨by show x.natAbs ≤ _; omega, by show ((p.row.length : Nat) : Int).natAbs ≤ _; omega⟩
  | @pl p A B K K2 e => have h1 : p.row.length ≤ 40 := hp p (by simp [DT.ps]); rw [e, List.length_append] at h1; exact ⟨by show ((A.length : Nat) : Int).natAbs ≤ _; omega, z0⟩
  | @ct p q A B e => have h1 : p.row.length ≤ 40 := hp p (by simp [DT.ps]); have h2 : q.row.length ≤ 40 := hp q (by simp [DT.ps]); rw [e, List.length_append] at h2; exact ⟨by show ((A.length : Nat) : Int).natAbs ≤ _; omega, by show ((p.row.length : Nat) : Int).natAbs ≤ _; omega⟩
theorem Made.shw {t : DT} (h : Made AtN t) : Shw t.d ∧ cst t.d + 2 ≤ 18200 * t.cnt := by
  induction h with
  | @mk t hs hb hp ih =>
    obtain ⟨r1, r2⟩ := kds_cst fun k hk => (hb.row k hk).1
    obtain ⟨g1, g2⟩ := kt_cst hb.g.1
    obtain ⟨n1, n2⟩ := rn8_shw _ hs.rn
    obtain ⟨i1, i2⟩ := hs.nums fun p h => (hp p h).bd.len
    have s := hb.sum
    have eg : sz t.g = (t.g.at_.length : Int) := rfl
    have hps : ∀ ps : List DT, (∀ p ∈ ps, Shw p.d ∧ cst p.d + 2 ≤ 18200 * p.cnt) → Shws (dtds ps) ∧ csts (dtds ps) ≤ 18200 * cnts ps := fun ps => by
      induction ps with
      | nil => exact fun _ => ⟨trivial, Nat.zero_le _⟩
      | cons p ps ih =>
        intro h
        obtain ⟨a1, a2⟩ := h p (List.mem_cons_self ..)
        obtain ⟨b1, b2⟩ := ih fun q hq => h q (List.mem_cons_of_mem _ hq)
        refine ⟨⟨a1, b1⟩, ?_⟩
        show cst p.d + 2 + csts (dtds ps) ≤ 18200 * (p.cnt + cnts ps)
        omega
    obtain ⟨p1, p2⟩ := hps t.ps ih
    rw [DT.d_eq, DT.cnt_eq]
    refine ⟨⟨n2, r1, g1, i1, i2, p1, trivial⟩, ?_⟩
    show 10 * t.rule.length + 2 + 2 + (csts (kds t.row) + 4 + 2 + (cst t.g.d + 2 + (10 + 2 + (10 + 2 + (csts (dtds t.ps) + 4 + 2 + 0))))) + 4 + 2 ≤ _
    omega
end Lw

set_option Elab.async false
set_option linter.all false
set_option maxRecDepth 100000
namespace Lw
open PySem L2 Dl
/-! ## mirrors -/
def ms (s : Str) : Str := if s = "/" then ">" else if s = ">" then "/" else "*"
def mK : KT → KT
  | .leaf t => .leaf t
  | .node s a b => .node (ms s) (mK b) (mK a)
def mr (r : Str) : Str := if r = "over right" then "under right" else if r = "under right" then "over right" else if r = "over left" then "under left" else if r = "under left" then "over left" else r
def mp (r : Str) (a w c : Int) : Int := if (["axiom", "over right", "under right"] : List Str).any (· == r) then 0 else if r = "pair right" then c - a else if r = "cut" then c - a - w else c - 1 - a
def mrow (row : List KT) : List KT := (row.map mK).reverse
mutual
def mD : DT → DT
  | .st r row g a w ps => .st (mr r) (mrow row) (mK g) (mp r a w row.length) w (if r = "pair right" then (mDs ps).reverse else mDs ps)
def mDs : List DT → List DT
  | [] => []
  | p :: ps => mD p :: mDs ps
end
theorem mDs_map : ∀ ps : List DT, mDs ps = ps.map mD
  | [] => rfl
  | p :: ps => by rw [List.map_cons, ← mDs_map ps]; rfl
theorem mD_row (t : DT) : (mD t).row = mrow t.row := by cases t; rfl
theorem mD_g (t : DT) : (mD t).g = mK t.g := by cases t; rfl
theorem mD_w (t : DT) : (mD t).w = t.w := by cases t; rfl
theorem mD_a (t : DT) : (mD t).a = mp t.rule t.a t.w t.row.length := by cases t; rfl
theorem mD_rule (t : DT) : (mD t).rule = mr t.rule := by cases t; rfl
theorem mD_ps (t : DT) : (mD t).ps = if t.rule = "pair right" then (t.ps.map mD).reverse else t.ps.map mD := by cases t; show (if _ then (mDs _).reverse else mDs _) = _; rw [mDs_map]; rfl
theorem mrow_len (r : List KT) : (mrow r).length = r.length := by unfold mrow; rw [List.length_reverse, List.length_map]
theorem mrow_app (a b : List KT) : mrow (a ++ b) = mrow b ++ mrow a := by unfold mrow; rw [List.map_append, List.reverse_append]
theorem mrow_cons (k : KT) (b : List KT) : mrow (k :: b) = mrow b ++ [mK k] := mrow_app [k] b
theorem mrow_one (k : KT) : mrow [k] = [mK k] := rfl
theorem mK_len : ∀ k : KT, (mK k).at_.length = k.at_.length
  | .leaf t => rfl
  | .node s a b => by
    show (KT.node _ (mK b) (mK a)).at_.length = _
    rw [KT.len_node, KT.len_node, mK_len a, mK_len b, Nat.add_comm]
theorem ms_sg {s : Str} (h : Sg s) : Sg (ms s) ∧ ms (ms s) = s := by
  rcases h with rfl | rfl | rfl
  · exact ⟨.inr (.inl (by decide)), by decide⟩
  · exact ⟨.inl (by decide), by decide⟩
  · exact ⟨.inr (.inr (by decide)), by decide⟩
theorem mK_ok {P : Str → Prop} : ∀ {k : KT}, k.ok P → (mK k).ok P ∧ mK (mK k) = k
  | .leaf t, h => ⟨h, rfl⟩
  | .node s a b, h => by
    obtain ⟨a1, a2⟩ := mK_ok (k := a) h.2.1
    obtain ⟨b1, b2⟩ := mK_ok (k := b) h.2.2
    obtain ⟨s1, s2⟩ := ms_sg h.1
    exact ⟨⟨s1, b1, a1⟩, by show KT.node (ms (ms s)) (mK (mK a)) (mK (mK b)) = _; rw [a2, b2, s2]⟩
theorem mrow_mrow {P : Str → Prop} {row : List KT} (h : ∀ k ∈ row, k.ok P) : mrow (mrow row) = row := by
  unfold mrow
  rw [List.map_reverse, List.reverse_reverse, List.map_map]
  exact (List.map_congr_left fun k hk => (mK_ok (h k hk)).2).trans (List.map_id _)
theorem mem_mrow {row : List KT} {k : KT} (h : k ∈ mrow row) : ∃ x ∈ row, mK x = k := by
  unfold mrow at h
  rw [List.mem_reverse] at h
  exact List.mem_map.mp h
theorem szs_mrow : ∀ row : List KT, szs (mrow row) = szs row
  | [] => rfl
  | k :: r => by
    rw [mrow_cons, szs_app, szs_mrow r, szs_cons, szs_cons, szs_nil]
    have : sz (mK k) = sz k := by unfold sz; rw [mK_len]
    omega
theorem mr_mr {r : Str} (h : r ∈ RN8) : mr (mr r) = r ∧ (mr r = "pair right" ↔ r = "pair right") := by
  have : ∀ r ∈ RN8, mr (mr r) = r ∧ (mr r = "pair right" ↔ r = "pair right") := by decide +kernel
  exact this r h
theorem mp_rest {r : Str} {a w c : Int} (h : (["axiom", "over right", "under right"] : List Str).any (· == r) = false) (hr : r ∈ RN8) : mp (mr r) (mp r a w c) w c = a := by
  have key : ∀ r ∈ RN8, (["axiom", "over right", "under right"] : List Str).any (· == r) = false → (["axiom", "over right", "under right"] : List Str).any (· == mr r) = false ∧ (mr r = "pair right" ↔ r = "pair right") ∧ (mr r = "cut" ↔ r = "cut") := by decide +kernel
  obtain ⟨h1, h2, h3⟩ := key r hr h
  have hf : ¬ (false = true) := Bool.false_ne_true
  unfold mp
  rw [h1, h, if_neg hf, if_neg hf]
  by_cases hp : r = "pair right"
  · rw [if_pos hp, if_pos (h2.mpr hp)]; omega
  · rw [if_neg hp, if_neg fun z => hp (h2.mp z)]
    by_cases hc : r = "cut"
    · rw [if_pos hc, if_pos (h3.mpr hc)]; omega
    · rw [if_neg hc, if_neg fun z => hc (h3.mp z)]; omega
theorem mp_zero {r : Str} {a w c : Int} (h : (["axiom", "over right", "under right"] : List Str).any (· == r) = true) : mp r a w c = 0 := by unfold mp; rw [if_pos h]
theorem mr_zero : ∀ r ∈ RN8, (["axiom", "over right", "under right"] : List Str).any (· == r) = true → (["axiom", "over right", "under right"] : List Str).any (· == mr r) = true := by decide +kernel
/-- at is 0 where it tells nothing -/
theorem Shape.at0 {P : Str → Prop} {t : DT} (h : Shape P t) (hz : (["axiom", "over right", "under right"] : List Str).any (· == t.rule) = true) : t.a = 0 := by
  cases h with
  | ax _ => rfl
  | or _ _ => rfl
  | ur _ _ => rfl
  | pr => exact absurd hz (by show ¬ ((["axiom", "over right", "under right"] : List Str).any (· == ("pair right" : Str))) = true; decide)
  | ol _ => exact absurd hz (by show ¬ ((["axiom", "over right", "under right"] : List Str).any (· == ("over left" : Str))) = true; decide)
  | ul _ _ => exact absurd hz (by show ¬ ((["axiom", "over right", "under right"] : List Str).any (· == ("under left" : Str))) = true; decide)
  | pl _ => exact absurd hz (by show ¬ ((["axiom", "over right", "under right"] : List Str).any (· == ("pair left" : Str))) = true; decide)
  | ct _ => exact absurd hz (by show ¬ ((["axiom", "over right", "under right"] : List Str).any (· == ("cut" : Str))) = true; decide)
theorem DT.ext' {t u : DT} (h1 : t.rule = u.rule) (h2 : t.row = u.row) (h3 : t.g = u.g) (h4 : t.a = u.a) (h5 : t.w = u.w) (h6 : t.ps = u.ps) : t = u := by
  cases t; cases u
  cases h1; cases h2; cases h3; cases h4; cases h5; cases h6
  rfl
theorem Made.mm {P : Str → Prop} {t : DT} (h : Made P t) : mD (mD t) = t := by
  induction h with
  | @mk t hs hb hp ih =>
    have hr := hs.rn
    obtain ⟨r1, r2⟩ := mr_mr hr
    refine DT.ext' ?_ ?_ ?_ ?_ ?_ ?_
    · rw [mD_rule, mD_rule, r1]
    · rw [mD_row, mD_row, mrow_mrow fun k hk => (hb.row k hk).1]
    · rw [mD_g, mD_g, (mK_ok hb.g.1).2]
    · rw [mD_a, mD_rule, mD_a, mD_w, mD_row, mrow_len]
      cases hz : (["axiom", "over right", "under right"] : List Str).any (· == t.rule) with
      | true => rw [mp_zero (mr_zero _ hr hz), hs.at0 hz]
      | false => exact mp_rest hz hr
    · rw [mD_w, mD_w]
    · have e : (t.ps.map mD).map mD = t.ps := by
        rw [List.map_map]
        exact (List.map_congr_left fun p hp => ih p hp).trans (List.map_id _)
      rw [mD_ps, mD_rule, mD_ps]
      by_cases h : t.rule = "pair right"
      · rw [if_pos h, if_pos (r2.mpr h), List.map_reverse, List.reverse_reverse, e]
      · rw [if_neg h, if_neg fun z => h (r2.mp z), e]
theorem mD_cnts : ∀ ps : List DT, (∀ p ∈ ps, (mD p).cnt = p.cnt ∧ (mD p).dp = p.dp) → cnts (ps.map mD) = cnts ps ∧ dps (ps.map mD) = dps ps
  | [], _ => ⟨rfl, rfl⟩
  | p :: ps, h => by
    obtain ⟨a, b⟩ := h p (List.mem_cons_self ..)
    obtain ⟨c, d⟩ := mD_cnts ps fun q hq => h q (List.mem_cons_of_mem _ hq)
    exact ⟨by show (mD p).cnt + cnts (ps.map mD) = p.cnt + cnts ps; rw [a, c], by show max (mD p).dp (dps (ps.map mD)) = max p.dp (dps ps); rw [b, d]⟩
theorem cnts_rev (ps : List DT) : cnts ps.reverse = cnts ps ∧ dps ps.reverse = dps ps := by
  have app : ∀ a b : List DT, dps (a ++ b) = max (dps a) (dps b) := fun a b => by
    induction a with
    | nil => show dps b = max 0 (dps b); omega
    | cons x a ih => show max x.dp (dps (a ++ b)) = max (max x.dp (dps a)) (dps b); rw [ih]; omega
  induction ps with
  | nil => exact ⟨rfl, rfl⟩
  | cons p ps ih =>
    rw [List.reverse_cons, cnts_app, app, ih.1, ih.2]
    exact ⟨by show cnts ps + (p.cnt + 0) = p.cnt + cnts ps; omega, by show max (dps ps) (max p.dp 0) = max p.dp (dps ps); omega⟩
/-- the mirror is made, too -/
theorem Made.mir {P : Str → Prop} {t : DT} (h : Made P t) : Made P (mD t) ∧ (mD t).cnt = t.cnt ∧ (mD t).dp = t.dp := by
  induction h with
  | @mk t hs hb hp ih =>
    have ic := mD_cnts t.ps fun p hp => (ih p hp).2
    have hps : ∀ p ∈ (mD t).ps, ∃ q ∈ t.ps, mD q = p := fun p hp => by
      rw [mD_ps] at hp
      split at hp
      · rw [List.mem_reverse] at hp; exact List.mem_map.mp hp
      · exact List.mem_map.mp hp
    refine ⟨.mk ?_ ?_ ?_, ?_, ?_⟩
    · cases hs with
      | ax h => exact .ax h
      | @or p A b e ne =>
        have h : Shape P (.st "under right" (mrow A) (.node ">" (mK b) (mD p).g) 0 0 [mD p]) := .ur (p := mD p) (by rw [mD_row, e, mrow_app, mrow_one]; rfl) (fun z => ne (List.length_eq_zero_iff.mp (by rw [← mrow_len, z]; rfl)))
        rw [mD_g] at h
        exact h
      | @ur p A b e ne =>
        have h : Shape P (.st "over right" (mrow A) (.node "/" (mD p).g (mK b)) 0 0 [mD p]) := .or (p := mD p) (by rw [mD_row, e, mrow_cons]) (fun z => ne (List.length_eq_zero_iff.mp (by rw [← mrow_len, z]; rfl)))
        rw [mD_g] at h
        exact h
      | @pr p q =>
        have h : Shape P (.st "pair right" ((mD q).row ++ (mD p).row) (.node "*" (mD q).g (mD p).g) (mD q).row.length 0 [mD q, mD p]) := .pr
        rw [mD_row, mD_row, ← mrow_app, mD_g, mD_g, mrow_len] at h
        show Shape P (.st "pair right" (mrow (p.row ++ q.row)) (.node "*" (mK q.g) (mK p.g)) (((p.row ++ q.row).length : Nat) - (p.row.length : Nat) : Int) 0 [mD q, mD p])
        rw [show (((p.row ++ q.row).length : Nat) - (p.row.length : Nat) : Int) = q.row.length by rw [List.length_append]; omega]
        exact h
      | @ol p q A B K e =>
        have h : Shape P (.st "under left" (mrow B ++ ((mD p).row ++ .node ">" (mD p).g (mK K) :: mrow A)) (mD q).g (((A ++ .node "/" K p.g :: (p.row ++ B)).length : Nat) - 1 - (A.length : Nat) : Int) (mD p).row.length [mD p, mD q]) := .ul (p := mD p) (q := mD q) (by rw [mD_row, e, mrow_app, mrow_cons, List.append_assoc]; rfl) (by rw [mD_row, mrow_len, mrow_len]; simp only [List.length_append, List.length_cons]; omega)
        rw [mD_row, mD_g, mD_g, mrow_len] at h
        show Shape P (.st "under left" (mrow (A ++ .node "/" K p.g :: (p.row ++ B))) (mK q.g) (((A ++ .node "/" K p.g :: (p.row ++ B)).length : Nat) - 1 - (A.length : Nat) : Int) p.row.length [mD p, mD q])
        rw [show mrow (A ++ .node "/" K p.g :: (p.row ++ B)) = mrow B ++ (mrow p.row ++ .node ">" (mK p.g) (mK K) :: mrow A) by rw [mrow_app, mrow_cons, mrow_app, List.append_assoc, List.append_assoc]; rfl]
        exact h
      | @ul p q A B K x e hx =>
        have h : Shape P (.st "over left" (mrow B ++ .node "/" (mK K) (mD p).g :: ((mD p).row ++ mrow A)) (mD q).g (mrow B).length (mD p).row.length [mD p, mD q]) := .ol (p := mD p) (q := mD q) (by rw [mD_row, e, mrow_app, mrow_cons, List.append_assoc]; rfl)
        rw [mD_row, mD_g, mD_g, mrow_len, mrow_len] at h
        show Shape P (.st "over left" (mrow (A ++ (p.row ++ .node ">" p.g K :: B))) (mK q.g) (((A ++ (p.row ++ .node ">" p.g K :: B)).length : Nat) - 1 - x : Int) p.row.length [mD p, mD q])
        rw [show mrow (A ++ (p.row ++ .node ">" p.g K :: B)) = mrow B ++ .node "/" (mK K) (mK p.g) :: (mrow p.row ++ mrow A) by rw [mrow_app, mrow_app, mrow_cons, List.append_assoc, List.append_assoc]; rfl,
          show (((A ++ (p.row ++ .node ">" p.g K :: B)).length : Nat) - 1 - x : Int) = B.length by rw [hx]; simp only [List.length_append, List.length_cons]; omega]
        exact h
      | @pl p A B K K2 e =>
        have h : Shape P (.st "pair left" (mrow B ++ .node "*" (mK K2) (mK K) :: mrow A) (mD p).g (mrow B).length 0 [mD p]) := .pl (p := mD p) (by rw [mD_row, e, mrow_app, mrow_cons, mrow_cons, List.append_assoc, List.append_assoc]; rfl)
        rw [mD_g, mrow_len] at h
        show Shape P (.st "pair left" (mrow (A ++ .node "*" K K2 :: B)) (mK p.g) (((A ++ .node "*" K K2 :: B).length : Nat) - 1 - (A.length : Nat) : Int) 0 [mD p])
        rw [show mrow (A ++ .node "*" K K2 :: B) = mrow B ++ .node "*" (mK K2) (mK K) :: mrow A by rw [mrow_app, mrow_cons, List.append_assoc]; rfl,
          show (((A ++ .node "*" K K2 :: B).length : Nat) - 1 - (A.length : Nat) : Int) = B.length by simp only [List.length_append, List.length_cons]; omega]
        exact h
      | @ct p q A B e =>
        have h : Shape P (.st "cut" (mrow B ++ ((mD p).row ++ mrow A)) (mD q).g (mrow B).length (mD p).row.length [mD p, mD q]) := .ct (p := mD p) (q := mD q) (by rw [mD_row, e, mrow_app, mrow_cons, List.append_assoc, mD_g]; rfl)
        rw [mD_row, mD_g, mrow_len, mrow_len] at h
        show Shape P (.st "cut" (mrow (A ++ (p.row ++ B))) (mK q.g) (((A ++ (p.row ++ B)).length : Nat) - (A.length : Nat) - (p.row.length : Nat) : Int) p.row.length [mD p, mD q])
        rw [show mrow (A ++ (p.row ++ B)) = mrow B ++ (mrow p.row ++ mrow A) by rw [mrow_app, mrow_app, List.append_assoc],
          show (((A ++ (p.row ++ B)).length : Nat) - (A.length : Nat) - (p.row.length : Nat) : Int) = B.length by simp only [List.length_append]; omega]
        exact h
    · have fk : ∀ k : KT, k.ok P ∧ k.at_.length ≤ 40 → (mK k).ok P ∧ (mK k).at_.length ≤ 40 := fun k h => ⟨(mK_ok h.1).1, by rw [mK_len]; exact h.2⟩
      refine ⟨fun z => hb.ne (List.length_eq_zero_iff.mp (by rw [← mrow_len, ← mD_row, z]; rfl)), by rw [mD_row, mrow_len]; exact hb.len, ?_, fun k hk => ?_⟩
      · rw [mD_row, mD_g, szs_mrow]
        have : sz (mK t.g) = sz t.g := by unfold sz; rw [mK_len]
        have := hb.sum
        omega
      · rw [mD_row, mD_g] at hk
        rcases List.mem_append.mp hk with z | z
        · obtain ⟨x, hx, rfl⟩ := mem_mrow z
          exact fk x (hb.row x hx)
        · rw [List.mem_singleton.mp z]; exact fk _ hb.g
    · intro p hp
      obtain ⟨q, hq, rfl⟩ := hps p hp
      exact (ih q hq).1
    · rw [DT.cnt_eq, DT.cnt_eq t, mD_ps]
      split
      · rw [(cnts_rev _).1, ic.1]
      · rw [ic.1]
    · rw [DT.dp_eq, DT.dp_eq t, mD_ps]
      split
      · rw [(cnts_rev _).2, ic.2]
      · rw [ic.2]
end Lw

set_option Elab.async false
set_option linter.all false
set_option maxRecDepth 100000
namespace Lw
open PySem L2 Dl
/-! ## identities -/
def axT (t : Str) : DT := .st "axiom" [.leaf t] (.leaf t) 0 0 []
def olT (a b : KT) (p q : DT) : DT := .st "over left" [.node "/" a b, b] a 0 1 [p, q]
def ulT (a b : KT) (p q : DT) : DT := .st "under left" [a, .node ">" a b] b 1 1 [p, q]
def prT (a b : KT) (p q : DT) : DT := .st "pair right" [a, b] (.node "*" a b) 1 0 [p, q]
def idT : KT → DT
  | .leaf t => axT t
  | .node s a b => if s = "/" then .st "over right" [.node "/" a b] (.node "/" a b) 0 0 [olT a b (idT b) (idT a)]
    else if s = ">" then .st "under right" [.node ">" a b] (.node ">" a b) 0 0 [ulT a b (idT a) (idT b)]
    else .st "pair left" [.node "*" a b] (.node "*" a b) 0 0 [prT a b (idT a) (idT b)]
theorem idT_over (a b : KT) : idT (.node "/" a b) = .st "over right" [.node "/" a b] (.node "/" a b) 0 0 [olT a b (idT b) (idT a)] := by
  show (if ("/" : Str) = "/" then _ else _) = _
  rw [if_pos rfl]
theorem idT_under (a b : KT) : idT (.node ">" a b) = .st "under right" [.node ">" a b] (.node ">" a b) 0 0 [ulT a b (idT a) (idT b)] := by
  show (if (">" : Str) = "/" then _ else if (">" : Str) = ">" then _ else _) = _
  rw [if_neg (by decide), if_pos rfl]
theorem idT_pair (a b : KT) : idT (.node "*" a b) = .st "pair left" [.node "*" a b] (.node "*" a b) 0 0 [prT a b (idT a) (idT b)] := by
  show (if ("*" : Str) = "/" then _ else if ("*" : Str) = ">" then _ else _) = _
  rw [if_neg (by decide), if_neg (by decide)]
theorem one_mem {α : Type} {Q : α → Prop} {p : α} (h : Q p) : ∀ x ∈ [p], Q x := fun x hx => by rw [List.mem_singleton.mp hx]; exact h
theorem two_mem {α : Type} {Q : α → Prop} {p q : α} (h : Q p) (h2 : Q q) : ∀ x ∈ [p, q], Q x := fun x hx => by
  simp only [List.mem_cons, List.not_mem_nil, or_false] at hx
  rcases hx with rfl | rfl
  · exact h
  · exact h2
theorem three_mem {α : Type} {Q : α → Prop} {p q r : α} (h : Q p) (h2 : Q q) (h3 : Q r) : ∀ x ∈ [p, q, r], Q x := fun x hx => by
  simp only [List.mem_cons, List.not_mem_nil, or_false] at hx
  rcases hx with rfl | rfl | rfl
  · exact h
  · exact h2
  · exact h3
theorem szs_one (k : KT) : szs [k] = sz k := by rw [szs_cons, szs_nil]; omega
theorem szs_two (k j : KT) : szs [k, j] = sz k + sz j := by rw [szs_cons, szs_one]
theorem sz_nat (k : KT) : sz k = (k.at_.length : Int) := rfl
theorem nd_len (s : Str) (a b : KT) : (KT.node s a b).at_.length = a.at_.length + b.at_.length := KT.len_node
/-- a kind from itself, by its parts -/
theorem idT_made {P : Str → Prop} : ∀ {k : KT}, k.ok P → k.at_.length ≤ 40 → Made P (idT k) ∧ (idT k).row = [k] ∧ (idT k).g = k ∧ (idT k).cnt + 2 = 3 * k.at_.length ∧ (idT k).dp + 1 ≤ 2 * k.at_.length
  | .leaf t, h, hl => ⟨.mk (.ax h) ⟨(fun z => nomatch (show [KT.leaf t] = [] from z)), by show 1 ≤ 40; decide, by
      show szs [KT.leaf t] + sz (.leaf t) ≤ 80
      rw [szs_one]; show (1 : Int) + 1 ≤ 80; decide, two_mem (p := KT.leaf t) (q := KT.leaf t) ⟨h, hl⟩ ⟨h, hl⟩⟩ (fun _ h => nomatch h), rfl, rfl, by show 1 + 0 + 2 = 3 * 1; decide, by show 1 + 0 + 1 ≤ 2 * 1; decide⟩
  | .node s a b, h, hl => by
    have hl' := hl
    rw [nd_len] at hl'
    have pa := KT.pos a
    have pb := KT.pos b
    obtain ⟨a1, a2, a3, a4, a5⟩ := idT_made (k := a) h.2.1 (by omega)
    obtain ⟨b1, b2, b3, b4, b5⟩ := idT_made (k := b) h.2.2 (by omega)
    have fa : a.ok P ∧ a.at_.length ≤ 40 := ⟨h.2.1, by omega⟩
    have fb : b.ok P ∧ b.at_.length ≤ 40 := ⟨h.2.2, by omega⟩
    have ea := sz_nat a
    have eb := sz_nat b
    have go : ∀ (r1 r2 : Str) (x : Int) (row : List KT) (g2 : KT) (p q : DT), Shape P (.st r2 row g2 x (if r2 = "pair right" then 0 else 1) [p, q]) → Shape P (.st r1 [.node s a b] (.node s a b) 0 0 [.st r2 row g2 x (if r2 = "pair right" then 0 else 1) [p, q]]) → row.length = 2 → szs row + sz g2 ≤ 80 → (∀ k ∈ row ++ [g2], k.ok P ∧ k.at_.length ≤ 40) → Made P p → Made P q → Made P (.st r1 [.node s a b] (.node s a b) 0 0 [.st r2 row g2 x (if r2 = "pair right" then 0 else 1) [p, q]]) := fun r1 r2 x row g2 p q s2 s1 len sum fit mp mq => by
      refine .mk s1 ⟨by simp [DT.row], by show 1 ≤ 40; decide, ?_, two_mem ⟨h, hl⟩ ⟨h, hl⟩⟩ (one_mem (.mk s2 ⟨fun z => ?_, by show row.length ≤ 40; omega, sum, fit⟩ (two_mem mp mq)))
      · show szs [KT.node s a b] + sz (.node s a b) ≤ 80
        rw [szs_one, sz_node]; omega
      · have z' : row = [] := z
        rw [z'] at len; exact nomatch len
    have tail : ∀ (r1 r2 : Str) (x w : Int) (row : List KT) (g2 : KT) (p q : DT), p.cnt + q.cnt = (idT a).cnt + (idT b).cnt → max p.dp q.dp = max (idT a).dp (idT b).dp → (DT.st r1 [.node s a b] (.node s a b) 0 0 [.st r2 row g2 x w [p, q]]).cnt + 2 = 3 * (KT.node s a b).at_.length ∧ (DT.st r1 [.node s a b] (.node s a b) 0 0 [.st r2 row g2 x w [p, q]]).dp + 1 ≤ 2 * (KT.node s a b).at_.length := fun r1 r2 x w row g2 p q e1 e2 => by
      rw [nd_len]
      refine ⟨?_, ?_⟩
      · show 1 + (1 + (p.cnt + (q.cnt + 0)) + 0) + 2 = _; omega
      · show 1 + max (1 + max p.dp (max q.dp 0)) 0 + 1 ≤ _; omega
    rcases h.1 with rfl | rfl | rfl
    · rw [idT_over]
      have s2 : Shape P (olT a b (idT b) (idT a)) := by
        have := Shape.ol (P := P) (p := idT b) (q := idT a) (A := []) (B := []) (K := a) a2
        rw [a3, b2, b3] at this
        exact this
      have s1 : Shape P (.st "over right" [.node "/" a b] (.node "/" a b) 0 0 [olT a b (idT b) (idT a)]) := .or (p := olT a b (idT b) (idT a)) (A := [.node "/" a b]) (b := b) rfl (by simp)
      have m := go "over right" "over left" 0 [.node "/" a b, b] a (idT b) (idT a) (by rw [if_neg (by decide)]; exact s2) (by rw [if_neg (by decide)]; exact s1) rfl (by rw [szs_two, sz_node]; omega) (three_mem ⟨h, hl⟩ fb fa) b1 a1
      rw [if_neg (by decide)] at m
      exact ⟨m, rfl, rfl, tail _ _ _ _ _ _ (idT b) (idT a) (by omega) (by omega)⟩
    · rw [idT_under]
      have s2 : Shape P (ulT a b (idT a) (idT b)) := by
        have := Shape.ul (P := P) (p := idT a) (q := idT b) (A := []) (B := []) (K := b) (x := 1) b2 (by rw [a2]; rfl)
        rw [b3, a2, a3] at this
        exact this
      have s1 : Shape P (.st "under right" [.node ">" a b] (.node ">" a b) 0 0 [ulT a b (idT a) (idT b)]) := .ur (p := ulT a b (idT a) (idT b)) (A := [.node ">" a b]) (b := a) rfl (by simp)
      have m := go "under right" "under left" 1 [a, .node ">" a b] b (idT a) (idT b) (by rw [if_neg (by decide)]; exact s2) (by rw [if_neg (by decide)]; exact s1) rfl (by rw [szs_two, sz_node]; omega) (three_mem fa ⟨h, hl⟩ fb) a1 b1
      rw [if_neg (by decide)] at m
      exact ⟨m, rfl, rfl, tail _ _ _ _ _ _ (idT a) (idT b) rfl rfl⟩
    · rw [idT_pair]
      have s2 : Shape P (prT a b (idT a) (idT b)) := by
        have := Shape.pr (P := P) (p := idT a) (q := idT b)
        rw [a2, b2, a3, b3] at this
        exact this
      have s1 : Shape P (.st "pair left" [.node "*" a b] (.node "*" a b) 0 0 [prT a b (idT a) (idT b)]) := .pl (p := prT a b (idT a) (idT b)) (A := []) (B := []) (K := a) (K2 := b) rfl
      have m := go "pair left" "pair right" 1 [a, b] (.node "*" a b) (idT a) (idT b) (by rw [if_pos rfl]; exact s2) (by rw [if_pos rfl]; exact s1) rfl (by rw [szs_two, sz_node]; omega) (three_mem fa fb ⟨h, hl⟩) a1 b1
      rw [if_pos rfl] at m
      exact ⟨m, rfl, rfl, tail _ _ _ _ _ _ (idT a) (idT b) rfl rfl⟩
end Lw

set_option Elab.async false
set_option linter.all false
set_option maxRecDepth 100000
namespace Lw
open PySem L2 Dl
/-! ## a step over bounded parts -/
def FitB (x y z : Int) (t : DT) : Prop := (∀ k ∈ t.row ++ [t.g], sz k ≤ x) ∧ (t.row.length : Int) ≤ y ∧ szs t.row + sz t.g ≤ z
theorem nd_ok' {P : Str → Prop} {s : Str} (hs : Sg s) {a b : KT} (ha : a.ok P ∧ a.at_.length ≤ 40) (hb : b.ok P ∧ b.at_.length ≤ 40) : (KT.node s a b).ok P ∧ (KT.node s a b).at_.length ≤ 80 := ⟨⟨hs, ha.1, hb.1⟩, by rw [KT.len_node]; have := ha.2; have := hb.2; omega⟩
theorem Shape.wide {P : Str → Prop} {t : DT} (h : Shape P t) (hp : ∀ p ∈ t.ps, Made P p) (ne : t.ps ≠ []) : (∀ k ∈ t.row ++ [t.g], k.ok P ∧ k.at_.length ≤ 80) ∧ t.row.length ≤ 80 ∧ t.row ≠ [] := by
  have up : ∀ {k : KT}, k.ok P ∧ k.at_.length ≤ 40 → k.ok P ∧ k.at_.length ≤ 80 := fun h => ⟨h.1, by have := h.2; omega⟩
  cases h with
  | ax h => exact absurd rfl ne
  | @or p A b e nA =>
    have m := (hp p (by simp [DT.ps])).bd
    have l := m.len
    have f := m.row
    rw [e] at f l
    rw [List.length_append, List.length_singleton] at l
    refine ⟨fun k hk => ?_, by show A.length ≤ 80; omega, nA⟩
    rcases List.mem_append.mp (show k ∈ A ++ [KT.node "/" p.g b] from hk) with z | z
    · exact up (f k (List.mem_append_left _ z))
    · rw [List.mem_singleton.mp z]; exact nd_ok' (.inl rfl) m.g (f b (by simp))
  | @ur p A b e nA =>
    have m := (hp p (by simp [DT.ps])).bd
    have l := m.len
    have f := m.row
    rw [e] at f l
    rw [List.length_cons] at l
    refine ⟨fun k hk => ?_, by show A.length ≤ 80; omega, nA⟩
    rcases List.mem_append.mp (show k ∈ A ++ [KT.node ">" b p.g] from hk) with z | z
    · exact up (f k (List.mem_cons_of_mem _ z))
    · rw [List.mem_singleton.mp z]; exact nd_ok' (.inr (.inl rfl)) (f b (by simp)) m.g
  | @pr p q =>
    have m := (hp p (by simp [DT.ps])).bd
    have m2 := (hp q (by simp [DT.ps])).bd
    have l := m.len
    have l2 := m2.len
    refine ⟨fun k hk => ?_, by show (p.row ++ q.row).length ≤ 80; rw [List.length_append]; omega, fun z => m.ne (List.append_eq_nil_iff.mp z).1⟩
    rcases List.mem_append.mp (show k ∈ (p.row ++ q.row) ++ [KT.node "*" p.g q.g] from hk) with z | z
    · rcases List.mem_append.mp z with z | z
      · exact up (m.row k z)
      · exact up (m2.row k z)
    · rw [List.mem_singleton.mp z]; exact nd_ok' (.inr (.inr rfl)) m.g m2.g
  | @ol p q A B K e =>
    have m := (hp p (by simp [DT.ps])).bd
    have m2 := (hp q (by simp [DT.ps])).bd
    have l := m.len
    have l2 := m2.len
    have f := m2.row
    rw [e] at f l2
    simp only [List.length_append, List.length_cons] at l2
    refine ⟨fun k hk => ?_, by show (A ++ KT.node "/" K p.g :: (p.row ++ B)).length ≤ 80; simp only [List.length_append, List.length_cons]; omega, fun z => by
      have z : A ++ KT.node "/" K p.g :: (p.row ++ B) = [] := z
      simp at z⟩
    have hk : k ∈ (A ++ KT.node "/" K p.g :: (p.row ++ B)) ++ [q.g] := hk
    simp only [List.append_assoc, List.cons_append, List.mem_append, List.mem_cons, List.not_mem_nil, or_false] at hk
    rcases hk with z | rfl | z | z | rfl
    · exact up (f k (by simp [z]))
    · exact nd_ok' (.inl rfl) (f K (by simp)) m.g
    · exact up (m.row k z)
    · exact up (f k (by simp [z]))
    · exact up m2.g
  | @ul p q A B K x e hx =>
    have m := (hp p (by simp [DT.ps])).bd
    have m2 := (hp q (by simp [DT.ps])).bd
    have l := m.len
    have l2 := m2.len
    have f := m2.row
    rw [e] at f l2
    simp only [List.length_append, List.length_cons] at l2
    refine ⟨fun k hk => ?_, by show (A ++ (p.row ++ KT.node ">" p.g K :: B)).length ≤ 80; simp only [List.length_append, List.length_cons]; omega, fun z => by
      have z : A ++ (p.row ++ KT.node ">" p.g K :: B) = [] := z
      simp at z⟩
    have hk : k ∈ (A ++ (p.row ++ KT.node ">" p.g K :: B)) ++ [q.g] := hk
    simp only [List.append_assoc, List.cons_append, List.mem_append, List.mem_cons, List.not_mem_nil, or_false] at hk
    rcases hk with z | z | rfl | z | rfl
    · exact up (f k (by simp [z]))
    · exact up (m.row k z)
    · exact nd_ok' (.inr (.inl rfl)) m.g (f K (by simp))
    · exact up (f k (by simp [z]))
    · exact up m2.g
  | @pl p A B K K2 e =>
    have m := (hp p (by simp [DT.ps])).bd
    have l := m.len
    have f := m.row
    rw [e] at f l
    simp only [List.length_append, List.length_cons] at l
    refine ⟨fun k hk => ?_, by show (A ++ KT.node "*" K K2 :: B).length ≤ 80; simp only [List.length_append, List.length_cons]; omega, fun z => by
      have z : A ++ KT.node "*" K K2 :: B = [] := z
      simp at z⟩
    have hk : k ∈ (A ++ KT.node "*" K K2 :: B) ++ [p.g] := hk
    simp only [List.append_assoc, List.cons_append, List.mem_append, List.mem_cons, List.not_mem_nil, or_false] at hk
    rcases hk with z | rfl | z | rfl
    · exact up (f k (by simp [z]))
    · exact nd_ok' (.inr (.inr rfl)) (f K (by simp)) (f K2 (by simp))
    · exact up (f k (by simp [z]))
    · exact up m.g
  | @ct p q A B e =>
    have m := (hp p (by simp [DT.ps])).bd
    have m2 := (hp q (by simp [DT.ps])).bd
    have l := m.len
    have l2 := m2.len
    have f := m2.row
    rw [e] at f l2
    simp only [List.length_append, List.length_cons] at l2
    refine ⟨fun k hk => ?_, by show (A ++ (p.row ++ B)).length ≤ 80; simp only [List.length_append]; omega, fun z => m.ne (by
      have z : A ++ (p.row ++ B) = [] := z
      simp at z; exact z.2.1)⟩
    have hk : k ∈ (A ++ (p.row ++ B)) ++ [q.g] := hk
    simp only [List.append_assoc, List.mem_append, List.mem_cons, List.not_mem_nil, or_false] at hk
    rcases hk with z | z | z | rfl
    · exact up (f k (by simp [z]))
    · exact up (m.row k z)
    · exact up (f k (by simp [z]))
    · exact up m2.g
theorem Shape.made {P : Str → Prop} {t : DT} (h : Shape P t) (hp : ∀ p ∈ t.ps, Made P p) (ne : t.ps ≠ []) {x y z : Int} (f : FitB x y z t) (hx : x ≤ 40) (hy : y ≤ 40) (hz : z ≤ 80) : Made P t := by
  obtain ⟨w1, w2, w3⟩ := h.wide hp ne
  refine .mk h ⟨w3, by have := f.2.1; omega, by have := f.2.2; omega, fun k hk => ⟨(w1 k hk).1, ?_⟩⟩ hp
  have := f.1 k hk
  rw [sz_nat] at this
  omega
theorem KT.mono {P Q : Str → Prop} (h : ∀ t, P t → Q t) : ∀ {k : KT}, k.ok P → k.ok Q
  | .leaf t, hk => h t hk
  | .node s a b, hk => ⟨hk.1, KT.mono h hk.2.1, KT.mono h hk.2.2⟩
theorem Shape.mono {P Q : Str → Prop} (h : ∀ t, P t → Q t) {t : DT} (s : Shape P t) : Shape Q t := by
  cases s with
  | ax a => exact .ax (h _ a)
  | or e n => exact .or e n
  | ur e n => exact .ur e n
  | pr => exact .pr
  | ol e => exact .ol e
  | ul e x => exact .ul e x
  | pl e => exact .pl e
  | ct e => exact .ct e
theorem Made.mono {P Q : Str → Prop} (h : ∀ t, P t → Q t) {t : DT} (m : Made P t) : Made Q t := by
  induction m with
  | @mk t hs hb hp ih => exact .mk (hs.mono h) ⟨hb.ne, hb.len, hb.sum, fun k hk => ⟨KT.mono h (hb.fit k hk).1, (hb.fit k hk).2⟩⟩ ih
end Lw

set_option Elab.async false
set_option linter.all false
set_option maxRecDepth 100000
namespace Lw
open PySem L2 Dl
theorem AtS.len {t : Str} (h : AtS t) : t.length ≤ 15 := by
  obtain ⟨b, m, rfl, hb, h0, h1⟩ := h
  exact atT_len hb h0 h1
theorem sm_128 : ∀ c ∈ SM, c < 128 := by decide +kernel
theorem dg_128 : ∀ c ∈ ("0123456789" : Str).cps.toList, c < 128 := by decide +kernel
theorem AtS.asc {t : Str} (h : AtS t) : ∀ c ∈ t.cps.toList, c < 128 := by
  obtain ⟨b, m, rfl, hb, h0, h1⟩ := h
  unfold atT
  intro c hc
  by_cases e : m = 0
  · rw [if_pos e] at hc
    exact sm_128 c (hb.all c hc)
  · rw [if_neg e, app_list, app_list, dot_list] at hc
    simp only [List.mem_append, List.mem_singleton] at hc
    rcases hc with (z | z) | z
    · exact sm_128 c (hb.all c z)
    · omega
    · exact dg_128 c (num_dig h0 c z)
theorem log_lt {m : Int} (h0 : 0 < m) (h1 : m < 1073741824) : m.natAbs.log2 < 9000 := by
  have : m.natAbs.log2 < 30 := (Nat.log2_lt (by omega)).mpr (by omega)
  omega
/-- a whole number out of a written list -/
theorem pick_int {xs : List Int} {i lo hi : Int} (a : 0 ≤ i) (b : i < (xs.length : Int)) (h : ∀ x ∈ xs, lo ≤ x ∧ x ≤ hi) : ∃ x, lo ≤ x ∧ x ≤ hi ∧ atI (xs.map D.int) i = some (.int x) := by
  obtain ⟨d, hd, hm⟩ := atI_in (xs := xs.map D.int) a (by rw [List.length_map]; exact b)
  obtain ⟨x, hx, rfl⟩ := List.mem_map.mp hm
  exact ⟨x, (h x hx).1, (h x hx).2, hd⟩
theorem AtS.atN {t : Str} (h : AtS t) : AtN t := ⟨by have := h.len; omega, h.asc⟩
theorem strsD_sts : ∀ xs : List Str, strsD (sts xs) = some xs
  | [] => rfl
  | x :: xs => by
    show (strsD (sts xs)).map (x :: ·) = _
    rw [strsD_sts xs]
    rfl
/-! ## names cut short, spare names -/
theorem cutS_take {x : Str} {k : Nat} : (cutS x none (some (k : Int))).cps.toList = x.cps.toList.take k := by
  unfold cutS
  have e := cut_take (xs := x.cps.toList) (k := (k : Int)) (by omega)
  rw [Int.toNat_natCast] at e
  unfold cutD at e
  rw [len_list] at e
  rw [← e]
theorem sm36' : ("abcdefghijklmnopqrstuvwxyz0123456789" : Str).cps.toList = SM := rfl
theorem sm_26 {k : Int} (h0 : 0 ≤ k) (h1 : k < 26) : ∃ c, atI SM k = some c ∧ c ∈ ("abcdefghijklmnopqrstuvwxyz" : Str).cps.toList := by
  have : ∀ j : Nat, j < 26 → ∃ c, SM[j]? = some c ∧ c ∈ ("abcdefghijklmnopqrstuvwxyz" : Str).cps.toList := by
    have h : ∀ j : Nat, j < 26 → (SM[j]?).any (fun c => decide (c ∈ ("abcdefghijklmnopqrstuvwxyz" : Str).cps.toList)) = true := by decide +kernel
    intro j hj
    have := h j hj
    cases e : SM[j]? with
    | none => rw [e] at this; exact nomatch this
    | some c => rw [e] at this; exact ⟨c, rfl, of_decide_eq_true this⟩
  obtain ⟨c, hc, hm⟩ := this k.toNat (by omega)
  exact ⟨c, by rw [show k = ((k.toNat : Nat) : Int) by omega]; exact atI_nat hc, hm⟩
/-- chars of a name, before it is cut -/
structure Nm (b : Str) : Prop where
  all : ∀ c ∈ b.cps.toList, c ∈ SM
  fst : ∃ c, b.cps.toList[0]? = some c ∧ c ∈ ("abcdefghijklmnopqrstuvwxyz" : Str).cps.toList
theorem Base.nm {b : Str} (h : Base b) : Nm b := ⟨h.all, h.fst⟩
theorem Nm.ne {b : Str} (h : Nm b) : b.cps.toList ≠ [] := fun e => by
  obtain ⟨c, hc, _⟩ := h.fst
  rw [e] at hc
  exact nomatch hc
theorem nm_one {c : Nat} (hs : c ∈ ("abcdefghijklmnopqrstuvwxyz" : Str).cps.toList) : Nm ⟨#[c]⟩ := ⟨fun y hy => by rw [List.mem_singleton.mp (show y ∈ [c] from hy)]; exact small_sm c hs, c, rfl, hs⟩
theorem Nm.push {b : Str} (h : Nm b) {c : Nat} (hc : c ∈ SM) : Nm (b ++ ⟨#[c]⟩) := by
  refine ⟨fun y hy => ?_, ?_⟩
  · rw [app_list] at hy
    rcases List.mem_append.mp hy with q | q
    · exact h.all y q
    · rw [List.mem_singleton.mp (show y ∈ [c] from q)]; exact hc
  · obtain ⟨f, hf1, hf2⟩ := h.fst
    exact ⟨f, by rw [app_list, List.getElem?_append_left (List.getElem?_eq_some_iff.mp hf1).1]; exact hf1, hf2⟩
theorem Nm.cut {b : Str} (h : Nm b) : Base (cutS b none (some 8)) := by
  have e : (cutS b none (some 8)).cps.toList = b.cps.toList.take 8 := cutS_take (k := 8)
  refine ⟨fun y hy => ?_, ?_, ?_⟩
  · rw [e] at hy; exact h.all y (List.mem_of_mem_take hy)
  · obtain ⟨f, hf1, hf2⟩ := h.fst
    exact ⟨f, by rw [e, List.getElem?_take_of_lt (by decide)]; exact hf1, hf2⟩
  · rw [← len_list, e, List.length_take]; omega
def spare (b : Str) (j : Nat) : Str := cutS b none (some 1) ++ "5" ++ (toString (j : Int) : Str)
theorem five_list : ("5" : Str).cps.toList = [53] := by decide +kernel
theorem dig1 : ∀ j : Nat, j ≤ 6 → (toString (j : Int) : Str).length = 1 ∧ ∀ c ∈ (toString (j : Int) : Str).cps.toList, c ∈ SM := by decide +kernel
theorem dig_inj : ∀ i : Nat, i ≤ 6 → ∀ j : Nat, j ≤ 6 → (toString (i : Int) : Str) = toString (j : Int) → i = j := by decide +kernel
theorem spare_base {b : Str} (h : Nm b) {j : Nat} (hj : j ≤ 6) : Base (spare b j) := by
  have e : (cutS b none (some 1)).cps.toList = b.cps.toList.take 1 := cutS_take (k := 1)
  obtain ⟨f, hf1, hf2⟩ := h.fst
  obtain ⟨d1, d2⟩ := dig1 j hj
  have e1 : b.cps.toList.take 1 = [f] := by
    cases hl : b.cps.toList with
    | nil => rw [hl] at hf1; exact nomatch hf1
    | cons c r => rw [hl] at hf1; rw [show f = c from (Option.some.inj hf1).symm]; rfl
  have el : (spare b j).cps.toList = f :: 53 :: (toString (j : Int) : Str).cps.toList := by
    unfold spare
    rw [app_list, app_list, e, e1, five_list]; rfl
  refine ⟨fun y hy => ?_, ⟨f, by rw [el]; rfl, hf2⟩, ?_⟩
  · rw [el] at hy
    rcases List.mem_cons.mp hy with rfl | hy
    · exact small_sm _ hf2
    · rcases List.mem_cons.mp hy with rfl | hy
      · decide +kernel
      · exact d2 y hy
  · rw [← len_list, el, List.length_cons, List.length_cons, len_list, d1]; decide
theorem spare_inj {b : Str} {i j : Nat} (hi : i ≤ 6) (hj : j ≤ 6) (h : spare b i = spare b j) : i = j := by
  unfold spare at h
  have e := congrArg (fun s : Str => s.cps.toList) h
  simp only [app_list] at e
  exact dig_inj i hi j hj (ext_list (List.append_cancel_left e))
theorem spare_left {b : Str} {m : Nat} (hm : m ≤ 6) {ts : List Str} (hl : ts.length < m + 1) : ∃ j, j ≤ m ∧ spare b j ∉ ts := by
  refine Classical.byContradiction fun h => ?_
  have sub : (List.range (m + 1)).map (spare b) ⊆ ts := fun x hx => by
    obtain ⟨j, hj, rfl⟩ := List.mem_map.mp hx
    refine Classical.byContradiction fun z => h ⟨j, by have := List.mem_range.mp hj; omega, z⟩
  have nd : ((List.range (m + 1)).map (spare b)).Nodup := by
    unfold List.Nodup
    rw [List.pairwise_map]
    refine List.Pairwise.imp_of_mem ?_ List.nodup_range
    intro i j hi hj hne e
    have := List.mem_range.mp hi
    have := List.mem_range.mp hj
    exact hne (spare_inj (by omega) (by omega) e)
  have := List.Nodup.length_le_of_subset nd sub
  rw [List.length_map, List.length_range] at this
  omega
theorem rng0 (n : Nat) : rng 0 n = (List.range n).map fun j : Nat => D.int (j : Int) := by
  unfold rng
  exact List.map_congr_left fun j _ => by rw [Int.zero_add]
theorem flat_line {xs : List D} {g : D} {n : Nat} (h : flats xs = true) (h2 : g.flat = true) : D.wf n (.tup [.tup xs, g]) = true := wf_flat (show (flats xs && (g.flat && true)) = true by rw [h, h2]; rfl)
theorem flat_trip {xs : List D} {g w : D} {n : Nat} (h : flats xs = true) (h2 : g.flat = true) (h3 : w.flat = true) : D.wf n (.tup [.tup xs, g, w]) = true := wf_flat (show (flats xs && (g.flat && (w.flat && true))) = true by rw [h, h2, h3]; rfl)
theorem fl3 {s a b : D} (h1 : s.flat = true) (h2 : a.flat = true) (h3 : b.flat = true) : (D.tup [s, a, b]).flat = true := by
  show (s.flat && (a.flat && (b.flat && true))) = true
  rw [h1, h2, h3]; rfl
theorem gNe_int_ {a : Int} {S : Store} : gNe (.int a) (.int a) S = some (.bl false, S) := gNe_refl rfl (Nat.zero_le _)
end Lw

set_option Elab.async false
set_option linter.all false
set_option maxRecDepth 100000
namespace Lw
open PySem L2 Dl
/-! ## words with signs, pushed one on the other -/
abbrev Lt := Str × Bool
def inv1 (x : Lt) : Lt := (x.1, !x.2)
theorem inv1_inv1 (x : Lt) : inv1 (inv1 x) = x := by cases x with | mk a b => cases b <;> rfl
theorem inv1_ne (x : Lt) : inv1 x ≠ x := fun h => by
  cases x with
  | mk a b => cases b <;> cases h
def winv (w : List Lt) : List Lt := (w.map inv1).reverse
theorem winv_winv (w : List Lt) : winv (winv w) = w := by
  unfold winv
  rw [List.map_reverse, List.reverse_reverse, List.map_map]
  have : (inv1 ∘ inv1) = id := funext inv1_inv1
  rw [this, List.map_id]
theorem winv_app (a b : List Lt) : winv (a ++ b) = winv b ++ winv a := by unfold winv; rw [List.map_append, List.reverse_append]
theorem winv_cons (x : Lt) (b : List Lt) : winv (x :: b) = winv b ++ [inv1 x] := by unfold winv; rw [List.map_cons, List.reverse_cons]
def psh (S : List Lt) (x : Lt) : List Lt := if S.getLast? = some (inv1 x) then S.dropLast else S ++ [x]
def red (S w : List Lt) : List Lt := w.foldl psh S
theorem red_nil (S : List Lt) : red S [] = S := rfl
theorem red_cons (S : List Lt) (x : Lt) (w : List Lt) : red S (x :: w) = red (psh S x) w := rfl
theorem red_app (S a b : List Lt) : red S (a ++ b) = red (red S a) b := List.foldl_append ..
/-- no letter stands beside its opposite -/
def Rd : List Lt → Prop
  | [] => True
  | [_] => True
  | x :: y :: r => y ≠ inv1 x ∧ Rd (y :: r)
theorem rd_tail {x : Lt} {S : List Lt} (h : Rd (x :: S)) : Rd S := by
  cases S with
  | nil => trivial
  | cons y r => exact h.2
theorem rd_last : ∀ {S : List Lt} {x y : Lt}, Rd (S ++ [x, y]) → y ≠ inv1 x
  | [], x, y, h => h.1
  | z :: S, x, y, h => rd_last (S := S) (rd_tail h)
theorem rd_init : ∀ {S : List Lt} {x : Lt}, Rd (S ++ [x]) → Rd S
  | [], _, _ => trivial
  | [z], _, _ => trivial
  | z :: w :: S, x, h => ⟨h.1, rd_init (S := w :: S) (x := x) h.2⟩
theorem rd_push : ∀ {S : List Lt} {x : Lt}, Rd S → S.getLast? ≠ some (inv1 x) → Rd (S ++ [x])
  | [], _, _, _ => trivial
  | [z], x, _, h => ⟨fun e => h (by rw [e, inv1_inv1]; rfl), trivial⟩
  | z :: w :: S, x, h, h2 => ⟨h.1, rd_push (S := w :: S) h.2 (by rw [List.getLast?_cons_cons] at h2; exact h2)⟩
theorem psh_rd {S : List Lt} {x : Lt} (h : Rd S) : Rd (psh S x) := by
  unfold psh
  split
  · rename_i e
    obtain ⟨T, rfl⟩ := List.getLast?_eq_some_iff.mp e
    rw [List.dropLast_concat]
    exact rd_init h
  · rename_i e
    exact rd_push h e
theorem red_rd : ∀ {w S : List Lt}, Rd S → Rd (red S w)
  | [], S, h => h
  | x :: w, S, h => red_rd (w := w) (psh_rd h)
theorem psh_back {S : List Lt} {x : Lt} (h : Rd S) : psh (psh S x) (inv1 x) = S := by
  by_cases e : S.getLast? = some (inv1 x)
  · obtain ⟨T, rfl⟩ := List.getLast?_eq_some_iff.mp e
    have e1 : psh (T ++ [inv1 x]) x = T := by unfold psh; rw [if_pos e, List.dropLast_concat]
    rw [e1]
    unfold psh
    rw [if_neg]
    intro e2
    rw [inv1_inv1] at e2
    obtain ⟨U, rfl⟩ := List.getLast?_eq_some_iff.mp e2
    have : Rd (U ++ [x, inv1 x]) := by rw [List.append_assoc] at h; exact h
    exact rd_last this rfl
  · have e1 : psh S x = S ++ [x] := by unfold psh; rw [if_neg e]
    rw [e1]
    unfold psh
    rw [if_pos (by rw [inv1_inv1, List.getLast?_concat]), List.dropLast_concat]
theorem red_back : ∀ {w S : List Lt}, Rd S → red (red S w) (winv w) = S
  | [], S, _ => rfl
  | x :: w, S, h => by
    have h1 := red_back (w := w) (psh_rd (x := x) h)
    rw [winv_cons, red_app, show red S (x :: w) = red (psh S x) w from rfl, h1]
    exact psh_back h
/-- the two balances agree -/
theorem red_same (a b : List Lt) : red [] (a ++ winv b) = [] ↔ red [] a = red [] b := by
  have r0 : Rd ([] : List Lt) := trivial
  rw [red_app]
  constructor
  · intro h
    have h1 := red_back (w := winv b) (red_rd (w := a) r0)
    rw [h, winv_winv] at h1
    exact h1.symm
  · intro h
    rw [h]
    exact red_back r0
/-! ## the letters of a kind, of a line -/
def KT.lt : KT → List Lt
  | .leaf t => [(t, true)]
  | .node s a b => if s = "/" then a.lt ++ winv b.lt else if s = ">" then winv a.lt ++ b.lt else a.lt ++ b.lt
def ltD (x : Lt) : D := .tup [.str x.1, .int (if x.2 then 1 else -1)]
def ltds (w : List Lt) : List D := w.map ltD
theorem ltds_flat : ∀ w : List Lt, flats (ltds w) = true
  | [] => rfl
  | x :: w => by show (true && flats (ltds w)) = true; rw [ltds_flat w]; rfl
theorem ltds_len (w : List Lt) : (ltds w).length = w.length := List.length_map ..
theorem ltds_app (a b : List Lt) : ltds (a ++ b) = ltds a ++ ltds b := List.map_append ..
theorem psh_len (S : List Lt) (x : Lt) : (psh S x).length ≤ S.length + 1 := by
  unfold psh
  split
  · rw [List.length_dropLast]; omega
  · rw [List.length_append]; exact Nat.le_refl _
theorem red_len : ∀ (w S : List Lt), (red S w).length ≤ S.length + w.length
  | [], S => Nat.le_refl _
  | x :: w, S => by
    have h1 := red_len w (psh S x)
    have h2 := psh_len S x
    show (red (psh S x) w).length ≤ S.length + (w.length + 1)
    omega
theorem winv_len (w : List Lt) : (winv w).length = w.length := by unfold winv; rw [List.length_reverse, List.length_map]
theorem lt_len : ∀ k : KT, k.lt.length = k.at_.length
  | .leaf t => rfl
  | .node s a b => by
    have ha := lt_len a
    have hb := lt_len b
    have hw := winv_len a.lt
    have hv := winv_len b.lt
    rw [KT.len_node]
    unfold KT.lt
    split
    · rw [List.length_append]; omega
    · split <;> (rw [List.length_append]; omega)
/-- a line -/
abbrev Ln := List KT × KT
def lnD (l : Ln) : D := .tup [.tup (kds l.1), l.2.d]
def lnds (ls : List Ln) : List D := ls.map lnD
theorem lnD_flat (l : Ln) : (lnD l).flat = true := by
  show (flats (kds l.1) && (l.2.d.flat && true)) = true
  rw [kds_flat, KT.flat]; rfl
theorem lnds_flat : ∀ ls : List Ln, flats (lnds ls) = true
  | [] => rfl
  | l :: ls => by show ((lnD l).flat && flats (lnds ls)) = true; rw [lnD_flat, lnds_flat ls]; rfl
theorem lnds_len (ls : List Ln) : (lnds ls).length = ls.length := List.length_map ..
theorem lnds_app (a b : List Ln) : lnds (a ++ b) = lnds a ++ lnds b := List.map_append ..
def rlt (ks : List KT) : List Lt := ks.flatMap KT.lt
theorem rlt_cons (k : KT) (ks : List KT) : rlt (k :: ks) = k.lt ++ rlt ks := List.flatMap_cons ..
theorem rlt_app (a b : List KT) : rlt (a ++ b) = rlt a ++ rlt b := List.flatMap_append ..
theorem rlt_len : ∀ ks : List KT, ((rlt ks).length : Int) = szs ks
  | [] => rfl
  | k :: ks => by
    have h := rlt_len ks
    have h2 := lt_len k
    rw [rlt_cons, List.length_append, szs_cons]
    unfold sz
    omega
/-- the balances of a line differ -/
def dif (l : Ln) : Bool := decide (red [] (rlt l.1) ≠ red [] l.2.lt)
theorem dif_eq (l : Ln) : dif l = decide (0 < (red [] (rlt l.1 ++ winv l.2.lt)).length) := by
  unfold dif
  refine decide_eq_decide.mpr ?_
  constructor
  · intro h
    refine Nat.pos_of_ne_zero fun e => h ?_
    exact (red_same _ _).mp (List.eq_nil_of_length_eq_zero e)
  · intro h e
    rw [(red_same _ _).mpr e] at h
    exact Nat.lt_irrefl _ h
theorem str_deq {a b : Str} : deq (.str a) (.str b) = decide (a = b) := Dl.nr rfl
theorem int_deq {a b : Int} : deq (.int a) (.int b) = decide (a = b) := Dl.nr rfl
theorem KT.d_inj : ∀ {a b : KT}, a.d = b.d → a = b
  | .leaf t, .leaf u, h => by injection h with h; rw [h]
  | .leaf t, .node s a b, h => nomatch h
  | .node s a b, .leaf t, h => nomatch h
  | .node s a b, .node s' a' b', h => by
    injection h with h
    injection h with h1 h
    injection h with h2 h
    injection h with h3 h
    injection h1 with h1
    rw [h1, KT.d_inj h2, KT.d_inj h3]
theorem kds_inj : ∀ {a b : List KT}, kds a = kds b → a = b
  | [], [], _ => rfl
  | [], _ :: _, h => nomatch h
  | _ :: _, [], h => nomatch h
  | x :: a, y :: b, h => by
    injection h with h1 h2
    rw [KT.d_inj h1, kds_inj h2]
theorem lnD_inj {a b : Ln} (h : lnD a = lnD b) : a = b := by
  injection h with h
  injection h with h1 h
  injection h with h2 h
  injection h1 with h1
  exact Prod.ext (kds_inj h1) (KT.d_inj h2)
end Lw

set_option Elab.async false
set_option linter.all false
set_option maxRecDepth 100000
namespace Lw
open PySem L2 Dl
/-! ## the text of a repr, signs as a list -/
def plainC (c : Nat) : Prop := Builtin.Str.reprChar 39 c = [c] ∧ c ≠ 39 ∧ c ≠ 34
instance (c : Nat) : Decidable (plainC c) := inferInstanceAs (Decidable (_ ∧ _))
theorem sm_plain : ∀ c ∈ SM, plainC c := by decide +kernel
theorem extra_plain : ∀ c ∈ [46, 47, 62, 42], plainC c := by decide +kernel
theorem foldl_plain : ∀ (l : List Nat) (acc : Array Nat), (∀ c ∈ l, plainC c) → (l.foldl (fun out c => out ++ (Builtin.Str.reprChar 39 c).toArray) acc).toList = acc.toList ++ l
  | [], acc, _ => (List.append_nil _).symm
  | c :: r, acc, h => by
    rw [List.foldl_cons, foldl_plain r _ fun d hd => h d (List.mem_cons_of_mem _ hd), (h c (List.mem_cons_self ..)).1, Array.toList_append, List.append_assoc]
    rfl
theorem quote_plain {x : Str} (h : ∀ c ∈ x.cps.toList, plainC c) : reprQuote x = 39 := by
  unfold reprQuote
  have : x.cps.contains 39 = false := by
    rw [Bool.eq_false_iff]
    intro e
    rw [Array.contains_iff_mem] at e
    exact (h 39 (Array.mem_toList_iff.mpr e)).2.1 rfl
  rw [this]
  rfl
theorem repr_plain {x : Str} (h : ∀ c ∈ x.cps.toList, plainC c) : (reprText x).cps.toList = 39 :: x.cps.toList ++ [39] := by
  unfold reprText
  rw [quote_plain h]
  show ((x.cps.foldl (fun out c => out ++ (Builtin.Str.reprChar 39 c).toArray) #[39]).push 39).toList = _
  rw [Array.toList_push, ← Array.foldl_toList, foldl_plain _ _ h]
  rfl
mutual
/-- tuples of plain texts -/
def Pt : D → Prop
  | .str x => ∀ c ∈ x.cps.toList, plainC c
  | .tup xs => Pts xs
  | _ => False
def Pts : List D → Prop
  | [] => True
  | x :: xs => Pt x ∧ Pts xs
end
mutual
def cD : D → List Nat
  | .str x => 39 :: x.cps.toList ++ [39]
  | .tup xs => 40 :: cT xs
  | _ => []
def cT : List D → List Nat
  | [] => [41]
  | [x] => cD x ++ [44, 41]
  | x :: y :: r => cD x ++ cR (y :: r)
def cR : List D → List Nat
  | [] => [41]
  | x :: r => 44 :: 32 :: cD x ++ cR r
end
theorem cD_tup (xs : List D) : cD (.tup xs) = 40 :: cT xs := by rw [cD]
theorem cD_str (x : Str) : cD (.str x) = 39 :: x.cps.toList ++ [39] := by rw [cD]
theorem cT_nil : cT [] = [41] := by rw [cT]
theorem cT_one (x : D) : cT [x] = cD x ++ [44, 41] := by rw [cT]
theorem cT_two (x y : D) (r : List D) : cT (x :: y :: r) = cD x ++ cR (y :: r) := by rw [cT]
theorem cR_nil : cR [] = [41] := by rw [cR]
theorem cR_cons (x : D) (r : List D) : cR (x :: r) = 44 :: 32 :: cD x ++ cR r := by rw [cR]
/-- what a repr begins with -/
theorem cD_head : ∀ {d : D}, Pt d → ∃ c w, cD d = c :: w ∧ (c = 39 ∨ c = 40)
  | .str x, _ => ⟨39, _, cD_str x, .inl rfl⟩
  | .tup xs, _ => ⟨40, _, cD_tup xs, .inr rfl⟩
theorem quo_inj : ∀ {a b u v : List Nat}, 39 ∉ a → 39 ∉ b → a ++ 39 :: u = b ++ 39 :: v → a = b ∧ u = v
  | [], [], u, v, _, _, h => by injection h with _ h; exact ⟨rfl, h⟩
  | [], y :: b, u, v, _, hb, h => by injection h with h _; exact absurd (by rw [← h]; exact List.mem_cons_self ..) hb
  | x :: a, [], u, v, ha, _, h => by injection h with h _; exact absurd (by rw [h]; exact List.mem_cons_self ..) ha
  | x :: a, y :: b, u, v, ha, hb, h => by
    injection h with h1 h2
    obtain ⟨e1, e2⟩ := quo_inj (fun q => ha (List.mem_cons_of_mem _ q)) (fun q => hb (List.mem_cons_of_mem _ q)) h2
    exact ⟨by rw [h1, e1], e2⟩
mutual
theorem cD_inj : ∀ {d e : D} {u v : List Nat}, Pt d → Pt e → cD d ++ u = cD e ++ v → d = e ∧ u = v
  | .str x, .str y, u, v, hx, hy, h => by
    rw [cD_str, cD_str] at h
    injection h with _ h
    have h : (x.cps.toList ++ [39]) ++ u = (y.cps.toList ++ [39]) ++ v := h
    rw [List.append_assoc, List.append_assoc] at h
    obtain ⟨e1, e2⟩ := quo_inj (fun q => (hx 39 q).2.1 rfl) (fun q => (hy 39 q).2.1 rfl) h
    exact ⟨by rw [ext_list e1], e2⟩
  | .str x, .tup ys, u, v, _, _, h => by rw [cD_str, cD_tup] at h; injection h with h _; cases h
  | .tup xs, .str y, u, v, _, _, h => by rw [cD_str, cD_tup] at h; injection h with h _; cases h
  | .tup xs, .tup ys, u, v, hx, hy, h => by
    rw [cD_tup, cD_tup] at h
    injection h with _ h
    obtain ⟨e1, e2⟩ := cT_inj (xs := xs) (ys := ys) hx hy h
    exact ⟨by rw [e1], e2⟩
theorem cT_inj : ∀ {xs ys : List D} {u v : List Nat}, Pts xs → Pts ys → cT xs ++ u = cT ys ++ v → xs = ys ∧ u = v
  | [], [], u, v, _, _, h => by rw [cT_nil] at h; injection h with _ h; exact ⟨rfl, h⟩
  | [], [y], u, v, _, hy, h => by
    obtain ⟨c, w, e, q⟩ := cD_head hy.1
    rw [cT_nil, cT_one, e] at h; injection h with h _; omega
  | [], y :: z :: r, u, v, _, hy, h => by
    obtain ⟨c, w, e, q⟩ := cD_head hy.1
    rw [cT_nil, cT_two, e] at h; injection h with h _; omega
  | [x], [], u, v, hx, _, h => by
    obtain ⟨c, w, e, q⟩ := cD_head hx.1
    rw [cT_nil, cT_one, e] at h; injection h with h _; omega
  | x :: x2 :: r, [], u, v, hx, _, h => by
    obtain ⟨c, w, e, q⟩ := cD_head hx.1
    rw [cT_nil, cT_two, e] at h; injection h with h _; omega
  | [x], [y], u, v, hx, hy, h => by
    rw [cT_one, cT_one, List.append_assoc, List.append_assoc] at h
    obtain ⟨e1, e2⟩ := cD_inj hx.1 hy.1 h
    injection e2 with _ e2; injection e2 with _ e2
    exact ⟨by rw [e1], e2⟩
  | [x], y :: z :: r, u, v, hx, hy, h => by
    rw [cT_one, cT_two, List.append_assoc, List.append_assoc, cR_cons] at h
    obtain ⟨e1, e2⟩ := cD_inj hx.1 hy.1 h
    injection e2 with _ e2; injection e2 with e2 _; cases e2
  | x :: x2 :: r, [y], u, v, hx, hy, h => by
    rw [cT_one, cT_two, List.append_assoc, List.append_assoc, cR_cons] at h
    obtain ⟨e1, e2⟩ := cD_inj hx.1 hy.1 h
    injection e2 with _ e2; injection e2 with e2 _; cases e2
  | x :: x2 :: r, y :: y2 :: q, u, v, hx, hy, h => by
    rw [cT_two, cT_two, List.append_assoc, List.append_assoc] at h
    obtain ⟨e1, e2⟩ := cD_inj hx.1 hy.1 h
    obtain ⟨e3, e4⟩ := cR_inj (xs := x2 :: r) (ys := y2 :: q) hx.2 hy.2 e2
    exact ⟨by rw [e1, e3], e4⟩
theorem cR_inj : ∀ {xs ys : List D} {u v : List Nat}, Pts xs → Pts ys → cR xs ++ u = cR ys ++ v → xs = ys ∧ u = v
  | [], [], u, v, _, _, h => by rw [cR_nil] at h; injection h with _ h; exact ⟨rfl, h⟩
  | [], y :: r, u, v, _, _, h => by rw [cR_nil, cR_cons] at h; injection h with h _; cases h
  | x :: r, [], u, v, _, _, h => by rw [cR_nil, cR_cons] at h; injection h with h _; cases h
  | x :: r, y :: q, u, v, hx, hy, h => by
    rw [cR_cons, cR_cons] at h
    injection h with _ h; injection h with _ h
    have h : (cD x ++ cR r) ++ u = (cD y ++ cR q) ++ v := h
    rw [List.append_assoc, List.append_assoc] at h
    obtain ⟨e1, e2⟩ := cD_inj hx.1 hy.1 h
    obtain ⟨e3, e4⟩ := cR_inj hx.2 hy.2 e2
    exact ⟨by rw [e1, e3], e4⟩
end
theorem comma_list : (", " : Str).cps.toList = [44, 32] := by decide +kernel
theorem open_list : ("(" : Str).cps.toList = [40] := by decide +kernel
theorem close_list : (")" : Str).cps.toList = [41] := by decide +kernel
theorem close1_list : (",)" : Str).cps.toList = [44, 41] := by decide +kernel
mutual
theorem shown_cD : ∀ {d : D}, Pt d → ((toPy d).shown).cps.toList = cD d
  | .str x, h => by rw [cD_str]; exact repr_plain h
  | .tup [], _ => by
    rw [cD_tup, cT_nil]
    decide +kernel
  | .tup [x], h => by
    rw [cD_tup, cT_one]
    have e := shown_cD (d := x) h.1
    show ((("(" : Str) ++ (toPy x).shown) ++ (",)" : Str)).cps.toList = _
    rw [app_list, app_list, open_list, close1_list, e]
    rfl
  | .tup (x :: y :: r), h => by
    rw [cD_tup, cT_two]
    have e := shown_cD (d := x) h.1
    have e2 := (joined_cR (y :: r) h.2).resolve_right (fun q => nomatch q)
    show ((("(" : Str) ++ ((toPy x).shown ++ ", " ++ Str.join ", " (PyData.shownAll (toPys (y :: r))))) ++ (if ((PyData.shownAll (toPys (x :: y :: r))).length == 1) = true then (",)" : String) else (")" : String) : String)).cps.toList = _
    rw [if_neg (by show ¬ ((PyData.shownAll (toPys r)).length + 1 + 1 == 1) = true; rw [beq_iff_eq]; omega)]
    rw [app_list, app_list, app_list, app_list, open_list, close_list, comma_list, e, List.append_assoc, List.append_assoc, List.append_assoc, e2]
    rfl
theorem joined_cR : ∀ (xs : List D), Pts xs → [44, 32] ++ ((Str.join ", " (PyData.shownAll (toPys xs))).cps.toList ++ [41]) = cR xs ∨ xs = []
  | [], _ => .inr rfl
  | [x], h => by
    left
    have e := shown_cD (d := x) h.1
    rw [cR_cons, cR_nil]
    show [44, 32] ++ (((toPy x).shown).cps.toList ++ [41]) = _
    rw [e]; rfl
  | x :: y :: r, h => by
    left
    have e := shown_cD (d := x) h.1
    have e2 := (joined_cR (y :: r) h.2).resolve_right (fun q => nomatch q)
    rw [cR_cons, ← e2]
    show [44, 32] ++ (((toPy x).shown ++ ", " ++ Str.join ", " (PyData.shownAll (toPys (y :: r)))).cps.toList ++ [41]) = _
    rw [app_list, app_list, comma_list, e]
    simp only [List.append_assoc, List.cons_append, List.nil_append]
end
end Lw

set_option Elab.async false
set_option linter.all false
set_option maxRecDepth 100000
namespace Lw
open PySem L2 Dl
/-! ## the texts of lines -/
theorem AtS.chars {t : Str} (h : AtS t) : ∀ c ∈ t.cps.toList, c ∈ SM ∨ c = 46 := by
  obtain ⟨b, m, rfl, hb, m0, m1⟩ := h
  unfold atT
  split
  · exact fun c hc => .inl (hb.all c hc)
  · intro c hc
    rw [app_list, app_list, dot_list] at hc
    rcases List.mem_append.mp hc with q | q
    · rcases List.mem_append.mp q with q | q
      · exact .inl (hb.all c q)
      · exact .inr (List.mem_singleton.mp q)
    · have := num_dig m0 c q
      exact .inl ((show ∀ c ∈ ("0123456789" : Str).cps.toList, c ∈ SM by decide +kernel) c this)
theorem AtS.plain {t : Str} (h : AtS t) : ∀ c ∈ t.cps.toList, plainC c := fun c hc => by
  rcases h.chars c hc with q | q
  · exact sm_plain c q
  · rw [q]; decide +kernel
theorem Sg.plain {s : Str} (h : Sg s) : ∀ c ∈ s.cps.toList, plainC c := by
  rcases h with rfl | rfl | rfl <;> decide +kernel
theorem KT.pt : ∀ {k : KT}, k.ok AtS → Pt k.d
  | .leaf t, h => by rw [KTd_leaf, Pt]; exact AtS.plain h
  | .node s a b, h => by
    rw [KTd_node, Pt]
    rw [Pts, Pts, Pts, Pts, Pt]
    exact ⟨Sg.plain h.1, KT.pt h.2.1, KT.pt h.2.2, trivial⟩
theorem kds_pt : ∀ {ks : List KT}, (∀ k ∈ ks, k.ok AtS) → Pts (kds ks)
  | [], _ => by show Pts []; rw [Pts]; trivial
  | k :: ks, h => by
    show Pts (k.d :: kds ks)
    rw [Pts]
    exact ⟨KT.pt (h k (List.mem_cons_self ..)), kds_pt fun q hq => h q (List.mem_cons_of_mem _ hq)⟩
/-- a line of good kinds -/
structure LOK (l : Ln) : Prop where
  row : ∀ k ∈ l.1, k.ok AtS ∧ k.at_.length ≤ 12
  goal : l.2.ok AtS ∧ l.2.at_.length ≤ 12
  len : l.1.length ≤ 42
  pos : 1 ≤ l.1.length
theorem lnD_pt {l : Ln} (h1 : ∀ k ∈ l.1, k.ok AtS) (h2 : l.2.ok AtS) : Pt (lnD l) := by
  unfold lnD
  rw [Pt, Pts, Pts, Pts, Pt]
  exact ⟨kds_pt h1, KT.pt h2, trivial⟩
theorem LOK.pt {l : Ln} (h : LOK l) : Pt (lnD l) := lnD_pt (fun k hk => (h.row k hk).1) h.goal.1
def shw (l : Ln) : Str := (toPy (lnD l)).shown
theorem shw_inj {a b : Ln} (ha : LOK a) (hb : LOK b) (h : shw a = shw b) : a = b := by
  have e : ((toPy (lnD a)).shown).cps.toList = ((toPy (lnD b)).shown).cps.toList := congrArg (fun s : Str => s.cps.toList) h
  rw [shown_cD ha.pt, shown_cD hb.pt] at e
  exact lnD_inj (cD_inj (u := []) (v := []) ha.pt hb.pt (by rw [List.append_nil, List.append_nil]; exact e)).1
/-! ### the kit's format -/
def KT.leaf? : KT → Bool
  | .leaf _ => true
  | .node _ _ _ => false
/-- format_kind's text -/
def KT.fk : KT → Str
  | .leaf t => t
  | .node s a b => (if a.leaf? then a.fk else "(" ++ a.fk ++ ")") ++ " " ++ s ++ " " ++ (if b.leaf? then b.fk else "(" ++ b.fk ++ ")")
def KT.fp (k : KT) : Str := if k.leaf? then k.fk else "(" ++ k.fk ++ ")"
theorem KT.fk_node (s : Str) (a b : KT) : (KT.node s a b).fk = a.fp ++ " " ++ s ++ " " ++ b.fp := rfl
theorem KT.fp_leaf (t : Str) : (KT.leaf t).fp = t := rfl
theorem KT.fp_node (s : Str) (a b : KT) : (KT.node s a b).fp = "(" ++ (KT.node s a b).fk ++ ")" := rfl
theorem blank_list : (" " : Str).cps.toList = [32] := by decide +kernel
def AC (c : Nat) : Prop := c ∈ SM ∨ c = 46
theorem ac_ne {c : Nat} (h : AC c) : c ≠ 32 ∧ c ≠ 40 ∧ c ≠ 41 ∧ c ≠ 44 := by
  rcases h with h | rfl
  · exact (show ∀ c ∈ SM, c ≠ 32 ∧ c ≠ 40 ∧ c ≠ 41 ∧ c ≠ 44 by decide +kernel) c h
  · decide
/-- what follows an atom -/
def Stop (u : List Nat) : Prop := ∀ c w, u = c :: w → ¬ AC c
theorem word_inj : ∀ {a b u v : List Nat}, (∀ c ∈ a, AC c) → (∀ c ∈ b, AC c) → Stop u → Stop v → a ++ u = b ++ v → a = b ∧ u = v
  | [], [], u, v, _, _, _, _, h => ⟨rfl, h⟩
  | [], y :: b, u, v, _, hb, hu, _, h => absurd (hb y (List.mem_cons_self ..)) (hu y _ h)
  | x :: a, [], u, v, ha, _, _, hv, h => absurd (ha x (List.mem_cons_self ..)) (hv x _ h.symm)
  | x :: a, y :: b, u, v, ha, hb, hu, hv, h => by
    injection h with h1 h2
    obtain ⟨e1, e2⟩ := word_inj (fun c hc => ha c (List.mem_cons_of_mem _ hc)) (fun c hc => hb c (List.mem_cons_of_mem _ hc)) hu hv h2
    exact ⟨by rw [h1, e1], e2⟩
theorem stop_cons {c : Nat} {w : List Nat} (h : ¬ AC c) : Stop (c :: w) := fun d w' e => by injection e with e _; rw [← e]; exact h
theorem nac_32 : ¬ AC 32 := fun h => (ac_ne h).1 rfl
theorem nac_40 : ¬ AC 40 := fun h => (ac_ne h).2.1 rfl
theorem nac_41 : ¬ AC 41 := fun h => (ac_ne h).2.2.1 rfl
theorem nac_44 : ¬ AC 44 := fun h => (ac_ne h).2.2.2 rfl
theorem AtS.head {t : Str} (h : AtS t) : ∃ c w, t.cps.toList = c :: w ∧ AC c := by
  have h2 := h.chars
  have h1 : 1 ≤ t.cps.toList.length := by
    obtain ⟨b, m, rfl, hb, m0, m1⟩ := h
    have := hb.ne
    rw [len_list]
    unfold atT
    split
    · exact this
    · rw [app_len, app_len]; omega
  cases e : t.cps.toList with
  | nil => rw [e] at h1; exact absurd h1 (by decide)
  | cons c w => exact ⟨c, w, rfl, h2 c (by rw [e]; exact List.mem_cons_self ..)⟩
theorem sg_list {s : Str} (h : Sg s) : ∃ c, s.cps.toList = [c] ∧ (c = 47 ∨ c = 62 ∨ c = 42) := by
  rcases h with rfl | rfl | rfl
  · exact ⟨47, by decide +kernel, .inl rfl⟩
  · exact ⟨62, by decide +kernel, .inr (.inl rfl)⟩
  · exact ⟨42, by decide +kernel, .inr (.inr rfl)⟩
theorem fk_nodeL {s : Str} {a b : KT} : (KT.node s a b).fk.cps.toList = a.fp.cps.toList ++ (32 :: (s.cps.toList ++ (32 :: b.fp.cps.toList))) := by
  rw [KT.fk_node, app_list, app_list, app_list, app_list, blank_list]
  simp only [List.append_assoc, List.cons_append, List.nil_append]
theorem fp_nodeL {s : Str} {a b : KT} : (KT.node s a b).fp.cps.toList = 40 :: (a.fp.cps.toList ++ (32 :: (s.cps.toList ++ (32 :: (b.fp.cps.toList ++ [41]))))) := by
  rw [KT.fp_node, app_list, app_list, open_list, close_list, fk_nodeL]
  simp only [List.append_assoc, List.cons_append, List.nil_append]
theorem fp_inj : ∀ {a b : KT} {u v : List Nat}, a.ok AtS → b.ok AtS → Stop u → Stop v → a.fp.cps.toList ++ u = b.fp.cps.toList ++ v → a = b ∧ u = v
  | .leaf t, .leaf t', u, v, h, h', hu, hv, e => by
    obtain ⟨e1, e2⟩ := word_inj (AtS.chars h) (AtS.chars h') hu hv e
    exact ⟨by rw [ext_list e1], e2⟩
  | .leaf t, .node s a b, u, v, h, h', hu, hv, e => by
    obtain ⟨c, w, q, qc⟩ := AtS.head h
    rw [fp_nodeL, KT.fp_leaf, q] at e
    injection e with e _
    rw [e] at qc
    exact absurd qc nac_40
  | .node s a b, .leaf t, u, v, h, h', hu, hv, e => by
    obtain ⟨c, w, q, qc⟩ := AtS.head h'
    rw [fp_nodeL, KT.fp_leaf, q] at e
    injection e with e _
    rw [← e] at qc
    exact absurd qc nac_40
  | .node s a b, .node s' a' b', u, v, h, h', hu, hv, e => by
    rw [fp_nodeL, fp_nodeL] at e
    injection e with _ e
    obtain ⟨c, hc, _⟩ := sg_list h.1
    obtain ⟨c', hc', _⟩ := sg_list h'.1
    rw [hc, hc'] at e
    have e : a.fp.cps.toList ++ (32 :: c :: 32 :: (b.fp.cps.toList ++ (41 :: u))) = a'.fp.cps.toList ++ (32 :: c' :: 32 :: (b'.fp.cps.toList ++ (41 :: v))) := by
      simpa only [List.append_eq, List.append_assoc, List.cons_append, List.nil_append] using e
    obtain ⟨e1, e2⟩ := fp_inj h.2.1 h'.2.1 (stop_cons nac_32) (stop_cons nac_32) e
    injection e2 with _ e2
    injection e2 with e3 e2
    injection e2 with _ e2
    obtain ⟨e4, e5⟩ := fp_inj h.2.2 h'.2.2 (stop_cons nac_41) (stop_cons nac_41) e2
    injection e5 with _ e5
    exact ⟨by rw [e1, e4, ext_list (hc.trans (by rw [e3, hc']))], e5⟩
/-- what follows a kind -/
def Stp (u : List Nat) : Prop := Stop u ∧ ∀ c w, u = 32 :: c :: w → c = 61
theorem fk_mixed {t : Str} {s : Str} {a b : KT} {u v : List Nat} (ht : AtS t) (hn : (KT.node s a b).ok AtS) (hu : Stp u) (e : t.cps.toList ++ u = (KT.node s a b).fk.cps.toList ++ v) : False := by
  obtain ⟨c, hc, q⟩ := sg_list hn.1
  rw [fk_nodeL, hc] at e
  have e : (KT.leaf t).fp.cps.toList ++ u = a.fp.cps.toList ++ (32 :: c :: 32 :: (b.fp.cps.toList ++ v)) := by
    rw [KT.fp_leaf]
    simpa only [List.append_eq, List.append_assoc, List.cons_append, List.nil_append] using e
  obtain ⟨_, e2⟩ := fp_inj (a := .leaf t) ht hn.2.1 hu.1 (stop_cons nac_32) e
  have := hu.2 _ _ e2
  omega
theorem fk_inj : ∀ {a b : KT} {u v : List Nat}, a.ok AtS → b.ok AtS → Stp u → Stp v → a.fk.cps.toList ++ u = b.fk.cps.toList ++ v → a = b ∧ u = v
  | .leaf t, .leaf t', u, v, h, h', hu, hv, e => by
    obtain ⟨e1, e2⟩ := word_inj (AtS.chars h) (AtS.chars h') hu.1 hv.1 e
    exact ⟨by rw [ext_list e1], e2⟩
  | .leaf t, .node s a b, u, v, h, h', hu, hv, e => (fk_mixed h h' hu e).elim
  | .node s a b, .leaf t, u, v, h, h', hu, hv, e => (fk_mixed h' h hv e.symm).elim
  | .node s a b, .node s' a' b', u, v, h, h', hu, hv, e => by
    obtain ⟨c, hc, _⟩ := sg_list h.1
    obtain ⟨c', hc', _⟩ := sg_list h'.1
    rw [fk_nodeL, fk_nodeL, hc, hc'] at e
    have e : a.fp.cps.toList ++ (32 :: c :: 32 :: (b.fp.cps.toList ++ u)) = a'.fp.cps.toList ++ (32 :: c' :: 32 :: (b'.fp.cps.toList ++ v)) := by
      simpa only [List.append_eq, List.append_assoc, List.cons_append, List.nil_append] using e
    obtain ⟨e1, e2⟩ := fp_inj h.2.1 h'.2.1 (stop_cons nac_32) (stop_cons nac_32) e
    injection e2 with _ e2
    injection e2 with e3 e2
    injection e2 with _ e2
    obtain ⟨e4, e5⟩ := fp_inj h.2.2 h'.2.2 hu.1 hv.1 e2
    exact ⟨by rw [e1, e4, ext_list (hc.trans (by rw [e3, hc']))], e5⟩
theorem stp_comma {w : List Nat} : Stp (44 :: w) := ⟨stop_cons nac_44, fun c w' e => by injection e with e _; cases e⟩
theorem stp_arrow {w : List Nat} : Stp (32 :: 61 :: w) := ⟨stop_cons nac_32, fun c w' e => by injection e with _ e; injection e with e _; exact e.symm⟩
theorem stp_nil : Stp [] := ⟨(fun _ _ e => nomatch e), (fun _ _ e => nomatch e)⟩
def fks (ks : List KT) : Str := Str.join ", " (ks.map KT.fk)
theorem fks_one (k : KT) : (fks [k]).cps.toList = k.fk.cps.toList := rfl
theorem fks_two (k j : KT) (r : List KT) : (fks (k :: j :: r)).cps.toList = k.fk.cps.toList ++ (44 :: 32 :: (fks (j :: r)).cps.toList) := by
  show (k.fk ++ ", " ++ fks (j :: r)).cps.toList = _
  rw [app_list, app_list, comma_list, List.append_assoc]; rfl
theorem fks_inj : ∀ {a b : List KT} {u v : List Nat}, (∀ k ∈ a, k.ok AtS) → (∀ k ∈ b, k.ok AtS) → 1 ≤ a.length → 1 ≤ b.length → (fks a).cps.toList ++ (32 :: 61 :: u) = (fks b).cps.toList ++ (32 :: 61 :: v) → a = b ∧ u = v
  | [], _, _, _, _, _, h, _, _ => absurd h (by decide)
  | _ :: _, [], _, _, _, _, _, h, _ => absurd h (by decide)
  | [k], [j], u, v, ha, hb, _, _, e => by
    rw [fks_one, fks_one] at e
    obtain ⟨e1, e2⟩ := fk_inj (ha k (List.mem_cons_self ..)) (hb j (List.mem_cons_self ..)) stp_arrow stp_arrow e
    injection e2 with _ e2; injection e2 with _ e2
    exact ⟨by rw [e1], e2⟩
  | [k], j :: j2 :: r, u, v, ha, hb, _, _, e => by
    rw [fks_one, fks_two, List.append_assoc] at e
    obtain ⟨e1, e2⟩ := fk_inj (ha k (List.mem_cons_self ..)) (hb j (List.mem_cons_self ..)) stp_arrow stp_comma e
    injection e2 with e2 _; cases e2
  | k :: k2 :: r, [j], u, v, ha, hb, _, _, e => by
    rw [fks_one, fks_two, List.append_assoc] at e
    obtain ⟨e1, e2⟩ := fk_inj (ha k (List.mem_cons_self ..)) (hb j (List.mem_cons_self ..)) stp_comma stp_arrow e
    injection e2 with e2 _; cases e2
  | k :: k2 :: r, j :: j2 :: q, u, v, ha, hb, _, _, e => by
    rw [fks_two, fks_two, List.append_assoc, List.append_assoc] at e
    obtain ⟨e1, e2⟩ := fk_inj (ha k (List.mem_cons_self ..)) (hb j (List.mem_cons_self ..)) stp_comma stp_comma e
    injection e2 with _ e2; injection e2 with _ e2
    obtain ⟨e3, e4⟩ := fks_inj (a := k2 :: r) (b := j2 :: q) (fun x hx => ha x (List.mem_cons_of_mem _ hx)) (fun x hx => hb x (List.mem_cons_of_mem _ hx)) (Nat.succ_le_succ (Nat.zero_le _)) (Nat.succ_le_succ (Nat.zero_le _)) e2
    exact ⟨by rw [e1, e3], e4⟩
/-- format_sequent's text -/
def fmt (l : Ln) : Str := fks l.1 ++ " => " ++ l.2.fk
theorem arrow_list : (" => " : Str).cps.toList = [32, 61, 62, 32] := by decide +kernel
theorem fmt_inj {a b : Ln} (ha : LOK a) (hb : LOK b) (h : fmt a = fmt b) : a = b := by
  have e : (fmt a).cps.toList = (fmt b).cps.toList := by rw [h]
  unfold fmt at e
  rw [app_list, app_list, app_list, app_list, arrow_list, List.append_assoc, List.append_assoc] at e
  obtain ⟨e1, e2⟩ := fks_inj (fun k hk => (ha.row k hk).1) (fun k hk => (hb.row k hk).1) ha.pos hb.pos e
  injection e2 with _ e2; injection e2 with _ e2
  have e2 : a.2.fk.cps.toList ++ [] = b.2.fk.cps.toList ++ [] := by rw [List.append_nil, List.append_nil]; exact e2
  obtain ⟨e3, _⟩ := fk_inj ha.goal.1 hb.goal.1 stp_nil stp_nil e2
  exact Prod.ext e1 e3
end Lw

set_option Elab.async false
set_option linter.all false
set_option maxRecDepth 100000
namespace Lw
open PySem L2 Dl
/-! ## == of texts, numbers, tuples -/
mutual
def Pu : D → Bool
  | .str _ => true
  | .int _ => true
  | .tup xs => Pus xs
  | _ => false
def Pus : List D → Bool
  | [] => true
  | x :: xs => Pu x && Pus xs
end
mutual
theorem deq_pu : ∀ {d e : D}, Pu d = true → Pu e = true → (deq d e = true ↔ d = e)
  | .str x, .str y, _, _ => by
    show (x == y) = true ↔ _
    rw [beq_iff_eq]
    exact ⟨fun h => by rw [h], fun h => by injection h⟩
  | .int x, .int y, _, _ => by
    show (x == y) = true ↔ _
    rw [beq_iff_eq]
    exact ⟨fun h => by rw [h], fun h => by injection h⟩
  | .tup xs, .tup ys, h1, h2 => by
    show deqs xs ys = true ↔ _
    rw [deqs_pu (xs := xs) (ys := ys) h1 h2]
    exact ⟨fun h => by rw [h], fun h => by injection h⟩
  | .str x, .int y, _, _ => ⟨(fun h => nomatch h), (fun h => nomatch h)⟩
  | .str x, .tup y, _, _ => ⟨(fun h => nomatch h), (fun h => nomatch h)⟩
  | .int x, .str y, _, _ => ⟨(fun h => nomatch h), (fun h => nomatch h)⟩
  | .int x, .tup y, _, _ => ⟨(fun h => nomatch h), (fun h => nomatch h)⟩
  | .tup x, .str y, _, _ => ⟨(fun h => nomatch h), (fun h => nomatch h)⟩
  | .tup x, .int y, _, _ => ⟨(fun h => nomatch h), (fun h => nomatch h)⟩
theorem deqs_pu : ∀ {xs ys : List D}, Pus xs = true → Pus ys = true → (deqs xs ys = true ↔ xs = ys)
  | [], [], _, _ => ⟨fun _ => rfl, fun _ => rfl⟩
  | [], y :: ys, _, _ => ⟨(fun h => nomatch h), (fun h => nomatch h)⟩
  | x :: xs, [], _, _ => ⟨(fun h => nomatch h), (fun h => nomatch h)⟩
  | x :: xs, y :: ys, h1, h2 => by
    have h1 : (Pu x && Pus xs) = true := h1
    have h2 : (Pu y && Pus ys) = true := h2
    rw [Bool.and_eq_true] at h1 h2
    show (deq x y && deqs xs ys) = true ↔ _
    rw [Bool.and_eq_true, deq_pu h1.1 h2.1, deqs_pu h1.2 h2.2]
    exact ⟨fun h => by rw [h.1, h.2], fun h => by injection h with a b; exact ⟨a, b⟩⟩
end
theorem KT.pu : ∀ k : KT, Pu k.d = true
  | .leaf t => rfl
  | .node s a b => by show (true && (Pu a.d && (Pu b.d && true))) = true; rw [KT.pu a, KT.pu b]; rfl
theorem kds_pu : ∀ ks : List KT, Pus (kds ks) = true
  | [] => rfl
  | k :: ks => by show (Pu k.d && Pus (kds ks)) = true; rw [KT.pu k, kds_pu ks]; rfl
theorem lnD_pu (l : Ln) : Pu (lnD l) = true := by
  show (Pus (kds l.1) && (Pu l.2.d && true)) = true
  rw [kds_pu, KT.pu]; rfl
theorem ltds_pu : ∀ w : List Lt, Pus (ltds w) = true
  | [] => rfl
  | x :: w => by show (true && Pus (ltds w)) = true; rw [ltds_pu w]; rfl
theorem ltD_inj {a b : Lt} (h : ltD a = ltD b) : a = b := by
  cases a with
  | mk x s =>
    cases b with
    | mk y r =>
      injection h with h
      injection h with h1 h
      injection h with h2 _
      injection h1 with h1
      subst h1
      cases s <;> cases r <;> first | rfl | (injection h2 with h2; exact absurd (show (1 : Int) = -1 from h2) (by decide)) | (injection h2 with h2; exact absurd (show (-1 : Int) = 1 from h2) (by decide))
theorem ltds_inj : ∀ {a b : List Lt}, ltds a = ltds b → a = b
  | [], [], _ => rfl
  | [], _ :: _, h => nomatch h
  | _ :: _, [], h => nomatch h
  | x :: a, y :: b, h => by
    injection h with h1 h2
    rw [ltD_inj h1, ltds_inj h2]
theorem ltds_dep : ∀ w : List Lt, deps (ltds w) ≤ 1
  | [] => Nat.zero_le _
  | x :: w => by
    have := ltds_dep w
    show max 1 (deps (ltds w)) ≤ 1
    omega
theorem dec_bool {b : Bool} {p : Prop} [Decidable p] (h : b = true ↔ p) : b = decide p := by
  cases b with
  | true => exact (decide_eq_true (h.mp rfl)).symm
  | false => exact (decide_eq_false fun q => Bool.noConfusion (h.mpr q)).symm
theorem gEq_lt {x y : Lt} {S : Store} : gEq (ltD x) (ltD y) S = some (.bl (decide (x = y)), S) := by
  unfold ltD
  rw [gEqT rfl rfl (by show max 0 (max 0 0) ≤ 63; decide)]
  have h : deqs [D.str x.1, .int (if x.2 then 1 else -1)] [D.str y.1, .int (if y.2 then 1 else -1)] = decide (x = y) := by
    refine dec_bool ((deqs_pu rfl rfl).trans ⟨fun h => ltD_inj (congrArg D.tup h), fun h => by rw [h]⟩)
  rw [h]
/-- two lists are unlike -/
theorem gNe_lst {S : Store} {l r : Nat} {xs ys : List D} (h1 : lstAt S l = some xs) (h2 : lstAt S r = some ys) (f1 : flats xs = true) (f2 : flats ys = true) (hd : deps xs ≤ 60) : gNe (.ref l) (.ref r) S = some (.bl (!deqs xs ys), S) := by
  unfold gNe gEqB
  rw [asP_lst h1 f1, asP_lst h2 f2]
  have e : (PyData.list (toPys xs)).depth ≤ 64 := by
    have q := depth_toPy (.tup xs)
    have q' : PyData.depthAll (toPys xs) + 1 = deps xs + 1 := q
    show PyData.depthAll (toPys xs) + 1 ≤ 64
    omega
  show Option.map _ (if (PyData.list (toPys xs)).depth ≤ 64 then some (PyData.eqv (.list (toPys xs)) (.list (toPys ys))) else none) = _
  rw [if_pos e]
  show some (D.bl (!PyData.eqvAll (toPys xs) (toPys ys)), S) = _
  rw [eqvs_toPys _ _ f1 f2]
theorem ltds_ne {a b : List Lt} : (!deqs (ltds a) (ltds b)) = decide (a ≠ b) := by
  have h : deqs (ltds a) (ltds b) = decide (a = b) := dec_bool ((deqs_pu (ltds_pu a) (ltds_pu b)).trans ⟨ltds_inj, fun h => by rw [h]⟩)
  rw [h, decide_not]
/-- a line of a table -/
theorem gIn_ln {l : Ln} {ls : List Ln} {S : Store} (hd : (lnD l).dep ≤ 64) : gIn (lnD l) (.tup (lnds ls)) S = some (.bl (ls.any fun x => deq (lnD x) (lnD l)), S) := by
  show Option.map _ (if (lnD l).flat && flats (lnds ls) && decide ((lnD l).dep ≤ 64) then some ((lnds ls).any fun y => deq y (lnD l)) else none) = _
  rw [lnD_flat, lnds_flat, decide_eq_true hd]
  show some (D.bl ((ls.map lnD).any fun y => deq y (lnD l)), S) = _
  rw [List.any_map]
  rfl
theorem deq_ln {a b : Ln} : deq (lnD a) (lnD b) = true ↔ a = b := (deq_pu (lnD_pu a) (lnD_pu b)).trans ⟨lnD_inj, fun h => by rw [h]⟩
theorem any_ln {l : Ln} {ls : List Ln} : (ls.any fun x => deq (lnD x) (lnD l)) = true ↔ l ∈ ls := by
  rw [List.any_eq_true]
  exact ⟨fun ⟨x, h1, h2⟩ => by rw [← deq_ln.mp h2]; exact h1, fun h => ⟨l, h, deq_ln.mpr rfl⟩⟩
theorem LOK.dep {l : Ln} (h : LOK l) : (lnD l).dep ≤ 20 := by
  have h1 : deps (kds l.1) ≤ 12 := deps_le fun d hd => by
    obtain ⟨k, hk, rfl⟩ := List.mem_map.mp hd
    have := KT.dep k
    have := (h.row k hk).2
    omega
  have h2 := KT.dep l.2
  have h3 := h.goal.2
  show max (deps (kds l.1) + 1) (max l.2.d.dep 0) + 1 ≤ 20
  omega
/-! ## the last steps of a line -/
def isAx : List KT → Str → Bool
  | [.leaf u], t => decide (u = t)
  | _, _ => false
def prF (row : List KT) (a b : KT) (i : Nat) : List Ln := [(row.take (i + 1), a), (row.drop (i + 1), b)]
def olF (row : List KT) (g : KT) (p : Nat) (a b : KT) (i : Nat) : List Ln := [((row.drop (p + 1)).take (i + 1), b), (row.take p ++ a :: row.drop (p + 1 + (i + 1)), g)]
def ulF (row : List KT) (g : KT) (p : Nat) (a b : KT) (i : Nat) : List Ln := [((row.take p).drop (p - (i + 1)), a), (row.take (p - (i + 1)) ++ b :: row.drop (p + 1), g)]
def GP (row : List KT) : KT → List (List Ln)
  | .leaf t => if isAx row t then [[]] else []
  | .node s a b => if s = "/" then [[(row ++ [b], a)]] else if s = ">" then [[(a :: row, b)]] else (List.range (row.length - 1)).map (prF row a b)
def OL (row : List KT) (g : KT) (p : Nat) (a b : KT) : List (List Ln) := (List.range (row.length - p - 1)).map (olF row g p a b)
def UL (row : List KT) (g : KT) (p : Nat) (a b : KT) : List (List Ln) := (List.range p).map (ulF row g p a b)
def PP1 (row : List KT) (g : KT) (p : Nat) : KT → List (List Ln)
  | .leaf _ => []
  | .node s a b => if s = "/" then OL row g p a b else if s = ">" then UL row g p a b else [[(row.take p ++ a :: b :: row.drop (p + 1), g)]]
def ppF (row : List KT) (g : KT) (p : Nat) : List (List Ln) := match row[p]? with
  | some k => PP1 row g p k
  | none => []
def LP (l : Ln) : List (List Ln) := GP l.1 l.2 ++ (List.range l.1.length).flatMap (ppF l.1 l.2)
def pdD (ps : List Ln) : D := .tup (lnds ps)
theorem pdD_flat (ps : List Ln) : (pdD ps).flat = true := lnds_flat ps
/-- what a table must keep -/
def good1 (tb : List Ln) (l : Ln) : Bool := !dif l && (LP l).all fun ps => ps.any fun p => dif p || tb.any fun x => deq (lnD x) (lnD p)
def closed (tb : List Ln) : Bool := tb.all (good1 tb)
theorem isAx_deqs {row : List KT} {t : Str} : deqs (kds row) [.str t] = isAx row t := by
  refine Bool.eq_iff_iff.mpr ((deqs_pu (kds_pu row) rfl).trans ?_)
  constructor
  · intro h
    have : row = [.leaf t] := kds_inj h
    rw [this]
    exact decide_eq_true rfl
  · intro h
    match row, h with
    | [.leaf u], h =>
      have : u = t := of_decide_eq_true h
      rw [this]; rfl
end Lw

set_option Elab.async false
set_option linter.all false
set_option maxRecDepth 100000
namespace Lw
open PySem L2 Dl
theorem findK_put {kvs : List (Key × D)} {k k' : Key} {d : D} : findK (putD kvs k d) k' = if k' = k then some d else findK kvs k' := by
  unfold findK putD
  by_cases h : (kvs.any fun kv => decide (kv.1 = k)) = true
  · rw [if_pos h]
    by_cases e : k' = k
    · subst e
      rw [if_pos rfl]
      induction kvs with
      | nil => cases h
      | cons a r ih =>
        by_cases z : a.1 = k'
        · simp [z]
        · simp only [List.any_cons, z, decide_false, Bool.false_or] at h
          simp only [List.map_cons, if_neg z, List.find?_cons]
          simp only [z, decide_false]
          exact ih h
    · rw [if_neg e]
      clear h
      induction kvs with
      | nil => rfl
      | cons a r ih =>
        by_cases z : a.1 = k
        · have z2 : ¬ a.1 = k' := fun y => e (y.symm.trans z)
          have z3 : ¬ k = k' := fun y => e y.symm
          simp only [List.map_cons, if_pos z, List.find?_cons]
          simp only [z2, decide_false]
          exact ih
        · simp only [List.map_cons, if_neg z, List.find?_cons]
          by_cases y : a.1 = k'
          · simp [y]
          · simp only [y, decide_false]
            exact ih
  · rw [if_neg h]
    by_cases e : k' = k
    · subst e
      rw [if_pos rfl, List.find?_append]
      have : (kvs.find? fun kv => decide (kv.1 = k')) = none := by
        rw [List.find?_eq_none]
        intro x hx hz
        exact h (List.any_eq_true.mpr ⟨x, hx, hz⟩)
      rw [this]
      simp
    · rw [if_neg e, List.find?_append]
      have z3 : ¬ k = k' := fun y => e y.symm
      simp [z3]
theorem put_len {kvs : List (Key × D)} {k : Key} {d : D} : (putD kvs k d).length ≤ kvs.length + 1 := by
  unfold putD
  split
  · rw [List.length_map]; omega
  · rw [List.length_append]; exact Nat.le_refl _
theorem put_flat {kvs : List (Key × D)} {k : Key} {d : D} (h : flats (kvs.map (·.2)) = true) (hd : d.flat = true) : flats ((putD kvs k d).map (·.2)) = true := by
  unfold putD
  split
  · rw [List.map_map]
    refine flats_iff.mpr fun x hx => ?_
    obtain ⟨y, hy, rfl⟩ := List.mem_map.mp hx
    show (if y.1 = k then (y.1, d) else y).2.flat = true
    split
    · exact hd
    · exact flats_iff.mp h _ (List.mem_map.mpr ⟨y, hy, rfl⟩)
  · rw [List.map_append]
    exact flats_app h (flats_cons hd rfl)
/-! ## any, join -/
def anyC (S : Store) : Option (List Bool) → Option (D × Store)
  | some bs => some (.bl (bs.any id), S)
  | none => none
theorem gAny_r {S : Store} {l : Nat} : gAny [.ref l] S = anyC S ((lstC S[l]?).bind bools) := by
  show ((lstAt S l).bind bools).map (fun bs => (D.bl (bs.any id), S)) = _
  rw [lstAt_C]
  cases (lstC S[l]?).bind bools <;> rfl
theorem anyC_s {S : Store} {bs : List Bool} : anyC S (some bs) = some (.bl (bs.any id), S) := Dl.nr rfl
theorem any_id {α : Type} (f : α → Bool) (xs : List α) : (xs.map f).any id = xs.any f := by rw [List.any_map]; rfl
theorem strsO_map {α : Type} (f : α → Str) : ∀ xs : List α, strsO (xs.map fun x => D.str (f x)) = some (xs.map f)
  | [] => rfl
  | x :: xs => by
    show (strsO (xs.map fun x => D.str (f x))).map (f x :: ·) = _
    rw [strsO_map f xs]
    rfl
theorem Txt_join (a : Str) (xs : List Str) : Txt.join a xs = Str.join a xs := StrLaws.glued_eq_join a xs
theorem fk_len : ∀ {k : KT}, k.ok AtS → k.fk.length + 7 ≤ 25 * k.at_.length
  | .leaf t, h => by
    have := AtS.len h
    show t.length + 7 ≤ 25 * 1
    omega
  | .node s a b, h => by
    have ha := fk_len h.2.1
    have hb := fk_len h.2.2
    have p : ∀ k : KT, k.fp.length ≤ k.fk.length + 2 := fun k => by
      unfold KT.fp
      split
      · omega
      · rw [app_len, app_len]
        have : ("(" : Str).length = 1 := by decide +kernel
        have : (")" : Str).length = 1 := by decide +kernel
        omega
    have pa := p a
    have pb := p b
    obtain ⟨c, hc, _⟩ := sg_list h.1
    have hs : s.length = 1 := by rw [← len_list, hc]; rfl
    have h1 : (" " : Str).length = 1 := by decide +kernel
    rw [KT.fk_node, KT.len_node, app_len, app_len, app_len, app_len]
    omega
theorem fp_len {k : KT} (h : k.ok AtS) : k.fp.length ≤ 25 * k.at_.length := by
  have := fk_len h
  unfold KT.fp
  split
  · omega
  · rw [app_len, app_len]
    have : ("(" : Str).length = 1 := by decide +kernel
    have : (")" : Str).length = 1 := by decide +kernel
    omega
/-- the entries made of some lines -/
structure Ents (f : Ln → Str) (tb : List Ln) (kvs : List (Key × D)) : Prop where
  len : kvs.length ≤ tb.length
  flat : flats (kvs.map (·.2)) = true
  has : ∀ s : Str, (findK kvs (.inr s)).isSome = tb.any fun l => decide (f l = s)
theorem Ents.nil (f : Ln → Str) : Ents f [] [] := ⟨Nat.le_refl _, rfl, fun s => rfl⟩
theorem Ents.put {f : Ln → Str} {tb : List Ln} {kvs : List (Key × D)} (h : Ents f tb kvs) (l : Ln) : Ents f (tb ++ [l]) (putD kvs (.inr (f l)) (.bl true)) where
  len := by
    have := put_len (kvs := kvs) (k := .inr (f l)) (d := .bl true)
    have := h.len
    rw [List.length_append, List.length_singleton]; omega
  flat := put_flat h.flat rfl
  has := fun s => by
    rw [findK_put, List.any_append, ← h.has s]
    show _ = (_ || (decide (f l = s) || false))
    by_cases e : s = f l
    · rw [if_pos (by rw [e]), decide_eq_true e.symm]; simp
    · rw [if_neg (fun q => e (by injection q)), decide_eq_false (fun q => e q.symm)]; simp
theorem any_txt {f : Ln → Str} {tb : List Ln} {l : Ln} (inj : ∀ a ∈ tb, f a = f l → a = l) : (tb.any fun x => decide (f x = f l)) = tb.any fun x => deq (lnD x) (lnD l) := by
  refine Bool.eq_iff_iff.mpr ?_
  rw [any_ln, List.any_eq_true]
  exact ⟨fun ⟨x, h1, h2⟩ => by rw [← inj x h1 (of_decide_eq_true h2)]; exact h1, fun h => ⟨l, h, decide_eq_true rfl⟩⟩
end Lw

set_option Elab.async false
set_option linter.all false
set_option maxRecDepth 100000
namespace Lw
open PySem L2 Dl
local macro_rules | `(tactic| simp_arith [$ls,*]) => `(tactic| simp (disch := first | omega | assumption | (simp only [List.length_cons, List.length_nil, List.length_append, List.length_take, List.length_drop]; omega) | (simp only [List.length_cons, List.length_nil])) only [sQ_, sP_, sE_, sR_, sIf_, sN_, sA_, tgO_nx, nm_, tgIx_, eC_, eV0, eV1, e1_, e2_, eB_, eF_, aN_, aC_, eMt_, eSl_, oN_, oI_, tV_, tE_, tA_, tO_, tN_, eIf_, eAnd_, eOr_, eNot_, eCh_, seq_nx, seq_rt, seq_bk, seq_ct, seq_ex, toR_some, toR_none, toT_some, truD_bl, truD_int, truD_tup, truD_non, truD_str, truD_ref, truC_lst, tyD_str, tyD_tup, tyD_int, tyD_bl, tyD_non, tyD_ref, tyC_lst, tyC_rol, tyC_dic, kE_, kR_, kIf_t, kIf_f, kN_, kA_, kIx1_, kIx2_, kIx3_, kE1_, kE21_, kE2_, kB_, kF_, kC1_, kC_, kM1_, kM2_, kM_, kS1_, kS2_, kS3_, kO_, kV_, kT_, kAn_t, kAn_f, kOr_t, kOr_f, kNo_, kIfE_t, kIfE_f, kVa_, kVa2_t, kVa2_f, kVo_, kVo2_t, kVo2_f, kVn_, kVn2_, kH_, kH1_, kH2_t, kH2_f, kH3_, List.getElem?_cons_zero, List.getElem?_cons_succ, List.set_cons_zero, List.set_cons_succ, gAdd_int, gAdd_str, gAdd_t, gAdd_r, catC_s, gSub_int, gMul_l, gMul_r, gFdiv_int, gMod_int, gLt_int, gLe_int, gGt_int, gGe_int, gInt_int, gAbs_int, gLen_tup, gLen_str, gLen_r, lenC_s, gTpl_, gLsd_, gIx_r, ixC_s, ixO_s, gIx_t, gIx_s, ixS_s, atI_0, atI_1, atI_2, atI_3, atI_4, atI_5, gAppend_r, appC_s, gExtend_r, extC_s, gPop_r, popC_s, gSet_r, setC_0, setC_2, gTuple_r, tupC_s, gTuple_t, gList_r, gList_t, newC_s, gSl_r, slC_s, gSl_t, gSl_s, cut_take, cut_drop, cut_init, cut_mid, Int.toNat_natCast, lstC_lst, lstC_rol, lstAt_C, isi_str, isi_int, isi_bool, isi_tup, isi_lst, isO_s, isB_1, isB_2, isB_3, isB_4, isB_5, isB_6, isB_7, isB_8, isB_9, isB_10, isB_11, isB_12, isB_13, isB_14, isB_15, isB_16, isB_17, isB_18, isB_19, isB_20, isB_21, isB_22, isB_23, isB_24, isB_25, isB_26, gSum_r, sumC_s, sumO_s, gMin_, gMax_, qEq_int, qNe_int, qEq_str, qNe_str, gNeg_z, tgT_, tgU_, tgL0, tgL1, eTab_, kTab_, sX_, tgIxX_, kX1_, kX2_, kX3_, gSetX_r, setX_0, setX_2, setX_s, sPar_, kPar_, eFv_, eGetD_, kG1_, isDic_r, isDC_d, kG1b_, kG2_, kG3_, gGetD_r, getC_s, gMaxL_r, maxC_, gRep_r, repC_, eD0_, gDget_r, dgC_s, List.getElem?_concat_length, set_end, sF_, kFor_, iR1_, kR1_, iR2_, kR2_, kR3_, iA_, kAny_r, kAny_t, kAny_s, iaC_s, eLc_, kLc_, wipeD_c, wipeD_n, tYes_, put_one, sAug_, gAug_i, sBk_, sCt_, sW_, st_len, st_p, st_k, st_0, st_q, st_set_p, st_set_k, st_set_0, st_push, sx_len, sx_k, sx_0, sx_q, sx_set_k, sx_set_0, sx_push, So_rt, So_nx, So_ex, Tn_nx, Tn_ct, Tn_bk, Tn_rt, Tn_ex, Bool.false_eq_true, if_true, if_false, reduceIte, Option.map_some, Option.bind_some, Bool.not_true, Bool.not_false, decide_true, decide_false, eq_self, List.length_append, List.length_singleton, List.length_cons, List.length_nil, List.map_cons, List.map_nil, Nat.sub_self, List.replicate_zero, List.append_nil, List.cons_append, List.nil_append, List.append_assoc, List.replicate_succ, Nat.reduceSub, Nat.reduceAdd, Nat.add_zero, Nat.zero_add, Nat.add_assoc, Nat.reduceLeDiff, Int.natCast_add, Int.cast_ofNat_Int, Int.reduceEq, Int.reduceLT, Int.reduceLE, Int.reduceAdd, Int.reduceSub, Int.reduceNeg, Int.reduceToNat, List.take_succ_cons, List.take_zero, List.drop_succ_cons, List.drop_zero, List.dropLast_concat, Dl.atI_last, gFdivW_, gJoin_r, joinC_, gUpper_, gRepl_, gInK_, gNinK_, r_ax_or, r_ax_ur, r_ax_pr, r_ax_ol, r_ax_ul, r_ax_pl, r_ax_ct, r_or_ax, r_or_ur, r_or_pr, r_or_ol, r_or_ul, r_or_pl, r_or_ct, r_ur_ax, r_ur_or, r_ur_pr, r_ur_ol, r_ur_ul, r_ur_pl, r_ur_ct, r_pr_ax, r_pr_or, r_pr_ur, r_pr_ol, r_pr_ul, r_pr_pl, r_pr_ct, r_ol_ax, r_ol_or, r_ol_ur, r_ol_pr, r_ol_ul, r_ol_pl, r_ol_ct, r_ul_ax, r_ul_or, r_ul_ur, r_ul_pr, r_ul_ol, r_ul_pl, r_ul_ct, r_pl_ax, r_pl_or, r_pl_ur, r_pl_pr, r_pl_ol, r_pl_ul, r_pl_ct, r_ct_ax, r_ct_or, r_ct_ur, r_ct_pr, r_ct_ol, r_ct_ul, r_ct_pl, q1, q2, q3, q4, q5, q6, e1, e2, e3, gInt_bl, gIs_tn, gIs_nn, gIsN_tn, gIsN_nn, gReverse_r, revC_s, iV_, kVV_t, kVV_r, revI_s, iW_, kW_, gInX_r, gNinX_r, inC_d, gAny_r, anyC_s, gStartsW_, $ls,*])
local macro_rules | `(tactic| walk_at "ev") => `(tactic| simp (disch := first | omega | assumption | (simp only [List.length_cons, List.length_nil, List.length_append, List.length_take, List.length_drop]; omega) | (simp only [List.length_cons, List.length_nil])) only [sQ_, sP_, sE_, sR_, sIf_, sN_, sA_, tgO_nx, nm_, tgIx_, eC_, eV0, eV1, e1_, e2_, eB_, eF_, aN_, aC_, eMt_, eSl_, oN_, oI_, tV_, tE_, tA_, tO_, tN_, eIf_, eAnd_, eOr_, eNot_, eCh_, seq_nx, seq_rt, seq_bk, seq_ct, seq_ex, toR_some, toR_none, toT_some, truD_bl, truD_int, truD_tup, truD_non, truD_str, truD_ref, truC_lst, tyD_str, tyD_tup, tyD_int, tyD_bl, tyD_non, tyD_ref, tyC_lst, tyC_rol, tyC_dic, kE_, kR_, kIf_t, kIf_f, kN_, kA_, kIx1_, kIx2_, kIx3_, kE1_, kE21_, kE2_, kB_, kF_, kC1_, kC_, kM1_, kM2_, kM_, kS1_, kS2_, kS3_, kO_, kV_, kT_, kAn_t, kAn_f, kOr_t, kOr_f, kNo_, kIfE_t, kIfE_f, kVa_, kVa2_t, kVa2_f, kVo_, kVo2_t, kVo2_f, kVn_, kVn2_, kH_, kH1_, kH2_t, kH2_f, kH3_, List.getElem?_cons_zero, List.getElem?_cons_succ, List.set_cons_zero, List.set_cons_succ, gAdd_int, gAdd_str, gAdd_t, gAdd_r, catC_s, gSub_int, gMul_l, gMul_r, gFdiv_int, gMod_int, gLt_int, gLe_int, gGt_int, gGe_int, gInt_int, gAbs_int, gLen_tup, gLen_str, gLen_r, lenC_s, gTpl_, gLsd_, gIx_r, ixC_s, ixO_s, gIx_t, gIx_s, ixS_s, atI_0, atI_1, atI_2, atI_3, atI_4, atI_5, gAppend_r, appC_s, gExtend_r, extC_s, gPop_r, popC_s, gSet_r, setC_0, setC_2, gTuple_r, tupC_s, gTuple_t, gList_r, gList_t, newC_s, gSl_r, slC_s, gSl_t, gSl_s, cut_take, cut_drop, cut_init, cut_mid, Int.toNat_natCast, lstC_lst, lstC_rol, lstAt_C, isi_str, isi_int, isi_bool, isi_tup, isi_lst, isO_s, isB_1, isB_2, isB_3, isB_4, isB_5, isB_6, isB_7, isB_8, isB_9, isB_10, isB_11, isB_12, isB_13, isB_14, isB_15, isB_16, isB_17, isB_18, isB_19, isB_20, isB_21, isB_22, isB_23, isB_24, isB_25, isB_26, gSum_r, sumC_s, sumO_s, gMin_, gMax_, qEq_int, qNe_int, qEq_str, qNe_str, gNeg_z, tgT_, tgU_, tgL0, tgL1, eTab_, kTab_, sX_, tgIxX_, kX1_, kX2_, kX3_, gSetX_r, setX_0, setX_2, setX_s, sPar_, kPar_, eFv_, eGetD_, kG1_, isDic_r, isDC_d, kG1b_, kG2_, kG3_, gGetD_r, getC_s, gMaxL_r, maxC_, gRep_r, repC_, eD0_, gDget_r, dgC_s, List.getElem?_concat_length, set_end, sF_, kFor_, iR1_, kR1_, iR2_, kR2_, kR3_, iA_, kAny_r, kAny_t, kAny_s, iaC_s, eLc_, kLc_, wipeD_c, wipeD_n, tYes_, put_one, sAug_, gAug_i, sBk_, sCt_, sW_, st_len, st_p, st_k, st_0, st_q, st_set_p, st_set_k, st_set_0, st_push, sx_len, sx_k, sx_0, sx_q, sx_set_k, sx_set_0, sx_push, So_rt, So_nx, So_ex, Tn_nx, Tn_ct, Tn_bk, Tn_rt, Tn_ex, Bool.false_eq_true, if_true, if_false, reduceIte, Option.map_some, Option.bind_some, Bool.not_true, Bool.not_false, decide_true, decide_false, eq_self, List.length_append, List.length_singleton, List.length_cons, List.length_nil, List.map_cons, List.map_nil, Nat.sub_self, List.replicate_zero, List.append_nil, List.cons_append, List.nil_append, List.append_assoc, List.replicate_succ, Nat.reduceSub, Nat.reduceAdd, Nat.add_zero, Nat.zero_add, Nat.add_assoc, Nat.reduceLeDiff, Int.natCast_add, Int.cast_ofNat_Int, Int.reduceEq, Int.reduceLT, Int.reduceLE, Int.reduceAdd, Int.reduceSub, Int.reduceNeg, Int.reduceToNat, List.take_succ_cons, List.take_zero, List.drop_succ_cons, List.drop_zero, List.dropLast_concat, Dl.atI_last, gFdivW_, gJoin_r, joinC_, gUpper_, gRepl_, gInK_, gNinK_, r_ax_or, r_ax_ur, r_ax_pr, r_ax_ol, r_ax_ul, r_ax_pl, r_ax_ct, r_or_ax, r_or_ur, r_or_pr, r_or_ol, r_or_ul, r_or_pl, r_or_ct, r_ur_ax, r_ur_or, r_ur_pr, r_ur_ol, r_ur_ul, r_ur_pl, r_ur_ct, r_pr_ax, r_pr_or, r_pr_ur, r_pr_ol, r_pr_ul, r_pr_pl, r_pr_ct, r_ol_ax, r_ol_or, r_ol_ur, r_ol_pr, r_ol_ul, r_ol_pl, r_ol_ct, r_ul_ax, r_ul_or, r_ul_ur, r_ul_pr, r_ul_ol, r_ul_pl, r_ul_ct, r_pl_ax, r_pl_or, r_pl_ur, r_pl_pr, r_pl_ol, r_pl_ul, r_pl_ct, r_ct_ax, r_ct_or, r_ct_ur, r_ct_pr, r_ct_ol, r_ct_ul, r_ct_pl, q1, q2, q3, q4, q5, q6, e1, e2, e3, gInt_bl, gIs_tn, gIs_nn, gIsN_tn, gIsN_nn, gReverse_r, revC_s, iV_, kVV_t, kVV_r, revI_s, iW_, kW_, gInX_r, gNinX_r, inC_d, gAny_r, anyC_s, gStartsW_])
/-! ## pools -/
theorem mix_t (n : Nat) (x : Int) (h0 : 0 ≤ x) (h1 : x < 18446744073709551616) (S : Store) : Dl.Sp (tab (n + 1) ._law_mix [.int x] S) fun r => r = .ok (.int (mixZ x)) S := by
  refine Dl.sp_run (g := b__law_mix (tab n)) rfl fun Q hQ => ?_
  unfold b__law_mix
  have b1 : 0 ≤ (x * x + 3 * x + 7919) % 1000003 := Int.emod_nonneg _ (by decide)
  have b2 : (x * x + 3 * x + 7919) % 1000003 < 1000003 := Int.emod_lt_of_pos _ (by decide)
  simp_arith [h0]
  rw [Dl.fin_s rfl rfl]
  exact hQ _ rfl
theorem SWf_pool {T : Store} {p N : Nat} {P : List D} (hp : Pool N P) : wfs T.length P = true := wfs_flat hp.flat
/-- one draw -/
theorem fdW {k j : Int} (S : Store) (h0 : 0 < j) (h1 : j.natAbs.log2 < 9000) : gFdivW (.int k) (.int j) S = some (.int (k / j), S) := if_pos ⟨h0, h1⟩
theorem draw_t (n : Nat) {N p : Nat} {many : Int} {T : Store} {P : List D} (h : T[p]? = some (.lst P)) (hp : Pool N P) (hN : N ≤ 1000000) (h0 : 0 < many) (h1 : many.natAbs.log2 < 9000 := by decide) :
    Dl.Sp (tab (n + 2) ._law_draw [.ref p, .int many] T) fun r => ∃ w P', Pool (N + 1) P' ∧ 0 ≤ w ∧ w < many ∧ r = .ok (.int w) (T.set p (.lst P')) := by
  obtain ⟨a, b, c, rfl, b0, b1, c0, c1⟩ := hp
  have lp := get_lt h
  refine Dl.sp_run (g := b__law_draw (tab (n + 1))) rfl fun Q hQ => ?_
  unfold b__law_draw
  have w1 : ∀ k S, gFdivW (.int k) (.int many) S = some (.int (k / many), S) := fun _ S => fdW S h0 h1
  have w8 : ∀ k S, gFdivW (.int k) (.int 8) S = some (.int (k / 8), S) := fun _ S => fdW S (by decide) (by decide)
  have hs : ∀ d : List D, (T.set p (Cell.lst d))[p]? = some (Cell.lst d) := fun d => List.getElem?_set_self lp
  simp_arith [h]
  by_cases ha : 0 < a
  · simp_arith [ha, h, w1, w8]
    rw [Dl.fin_s (by rw [List.length_set]) rfl]
    exact hQ _ ⟨_, _, ⟨_, _, _, rfl, b0, b1, c0, by omega⟩, Int.emod_nonneg _ (by omega), Int.emod_lt_of_pos _ h0, rfl⟩
  · have em := mix_t n (b + 7368787 * (c + 1)) (by omega) (by omega) (T.set p (.lst [.int a, .int b, .int (c + 1)]))
    simp_arith [ha, h, hs, em, w1, w8]
    rw [Dl.fin_s (by rw [List.length_set]) rfl]
    exact hQ _ ⟨_, _, ⟨_, _, _, rfl, b0, b1, by omega, by omega⟩, Int.emod_nonneg _ (by omega), Int.emod_lt_of_pos _ h0, rfl⟩
theorem cell_t (n : Nat) {ns : List Int} {T : Store} (h : T[0]? = some (Cell.rol (ns.map D.int))) (k : Nat) : Dl.Sp (tab (n + 1) ._law_cell [.ref 0, .int k] T) fun r => ∃ c : Int, r = .ok (.int c) T := by
  refine Dl.sp_run (g := b__law_cell (tab n)) rfl fun Q hQ => ?_
  unfold b__law_cell
  simp_arith [h, List.length_map]
  by_cases hk : (k : Int) < ns.length
  · have hk' : k < ns.length := by omega
    have ei : atI (ns.map D.int) (k : Int) = some (.int ns[k]) := atI_nat (by rw [List.getElem?_map, List.getElem?_eq_getElem hk']; rfl)
    simp_arith [hk, h, ei]
    rw [Dl.fin_s rfl rfl]
    exact hQ _ ⟨_, rfl⟩
  · simp_arith [hk]
    rw [Dl.fin_s rfl rfl]
    exact hQ _ ⟨_, rfl⟩
theorem pow18 {S : Store} : gPow (.int 10) (.int 18) S = some (.int 1000000000000000000, S) := by
  show (if (0 : Int) ≤ 18 ∧ (18 : Int) ≤ 1000000 ∧ (10 : Int).natAbs < 2 ^ 64 then _ else none) = _
  rw [if_pos (by decide)]
  rfl
theorem pool_t (n : Nat) {ns : List Int} {T : Store} (h : T[0]? = some (Cell.rol (ns.map D.int))) (hT : SOK T) (k : Nat) (hk : k ≤ 100) : Dl.Sp (tab (n + 2) ._law_pool [.ref 0, .int k] T) fun r => ∃ P, Pool 0 P ∧ r = .ok (.ref T.length) (T ++ [Cell.lst P]) := by
  obtain ⟨c, ec⟩ := cell_t n (T := Dl.sx T []) (by rw [← Dl.sx_in]; exact h) k
  refine Dl.sp_plain (g := b__law_pool (tab (n + 1))) rfl fun Q hQ => ?_
  unfold b__law_pool
  simp_arith [ec, pow18]
  by_cases hb : (1000000000000000000 : Int) ≤ c
  · simp_arith [hb, pow18]
    exact Dl.Qxl0 (hT.wf rfl) rfl (hQ _ ⟨_, ⟨_, _, _, rfl, by omega, by omega, by decide, by decide⟩, rfl⟩)
  · have m0 := Int.emod_nonneg (if c < 0 then -c else c) (show (2000000011 : Int) ≠ 0 by decide)
    have m1 := Int.emod_lt_of_pos (if c < 0 then -c else c) (show (0 : Int) < 2000000011 by decide)
    simp_arith [hb]
    exact Dl.Qxl0 (hT.wf rfl) rfl (hQ _ ⟨_, ⟨_, _, _, rfl, by omega, by omega, by decide, by decide⟩, rfl⟩)

end Lw

set_option Elab.async false
set_option linter.all false
set_option maxRecDepth 100000
namespace Lw
open PySem L2 Dl
local macro_rules | `(tactic| simp_arith [$ls,*]) => `(tactic| simp (disch := first | omega | assumption | (simp only [List.length_cons, List.length_nil, List.length_append, List.length_take, List.length_drop]; omega) | (simp only [List.length_cons, List.length_nil])) only [sQ_, sP_, sE_, sR_, sIf_, sN_, sA_, tgO_nx, nm_, tgIx_, eC_, eV0, eV1, e1_, e2_, eB_, eF_, aN_, aC_, eMt_, eSl_, oN_, oI_, tV_, tE_, tA_, tO_, tN_, eIf_, eAnd_, eOr_, eNot_, eCh_, seq_nx, seq_rt, seq_bk, seq_ct, seq_ex, toR_some, toR_none, toT_some, truD_bl, truD_int, truD_tup, truD_non, truD_str, truD_ref, truC_lst, tyD_str, tyD_tup, tyD_int, tyD_bl, tyD_non, tyD_ref, tyC_lst, tyC_rol, tyC_dic, kE_, kR_, kIf_t, kIf_f, kN_, kA_, kIx1_, kIx2_, kIx3_, kE1_, kE21_, kE2_, kB_, kF_, kC1_, kC_, kM1_, kM2_, kM_, kS1_, kS2_, kS3_, kO_, kV_, kT_, kAn_t, kAn_f, kOr_t, kOr_f, kNo_, kIfE_t, kIfE_f, kVa_, kVa2_t, kVa2_f, kVo_, kVo2_t, kVo2_f, kVn_, kVn2_, kH_, kH1_, kH2_t, kH2_f, kH3_, List.getElem?_cons_zero, List.getElem?_cons_succ, List.set_cons_zero, List.set_cons_succ, gAdd_int, gAdd_str, gAdd_t, gAdd_r, catC_s, gSub_int, gMul_l, gMul_r, gFdiv_int, gMod_int, gLt_int, gLe_int, gGt_int, gGe_int, gInt_int, gAbs_int, gLen_tup, gLen_str, gLen_r, lenC_s, gTpl_, gLsd_, gIx_r, ixC_s, ixO_s, gIx_t, gIx_s, ixS_s, atI_0, atI_1, atI_2, atI_3, atI_4, atI_5, gAppend_r, appC_s, gExtend_r, extC_s, gPop_r, popC_s, gSet_r, setC_0, setC_2, gTuple_r, tupC_s, gTuple_t, gList_r, gList_t, newC_s, gSl_r, slC_s, gSl_t, gSl_s, cut_take, cut_drop, cut_init, cut_mid, Int.toNat_natCast, lstC_lst, lstC_rol, lstAt_C, isi_str, isi_int, isi_bool, isi_tup, isi_lst, isO_s, isB_1, isB_2, isB_3, isB_4, isB_5, isB_6, isB_7, isB_8, isB_9, isB_10, isB_11, isB_12, isB_13, isB_14, isB_15, isB_16, isB_17, isB_18, isB_19, isB_20, isB_21, isB_22, isB_23, isB_24, isB_25, isB_26, gSum_r, sumC_s, sumO_s, gMin_, gMax_, qEq_int, qNe_int, qEq_str, qNe_str, gNeg_z, tgT_, tgU_, tgL0, tgL1, eTab_, kTab_, sX_, tgIxX_, kX1_, kX2_, kX3_, gSetX_r, setX_0, setX_2, setX_s, sPar_, kPar_, eFv_, eGetD_, kG1_, isDic_r, isDC_d, kG1b_, kG2_, kG3_, gGetD_r, getC_s, gMaxL_r, maxC_, gRep_r, repC_, eD0_, gDget_r, dgC_s, List.getElem?_concat_length, set_end, sF_, kFor_, iR1_, kR1_, iR2_, kR2_, kR3_, iA_, kAny_r, kAny_t, kAny_s, iaC_s, eLc_, kLc_, wipeD_c, wipeD_n, tYes_, put_one, sAug_, gAug_i, sBk_, sCt_, sW_, st_len, st_p, st_k, st_0, st_q, st_set_p, st_set_k, st_set_0, st_push, sx_len, sx_k, sx_0, sx_q, sx_set_k, sx_set_0, sx_push, So_rt, So_nx, So_ex, Tn_nx, Tn_ct, Tn_bk, Tn_rt, Tn_ex, Bool.false_eq_true, if_true, if_false, reduceIte, Option.map_some, Option.bind_some, Bool.not_true, Bool.not_false, decide_true, decide_false, eq_self, List.length_append, List.length_singleton, List.length_cons, List.length_nil, List.map_cons, List.map_nil, Nat.sub_self, List.replicate_zero, List.append_nil, List.cons_append, List.nil_append, List.append_assoc, List.replicate_succ, Nat.reduceSub, Nat.reduceAdd, Nat.add_zero, Nat.zero_add, Nat.add_assoc, Nat.reduceLeDiff, Int.natCast_add, Int.cast_ofNat_Int, Int.reduceEq, Int.reduceLT, Int.reduceLE, Int.reduceAdd, Int.reduceSub, Int.reduceNeg, Int.reduceToNat, List.take_succ_cons, List.take_zero, List.drop_succ_cons, List.drop_zero, List.dropLast_concat, Dl.atI_last, gFdivW_, gJoin_r, joinC_, gUpper_, gRepl_, gInK_, gNinK_, r_ax_or, r_ax_ur, r_ax_pr, r_ax_ol, r_ax_ul, r_ax_pl, r_ax_ct, r_or_ax, r_or_ur, r_or_pr, r_or_ol, r_or_ul, r_or_pl, r_or_ct, r_ur_ax, r_ur_or, r_ur_pr, r_ur_ol, r_ur_ul, r_ur_pl, r_ur_ct, r_pr_ax, r_pr_or, r_pr_ur, r_pr_ol, r_pr_ul, r_pr_pl, r_pr_ct, r_ol_ax, r_ol_or, r_ol_ur, r_ol_pr, r_ol_ul, r_ol_pl, r_ol_ct, r_ul_ax, r_ul_or, r_ul_ur, r_ul_pr, r_ul_ol, r_ul_pl, r_ul_ct, r_pl_ax, r_pl_or, r_pl_ur, r_pl_pr, r_pl_ol, r_pl_ul, r_pl_ct, r_ct_ax, r_ct_or, r_ct_ur, r_ct_pr, r_ct_ol, r_ct_ul, r_ct_pl, q1, q2, q3, q4, q5, q6, e1, e2, e3, gInt_bl, gIs_tn, gIs_nn, gIsN_tn, gIsN_nn, gReverse_r, revC_s, iV_, kVV_t, kVV_r, revI_s, iW_, kW_, gInX_r, gNinX_r, inC_d, gAny_r, anyC_s, gStartsW_, $ls,*])
local macro_rules | `(tactic| walk_at "ev") => `(tactic| simp (disch := first | omega | assumption | (simp only [List.length_cons, List.length_nil, List.length_append, List.length_take, List.length_drop]; omega) | (simp only [List.length_cons, List.length_nil])) only [sQ_, sP_, sE_, sR_, sIf_, sN_, sA_, tgO_nx, nm_, tgIx_, eC_, eV0, eV1, e1_, e2_, eB_, eF_, aN_, aC_, eMt_, eSl_, oN_, oI_, tV_, tE_, tA_, tO_, tN_, eIf_, eAnd_, eOr_, eNot_, eCh_, seq_nx, seq_rt, seq_bk, seq_ct, seq_ex, toR_some, toR_none, toT_some, truD_bl, truD_int, truD_tup, truD_non, truD_str, truD_ref, truC_lst, tyD_str, tyD_tup, tyD_int, tyD_bl, tyD_non, tyD_ref, tyC_lst, tyC_rol, tyC_dic, kE_, kR_, kIf_t, kIf_f, kN_, kA_, kIx1_, kIx2_, kIx3_, kE1_, kE21_, kE2_, kB_, kF_, kC1_, kC_, kM1_, kM2_, kM_, kS1_, kS2_, kS3_, kO_, kV_, kT_, kAn_t, kAn_f, kOr_t, kOr_f, kNo_, kIfE_t, kIfE_f, kVa_, kVa2_t, kVa2_f, kVo_, kVo2_t, kVo2_f, kVn_, kVn2_, kH_, kH1_, kH2_t, kH2_f, kH3_, List.getElem?_cons_zero, List.getElem?_cons_succ, List.set_cons_zero, List.set_cons_succ, gAdd_int, gAdd_str, gAdd_t, gAdd_r, catC_s, gSub_int, gMul_l, gMul_r, gFdiv_int, gMod_int, gLt_int, gLe_int, gGt_int, gGe_int, gInt_int, gAbs_int, gLen_tup, gLen_str, gLen_r, lenC_s, gTpl_, gLsd_, gIx_r, ixC_s, ixO_s, gIx_t, gIx_s, ixS_s, atI_0, atI_1, atI_2, atI_3, atI_4, atI_5, gAppend_r, appC_s, gExtend_r, extC_s, gPop_r, popC_s, gSet_r, setC_0, setC_2, gTuple_r, tupC_s, gTuple_t, gList_r, gList_t, newC_s, gSl_r, slC_s, gSl_t, gSl_s, cut_take, cut_drop, cut_init, cut_mid, Int.toNat_natCast, lstC_lst, lstC_rol, lstAt_C, isi_str, isi_int, isi_bool, isi_tup, isi_lst, isO_s, isB_1, isB_2, isB_3, isB_4, isB_5, isB_6, isB_7, isB_8, isB_9, isB_10, isB_11, isB_12, isB_13, isB_14, isB_15, isB_16, isB_17, isB_18, isB_19, isB_20, isB_21, isB_22, isB_23, isB_24, isB_25, isB_26, gSum_r, sumC_s, sumO_s, gMin_, gMax_, qEq_int, qNe_int, qEq_str, qNe_str, gNeg_z, tgT_, tgU_, tgL0, tgL1, eTab_, kTab_, sX_, tgIxX_, kX1_, kX2_, kX3_, gSetX_r, setX_0, setX_2, setX_s, sPar_, kPar_, eFv_, eGetD_, kG1_, isDic_r, isDC_d, kG1b_, kG2_, kG3_, gGetD_r, getC_s, gMaxL_r, maxC_, gRep_r, repC_, eD0_, gDget_r, dgC_s, List.getElem?_concat_length, set_end, sF_, kFor_, iR1_, kR1_, iR2_, kR2_, kR3_, iA_, kAny_r, kAny_t, kAny_s, iaC_s, eLc_, kLc_, wipeD_c, wipeD_n, tYes_, put_one, sAug_, gAug_i, sBk_, sCt_, sW_, st_len, st_p, st_k, st_0, st_q, st_set_p, st_set_k, st_set_0, st_push, sx_len, sx_k, sx_0, sx_q, sx_set_k, sx_set_0, sx_push, So_rt, So_nx, So_ex, Tn_nx, Tn_ct, Tn_bk, Tn_rt, Tn_ex, Bool.false_eq_true, if_true, if_false, reduceIte, Option.map_some, Option.bind_some, Bool.not_true, Bool.not_false, decide_true, decide_false, eq_self, List.length_append, List.length_singleton, List.length_cons, List.length_nil, List.map_cons, List.map_nil, Nat.sub_self, List.replicate_zero, List.append_nil, List.cons_append, List.nil_append, List.append_assoc, List.replicate_succ, Nat.reduceSub, Nat.reduceAdd, Nat.add_zero, Nat.zero_add, Nat.add_assoc, Nat.reduceLeDiff, Int.natCast_add, Int.cast_ofNat_Int, Int.reduceEq, Int.reduceLT, Int.reduceLE, Int.reduceAdd, Int.reduceSub, Int.reduceNeg, Int.reduceToNat, List.take_succ_cons, List.take_zero, List.drop_succ_cons, List.drop_zero, List.dropLast_concat, Dl.atI_last, gFdivW_, gJoin_r, joinC_, gUpper_, gRepl_, gInK_, gNinK_, r_ax_or, r_ax_ur, r_ax_pr, r_ax_ol, r_ax_ul, r_ax_pl, r_ax_ct, r_or_ax, r_or_ur, r_or_pr, r_or_ol, r_or_ul, r_or_pl, r_or_ct, r_ur_ax, r_ur_or, r_ur_pr, r_ur_ol, r_ur_ul, r_ur_pl, r_ur_ct, r_pr_ax, r_pr_or, r_pr_ur, r_pr_ol, r_pr_ul, r_pr_pl, r_pr_ct, r_ol_ax, r_ol_or, r_ol_ur, r_ol_pr, r_ol_ul, r_ol_pl, r_ol_ct, r_ul_ax, r_ul_or, r_ul_ur, r_ul_pr, r_ul_ol, r_ul_pl, r_ul_ct, r_pl_ax, r_pl_or, r_pl_ur, r_pl_pr, r_pl_ol, r_pl_ul, r_pl_ct, r_ct_ax, r_ct_or, r_ct_ur, r_ct_pr, r_ct_ol, r_ct_ul, r_ct_pl, q1, q2, q3, q4, q5, q6, e1, e2, e3, gInt_bl, gIs_tn, gIs_nn, gIsN_tn, gIsN_nn, gReverse_r, revC_s, iV_, kVV_t, kVV_r, revI_s, iW_, kW_, gInX_r, gNinX_r, inC_d, gAny_r, anyC_s, gStartsW_])
/-! ## the texts of kinds and sequents -/
theorem fkind_t : ∀ (k : KT) (n : Nat) {S : Store}, k.ok AtS → 2 * k.at_.length ≤ n + 2 → k.at_.length ≤ 1000 → SOK S →
    Dl.Sp (tab (n + 1) .format_kind [k.d] S) fun r => r = .ok (.str k.fk) S
  | .leaf t, n, S, hk, hn, _, hS => by
    refine Dl.sp_plain (g := b_format_kind (tab n)) rfl fun Q hQ => ?_
    unfold b_format_kind
    simp_arith [KTd_leaf, isi_ss]
    exact Dl.Qx (hS.wf rfl) rfl (hQ _ rfl)
  | .node s a b, n, S, hk, hn, hl, hS => by
    refine Dl.sp_plain (g := b_format_kind (tab n)) rfl fun Q hQ => ?_
    unfold b_format_kind
    have pa := KT.pos a
    have pb := KT.pos b
    rw [KT.len_node] at hn hl
    obtain ⟨m, rfl⟩ : ∃ m, n = m + 2 := ⟨n - 2, by omega⟩
    have part : ∀ k : KT, k.ok AtS → 2 * k.at_.length ≤ m + 2 → k.at_.length ≤ 1000 → (∀ S, SOK S → tab (m + 1) .format_kind [k.d] S = .ok (.str k.fk) S) → tab (m + 2) .format_part [k.d] (Dl.sx S []) = .ok (.str k.fp) (Dl.sx S []) := by
      intro k ok h1 h2 ih
      have sp : Dl.Sp (tab (m + 2) .format_part [k.d] (Dl.sx S [])) fun r => r = .ok (.str k.fp) (Dl.sx S []) := by
        have hS' : SOK (Dl.sx S []) := hS.sx .nil
        generalize Dl.sx S [] = S' at *
        refine Dl.sp_plain (g := b_format_part (tab (m + 1))) rfl fun Q hQ => ?_
        unfold b_format_part
        have fl := fk_len ok
        have l1 : ("(" : Str).length = 1 := by decide +kernel
        have l2 : (")" : Str).length = 1 := by decide +kernel
        have l3 : ("(" ++ k.fk : Str).length = 1 + k.fk.length := by rw [app_len, l1]
        have e := ih (Dl.sx S' []) (hS'.sx .nil)
        cases k with
        | leaf t =>
          simp_arith [KTd_leaf, isi_ss]
          exact Dl.Qx (hS'.wf rfl) rfl (hQ _ rfl)
        | node s' a' b' =>
          rw [KTd_node] at e
          simp_arith [KTd_node, isi_st, e]
          exact Dl.Qx (hS'.wf rfl) rfl (hQ _ rfl)
      exact sp
    have ea := part a hk.2.1 (by omega) (by omega) fun S hS => fkind_t a m (S := S) hk.2.1 (by omega) (by omega) hS
    have eb := part b hk.2.2 (by omega) (by omega) fun S hS => fkind_t b m (S := S) hk.2.2 (by omega) (by omega) hS
    have fa := fp_len hk.2.1
    have fb := fp_len hk.2.2
    obtain ⟨c, hc, _⟩ := sg_list hk.1
    have hs : s.length = 1 := by rw [← len_list, hc]; rfl
    have h1 : (" " : Str).length = 1 := by decide +kernel
    have l1 : (a.fp ++ " " : Str).length = a.fp.length + 1 := by rw [app_len, h1]
    have l2 : (a.fp ++ " " ++ s : Str).length = a.fp.length + 2 := by rw [app_len, l1, hs]
    have l3 : (a.fp ++ " " ++ s ++ " " : Str).length = a.fp.length + 3 := by rw [app_len, l2, h1]
    simp_arith [KTd_node, isi_st, ea, eb]
    exact Dl.Qx (hS.wf rfl) rfl (hQ _ rfl)

end Lw

set_option Elab.async false
set_option linter.all false
set_option maxRecDepth 100000
namespace Lw
open PySem L2 Dl
local macro_rules | `(tactic| simp_arith [$ls,*]) => `(tactic| simp (disch := first | omega | assumption | (simp only [List.length_cons, List.length_nil, List.length_append, List.length_take, List.length_drop]; omega) | (simp only [List.length_cons, List.length_nil])) only [sQ_, sP_, sE_, sR_, sIf_, sN_, sA_, tgO_nx, nm_, tgIx_, eC_, eV0, eV1, e1_, e2_, eB_, eF_, aN_, aC_, eMt_, eSl_, oN_, oI_, tV_, tE_, tA_, tO_, tN_, eIf_, eAnd_, eOr_, eNot_, eCh_, seq_nx, seq_rt, seq_bk, seq_ct, seq_ex, toR_some, toR_none, toT_some, truD_bl, truD_int, truD_tup, truD_non, truD_str, truD_ref, truC_lst, tyD_str, tyD_tup, tyD_int, tyD_bl, tyD_non, tyD_ref, tyC_lst, tyC_rol, tyC_dic, kE_, kR_, kIf_t, kIf_f, kN_, kA_, kIx1_, kIx2_, kIx3_, kE1_, kE21_, kE2_, kB_, kF_, kC1_, kC_, kM1_, kM2_, kM_, kS1_, kS2_, kS3_, kO_, kV_, kT_, kAn_t, kAn_f, kOr_t, kOr_f, kNo_, kIfE_t, kIfE_f, kVa_, kVa2_t, kVa2_f, kVo_, kVo2_t, kVo2_f, kVn_, kVn2_, kH_, kH1_, kH2_t, kH2_f, kH3_, List.getElem?_cons_zero, List.getElem?_cons_succ, List.set_cons_zero, List.set_cons_succ, gAdd_int, gAdd_str, gAdd_t, gAdd_r, catC_s, gSub_int, gMul_l, gMul_r, gFdiv_int, gMod_int, gLt_int, gLe_int, gGt_int, gGe_int, gInt_int, gAbs_int, gLen_tup, gLen_str, gLen_r, lenC_s, gTpl_, gLsd_, gIx_r, ixC_s, ixO_s, gIx_t, gIx_s, ixS_s, atI_0, atI_1, atI_2, atI_3, atI_4, atI_5, gAppend_r, appC_s, gExtend_r, extC_s, gPop_r, popC_s, gSet_r, setC_0, setC_2, gTuple_r, tupC_s, gTuple_t, gList_r, gList_t, newC_s, gSl_r, slC_s, gSl_t, gSl_s, cut_take, cut_drop, cut_init, cut_mid, Int.toNat_natCast, lstC_lst, lstC_rol, lstAt_C, isi_str, isi_int, isi_bool, isi_tup, isi_lst, isO_s, isB_1, isB_2, isB_3, isB_4, isB_5, isB_6, isB_7, isB_8, isB_9, isB_10, isB_11, isB_12, isB_13, isB_14, isB_15, isB_16, isB_17, isB_18, isB_19, isB_20, isB_21, isB_22, isB_23, isB_24, isB_25, isB_26, gSum_r, sumC_s, sumO_s, gMin_, gMax_, qEq_int, qNe_int, qEq_str, qNe_str, gNeg_z, tgT_, tgU_, tgL0, tgL1, eTab_, kTab_, sX_, tgIxX_, kX1_, kX2_, kX3_, gSetX_r, setX_0, setX_2, setX_s, sPar_, kPar_, eFv_, eGetD_, kG1_, isDic_r, isDC_d, kG1b_, kG2_, kG3_, gGetD_r, getC_s, gMaxL_r, maxC_, gRep_r, repC_, eD0_, gDget_r, dgC_s, List.getElem?_concat_length, set_end, sF_, kFor_, iR1_, kR1_, iR2_, kR2_, kR3_, iA_, kAny_r, kAny_t, kAny_s, iaC_s, eLc_, kLc_, wipeD_c, wipeD_n, tYes_, put_one, sAug_, gAug_i, sBk_, sCt_, sW_, st_len, st_p, st_k, st_0, st_q, st_set_p, st_set_k, st_set_0, st_push, sx_len, sx_k, sx_0, sx_q, sx_set_k, sx_set_0, sx_push, So_rt, So_nx, So_ex, Tn_nx, Tn_ct, Tn_bk, Tn_rt, Tn_ex, Bool.false_eq_true, if_true, if_false, reduceIte, Option.map_some, Option.bind_some, Bool.not_true, Bool.not_false, decide_true, decide_false, eq_self, List.length_append, List.length_singleton, List.length_cons, List.length_nil, List.map_cons, List.map_nil, Nat.sub_self, List.replicate_zero, List.append_nil, List.cons_append, List.nil_append, List.append_assoc, List.replicate_succ, Nat.reduceSub, Nat.reduceAdd, Nat.add_zero, Nat.zero_add, Nat.add_assoc, Nat.reduceLeDiff, Int.natCast_add, Int.cast_ofNat_Int, Int.reduceEq, Int.reduceLT, Int.reduceLE, Int.reduceAdd, Int.reduceSub, Int.reduceNeg, Int.reduceToNat, List.take_succ_cons, List.take_zero, List.drop_succ_cons, List.drop_zero, List.dropLast_concat, Dl.atI_last, gFdivW_, gJoin_r, joinC_, gUpper_, gRepl_, gInK_, gNinK_, r_ax_or, r_ax_ur, r_ax_pr, r_ax_ol, r_ax_ul, r_ax_pl, r_ax_ct, r_or_ax, r_or_ur, r_or_pr, r_or_ol, r_or_ul, r_or_pl, r_or_ct, r_ur_ax, r_ur_or, r_ur_pr, r_ur_ol, r_ur_ul, r_ur_pl, r_ur_ct, r_pr_ax, r_pr_or, r_pr_ur, r_pr_ol, r_pr_ul, r_pr_pl, r_pr_ct, r_ol_ax, r_ol_or, r_ol_ur, r_ol_pr, r_ol_ul, r_ol_pl, r_ol_ct, r_ul_ax, r_ul_or, r_ul_ur, r_ul_pr, r_ul_ol, r_ul_pl, r_ul_ct, r_pl_ax, r_pl_or, r_pl_ur, r_pl_pr, r_pl_ol, r_pl_ul, r_pl_ct, r_ct_ax, r_ct_or, r_ct_ur, r_ct_pr, r_ct_ol, r_ct_ul, r_ct_pl, q1, q2, q3, q4, q5, q6, e1, e2, e3, gInt_bl, gIs_tn, gIs_nn, gIsN_tn, gIsN_nn, gReverse_r, revC_s, iV_, kVV_t, kVV_r, revI_s, iW_, kW_, gInX_r, gNinX_r, inC_d, gAny_r, anyC_s, gStartsW_, $ls,*])
local macro_rules | `(tactic| walk_at "ev") => `(tactic| simp (disch := first | omega | assumption | (simp only [List.length_cons, List.length_nil, List.length_append, List.length_take, List.length_drop]; omega) | (simp only [List.length_cons, List.length_nil])) only [sQ_, sP_, sE_, sR_, sIf_, sN_, sA_, tgO_nx, nm_, tgIx_, eC_, eV0, eV1, e1_, e2_, eB_, eF_, aN_, aC_, eMt_, eSl_, oN_, oI_, tV_, tE_, tA_, tO_, tN_, eIf_, eAnd_, eOr_, eNot_, eCh_, seq_nx, seq_rt, seq_bk, seq_ct, seq_ex, toR_some, toR_none, toT_some, truD_bl, truD_int, truD_tup, truD_non, truD_str, truD_ref, truC_lst, tyD_str, tyD_tup, tyD_int, tyD_bl, tyD_non, tyD_ref, tyC_lst, tyC_rol, tyC_dic, kE_, kR_, kIf_t, kIf_f, kN_, kA_, kIx1_, kIx2_, kIx3_, kE1_, kE21_, kE2_, kB_, kF_, kC1_, kC_, kM1_, kM2_, kM_, kS1_, kS2_, kS3_, kO_, kV_, kT_, kAn_t, kAn_f, kOr_t, kOr_f, kNo_, kIfE_t, kIfE_f, kVa_, kVa2_t, kVa2_f, kVo_, kVo2_t, kVo2_f, kVn_, kVn2_, kH_, kH1_, kH2_t, kH2_f, kH3_, List.getElem?_cons_zero, List.getElem?_cons_succ, List.set_cons_zero, List.set_cons_succ, gAdd_int, gAdd_str, gAdd_t, gAdd_r, catC_s, gSub_int, gMul_l, gMul_r, gFdiv_int, gMod_int, gLt_int, gLe_int, gGt_int, gGe_int, gInt_int, gAbs_int, gLen_tup, gLen_str, gLen_r, lenC_s, gTpl_, gLsd_, gIx_r, ixC_s, ixO_s, gIx_t, gIx_s, ixS_s, atI_0, atI_1, atI_2, atI_3, atI_4, atI_5, gAppend_r, appC_s, gExtend_r, extC_s, gPop_r, popC_s, gSet_r, setC_0, setC_2, gTuple_r, tupC_s, gTuple_t, gList_r, gList_t, newC_s, gSl_r, slC_s, gSl_t, gSl_s, cut_take, cut_drop, cut_init, cut_mid, Int.toNat_natCast, lstC_lst, lstC_rol, lstAt_C, isi_str, isi_int, isi_bool, isi_tup, isi_lst, isO_s, isB_1, isB_2, isB_3, isB_4, isB_5, isB_6, isB_7, isB_8, isB_9, isB_10, isB_11, isB_12, isB_13, isB_14, isB_15, isB_16, isB_17, isB_18, isB_19, isB_20, isB_21, isB_22, isB_23, isB_24, isB_25, isB_26, gSum_r, sumC_s, sumO_s, gMin_, gMax_, qEq_int, qNe_int, qEq_str, qNe_str, gNeg_z, tgT_, tgU_, tgL0, tgL1, eTab_, kTab_, sX_, tgIxX_, kX1_, kX2_, kX3_, gSetX_r, setX_0, setX_2, setX_s, sPar_, kPar_, eFv_, eGetD_, kG1_, isDic_r, isDC_d, kG1b_, kG2_, kG3_, gGetD_r, getC_s, gMaxL_r, maxC_, gRep_r, repC_, eD0_, gDget_r, dgC_s, List.getElem?_concat_length, set_end, sF_, kFor_, iR1_, kR1_, iR2_, kR2_, kR3_, iA_, kAny_r, kAny_t, kAny_s, iaC_s, eLc_, kLc_, wipeD_c, wipeD_n, tYes_, put_one, sAug_, gAug_i, sBk_, sCt_, sW_, st_len, st_p, st_k, st_0, st_q, st_set_p, st_set_k, st_set_0, st_push, sx_len, sx_k, sx_0, sx_q, sx_set_k, sx_set_0, sx_push, So_rt, So_nx, So_ex, Tn_nx, Tn_ct, Tn_bk, Tn_rt, Tn_ex, Bool.false_eq_true, if_true, if_false, reduceIte, Option.map_some, Option.bind_some, Bool.not_true, Bool.not_false, decide_true, decide_false, eq_self, List.length_append, List.length_singleton, List.length_cons, List.length_nil, List.map_cons, List.map_nil, Nat.sub_self, List.replicate_zero, List.append_nil, List.cons_append, List.nil_append, List.append_assoc, List.replicate_succ, Nat.reduceSub, Nat.reduceAdd, Nat.add_zero, Nat.zero_add, Nat.add_assoc, Nat.reduceLeDiff, Int.natCast_add, Int.cast_ofNat_Int, Int.reduceEq, Int.reduceLT, Int.reduceLE, Int.reduceAdd, Int.reduceSub, Int.reduceNeg, Int.reduceToNat, List.take_succ_cons, List.take_zero, List.drop_succ_cons, List.drop_zero, List.dropLast_concat, Dl.atI_last, gFdivW_, gJoin_r, joinC_, gUpper_, gRepl_, gInK_, gNinK_, r_ax_or, r_ax_ur, r_ax_pr, r_ax_ol, r_ax_ul, r_ax_pl, r_ax_ct, r_or_ax, r_or_ur, r_or_pr, r_or_ol, r_or_ul, r_or_pl, r_or_ct, r_ur_ax, r_ur_or, r_ur_pr, r_ur_ol, r_ur_ul, r_ur_pl, r_ur_ct, r_pr_ax, r_pr_or, r_pr_ur, r_pr_ol, r_pr_ul, r_pr_pl, r_pr_ct, r_ol_ax, r_ol_or, r_ol_ur, r_ol_pr, r_ol_ul, r_ol_pl, r_ol_ct, r_ul_ax, r_ul_or, r_ul_ur, r_ul_pr, r_ul_ol, r_ul_pl, r_ul_ct, r_pl_ax, r_pl_or, r_pl_ur, r_pl_pr, r_pl_ol, r_pl_ul, r_pl_ct, r_ct_ax, r_ct_or, r_ct_ur, r_ct_pr, r_ct_ol, r_ct_ul, r_ct_pl, q1, q2, q3, q4, q5, q6, e1, e2, e3, gInt_bl, gIs_tn, gIs_nn, gIsN_tn, gIsN_nn, gReverse_r, revC_s, iV_, kVV_t, kVV_r, revI_s, iW_, kW_, gInX_r, gNinX_r, inC_d, gAny_r, anyC_s, gStartsW_])
/-! ## runs of signs -/
theorem ix_at {t : Str} {A R : List Nat} {c : Nat} (h : t.cps.toList = A ++ c :: R) : atI t.cps.toList (A.length : Int) = some c := by
  rw [h]
  exact L2.atI_nat (by rw [List.getElem?_append_right (Nat.le_refl _), Nat.sub_self]; rfl)
theorem run_t (n : Nat) {t s : Str} {A W R : List Nat} {most : Nat} {S : Store} (ht : t.cps.toList = A ++ (W ++ R)) (hW : ∀ c ∈ W, c ∈ s.cps.toList) (hm : W.length ≤ most) (hR : W.length = most ∨ ∀ c r, R = c :: r → c ∉ s.cps.toList) (hl : t.length ≤ 1000) (hs : SOK S) :
    Dl.Sp (tab (n + 1) .end_of_run [.str t, .int A.length, .str s, .int most] S) fun r => r = .ok (.int (A.length + W.length : Nat)) S := by
  refine Dl.sp_plain (g := b_end_of_run (tab n)) rfl fun Q hQ => ?_
  unfold b_end_of_run
  have tl : t.length = A.length + W.length + R.length := by rw [← len_list, ht]; simp only [List.length_append]; omega
  simp_arith []
  have fin : Q (cmp S.length (.int ((A.length : Int) + W.length)) (Dl.sx S [])) := Dl.Qx (hs.wf rfl) rfl (hQ _ (by rw [Int.natCast_add]))
  have stop : ∀ (S1 : Store), S1 = Dl.sx S [] → Dl.So S.length Q ((Dl.Out.nx [some (.str t), some (.int A.length), some (.str s), some (.int most), some (.int ((A.length : Int) + W.length))] S1).seq (sR (eV 4))) := fun S1 e => by
    subst e
    simp_arith []
    exact fin
  have hWF : W.length < WF := by
    have h1 : W.length ≤ 1000 := by omega
    exact Nat.lt_of_le_of_lt h1 (by show 1000 < WF; unfold WF; decide)
  refine Dl.whileQ' (P := fun o => Dl.So S.length Q (o.seq (sR (eV 4)))) (fun j ρ S' => ∃ k : Nat, k ≤ W.length ∧ j = W.length - k ∧ ρ = [some (.str t), some (.int A.length), some (.str s), some (.int most), some (.int ((A.length : Int) + k))] ∧ S' = Dl.sx S []) ?_ WF W.length _ _ hWF ⟨0, Nat.zero_le _, rfl, by rw [Int.natCast_zero, Int.add_zero], rfl⟩
  rintro j _ _ ⟨k, hk, rfl, rfl, rfl⟩
  by_cases hlt : k < W.length
  · right
    obtain ⟨W1, c, W2, hW', hk'⟩ : ∃ W1 c W2, W = W1 ++ c :: W2 ∧ k = W1.length := ⟨W.take k, W[k], W.drop (k + 1), by rw [List.getElem_cons_drop, List.take_append_drop], by rw [List.length_take]; omega⟩
    have hc : c ∈ s.cps.toList := hW c (by rw [hW']; simp)
    have ix := ix_at (t := t) (A := A ++ W1) (R := W2 ++ R) (c := c) (by rw [ht, hW']; simp only [List.append_assoc, List.cons_append])
    have e0 : (((A ++ W1).length : Nat) : Int) = (A.length : Int) + k := by rw [List.length_append, hk']; omega
    rw [e0] at ix
    have z1 : (A.length : Int) + k < (t.length : Int) := by omega
    have z2 : (A.length : Int) + k < (A.length : Int) + most := by omega
    have gi := fun S => gIn_c (c := c) (b := s) (S := S)
    simp only [hc, decide_true] at gi
    refine ⟨Dl.sx S [], ?_, ?_⟩
    · simp_arith [z1, z2, ix, gi]
    · have ea := Dl.sAug_ (ρ := [some (.str t), some (.int A.length), some (.str s), some (.int most), some (.int ((A.length : Int) + k))]) (S := Dl.sx S []) (f := eC (.int 1)) (m := 4) (gg := gAugAdd) (d := .int ((A.length : Int) + k)) rfl
      rw [ea]
      have eg : gAugAdd (.int ((A.length : Int) + k)) (.int 1) (Dl.sx S []) = some (.int ((A.length : Int) + (k + 1 : Nat)), Dl.sx S []) := by
        show some (D.int ((A.length : Int) + k + 1), Dl.sx S []) = _
        congr 3
      simp_arith [eg]
      exact ⟨W.length - (k + 1), by omega, k + 1, by omega, rfl, rfl, trivial⟩
  · left
    obtain rfl : k = W.length := by omega
    refine ⟨Dl.sx S [], ?_, stop _ rfl⟩
    cases R with
    | nil =>
      have z1 : ¬ (A.length : Int) + W.length < (t.length : Int) := by simp only [List.length_nil] at tl; omega
      simp_arith [z1]
    | cons c r =>
      have z1 : (A.length : Int) + W.length < (t.length : Int) := by simp only [List.length_cons] at tl; omega
      by_cases hq : W.length = most
      · have z2 : ¬ (A.length : Int) + W.length < (A.length : Int) + most := by omega
        simp_arith [z1, z2]
      · have z2 : (A.length : Int) + W.length < (A.length : Int) + most := by omega
        have hc := hR.resolve_left hq c r rfl
        have ix := ix_at (t := t) (A := A ++ W) (R := r) (c := c) (by rw [ht]; simp only [List.append_assoc])
        have e0 : (((A ++ W).length : Nat) : Int) = (A.length : Int) + W.length := by rw [List.length_append]; omega
        rw [e0] at ix
        have gi := fun S => gIn_c (c := c) (b := s) (S := S)
        simp only [hc, decide_false] at gi
        simp_arith [z1, z2, ix, gi]

end Lw

set_option Elab.async false
set_option linter.all false
set_option maxRecDepth 100000
namespace Lw
open PySem L2 Dl
local macro_rules | `(tactic| simp_arith [$ls,*]) => `(tactic| simp (disch := first | omega | assumption | (simp only [List.length_cons, List.length_nil, List.length_append, List.length_take, List.length_drop]; omega) | (simp only [List.length_cons, List.length_nil])) only [sQ_, sP_, sE_, sR_, sIf_, sN_, sA_, tgO_nx, nm_, tgIx_, eC_, eV0, eV1, e1_, e2_, eB_, eF_, aN_, aC_, eMt_, eSl_, oN_, oI_, tV_, tE_, tA_, tO_, tN_, eIf_, eAnd_, eOr_, eNot_, eCh_, seq_nx, seq_rt, seq_bk, seq_ct, seq_ex, toR_some, toR_none, toT_some, truD_bl, truD_int, truD_tup, truD_non, truD_str, truD_ref, truC_lst, tyD_str, tyD_tup, tyD_int, tyD_bl, tyD_non, tyD_ref, tyC_lst, tyC_rol, tyC_dic, kE_, kR_, kIf_t, kIf_f, kN_, kA_, kIx1_, kIx2_, kIx3_, kE1_, kE21_, kE2_, kB_, kF_, kC1_, kC_, kM1_, kM2_, kM_, kS1_, kS2_, kS3_, kO_, kV_, kT_, kAn_t, kAn_f, kOr_t, kOr_f, kNo_, kIfE_t, kIfE_f, kVa_, kVa2_t, kVa2_f, kVo_, kVo2_t, kVo2_f, kVn_, kVn2_, kH_, kH1_, kH2_t, kH2_f, kH3_, List.getElem?_cons_zero, List.getElem?_cons_succ, List.set_cons_zero, List.set_cons_succ, gAdd_int, gAdd_str, gAdd_t, gAdd_r, catC_s, gSub_int, gMul_l, gMul_r, gFdiv_int, gMod_int, gLt_int, gLe_int, gGt_int, gGe_int, gInt_int, gAbs_int, gLen_tup, gLen_str, gLen_r, lenC_s, gTpl_, gLsd_, gIx_r, ixC_s, ixO_s, gIx_t, gIx_s, ixS_s, atI_0, atI_1, atI_2, atI_3, atI_4, atI_5, gAppend_r, appC_s, gExtend_r, extC_s, gPop_r, popC_s, gSet_r, setC_0, setC_2, gTuple_r, tupC_s, gTuple_t, gList_r, gList_t, newC_s, gSl_r, slC_s, gSl_t, gSl_s, cut_take, cut_drop, cut_init, cut_mid, Int.toNat_natCast, lstC_lst, lstC_rol, lstAt_C, isi_str, isi_int, isi_bool, isi_tup, isi_lst, isO_s, isB_1, isB_2, isB_3, isB_4, isB_5, isB_6, isB_7, isB_8, isB_9, isB_10, isB_11, isB_12, isB_13, isB_14, isB_15, isB_16, isB_17, isB_18, isB_19, isB_20, isB_21, isB_22, isB_23, isB_24, isB_25, isB_26, gSum_r, sumC_s, sumO_s, gMin_, gMax_, qEq_int, qNe_int, qEq_str, qNe_str, gNeg_z, tgT_, tgU_, tgL0, tgL1, eTab_, kTab_, sX_, tgIxX_, kX1_, kX2_, kX3_, gSetX_r, setX_0, setX_2, setX_s, sPar_, kPar_, eFv_, eGetD_, kG1_, isDic_r, isDC_d, kG1b_, kG2_, kG3_, gGetD_r, getC_s, gMaxL_r, maxC_, gRep_r, repC_, eD0_, gDget_r, dgC_s, List.getElem?_concat_length, set_end, sF_, kFor_, iR1_, kR1_, iR2_, kR2_, kR3_, iA_, kAny_r, kAny_t, kAny_s, iaC_s, eLc_, kLc_, wipeD_c, wipeD_n, tYes_, put_one, sAug_, gAug_i, sBk_, sCt_, sW_, st_len, st_p, st_k, st_0, st_q, st_set_p, st_set_k, st_set_0, st_push, sx_len, sx_k, sx_0, sx_q, sx_set_k, sx_set_0, sx_push, So_rt, So_nx, So_ex, Tn_nx, Tn_ct, Tn_bk, Tn_rt, Tn_ex, Bool.false_eq_true, if_true, if_false, reduceIte, Option.map_some, Option.bind_some, Bool.not_true, Bool.not_false, decide_true, decide_false, eq_self, List.length_append, List.length_singleton, List.length_cons, List.length_nil, List.map_cons, List.map_nil, Nat.sub_self, List.replicate_zero, List.append_nil, List.cons_append, List.nil_append, List.append_assoc, List.replicate_succ, Nat.reduceSub, Nat.reduceAdd, Nat.add_zero, Nat.zero_add, Nat.add_assoc, Nat.reduceLeDiff, Int.natCast_add, Int.cast_ofNat_Int, Int.reduceEq, Int.reduceLT, Int.reduceLE, Int.reduceAdd, Int.reduceSub, Int.reduceNeg, Int.reduceToNat, List.take_succ_cons, List.take_zero, List.drop_succ_cons, List.drop_zero, List.dropLast_concat, Dl.atI_last, gFdivW_, gJoin_r, joinC_, gUpper_, gRepl_, gInK_, gNinK_, r_ax_or, r_ax_ur, r_ax_pr, r_ax_ol, r_ax_ul, r_ax_pl, r_ax_ct, r_or_ax, r_or_ur, r_or_pr, r_or_ol, r_or_ul, r_or_pl, r_or_ct, r_ur_ax, r_ur_or, r_ur_pr, r_ur_ol, r_ur_ul, r_ur_pl, r_ur_ct, r_pr_ax, r_pr_or, r_pr_ur, r_pr_ol, r_pr_ul, r_pr_pl, r_pr_ct, r_ol_ax, r_ol_or, r_ol_ur, r_ol_pr, r_ol_ul, r_ol_pl, r_ol_ct, r_ul_ax, r_ul_or, r_ul_ur, r_ul_pr, r_ul_ol, r_ul_pl, r_ul_ct, r_pl_ax, r_pl_or, r_pl_ur, r_pl_pr, r_pl_ol, r_pl_ul, r_pl_ct, r_ct_ax, r_ct_or, r_ct_ur, r_ct_pr, r_ct_ol, r_ct_ul, r_ct_pl, q1, q2, q3, q4, q5, q6, e1, e2, e3, gInt_bl, gIs_tn, gIs_nn, gIsN_tn, gIsN_nn, gReverse_r, revC_s, iV_, kVV_t, kVV_r, revI_s, iW_, kW_, gInX_r, gNinX_r, inC_d, gAny_r, anyC_s, gStartsW_, $ls,*])
local macro_rules | `(tactic| walk_at "ev") => `(tactic| simp (disch := first | omega | assumption | (simp only [List.length_cons, List.length_nil, List.length_append, List.length_take, List.length_drop]; omega) | (simp only [List.length_cons, List.length_nil])) only [sQ_, sP_, sE_, sR_, sIf_, sN_, sA_, tgO_nx, nm_, tgIx_, eC_, eV0, eV1, e1_, e2_, eB_, eF_, aN_, aC_, eMt_, eSl_, oN_, oI_, tV_, tE_, tA_, tO_, tN_, eIf_, eAnd_, eOr_, eNot_, eCh_, seq_nx, seq_rt, seq_bk, seq_ct, seq_ex, toR_some, toR_none, toT_some, truD_bl, truD_int, truD_tup, truD_non, truD_str, truD_ref, truC_lst, tyD_str, tyD_tup, tyD_int, tyD_bl, tyD_non, tyD_ref, tyC_lst, tyC_rol, tyC_dic, kE_, kR_, kIf_t, kIf_f, kN_, kA_, kIx1_, kIx2_, kIx3_, kE1_, kE21_, kE2_, kB_, kF_, kC1_, kC_, kM1_, kM2_, kM_, kS1_, kS2_, kS3_, kO_, kV_, kT_, kAn_t, kAn_f, kOr_t, kOr_f, kNo_, kIfE_t, kIfE_f, kVa_, kVa2_t, kVa2_f, kVo_, kVo2_t, kVo2_f, kVn_, kVn2_, kH_, kH1_, kH2_t, kH2_f, kH3_, List.getElem?_cons_zero, List.getElem?_cons_succ, List.set_cons_zero, List.set_cons_succ, gAdd_int, gAdd_str, gAdd_t, gAdd_r, catC_s, gSub_int, gMul_l, gMul_r, gFdiv_int, gMod_int, gLt_int, gLe_int, gGt_int, gGe_int, gInt_int, gAbs_int, gLen_tup, gLen_str, gLen_r, lenC_s, gTpl_, gLsd_, gIx_r, ixC_s, ixO_s, gIx_t, gIx_s, ixS_s, atI_0, atI_1, atI_2, atI_3, atI_4, atI_5, gAppend_r, appC_s, gExtend_r, extC_s, gPop_r, popC_s, gSet_r, setC_0, setC_2, gTuple_r, tupC_s, gTuple_t, gList_r, gList_t, newC_s, gSl_r, slC_s, gSl_t, gSl_s, cut_take, cut_drop, cut_init, cut_mid, Int.toNat_natCast, lstC_lst, lstC_rol, lstAt_C, isi_str, isi_int, isi_bool, isi_tup, isi_lst, isO_s, isB_1, isB_2, isB_3, isB_4, isB_5, isB_6, isB_7, isB_8, isB_9, isB_10, isB_11, isB_12, isB_13, isB_14, isB_15, isB_16, isB_17, isB_18, isB_19, isB_20, isB_21, isB_22, isB_23, isB_24, isB_25, isB_26, gSum_r, sumC_s, sumO_s, gMin_, gMax_, qEq_int, qNe_int, qEq_str, qNe_str, gNeg_z, tgT_, tgU_, tgL0, tgL1, eTab_, kTab_, sX_, tgIxX_, kX1_, kX2_, kX3_, gSetX_r, setX_0, setX_2, setX_s, sPar_, kPar_, eFv_, eGetD_, kG1_, isDic_r, isDC_d, kG1b_, kG2_, kG3_, gGetD_r, getC_s, gMaxL_r, maxC_, gRep_r, repC_, eD0_, gDget_r, dgC_s, List.getElem?_concat_length, set_end, sF_, kFor_, iR1_, kR1_, iR2_, kR2_, kR3_, iA_, kAny_r, kAny_t, kAny_s, iaC_s, eLc_, kLc_, wipeD_c, wipeD_n, tYes_, put_one, sAug_, gAug_i, sBk_, sCt_, sW_, st_len, st_p, st_k, st_0, st_q, st_set_p, st_set_k, st_set_0, st_push, sx_len, sx_k, sx_0, sx_q, sx_set_k, sx_set_0, sx_push, So_rt, So_nx, So_ex, Tn_nx, Tn_ct, Tn_bk, Tn_rt, Tn_ex, Bool.false_eq_true, if_true, if_false, reduceIte, Option.map_some, Option.bind_some, Bool.not_true, Bool.not_false, decide_true, decide_false, eq_self, List.length_append, List.length_singleton, List.length_cons, List.length_nil, List.map_cons, List.map_nil, Nat.sub_self, List.replicate_zero, List.append_nil, List.cons_append, List.nil_append, List.append_assoc, List.replicate_succ, Nat.reduceSub, Nat.reduceAdd, Nat.add_zero, Nat.zero_add, Nat.add_assoc, Nat.reduceLeDiff, Int.natCast_add, Int.cast_ofNat_Int, Int.reduceEq, Int.reduceLT, Int.reduceLE, Int.reduceAdd, Int.reduceSub, Int.reduceNeg, Int.reduceToNat, List.take_succ_cons, List.take_zero, List.drop_succ_cons, List.drop_zero, List.dropLast_concat, Dl.atI_last, gFdivW_, gJoin_r, joinC_, gUpper_, gRepl_, gInK_, gNinK_, r_ax_or, r_ax_ur, r_ax_pr, r_ax_ol, r_ax_ul, r_ax_pl, r_ax_ct, r_or_ax, r_or_ur, r_or_pr, r_or_ol, r_or_ul, r_or_pl, r_or_ct, r_ur_ax, r_ur_or, r_ur_pr, r_ur_ol, r_ur_ul, r_ur_pl, r_ur_ct, r_pr_ax, r_pr_or, r_pr_ur, r_pr_ol, r_pr_ul, r_pr_pl, r_pr_ct, r_ol_ax, r_ol_or, r_ol_ur, r_ol_pr, r_ol_ul, r_ol_pl, r_ol_ct, r_ul_ax, r_ul_or, r_ul_ur, r_ul_pr, r_ul_ol, r_ul_pl, r_ul_ct, r_pl_ax, r_pl_or, r_pl_ur, r_pl_pr, r_pl_ol, r_pl_ul, r_pl_ct, r_ct_ax, r_ct_or, r_ct_ur, r_ct_pr, r_ct_ol, r_ct_ul, r_ct_pl, q1, q2, q3, q4, q5, q6, e1, e2, e3, gInt_bl, gIs_tn, gIs_nn, gIsN_tn, gIsN_nn, gReverse_r, revC_s, iV_, kVV_t, kVV_r, revI_s, iW_, kW_, gInX_r, gNinX_r, inC_d, gAny_r, anyC_s, gStartsW_])
/-! ## an atom read -/
theorem let_dig : ("abcdefghijklmnopqrstuvwxyz" ++ "0123456789" : Str).cps.toList = SM := by decide +kernel
theorem nd_sm : ∀ c, ¬ AC c → c ∉ SM := fun c h q => h (.inl q)
theorem dig_sm : ∀ c ∈ ("0123456789" : Str).cps.toList, c ∈ SM := by decide +kernel
theorem base8 {b : Str} (h : Base b) : b.cps.toList.length ≤ 8 := by rw [len_list]; exact h.len
theorem atom_t (n : Nat) {t a : Str} {A R : List Nat} {S : Store} (ha : AtS a) (ht : t.cps.toList = A ++ (a.cps.toList ++ R)) (hR : Stop R) (hl : t.length ≤ 1000) (hS : SOK S) :
    Dl.Sp (tab (n + 2) .read_atom [.str t, .int A.length] S) fun r => r = .ok (.tup [.str a, .int (A.length + a.length : Nat)]) S := by
  refine Dl.sp_plain (g := b_read_atom (tab (n + 1))) rfl fun Q hQ => ?_
  unfold b_read_atom
  obtain ⟨b, m, rfl, hb, m0, m1⟩ := ha
  have hb8 := base8 hb
  have tl : t.length = A.length + (atT b m).length + R.length := by rw [← len_list, ht, List.length_append, List.length_append, len_list]; omega
  have stopR : ∀ c r, R = c :: r → c ∉ SM ∧ c ≠ 46 := fun c r e => ⟨nd_sm c (hR c r e), fun q => hR c r e (.inr q)⟩
  have ls : ("abcdefghijklmnopqrstuvwxyz" ++ "0123456789" : Str) = ("abcdefghijklmnopqrstuvwxyz0123456789" : Str) := by decide +kernel
  have k1 : k_LETTERS = .str "abcdefghijklmnopqrstuvwxyz" := rfl
  have k2 : k_DIGITS = .str "0123456789" := rfl
  have k3 : k_MOST_IN_NAME = .int 8 := rfl
  have k4 : k_MOST_IN_NUMBER = .int 6 := rfl
  have l26 := small_len
  have l10 := dig_len
  have cut : ∀ (a : Str), t.cps.toList = A ++ (a.cps.toList ++ R) → cutS t (some (A.length : Int)) (some ((A.length : Int) + a.length)) = a := fun a h => by
    show (⟨(cutD t.cps.toList (some (A.length : Int)) (some ((A.length : Int) + a.length))).toArray⟩ : Str) = a
    rw [h, cutM rfl (by rw [len_list])]
  have n46 : 46 ∉ ("abcdefghijklmnopqrstuvwxyz" ++ "0123456789" : Str).cps.toList := by rw [let_dig]; decide +kernel
  by_cases e0 : m = 0
  · have ea : atT b m = b := by unfold atT; rw [if_pos e0]
    rw [ea] at ht hQ tl
    have er := run_t n (A := A) (W := b.cps.toList) (R := R) (most := 8) (s := "abcdefghijklmnopqrstuvwxyz" ++ "0123456789") (S := Dl.sx S []) ht (by rw [let_dig]; exact hb.all) hb8 (.inr fun c r e => by rw [let_dig]; exact (stopR c r e).1) hl (hS.sx .nil)
    rw [len_list, show ((8 : Nat) : Int) = 8 from rfl, Int.natCast_add] at er
    have ec := cut b ht
    have fin : Q (cmp S.length (.tup [.str b, .int ((A.length : Int) + b.length)]) (Dl.sx S [])) := Dl.Qx (hS.wf rfl) rfl (hQ _ (by rw [Int.natCast_add]))
    cases R with
    | nil =>
      have z1 : ¬ (A.length : Int) + b.length < (t.length : Int) := by simp only [List.length_nil] at tl; omega
      simp_arith [k1, k2, k3, er, z1, ec]
      exact fin
    | cons c r =>
      have z1 : (A.length : Int) + b.length < (t.length : Int) := by simp only [List.length_cons] at tl; omega
      have ix := ix_at (t := t) (A := A ++ b.cps.toList) (R := r) (c := c) (by rw [ht]; simp only [List.append_assoc])
      rw [List.length_append, len_list, Int.natCast_add] at ix
      have hd : ((⟨#[c]⟩ : Str) = ".") = False := eq_false fun q => (stopR c r rfl).2 (chr_inj (q.trans dot_))
      simp_arith [k1, k2, k3, er, z1, ix, hd, ec]
      exact fin
  · have ea : (atT b m).cps.toList = b.cps.toList ++ (46 :: (toString m : Str).cps.toList) := by
      unfold atT
      rw [if_neg e0, app_list, app_list, dot_list, List.append_assoc]; rfl
    have hm0 : 0 < m := by omega
    obtain ⟨d, hd0, hd1⟩ := num_head hm0
    have nl := num_len m0 m1
    have nd := num_dig m0
    obtain ⟨ds, hds⟩ : ∃ ds, (toString m : Str).cps.toList = d :: ds := by
      cases e : (toString m : Str).cps.toList with
      | nil => rw [e] at hd0; cases hd0
      | cons x xs => rw [e] at hd0; cases hd0; exact ⟨xs, rfl⟩
    have al : (atT b m).length = b.length + 1 + (toString m : Str).length := by
      rw [← len_list, ea, List.length_append, List.length_cons, len_list, len_list]; omega
    have t1 : t.cps.toList = A ++ (b.cps.toList ++ (46 :: ((toString m : Str).cps.toList ++ R))) := by rw [ht, ea, List.append_assoc]; rfl
    have er := run_t n (A := A) (W := b.cps.toList) (R := 46 :: ((toString m : Str).cps.toList ++ R)) (most := 8) (s := "abcdefghijklmnopqrstuvwxyz" ++ "0123456789") (S := Dl.sx S []) t1 (by rw [let_dig]; exact hb.all) hb8 (.inr fun c r e => by injection e with e _; rw [← e]; exact n46) hl (hS.sx .nil)
    rw [len_list, show ((8 : Nat) : Int) = 8 from rfl, Int.natCast_add] at er
    have t2 : t.cps.toList = (A ++ b.cps.toList ++ [46]) ++ ((toString m : Str).cps.toList ++ R) := by rw [t1]; simp only [List.append_assoc, List.cons_append, List.nil_append]
    have la : (A ++ b.cps.toList ++ [46]).length = A.length + b.length + 1 := by rw [List.length_append, List.length_append, len_list]; rfl
    have er2 := run_t n (A := A ++ b.cps.toList ++ [46]) (W := (toString m : Str).cps.toList) (R := R) (most := 6) (s := "0123456789") (S := Dl.sx S []) t2 nd (by rw [len_list]; exact nl) (.inr fun c r e q => (stopR c r e).1 (dig_sm c q)) hl (hS.sx .nil)
    rw [len_list, show ((6 : Nat) : Int) = 6 from rfl, la, Int.natCast_add, Int.natCast_add, Int.natCast_add, show ((1 : Nat) : Int) = 1 from rfl] at er2
    have ec := cut (atT b m) ht
    rw [al] at ec
    have ix1 := ix_at (t := t) (A := A ++ b.cps.toList) (R := (toString m : Str).cps.toList ++ R) (c := 46) (by rw [t1]; simp only [List.append_assoc])
    rw [List.length_append, len_list, Int.natCast_add] at ix1
    have ix2 := ix_at (t := t) (A := A ++ b.cps.toList ++ [46]) (R := ds ++ R) (c := d) (by rw [t2, hds]; rfl)
    rw [la, Int.natCast_add, Int.natCast_add, show ((1 : Nat) : Int) = 1 from rfl] at ix2
    have c46 : ((⟨#[46]⟩ : Str) = ".") = True := eq_true dot_.symm
    have c48 : ((⟨#[d]⟩ : Str) = "0") = False := eq_false fun q => hd1 (chr_inj (q.trans (show ("0" : Str) = ⟨#[48]⟩ by decide +kernel)))
    have cin : d ∈ ("0123456789" : Str).cps.toList := nd d (by rw [hds]; exact List.mem_cons_self ..)
    have gn := fun S => gNin_c (c := d) (b := "0123456789") (S := S)
    simp only [cin, decide_true, Bool.not_true] at gn
    have dl : 1 ≤ (toString m : Str).length := by rw [← len_list, hds]; simp
    have z1 : (A.length : Int) + b.length < (t.length : Int) := by omega
    have z2 : (((A.length : Int) + b.length + 1) = (t.length : Int)) = False := eq_false (by omega)
    have ei : ((A.length + (atT b m).length : Nat) : Int) = (A.length : Int) + b.length + 1 + (toString m : Str).length := by rw [al]; omega
    have fin : Q (cmp S.length (.tup [.str (atT b m), .int ((A.length : Int) + b.length + 1 + (toString m : Str).length)]) (Dl.sx S [])) := Dl.Qx (hS.wf rfl) rfl (hQ _ (by rw [ei]))
    have ec2 : cutS t (some (A.length : Int)) (some ((A.length : Int) + b.length + 1 + (toString m : Str).length)) = atT b m := by
      rw [← ec]
      congr 2
      omega
    simp_arith [k1, k2, k3, k4, er, z1, ix1, c46, z2, ix2, c48, gn, er2, ec2]
    rw [show (A.length : Int) + ((b.length : Int) + 1) + ((toString m : Str).length : Int) = (A.length : Int) + b.length + 1 + (toString m : Str).length by omega, ec2]
    exact fin

end Lw

set_option Elab.async false
set_option linter.all false
set_option maxRecDepth 100000
namespace Lw
open PySem L2 Dl
local macro_rules | `(tactic| simp_arith [$ls,*]) => `(tactic| simp (disch := first | omega | assumption | (simp only [List.length_cons, List.length_nil, List.length_append, List.length_take, List.length_drop]; omega) | (simp only [List.length_cons, List.length_nil])) only [sQ_, sP_, sE_, sR_, sIf_, sN_, sA_, tgO_nx, nm_, tgIx_, eC_, eV0, eV1, e1_, e2_, eB_, eF_, aN_, aC_, eMt_, eSl_, oN_, oI_, tV_, tE_, tA_, tO_, tN_, eIf_, eAnd_, eOr_, eNot_, eCh_, seq_nx, seq_rt, seq_bk, seq_ct, seq_ex, toR_some, toR_none, toT_some, truD_bl, truD_int, truD_tup, truD_non, truD_str, truD_ref, truC_lst, tyD_str, tyD_tup, tyD_int, tyD_bl, tyD_non, tyD_ref, tyC_lst, tyC_rol, tyC_dic, kE_, kR_, kIf_t, kIf_f, kN_, kA_, kIx1_, kIx2_, kIx3_, kE1_, kE21_, kE2_, kB_, kF_, kC1_, kC_, kM1_, kM2_, kM_, kS1_, kS2_, kS3_, kO_, kV_, kT_, kAn_t, kAn_f, kOr_t, kOr_f, kNo_, kIfE_t, kIfE_f, kVa_, kVa2_t, kVa2_f, kVo_, kVo2_t, kVo2_f, kVn_, kVn2_, kH_, kH1_, kH2_t, kH2_f, kH3_, List.getElem?_cons_zero, List.getElem?_cons_succ, List.set_cons_zero, List.set_cons_succ, gAdd_int, gAdd_str, gAdd_t, gAdd_r, catC_s, gSub_int, gMul_l, gMul_r, gFdiv_int, gMod_int, gLt_int, gLe_int, gGt_int, gGe_int, gInt_int, gAbs_int, gLen_tup, gLen_str, gLen_r, lenC_s, gTpl_, gLsd_, gIx_r, ixC_s, ixO_s, gIx_t, gIx_s, ixS_s, atI_0, atI_1, atI_2, atI_3, atI_4, atI_5, gAppend_r, appC_s, gExtend_r, extC_s, gPop_r, popC_s, gSet_r, setC_0, setC_2, gTuple_r, tupC_s, gTuple_t, gList_r, gList_t, newC_s, gSl_r, slC_s, gSl_t, gSl_s, cut_take, cut_drop, cut_init, cut_mid, Int.toNat_natCast, lstC_lst, lstC_rol, lstAt_C, isi_str, isi_int, isi_bool, isi_tup, isi_lst, isO_s, isB_1, isB_2, isB_3, isB_4, isB_5, isB_6, isB_7, isB_8, isB_9, isB_10, isB_11, isB_12, isB_13, isB_14, isB_15, isB_16, isB_17, isB_18, isB_19, isB_20, isB_21, isB_22, isB_23, isB_24, isB_25, isB_26, gSum_r, sumC_s, sumO_s, gMin_, gMax_, qEq_int, qNe_int, qEq_str, qNe_str, gNeg_z, tgT_, tgU_, tgL0, tgL1, eTab_, kTab_, sX_, tgIxX_, kX1_, kX2_, kX3_, gSetX_r, setX_0, setX_2, setX_s, sPar_, kPar_, eFv_, eGetD_, kG1_, isDic_r, isDC_d, kG1b_, kG2_, kG3_, gGetD_r, getC_s, gMaxL_r, maxC_, gRep_r, repC_, eD0_, gDget_r, dgC_s, List.getElem?_concat_length, set_end, sF_, kFor_, iR1_, kR1_, iR2_, kR2_, kR3_, iA_, kAny_r, kAny_t, kAny_s, iaC_s, eLc_, kLc_, wipeD_c, wipeD_n, tYes_, put_one, sAug_, gAug_i, sBk_, sCt_, sW_, st_len, st_p, st_k, st_0, st_q, st_set_p, st_set_k, st_set_0, st_push, sx_len, sx_k, sx_0, sx_q, sx_set_k, sx_set_0, sx_push, So_rt, So_nx, So_ex, Tn_nx, Tn_ct, Tn_bk, Tn_rt, Tn_ex, Bool.false_eq_true, if_true, if_false, reduceIte, Option.map_some, Option.bind_some, Bool.not_true, Bool.not_false, decide_true, decide_false, eq_self, List.length_append, List.length_singleton, List.length_cons, List.length_nil, List.map_cons, List.map_nil, Nat.sub_self, List.replicate_zero, List.append_nil, List.cons_append, List.nil_append, List.append_assoc, List.replicate_succ, Nat.reduceSub, Nat.reduceAdd, Nat.add_zero, Nat.zero_add, Nat.add_assoc, Nat.reduceLeDiff, Int.natCast_add, Int.cast_ofNat_Int, Int.reduceEq, Int.reduceLT, Int.reduceLE, Int.reduceAdd, Int.reduceSub, Int.reduceNeg, Int.reduceToNat, List.take_succ_cons, List.take_zero, List.drop_succ_cons, List.drop_zero, List.dropLast_concat, Dl.atI_last, gFdivW_, gJoin_r, joinC_, gUpper_, gRepl_, gInK_, gNinK_, r_ax_or, r_ax_ur, r_ax_pr, r_ax_ol, r_ax_ul, r_ax_pl, r_ax_ct, r_or_ax, r_or_ur, r_or_pr, r_or_ol, r_or_ul, r_or_pl, r_or_ct, r_ur_ax, r_ur_or, r_ur_pr, r_ur_ol, r_ur_ul, r_ur_pl, r_ur_ct, r_pr_ax, r_pr_or, r_pr_ur, r_pr_ol, r_pr_ul, r_pr_pl, r_pr_ct, r_ol_ax, r_ol_or, r_ol_ur, r_ol_pr, r_ol_ul, r_ol_pl, r_ol_ct, r_ul_ax, r_ul_or, r_ul_ur, r_ul_pr, r_ul_ol, r_ul_pl, r_ul_ct, r_pl_ax, r_pl_or, r_pl_ur, r_pl_pr, r_pl_ol, r_pl_ul, r_pl_ct, r_ct_ax, r_ct_or, r_ct_ur, r_ct_pr, r_ct_ol, r_ct_ul, r_ct_pl, q1, q2, q3, q4, q5, q6, e1, e2, e3, gInt_bl, gIs_tn, gIs_nn, gIsN_tn, gIsN_nn, gReverse_r, revC_s, iV_, kVV_t, kVV_r, revI_s, iW_, kW_, gInX_r, gNinX_r, inC_d, gAny_r, anyC_s, gStartsW_, $ls,*])
local macro_rules | `(tactic| walk_at "ev") => `(tactic| simp (disch := first | omega | assumption | (simp only [List.length_cons, List.length_nil, List.length_append, List.length_take, List.length_drop]; omega) | (simp only [List.length_cons, List.length_nil])) only [sQ_, sP_, sE_, sR_, sIf_, sN_, sA_, tgO_nx, nm_, tgIx_, eC_, eV0, eV1, e1_, e2_, eB_, eF_, aN_, aC_, eMt_, eSl_, oN_, oI_, tV_, tE_, tA_, tO_, tN_, eIf_, eAnd_, eOr_, eNot_, eCh_, seq_nx, seq_rt, seq_bk, seq_ct, seq_ex, toR_some, toR_none, toT_some, truD_bl, truD_int, truD_tup, truD_non, truD_str, truD_ref, truC_lst, tyD_str, tyD_tup, tyD_int, tyD_bl, tyD_non, tyD_ref, tyC_lst, tyC_rol, tyC_dic, kE_, kR_, kIf_t, kIf_f, kN_, kA_, kIx1_, kIx2_, kIx3_, kE1_, kE21_, kE2_, kB_, kF_, kC1_, kC_, kM1_, kM2_, kM_, kS1_, kS2_, kS3_, kO_, kV_, kT_, kAn_t, kAn_f, kOr_t, kOr_f, kNo_, kIfE_t, kIfE_f, kVa_, kVa2_t, kVa2_f, kVo_, kVo2_t, kVo2_f, kVn_, kVn2_, kH_, kH1_, kH2_t, kH2_f, kH3_, List.getElem?_cons_zero, List.getElem?_cons_succ, List.set_cons_zero, List.set_cons_succ, gAdd_int, gAdd_str, gAdd_t, gAdd_r, catC_s, gSub_int, gMul_l, gMul_r, gFdiv_int, gMod_int, gLt_int, gLe_int, gGt_int, gGe_int, gInt_int, gAbs_int, gLen_tup, gLen_str, gLen_r, lenC_s, gTpl_, gLsd_, gIx_r, ixC_s, ixO_s, gIx_t, gIx_s, ixS_s, atI_0, atI_1, atI_2, atI_3, atI_4, atI_5, gAppend_r, appC_s, gExtend_r, extC_s, gPop_r, popC_s, gSet_r, setC_0, setC_2, gTuple_r, tupC_s, gTuple_t, gList_r, gList_t, newC_s, gSl_r, slC_s, gSl_t, gSl_s, cut_take, cut_drop, cut_init, cut_mid, Int.toNat_natCast, lstC_lst, lstC_rol, lstAt_C, isi_str, isi_int, isi_bool, isi_tup, isi_lst, isO_s, isB_1, isB_2, isB_3, isB_4, isB_5, isB_6, isB_7, isB_8, isB_9, isB_10, isB_11, isB_12, isB_13, isB_14, isB_15, isB_16, isB_17, isB_18, isB_19, isB_20, isB_21, isB_22, isB_23, isB_24, isB_25, isB_26, gSum_r, sumC_s, sumO_s, gMin_, gMax_, qEq_int, qNe_int, qEq_str, qNe_str, gNeg_z, tgT_, tgU_, tgL0, tgL1, eTab_, kTab_, sX_, tgIxX_, kX1_, kX2_, kX3_, gSetX_r, setX_0, setX_2, setX_s, sPar_, kPar_, eFv_, eGetD_, kG1_, isDic_r, isDC_d, kG1b_, kG2_, kG3_, gGetD_r, getC_s, gMaxL_r, maxC_, gRep_r, repC_, eD0_, gDget_r, dgC_s, List.getElem?_concat_length, set_end, sF_, kFor_, iR1_, kR1_, iR2_, kR2_, kR3_, iA_, kAny_r, kAny_t, kAny_s, iaC_s, eLc_, kLc_, wipeD_c, wipeD_n, tYes_, put_one, sAug_, gAug_i, sBk_, sCt_, sW_, st_len, st_p, st_k, st_0, st_q, st_set_p, st_set_k, st_set_0, st_push, sx_len, sx_k, sx_0, sx_q, sx_set_k, sx_set_0, sx_push, So_rt, So_nx, So_ex, Tn_nx, Tn_ct, Tn_bk, Tn_rt, Tn_ex, Bool.false_eq_true, if_true, if_false, reduceIte, Option.map_some, Option.bind_some, Bool.not_true, Bool.not_false, decide_true, decide_false, eq_self, List.length_append, List.length_singleton, List.length_cons, List.length_nil, List.map_cons, List.map_nil, Nat.sub_self, List.replicate_zero, List.append_nil, List.cons_append, List.nil_append, List.append_assoc, List.replicate_succ, Nat.reduceSub, Nat.reduceAdd, Nat.add_zero, Nat.zero_add, Nat.add_assoc, Nat.reduceLeDiff, Int.natCast_add, Int.cast_ofNat_Int, Int.reduceEq, Int.reduceLT, Int.reduceLE, Int.reduceAdd, Int.reduceSub, Int.reduceNeg, Int.reduceToNat, List.take_succ_cons, List.take_zero, List.drop_succ_cons, List.drop_zero, List.dropLast_concat, Dl.atI_last, gFdivW_, gJoin_r, joinC_, gUpper_, gRepl_, gInK_, gNinK_, r_ax_or, r_ax_ur, r_ax_pr, r_ax_ol, r_ax_ul, r_ax_pl, r_ax_ct, r_or_ax, r_or_ur, r_or_pr, r_or_ol, r_or_ul, r_or_pl, r_or_ct, r_ur_ax, r_ur_or, r_ur_pr, r_ur_ol, r_ur_ul, r_ur_pl, r_ur_ct, r_pr_ax, r_pr_or, r_pr_ur, r_pr_ol, r_pr_ul, r_pr_pl, r_pr_ct, r_ol_ax, r_ol_or, r_ol_ur, r_ol_pr, r_ol_ul, r_ol_pl, r_ol_ct, r_ul_ax, r_ul_or, r_ul_ur, r_ul_pr, r_ul_ol, r_ul_pl, r_ul_ct, r_pl_ax, r_pl_or, r_pl_ur, r_pl_pr, r_pl_ol, r_pl_ul, r_pl_ct, r_ct_ax, r_ct_or, r_ct_ur, r_ct_pr, r_ct_ol, r_ct_ul, r_ct_pl, q1, q2, q3, q4, q5, q6, e1, e2, e3, gInt_bl, gIs_tn, gIs_nn, gIsN_tn, gIsN_nn, gReverse_r, revC_s, iV_, kVV_t, kVV_r, revI_s, iW_, kW_, gInX_r, gNinX_r, inC_d, gAny_r, anyC_s, gStartsW_])
/-! ## units joined -/
theorem join1_t (n : Nat) {q : Nat} {k : KT} {S : Store} (hq : S[q]? = some (.lst [k.d])) (hS : SOK S) : Dl.Sp (tab (n + 1) .join_units [.ref q] S) fun r => r = .ok k.d S := by
  refine Dl.sp_plain (g := b_join_units (tab n)) rfl fun Q hQ => ?_
  unfold b_join_units
  have hq' : ∀ L, (Dl.sx S L)[q]? = some (.lst [k.d]) := fun L => by rw [Dl.sx_q (get_lt hq)]; exact hq
  simp_arith [hq']
  exact Dl.Qx (hS.wf rfl) (wf_flat (KT.flat k)) (hQ _ rfl)
theorem join3_t (n : Nat) {q : Nat} {s : Str} {a b : KT} {S : Store} (hq : S[q]? = some (.lst [a.d, .str s, b.d])) (hS : SOK S) : Dl.Sp (tab (n + 1) .join_units [.ref q] S) fun r => r = .ok (KT.node s a b).d S := by
  refine Dl.sp_plain (g := b_join_units (tab n)) rfl fun Q hQ => ?_
  unfold b_join_units
  have hq' : ∀ L, (Dl.sx S L)[q]? = some (.lst [a.d, .str s, b.d]) := fun L => by rw [Dl.sx_q (get_lt hq)]; exact hq
  have ht : ∀ L ρ, tgU [nm 1, nm 2, nm 3] (.ref q) ρ (Dl.sx S L) = Dl.tgL [nm 1, nm 2, nm 3] [a.d, .str s, b.d] ρ (Dl.sx S L) := fun L ρ => tgU_l (by unfold lstAt; rw [hq']) rfl
  simp_arith [hq', ht]
  exact Dl.Qx (hS.wf rfl) (wf_flat (KT.flat (.node s a b))) (hQ _ rfl)
/-! ## the beginning of a name -/
theorem begins_t (n : Nat) {x : Str} {pairs : List (Str × KT)} {S : Store} (hl : pairs.length ≤ 1000) (hS : SOK S) :
    Dl.Sp (tab (n + 1) .is_name_beginning [.str x, .tup (pairs.map fun p => .tup [.str p.1, p.2.d])] S) fun r => r = .ok (.bl (pairs.any fun p => Txt.startswith p.1 x)) S := by
  refine Dl.sp_plain (g := b_is_name_beginning (tab n)) rfl fun Q hQ => ?_
  unfold b_is_name_beginning
  have ec := compA0 (S := S) (L := []) (k := []) (ρ := [some (.str x), some (.tup (pairs.map fun p => .tup [.str p.1, p.2.d])), none, none]) (g := Cg.many [2, 3]) (fe := eMt .str gStartsW (eV 2) (aC (eV 0) aN)) pairs (fun p => .tup [.str p.1, p.2.d]) (fun p => .bl (Txt.startswith p.1 x)) (by omega) (fun a => chk_nil) (fun d => rfl) (fun p hp => by
    refine ⟨[some (.str x), some (.tup (pairs.map fun p => .tup [.str p.1, p.2.d])), some (.str p.1), some p.2.d], rfl, fun a ha => ?_⟩
    simp_arith [])
  simp_arith [ec, bools_map, Lw.gAny_r, Lw.anyC_s]
  rw [List.any_map]
  exact Dl.Qx (hS.wf rfl) rfl (hQ _ rfl)

end Lw

set_option Elab.async false
set_option linter.all false
set_option maxRecDepth 100000
namespace Lw
open PySem L2 Dl
local macro_rules | `(tactic| simp_arith [$ls,*]) => `(tactic| simp (disch := first | omega | assumption | (simp only [List.length_cons, List.length_nil, List.length_append, List.length_take, List.length_drop]; omega) | (simp only [List.length_cons, List.length_nil])) only [sQ_, sP_, sE_, sR_, sIf_, sN_, sA_, tgO_nx, nm_, tgIx_, eC_, eV0, eV1, e1_, e2_, eB_, eF_, aN_, aC_, eMt_, eSl_, oN_, oI_, tV_, tE_, tA_, tO_, tN_, eIf_, eAnd_, eOr_, eNot_, eCh_, seq_nx, seq_rt, seq_bk, seq_ct, seq_ex, toR_some, toR_none, toT_some, truD_bl, truD_int, truD_tup, truD_non, truD_str, truD_ref, truC_lst, tyD_str, tyD_tup, tyD_int, tyD_bl, tyD_non, tyD_ref, tyC_lst, tyC_rol, tyC_dic, kE_, kR_, kIf_t, kIf_f, kN_, kA_, kIx1_, kIx2_, kIx3_, kE1_, kE21_, kE2_, kB_, kF_, kC1_, kC_, kM1_, kM2_, kM_, kS1_, kS2_, kS3_, kO_, kV_, kT_, kAn_t, kAn_f, kOr_t, kOr_f, kNo_, kIfE_t, kIfE_f, kVa_, kVa2_t, kVa2_f, kVo_, kVo2_t, kVo2_f, kVn_, kVn2_, kH_, kH1_, kH2_t, kH2_f, kH3_, List.getElem?_cons_zero, List.getElem?_cons_succ, List.set_cons_zero, List.set_cons_succ, gAdd_int, gAdd_str, gAdd_t, gAdd_r, catC_s, gSub_int, gMul_l, gMul_r, gFdiv_int, gMod_int, gLt_int, gLe_int, gGt_int, gGe_int, gInt_int, gAbs_int, gLen_tup, gLen_str, gLen_r, lenC_s, gTpl_, gLsd_, gIx_r, ixC_s, ixO_s, gIx_t, gIx_s, ixS_s, atI_0, atI_1, atI_2, atI_3, atI_4, atI_5, gAppend_r, appC_s, gExtend_r, extC_s, gPop_r, popC_s, gSet_r, setC_0, setC_2, gTuple_r, tupC_s, gTuple_t, gList_r, gList_t, newC_s, gSl_r, slC_s, gSl_t, gSl_s, cut_take, cut_drop, cut_init, cut_mid, Int.toNat_natCast, lstC_lst, lstC_rol, lstAt_C, isi_str, isi_int, isi_bool, isi_tup, isi_lst, isO_s, isB_1, isB_2, isB_3, isB_4, isB_5, isB_6, isB_7, isB_8, isB_9, isB_10, isB_11, isB_12, isB_13, isB_14, isB_15, isB_16, isB_17, isB_18, isB_19, isB_20, isB_21, isB_22, isB_23, isB_24, isB_25, isB_26, gSum_r, sumC_s, sumO_s, gMin_, gMax_, qEq_int, qNe_int, qEq_str, qNe_str, gNeg_z, tgT_, tgU_, tgL0, tgL1, eTab_, kTab_, sX_, tgIxX_, kX1_, kX2_, kX3_, gSetX_r, setX_0, setX_2, setX_s, sPar_, kPar_, eFv_, eGetD_, kG1_, isDic_r, isDC_d, kG1b_, kG2_, kG3_, gGetD_r, getC_s, gMaxL_r, maxC_, gRep_r, repC_, eD0_, gDget_r, dgC_s, List.getElem?_concat_length, set_end, sF_, kFor_, iR1_, kR1_, iR2_, kR2_, kR3_, iA_, kAny_r, kAny_t, kAny_s, iaC_s, eLc_, kLc_, wipeD_c, wipeD_n, tYes_, put_one, sAug_, gAug_i, sBk_, sCt_, sW_, st_len, st_p, st_k, st_0, st_q, st_set_p, st_set_k, st_set_0, st_push, sx_len, sx_k, sx_0, sx_q, sx_set_k, sx_set_0, sx_push, So_rt, So_nx, So_ex, Tn_nx, Tn_ct, Tn_bk, Tn_rt, Tn_ex, Bool.false_eq_true, if_true, if_false, reduceIte, Option.map_some, Option.bind_some, Bool.not_true, Bool.not_false, decide_true, decide_false, eq_self, List.length_append, List.length_singleton, List.length_cons, List.length_nil, List.map_cons, List.map_nil, Nat.sub_self, List.replicate_zero, List.append_nil, List.cons_append, List.nil_append, List.append_assoc, List.replicate_succ, Nat.reduceSub, Nat.reduceAdd, Nat.add_zero, Nat.zero_add, Nat.add_assoc, Nat.reduceLeDiff, Int.natCast_add, Int.cast_ofNat_Int, Int.reduceEq, Int.reduceLT, Int.reduceLE, Int.reduceAdd, Int.reduceSub, Int.reduceNeg, Int.reduceToNat, List.take_succ_cons, List.take_zero, List.drop_succ_cons, List.drop_zero, List.dropLast_concat, Dl.atI_last, gFdivW_, gJoin_r, joinC_, gUpper_, gRepl_, gInK_, gNinK_, r_ax_or, r_ax_ur, r_ax_pr, r_ax_ol, r_ax_ul, r_ax_pl, r_ax_ct, r_or_ax, r_or_ur, r_or_pr, r_or_ol, r_or_ul, r_or_pl, r_or_ct, r_ur_ax, r_ur_or, r_ur_pr, r_ur_ol, r_ur_ul, r_ur_pl, r_ur_ct, r_pr_ax, r_pr_or, r_pr_ur, r_pr_ol, r_pr_ul, r_pr_pl, r_pr_ct, r_ol_ax, r_ol_or, r_ol_ur, r_ol_pr, r_ol_ul, r_ol_pl, r_ol_ct, r_ul_ax, r_ul_or, r_ul_ur, r_ul_pr, r_ul_ol, r_ul_pl, r_ul_ct, r_pl_ax, r_pl_or, r_pl_ur, r_pl_pr, r_pl_ol, r_pl_ul, r_pl_ct, r_ct_ax, r_ct_or, r_ct_ur, r_ct_pr, r_ct_ol, r_ct_ul, r_ct_pl, q1, q2, q3, q4, q5, q6, e1, e2, e3, gInt_bl, gIs_tn, gIs_nn, gIsN_tn, gIsN_nn, gReverse_r, revC_s, iV_, kVV_t, kVV_r, revI_s, iW_, kW_, gInX_r, gNinX_r, inC_d, gAny_r, anyC_s, gStartsW_, $ls,*])
local macro_rules | `(tactic| walk_at "ev") => `(tactic| simp (disch := first | omega | assumption | (simp only [List.length_cons, List.length_nil, List.length_append, List.length_take, List.length_drop]; omega) | (simp only [List.length_cons, List.length_nil])) only [sQ_, sP_, sE_, sR_, sIf_, sN_, sA_, tgO_nx, nm_, tgIx_, eC_, eV0, eV1, e1_, e2_, eB_, eF_, aN_, aC_, eMt_, eSl_, oN_, oI_, tV_, tE_, tA_, tO_, tN_, eIf_, eAnd_, eOr_, eNot_, eCh_, seq_nx, seq_rt, seq_bk, seq_ct, seq_ex, toR_some, toR_none, toT_some, truD_bl, truD_int, truD_tup, truD_non, truD_str, truD_ref, truC_lst, tyD_str, tyD_tup, tyD_int, tyD_bl, tyD_non, tyD_ref, tyC_lst, tyC_rol, tyC_dic, kE_, kR_, kIf_t, kIf_f, kN_, kA_, kIx1_, kIx2_, kIx3_, kE1_, kE21_, kE2_, kB_, kF_, kC1_, kC_, kM1_, kM2_, kM_, kS1_, kS2_, kS3_, kO_, kV_, kT_, kAn_t, kAn_f, kOr_t, kOr_f, kNo_, kIfE_t, kIfE_f, kVa_, kVa2_t, kVa2_f, kVo_, kVo2_t, kVo2_f, kVn_, kVn2_, kH_, kH1_, kH2_t, kH2_f, kH3_, List.getElem?_cons_zero, List.getElem?_cons_succ, List.set_cons_zero, List.set_cons_succ, gAdd_int, gAdd_str, gAdd_t, gAdd_r, catC_s, gSub_int, gMul_l, gMul_r, gFdiv_int, gMod_int, gLt_int, gLe_int, gGt_int, gGe_int, gInt_int, gAbs_int, gLen_tup, gLen_str, gLen_r, lenC_s, gTpl_, gLsd_, gIx_r, ixC_s, ixO_s, gIx_t, gIx_s, ixS_s, atI_0, atI_1, atI_2, atI_3, atI_4, atI_5, gAppend_r, appC_s, gExtend_r, extC_s, gPop_r, popC_s, gSet_r, setC_0, setC_2, gTuple_r, tupC_s, gTuple_t, gList_r, gList_t, newC_s, gSl_r, slC_s, gSl_t, gSl_s, cut_take, cut_drop, cut_init, cut_mid, Int.toNat_natCast, lstC_lst, lstC_rol, lstAt_C, isi_str, isi_int, isi_bool, isi_tup, isi_lst, isO_s, isB_1, isB_2, isB_3, isB_4, isB_5, isB_6, isB_7, isB_8, isB_9, isB_10, isB_11, isB_12, isB_13, isB_14, isB_15, isB_16, isB_17, isB_18, isB_19, isB_20, isB_21, isB_22, isB_23, isB_24, isB_25, isB_26, gSum_r, sumC_s, sumO_s, gMin_, gMax_, qEq_int, qNe_int, qEq_str, qNe_str, gNeg_z, tgT_, tgU_, tgL0, tgL1, eTab_, kTab_, sX_, tgIxX_, kX1_, kX2_, kX3_, gSetX_r, setX_0, setX_2, setX_s, sPar_, kPar_, eFv_, eGetD_, kG1_, isDic_r, isDC_d, kG1b_, kG2_, kG3_, gGetD_r, getC_s, gMaxL_r, maxC_, gRep_r, repC_, eD0_, gDget_r, dgC_s, List.getElem?_concat_length, set_end, sF_, kFor_, iR1_, kR1_, iR2_, kR2_, kR3_, iA_, kAny_r, kAny_t, kAny_s, iaC_s, eLc_, kLc_, wipeD_c, wipeD_n, tYes_, put_one, sAug_, gAug_i, sBk_, sCt_, sW_, st_len, st_p, st_k, st_0, st_q, st_set_p, st_set_k, st_set_0, st_push, sx_len, sx_k, sx_0, sx_q, sx_set_k, sx_set_0, sx_push, So_rt, So_nx, So_ex, Tn_nx, Tn_ct, Tn_bk, Tn_rt, Tn_ex, Bool.false_eq_true, if_true, if_false, reduceIte, Option.map_some, Option.bind_some, Bool.not_true, Bool.not_false, decide_true, decide_false, eq_self, List.length_append, List.length_singleton, List.length_cons, List.length_nil, List.map_cons, List.map_nil, Nat.sub_self, List.replicate_zero, List.append_nil, List.cons_append, List.nil_append, List.append_assoc, List.replicate_succ, Nat.reduceSub, Nat.reduceAdd, Nat.add_zero, Nat.zero_add, Nat.add_assoc, Nat.reduceLeDiff, Int.natCast_add, Int.cast_ofNat_Int, Int.reduceEq, Int.reduceLT, Int.reduceLE, Int.reduceAdd, Int.reduceSub, Int.reduceNeg, Int.reduceToNat, List.take_succ_cons, List.take_zero, List.drop_succ_cons, List.drop_zero, List.dropLast_concat, Dl.atI_last, gFdivW_, gJoin_r, joinC_, gUpper_, gRepl_, gInK_, gNinK_, r_ax_or, r_ax_ur, r_ax_pr, r_ax_ol, r_ax_ul, r_ax_pl, r_ax_ct, r_or_ax, r_or_ur, r_or_pr, r_or_ol, r_or_ul, r_or_pl, r_or_ct, r_ur_ax, r_ur_or, r_ur_pr, r_ur_ol, r_ur_ul, r_ur_pl, r_ur_ct, r_pr_ax, r_pr_or, r_pr_ur, r_pr_ol, r_pr_ul, r_pr_pl, r_pr_ct, r_ol_ax, r_ol_or, r_ol_ur, r_ol_pr, r_ol_ul, r_ol_pl, r_ol_ct, r_ul_ax, r_ul_or, r_ul_ur, r_ul_pr, r_ul_ol, r_ul_pl, r_ul_ct, r_pl_ax, r_pl_or, r_pl_ur, r_pl_pr, r_pl_ol, r_pl_ul, r_pl_ct, r_ct_ax, r_ct_or, r_ct_ur, r_ct_pr, r_ct_ol, r_ct_ul, r_ct_pl, q1, q2, q3, q4, q5, q6, e1, e2, e3, gInt_bl, gIs_tn, gIs_nn, gIsN_tn, gIsN_nn, gReverse_r, revC_s, iV_, kVV_t, kVV_r, revI_s, iW_, kW_, gInX_r, gNinX_r, inC_d, gAny_r, anyC_s, gStartsW_])
/-! ## short names and units read -/
def UP : List Nat := ("ABCDEFGHIJKLMNOPQRSTUVWXYZ" : Str).cps.toList
def LO : List Nat := ("abcdefghijklmnopqrstuvwxyz" : Str).cps.toList
/-- a short name -/
structure Sn2 (s : Str) : Prop where
  ex : ∃ c r, s.cps.toList = c :: r ∧ c ∈ UP ∧ ∀ x ∈ r, x ∈ LO
  len : s.length ≤ 8
theorem starts_t {x y : Str} {r : List Nat} (h : x.cps.toList = y.cps.toList ++ r) : Txt.startswith x y = true := by
  unfold Txt.startswith
  rw [StrLaws.subAt_eq, List.drop_zero, h, ← len_list y, List.take_left]
  have : y.length ≤ x.length := by rw [← len_list x, ← len_list y, h, List.length_append]; omega
  simp [len_list]
  exact this
theorem starts_f {x y : Str} (h : Txt.startswith x y = true) : ∃ r, x.cps.toList = y.cps.toList ++ r := by
  unfold Txt.startswith at h
  rw [StrLaws.subAt_eq, List.drop_zero, Bool.and_eq_true] at h
  have h2 : x.cps.toList.take y.length = y.cps.toList := by simpa using h.2
  exact ⟨x.cps.toList.drop y.length, by rw [← h2, List.take_append_drop]⟩
theorem lo_ac : ∀ c ∈ LO, AC c := fun c h => .inl (small_sm c h)
theorem up_lo : ∀ c ∈ UP, c ∉ LO := by decide +kernel
theorem flat_pair (u : KT) {i : Int} : D.flat (.tup [u.d, .int i]) = true := by
  show ((KT.d u).flat && (true && true)) = true
  rw [KT.flat u]; rfl
def shD (ps : List (Str × KT)) : D := .tup (ps.map fun p => .tup [.str p.1, p.2.d])
theorem short_t (n : Nat) {t nm : Str} {u : KT} {A R : List Nat} {ps : List (Str × KT)} {S : Store} (hps : ∀ p ∈ ps, Sn2 p.1) (hl : ps.length ≤ 1000) (hm : (nm, u) ∈ ps) (hu : ∀ p ∈ ps, p.1 = nm → p.2 = u)
    (ht : t.cps.toList = A ++ (nm.cps.toList ++ R)) (hR : Stop R) (htl : t.length ≤ 1000) (hS : SOK S) :
    Dl.Sp (tab (n + 2) .read_short [.str t, .int A.length, shD ps] S) fun r => r = .ok (.tup [u.d, .int (A.length + nm.length : Nat)]) S := by
  refine Dl.sp_plain (g := b_read_short (tab (n + 1))) rfl fun Q hQ => ?_
  unfold b_read_short
  have tl : t.length = A.length + nm.length + R.length := by rw [← len_list, ht, List.length_append, List.length_append, len_list]; omega
  have bg := fun x => begins_t n (x := x) (pairs := ps) (S := Dl.sx S []) hl (hS.sx .nil)
  have cut : ∀ (W B : List Nat), t.cps.toList = A ++ (W ++ B) → ∀ j : Int, j = A.length + W.length → cutS t (some (A.length : Int)) (some j) = ⟨W.toArray⟩ := fun W B h j hj => by
    show (⟨(cutD t.cps.toList (some (A.length : Int)) (some j)).toArray⟩ : Str) = _
    rw [h, cutM rfl hj]
  have cN : cutS t (some (A.length : Int)) (some ((A.length : Int) + nm.length)) = nm := by
    rw [cut nm.cps.toList R ht _ (by rw [len_list]), str_back]
  have wl := len_list nm
  have hWF : nm.length < WF := Nat.lt_of_le_of_lt (show nm.length ≤ 1000 by omega) (by show 1000 < WF; unfold WF; decide)
  have fin : Q (cmp S.length (.tup [u.d, .int ((A.length : Int) + nm.length)]) (Dl.sx S [])) := Dl.Qx (hS.wf rfl) (wf_flat (flat_pair u)) (hQ _ (by rw [Int.natCast_add]))
  have hWF' : nm.cps.toList.length < WF := by rw [wl]; exact hWF
  simp_arith []
  have loop : ∀ (S1 : Store), S1 = Dl.sx S [] → Dl.So S.length Q ((Dl.Out.nx [some (.str t), some (.int A.length), some (shD ps), some (.int ((A.length : Int) + nm.length)), none, none] S1).seq (sQ (sF (iA (eV 2)) (tgU [(Dl.nm 4), (Dl.nm 5)]) (sIf (tE (Dl.e2 gEq (eV 4) (eSl (eV 0) (oI (eV 1)) (oI (eV 3))))) (sR (eB gTpl (aC (eV 5) (aC (eV 3) aN)))) sP)) sNo)) := fun S1 e => by
    subst e
    unfold shD
    simp_arith []
    refine Dl.forQ (fun j ρ S' => ∃ (v4 v5 : Option D), (∀ i, i < j → ∀ p, ps[i]? = some p → p.1 ≠ nm) ∧ ρ = [some (.str t), some (.int A.length), some (.tup (ps.map fun p => .tup [.str p.1, p.2.d])), some (.int ((A.length : Int) + nm.length)), v4, v5] ∧ S' = Dl.sx S []) ⟨none, none, (fun _ h => absurd h (Nat.not_lt_zero _)), rfl, rfl⟩ ?_ ?_
    · rintro j d _ _ hj ⟨v4, v5, hno, rfl, rfl⟩
      rw [List.getElem?_map] at hj
      obtain ⟨p, hp, rfl⟩ := Option.map_eq_some_iff.mp hj
      refine ⟨chk_nil, [some (.str t), some (.int A.length), some (.tup (ps.map fun p => .tup [.str p.1, p.2.d])), some (.int ((A.length : Int) + nm.length)), some (.str p.1), some p.2.d], _, rfl, ?_⟩
      by_cases hq : p.1 = nm
      · have hk := hu p (List.mem_of_getElem? hp) hq
        simp_arith [cN, hq, hk]
        exact fin
      · have hq' : (p.1 = nm) = False := eq_false hq
        simp_arith [cN, hq']
        refine ⟨_, _, fun i hi p' hp' => ?_, rfl, trivial⟩
        by_cases z : i < j
        · exact hno i z p' hp'
        · obtain rfl : i = j := by omega
          rw [hp] at hp'
          cases hp'
          exact hq
    · rintro _ _ ⟨v4, v5, hno, rfl, rfl⟩
      obtain ⟨i, hi⟩ := List.mem_iff_getElem?.mp hm
      exact absurd rfl (hno i (by rw [List.length_map]; exact (List.getElem?_eq_some_iff.mp hi).1) _ hi)
  refine Dl.whileQ' (P := fun o => Dl.So S.length Q (o.seq (sQ (sF (iA (eV 2)) (tgU [(Dl.nm 4), (Dl.nm 5)]) (sIf (tE (Dl.e2 gEq (eV 4) (eSl (eV 0) (oI (eV 1)) (oI (eV 3))))) (sR (eB gTpl (aC (eV 5) (aC (eV 3) aN)))) sP)) sNo))) (fun j ρ S' => ∃ k : Nat, k ≤ nm.cps.toList.length ∧ j = nm.cps.toList.length - k ∧ ρ = [some (.str t), some (.int A.length), some (shD ps), some (.int ((A.length : Int) + k)), none, none] ∧ S' = Dl.sx S []) ?_ WF nm.cps.toList.length _ _ hWF' ⟨0, Nat.zero_le _, rfl, by rw [Int.natCast_zero, Int.add_zero], rfl⟩
  rintro j _ _ ⟨k, hk, rfl, rfl, rfl⟩
  generalize hW : nm.cps.toList = W at *
  have bgk := fun x => bg x
  unfold shD at *
  by_cases hlt : k < W.length
  · right
    have hs := cut (W.take (k + 1)) (W.drop (k + 1) ++ R) (by rw [← List.append_assoc (W.take (k + 1)), List.take_append_drop]; exact ht) ((A.length : Int) + k + 1) (by rw [List.length_take]; omega)
    have hb : (ps.any fun p => Txt.startswith p.1 ⟨(W.take (k + 1)).toArray⟩) = true := List.any_eq_true.mpr ⟨_, hm, starts_t (r := W.drop (k + 1)) (by show nm.cps.toList = W.take (k + 1) ++ _; rw [hW, List.take_append_drop])⟩
    have z1 : (A.length : Int) + k < (t.length : Int) := by omega
    have bk := bgk ⟨(W.take (k + 1)).toArray⟩
    rw [hb] at bk
    refine ⟨Dl.sx S [], ?_, ?_⟩
    · simp_arith [z1, hs, bk]
    · have ea := Dl.sAug_ (ρ := [some (.str t), some (.int A.length), some (.tup (ps.map fun p => .tup [.str p.1, p.2.d])), some (.int ((A.length : Int) + k)), none, none]) (S := Dl.sx S []) (f := eC (.int 1)) (m := 3) (gg := gAugAdd) (d := .int ((A.length : Int) + k)) rfl
      rw [ea]
      have eg : gAugAdd (.int ((A.length : Int) + k)) (.int 1) (Dl.sx S []) = some (.int ((A.length : Int) + (k + 1 : Nat)), Dl.sx S []) := by
        show some (D.int ((A.length : Int) + k + 1), Dl.sx S []) = _
        congr 3
      simp_arith [eg]
      exact ⟨W.length - (k + 1), by omega, k + 1, by omega, rfl, rfl, trivial⟩
  · left
    obtain rfl : k = W.length := by omega
    have ll := loop (Dl.sx S []) rfl
    rw [← wl] at ll
    refine ⟨Dl.sx S [], ?_, ll⟩
    cases R with
    | nil =>
      have z1 : ¬ (A.length : Int) + W.length < (t.length : Int) := by simp only [List.length_nil] at tl; omega
      simp_arith [z1]
    | cons c r =>
      have z1 : (A.length : Int) + W.length < (t.length : Int) := by simp only [List.length_cons] at tl; omega
      have hs := cut (W ++ [c]) r (by rw [ht, List.append_assoc]; rfl) ((A.length : Int) + W.length + 1) (by rw [List.length_append]; show _ = (A.length : Int) + ((W.length + 1 : Nat) : Int); omega)
      have hb : (ps.any fun p => Txt.startswith p.1 ⟨(W ++ [c]).toArray⟩) = false := List.any_eq_false.mpr fun p hp h => by
        obtain ⟨r', h'⟩ := starts_f h
        obtain ⟨x, xs, e1, _, e2⟩ := (hps p hp).ex
        obtain ⟨y, ys, f1, _, _⟩ := (hps _ hm).ex
        have f1 : nm.cps.toList = y :: ys := f1
        rw [hW] at f1
        have h' : p.1.cps.toList = (W ++ [c]) ++ r' := h'
        rw [e1, f1] at h'
        injection h' with _ h'
        exact hR c r rfl (lo_ac c (e2 c (by rw [h']; simp)))
      have bk := bgk ⟨(W ++ [c]).toArray⟩
      rw [hb] at bk
      simp_arith [z1, hs, bk]
/-- a unit without brackets -/
def Un (ps : List (Str × KT)) (w : Str) (u : KT) : Prop := (AtS w ∧ u = .leaf w) ∨ (Sn2 w ∧ (w, u) ∈ ps ∧ ∀ p ∈ ps, p.1 = w → p.2 = u)
structure Nms (ps : List (Str × KT)) : Prop where
  nm : ∀ p ∈ ps, Sn2 p.1
  len : ps.length ≤ 1000
theorem at_head {a : Str} (h : AtS a) : ∃ c r, a.cps.toList = c :: r ∧ c ∈ LO := by
  obtain ⟨b, m, rfl, hb, _, _⟩ := h
  obtain ⟨c, hc, hl⟩ := hb.fst
  cases e : b.cps.toList with
  | nil => rw [e] at hc; cases hc
  | cons x xs =>
    rw [e] at hc
    cases hc
    unfold atT
    split
    · exact ⟨c, xs, e, hl⟩
    · exact ⟨c, xs ++ _, by rw [app_list, app_list, e]; simp only [List.cons_append, List.append_assoc]; rfl, hl⟩
theorem Un.ne {ps : List (Str × KT)} {w : Str} {u : KT} (h : Un ps w u) : ∃ c r, w.cps.toList = c :: r := by
  rcases h with ⟨h, _⟩ | ⟨h, _⟩
  · obtain ⟨c, r, e, _⟩ := at_head h
    exact ⟨c, r, e⟩
  · obtain ⟨c, r, e, _⟩ := h.ex
    exact ⟨c, r, e⟩
theorem unit_t (n : Nat) {t w : Str} {u : KT} {A R : List Nat} {ps : List (Str × KT)} {S : Store} (hps : Nms ps) (hu : Un ps w u)
    (ht : t.cps.toList = A ++ (w.cps.toList ++ R)) (hR : Stop R) (htl : t.length ≤ 1000) (hS : SOK S) :
    Dl.Sp (tab (n + 3) .read_unit [.str t, .int A.length, shD ps] S) fun r => r = .ok (.tup [u.d, .int (A.length + w.length : Nat)]) S := by
  refine Dl.sp_plain (g := b_read_unit (tab (n + 2))) rfl fun Q hQ => ?_
  unfold b_read_unit
  have fin : Q (cmp S.length (.tup [u.d, .int (A.length + w.length : Nat)]) (Dl.sx S [])) := Dl.Qx (hS.wf rfl) (wf_flat (flat_pair u)) (hQ _ rfl)
  have k1 : k_LETTERS = .str "abcdefghijklmnopqrstuvwxyz" := rfl
  obtain ⟨c, r, hc⟩ := hu.ne
  have ix := ix_at (t := t) (A := A) (R := r ++ R) (c := c) (by rw [ht, hc]; rfl)
  have gi := fun S => gIn_c (c := c) (b := "abcdefghijklmnopqrstuvwxyz") (S := S)
  rcases hu with ⟨ha, rfl⟩ | ⟨hn, hm, hu⟩
  · obtain ⟨c', r', hc', hl⟩ := at_head ha
    rw [hc] at hc'
    injection hc' with q _
    subst q
    have hl : c ∈ ("abcdefghijklmnopqrstuvwxyz" : Str).cps.toList := hl
    have er := atom_t n (S := Dl.sx S []) ha ht hR htl (hS.sx .nil)
    simp only [hl, decide_true] at gi
    simp_arith [k1, ix, gi, er]
    rw [KTd_leaf] at fin
    exact fin
  · obtain ⟨c', r', hc', hl, _⟩ := hn.ex
    rw [hc] at hc'
    injection hc' with q _
    subst q
    have hl : ¬ c ∈ ("abcdefghijklmnopqrstuvwxyz" : Str).cps.toList := up_lo c hl
    have er := short_t n (S := Dl.sx S []) hps.nm hps.len hm hu ht hR htl (hS.sx .nil)
    simp only [hl, decide_false] at gi
    simp_arith [k1, ix, gi, er]
    exact fin

end Lw

set_option Elab.async false
set_option linter.all false
set_option maxRecDepth 100000
namespace Lw
open PySem L2 Dl
local macro_rules | `(tactic| simp_arith [$ls,*]) => `(tactic| simp (disch := first | omega | assumption | (simp only [List.length_cons, List.length_nil, List.length_append, List.length_take, List.length_drop]; omega) | (simp only [List.length_cons, List.length_nil])) only [sQ_, sP_, sE_, sR_, sIf_, sN_, sA_, tgO_nx, nm_, tgIx_, eC_, eV0, eV1, e1_, e2_, eB_, eF_, aN_, aC_, eMt_, eSl_, oN_, oI_, tV_, tE_, tA_, tO_, tN_, eIf_, eAnd_, eOr_, eNot_, eCh_, seq_nx, seq_rt, seq_bk, seq_ct, seq_ex, toR_some, toR_none, toT_some, truD_bl, truD_int, truD_tup, truD_non, truD_str, truD_ref, truC_lst, tyD_str, tyD_tup, tyD_int, tyD_bl, tyD_non, tyD_ref, tyC_lst, tyC_rol, tyC_dic, kE_, kR_, kIf_t, kIf_f, kN_, kA_, kIx1_, kIx2_, kIx3_, kE1_, kE21_, kE2_, kB_, kF_, kC1_, kC_, kM1_, kM2_, kM_, kS1_, kS2_, kS3_, kO_, kV_, kT_, kAn_t, kAn_f, kOr_t, kOr_f, kNo_, kIfE_t, kIfE_f, kVa_, kVa2_t, kVa2_f, kVo_, kVo2_t, kVo2_f, kVn_, kVn2_, kH_, kH1_, kH2_t, kH2_f, kH3_, List.getElem?_cons_zero, List.getElem?_cons_succ, List.set_cons_zero, List.set_cons_succ, gAdd_int, gAdd_str, gAdd_t, gAdd_r, catC_s, gSub_int, gMul_l, gMul_r, gFdiv_int, gMod_int, gLt_int, gLe_int, gGt_int, gGe_int, gInt_int, gAbs_int, gLen_tup, gLen_str, gLen_r, lenC_s, gTpl_, gLsd_, gIx_r, ixC_s, ixO_s, gIx_t, gIx_s, ixS_s, atI_0, atI_1, atI_2, atI_3, atI_4, atI_5, gAppend_r, appC_s, gExtend_r, extC_s, gPop_r, popC_s, gSet_r, setC_0, setC_2, gTuple_r, tupC_s, gTuple_t, gList_r, gList_t, newC_s, gSl_r, slC_s, gSl_t, gSl_s, cut_take, cut_drop, cut_init, cut_mid, Int.toNat_natCast, lstC_lst, lstC_rol, lstAt_C, isi_str, isi_int, isi_bool, isi_tup, isi_lst, isO_s, isB_1, isB_2, isB_3, isB_4, isB_5, isB_6, isB_7, isB_8, isB_9, isB_10, isB_11, isB_12, isB_13, isB_14, isB_15, isB_16, isB_17, isB_18, isB_19, isB_20, isB_21, isB_22, isB_23, isB_24, isB_25, isB_26, gSum_r, sumC_s, sumO_s, gMin_, gMax_, qEq_int, qNe_int, qEq_str, qNe_str, gNeg_z, tgT_, tgU_, tgL0, tgL1, eTab_, kTab_, sX_, tgIxX_, kX1_, kX2_, kX3_, gSetX_r, setX_0, setX_2, setX_s, sPar_, kPar_, eFv_, eGetD_, kG1_, isDic_r, isDC_d, kG1b_, kG2_, kG3_, gGetD_r, getC_s, gMaxL_r, maxC_, gRep_r, repC_, eD0_, gDget_r, dgC_s, List.getElem?_concat_length, set_end, sF_, kFor_, iR1_, kR1_, iR2_, kR2_, kR3_, iA_, kAny_r, kAny_t, kAny_s, iaC_s, eLc_, kLc_, wipeD_c, wipeD_n, tYes_, put_one, sAug_, gAug_i, sBk_, sCt_, sW_, st_len, st_p, st_k, st_0, st_q, st_set_p, st_set_k, st_set_0, st_push, sx_len, sx_k, sx_0, sx_q, sx_set_k, sx_set_0, sx_push, So_rt, So_nx, So_ex, Tn_nx, Tn_ct, Tn_bk, Tn_rt, Tn_ex, Bool.false_eq_true, if_true, if_false, reduceIte, Option.map_some, Option.bind_some, Bool.not_true, Bool.not_false, decide_true, decide_false, eq_self, List.length_append, List.length_singleton, List.length_cons, List.length_nil, List.map_cons, List.map_nil, Nat.sub_self, List.replicate_zero, List.append_nil, List.cons_append, List.nil_append, List.append_assoc, List.replicate_succ, Nat.reduceSub, Nat.reduceAdd, Nat.add_zero, Nat.zero_add, Nat.add_assoc, Nat.reduceLeDiff, Int.natCast_add, Int.cast_ofNat_Int, Int.reduceEq, Int.reduceLT, Int.reduceLE, Int.reduceAdd, Int.reduceSub, Int.reduceNeg, Int.reduceToNat, List.take_succ_cons, List.take_zero, List.drop_succ_cons, List.drop_zero, List.dropLast_concat, Dl.atI_last, gFdivW_, gJoin_r, joinC_, gUpper_, gRepl_, gInK_, gNinK_, r_ax_or, r_ax_ur, r_ax_pr, r_ax_ol, r_ax_ul, r_ax_pl, r_ax_ct, r_or_ax, r_or_ur, r_or_pr, r_or_ol, r_or_ul, r_or_pl, r_or_ct, r_ur_ax, r_ur_or, r_ur_pr, r_ur_ol, r_ur_ul, r_ur_pl, r_ur_ct, r_pr_ax, r_pr_or, r_pr_ur, r_pr_ol, r_pr_ul, r_pr_pl, r_pr_ct, r_ol_ax, r_ol_or, r_ol_ur, r_ol_pr, r_ol_ul, r_ol_pl, r_ol_ct, r_ul_ax, r_ul_or, r_ul_ur, r_ul_pr, r_ul_ol, r_ul_pl, r_ul_ct, r_pl_ax, r_pl_or, r_pl_ur, r_pl_pr, r_pl_ol, r_pl_ul, r_pl_ct, r_ct_ax, r_ct_or, r_ct_ur, r_ct_pr, r_ct_ol, r_ct_ul, r_ct_pl, q1, q2, q3, q4, q5, q6, e1, e2, e3, gInt_bl, gIs_tn, gIs_nn, gIsN_tn, gIsN_nn, gReverse_r, revC_s, iV_, kVV_t, kVV_r, revI_s, iW_, kW_, gInX_r, gNinX_r, inC_d, gAny_r, anyC_s, gStartsW_, $ls,*])
local macro_rules | `(tactic| walk_at "ev") => `(tactic| simp (disch := first | omega | assumption | (simp only [List.length_cons, List.length_nil, List.length_append, List.length_take, List.length_drop]; omega) | (simp only [List.length_cons, List.length_nil])) only [sQ_, sP_, sE_, sR_, sIf_, sN_, sA_, tgO_nx, nm_, tgIx_, eC_, eV0, eV1, e1_, e2_, eB_, eF_, aN_, aC_, eMt_, eSl_, oN_, oI_, tV_, tE_, tA_, tO_, tN_, eIf_, eAnd_, eOr_, eNot_, eCh_, seq_nx, seq_rt, seq_bk, seq_ct, seq_ex, toR_some, toR_none, toT_some, truD_bl, truD_int, truD_tup, truD_non, truD_str, truD_ref, truC_lst, tyD_str, tyD_tup, tyD_int, tyD_bl, tyD_non, tyD_ref, tyC_lst, tyC_rol, tyC_dic, kE_, kR_, kIf_t, kIf_f, kN_, kA_, kIx1_, kIx2_, kIx3_, kE1_, kE21_, kE2_, kB_, kF_, kC1_, kC_, kM1_, kM2_, kM_, kS1_, kS2_, kS3_, kO_, kV_, kT_, kAn_t, kAn_f, kOr_t, kOr_f, kNo_, kIfE_t, kIfE_f, kVa_, kVa2_t, kVa2_f, kVo_, kVo2_t, kVo2_f, kVn_, kVn2_, kH_, kH1_, kH2_t, kH2_f, kH3_, List.getElem?_cons_zero, List.getElem?_cons_succ, List.set_cons_zero, List.set_cons_succ, gAdd_int, gAdd_str, gAdd_t, gAdd_r, catC_s, gSub_int, gMul_l, gMul_r, gFdiv_int, gMod_int, gLt_int, gLe_int, gGt_int, gGe_int, gInt_int, gAbs_int, gLen_tup, gLen_str, gLen_r, lenC_s, gTpl_, gLsd_, gIx_r, ixC_s, ixO_s, gIx_t, gIx_s, ixS_s, atI_0, atI_1, atI_2, atI_3, atI_4, atI_5, gAppend_r, appC_s, gExtend_r, extC_s, gPop_r, popC_s, gSet_r, setC_0, setC_2, gTuple_r, tupC_s, gTuple_t, gList_r, gList_t, newC_s, gSl_r, slC_s, gSl_t, gSl_s, cut_take, cut_drop, cut_init, cut_mid, Int.toNat_natCast, lstC_lst, lstC_rol, lstAt_C, isi_str, isi_int, isi_bool, isi_tup, isi_lst, isO_s, isB_1, isB_2, isB_3, isB_4, isB_5, isB_6, isB_7, isB_8, isB_9, isB_10, isB_11, isB_12, isB_13, isB_14, isB_15, isB_16, isB_17, isB_18, isB_19, isB_20, isB_21, isB_22, isB_23, isB_24, isB_25, isB_26, gSum_r, sumC_s, sumO_s, gMin_, gMax_, qEq_int, qNe_int, qEq_str, qNe_str, gNeg_z, tgT_, tgU_, tgL0, tgL1, eTab_, kTab_, sX_, tgIxX_, kX1_, kX2_, kX3_, gSetX_r, setX_0, setX_2, setX_s, sPar_, kPar_, eFv_, eGetD_, kG1_, isDic_r, isDC_d, kG1b_, kG2_, kG3_, gGetD_r, getC_s, gMaxL_r, maxC_, gRep_r, repC_, eD0_, gDget_r, dgC_s, List.getElem?_concat_length, set_end, sF_, kFor_, iR1_, kR1_, iR2_, kR2_, kR3_, iA_, kAny_r, kAny_t, kAny_s, iaC_s, eLc_, kLc_, wipeD_c, wipeD_n, tYes_, put_one, sAug_, gAug_i, sBk_, sCt_, sW_, st_len, st_p, st_k, st_0, st_q, st_set_p, st_set_k, st_set_0, st_push, sx_len, sx_k, sx_0, sx_q, sx_set_k, sx_set_0, sx_push, So_rt, So_nx, So_ex, Tn_nx, Tn_ct, Tn_bk, Tn_rt, Tn_ex, Bool.false_eq_true, if_true, if_false, reduceIte, Option.map_some, Option.bind_some, Bool.not_true, Bool.not_false, decide_true, decide_false, eq_self, List.length_append, List.length_singleton, List.length_cons, List.length_nil, List.map_cons, List.map_nil, Nat.sub_self, List.replicate_zero, List.append_nil, List.cons_append, List.nil_append, List.append_assoc, List.replicate_succ, Nat.reduceSub, Nat.reduceAdd, Nat.add_zero, Nat.zero_add, Nat.add_assoc, Nat.reduceLeDiff, Int.natCast_add, Int.cast_ofNat_Int, Int.reduceEq, Int.reduceLT, Int.reduceLE, Int.reduceAdd, Int.reduceSub, Int.reduceNeg, Int.reduceToNat, List.take_succ_cons, List.take_zero, List.drop_succ_cons, List.drop_zero, List.dropLast_concat, Dl.atI_last, gFdivW_, gJoin_r, joinC_, gUpper_, gRepl_, gInK_, gNinK_, r_ax_or, r_ax_ur, r_ax_pr, r_ax_ol, r_ax_ul, r_ax_pl, r_ax_ct, r_or_ax, r_or_ur, r_or_pr, r_or_ol, r_or_ul, r_or_pl, r_or_ct, r_ur_ax, r_ur_or, r_ur_pr, r_ur_ol, r_ur_ul, r_ur_pl, r_ur_ct, r_pr_ax, r_pr_or, r_pr_ur, r_pr_ol, r_pr_ul, r_pr_pl, r_pr_ct, r_ol_ax, r_ol_or, r_ol_ur, r_ol_pr, r_ol_ul, r_ol_pl, r_ol_ct, r_ul_ax, r_ul_or, r_ul_ur, r_ul_pr, r_ul_ol, r_ul_pl, r_ul_ct, r_pl_ax, r_pl_or, r_pl_ur, r_pl_pr, r_pl_ol, r_pl_ul, r_pl_ct, r_ct_ax, r_ct_or, r_ct_ur, r_ct_pr, r_ct_ol, r_ct_ul, r_ct_pl, q1, q2, q3, q4, q5, q6, e1, e2, e3, gInt_bl, gIs_tn, gIs_nn, gIsN_tn, gIsN_nn, gReverse_r, revC_s, iV_, kVV_t, kVV_r, revI_s, iW_, kW_, gInX_r, gNinX_r, inC_d, gAny_r, anyC_s, gStartsW_])
/-! ## what a text means: the reader as steps -/
def Jn (us : List D) (k : KT) : Prop := us = [k.d] ∨ ∃ s a b, k = .node s a b ∧ us = [a.d, .str s, b.d]
def Wt (us : List D) : Prop := us.length = 0 ∨ us.length = 2
/-- the reader comes from (rest of the text, units of the open brackets, the inner one first) to the kind K -/
inductive Acc (ps : List (Str × KT)) (K : KT) : List Nat → List (List D) → Prop where
  | done {us} : Jn us K → Acc ps K [] [us]
  | blank {R us stk} : Acc ps K R (us :: stk) → Acc ps K (32 :: R) (us :: stk)
  | op {R us stk} : Wt us → Acc ps K R ([] :: us :: stk) → Acc ps K (40 :: R) (us :: stk)
  | unit {w u R us stk} : Wt us → Un ps w u → Stop R → Acc ps K R ((us ++ [u.d]) :: stk) → Acc ps K (w.cps.toList ++ R) (us :: stk)
  | cl {us u R vs stk} : Jn us u → Wt vs → Acc ps K R ((vs ++ [u.d]) :: stk) → Acc ps K (41 :: R) (us :: vs :: stk)
  | sign {s u R stk} : Sg s → Acc ps K R ([u, .str s] :: stk) → Acc ps K (s.cps.toList ++ R) ([u] :: stk)
theorem nac_47 : ¬ AC 47 := fun h => by rcases h with h | h; exact absurd h (show 47 ∉ SM by decide +kernel); cases h
theorem nac_62 : ¬ AC 62 := fun h => by rcases h with h | h; exact absurd h (show 62 ∉ SM by decide +kernel); cases h
theorem nac_42 : ¬ AC 42 := fun h => by rcases h with h | h; exact absurd h (show 42 ∉ SM by decide +kernel); cases h
theorem stop_bl {R : List Nat} (h : Stop R) : ∀ n, Stop (List.replicate n 32 ++ R)
  | 0 => h
  | n + 1 => stop_cons nac_32
theorem sg_chr {s : Str} (h : Sg s) : ∃ c, s.cps.toList = [c] ∧ ¬ AC c ∧ (⟨#[c]⟩ : Str) = s ∧ (c = 47 ∨ c = 62 ∨ c = 42) := by
  rcases h with rfl | rfl | rfl
  · exact ⟨47, by decide +kernel, nac_47, by decide +kernel, .inl rfl⟩
  · exact ⟨62, by decide +kernel, nac_62, by decide +kernel, .inr (.inl rfl)⟩
  · exact ⟨42, by decide +kernel, nac_42, by decide +kernel, .inr (.inr rfl)⟩
theorem Acc.bl {ps : List (Str × KT)} {K : KT} {R : List Nat} {us : List D} {stk : List (List D)} (h : Acc ps K R (us :: stk)) : ∀ n, Acc ps K (List.replicate n 32 ++ R) (us :: stk)
  | 0 => h
  | n + 1 => .blank (h.bl n)
/-- a text that stands for a kind where a unit is wanted -/
def UOk (ps : List (Str × KT)) (k : KT) (w : List Nat) : Prop := ∀ us stk R K, Wt us → Stop R → Acc ps K R ((us ++ [k.d]) :: stk) → Acc ps K (w ++ R) (us :: stk)
/-- a text that stands for a kind between brackets -/
def EOk (ps : List (Str × KT)) (k : KT) (w : List Nat) : Prop := ∀ stk R K, Stop R → (∀ us, Jn us k → Acc ps K R (us :: stk)) → Acc ps K (w ++ R) ([] :: stk)
variable {ps : List (Str × KT)}
theorem UOk.E {k : KT} {w : List Nat} (h : UOk ps k w) : EOk ps k w := fun stk R K hR hk => h [] stk R K (.inl rfl) hR (hk _ (.inl rfl))
theorem UOk.un {w : Str} {k : KT} (h : Un ps w k) : UOk ps k w.cps.toList := fun us stk R K hw hR ha => .unit hw h hR ha
theorem EOk.bl {k : KT} {w : List Nat} (h : EOk ps k w) (i j : Nat) : EOk ps k (List.replicate i 32 ++ w ++ List.replicate j 32) := fun stk R K hR hk => by
  rw [List.append_assoc, List.append_assoc]
  exact (h stk _ K (stop_bl hR j) fun us hu => (hk us hu).bl j).bl i
theorem EOk.br {k : KT} {w : List Nat} (h : EOk ps k w) : UOk ps k (40 :: w ++ [41]) := fun us stk R K hw hR ha => by
  show Acc ps K (40 :: (w ++ [41] ++ R)) _
  rw [List.append_assoc]
  exact .op hw (h (us :: stk) (41 :: R) K (stop_cons nac_41) fun vs hv => .cl hv hw ha)
theorem EOk.node {s : Str} {a b : KT} {x y : List Nat} (hs : Sg s) (h1 : UOk ps a x) (h2 : UOk ps b y) (i j : Nat) : EOk ps (.node s a b) (x ++ List.replicate i 32 ++ s.cps.toList ++ List.replicate j 32 ++ y) := fun stk R K hR hk => by
  obtain ⟨c, hc, nc, _⟩ := sg_chr hs
  simp only [List.append_assoc]
  refine h1 [] stk _ K (.inl rfl) (stop_bl (by rw [hc]; exact stop_cons nc) i) ?_
  refine Acc.bl ?_ i
  refine .sign hs ?_
  refine Acc.bl ?_ j
  exact h2 [a.d, .str s] stk R K (.inr rfl) hR (hk _ (.inr ⟨s, a, b, rfl, rfl⟩))
theorem EOk.deep {k : KT} {w : List Nat} (h : EOk ps k w) : ∀ d, EOk ps k (List.replicate d 40 ++ w ++ List.replicate d 41)
  | 0 => by
    show EOk ps k ([] ++ w ++ [])
    rw [List.nil_append, List.append_nil]
    exact h
  | d + 1 => by
    have := ((EOk.deep h d).br).E
    have e : List.replicate (d + 1) 40 ++ w ++ List.replicate (d + 1) 41 = 40 :: (List.replicate d 40 ++ w ++ List.replicate d 41) ++ [41] := by
      rw [List.replicate_succ, List.replicate_succ']
      simp only [List.cons_append, List.append_assoc]
    rw [e]
    exact this
theorem EOk.acc {k : KT} {w : List Nat} (h : EOk ps k w) : Acc ps k w [[]] := by
  have := h [] [] k (fun c r e => nomatch e) fun us hu => .done hu
  rwa [List.append_nil] at this
/-- the text of a kind -/
theorem fk_ok : ∀ {k : KT}, k.ok AtS → EOk ps k k.fk.cps.toList ∧ UOk ps k k.fp.cps.toList
  | .leaf t, h => ⟨(UOk.un (.inl ⟨h, rfl⟩)).E, UOk.un (.inl ⟨h, rfl⟩)⟩
  | .node s a b, h => by
    have e1 := (fk_ok (k := a) h.2.1).2
    have e2 := (fk_ok (k := b) h.2.2).2
    have e := EOk.node h.1 e1 e2 1 1
    have q : (KT.node s a b).fk.cps.toList = a.fp.cps.toList ++ List.replicate 1 32 ++ s.cps.toList ++ List.replicate 1 32 ++ b.fp.cps.toList := by
      rw [KT.fk_node]
      simp only [app_list, blank_list]
      rfl
    rw [← q] at e
    refine ⟨e, ?_⟩
    have q2 : (KT.node s a b).fp.cps.toList = 40 :: (KT.node s a b).fk.cps.toList ++ [41] := by
      rw [KT.fp_node]
      simp only [app_list]
      rfl
    rw [q2]
    exact e.br

end Lw

set_option Elab.async false
set_option linter.all false
set_option maxRecDepth 100000
namespace Lw
open PySem L2 Dl
local macro_rules | `(tactic| simp_arith [$ls,*]) => `(tactic| simp (disch := first | omega | assumption | (simp only [List.length_cons, List.length_nil, List.length_append, List.length_take, List.length_drop]; omega) | (simp only [List.length_cons, List.length_nil])) only [sQ_, sP_, sE_, sR_, sIf_, sN_, sA_, tgO_nx, nm_, tgIx_, eC_, eV0, eV1, e1_, e2_, eB_, eF_, aN_, aC_, eMt_, eSl_, oN_, oI_, tV_, tE_, tA_, tO_, tN_, eIf_, eAnd_, eOr_, eNot_, eCh_, seq_nx, seq_rt, seq_bk, seq_ct, seq_ex, toR_some, toR_none, toT_some, truD_bl, truD_int, truD_tup, truD_non, truD_str, truD_ref, truC_lst, tyD_str, tyD_tup, tyD_int, tyD_bl, tyD_non, tyD_ref, tyC_lst, tyC_rol, tyC_dic, kE_, kR_, kIf_t, kIf_f, kN_, kA_, kIx1_, kIx2_, kIx3_, kE1_, kE21_, kE2_, kB_, kF_, kC1_, kC_, kM1_, kM2_, kM_, kS1_, kS2_, kS3_, kO_, kV_, kT_, kAn_t, kAn_f, kOr_t, kOr_f, kNo_, kIfE_t, kIfE_f, kVa_, kVa2_t, kVa2_f, kVo_, kVo2_t, kVo2_f, kVn_, kVn2_, kH_, kH1_, kH2_t, kH2_f, kH3_, List.getElem?_cons_zero, List.getElem?_cons_succ, List.set_cons_zero, List.set_cons_succ, gAdd_int, gAdd_str, gAdd_t, gAdd_r, catC_s, gSub_int, gMul_l, gMul_r, gFdiv_int, gMod_int, gLt_int, gLe_int, gGt_int, gGe_int, gInt_int, gAbs_int, gLen_tup, gLen_str, gLen_r, lenC_s, gTpl_, gLsd_, gIx_r, ixC_s, ixO_s, gIx_t, gIx_s, ixS_s, atI_0, atI_1, atI_2, atI_3, atI_4, atI_5, gAppend_r, appC_s, gExtend_r, extC_s, gPop_r, popC_s, gSet_r, setC_0, setC_2, gTuple_r, tupC_s, gTuple_t, gList_r, gList_t, newC_s, gSl_r, slC_s, gSl_t, gSl_s, cut_take, cut_drop, cut_init, cut_mid, Int.toNat_natCast, lstC_lst, lstC_rol, lstAt_C, isi_str, isi_int, isi_bool, isi_tup, isi_lst, isO_s, isB_1, isB_2, isB_3, isB_4, isB_5, isB_6, isB_7, isB_8, isB_9, isB_10, isB_11, isB_12, isB_13, isB_14, isB_15, isB_16, isB_17, isB_18, isB_19, isB_20, isB_21, isB_22, isB_23, isB_24, isB_25, isB_26, gSum_r, sumC_s, sumO_s, gMin_, gMax_, qEq_int, qNe_int, qEq_str, qNe_str, gNeg_z, tgT_, tgU_, tgL0, tgL1, eTab_, kTab_, sX_, tgIxX_, kX1_, kX2_, kX3_, gSetX_r, setX_0, setX_2, setX_s, sPar_, kPar_, eFv_, eGetD_, kG1_, isDic_r, isDC_d, kG1b_, kG2_, kG3_, gGetD_r, getC_s, gMaxL_r, maxC_, gRep_r, repC_, eD0_, gDget_r, dgC_s, List.getElem?_concat_length, set_end, sF_, kFor_, iR1_, kR1_, iR2_, kR2_, kR3_, iA_, kAny_r, kAny_t, kAny_s, iaC_s, eLc_, kLc_, wipeD_c, wipeD_n, tYes_, put_one, sAug_, gAug_i, sBk_, sCt_, sW_, st_len, st_p, st_k, st_0, st_q, st_set_p, st_set_k, st_set_0, st_push, sx_len, sx_k, sx_0, sx_q, sx_set_k, sx_set_0, sx_push, So_rt, So_nx, So_ex, Tn_nx, Tn_ct, Tn_bk, Tn_rt, Tn_ex, Bool.false_eq_true, if_true, if_false, reduceIte, Option.map_some, Option.bind_some, Bool.not_true, Bool.not_false, decide_true, decide_false, eq_self, List.length_append, List.length_singleton, List.length_cons, List.length_nil, List.map_cons, List.map_nil, Nat.sub_self, List.replicate_zero, List.append_nil, List.cons_append, List.nil_append, List.append_assoc, List.replicate_succ, Nat.reduceSub, Nat.reduceAdd, Nat.add_zero, Nat.zero_add, Nat.add_assoc, Nat.reduceLeDiff, Int.natCast_add, Int.cast_ofNat_Int, Int.reduceEq, Int.reduceLT, Int.reduceLE, Int.reduceAdd, Int.reduceSub, Int.reduceNeg, Int.reduceToNat, List.take_succ_cons, List.take_zero, List.drop_succ_cons, List.drop_zero, List.dropLast_concat, Dl.atI_last, gFdivW_, gJoin_r, joinC_, gUpper_, gRepl_, gInK_, gNinK_, r_ax_or, r_ax_ur, r_ax_pr, r_ax_ol, r_ax_ul, r_ax_pl, r_ax_ct, r_or_ax, r_or_ur, r_or_pr, r_or_ol, r_or_ul, r_or_pl, r_or_ct, r_ur_ax, r_ur_or, r_ur_pr, r_ur_ol, r_ur_ul, r_ur_pl, r_ur_ct, r_pr_ax, r_pr_or, r_pr_ur, r_pr_ol, r_pr_ul, r_pr_pl, r_pr_ct, r_ol_ax, r_ol_or, r_ol_ur, r_ol_pr, r_ol_ul, r_ol_pl, r_ol_ct, r_ul_ax, r_ul_or, r_ul_ur, r_ul_pr, r_ul_ol, r_ul_pl, r_ul_ct, r_pl_ax, r_pl_or, r_pl_ur, r_pl_pr, r_pl_ol, r_pl_ul, r_pl_ct, r_ct_ax, r_ct_or, r_ct_ur, r_ct_pr, r_ct_ol, r_ct_ul, r_ct_pl, q1, q2, q3, q4, q5, q6, e1, e2, e3, gInt_bl, gIs_tn, gIs_nn, gIsN_tn, gIsN_nn, gReverse_r, revC_s, iV_, kVV_t, kVV_r, revI_s, iW_, kW_, gInX_r, gNinX_r, inC_d, gAny_r, anyC_s, gStartsW_, $ls,*])
local macro_rules | `(tactic| walk_at "ev") => `(tactic| simp (disch := first | omega | assumption | (simp only [List.length_cons, List.length_nil, List.length_append, List.length_take, List.length_drop]; omega) | (simp only [List.length_cons, List.length_nil])) only [sQ_, sP_, sE_, sR_, sIf_, sN_, sA_, tgO_nx, nm_, tgIx_, eC_, eV0, eV1, e1_, e2_, eB_, eF_, aN_, aC_, eMt_, eSl_, oN_, oI_, tV_, tE_, tA_, tO_, tN_, eIf_, eAnd_, eOr_, eNot_, eCh_, seq_nx, seq_rt, seq_bk, seq_ct, seq_ex, toR_some, toR_none, toT_some, truD_bl, truD_int, truD_tup, truD_non, truD_str, truD_ref, truC_lst, tyD_str, tyD_tup, tyD_int, tyD_bl, tyD_non, tyD_ref, tyC_lst, tyC_rol, tyC_dic, kE_, kR_, kIf_t, kIf_f, kN_, kA_, kIx1_, kIx2_, kIx3_, kE1_, kE21_, kE2_, kB_, kF_, kC1_, kC_, kM1_, kM2_, kM_, kS1_, kS2_, kS3_, kO_, kV_, kT_, kAn_t, kAn_f, kOr_t, kOr_f, kNo_, kIfE_t, kIfE_f, kVa_, kVa2_t, kVa2_f, kVo_, kVo2_t, kVo2_f, kVn_, kVn2_, kH_, kH1_, kH2_t, kH2_f, kH3_, List.getElem?_cons_zero, List.getElem?_cons_succ, List.set_cons_zero, List.set_cons_succ, gAdd_int, gAdd_str, gAdd_t, gAdd_r, catC_s, gSub_int, gMul_l, gMul_r, gFdiv_int, gMod_int, gLt_int, gLe_int, gGt_int, gGe_int, gInt_int, gAbs_int, gLen_tup, gLen_str, gLen_r, lenC_s, gTpl_, gLsd_, gIx_r, ixC_s, ixO_s, gIx_t, gIx_s, ixS_s, atI_0, atI_1, atI_2, atI_3, atI_4, atI_5, gAppend_r, appC_s, gExtend_r, extC_s, gPop_r, popC_s, gSet_r, setC_0, setC_2, gTuple_r, tupC_s, gTuple_t, gList_r, gList_t, newC_s, gSl_r, slC_s, gSl_t, gSl_s, cut_take, cut_drop, cut_init, cut_mid, Int.toNat_natCast, lstC_lst, lstC_rol, lstAt_C, isi_str, isi_int, isi_bool, isi_tup, isi_lst, isO_s, isB_1, isB_2, isB_3, isB_4, isB_5, isB_6, isB_7, isB_8, isB_9, isB_10, isB_11, isB_12, isB_13, isB_14, isB_15, isB_16, isB_17, isB_18, isB_19, isB_20, isB_21, isB_22, isB_23, isB_24, isB_25, isB_26, gSum_r, sumC_s, sumO_s, gMin_, gMax_, qEq_int, qNe_int, qEq_str, qNe_str, gNeg_z, tgT_, tgU_, tgL0, tgL1, eTab_, kTab_, sX_, tgIxX_, kX1_, kX2_, kX3_, gSetX_r, setX_0, setX_2, setX_s, sPar_, kPar_, eFv_, eGetD_, kG1_, isDic_r, isDC_d, kG1b_, kG2_, kG3_, gGetD_r, getC_s, gMaxL_r, maxC_, gRep_r, repC_, eD0_, gDget_r, dgC_s, List.getElem?_concat_length, set_end, sF_, kFor_, iR1_, kR1_, iR2_, kR2_, kR3_, iA_, kAny_r, kAny_t, kAny_s, iaC_s, eLc_, kLc_, wipeD_c, wipeD_n, tYes_, put_one, sAug_, gAug_i, sBk_, sCt_, sW_, st_len, st_p, st_k, st_0, st_q, st_set_p, st_set_k, st_set_0, st_push, sx_len, sx_k, sx_0, sx_q, sx_set_k, sx_set_0, sx_push, So_rt, So_nx, So_ex, Tn_nx, Tn_ct, Tn_bk, Tn_rt, Tn_ex, Bool.false_eq_true, if_true, if_false, reduceIte, Option.map_some, Option.bind_some, Bool.not_true, Bool.not_false, decide_true, decide_false, eq_self, List.length_append, List.length_singleton, List.length_cons, List.length_nil, List.map_cons, List.map_nil, Nat.sub_self, List.replicate_zero, List.append_nil, List.cons_append, List.nil_append, List.append_assoc, List.replicate_succ, Nat.reduceSub, Nat.reduceAdd, Nat.add_zero, Nat.zero_add, Nat.add_assoc, Nat.reduceLeDiff, Int.natCast_add, Int.cast_ofNat_Int, Int.reduceEq, Int.reduceLT, Int.reduceLE, Int.reduceAdd, Int.reduceSub, Int.reduceNeg, Int.reduceToNat, List.take_succ_cons, List.take_zero, List.drop_succ_cons, List.drop_zero, List.dropLast_concat, Dl.atI_last, gFdivW_, gJoin_r, joinC_, gUpper_, gRepl_, gInK_, gNinK_, r_ax_or, r_ax_ur, r_ax_pr, r_ax_ol, r_ax_ul, r_ax_pl, r_ax_ct, r_or_ax, r_or_ur, r_or_pr, r_or_ol, r_or_ul, r_or_pl, r_or_ct, r_ur_ax, r_ur_or, r_ur_pr, r_ur_ol, r_ur_ul, r_ur_pl, r_ur_ct, r_pr_ax, r_pr_or, r_pr_ur, r_pr_ol, r_pr_ul, r_pr_pl, r_pr_ct, r_ol_ax, r_ol_or, r_ol_ur, r_ol_pr, r_ol_ul, r_ol_pl, r_ol_ct, r_ul_ax, r_ul_or, r_ul_ur, r_ul_pr, r_ul_ol, r_ul_pl, r_ul_ct, r_pl_ax, r_pl_or, r_pl_ur, r_pl_pr, r_pl_ol, r_pl_ul, r_pl_ct, r_ct_ax, r_ct_or, r_ct_ur, r_ct_pr, r_ct_ol, r_ct_ul, r_ct_pl, q1, q2, q3, q4, q5, q6, e1, e2, e3, gInt_bl, gIs_tn, gIs_nn, gIsN_tn, gIsN_nn, gReverse_r, revC_s, iV_, kVV_t, kVV_r, revI_s, iW_, kW_, gInX_r, gNinX_r, inC_d, gAny_r, anyC_s, gStartsW_])
/-! ## the reader -/
theorem join_t (n : Nat) {q : Nat} {us : List D} {k : KT} {S : Store} (hj : Jn us k) (hq : S[q]? = some (.lst us)) (hS : SOK S) : Dl.Sp (tab (n + 1) .join_units [.ref q] S) fun r => r = .ok k.d S := by
  rcases hj with rfl | ⟨s, a, b, rfl, rfl⟩
  · exact join1_t n hq hS
  · exact join3_t n hq hS
def refs (S : Store) (stk : List (Nat × List D)) : List D := (stk.map fun x => D.ref (S.length + x.1)).reverse
structure WS (S : Store) (L : List Cell) (stk : List (Nat × List D)) : Prop where
  ok : SOK (Dl.sx S L)
  w : L[1]? = some (.lst (refs S stk))
  c : ∀ x ∈ stk, x.1 ≠ 1 ∧ L[x.1]? = some (.lst x.2) ∧ flats x.2 = true
  nd : (stk.map (·.1)).Nodup
theorem SOK.setW {S : Store} {i : Nat} {c : Cell} (h : SOK S) (hc : Cell.wf S.length c = true) : SOK (S.set i c) := fun x hx => by
  rw [List.length_set]
  rcases List.mem_or_eq_of_mem_set hx with z | rfl
  · exact h x z
  · exact hc
theorem wfs_all {n : Nat} : ∀ {xs : List D}, (∀ x ∈ xs, x.wf n = true) → wfs n xs = true
  | [], _ => rfl
  | x :: xs, h => by
    show (x.wf n && wfs n xs) = true
    rw [h x (List.mem_cons_self ..), wfs_all fun y hy => h y (List.mem_cons_of_mem _ hy)]
    rfl
theorem refs_wf {S : Store} {stk : List (Nat × List D)} {n : Nat} (h : ∀ x ∈ stk, S.length + x.1 < n) : wfs n (refs S stk) = true := wfs_all fun x hx => by
  unfold refs at hx
  rw [List.mem_reverse] at hx
  obtain ⟨y, hy, rfl⟩ := List.mem_map.mp hx
  exact decide_eq_true (h y hy)
variable {S : Store} {L : List Cell} {stk : List (Nat × List D)} {a b : Nat} {us vs : List D}
theorem WS.lt (h : WS S L stk) : ∀ x ∈ stk, x.1 < L.length := fun x hx => get_lt (h.c x hx).2.1
theorem WS.put (h : WS S L ((a, us) :: stk)) (hv : flats vs = true) : WS S (L.set a (.lst vs)) ((a, vs) :: stk) where
  ok := by
    have := h.ok.set (i := S.length + a) (c := Dl.Cell.lst vs) hv
    rwa [Dl.sx_set_k] at this
  w := by
    rw [List.getElem?_set_ne (h.c _ (List.mem_cons_self ..)).1]
    exact h.w
  c := fun x hx => by
    rcases List.mem_cons.mp hx with rfl | hx
    · exact ⟨(h.c _ (List.mem_cons_self ..)).1, by rw [List.getElem?_set_self (h.lt _ (List.mem_cons_self ..))], hv⟩
    · obtain ⟨h1, h2, h3⟩ := h.c x (List.mem_cons_of_mem _ hx)
      refine ⟨h1, ?_, h3⟩
      have ne : a ≠ x.1 := fun e => (List.nodup_cons.mp h.nd).1 (by show a ∈ _; rw [e]; exact List.mem_map_of_mem hx)
      rw [List.getElem?_set_ne ne]
      exact h2
  nd := h.nd
theorem WS.push (h : WS S L stk) : WS S ((L ++ [Dl.Cell.lst []]).set 1 (Dl.Cell.lst (refs S stk ++ [Dl.D.ref (S.length + L.length)]))) ((L.length, []) :: stk) where
  ok := by
    have h1 := h.ok.pushF (c := Dl.Cell.lst []) rfl
    rw [Dl.sx_push] at h1
    have h2 := SOK.setW (i := S.length + 1) (c := Dl.Cell.lst (refs S stk ++ [Dl.D.ref (S.length + L.length)])) h1 (by
      rw [Dl.sx_len, List.length_append]
      show wfs _ (refs S ((L.length, []) :: stk) |> fun _ => refs S stk ++ [.ref (S.length + L.length)]) = true
      refine wfs_all fun x hx => ?_
      rcases List.mem_append.mp hx with z | z
      · unfold refs at z
        rw [List.mem_reverse] at z
        obtain ⟨y, hy, rfl⟩ := List.mem_map.mp z
        have := h.lt y hy
        exact decide_eq_true (by simp only [List.length_singleton]; omega)
      · rw [List.mem_singleton.mp z]
        exact decide_eq_true (by simp only [List.length_singleton]; omega))
    rwa [Dl.sx_set_k] at h2
  w := by
    have := get_lt h.w
    rw [List.getElem?_set_self (by rw [List.length_append]; omega)]
    unfold refs
    rw [List.map_cons, List.reverse_cons]
  c := fun x hx => by
    have l1 := get_lt h.w
    rcases List.mem_cons.mp hx with rfl | hx
    · refine ⟨by show L.length ≠ 1; omega, ?_, rfl⟩
      show (_ : List Cell)[L.length]? = _
      rw [List.getElem?_set_ne (by omega), List.getElem?_concat_length]
    · obtain ⟨h1, h2, h3⟩ := h.c x hx
      refine ⟨h1, ?_, h3⟩
      rw [List.getElem?_set_ne (fun e => h1 e.symm), List.getElem?_append_left (h.lt x hx)]
      exact h2
  nd := by
    rw [List.map_cons, List.nodup_cons]
    refine ⟨fun hx => ?_, h.nd⟩
    obtain ⟨y, hy, e⟩ := List.mem_map.mp hx
    have := h.lt y hy
    simp only at e
    omega
theorem WS.pop (h : WS S L ((a, us) :: stk)) : WS S (L.set 1 (.lst (refs S stk))) stk where
  ok := by
    have h2 := SOK.setW (i := S.length + 1) (c := Dl.Cell.lst (refs S stk)) h.ok (refs_wf fun x hx => by
      have := h.lt x (List.mem_cons_of_mem _ hx)
      rw [Dl.sx_len]; omega)
    rwa [Dl.sx_set_k] at h2
  w := by rw [List.getElem?_set_self (get_lt h.w)]
  c := fun x hx => by
    obtain ⟨h1, h2, h3⟩ := h.c x (List.mem_cons_of_mem _ hx)
    exact ⟨h1, by rw [List.getElem?_set_ne (fun e => h1 e.symm)]; exact h2, h3⟩
  nd := (List.nodup_cons.mp h.nd).2
theorem WS.last (h : WS S L ((a, us) :: stk)) : ∃ ws, refs S ((a, us) :: stk) = ws ∧ L[1]? = some (.lst ws) ∧ atI ws (-1) = some (.ref (S.length + a)) ∧ ((ws.length : Nat) : Int) = (stk.length : Int) + 1 ∧ (∀ l T, popC l T (some (.lst ws)) = some (.ref (S.length + a), T.set l (.lst (refs S stk)))) ∧ L[a]? = some (.lst us) := by
  refine ⟨_, rfl, h.w, ?_, ?_, fun l T => ?_, (h.c _ (List.mem_cons_self ..)).2.1⟩
  · unfold refs
    rw [List.map_cons, List.reverse_cons]
    exact Dl.atI_last
  · unfold refs
    rw [List.length_reverse, List.length_map, List.length_cons]
    rfl
  · have e : refs S ((a, us) :: stk) = refs S stk ++ [.ref (S.length + a)] := by unfold refs; rw [List.map_cons, List.reverse_cons]
    rw [e]
    exact Dl.popC_s
theorem aug3 {x0 x1 x2 x4 x5 x6 x7 : Option D} {i : Int} {T : Store} : sAug 3 gAugAdd (eC (.int 1)) [x0, x1, x2, some (.int i), x4, x5, x6, x7] T = .nx [x0, x1, x2, some (.int (i + 1)), x4, x5, x6, x7] T := by
  rw [Dl.sAug_ (d := .int i) rfl]
  rfl
theorem gIn_any {m : Int} : ∃ b, ∀ T, gIn (.int m) (.tup [.int 0, .int 2]) T = some (.bl b, T) := ⟨_, fun _ => rfl⟩
theorem gIn_02 {m : Int} (h : m = 0 ∨ m = 2) (T : Store) : gIn (.int m) (.tup [.int 0, .int 2]) T = some (.bl true, T) := by
  rcases h with rfl | rfl <;> rfl
theorem gIn_13 {m : Int} (h : m = 1 ∨ m = 3) (T : Store) : gIn (.int m) (.tup [.int 0, .int 2]) T = some (.bl false, T) := by
  rcases h with rfl | rfl <;> rfl
theorem Jn.len {k : KT} (h : Jn us k) : (us.length : Int) = 1 ∨ (us.length : Int) = 3 := by
  rcases h with rfl | ⟨s, a, b, rfl, rfl⟩
  · exact .inl rfl
  · exact .inr rfl
theorem Wt.len (h : Wt us) : (us.length : Int) = 0 ∨ (us.length : Int) = 2 := by rcases h with h | h <;> omega
theorem gIn_sg {s : Str} (h : Sg s) (T : Store) : gIn (.str s) (.tup [.str "/", .str ">", .str "*"]) T = some (.bl true, T) := by
  rcases h with rfl | rfl | rfl <;> rfl
theorem ne_chr {c d : Nat} {s : Str} (h : c ≠ d) (hs : s = ⟨#[d]⟩) : ((⟨#[c]⟩ : Str) = s) = False := eq_false fun q => h (chr_inj (q.trans hs))
theorem bl_ : (" " : Str) = ⟨#[32]⟩ := by decide +kernel
theorem op_ : ("(" : Str) = ⟨#[40]⟩ := by decide +kernel
theorem cl_ : (")" : Str) = ⟨#[41]⟩ := by decide +kernel
theorem up_ne : ∀ c ∈ UP, c ≠ 32 ∧ c ≠ 40 := by decide +kernel
theorem Un.head {ps : List (Str × KT)} {w : Str} {u : KT} (h : Un ps w u) : ∃ c r, w.cps.toList = c :: r ∧ c ≠ 32 ∧ c ≠ 40 := by
  rcases h with ⟨h, _⟩ | ⟨h, _⟩
  · obtain ⟨c, r, e, hc⟩ := at_head h
    have := ac_ne (lo_ac c hc)
    exact ⟨c, r, e, this.1, this.2.1⟩
  · obtain ⟨c, r, e, hc, _⟩ := h.ex
    exact ⟨c, r, e, up_ne c hc⟩
theorem Jn.flat {k : KT} (h : Jn us k) : flats us = true := by
  rcases h with rfl | ⟨s, a, b, rfl, rfl⟩
  · exact flats_cons (KT.flat k) rfl
  · exact flats_cons (KT.flat a) (flats_cons rfl (flats_cons (KT.flat b) rfl))
theorem set_set {α : Type} {L : List α} {i : Nat} {x y : α} : (L.set i x).set i y = L.set i y := List.set_set ..
theorem read_t (n : Nat) {t : Str} {ps : List (Str × KT)} {K : KT} {S : Store} (hps : Nms ps) (h0 : Acc ps K t.cps.toList [[]]) (hl : t.length ≤ 1000) (hS : SOK S) :
    Dl.Sp (tab (n + 4) .read_kind [.str t, shD ps] S) fun r => r = .ok K.d S := by
  refine Dl.sp_plain (g := b_read_kind (tab (n + 3))) rfl fun Q hQ => ?_
  unfold b_read_kind
  have fin : ∀ L, Q (cmp S.length K.d (Dl.sx S L)) := fun L => Dl.Qx (hS.wf rfl) (wf_flat (KT.flat K)) (hQ _ rfl)
  have k1 : k_SIGNS = .tup [.str "/", .str ">", .str "*"] := rfl
  have wl := len_list t
  have hWF : t.cps.toList.length < WF := by
    rw [wl]
    exact Nat.lt_of_le_of_lt hl (by show 1000 < WF; unfold WF; decide)
  simp_arith []
  refine Dl.whileQ' (P := fun o => Dl.So S.length Q (o.seq (sQ (sIf (tO (tE (Dl.e2 gGt (eB gLen (aC (eV 2) aN)) (eC (.int 1)))) (tE (Dl.e2 gIn (eB gLen (aC (Dl.e2 gIx (eV 2) (eC (.int 0))) aN)) (eB gTpl (aC (eC (.int 0)) (aC (eC (.int 2)) aN)))))) sNo sP)
      (sR (eF (tab (n + 3) .join_units) (aC (Dl.e2 gIx (eV 2) (eC (.int 0))) aN)))))) (fun j ρ S' => ∃ (A R : List Nat) (L : List Cell) (stk : List (Nat × List D)) (v4 v5 v6 v7 : Option D), t.cps.toList = A ++ R ∧ j = R.length ∧ ρ = [some (.str t), some (shD ps), some (.ref (S.length + 1)), some (.int A.length), v4, v5, v6, v7] ∧ S' = Dl.sx S L ∧ WS S L stk ∧ stk.length ≤ A.length + 1 ∧ Acc ps K R (stk.map fun x : Nat × List D => x.2)) ?_ WF t.cps.toList.length _ _ hWF
    ⟨[], t.cps.toList, [.lst [], .lst [.ref S.length]], [(0, [])], none, none, none, none, rfl, rfl, rfl, rfl, ⟨?_, rfl, ?_, ?_⟩, Nat.le_refl _, h0⟩
  · rintro j _ _ ⟨A, R, L, stk, v4, v5, v6, v7, ht, rfl, rfl, rfl, hw, hk, ha⟩
    have tl : (t.length : Int) = (A.length : Int) + (R.length : Int) := by rw [← wl, ht, List.length_append]; omega
    generalize hst : (stk.map fun x : Nat × List D => x.2) = st at ha
    cases ha with
    | done hj =>
      left
      obtain ⟨⟨a, us⟩, r, rfl, rfl, hr⟩ := List.map_eq_cons_iff.mp hst
      obtain rfl := List.map_eq_nil_iff.mp hr
      obtain ⟨ws, -, w1, w2, w3, -, w5⟩ := hw.last
      have z1 : ¬ (A.length : Int) < (t.length : Int) := by rw [tl]; simp only [List.length_nil]; omega
      refine ⟨Dl.sx S L, by simp_arith [z1], ?_⟩
      have w6 : atI ws 0 = some (.ref (S.length + a)) := by
        have : ws = [.ref (S.length + a)] := by
          have := hw.w
          rw [w1] at this
          cases this
          rfl
        rw [this]
        exact Dl.atI_0
      have w3' : ((ws.length : Nat) : Int) = 1 := w3
      have hj : Jn us K := hj
      have gi := gIn_13 hj.len
      have ej := join_t (n + 2) hj (q := S.length + a) (S := Dl.sx S L) (by rw [Dl.sx_k]; exact w5) hw.ok
      simp_arith [w1, w3', w6, w5, gi, ej]
      exact fin L
    | @blank R us' st' ha =>
      right
      obtain ⟨⟨a, us⟩, r, rfl, rfl, hr⟩ := List.map_eq_cons_iff.mp hst
      obtain ⟨ws, -, w1, w2, w3, w4, w5⟩ := hw.last
      have z1 : (A.length : Int) < (t.length : Int) := by rw [tl]; simp only [List.length_cons]; omega
      have ix := ix_at ht
      obtain ⟨b, gi⟩ := gIn_any (m := (us.length : Int))
      have c1 : ((⟨#[32]⟩ : Str) = " ") = True := eq_true (by decide +kernel)
      refine ⟨Dl.sx S L, by simp_arith [z1], ?_⟩
      simp_arith [ix, w1, w2, w5, gi, c1, aug3]
      refine ⟨_, by omega, A ++ [32], R, L, _, _, _, _, _, by rw [ht, List.append_assoc]; rfl, rfl, by rw [List.length_append]; rfl, rfl, hw, by have : 0 ≤ A.length := Nat.zero_le _; first | omega | (rw [List.length_append]; omega) | (simp only [List.length_append, List.length_cons, List.length_nil] at hk ⊢; omega), by rw [List.map_cons, hr]; exact ha⟩
    | @op R us' st' hW ha =>
      right
      obtain ⟨⟨a, us⟩, r, rfl, rfl, hr⟩ := List.map_eq_cons_iff.mp hst
      obtain ⟨ws, w0, w1, w2, w3, w4, w5⟩ := hw.last
      have z1 : (A.length : Int) < (t.length : Int) := by rw [tl]; simp only [List.length_cons]; omega
      have ix := ix_at ht
      have hW : Wt us := hW
      have gi := gIn_02 hW.len
      have c1 := ne_chr (c := 40) (s := " ") (by decide) bl_
      have c2 : ((⟨#[40]⟩ : Str) = "(") = True := eq_true op_.symm
      have w1' : (L ++ [Cell.lst []])[1]? = some (.lst ws) := by rw [List.getElem?_append_left (get_lt w1)]; exact w1
      have wl' : ws.length < 16777216 := by
        rw [List.length_cons] at hk
        omega
      have hp := hw.push
      rw [w0] at hp
      refine ⟨Dl.sx S L, by simp_arith [z1], ?_⟩
      simp_arith [ix, w1, w2, w5, gi, c1, c2, w1', wl', aug3]
      refine ⟨_, by omega, A ++ [40], R, _, _, _, _, _, _, by rw [ht, List.append_assoc]; rfl, rfl, by rw [List.length_append]; rfl, rfl, hp, by first | omega | (simp only [List.length_append, List.length_cons, List.length_nil] at hk ⊢; omega), by rw [List.map_cons, List.map_cons, hr]; exact ha⟩
    | @unit w u R us' st' hW hu hR ha =>
      right
      obtain ⟨⟨a, us⟩, r, rfl, rfl, hr⟩ := List.map_eq_cons_iff.mp hst
      obtain ⟨ws, w0, w1, w2, w3, w4, w5⟩ := hw.last
      obtain ⟨c, cs, hc, n1, n2⟩ := hu.head
      have z1 : (A.length : Int) < (t.length : Int) := by rw [tl, List.length_append, hc]; simp only [List.length_cons]; omega
      have ix := ix_at (t := t) (A := A) (R := cs ++ R) (c := c) (by rw [ht, hc]; rfl)
      have hW : Wt us := hW
      have gi := gIn_02 hW.len
      have c1 := ne_chr n1 bl_
      have c2 := ne_chr n2 op_
      have eu := unit_t n hps hu ht hR hl hw.ok
      have ul : us.length < 16777216 := by rcases hW with h | h <;> omega
      have uf : flats (us ++ [u.d]) = true := flats_app (hw.c _ (List.mem_cons_self ..)).2.2 (flats_cons (KT.flat u) rfl)
      refine ⟨Dl.sx S L, by simp_arith [z1], ?_⟩
      simp_arith [ix, w1, w2, w5, gi, c1, c2, eu, ul]
      have wp : 1 ≤ w.cps.toList.length := by rw [hc, List.length_cons]; omega
      refine ⟨_, by first | omega | (rw [List.length_append]; omega), A ++ w.cps.toList, R, _, _, _, _, _, _, by rw [ht, List.append_assoc], rfl, by rw [List.length_append, len_list, Int.natCast_add], rfl, hw.put uf, by first | omega | (simp only [List.length_append, List.length_cons, List.length_nil] at hk ⊢; omega), by rw [List.map_cons, hr]; exact ha⟩
    | @cl us' u R vs' st' hj hW ha =>
      right
      obtain ⟨⟨a, us⟩, r, rfl, rfl, hr⟩ := List.map_eq_cons_iff.mp hst
      obtain ⟨⟨b, vs⟩, r2, rfl, rfl, hr2⟩ := List.map_eq_cons_iff.mp hr
      obtain ⟨ws, w0, w1, w2, w3, w4, w5⟩ := hw.last
      have hW : Wt vs := hW
      have hj : Jn us u := hj
      have hp := hw.pop
      have x5 : (L.set 1 (.lst (refs S ((b, vs) :: r2))))[a]? = some (.lst us) := by
        rw [List.getElem?_set_ne (fun e => (hw.c _ (List.mem_cons_self ..)).1 e.symm)]
        exact w5
      generalize hL' : L.set 1 (.lst (refs S ((b, vs) :: r2))) = L' at hp x5
      obtain ⟨ws', x0, x1, x2, x3, x4, x6⟩ := hp.last
      rw [x0] at hL' w4
      have z1 : (A.length : Int) < (t.length : Int) := by rw [tl]; simp only [List.length_cons]; omega
      have z2 : (1 : Int) < ((ws.length : Nat) : Int) := by rw [w3, List.length_cons]; omega
      have ix := ix_at ht
      have gi := gIn_13 hj.len
      have c1 := ne_chr (c := 41) (s := " ") (by decide) bl_
      have c2 : ((⟨#[41]⟩ : Str) = ")") = True := eq_true cl_.symm
      have ej := join_t (n + 2) hj (q := S.length + a) (S := Dl.sx S L') (by rw [Dl.sx_k]; exact x5) hp.ok
      have vl : vs.length < 16777216 := by rcases hW with h | h <;> omega
      have vf : flats (vs ++ [u.d]) = true := flats_app (hp.c _ (List.mem_cons_self ..)).2.2 (flats_cons (KT.flat u) rfl)
      refine ⟨Dl.sx S L, by simp_arith [z1], ?_⟩
      simp_arith [ix, w1, w2, w5, gi, c1, c2, z2, w4, hL', ej, x1, x2, x6, vl, aug3]
      refine ⟨_, by omega, A ++ [41], R, _, _, _, _, _, _, by rw [ht, List.append_assoc]; rfl, rfl, by rw [List.length_append]; rfl, rfl, hp.put vf, by first | omega | (simp only [List.length_append, List.length_cons, List.length_nil] at hk ⊢; omega), by rw [List.map_cons, hr2]; exact ha⟩
    | @sign s u R st' hs ha =>
      right
      obtain ⟨⟨a, us⟩, r, rfl, hu, hr⟩ := List.map_eq_cons_iff.mp hst
      have hu : us = [u] := hu
      obtain ⟨ws, w0, w1, w2, w3, w4, w5⟩ := hw.last
      obtain ⟨c, hc, -, rfl, hcc⟩ := sg_chr hs
      have z1 : (A.length : Int) < (t.length : Int) := by rw [tl, List.length_append, hc]; simp only [List.length_cons]; omega
      have ix := ix_at (t := t) (A := A) (R := R) (c := c) (by rw [ht, hc]; rfl)
      have ul : ((us.length : Nat) : Int) = 1 := by rw [hu]; rfl
      have gi := gIn_13 (.inl ul)
      rw [ul] at gi
      have gs := gIn_sg hs
      have c1 := ne_chr (c := c) (s := " ") (by omega) bl_
      have c2 := ne_chr (c := c) (s := ")") (by omega) cl_
      have ul2 : us.length < 16777216 := by omega
      have uf : flats (us ++ [.str ⟨#[c]⟩]) = true := flats_app (hw.c _ (List.mem_cons_self ..)).2.2 (flats_cons rfl rfl)
      refine ⟨Dl.sx S L, by simp_arith [z1], ?_⟩
      simp_arith [ix, w1, w2, w5, ul, gi, c1, c2, k1, gs, ul2, aug3]
      have wp : 1 ≤ (⟨#[c]⟩ : Str).cps.toList.length := by rw [hc, List.length_cons]; omega
      refine ⟨_, by first | omega | (rw [List.length_append]; omega), A ++ [c], R, _, _, _, _, _, _, by rw [ht, hc, List.append_assoc], rfl, by rw [List.length_append]; rfl, rfl, hw.put uf, by first | omega | (simp only [List.length_append, List.length_cons, List.length_nil] at hk ⊢; omega), by rw [List.map_cons, hr, hu]; exact ha⟩
  · have h1 := (hS.pushF (c := Dl.Cell.lst []) rfl).push (c := Dl.Cell.lst [.ref S.length]) (by
      rw [List.length_append]
      show (decide (S.length < S.length + 1) && true) = true
      rw [Bool.and_true]
      exact decide_eq_true (by omega))
    rw [List.append_assoc] at h1
    exact h1
  · intro x hx
    rw [List.mem_singleton.mp hx]
    exact ⟨by decide, rfl, rfl⟩
  · exact List.nodup_cons.mpr ⟨(fun h => nomatch h), List.nodup_nil⟩

end Lw

set_option Elab.async false
set_option linter.all false
set_option maxRecDepth 100000
namespace Lw
open PySem L2 Dl
local macro_rules | `(tactic| simp_arith [$ls,*]) => `(tactic| simp (disch := first | omega | assumption | (simp only [List.length_cons, List.length_nil, List.length_append, List.length_take, List.length_drop]; omega) | (simp only [List.length_cons, List.length_nil])) only [sQ_, sP_, sE_, sR_, sIf_, sN_, sA_, tgO_nx, nm_, tgIx_, eC_, eV0, eV1, e1_, e2_, eB_, eF_, aN_, aC_, eMt_, eSl_, oN_, oI_, tV_, tE_, tA_, tO_, tN_, eIf_, eAnd_, eOr_, eNot_, eCh_, seq_nx, seq_rt, seq_bk, seq_ct, seq_ex, toR_some, toR_none, toT_some, truD_bl, truD_int, truD_tup, truD_non, truD_str, truD_ref, truC_lst, tyD_str, tyD_tup, tyD_int, tyD_bl, tyD_non, tyD_ref, tyC_lst, tyC_rol, tyC_dic, kE_, kR_, kIf_t, kIf_f, kN_, kA_, kIx1_, kIx2_, kIx3_, kE1_, kE21_, kE2_, kB_, kF_, kC1_, kC_, kM1_, kM2_, kM_, kS1_, kS2_, kS3_, kO_, kV_, kT_, kAn_t, kAn_f, kOr_t, kOr_f, kNo_, kIfE_t, kIfE_f, kVa_, kVa2_t, kVa2_f, kVo_, kVo2_t, kVo2_f, kVn_, kVn2_, kH_, kH1_, kH2_t, kH2_f, kH3_, List.getElem?_cons_zero, List.getElem?_cons_succ, List.set_cons_zero, List.set_cons_succ, gAdd_int, gAdd_str, gAdd_t, gAdd_r, catC_s, gSub_int, gMul_l, gMul_r, gFdiv_int, gMod_int, gLt_int, gLe_int, gGt_int, gGe_int, gInt_int, gAbs_int, gLen_tup, gLen_str, gLen_r, lenC_s, gTpl_, gLsd_, gIx_r, ixC_s, ixO_s, gIx_t, gIx_s, ixS_s, atI_0, atI_1, atI_2, atI_3, atI_4, atI_5, gAppend_r, appC_s, gExtend_r, extC_s, gPop_r, popC_s, gSet_r, setC_0, setC_2, gTuple_r, tupC_s, gTuple_t, gList_r, gList_t, newC_s, gSl_r, slC_s, gSl_t, gSl_s, cut_take, cut_drop, cut_init, cut_mid, Int.toNat_natCast, lstC_lst, lstC_rol, lstAt_C, isi_str, isi_int, isi_bool, isi_tup, isi_lst, isO_s, isB_1, isB_2, isB_3, isB_4, isB_5, isB_6, isB_7, isB_8, isB_9, isB_10, isB_11, isB_12, isB_13, isB_14, isB_15, isB_16, isB_17, isB_18, isB_19, isB_20, isB_21, isB_22, isB_23, isB_24, isB_25, isB_26, gSum_r, sumC_s, sumO_s, gMin_, gMax_, qEq_int, qNe_int, qEq_str, qNe_str, gNeg_z, tgT_, tgU_, tgL0, tgL1, eTab_, kTab_, sX_, tgIxX_, kX1_, kX2_, kX3_, gSetX_r, setX_0, setX_2, setX_s, sPar_, kPar_, eFv_, eGetD_, kG1_, isDic_r, isDC_d, kG1b_, kG2_, kG3_, gGetD_r, getC_s, gMaxL_r, maxC_, gRep_r, repC_, eD0_, gDget_r, dgC_s, List.getElem?_concat_length, set_end, sF_, kFor_, iR1_, kR1_, iR2_, kR2_, kR3_, iA_, kAny_r, kAny_t, kAny_s, iaC_s, eLc_, kLc_, wipeD_c, wipeD_n, tYes_, put_one, sAug_, gAug_i, sBk_, sCt_, sW_, st_len, st_p, st_k, st_0, st_q, st_set_p, st_set_k, st_set_0, st_push, sx_len, sx_k, sx_0, sx_q, sx_set_k, sx_set_0, sx_push, So_rt, So_nx, So_ex, Tn_nx, Tn_ct, Tn_bk, Tn_rt, Tn_ex, Bool.false_eq_true, if_true, if_false, reduceIte, Option.map_some, Option.bind_some, Bool.not_true, Bool.not_false, decide_true, decide_false, eq_self, List.length_append, List.length_singleton, List.length_cons, List.length_nil, List.map_cons, List.map_nil, Nat.sub_self, List.replicate_zero, List.append_nil, List.cons_append, List.nil_append, List.append_assoc, List.replicate_succ, Nat.reduceSub, Nat.reduceAdd, Nat.add_zero, Nat.zero_add, Nat.add_assoc, Nat.reduceLeDiff, Int.natCast_add, Int.cast_ofNat_Int, Int.reduceEq, Int.reduceLT, Int.reduceLE, Int.reduceAdd, Int.reduceSub, Int.reduceNeg, Int.reduceToNat, List.take_succ_cons, List.take_zero, List.drop_succ_cons, List.drop_zero, List.dropLast_concat, Dl.atI_last, gFdivW_, gJoin_r, joinC_, gUpper_, gRepl_, gInK_, gNinK_, r_ax_or, r_ax_ur, r_ax_pr, r_ax_ol, r_ax_ul, r_ax_pl, r_ax_ct, r_or_ax, r_or_ur, r_or_pr, r_or_ol, r_or_ul, r_or_pl, r_or_ct, r_ur_ax, r_ur_or, r_ur_pr, r_ur_ol, r_ur_ul, r_ur_pl, r_ur_ct, r_pr_ax, r_pr_or, r_pr_ur, r_pr_ol, r_pr_ul, r_pr_pl, r_pr_ct, r_ol_ax, r_ol_or, r_ol_ur, r_ol_pr, r_ol_ul, r_ol_pl, r_ol_ct, r_ul_ax, r_ul_or, r_ul_ur, r_ul_pr, r_ul_ol, r_ul_pl, r_ul_ct, r_pl_ax, r_pl_or, r_pl_ur, r_pl_pr, r_pl_ol, r_pl_ul, r_pl_ct, r_ct_ax, r_ct_or, r_ct_ur, r_ct_pr, r_ct_ol, r_ct_ul, r_ct_pl, q1, q2, q3, q4, q5, q6, e1, e2, e3, gInt_bl, gIs_tn, gIs_nn, gIsN_tn, gIsN_nn, gReverse_r, revC_s, iV_, kVV_t, kVV_r, revI_s, iW_, kW_, gInX_r, gNinX_r, inC_d, gAny_r, anyC_s, gStartsW_, $ls,*])
local macro_rules | `(tactic| walk_at "ev") => `(tactic| simp (disch := first | omega | assumption | (simp only [List.length_cons, List.length_nil, List.length_append, List.length_take, List.length_drop]; omega) | (simp only [List.length_cons, List.length_nil])) only [sQ_, sP_, sE_, sR_, sIf_, sN_, sA_, tgO_nx, nm_, tgIx_, eC_, eV0, eV1, e1_, e2_, eB_, eF_, aN_, aC_, eMt_, eSl_, oN_, oI_, tV_, tE_, tA_, tO_, tN_, eIf_, eAnd_, eOr_, eNot_, eCh_, seq_nx, seq_rt, seq_bk, seq_ct, seq_ex, toR_some, toR_none, toT_some, truD_bl, truD_int, truD_tup, truD_non, truD_str, truD_ref, truC_lst, tyD_str, tyD_tup, tyD_int, tyD_bl, tyD_non, tyD_ref, tyC_lst, tyC_rol, tyC_dic, kE_, kR_, kIf_t, kIf_f, kN_, kA_, kIx1_, kIx2_, kIx3_, kE1_, kE21_, kE2_, kB_, kF_, kC1_, kC_, kM1_, kM2_, kM_, kS1_, kS2_, kS3_, kO_, kV_, kT_, kAn_t, kAn_f, kOr_t, kOr_f, kNo_, kIfE_t, kIfE_f, kVa_, kVa2_t, kVa2_f, kVo_, kVo2_t, kVo2_f, kVn_, kVn2_, kH_, kH1_, kH2_t, kH2_f, kH3_, List.getElem?_cons_zero, List.getElem?_cons_succ, List.set_cons_zero, List.set_cons_succ, gAdd_int, gAdd_str, gAdd_t, gAdd_r, catC_s, gSub_int, gMul_l, gMul_r, gFdiv_int, gMod_int, gLt_int, gLe_int, gGt_int, gGe_int, gInt_int, gAbs_int, gLen_tup, gLen_str, gLen_r, lenC_s, gTpl_, gLsd_, gIx_r, ixC_s, ixO_s, gIx_t, gIx_s, ixS_s, atI_0, atI_1, atI_2, atI_3, atI_4, atI_5, gAppend_r, appC_s, gExtend_r, extC_s, gPop_r, popC_s, gSet_r, setC_0, setC_2, gTuple_r, tupC_s, gTuple_t, gList_r, gList_t, newC_s, gSl_r, slC_s, gSl_t, gSl_s, cut_take, cut_drop, cut_init, cut_mid, Int.toNat_natCast, lstC_lst, lstC_rol, lstAt_C, isi_str, isi_int, isi_bool, isi_tup, isi_lst, isO_s, isB_1, isB_2, isB_3, isB_4, isB_5, isB_6, isB_7, isB_8, isB_9, isB_10, isB_11, isB_12, isB_13, isB_14, isB_15, isB_16, isB_17, isB_18, isB_19, isB_20, isB_21, isB_22, isB_23, isB_24, isB_25, isB_26, gSum_r, sumC_s, sumO_s, gMin_, gMax_, qEq_int, qNe_int, qEq_str, qNe_str, gNeg_z, tgT_, tgU_, tgL0, tgL1, eTab_, kTab_, sX_, tgIxX_, kX1_, kX2_, kX3_, gSetX_r, setX_0, setX_2, setX_s, sPar_, kPar_, eFv_, eGetD_, kG1_, isDic_r, isDC_d, kG1b_, kG2_, kG3_, gGetD_r, getC_s, gMaxL_r, maxC_, gRep_r, repC_, eD0_, gDget_r, dgC_s, List.getElem?_concat_length, set_end, sF_, kFor_, iR1_, kR1_, iR2_, kR2_, kR3_, iA_, kAny_r, kAny_t, kAny_s, iaC_s, eLc_, kLc_, wipeD_c, wipeD_n, tYes_, put_one, sAug_, gAug_i, sBk_, sCt_, sW_, st_len, st_p, st_k, st_0, st_q, st_set_p, st_set_k, st_set_0, st_push, sx_len, sx_k, sx_0, sx_q, sx_set_k, sx_set_0, sx_push, So_rt, So_nx, So_ex, Tn_nx, Tn_ct, Tn_bk, Tn_rt, Tn_ex, Bool.false_eq_true, if_true, if_false, reduceIte, Option.map_some, Option.bind_some, Bool.not_true, Bool.not_false, decide_true, decide_false, eq_self, List.length_append, List.length_singleton, List.length_cons, List.length_nil, List.map_cons, List.map_nil, Nat.sub_self, List.replicate_zero, List.append_nil, List.cons_append, List.nil_append, List.append_assoc, List.replicate_succ, Nat.reduceSub, Nat.reduceAdd, Nat.add_zero, Nat.zero_add, Nat.add_assoc, Nat.reduceLeDiff, Int.natCast_add, Int.cast_ofNat_Int, Int.reduceEq, Int.reduceLT, Int.reduceLE, Int.reduceAdd, Int.reduceSub, Int.reduceNeg, Int.reduceToNat, List.take_succ_cons, List.take_zero, List.drop_succ_cons, List.drop_zero, List.dropLast_concat, Dl.atI_last, gFdivW_, gJoin_r, joinC_, gUpper_, gRepl_, gInK_, gNinK_, r_ax_or, r_ax_ur, r_ax_pr, r_ax_ol, r_ax_ul, r_ax_pl, r_ax_ct, r_or_ax, r_or_ur, r_or_pr, r_or_ol, r_or_ul, r_or_pl, r_or_ct, r_ur_ax, r_ur_or, r_ur_pr, r_ur_ol, r_ur_ul, r_ur_pl, r_ur_ct, r_pr_ax, r_pr_or, r_pr_ur, r_pr_ol, r_pr_ul, r_pr_pl, r_pr_ct, r_ol_ax, r_ol_or, r_ol_ur, r_ol_pr, r_ol_ul, r_ol_pl, r_ol_ct, r_ul_ax, r_ul_or, r_ul_ur, r_ul_pr, r_ul_ol, r_ul_pl, r_ul_ct, r_pl_ax, r_pl_or, r_pl_ur, r_pl_pr, r_pl_ol, r_pl_ul, r_pl_ct, r_ct_ax, r_ct_or, r_ct_ur, r_ct_pr, r_ct_ol, r_ct_ul, r_ct_pl, q1, q2, q3, q4, q5, q6, e1, e2, e3, gInt_bl, gIs_tn, gIs_nn, gIsN_tn, gIsN_nn, gReverse_r, revC_s, iV_, kVV_t, kVV_r, revI_s, iW_, kW_, gInX_r, gNinX_r, inC_d, gAny_r, anyC_s, gStartsW_])
/-! ## a text read -/
theorem size_t : ∀ (k : KT) (n : Nat) {S : Store}, SOK S → k.at_.length ≤ n → Dl.Sp (tab (n + 1) .size_of [k.d] S) fun r => r = .ok (.int k.at_.length) S
  | .leaf t, n, S, hS, hn => by
    refine Dl.sp_plain (g := b_size_of (tab n)) rfl fun Q hQ => ?_
    unfold b_size_of
    simp_arith [KTd_leaf, isi_ss]
    exact Dl.Qx (hS.wf rfl) rfl (hQ _ rfl)
  | .node s a b, n, S, hS, hn => by
    refine Dl.sp_plain (g := b_size_of (tab n)) rfl fun Q hQ => ?_
    unfold b_size_of
    have pa := KT.pos a
    have pb := KT.pos b
    rw [KT.len_node] at hn
    obtain ⟨m, rfl⟩ : ∃ m, n = m + 1 := ⟨n - 1, by omega⟩
    have e1 := size_t a m (S := Dl.sx S []) (hS.sx .nil) (by omega)
    have e2 := size_t b m (S := Dl.sx S []) (hS.sx .nil) (by omega)
    simp_arith [KTd_node, isi_st, e1, e2]
    exact Dl.Qx (hS.wf rfl) rfl (hQ _ (by rw [KT.len_node, Int.natCast_add]))
theorem parse_t (n : Nat) {t : Str} {ps : List (Str × KT)} {K : KT} {S : Store} (hps : Nms ps) (h0 : Acc ps K t.cps.toList [[]]) (hl : t.length ≤ 400) (hK : K.at_.length ≤ 40) (hS : SOK S) :
    Dl.Sp (tab (n + 42) .parse_kind [.str t, shD ps] S) fun r => r = .ok K.d S := by
  refine Dl.sp_plain (g := b_parse_kind (tab (n + 41))) rfl fun Q hQ => ?_
  unfold b_parse_kind
  have k1 : k_MOST_CHARACTERS = .int 400 := rfl
  have k2 : k_MOST = .int 40 := rfl
  have z1 : ¬ (400 : Int) < (t.length : Int) := by omega
  have z2 : ¬ (40 : Int) < (K.at_.length : Int) := by omega
  have e1 := read_t (n + 37) (S := Dl.sx S []) hps h0 (by omega) (hS.sx .nil)
  have e2 := size_t K (n + 40) (S := Dl.sx S []) (hS.sx .nil) (by omega)
  rw [show n + 37 + 4 = n + 41 by omega] at e1
  rw [show n + 40 + 1 = n + 41 by omega] at e2
  simp_arith [k1, k2, z1, z2, e1, e2]
  exact Dl.Qx (hS.wf rfl) (wf_flat (KT.flat K)) (hQ _ rfl)

end Lw

set_option Elab.async false
set_option linter.all false
set_option maxRecDepth 100000
namespace Lw
open PySem L2 Dl
local macro_rules | `(tactic| simp_arith [$ls,*]) => `(tactic| simp (disch := first | omega | assumption | (simp only [List.length_cons, List.length_nil, List.length_append, List.length_take, List.length_drop]; omega) | (simp only [List.length_cons, List.length_nil])) only [sQ_, sP_, sE_, sR_, sIf_, sN_, sA_, tgO_nx, nm_, tgIx_, eC_, eV0, eV1, e1_, e2_, eB_, eF_, aN_, aC_, eMt_, eSl_, oN_, oI_, tV_, tE_, tA_, tO_, tN_, eIf_, eAnd_, eOr_, eNot_, eCh_, seq_nx, seq_rt, seq_bk, seq_ct, seq_ex, toR_some, toR_none, toT_some, truD_bl, truD_int, truD_tup, truD_non, truD_str, truD_ref, truC_lst, tyD_str, tyD_tup, tyD_int, tyD_bl, tyD_non, tyD_ref, tyC_lst, tyC_rol, tyC_dic, kE_, kR_, kIf_t, kIf_f, kN_, kA_, kIx1_, kIx2_, kIx3_, kE1_, kE21_, kE2_, kB_, kF_, kC1_, kC_, kM1_, kM2_, kM_, kS1_, kS2_, kS3_, kO_, kV_, kT_, kAn_t, kAn_f, kOr_t, kOr_f, kNo_, kIfE_t, kIfE_f, kVa_, kVa2_t, kVa2_f, kVo_, kVo2_t, kVo2_f, kVn_, kVn2_, kH_, kH1_, kH2_t, kH2_f, kH3_, List.getElem?_cons_zero, List.getElem?_cons_succ, List.set_cons_zero, List.set_cons_succ, gAdd_int, gAdd_str, gAdd_t, gAdd_r, catC_s, gSub_int, gMul_l, gMul_r, gFdiv_int, gMod_int, gLt_int, gLe_int, gGt_int, gGe_int, gInt_int, gAbs_int, gLen_tup, gLen_str, gLen_r, lenC_s, gTpl_, gLsd_, gIx_r, ixC_s, ixO_s, gIx_t, gIx_s, ixS_s, atI_0, atI_1, atI_2, atI_3, atI_4, atI_5, gAppend_r, appC_s, gExtend_r, extC_s, gPop_r, popC_s, gSet_r, setC_0, setC_2, gTuple_r, tupC_s, gTuple_t, gList_r, gList_t, newC_s, gSl_r, slC_s, gSl_t, gSl_s, cut_take, cut_drop, cut_init, cut_mid, Int.toNat_natCast, lstC_lst, lstC_rol, lstAt_C, isi_str, isi_int, isi_bool, isi_tup, isi_lst, isO_s, isB_1, isB_2, isB_3, isB_4, isB_5, isB_6, isB_7, isB_8, isB_9, isB_10, isB_11, isB_12, isB_13, isB_14, isB_15, isB_16, isB_17, isB_18, isB_19, isB_20, isB_21, isB_22, isB_23, isB_24, isB_25, isB_26, gSum_r, sumC_s, sumO_s, gMin_, gMax_, qEq_int, qNe_int, qEq_str, qNe_str, gNeg_z, tgT_, tgU_, tgL0, tgL1, eTab_, kTab_, sX_, tgIxX_, kX1_, kX2_, kX3_, gSetX_r, setX_0, setX_2, setX_s, sPar_, kPar_, eFv_, eGetD_, kG1_, isDic_r, isDC_d, kG1b_, kG2_, kG3_, gGetD_r, getC_s, gMaxL_r, maxC_, gRep_r, repC_, eD0_, gDget_r, dgC_s, List.getElem?_concat_length, set_end, sF_, kFor_, iR1_, kR1_, iR2_, kR2_, kR3_, iA_, kAny_r, kAny_t, kAny_s, iaC_s, eLc_, kLc_, wipeD_c, wipeD_n, tYes_, put_one, sAug_, gAug_i, sBk_, sCt_, sW_, st_len, st_p, st_k, st_0, st_q, st_set_p, st_set_k, st_set_0, st_push, sx_len, sx_k, sx_0, sx_q, sx_set_k, sx_set_0, sx_push, So_rt, So_nx, So_ex, Tn_nx, Tn_ct, Tn_bk, Tn_rt, Tn_ex, Bool.false_eq_true, if_true, if_false, reduceIte, Option.map_some, Option.bind_some, Bool.not_true, Bool.not_false, decide_true, decide_false, eq_self, List.length_append, List.length_singleton, List.length_cons, List.length_nil, List.map_cons, List.map_nil, Nat.sub_self, List.replicate_zero, List.append_nil, List.cons_append, List.nil_append, List.append_assoc, List.replicate_succ, Nat.reduceSub, Nat.reduceAdd, Nat.add_zero, Nat.zero_add, Nat.add_assoc, Nat.reduceLeDiff, Int.natCast_add, Int.cast_ofNat_Int, Int.reduceEq, Int.reduceLT, Int.reduceLE, Int.reduceAdd, Int.reduceSub, Int.reduceNeg, Int.reduceToNat, List.take_succ_cons, List.take_zero, List.drop_succ_cons, List.drop_zero, List.dropLast_concat, Dl.atI_last, gFdivW_, gJoin_r, joinC_, gUpper_, gRepl_, gInK_, gNinK_, r_ax_or, r_ax_ur, r_ax_pr, r_ax_ol, r_ax_ul, r_ax_pl, r_ax_ct, r_or_ax, r_or_ur, r_or_pr, r_or_ol, r_or_ul, r_or_pl, r_or_ct, r_ur_ax, r_ur_or, r_ur_pr, r_ur_ol, r_ur_ul, r_ur_pl, r_ur_ct, r_pr_ax, r_pr_or, r_pr_ur, r_pr_ol, r_pr_ul, r_pr_pl, r_pr_ct, r_ol_ax, r_ol_or, r_ol_ur, r_ol_pr, r_ol_ul, r_ol_pl, r_ol_ct, r_ul_ax, r_ul_or, r_ul_ur, r_ul_pr, r_ul_ol, r_ul_pl, r_ul_ct, r_pl_ax, r_pl_or, r_pl_ur, r_pl_pr, r_pl_ol, r_pl_ul, r_pl_ct, r_ct_ax, r_ct_or, r_ct_ur, r_ct_pr, r_ct_ol, r_ct_ul, r_ct_pl, q1, q2, q3, q4, q5, q6, e1, e2, e3, gInt_bl, gIs_tn, gIs_nn, gIsN_tn, gIsN_nn, gReverse_r, revC_s, iV_, kVV_t, kVV_r, revI_s, iW_, kW_, gInX_r, gNinX_r, inC_d, gAny_r, anyC_s, gStartsW_, $ls,*])
local macro_rules | `(tactic| walk_at "ev") => `(tactic| simp (disch := first | omega | assumption | (simp only [List.length_cons, List.length_nil, List.length_append, List.length_take, List.length_drop]; omega) | (simp only [List.length_cons, List.length_nil])) only [sQ_, sP_, sE_, sR_, sIf_, sN_, sA_, tgO_nx, nm_, tgIx_, eC_, eV0, eV1, e1_, e2_, eB_, eF_, aN_, aC_, eMt_, eSl_, oN_, oI_, tV_, tE_, tA_, tO_, tN_, eIf_, eAnd_, eOr_, eNot_, eCh_, seq_nx, seq_rt, seq_bk, seq_ct, seq_ex, toR_some, toR_none, toT_some, truD_bl, truD_int, truD_tup, truD_non, truD_str, truD_ref, truC_lst, tyD_str, tyD_tup, tyD_int, tyD_bl, tyD_non, tyD_ref, tyC_lst, tyC_rol, tyC_dic, kE_, kR_, kIf_t, kIf_f, kN_, kA_, kIx1_, kIx2_, kIx3_, kE1_, kE21_, kE2_, kB_, kF_, kC1_, kC_, kM1_, kM2_, kM_, kS1_, kS2_, kS3_, kO_, kV_, kT_, kAn_t, kAn_f, kOr_t, kOr_f, kNo_, kIfE_t, kIfE_f, kVa_, kVa2_t, kVa2_f, kVo_, kVo2_t, kVo2_f, kVn_, kVn2_, kH_, kH1_, kH2_t, kH2_f, kH3_, List.getElem?_cons_zero, List.getElem?_cons_succ, List.set_cons_zero, List.set_cons_succ, gAdd_int, gAdd_str, gAdd_t, gAdd_r, catC_s, gSub_int, gMul_l, gMul_r, gFdiv_int, gMod_int, gLt_int, gLe_int, gGt_int, gGe_int, gInt_int, gAbs_int, gLen_tup, gLen_str, gLen_r, lenC_s, gTpl_, gLsd_, gIx_r, ixC_s, ixO_s, gIx_t, gIx_s, ixS_s, atI_0, atI_1, atI_2, atI_3, atI_4, atI_5, gAppend_r, appC_s, gExtend_r, extC_s, gPop_r, popC_s, gSet_r, setC_0, setC_2, gTuple_r, tupC_s, gTuple_t, gList_r, gList_t, newC_s, gSl_r, slC_s, gSl_t, gSl_s, cut_take, cut_drop, cut_init, cut_mid, Int.toNat_natCast, lstC_lst, lstC_rol, lstAt_C, isi_str, isi_int, isi_bool, isi_tup, isi_lst, isO_s, isB_1, isB_2, isB_3, isB_4, isB_5, isB_6, isB_7, isB_8, isB_9, isB_10, isB_11, isB_12, isB_13, isB_14, isB_15, isB_16, isB_17, isB_18, isB_19, isB_20, isB_21, isB_22, isB_23, isB_24, isB_25, isB_26, gSum_r, sumC_s, sumO_s, gMin_, gMax_, qEq_int, qNe_int, qEq_str, qNe_str, gNeg_z, tgT_, tgU_, tgL0, tgL1, eTab_, kTab_, sX_, tgIxX_, kX1_, kX2_, kX3_, gSetX_r, setX_0, setX_2, setX_s, sPar_, kPar_, eFv_, eGetD_, kG1_, isDic_r, isDC_d, kG1b_, kG2_, kG3_, gGetD_r, getC_s, gMaxL_r, maxC_, gRep_r, repC_, eD0_, gDget_r, dgC_s, List.getElem?_concat_length, set_end, sF_, kFor_, iR1_, kR1_, iR2_, kR2_, kR3_, iA_, kAny_r, kAny_t, kAny_s, iaC_s, eLc_, kLc_, wipeD_c, wipeD_n, tYes_, put_one, sAug_, gAug_i, sBk_, sCt_, sW_, st_len, st_p, st_k, st_0, st_q, st_set_p, st_set_k, st_set_0, st_push, sx_len, sx_k, sx_0, sx_q, sx_set_k, sx_set_0, sx_push, So_rt, So_nx, So_ex, Tn_nx, Tn_ct, Tn_bk, Tn_rt, Tn_ex, Bool.false_eq_true, if_true, if_false, reduceIte, Option.map_some, Option.bind_some, Bool.not_true, Bool.not_false, decide_true, decide_false, eq_self, List.length_append, List.length_singleton, List.length_cons, List.length_nil, List.map_cons, List.map_nil, Nat.sub_self, List.replicate_zero, List.append_nil, List.cons_append, List.nil_append, List.append_assoc, List.replicate_succ, Nat.reduceSub, Nat.reduceAdd, Nat.add_zero, Nat.zero_add, Nat.add_assoc, Nat.reduceLeDiff, Int.natCast_add, Int.cast_ofNat_Int, Int.reduceEq, Int.reduceLT, Int.reduceLE, Int.reduceAdd, Int.reduceSub, Int.reduceNeg, Int.reduceToNat, List.take_succ_cons, List.take_zero, List.drop_succ_cons, List.drop_zero, List.dropLast_concat, Dl.atI_last, gFdivW_, gJoin_r, joinC_, gUpper_, gRepl_, gInK_, gNinK_, r_ax_or, r_ax_ur, r_ax_pr, r_ax_ol, r_ax_ul, r_ax_pl, r_ax_ct, r_or_ax, r_or_ur, r_or_pr, r_or_ol, r_or_ul, r_or_pl, r_or_ct, r_ur_ax, r_ur_or, r_ur_pr, r_ur_ol, r_ur_ul, r_ur_pl, r_ur_ct, r_pr_ax, r_pr_or, r_pr_ur, r_pr_ol, r_pr_ul, r_pr_pl, r_pr_ct, r_ol_ax, r_ol_or, r_ol_ur, r_ol_pr, r_ol_ul, r_ol_pl, r_ol_ct, r_ul_ax, r_ul_or, r_ul_ur, r_ul_pr, r_ul_ol, r_ul_pl, r_ul_ct, r_pl_ax, r_pl_or, r_pl_ur, r_pl_pr, r_pl_ol, r_pl_ul, r_pl_ct, r_ct_ax, r_ct_or, r_ct_ur, r_ct_pr, r_ct_ol, r_ct_ul, r_ct_pl, q1, q2, q3, q4, q5, q6, e1, e2, e3, gInt_bl, gIs_tn, gIs_nn, gIsN_tn, gIsN_nn, gReverse_r, revC_s, iV_, kVV_t, kVV_r, revI_s, iW_, kW_, gInX_r, gNinX_r, inC_d, gAny_r, anyC_s, gStartsW_])
/-! ## atoms drawn -/
theorem letters_t (n : Nat) (S : Store) : tab (n + 1) ._law_letters [] S = .ok (.str "abcdefghijklmnopqrstuvwxyz") S := (Dl.runB_fin (np := 0) (ns := 0) (ds := []) (g := b__law_letters (tab n)) rfl).trans (Dl.fin_s rfl rfl)
theorem latom_t (n : Nat) {N p : Nat} {T : Store} {P : List D} {most : Int} (h : T[p]? = some (.lst P)) (hp : Pool N P) (hN : N + 20 ≤ 1000000) (m0 : 1 ≤ most) (hT : SOK T) :
    Dl.Sp (tab (n + 3) ._law_atom [.ref p, .int most] T) fun r => ∃ t P', Pool (N + 12) P' ∧ AtS t ∧ r = .ok (.str t) (T.set p (.lst P')) := by
  refine Dl.sp_pool (g := b__law_atom (tab (n + 2))) rfl h fun lp Q hQ => ?_
  have fin : ∀ (t : Str) Q' L M, Pool M Q' → M ≤ N + 12 → AtS t → Q (cmp T.length (.str t) (Dl.st T p Q' L)) := fun t Q' L M hq hM ht => Dl.Qp (hT.wf rfl) (wfs_flat hq.flat) rfl (hQ _ ⟨t, Q', hq.mono hM, ht, rfl⟩)
  unfold b__law_atom
  have lt := letters_t (n + 1)
  obtain ⟨d1, P1, hp1, a1, b1, e1⟩ := draw_t n (many := 26) (Dl.st_p (L := []) lp) hp (by omega) (by decide)
  obtain ⟨c, hc, hcs⟩ := atI_in (xs := ("abcdefghijklmnopqrstuvwxyz" : Str).cps.toList) a1 (by rw [small26_len]; exact b1)
  obtain ⟨d2, P2, hp2, a2, b2, e2⟩ := draw_t n (many := 10) (Dl.st_p (L := [.lst [.int 0, .int 0, .int 1, .int 7, .int 0, .int 2, .int 3, .int 5, .int 4, .int 6]]) lp) hp1 (by omega) (by decide)
  obtain ⟨x, x0, x7, hx⟩ := pick_int (xs := [0, 0, 1, 7, 0, 2, 3, 5, 4, 6]) (lo := 0) (hi := 7) a2 b2 (by decide)
  simp only [List.map_cons, List.map_nil] at hx
  simp_arith [lt, e1, hc, e2, hx]
  refine Dl.forQ (fun j ρ S => ∃ b P' v, Pool (N + 2 + j) P' ∧ (∀ c ∈ b.cps.toList, c ∈ SM) ∧ (∃ c, b.cps.toList[0]? = some c ∧ c ∈ ("abcdefghijklmnopqrstuvwxyz" : Str).cps.toList) ∧ b.length ≤ 1 + j ∧ ρ = [some (.ref p), some (.int most), some (.str b), v, none] ∧ S = Dl.st T p P' [.lst [.int 0, .int 0, .int 1, .int 7, .int 0, .int 2, .int 3, .int 5, .int 4, .int 6]])
    ⟨_, P2, _, hp2, fun y hy => by rw [List.mem_singleton.mp (show y ∈ [c] from hy)]; exact small_sm c hcs, ⟨c, rfl, hcs⟩, Nat.le_refl _, rfl, rfl⟩ ?_ ?_
  · rintro j d _ _ hj ⟨b, P3, v, hp3, h1, ⟨f, hf1, hf2⟩, h3, rfl, rfl⟩
    obtain ⟨hj, rfl⟩ := Dl.rng_get hj
    have l1 := small_len
    have l2 := dig_len
    refine ⟨chk_nil, _, _, rfl, ?_⟩
    obtain ⟨d3, P4, hp4, a3, b3, e3⟩ := draw_t n (many := 36) (Dl.st_p (L := [.lst [.int 0, .int 0, .int 1, .int 7, .int 0, .int 2, .int 3, .int 5, .int 4, .int 6]]) lp) hp3 (by omega) (by decide)
    obtain ⟨c3, hc3, hm3⟩ := atI_in (xs := (("abcdefghijklmnopqrstuvwxyz" : Str) ++ ("0123456789" : Str)).cps.toList) a3 (by rw [sm36, sm_len]; exact b3)
    rw [sm36] at hm3
    have c2 : (⟨#[c3]⟩ : Str).length = 1 := rfl
    simp_arith [lt, e3, hc3]
    refine ⟨_, P4, _, hp4.mono (by omega), ?_, ?_, ?_, rfl, rfl⟩
    · intro y hy
      rw [app_list] at hy
      rcases List.mem_append.mp hy with q | q
      · exact h1 y q
      · rw [List.mem_singleton.mp (show y ∈ [c3] from q)]; exact hm3
    · exact ⟨f, by rw [app_list, List.getElem?_append_left (List.getElem?_eq_some_iff.mp hf1).1]; exact hf1, hf2⟩
    · rw [app_len, c2]; omega
  · rintro _ _ ⟨b, P3, v, hp3, h1, h2, h3, rfl, rfl⟩
    rw [rng_length] at hp3 h3
    refine ⟨chk_nil, ?_⟩
    have hb : Base b := ⟨h1, h2, by omega⟩
    obtain ⟨d3, P4, hp4, a3, b3, e3⟩ := draw_t n (many := 4) (Dl.st_p (L := [.lst [.int 0, .int 0, .int 1, .int 7, .int 0, .int 2, .int 3, .int 5, .int 4, .int 6]]) lp) hp3 (by omega) (by decide)
    by_cases m8 : most < 8
    · simp_arith [e3, m8]
      refine fin _ _ _ _ hp4 (by omega) (base_at ?_)
      have e : (cutS b none (some most)).cps.toList = b.cps.toList.take most.toNat := by
        show (cutD b.cps.toList none (some most)) = _
        rw [Dl.cut_take (by omega)]
      obtain ⟨f, hf, hm⟩ := h2
      refine ⟨fun c hc => h1 c (List.mem_of_mem_take (by rw [← e]; exact hc)), ⟨f, by rw [e, List.getElem?_take, if_pos (by omega)]; exact hf, hm⟩, ?_⟩
      rw [← len_list, e, List.length_take, len_list]
      omega
    · obtain ⟨_, t2', _⟩ := dotted hb (m := 1) (by omega) (by omega) (S := Dl.st T p P4 [.lst [.int 0, .int 0, .int 1, .int 7, .int 0, .int 2, .int 3, .int 5, .int 4, .int 6]])
      by_cases h2 : d3 = 2
      · obtain ⟨m, P5, hp5, a5, b5, e5⟩ := draw_t n (many := 20) (Dl.st_p (L := [.lst [.int 0, .int 0, .int 1, .int 7, .int 0, .int 2, .int 3, .int 5, .int 4, .int 6]]) lp) hp4 (by omega) (by decide)
        obtain ⟨t1, t2, t3⟩ := dotted hb (m := 1 + m) (by omega) (by omega) (S := Dl.st T p P5 [.lst [.int 0, .int 0, .int 1, .int 7, .int 0, .int 2, .int 3, .int 5, .int 4, .int 6]])
        simp_arith [e3, m8, h2, e5, t1, t2', t3]
        exact fin _ _ _ _ hp5 (by omega) ⟨b, 1 + m, rfl, hb, by omega, by omega⟩
      · by_cases h3 : d3 = 3
        · obtain ⟨m, P5, hp5, a5, b5, e5⟩ := draw_t n (many := 999999) (Dl.st_p (L := [.lst [.int 0, .int 0, .int 1, .int 7, .int 0, .int 2, .int 3, .int 5, .int 4, .int 6]]) lp) hp4 (by omega) (by decide)
          obtain ⟨t1, t2, t3⟩ := dotted hb (m := 1 + m) (by omega) (by omega) (S := Dl.st T p P5 [.lst [.int 0, .int 0, .int 1, .int 7, .int 0, .int 2, .int 3, .int 5, .int 4, .int 6]])
          simp_arith [e3, m8, h3, e5, t1, t2', t3]
          exact fin _ _ _ _ hp5 (by omega) ⟨b, 1 + m, rfl, hb, by omega, by omega⟩
        · simp_arith [e3, m8, h2, h3]
          exact fin _ _ _ _ hp4 (by omega) (base_at hb)
noncomputable def tailAtoms (F : FN → List D → M D) : SX := (sQ (sN 3 (eB gLsd (aC (eF (F ._law_atom) (aC (eV 0) (aC (eV 2) aN))) aN)))
  (sQ (sF (iR1 (Dl.e2 Dl.gSub (eV 1) (eC (.int 1)))) (nm 4) (sIf (tE (Dl.e2 gEq (eF (F ._law_draw) (aC (eV 0) (aC (eC (.int 4)) aN))) (eC (.int 3)))) (sE (eMt .lst gAppend (eV 3) (aC (Dl.e2 gIx (eV 3) (eF (F ._law_draw) (aC (eV 0) (aC (eB gLen (aC (eV 3) aN)) aN)))) aN))) (sE (eMt .lst gAppend (eV 3) (aC (eF (F ._law_atom) (aC (eV 0) (aC (eV 2) aN))) aN)))))
  (sR (eV 3))))
theorem atoms_eq (F : FN → List D → M D) : b__law_atoms F = (sQ (sN 1 (Dl.e2 gAdd (eC (.int 1)) (eF (F ._law_draw) (aC (eV 0) (aC (eC (.int 8)) aN)))))
  (sQ (sN 2 (eC (.int 8)))
  (sQ (sIf (tE (Dl.e2 gEq (eF (F ._law_draw) (aC (eV 0) (aC (eC (.int 8)) aN))) (eC (.int 7)))) (sQ (sN 1 (Dl.e2 gIx (eB gLsd (aC (eC (.int 40)) (aC (eC (.int 39)) (aC (Dl.e2 gAdd (eC (.int 9)) (eF (F ._law_draw) (aC (eV 0) (aC (eC (.int 32)) aN)))) aN)))) (eF (F ._law_draw) (aC (eV 0) (aC (eC (.int 3)) aN)))))
  (sN 2 (Dl.e2 gIx (eB gLsd (aC (eC (.int 1)) (aC (eC (.int 1)) (aC (eC (.int 2)) (aC (eC (.int 8)) aN))))) (eF (F ._law_draw) (aC (eV 0) (aC (eC (.int 4)) aN)))))) sP)
  (tailAtoms F)))) := rfl
/-- texts of atoms -/
def Ats (ts : List Str) : Prop := (∀ t ∈ ts, AtS t) ∧ 1 ≤ ts.length ∧ ts.length ≤ 40
theorem tail_atoms (n : Nat) {N p : Nat} {T : Store} {P : List D} {m k : Int} {L : List Cell} {Q : Dl.R D → Prop} (lp : p < T.length) (hp : Pool N P) (hN : N + 1000 ≤ 900000) (m0 : 1 ≤ m) (m1 : m ≤ 40) (k0 : 1 ≤ k) (hT : SOK T) (hL : Dl.FL L)
    (fin : ∀ (ts : List Str) Q' M L k, Ats ts → Pool M Q' → M ≤ N + 600 → L[k]? = some (.lst (sts ts)) → Q (cmp T.length (.ref (T.length + k)) (Dl.st T p Q' L))) :
    Dl.So T.length Q (tailAtoms (tab (n + 3)) [some (.ref p), some (.int m), some (.int k), none, none] (Dl.st T p P L)) := by
  unfold tailAtoms
  have S0 : ∀ Q' L, flats Q' = true → Dl.FL L → SOK (Dl.st T p Q' L) := fun Q' L h1 h2 => SOK.st hT h1 h2
  obtain ⟨t1, P1, hp1, h1, e1⟩ := latom_t n (Dl.st_p (L := L) lp) hp (by omega) k0 (S0 _ _ hp.flat hL)
  simp_arith [e1]
  refine Dl.forQ (fun j ρ S => ∃ (ts : List Str) (P' : List D) (v : Option D), (∀ t ∈ ts, AtS t) ∧ ts.length = j + 1 ∧ Pool (N + 12 + 14 * j) P' ∧ ρ = [some (.ref p), some (.int m), some (.int k), some (.ref (T.length + L.length)), v] ∧ S = Dl.st T p P' (L ++ [.lst (sts ts)])) ⟨[t1], P1, _, fun t ht => by rw [List.mem_singleton.mp ht]; exact h1, rfl, hp1, rfl, rfl⟩ ?_ ?_
  · rintro j d _ _ hj ⟨ts, P2, v, hts, hl, hp2, rfl, rfl⟩
    obtain ⟨hj, rfl⟩ := Dl.rng_get hj
    refine ⟨chk_nil, _, _, rfl, ?_⟩
    have fl : Dl.FL (L ++ [.lst (sts ts)]) := hL.app (.one (c := Dl.Cell.lst _) (sts_flat ts))
    have ls := sts_len ts
    have gl : (L ++ [Cell.lst (sts ts)])[L.length]? = some (.lst (sts ts)) := List.getElem?_concat_length ..
    have st : ∀ x, (L ++ [Cell.lst (sts ts)]).set L.length x = L ++ [x] := fun x => by rw [List.set_append_right _ _ (Nat.le_refl _), Nat.sub_self]; rfl
    obtain ⟨d3, P3, hp3, a3, b3, e3⟩ := draw_t (n + 1) (many := 4) (Dl.st_p (L := L ++ [.lst (sts ts)]) lp) hp2 (by omega) (by decide)
    have push : ∀ t, AtS t → ∀ P', Pool (N + 12 + 14 * j + 14) P' → ∃ (ts' : List Str) (P'' : List D) (v : Option D), (∀ t ∈ ts', AtS t) ∧ ts'.length = j + 1 + 1 ∧ Pool (N + 12 + 14 * (j + 1)) P'' ∧ [some (.ref p), some (.int m), some (.int k), some (.ref (T.length + L.length)), some (.int (0 + (j : Int)))] = [some (.ref p), some (.int m), some (.int k), some (.ref (T.length + L.length)), v] ∧ Dl.st T p P' (L ++ [.lst (sts ts ++ [.str t])]) = Dl.st T p P'' (L ++ [.lst (sts ts')]) := fun t ht P' hP' =>
      ⟨ts ++ [t], P', _, fun x hx => (List.mem_append.mp hx).elim (hts x) (fun z => by rw [List.mem_singleton.mp z]; exact ht), by rw [List.length_append, hl]; rfl, hP'.mono (by omega), rfl, by rw [sts_app]; rfl⟩
    have lb : (sts ts).length < 16777216 := by rw [sts_len]; omega
    by_cases h3 : d3 = 3
    · obtain ⟨d4, P4, hp4, a4, b4, e4⟩ := draw_t (n + 1) (many := (ts.length : Int)) (Dl.st_p (L := L ++ [.lst (sts ts)]) lp) hp3 (by omega) (by omega) (log_lt (by omega) (by omega))
      obtain ⟨y, hy, hm⟩ := atI_in (xs := sts ts) a4 (by rw [sts_len]; exact b4)
      obtain ⟨t, ht, rfl⟩ := List.mem_map.mp hm
      simp_arith [e3, h3, gl, ls, e4, hy, lb, st]
      obtain ⟨z1, z2, z3, q1, q2, q3, q4, q5⟩ := push t (hts t ht) P4 (hp4.mono (by omega))
      exact ⟨z1, z2, z3, q1, by omega, q3.mono (by omega), q4, q5⟩
    · obtain ⟨t, P4, hp4, ht, e4⟩ := latom_t n (Dl.st_p (L := L ++ [.lst (sts ts)]) lp) hp3 (by omega) k0 (S0 _ _ hp3.flat fl)
      simp_arith [e3, h3, gl, e4, lb, st]
      obtain ⟨z1, z2, z3, q1, q2, q3, q4, q5⟩ := push t ht P4 (hp4.mono (by omega))
      exact ⟨z1, z2, z3, q1, by omega, q3.mono (by omega), q4, q5⟩
  · rintro _ _ ⟨ts, P2, v, hts, hl, hp2, rfl, rfl⟩
    rw [rng_length] at hl hp2
    refine ⟨chk_nil, ?_⟩
    simp_arith []
    exact fin ts P2 _ _ L.length ⟨hts, by omega, by omega⟩ hp2 (by omega) (List.getElem?_concat_length ..)
theorem latoms_t (n : Nat) {N p : Nat} {T : Store} {P : List D} (h : T[p]? = some (.lst P)) (hp : Pool N P) (hN : N + 1100 ≤ 900000) (hT : SOK T) :
    Dl.Sp (tab (n + 4) ._law_atoms [.ref p] T) fun r => ∃ ts P', Pool (N + 700) P' ∧ Ats ts ∧ r = .ok (.ref T.length) (T.set p (.lst P') ++ [.lst (sts ts)]) := by
  refine Dl.sp_pool (g := b__law_atoms (tab (n + 3))) rfl h fun lp Q hQ => ?_
  have fin : ∀ (ts : List Str) Q' M L k, Ats ts → Pool M Q' → M ≤ N + 700 → L[k]? = some (.lst (sts ts)) → Q (cmp T.length (.ref (T.length + k)) (Dl.st T p Q' L)) := fun ts Q' M L k h1 hq hM hL =>
    Dl.Qpl (hT.wf rfl) (wfs_flat hq.flat) hL (wfs_flat (sts_flat _)) (hQ _ ⟨ts, Q', hq.mono hM, h1, rfl⟩)
  rw [atoms_eq]
  obtain ⟨d1, P1, hp1, a1, b1, e1⟩ := draw_t (n + 1) (many := 8) (Dl.st_p (L := []) lp) hp (by omega) (by decide)
  obtain ⟨d2, P2, hp2, a2, b2, e2⟩ := draw_t (n + 1) (many := 8) (Dl.st_p (L := []) lp) hp1 (by omega) (by decide)
  by_cases h7 : d2 = 7
  · obtain ⟨d3, P3, hp3, a3, b3, e3⟩ := draw_t (n + 1) (many := 32) (Dl.st_p (L := []) lp) hp2 (by omega) (by decide)
    obtain ⟨d4, P4, hp4, a4, b4, e4⟩ := draw_t (n + 1) (many := 3) (Dl.st_p (L := [.lst [.int 40, .int 39, .int (9 + d3)]]) lp) hp3 (by omega) (by decide)
    obtain ⟨x, x0, x1, hx⟩ := pick_int (xs := [40, 39, 9 + d3]) (lo := 1) (hi := 40) a4 b4 (by
      intro y hy
      simp only [List.mem_cons, List.not_mem_nil, or_false] at hy
      rcases hy with rfl | rfl | rfl <;> omega)
    simp only [List.map_cons, List.map_nil] at hx
    obtain ⟨d5, P5, hp5, a5, b5, e5⟩ := draw_t (n + 1) (many := 4) (Dl.st_p (L := [.lst [.int 40, .int 39, .int (9 + d3)], .lst [.int 1, .int 1, .int 2, .int 8]]) lp) hp4 (by omega) (by decide)
    obtain ⟨y, y0, y1, hy⟩ := pick_int (xs := [1, 1, 2, 8]) (lo := 1) (hi := 8) a5 b5 (by decide)
    simp only [List.map_cons, List.map_nil] at hy
    simp_arith [e1, e2, h7, e3, e4, hx, e5, hy]
    exact tail_atoms n lp hp5 (by omega) x0 x1 y0 hT (.cons rfl (.one (c := Dl.Cell.lst _) rfl)) fun ts Q' M L k h1 hq hM hL => fin ts Q' M L k h1 hq (by omega) hL
  · simp_arith [e1, e2, h7]
    exact tail_atoms n lp hp2 (by omega) (by omega) (by omega) (by decide) hT .nil fun ts Q' M L k h1 hq hM hL => fin ts Q' M L k h1 hq (by omega) hL

end Lw

set_option Elab.async false
set_option linter.all false
set_option maxRecDepth 100000
namespace Lw
open PySem L2 Dl
local macro_rules | `(tactic| simp_arith [$ls,*]) => `(tactic| simp (disch := first | omega | assumption | (simp only [List.length_cons, List.length_nil, List.length_append, List.length_take, List.length_drop]; omega) | (simp only [List.length_cons, List.length_nil])) only [sQ_, sP_, sE_, sR_, sIf_, sN_, sA_, tgO_nx, nm_, tgIx_, eC_, eV0, eV1, e1_, e2_, eB_, eF_, aN_, aC_, eMt_, eSl_, oN_, oI_, tV_, tE_, tA_, tO_, tN_, eIf_, eAnd_, eOr_, eNot_, eCh_, seq_nx, seq_rt, seq_bk, seq_ct, seq_ex, toR_some, toR_none, toT_some, truD_bl, truD_int, truD_tup, truD_non, truD_str, truD_ref, truC_lst, tyD_str, tyD_tup, tyD_int, tyD_bl, tyD_non, tyD_ref, tyC_lst, tyC_rol, tyC_dic, kE_, kR_, kIf_t, kIf_f, kN_, kA_, kIx1_, kIx2_, kIx3_, kE1_, kE21_, kE2_, kB_, kF_, kC1_, kC_, kM1_, kM2_, kM_, kS1_, kS2_, kS3_, kO_, kV_, kT_, kAn_t, kAn_f, kOr_t, kOr_f, kNo_, kIfE_t, kIfE_f, kVa_, kVa2_t, kVa2_f, kVo_, kVo2_t, kVo2_f, kVn_, kVn2_, kH_, kH1_, kH2_t, kH2_f, kH3_, List.getElem?_cons_zero, List.getElem?_cons_succ, List.set_cons_zero, List.set_cons_succ, gAdd_int, gAdd_str, gAdd_t, gAdd_r, catC_s, gSub_int, gMul_l, gMul_r, gFdiv_int, gMod_int, gLt_int, gLe_int, gGt_int, gGe_int, gInt_int, gAbs_int, gLen_tup, gLen_str, gLen_r, lenC_s, gTpl_, gLsd_, gIx_r, ixC_s, ixO_s, gIx_t, gIx_s, ixS_s, atI_0, atI_1, atI_2, atI_3, atI_4, atI_5, gAppend_r, appC_s, gExtend_r, extC_s, gPop_r, popC_s, gSet_r, setC_0, setC_2, gTuple_r, tupC_s, gTuple_t, gList_r, gList_t, newC_s, gSl_r, slC_s, gSl_t, gSl_s, cut_take, cut_drop, cut_init, cut_mid, Int.toNat_natCast, lstC_lst, lstC_rol, lstAt_C, isi_str, isi_int, isi_bool, isi_tup, isi_lst, isO_s, isB_1, isB_2, isB_3, isB_4, isB_5, isB_6, isB_7, isB_8, isB_9, isB_10, isB_11, isB_12, isB_13, isB_14, isB_15, isB_16, isB_17, isB_18, isB_19, isB_20, isB_21, isB_22, isB_23, isB_24, isB_25, isB_26, gSum_r, sumC_s, sumO_s, gMin_, gMax_, qEq_int, qNe_int, qEq_str, qNe_str, gNeg_z, tgT_, tgU_, tgL0, tgL1, eTab_, kTab_, sX_, tgIxX_, kX1_, kX2_, kX3_, gSetX_r, setX_0, setX_2, setX_s, sPar_, kPar_, eFv_, eGetD_, kG1_, isDic_r, isDC_d, kG1b_, kG2_, kG3_, gGetD_r, getC_s, gMaxL_r, maxC_, gRep_r, repC_, eD0_, gDget_r, dgC_s, List.getElem?_concat_length, set_end, sF_, kFor_, iR1_, kR1_, iR2_, kR2_, kR3_, iA_, kAny_r, kAny_t, kAny_s, iaC_s, eLc_, kLc_, wipeD_c, wipeD_n, tYes_, put_one, sAug_, gAug_i, sBk_, sCt_, sW_, st_len, st_p, st_k, st_0, st_q, st_set_p, st_set_k, st_set_0, st_push, sx_len, sx_k, sx_0, sx_q, sx_set_k, sx_set_0, sx_push, So_rt, So_nx, So_ex, Tn_nx, Tn_ct, Tn_bk, Tn_rt, Tn_ex, Bool.false_eq_true, if_true, if_false, reduceIte, Option.map_some, Option.bind_some, Bool.not_true, Bool.not_false, decide_true, decide_false, eq_self, List.length_append, List.length_singleton, List.length_cons, List.length_nil, List.map_cons, List.map_nil, Nat.sub_self, List.replicate_zero, List.append_nil, List.cons_append, List.nil_append, List.append_assoc, List.replicate_succ, Nat.reduceSub, Nat.reduceAdd, Nat.add_zero, Nat.zero_add, Nat.add_assoc, Nat.reduceLeDiff, Int.natCast_add, Int.cast_ofNat_Int, Int.reduceEq, Int.reduceLT, Int.reduceLE, Int.reduceAdd, Int.reduceSub, Int.reduceNeg, Int.reduceToNat, List.take_succ_cons, List.take_zero, List.drop_succ_cons, List.drop_zero, List.dropLast_concat, Dl.atI_last, gFdivW_, gJoin_r, joinC_, gUpper_, gRepl_, gInK_, gNinK_, r_ax_or, r_ax_ur, r_ax_pr, r_ax_ol, r_ax_ul, r_ax_pl, r_ax_ct, r_or_ax, r_or_ur, r_or_pr, r_or_ol, r_or_ul, r_or_pl, r_or_ct, r_ur_ax, r_ur_or, r_ur_pr, r_ur_ol, r_ur_ul, r_ur_pl, r_ur_ct, r_pr_ax, r_pr_or, r_pr_ur, r_pr_ol, r_pr_ul, r_pr_pl, r_pr_ct, r_ol_ax, r_ol_or, r_ol_ur, r_ol_pr, r_ol_ul, r_ol_pl, r_ol_ct, r_ul_ax, r_ul_or, r_ul_ur, r_ul_pr, r_ul_ol, r_ul_pl, r_ul_ct, r_pl_ax, r_pl_or, r_pl_ur, r_pl_pr, r_pl_ol, r_pl_ul, r_pl_ct, r_ct_ax, r_ct_or, r_ct_ur, r_ct_pr, r_ct_ol, r_ct_ul, r_ct_pl, q1, q2, q3, q4, q5, q6, e1, e2, e3, gInt_bl, gIs_tn, gIs_nn, gIsN_tn, gIsN_nn, gReverse_r, revC_s, iV_, kVV_t, kVV_r, revI_s, iW_, kW_, gInX_r, gNinX_r, inC_d, gAny_r, anyC_s, gStartsW_, $ls,*])
local macro_rules | `(tactic| walk_at "ev") => `(tactic| simp (disch := first | omega | assumption | (simp only [List.length_cons, List.length_nil, List.length_append, List.length_take, List.length_drop]; omega) | (simp only [List.length_cons, List.length_nil])) only [sQ_, sP_, sE_, sR_, sIf_, sN_, sA_, tgO_nx, nm_, tgIx_, eC_, eV0, eV1, e1_, e2_, eB_, eF_, aN_, aC_, eMt_, eSl_, oN_, oI_, tV_, tE_, tA_, tO_, tN_, eIf_, eAnd_, eOr_, eNot_, eCh_, seq_nx, seq_rt, seq_bk, seq_ct, seq_ex, toR_some, toR_none, toT_some, truD_bl, truD_int, truD_tup, truD_non, truD_str, truD_ref, truC_lst, tyD_str, tyD_tup, tyD_int, tyD_bl, tyD_non, tyD_ref, tyC_lst, tyC_rol, tyC_dic, kE_, kR_, kIf_t, kIf_f, kN_, kA_, kIx1_, kIx2_, kIx3_, kE1_, kE21_, kE2_, kB_, kF_, kC1_, kC_, kM1_, kM2_, kM_, kS1_, kS2_, kS3_, kO_, kV_, kT_, kAn_t, kAn_f, kOr_t, kOr_f, kNo_, kIfE_t, kIfE_f, kVa_, kVa2_t, kVa2_f, kVo_, kVo2_t, kVo2_f, kVn_, kVn2_, kH_, kH1_, kH2_t, kH2_f, kH3_, List.getElem?_cons_zero, List.getElem?_cons_succ, List.set_cons_zero, List.set_cons_succ, gAdd_int, gAdd_str, gAdd_t, gAdd_r, catC_s, gSub_int, gMul_l, gMul_r, gFdiv_int, gMod_int, gLt_int, gLe_int, gGt_int, gGe_int, gInt_int, gAbs_int, gLen_tup, gLen_str, gLen_r, lenC_s, gTpl_, gLsd_, gIx_r, ixC_s, ixO_s, gIx_t, gIx_s, ixS_s, atI_0, atI_1, atI_2, atI_3, atI_4, atI_5, gAppend_r, appC_s, gExtend_r, extC_s, gPop_r, popC_s, gSet_r, setC_0, setC_2, gTuple_r, tupC_s, gTuple_t, gList_r, gList_t, newC_s, gSl_r, slC_s, gSl_t, gSl_s, cut_take, cut_drop, cut_init, cut_mid, Int.toNat_natCast, lstC_lst, lstC_rol, lstAt_C, isi_str, isi_int, isi_bool, isi_tup, isi_lst, isO_s, isB_1, isB_2, isB_3, isB_4, isB_5, isB_6, isB_7, isB_8, isB_9, isB_10, isB_11, isB_12, isB_13, isB_14, isB_15, isB_16, isB_17, isB_18, isB_19, isB_20, isB_21, isB_22, isB_23, isB_24, isB_25, isB_26, gSum_r, sumC_s, sumO_s, gMin_, gMax_, qEq_int, qNe_int, qEq_str, qNe_str, gNeg_z, tgT_, tgU_, tgL0, tgL1, eTab_, kTab_, sX_, tgIxX_, kX1_, kX2_, kX3_, gSetX_r, setX_0, setX_2, setX_s, sPar_, kPar_, eFv_, eGetD_, kG1_, isDic_r, isDC_d, kG1b_, kG2_, kG3_, gGetD_r, getC_s, gMaxL_r, maxC_, gRep_r, repC_, eD0_, gDget_r, dgC_s, List.getElem?_concat_length, set_end, sF_, kFor_, iR1_, kR1_, iR2_, kR2_, kR3_, iA_, kAny_r, kAny_t, kAny_s, iaC_s, eLc_, kLc_, wipeD_c, wipeD_n, tYes_, put_one, sAug_, gAug_i, sBk_, sCt_, sW_, st_len, st_p, st_k, st_0, st_q, st_set_p, st_set_k, st_set_0, st_push, sx_len, sx_k, sx_0, sx_q, sx_set_k, sx_set_0, sx_push, So_rt, So_nx, So_ex, Tn_nx, Tn_ct, Tn_bk, Tn_rt, Tn_ex, Bool.false_eq_true, if_true, if_false, reduceIte, Option.map_some, Option.bind_some, Bool.not_true, Bool.not_false, decide_true, decide_false, eq_self, List.length_append, List.length_singleton, List.length_cons, List.length_nil, List.map_cons, List.map_nil, Nat.sub_self, List.replicate_zero, List.append_nil, List.cons_append, List.nil_append, List.append_assoc, List.replicate_succ, Nat.reduceSub, Nat.reduceAdd, Nat.add_zero, Nat.zero_add, Nat.add_assoc, Nat.reduceLeDiff, Int.natCast_add, Int.cast_ofNat_Int, Int.reduceEq, Int.reduceLT, Int.reduceLE, Int.reduceAdd, Int.reduceSub, Int.reduceNeg, Int.reduceToNat, List.take_succ_cons, List.take_zero, List.drop_succ_cons, List.drop_zero, List.dropLast_concat, Dl.atI_last, gFdivW_, gJoin_r, joinC_, gUpper_, gRepl_, gInK_, gNinK_, r_ax_or, r_ax_ur, r_ax_pr, r_ax_ol, r_ax_ul, r_ax_pl, r_ax_ct, r_or_ax, r_or_ur, r_or_pr, r_or_ol, r_or_ul, r_or_pl, r_or_ct, r_ur_ax, r_ur_or, r_ur_pr, r_ur_ol, r_ur_ul, r_ur_pl, r_ur_ct, r_pr_ax, r_pr_or, r_pr_ur, r_pr_ol, r_pr_ul, r_pr_pl, r_pr_ct, r_ol_ax, r_ol_or, r_ol_ur, r_ol_pr, r_ol_ul, r_ol_pl, r_ol_ct, r_ul_ax, r_ul_or, r_ul_ur, r_ul_pr, r_ul_ol, r_ul_pl, r_ul_ct, r_pl_ax, r_pl_or, r_pl_ur, r_pl_pr, r_pl_ol, r_pl_ul, r_pl_ct, r_ct_ax, r_ct_or, r_ct_ur, r_ct_pr, r_ct_ol, r_ct_ul, r_ct_pl, q1, q2, q3, q4, q5, q6, e1, e2, e3, gInt_bl, gIs_tn, gIs_nn, gIsN_tn, gIsN_nn, gReverse_r, revC_s, iV_, kVV_t, kVV_r, revI_s, iW_, kW_, gInX_r, gNinX_r, inC_d, gAny_r, anyC_s, gStartsW_])
/-! ## a kind drawn -/
theorem sg3 {d : Int} (h0 : 0 ≤ d) (h1 : d < 3) : ∃ (s : Str) (c : Nat), Sg s ∧ atI ("/>*" : Str).cps.toList d = some c ∧ (⟨#[c]⟩ : Str) = s := by
  have h : d = 0 ∨ d = 1 ∨ d = 2 := by omega
  rcases h with rfl | rfl | rfl
  · exact ⟨"/", 47, .inl rfl, by decide +kernel, by decide +kernel⟩
  · exact ⟨">", 62, .inr (.inl rfl), by decide +kernel, by decide +kernel⟩
  · exact ⟨"*", 42, .inr (.inr rfl), by decide +kernel, by decide +kernel⟩
noncomputable def tailBr (F : FN → List D → M D) : SX := (sQ (sN 4 (Dl.e2 gIx (eC (.str "/>*")) (eF (F ._law_draw) (aC (eV 0) (aC (eC (.int 3)) aN)))))
  (sQ (sN 5 (eF (F ._law_bracket) (aC (eV 0) (aC (eSl (eV 1) oN (oI (eV 3))) (aC (eV 2) aN)))))
  (sR (eB gTpl (aC (eV 4) (aC (eV 5) (aC (eF (F ._law_bracket) (aC (eV 0) (aC (eSl (eV 1) (oI (eV 3)) oN) (aC (eV 2) aN)))) aN)))))))
theorem bracket_eq (F : FN → List D → M D) : b__law_bracket F = (sQ (sIf (tE (Dl.e2 gEq (eB gLen (aC (eV 1) aN)) (eC (.int 1)))) (sR (Dl.e2 gIx (eV 1) (eC (.int 0)))) sP)
  (sQ (sN 3 (Dl.e2 gAdd (eC (.int 1)) (eF (F ._law_draw) (aC (eV 0) (aC (Dl.e2 Dl.gSub (eB gLen (aC (eV 1) aN)) (eC (.int 1))) aN)))))
  (sQ (sIf (tE (Dl.e2 gEq (eV 2) (eC (.int 1)))) (sN 3 (eC (.int 1))) sP)
  (sQ (sIf (tE (Dl.e2 gEq (eV 2) (eC (.int 2)))) (sN 3 (Dl.e2 Dl.gSub (eB gLen (aC (eV 1) aN)) (eC (.int 1)))) sP)
  (tailBr F))))) := rfl
theorem bracket_t {p : Nat} (n : Nat) (way : Int) : ∀ (m : Nat) (ts : List Str) {N q : Nat} {T : Store} {P : List D}, ts.length ≤ m → 1 ≤ ts.length → m ≤ 40 → (∀ t ∈ ts, AtS t) → q ≠ p → T[p]? = some (.lst P) → T[q]? = some (.lst (sts ts)) → Pool N P → N + 3 * ts.length ≤ 900000 → SOK T →
    Dl.Sp (tab (n + m + 3) ._law_bracket [.ref p, .ref q, .int way] T) fun r => ∃ (K : KT) (P' : List D), Pool (N + 3 * ts.length - 2) P' ∧ K.ok AtS ∧ K.at_.length = ts.length ∧ r = .ok K.d (T.set p (.lst P'))
  | 0, ts, _, _, _, _, h1, h2, _, _, _, _, _, _, _, _ => by omega
  | m + 1, ts, N, q, T, P, h1, h2, hm, hts, hqp, h, hq, hp, hN, hT => by
    refine Dl.sp_pool (g := b__law_bracket (tab (n + (m + 3)))) rfl h fun lp Q hQ => ?_
    have lq := get_lt hq
    have fin : ∀ (K : KT) Q' M L, Pool M Q' → M ≤ N + 3 * ts.length - 2 → K.ok AtS → K.at_.length = ts.length → Q (cmp T.length K.d (Dl.st T p Q' L)) := fun K Q' M L hq hM h1 h2 => Dl.Qp (hT.wf rfl) (wfs_flat hq.flat) (wf_flat (KT.flat K)) (hQ _ ⟨K, Q', hq.mono hM, h1, h2, rfl⟩)
    have qT : ∀ P' L, (Dl.st T p P' L)[q]? = some (.lst (sts ts)) := fun P' L => by rw [Dl.st_q lq hqp]; exact hq
    have ls := sts_len ts
    rw [bracket_eq]
    by_cases h1' : ts.length = 1
    · obtain ⟨t, rfl⟩ := List.length_eq_one_iff.mp h1'
      have ls1 : (sts [t]) = [.str t] := rfl
      simp_arith [qT, ls1]
      exact fin (.leaf t) _ _ _ hp (by show N ≤ N + 3 * 1 - 2; omega) (hts t (List.mem_cons_self ..)) rfl
    · have z0 : ((ts.length : Int) = 1) = False := eq_false (by omega)
      obtain ⟨d1, P1, hp1, a1, b1, e1⟩ := draw_t (n + m + 1) (many := (ts.length : Int) - 1) (Dl.st_p (L := []) lp) hp (by omega) (by omega) (log_lt (by omega) (by omega))
      rw [show n + m + 1 + 2 = n + (m + 3) by omega] at e1
      have tail : ∀ l : Int, 1 ≤ l → l < ts.length → Dl.So T.length Q (tailBr (tab (n + (m + 3))) [some (.ref p), some (.ref q), some (.int way), some (.int l), none, none] (Dl.st T p P1 [])) := fun l l1 l2 => by
        obtain ⟨k, rfl⟩ : ∃ k : Nat, l = k := ⟨l.toNat, by omega⟩
        unfold tailBr
        obtain ⟨d2, P2, hp2, a2, b2, e2⟩ := draw_t (n + m + 1) (many := 3) (Dl.st_p (L := []) lp) hp1 (by omega) (by omega)
        rw [show n + m + 1 + 2 = n + (m + 3) by omega] at e2
        obtain ⟨s, c, hsg, hc, hcs⟩ := sg3 a2 b2
        have c1 : cutD (sts ts) none (some (k : Int)) = sts (ts.take k) := by
          rw [Dl.cut_take (by omega)]
          unfold sts
          rw [List.map_take]
          rfl
        have c2 : cutD (sts ts) (some (k : Int)) none = sts (ts.drop k) := by
          rw [Dl.cut_drop (by omega)]
          unfold sts
          rw [List.map_drop]
          rfl
        have f1 : Dl.FL [Dl.Cell.lst (sts (ts.take k))] := .one (c := Dl.Cell.lst _) (sts_flat _)
        have f2 : Dl.FL [Dl.Cell.lst (sts (ts.take k)), .lst (sts (ts.drop k))] := .cons (sts_flat _) (.one (c := Dl.Cell.lst _) (sts_flat _))
        have lk : (ts.take k).length = k := by rw [List.length_take]; omega
        have ld : (ts.drop k).length = ts.length - k := List.length_drop ..
        obtain ⟨K1, P3, hp3, ok1, n1, e3⟩ := bracket_t n way m (ts.take k) (q := T.length) (T := Dl.st T p P2 [.lst (sts (ts.take k))]) (by omega) (by omega) (by omega) (fun t ht => hts t (List.mem_of_mem_take ht)) (by omega) (Dl.st_p lp) (by rw [Dl.st_0]; rfl) hp2 (by omega) (SOK.st hT hp2.flat f1)
        rw [show n + m + 3 = n + (m + 3) by omega] at e3
        obtain ⟨K2, P4, hp4, ok2, n2, e4⟩ := bracket_t n way m (ts.drop k) (q := T.length + 1) (T := Dl.st T p P3 [.lst (sts (ts.take k)), .lst (sts (ts.drop k))]) (by omega) (by omega) (by omega) (fun t ht => hts t (List.mem_of_mem_drop ht)) (by omega) (Dl.st_p lp) (by rw [Dl.st_k]; rfl) hp3 (by omega) (SOK.st hT hp3.flat f2)
        rw [show n + m + 3 = n + (m + 3) by omega] at e4
        simp_arith [e2, hc, hcs, qT, c1, c2, e3, e4]
        exact fin (.node s K1 K2) _ _ _ hp4 (by omega) ⟨hsg, ok1, ok2⟩ (by rw [KT.len_node]; omega)
      by_cases w1 : way = 1
      · subst w1
        simp_arith [qT, ls, z0, e1]
        exact tail 1 (by omega) (by omega)
      · by_cases w2 : way = 2
        · subst w2
          simp_arith [qT, ls, z0, e1]
          exact tail _ (by omega) (by omega)
        · simp_arith [qT, ls, z0, e1, w1, w2]
          exact tail _ (by omega) (by omega)

end Lw

set_option Elab.async false
set_option linter.all false
set_option maxRecDepth 100000
namespace Lw
open PySem L2 Dl
local macro_rules | `(tactic| simp_arith [$ls,*]) => `(tactic| simp (disch := first | omega | assumption | (simp only [List.length_cons, List.length_nil, List.length_append, List.length_take, List.length_drop]; omega) | (simp only [List.length_cons, List.length_nil])) only [sQ_, sP_, sE_, sR_, sIf_, sN_, sA_, tgO_nx, nm_, tgIx_, eC_, eV0, eV1, e1_, e2_, eB_, eF_, aN_, aC_, eMt_, eSl_, oN_, oI_, tV_, tE_, tA_, tO_, tN_, eIf_, eAnd_, eOr_, eNot_, eCh_, seq_nx, seq_rt, seq_bk, seq_ct, seq_ex, toR_some, toR_none, toT_some, truD_bl, truD_int, truD_tup, truD_non, truD_str, truD_ref, truC_lst, tyD_str, tyD_tup, tyD_int, tyD_bl, tyD_non, tyD_ref, tyC_lst, tyC_rol, tyC_dic, kE_, kR_, kIf_t, kIf_f, kN_, kA_, kIx1_, kIx2_, kIx3_, kE1_, kE21_, kE2_, kB_, kF_, kC1_, kC_, kM1_, kM2_, kM_, kS1_, kS2_, kS3_, kO_, kV_, kT_, kAn_t, kAn_f, kOr_t, kOr_f, kNo_, kIfE_t, kIfE_f, kVa_, kVa2_t, kVa2_f, kVo_, kVo2_t, kVo2_f, kVn_, kVn2_, kH_, kH1_, kH2_t, kH2_f, kH3_, List.getElem?_cons_zero, List.getElem?_cons_succ, List.set_cons_zero, List.set_cons_succ, gAdd_int, gAdd_str, gAdd_t, gAdd_r, catC_s, gSub_int, gMul_l, gMul_r, gFdiv_int, gMod_int, gLt_int, gLe_int, gGt_int, gGe_int, gInt_int, gAbs_int, gLen_tup, gLen_str, gLen_r, lenC_s, gTpl_, gLsd_, gIx_r, ixC_s, ixO_s, gIx_t, gIx_s, ixS_s, atI_0, atI_1, atI_2, atI_3, atI_4, atI_5, gAppend_r, appC_s, gExtend_r, extC_s, gPop_r, popC_s, gSet_r, setC_0, setC_2, gTuple_r, tupC_s, gTuple_t, gList_r, gList_t, newC_s, gSl_r, slC_s, gSl_t, gSl_s, cut_take, cut_drop, cut_init, cut_mid, Int.toNat_natCast, lstC_lst, lstC_rol, lstAt_C, isi_str, isi_int, isi_bool, isi_tup, isi_lst, isO_s, isB_1, isB_2, isB_3, isB_4, isB_5, isB_6, isB_7, isB_8, isB_9, isB_10, isB_11, isB_12, isB_13, isB_14, isB_15, isB_16, isB_17, isB_18, isB_19, isB_20, isB_21, isB_22, isB_23, isB_24, isB_25, isB_26, gSum_r, sumC_s, sumO_s, gMin_, gMax_, qEq_int, qNe_int, qEq_str, qNe_str, gNeg_z, tgT_, tgU_, tgL0, tgL1, eTab_, kTab_, sX_, tgIxX_, kX1_, kX2_, kX3_, gSetX_r, setX_0, setX_2, setX_s, sPar_, kPar_, eFv_, eGetD_, kG1_, isDic_r, isDC_d, kG1b_, kG2_, kG3_, gGetD_r, getC_s, gMaxL_r, maxC_, gRep_r, repC_, eD0_, gDget_r, dgC_s, List.getElem?_concat_length, set_end, sF_, kFor_, iR1_, kR1_, iR2_, kR2_, kR3_, iA_, kAny_r, kAny_t, kAny_s, iaC_s, eLc_, kLc_, wipeD_c, wipeD_n, tYes_, put_one, sAug_, gAug_i, sBk_, sCt_, sW_, st_len, st_p, st_k, st_0, st_q, st_set_p, st_set_k, st_set_0, st_push, sx_len, sx_k, sx_0, sx_q, sx_set_k, sx_set_0, sx_push, So_rt, So_nx, So_ex, Tn_nx, Tn_ct, Tn_bk, Tn_rt, Tn_ex, Bool.false_eq_true, if_true, if_false, reduceIte, Option.map_some, Option.bind_some, Bool.not_true, Bool.not_false, decide_true, decide_false, eq_self, List.length_append, List.length_singleton, List.length_cons, List.length_nil, List.map_cons, List.map_nil, Nat.sub_self, List.replicate_zero, List.append_nil, List.cons_append, List.nil_append, List.append_assoc, List.replicate_succ, Nat.reduceSub, Nat.reduceAdd, Nat.add_zero, Nat.zero_add, Nat.add_assoc, Nat.reduceLeDiff, Int.natCast_add, Int.cast_ofNat_Int, Int.reduceEq, Int.reduceLT, Int.reduceLE, Int.reduceAdd, Int.reduceSub, Int.reduceNeg, Int.reduceToNat, List.take_succ_cons, List.take_zero, List.drop_succ_cons, List.drop_zero, List.dropLast_concat, Dl.atI_last, gFdivW_, gJoin_r, joinC_, gUpper_, gRepl_, gInK_, gNinK_, r_ax_or, r_ax_ur, r_ax_pr, r_ax_ol, r_ax_ul, r_ax_pl, r_ax_ct, r_or_ax, r_or_ur, r_or_pr, r_or_ol, r_or_ul, r_or_pl, r_or_ct, r_ur_ax, r_ur_or, r_ur_pr, r_ur_ol, r_ur_ul, r_ur_pl, r_ur_ct, r_pr_ax, r_pr_or, r_pr_ur, r_pr_ol, r_pr_ul, r_pr_pl, r_pr_ct, r_ol_ax, r_ol_or, r_ol_ur, r_ol_pr, r_ol_ul, r_ol_pl, r_ol_ct, r_ul_ax, r_ul_or, r_ul_ur, r_ul_pr, r_ul_ol, r_ul_pl, r_ul_ct, r_pl_ax, r_pl_or, r_pl_ur, r_pl_pr, r_pl_ol, r_pl_ul, r_pl_ct, r_ct_ax, r_ct_or, r_ct_ur, r_ct_pr, r_ct_ol, r_ct_ul, r_ct_pl, q1, q2, q3, q4, q5, q6, e1, e2, e3, gInt_bl, gIs_tn, gIs_nn, gIsN_tn, gIsN_nn, gReverse_r, revC_s, iV_, kVV_t, kVV_r, revI_s, iW_, kW_, gInX_r, gNinX_r, inC_d, gAny_r, anyC_s, gStartsW_, $ls,*])
local macro_rules | `(tactic| walk_at "ev") => `(tactic| simp (disch := first | omega | assumption | (simp only [List.length_cons, List.length_nil, List.length_append, List.length_take, List.length_drop]; omega) | (simp only [List.length_cons, List.length_nil])) only [sQ_, sP_, sE_, sR_, sIf_, sN_, sA_, tgO_nx, nm_, tgIx_, eC_, eV0, eV1, e1_, e2_, eB_, eF_, aN_, aC_, eMt_, eSl_, oN_, oI_, tV_, tE_, tA_, tO_, tN_, eIf_, eAnd_, eOr_, eNot_, eCh_, seq_nx, seq_rt, seq_bk, seq_ct, seq_ex, toR_some, toR_none, toT_some, truD_bl, truD_int, truD_tup, truD_non, truD_str, truD_ref, truC_lst, tyD_str, tyD_tup, tyD_int, tyD_bl, tyD_non, tyD_ref, tyC_lst, tyC_rol, tyC_dic, kE_, kR_, kIf_t, kIf_f, kN_, kA_, kIx1_, kIx2_, kIx3_, kE1_, kE21_, kE2_, kB_, kF_, kC1_, kC_, kM1_, kM2_, kM_, kS1_, kS2_, kS3_, kO_, kV_, kT_, kAn_t, kAn_f, kOr_t, kOr_f, kNo_, kIfE_t, kIfE_f, kVa_, kVa2_t, kVa2_f, kVo_, kVo2_t, kVo2_f, kVn_, kVn2_, kH_, kH1_, kH2_t, kH2_f, kH3_, List.getElem?_cons_zero, List.getElem?_cons_succ, List.set_cons_zero, List.set_cons_succ, gAdd_int, gAdd_str, gAdd_t, gAdd_r, catC_s, gSub_int, gMul_l, gMul_r, gFdiv_int, gMod_int, gLt_int, gLe_int, gGt_int, gGe_int, gInt_int, gAbs_int, gLen_tup, gLen_str, gLen_r, lenC_s, gTpl_, gLsd_, gIx_r, ixC_s, ixO_s, gIx_t, gIx_s, ixS_s, atI_0, atI_1, atI_2, atI_3, atI_4, atI_5, gAppend_r, appC_s, gExtend_r, extC_s, gPop_r, popC_s, gSet_r, setC_0, setC_2, gTuple_r, tupC_s, gTuple_t, gList_r, gList_t, newC_s, gSl_r, slC_s, gSl_t, gSl_s, cut_take, cut_drop, cut_init, cut_mid, Int.toNat_natCast, lstC_lst, lstC_rol, lstAt_C, isi_str, isi_int, isi_bool, isi_tup, isi_lst, isO_s, isB_1, isB_2, isB_3, isB_4, isB_5, isB_6, isB_7, isB_8, isB_9, isB_10, isB_11, isB_12, isB_13, isB_14, isB_15, isB_16, isB_17, isB_18, isB_19, isB_20, isB_21, isB_22, isB_23, isB_24, isB_25, isB_26, gSum_r, sumC_s, sumO_s, gMin_, gMax_, qEq_int, qNe_int, qEq_str, qNe_str, gNeg_z, tgT_, tgU_, tgL0, tgL1, eTab_, kTab_, sX_, tgIxX_, kX1_, kX2_, kX3_, gSetX_r, setX_0, setX_2, setX_s, sPar_, kPar_, eFv_, eGetD_, kG1_, isDic_r, isDC_d, kG1b_, kG2_, kG3_, gGetD_r, getC_s, gMaxL_r, maxC_, gRep_r, repC_, eD0_, gDget_r, dgC_s, List.getElem?_concat_length, set_end, sF_, kFor_, iR1_, kR1_, iR2_, kR2_, kR3_, iA_, kAny_r, kAny_t, kAny_s, iaC_s, eLc_, kLc_, wipeD_c, wipeD_n, tYes_, put_one, sAug_, gAug_i, sBk_, sCt_, sW_, st_len, st_p, st_k, st_0, st_q, st_set_p, st_set_k, st_set_0, st_push, sx_len, sx_k, sx_0, sx_q, sx_set_k, sx_set_0, sx_push, So_rt, So_nx, So_ex, Tn_nx, Tn_ct, Tn_bk, Tn_rt, Tn_ex, Bool.false_eq_true, if_true, if_false, reduceIte, Option.map_some, Option.bind_some, Bool.not_true, Bool.not_false, decide_true, decide_false, eq_self, List.length_append, List.length_singleton, List.length_cons, List.length_nil, List.map_cons, List.map_nil, Nat.sub_self, List.replicate_zero, List.append_nil, List.cons_append, List.nil_append, List.append_assoc, List.replicate_succ, Nat.reduceSub, Nat.reduceAdd, Nat.add_zero, Nat.zero_add, Nat.add_assoc, Nat.reduceLeDiff, Int.natCast_add, Int.cast_ofNat_Int, Int.reduceEq, Int.reduceLT, Int.reduceLE, Int.reduceAdd, Int.reduceSub, Int.reduceNeg, Int.reduceToNat, List.take_succ_cons, List.take_zero, List.drop_succ_cons, List.drop_zero, List.dropLast_concat, Dl.atI_last, gFdivW_, gJoin_r, joinC_, gUpper_, gRepl_, gInK_, gNinK_, r_ax_or, r_ax_ur, r_ax_pr, r_ax_ol, r_ax_ul, r_ax_pl, r_ax_ct, r_or_ax, r_or_ur, r_or_pr, r_or_ol, r_or_ul, r_or_pl, r_or_ct, r_ur_ax, r_ur_or, r_ur_pr, r_ur_ol, r_ur_ul, r_ur_pl, r_ur_ct, r_pr_ax, r_pr_or, r_pr_ur, r_pr_ol, r_pr_ul, r_pr_pl, r_pr_ct, r_ol_ax, r_ol_or, r_ol_ur, r_ol_pr, r_ol_ul, r_ol_pl, r_ol_ct, r_ul_ax, r_ul_or, r_ul_ur, r_ul_pr, r_ul_ol, r_ul_pl, r_ul_ct, r_pl_ax, r_pl_or, r_pl_ur, r_pl_pr, r_pl_ol, r_pl_ul, r_pl_ct, r_ct_ax, r_ct_or, r_ct_ur, r_ct_pr, r_ct_ol, r_ct_ul, r_ct_pl, q1, q2, q3, q4, q5, q6, e1, e2, e3, gInt_bl, gIs_tn, gIs_nn, gIsN_tn, gIsN_nn, gReverse_r, revC_s, iV_, kVV_t, kVV_r, revI_s, iW_, kW_, gInX_r, gNinX_r, inC_d, gAny_r, anyC_s, gStartsW_])
/-! ## the law's own text of a kind -/
theorem full_node {s : Str} {a b : KT} : ("(" ++ a.fp ++ " " ++ s ++ " " ++ b.fp ++ ")" : Str) = (KT.node s a b).fp := by
  rw [KT.fp_node, KT.fk_node]
  apply ext_list
  simp only [app_list, List.append_assoc]
theorem full_t (l : Nat) : ∀ (k : KT) (n : Nat) {S : Store}, SOK S → k.ok AtS → k.at_.length ≤ n → n ≤ 100 → Dl.Sp (tab (l + n + 1) ._law_full [k.d] S) fun r => r = .ok (.str k.fp) S
  | .leaf t, n, S, hS, ok, hn, hm => by
    refine Dl.sp_plain (g := b__law_full (tab (l + n))) rfl fun Q hQ => ?_
    unfold b__law_full
    simp_arith [KTd_leaf, isi_ss]
    exact Dl.Qx (hS.wf rfl) rfl (hQ _ rfl)
  | .node s a b, n, S, hS, ok, hn, hm => by
    refine Dl.sp_plain (g := b__law_full (tab (l + n))) rfl fun Q hQ => ?_
    unfold b__law_full
    have pa := KT.pos a
    have pb := KT.pos b
    rw [KT.len_node] at hn
    obtain ⟨m, rfl⟩ : ∃ m, n = m + 1 := ⟨n - 1, by omega⟩
    have ea := full_t l a m (S := Dl.sx S []) (hS.sx .nil) ok.2.1 (by omega) (by omega)
    have eb := full_t l b m (S := Dl.sx S []) (hS.sx .nil) ok.2.2 (by omega) (by omega)
    rw [show l + m + 1 = l + (m + 1) by omega] at ea eb
    have fa := fp_len ok.2.1
    have fb := fp_len ok.2.2
    obtain ⟨c, hc, _⟩ := sg_list ok.1
    have hs : s.length = 1 := by rw [← len_list, hc]; rfl
    have h1 : (" " : Str).length = 1 := by decide +kernel
    have h2 : ("(" : Str).length = 1 := by decide +kernel
    have h3 : (")" : Str).length = 1 := by decide +kernel
    have l0 : ("(" ++ a.fp : Str).length = a.fp.length + 1 := by rw [app_len, h2, Nat.add_comm]
    have l1 : ("(" ++ a.fp ++ " " : Str).length = a.fp.length + 2 := by rw [app_len, l0, h1]
    have l2 : ("(" ++ a.fp ++ " " ++ s : Str).length = a.fp.length + 3 := by rw [app_len, l1, hs]
    have l3 : ("(" ++ a.fp ++ " " ++ s ++ " " : Str).length = a.fp.length + 4 := by rw [app_len, l2, h1]
    have l4 : ("(" ++ a.fp ++ " " ++ s ++ " " ++ b.fp : Str).length = a.fp.length + 4 + b.fp.length := by rw [app_len, l3]
    simp_arith [KTd_node, isi_st, ea, eb]
    rw [full_node]
    exact Dl.Qx (hS.wf rfl) rfl (hQ _ rfl)
theorem full_u (k : KT) (n : Nat) {S : Store} (hS : SOK S) (ok : k.ok AtS) (hk : k.at_.length ≤ 40) : Dl.Sp (tab (n + 41) ._law_full [k.d] S) fun r => r = .ok (.str k.fp) S := full_t n k 40 hS ok hk (by omega)
theorem cut_in {α : Type} {xs : List α} {a b : α} : cutD (a :: xs ++ [b]) (some 1) (some (-1)) = xs := by
  unfold cutD HT.sIx
  simp only [List.length_append, List.length_cons, List.length_nil, List.cons_append]
  rw [if_neg (show ¬ ((1 : Int) < 0) by decide), if_pos (show (-1 : Int) < 0 by decide)]
  have h1 : min (Int.toNat 1) (xs.length + (0 + 1) + 1) = 1 := by
    show min 1 _ = 1
    omega
  have h2 : (((xs.length + (0 + 1) + 1 : Nat) : Int) + -1).toNat = xs.length + 1 := by omega
  have h3 : ((-1 : Int) + ((xs.length + (0 + 1) + 1 : Nat) : Int)).toNat = xs.length + 1 := by omega
  first | rw [h1, h2] | rw [h1, h3]
  show (xs ++ [b]).take (xs.length + 1 - 1) = xs
  rw [Nat.add_sub_cancel, List.take_left]
theorem text_t (k : KT) (n : Nat) {S : Store} (hS : SOK S) (ok : k.ok AtS) (hk : k.at_.length ≤ 40) : Dl.Sp (tab (n + 42) ._law_text [k.d] S) fun r => r = .ok (.str k.fk) S := by
  refine Dl.sp_plain (g := b__law_text (tab (n + 41))) rfl fun Q hQ => ?_
  unfold b__law_text
  cases k with
  | leaf t =>
    simp_arith [KTd_leaf, isi_ss]
    exact Dl.Qx (hS.wf rfl) rfl (hQ _ rfl)
  | node s a b =>
    have e := full_u (.node s a b) n (S := Dl.sx S []) (hS.sx .nil) ok hk
    rw [KTd_node] at e
    have c : cutS (KT.node s a b).fp (some 1) (some (-1)) = (KT.node s a b).fk := by
      apply ext_list
      show (cutD (KT.node s a b).fp.cps.toList (some 1) (some (-1))) = _
      have q2 : (KT.node s a b).fp.cps.toList = 40 :: (KT.node s a b).fk.cps.toList ++ [41] := by
        rw [KT.fp_node]
        simp only [app_list]
        rfl
      rw [q2, cut_in]
    simp_arith [KTd_node, isi_st, e, c]
    exact Dl.Qx (hS.wf rfl) rfl (hQ _ rfl)
/-- the parts of a kind -/
def pts : KT → List KT
  | .leaf t => [.leaf t]
  | .node s a b => .node s a b :: (pts a ++ pts b)
theorem pts_len : ∀ k : KT, (pts k).length + 1 = 2 * k.at_.length
  | .leaf t => rfl
  | .node s a b => by
    have h1 := pts_len a
    have h2 := pts_len b
    show (pts a ++ pts b).length + 1 + 1 = _
    rw [KT.len_node, List.length_append]
    omega
theorem pts_ok {P : Str → Prop} : ∀ {k : KT}, k.ok P → ∀ x ∈ pts k, x.ok P ∧ x.at_.length ≤ k.at_.length
  | .leaf t, h, x, hx => by rw [List.mem_singleton.mp hx]; exact ⟨h, Nat.le_refl _⟩
  | .node s a b, h, x, hx => by
    rw [KT.len_node]
    rcases List.mem_cons.mp hx with rfl | hx
    · exact ⟨h, by rw [KT.len_node]; exact Nat.le_refl _⟩
    · rcases List.mem_append.mp hx with hx | hx
      · have := pts_ok h.2.1 x hx
        exact ⟨this.1, by omega⟩
      · have := pts_ok h.2.2 x hx
        exact ⟨this.1, by omega⟩
theorem parts_t (l : Nat) : ∀ (k : KT) (n : Nat) {S : Store}, SOK S → k.at_.length ≤ n → n ≤ 100 → Dl.Sp (tab (l + n + 1) ._law_parts [k.d] S) fun r => r = .ok (.ref S.length) (S ++ [.lst (kds (pts k))])
  | .leaf t, n, S, hS, hn, hm => by
    refine Dl.sp_plain (g := b__law_parts (tab (l + n))) rfl fun Q hQ => ?_
    unfold b__law_parts
    simp_arith [KTd_leaf, isi_ss]
    exact Dl.Qxl0 (hS.wf rfl) rfl (hQ _ rfl)
  | .node s a b, n, S, hS, hn, hm => by
    refine Dl.sp_plain (g := b__law_parts (tab (l + n))) rfl fun Q hQ => ?_
    unfold b__law_parts
    have pa := KT.pos a
    have pb := KT.pos b
    rw [KT.len_node] at hn
    have la := pts_len a
    have lb := pts_len b
    have ka := kds_len (pts a)
    have kb := kds_len (pts b)
    obtain ⟨m, rfl⟩ : ∃ m, n = m + 1 := ⟨n - 1, by omega⟩
    have fk : flats [(KT.node s a b).d] = true := flats_cons (KT.flat _) rfl
    have f1 : flats ((KT.node s a b).d :: kds (pts a)) = true := flats_cons (KT.flat _) (kds_flat _)
    rw [KTd_node] at fk f1
    have ea := parts_t l a m (S := Dl.sx S [.lst [.tup [.str s, a.d, b.d]]]) (hS.sx (.one (c := Dl.Cell.lst _) fk)) (by omega) (by omega)
    have eb := parts_t l b m (S := Dl.sx S [.lst [.tup [.str s, a.d, b.d]], .lst (kds (pts a)), .lst (.tup [.str s, a.d, b.d] :: kds (pts a))]) (hS.sx (.cons (c := Dl.Cell.lst _) fk (.cons (c := Dl.Cell.lst _) (kds_flat _) (.one (c := Dl.Cell.lst _) f1)))) (by omega) (by omega)
    rw [show l + m + 1 = l + (m + 1) by omega] at ea eb
    simp_arith [KTd_node, isi_st, ea, eb]
    refine Dl.Qxl (k := 4) (xs := kds (pts (.node s a b))) (hS.wf rfl) ?_ (wfs_flat (kds_flat _)) (hQ _ rfl)
    have ep : kds (pts (.node s a b)) = .tup [.str s, a.d, b.d] :: (kds (pts a) ++ kds (pts b)) := by
      rw [← kds_app]
      rfl
    rw [ep]
    rfl

end Lw

set_option Elab.async false
set_option linter.all false
set_option maxRecDepth 100000
namespace Lw
open PySem L2 Dl
local macro_rules | `(tactic| simp_arith [$ls,*]) => `(tactic| simp (disch := first | omega | assumption | (simp only [List.length_cons, List.length_nil, List.length_append, List.length_take, List.length_drop]; omega) | (simp only [List.length_cons, List.length_nil])) only [sQ_, sP_, sE_, sR_, sIf_, sN_, sA_, tgO_nx, nm_, tgIx_, eC_, eV0, eV1, e1_, e2_, eB_, eF_, aN_, aC_, eMt_, eSl_, oN_, oI_, tV_, tE_, tA_, tO_, tN_, eIf_, eAnd_, eOr_, eNot_, eCh_, seq_nx, seq_rt, seq_bk, seq_ct, seq_ex, toR_some, toR_none, toT_some, truD_bl, truD_int, truD_tup, truD_non, truD_str, truD_ref, truC_lst, tyD_str, tyD_tup, tyD_int, tyD_bl, tyD_non, tyD_ref, tyC_lst, tyC_rol, tyC_dic, kE_, kR_, kIf_t, kIf_f, kN_, kA_, kIx1_, kIx2_, kIx3_, kE1_, kE21_, kE2_, kB_, kF_, kC1_, kC_, kM1_, kM2_, kM_, kS1_, kS2_, kS3_, kO_, kV_, kT_, kAn_t, kAn_f, kOr_t, kOr_f, kNo_, kIfE_t, kIfE_f, kVa_, kVa2_t, kVa2_f, kVo_, kVo2_t, kVo2_f, kVn_, kVn2_, kH_, kH1_, kH2_t, kH2_f, kH3_, List.getElem?_cons_zero, List.getElem?_cons_succ, List.set_cons_zero, List.set_cons_succ, gAdd_int, gAdd_str, gAdd_t, gAdd_r, catC_s, gSub_int, gMul_l, gMul_r, gFdiv_int, gMod_int, gLt_int, gLe_int, gGt_int, gGe_int, gInt_int, gAbs_int, gLen_tup, gLen_str, gLen_r, lenC_s, gTpl_, gLsd_, gIx_r, ixC_s, ixO_s, gIx_t, gIx_s, ixS_s, atI_0, atI_1, atI_2, atI_3, atI_4, atI_5, gAppend_r, appC_s, gExtend_r, extC_s, gPop_r, popC_s, gSet_r, setC_0, setC_2, gTuple_r, tupC_s, gTuple_t, gList_r, gList_t, newC_s, gSl_r, slC_s, gSl_t, gSl_s, cut_take, cut_drop, cut_init, cut_mid, Int.toNat_natCast, lstC_lst, lstC_rol, lstAt_C, isi_str, isi_int, isi_bool, isi_tup, isi_lst, isO_s, isB_1, isB_2, isB_3, isB_4, isB_5, isB_6, isB_7, isB_8, isB_9, isB_10, isB_11, isB_12, isB_13, isB_14, isB_15, isB_16, isB_17, isB_18, isB_19, isB_20, isB_21, isB_22, isB_23, isB_24, isB_25, isB_26, gSum_r, sumC_s, sumO_s, gMin_, gMax_, qEq_int, qNe_int, qEq_str, qNe_str, gNeg_z, tgT_, tgU_, tgL0, tgL1, eTab_, kTab_, sX_, tgIxX_, kX1_, kX2_, kX3_, gSetX_r, setX_0, setX_2, setX_s, sPar_, kPar_, eFv_, eGetD_, kG1_, isDic_r, isDC_d, kG1b_, kG2_, kG3_, gGetD_r, getC_s, gMaxL_r, maxC_, gRep_r, repC_, eD0_, gDget_r, dgC_s, List.getElem?_concat_length, set_end, sF_, kFor_, iR1_, kR1_, iR2_, kR2_, kR3_, iA_, kAny_r, kAny_t, kAny_s, iaC_s, eLc_, kLc_, wipeD_c, wipeD_n, tYes_, put_one, sAug_, gAug_i, sBk_, sCt_, sW_, st_len, st_p, st_k, st_0, st_q, st_set_p, st_set_k, st_set_0, st_push, sx_len, sx_k, sx_0, sx_q, sx_set_k, sx_set_0, sx_push, So_rt, So_nx, So_ex, Tn_nx, Tn_ct, Tn_bk, Tn_rt, Tn_ex, Bool.false_eq_true, if_true, if_false, reduceIte, Option.map_some, Option.bind_some, Bool.not_true, Bool.not_false, decide_true, decide_false, eq_self, List.length_append, List.length_singleton, List.length_cons, List.length_nil, List.map_cons, List.map_nil, Nat.sub_self, List.replicate_zero, List.append_nil, List.cons_append, List.nil_append, List.append_assoc, List.replicate_succ, Nat.reduceSub, Nat.reduceAdd, Nat.add_zero, Nat.zero_add, Nat.add_assoc, Nat.reduceLeDiff, Int.natCast_add, Int.cast_ofNat_Int, Int.reduceEq, Int.reduceLT, Int.reduceLE, Int.reduceAdd, Int.reduceSub, Int.reduceNeg, Int.reduceToNat, List.take_succ_cons, List.take_zero, List.drop_succ_cons, List.drop_zero, List.dropLast_concat, Dl.atI_last, gFdivW_, gJoin_r, joinC_, gUpper_, gRepl_, gInK_, gNinK_, r_ax_or, r_ax_ur, r_ax_pr, r_ax_ol, r_ax_ul, r_ax_pl, r_ax_ct, r_or_ax, r_or_ur, r_or_pr, r_or_ol, r_or_ul, r_or_pl, r_or_ct, r_ur_ax, r_ur_or, r_ur_pr, r_ur_ol, r_ur_ul, r_ur_pl, r_ur_ct, r_pr_ax, r_pr_or, r_pr_ur, r_pr_ol, r_pr_ul, r_pr_pl, r_pr_ct, r_ol_ax, r_ol_or, r_ol_ur, r_ol_pr, r_ol_ul, r_ol_pl, r_ol_ct, r_ul_ax, r_ul_or, r_ul_ur, r_ul_pr, r_ul_ol, r_ul_pl, r_ul_ct, r_pl_ax, r_pl_or, r_pl_ur, r_pl_pr, r_pl_ol, r_pl_ul, r_pl_ct, r_ct_ax, r_ct_or, r_ct_ur, r_ct_pr, r_ct_ol, r_ct_ul, r_ct_pl, q1, q2, q3, q4, q5, q6, e1, e2, e3, gInt_bl, gIs_tn, gIs_nn, gIsN_tn, gIsN_nn, gReverse_r, revC_s, iV_, kVV_t, kVV_r, revI_s, iW_, kW_, gInX_r, gNinX_r, inC_d, gAny_r, anyC_s, gStartsW_, $ls,*])
local macro_rules | `(tactic| walk_at "ev") => `(tactic| simp (disch := first | omega | assumption | (simp only [List.length_cons, List.length_nil, List.length_append, List.length_take, List.length_drop]; omega) | (simp only [List.length_cons, List.length_nil])) only [sQ_, sP_, sE_, sR_, sIf_, sN_, sA_, tgO_nx, nm_, tgIx_, eC_, eV0, eV1, e1_, e2_, eB_, eF_, aN_, aC_, eMt_, eSl_, oN_, oI_, tV_, tE_, tA_, tO_, tN_, eIf_, eAnd_, eOr_, eNot_, eCh_, seq_nx, seq_rt, seq_bk, seq_ct, seq_ex, toR_some, toR_none, toT_some, truD_bl, truD_int, truD_tup, truD_non, truD_str, truD_ref, truC_lst, tyD_str, tyD_tup, tyD_int, tyD_bl, tyD_non, tyD_ref, tyC_lst, tyC_rol, tyC_dic, kE_, kR_, kIf_t, kIf_f, kN_, kA_, kIx1_, kIx2_, kIx3_, kE1_, kE21_, kE2_, kB_, kF_, kC1_, kC_, kM1_, kM2_, kM_, kS1_, kS2_, kS3_, kO_, kV_, kT_, kAn_t, kAn_f, kOr_t, kOr_f, kNo_, kIfE_t, kIfE_f, kVa_, kVa2_t, kVa2_f, kVo_, kVo2_t, kVo2_f, kVn_, kVn2_, kH_, kH1_, kH2_t, kH2_f, kH3_, List.getElem?_cons_zero, List.getElem?_cons_succ, List.set_cons_zero, List.set_cons_succ, gAdd_int, gAdd_str, gAdd_t, gAdd_r, catC_s, gSub_int, gMul_l, gMul_r, gFdiv_int, gMod_int, gLt_int, gLe_int, gGt_int, gGe_int, gInt_int, gAbs_int, gLen_tup, gLen_str, gLen_r, lenC_s, gTpl_, gLsd_, gIx_r, ixC_s, ixO_s, gIx_t, gIx_s, ixS_s, atI_0, atI_1, atI_2, atI_3, atI_4, atI_5, gAppend_r, appC_s, gExtend_r, extC_s, gPop_r, popC_s, gSet_r, setC_0, setC_2, gTuple_r, tupC_s, gTuple_t, gList_r, gList_t, newC_s, gSl_r, slC_s, gSl_t, gSl_s, cut_take, cut_drop, cut_init, cut_mid, Int.toNat_natCast, lstC_lst, lstC_rol, lstAt_C, isi_str, isi_int, isi_bool, isi_tup, isi_lst, isO_s, isB_1, isB_2, isB_3, isB_4, isB_5, isB_6, isB_7, isB_8, isB_9, isB_10, isB_11, isB_12, isB_13, isB_14, isB_15, isB_16, isB_17, isB_18, isB_19, isB_20, isB_21, isB_22, isB_23, isB_24, isB_25, isB_26, gSum_r, sumC_s, sumO_s, gMin_, gMax_, qEq_int, qNe_int, qEq_str, qNe_str, gNeg_z, tgT_, tgU_, tgL0, tgL1, eTab_, kTab_, sX_, tgIxX_, kX1_, kX2_, kX3_, gSetX_r, setX_0, setX_2, setX_s, sPar_, kPar_, eFv_, eGetD_, kG1_, isDic_r, isDC_d, kG1b_, kG2_, kG3_, gGetD_r, getC_s, gMaxL_r, maxC_, gRep_r, repC_, eD0_, gDget_r, dgC_s, List.getElem?_concat_length, set_end, sF_, kFor_, iR1_, kR1_, iR2_, kR2_, kR3_, iA_, kAny_r, kAny_t, kAny_s, iaC_s, eLc_, kLc_, wipeD_c, wipeD_n, tYes_, put_one, sAug_, gAug_i, sBk_, sCt_, sW_, st_len, st_p, st_k, st_0, st_q, st_set_p, st_set_k, st_set_0, st_push, sx_len, sx_k, sx_0, sx_q, sx_set_k, sx_set_0, sx_push, So_rt, So_nx, So_ex, Tn_nx, Tn_ct, Tn_bk, Tn_rt, Tn_ex, Bool.false_eq_true, if_true, if_false, reduceIte, Option.map_some, Option.bind_some, Bool.not_true, Bool.not_false, decide_true, decide_false, eq_self, List.length_append, List.length_singleton, List.length_cons, List.length_nil, List.map_cons, List.map_nil, Nat.sub_self, List.replicate_zero, List.append_nil, List.cons_append, List.nil_append, List.append_assoc, List.replicate_succ, Nat.reduceSub, Nat.reduceAdd, Nat.add_zero, Nat.zero_add, Nat.add_assoc, Nat.reduceLeDiff, Int.natCast_add, Int.cast_ofNat_Int, Int.reduceEq, Int.reduceLT, Int.reduceLE, Int.reduceAdd, Int.reduceSub, Int.reduceNeg, Int.reduceToNat, List.take_succ_cons, List.take_zero, List.drop_succ_cons, List.drop_zero, List.dropLast_concat, Dl.atI_last, gFdivW_, gJoin_r, joinC_, gUpper_, gRepl_, gInK_, gNinK_, r_ax_or, r_ax_ur, r_ax_pr, r_ax_ol, r_ax_ul, r_ax_pl, r_ax_ct, r_or_ax, r_or_ur, r_or_pr, r_or_ol, r_or_ul, r_or_pl, r_or_ct, r_ur_ax, r_ur_or, r_ur_pr, r_ur_ol, r_ur_ul, r_ur_pl, r_ur_ct, r_pr_ax, r_pr_or, r_pr_ur, r_pr_ol, r_pr_ul, r_pr_pl, r_pr_ct, r_ol_ax, r_ol_or, r_ol_ur, r_ol_pr, r_ol_ul, r_ol_pl, r_ol_ct, r_ul_ax, r_ul_or, r_ul_ur, r_ul_pr, r_ul_ol, r_ul_pl, r_ul_ct, r_pl_ax, r_pl_or, r_pl_ur, r_pl_pr, r_pl_ol, r_pl_ul, r_pl_ct, r_ct_ax, r_ct_or, r_ct_ur, r_ct_pr, r_ct_ol, r_ct_ul, r_ct_pl, q1, q2, q3, q4, q5, q6, e1, e2, e3, gInt_bl, gIs_tn, gIs_nn, gIsN_tn, gIsN_nn, gReverse_r, revC_s, iV_, kVV_t, kVV_r, revI_s, iW_, kW_, gInX_r, gNinX_r, inC_d, gAny_r, anyC_s, gStartsW_])
/-! ## short names drawn -/
noncomputable def tailPr (F : FN → List D → M D) : SX := (sQ (sN 4 (eV 6))
  (sQ (sN 7 (Dl.e2 gIx (eV 2) (eF (F ._law_draw) (aC (eV 0) (aC (eB gLen (aC (eV 2) aN)) aN)))))
  (sIf (tE (Dl.e2 gNin (eV 4) (eLc [9] (iA (eV 3)) (.one 9) tYesD (Dl.e2 gIx (eV 9) (eC (.int 0)))))) (sE (eMt .lst gInsert (eV 3) (aC (eF (F ._law_draw) (aC (eV 0) (aC (Dl.e2 gAdd (eB gLen (aC (eV 3) aN)) (eC (.int 1))) aN))) (aC (eB gTpl (aC (eV 4) (aC (eV 7) aN))) aN)))) sP)))
noncomputable def upPr (F : FN → List D → M D) : SX := (sQ (sN 6 (Dl.e2 gIx (eC (.str "ABCDEFGHIJKLMNOPQRSTUVWXYZ")) (eF (F ._law_draw) (aC (eV 0) (aC (eC (.int 26)) aN)))))
  (sF (iR1 (Dl.e2 gIx (eB gLsd (aC (eC (.int 0)) (aC (eC (.int 0)) (aC (eC (.int 1)) (aC (eC (.int 7)) (aC (eC (.int 2)) (aC (eC (.int 3)) (aC (eC (.int 4)) (aC (eC (.int 5)) (aC (eC (.int 6)) aN)))))))))) (eF (F ._law_draw) (aC (eV 0) (aC (eC (.int 9)) aN))))) (nm 8) (sN 6 (Dl.e2 gAdd (eV 6) (Dl.e2 gIx (eF (F ._law_letters) aN) (eF (F ._law_draw) (aC (eV 0) (aC (eC (.int 26)) aN))))))))
theorem pairs_eq (F : FN → List D → M D) : b__law_pairs F = (sQ (sN 2 (eF (F ._law_parts) (aC (eV 1) aN)))
  (sQ (sN 3 (eB gLsd aN))
  (sQ (sN 4 (eC (.str "")))
  (sQ (sF (iR1 (eF (F ._law_draw) (aC (eV 0) (aC (eC (.int 4)) aN)))) (nm 5) (sQ (sN 6 (Dl.e2 gAdd (eSl (eV 4) oN (oI (eC (.int 7)))) (Dl.e2 gIx (eF (F ._law_letters) aN) (eF (F ._law_draw) (aC (eV 0) (aC (eC (.int 26)) aN))))))
  (sQ (sIf (tO (tE (Dl.e2 gEq (eV 4) (eC (.str "")))) (tE (Dl.e2 gEq (eF (F ._law_draw) (aC (eV 0) (aC (eC (.int 2)) aN))) (eC (.int 1))))) (upPr F) sP)
  (tailPr F))))
  (sR (eV 3)))))) := rfl
def prD (ps : List (Str × KT)) : List D := ps.map fun p => .tup [.str p.1, p.2.d]
theorem prD_len (ps : List (Str × KT)) : (prD ps).length = ps.length := List.length_map ..
theorem prD_flat (ps : List (Str × KT)) : flats (prD ps) = true := flats_iff.mpr fun x hx => by
  obtain ⟨p, _, rfl⟩ := List.mem_map.mp hx
  show (true && ((KT.d p.2).flat && true)) = true
  rw [KT.flat p.2]
  rfl
/-- short names: of a kind's parts, unlike -/
structure Prs (k : KT) (ps : List (Str × KT)) : Prop where
  nm : ∀ p ∈ ps, Sn2 p.1
  pt : ∀ p ∈ ps, p.2 ∈ pts k
  nd : (ps.map (·.1)).Nodup
theorem gIns_at {S : Store} {l : Nat} {xs : List D} {i : Int} {d : D} (h : S[l]? = some (.lst xs)) (hl : xs.length < 16777216) (h0 : 0 ≤ i) (h1 : i < 9223372036854775808) : gInsert (.ref l) [.int i, d] S = some (.non, S.set l (.lst (xs.take i.toNat ++ [d] ++ xs.drop i.toNat))) := by
  unfold gInsert
  simp only [h]
  exact if_pos ⟨hl, h0, h1⟩
theorem gNin_sts {S : Store} {l : Nat} {xs : List Str} {t : Str} (h : lstAt S l = some (sts xs)) : gNin (.str t) (.ref l) S = some (.bl (decide (t ∉ xs)), S) := by
  unfold gNin gInB
  simp only [h]
  have e : ((sts xs).any fun y => deq y (.str t)) = decide (t ∈ xs) := by
    unfold sts
    rw [List.any_map]
    rw [Bool.eq_iff_iff, List.any_eq_true, decide_eq_true_iff]
    constructor
    · rintro ⟨x, hx, hy⟩
      have := deq_self_str (d := .str x) hy
      cases this
      exact hx
    · intro hx
      exact ⟨t, hx, by show deq (.str t) (.str t) = true; unfold deq; exact decide_eq_true rfl⟩
  rw [e, sts_flat]
  show some (D.bl (!decide (t ∈ xs)), S) = _
  simp
theorem chk_st {T : Store} {p i : Nat} {P : List D} {L : List Cell} {xs : List D} (h : L[i]? = some (.lst xs)) : chkOk [(T.length + i, xs)] (Dl.st T p P L) := chk_one (by rw [Dl.lstAt_C, Dl.st_k, h]; rfl)
theorem up26_len : ("ABCDEFGHIJKLMNOPQRSTUVWXYZ" : Str).cps.toList.length = 26 := by decide +kernel
theorem up_pr (n : Nat) {N p : Nat} {T : Store} {P0 : List D} {L : List Cell} {P : Dl.Out → Prop} {h : SX} {x1 x2 x3 x4 x5 x6 x7 x8 x9 : Option D} (lp : p < T.length) (hp : Pool N P0) (hN : N + 20 ≤ 900000)
    (fin : ∀ (s : Str) (P' : List D) v8, Sn2 s → Pool (N + 10) P' → P (h [some (.ref p), x1, x2, x3, x4, x5, some (.str s), x7, v8, x9] (Dl.st T p P' (L ++ [.lst [.int 0, .int 0, .int 1, .int 7, .int 2, .int 3, .int 4, .int 5, .int 6]])))) :
    P ((upPr (tab (n + 2)) [some (.ref p), x1, x2, x3, x4, x5, x6, x7, x8, x9] (Dl.st T p P0 L)).seq h) := by
  unfold upPr
  have lt := letters_t (n + 1)
  obtain ⟨d1, P1, hp1, a1, b1, e1⟩ := draw_t n (many := 26) (Dl.st_p (L := L) lp) hp (by omega) (by decide)
  obtain ⟨c, hc, hcs⟩ := atI_in (xs := ("ABCDEFGHIJKLMNOPQRSTUVWXYZ" : Str).cps.toList) a1 (by rw [up26_len]; exact b1)
  obtain ⟨d2, P2, hp2, a2, b2, e2⟩ := draw_t n (many := 9) (Dl.st_p (L := L ++ [.lst [.int 0, .int 0, .int 1, .int 7, .int 2, .int 3, .int 4, .int 5, .int 6]]) lp) hp1 (by omega) (by decide)
  obtain ⟨x, x0, x7', hx⟩ := pick_int (xs := [0, 0, 1, 7, 2, 3, 4, 5, 6]) (lo := 0) (hi := 7) a2 b2 (by decide)
  simp only [List.map_cons, List.map_nil] at hx
  simp_arith [e1, hc, e2, hx]
  refine Dl.forQ (fun j ρ S => ∃ s P' v8, Pool (N + 2 + j) P' ∧ (∃ c r, s.cps.toList = c :: r ∧ c ∈ UP ∧ ∀ x ∈ r, x ∈ LO) ∧ s.length = 1 + j ∧ ρ = [some (.ref p), x1, x2, x3, x4, x5, some (.str s), x7, v8, x9] ∧ S = Dl.st T p P' (L ++ [.lst [.int 0, .int 0, .int 1, .int 7, .int 2, .int 3, .int 4, .int 5, .int 6]]))
    ⟨_, P2, _, hp2, ⟨c, [], rfl, hcs, (fun _ h => nomatch h)⟩, rfl, rfl, rfl⟩ ?_ ?_
  · rintro j d _ _ hj ⟨s, P3, v, hp3, ⟨y, r, h1, h2, h3⟩, hl, rfl, rfl⟩
    obtain ⟨hj, rfl⟩ := Dl.rng_get hj
    refine ⟨chk_nil, _, _, rfl, ?_⟩
    have l26 := small_len
    obtain ⟨d3, P4, hp4, a3, b3, e3⟩ := draw_t n (many := 26) (Dl.st_p (L := L ++ [.lst [.int 0, .int 0, .int 1, .int 7, .int 2, .int 3, .int 4, .int 5, .int 6]]) lp) hp3 (by omega) (by decide)
    obtain ⟨c3, hc3, hm3⟩ := atI_in (xs := ("abcdefghijklmnopqrstuvwxyz" : Str).cps.toList) a3 (by rw [small26_len]; exact b3)
    have c2 : (⟨#[c3]⟩ : Str).length = 1 := rfl
    simp_arith [lt, e3, hc3]
    refine ⟨_, P4, _, hp4.mono (by omega), ⟨y, r ++ [c3], by rw [app_list, h1]; rfl, h2, fun z hz => ?_⟩, ?_, rfl, rfl⟩
    · rcases List.mem_append.mp hz with q | q
      · exact h3 z q
      · rw [List.mem_singleton.mp q]; exact hm3
    · rw [app_len, c2]; omega
  · rintro _ _ ⟨s, P3, v, hp3, h1, hl, rfl, rfl⟩
    rw [rng_length] at hl hp3
    exact ⟨chk_nil, fin s P3 v ⟨h1, by omega⟩ (hp3.mono (by omega))⟩
theorem Prs.ins {k : KT} {ps : List (Str × KT)} (h : Prs k ps) {s : Str} {x : KT} (hs : Sn2 s) (hx : x ∈ pts k) (hn : s ∉ ps.map (·.1)) (i : Nat) : Prs k (ps.take i ++ [(s, x)] ++ ps.drop i) := by
  have mem : ∀ p ∈ ps.take i ++ [(s, x)] ++ ps.drop i, p = (s, x) ∨ p ∈ ps := fun p hp => by
    rcases List.mem_append.mp hp with q | q
    · rcases List.mem_append.mp q with q | q
      · exact .inr (List.mem_of_mem_take q)
      · exact .inl (List.mem_singleton.mp q)
    · exact .inr (List.mem_of_mem_drop q)
  refine ⟨fun p hp => ?_, fun p hp => ?_, ?_⟩
  · rcases mem p hp with rfl | q
    · exact hs
    · exact h.nm p q
  · rcases mem p hp with rfl | q
    · exact hx
    · exact h.pt p q
  · have h1 := h.nd
    have e : ps.map (·.1) = (ps.take i).map (·.1) ++ (ps.drop i).map (·.1) := by rw [← List.map_append, List.take_append_drop]
    rw [e] at h1 hn
    rw [List.map_append, List.map_append, List.append_assoc]
    obtain ⟨n1, n2, n3⟩ := List.nodup_append.mp h1
    refine List.nodup_append.mpr ⟨n1, List.nodup_cons.mpr ⟨fun q => hn (List.mem_append.mpr (.inr q)), n2⟩, fun a ha b hb => ?_⟩
    rcases List.mem_cons.mp hb with rfl | hb
    · intro e
      exact hn (List.mem_append.mpr (.inl (e ▸ ha)))
    · exact n3 a ha b hb
theorem tail_pr (n : Nat) {N p : Nat} {T : Store} {P0 : List D} {G : List Cell} {P : Dl.Out → Prop} {k : KT} {ps : List (Str × KT)} {s : Str} {x1 x4 x5 x7 x8 x9 : Option D} (lp : p < T.length) (hp : Pool N P0) (hN : N + 20 ≤ 900000) (hk : k.at_.length ≤ 40) (hG : Dl.FL G) (hps : Prs k ps) (hl : ps.length ≤ 10) (hs : Sn2 s)
    (fin : ∀ (ps' : List (Str × KT)) (P' : List D) (G' : List Cell) (x7' : Option D), Prs k ps' → ps'.length ≤ ps.length + 1 → Pool (N + 2) P' → Dl.FL G' → P (.nx [some (.ref p), x1, some (.ref T.length), some (.ref (T.length + 1)), some (.str s), x5, some (.str s), x7', x8, x9] (Dl.st T p P' (.lst (kds (pts k)) :: .lst (prD ps') :: G')))) :
    P (tailPr (tab (n + 2)) [some (.ref p), x1, some (.ref T.length), some (.ref (T.length + 1)), x4, x5, some (.str s), x7, x8, x9] (Dl.st T p P0 (.lst (kds (pts k)) :: .lst (prD ps) :: G))) := by
  unfold tailPr
  have lk := kds_len (pts k)
  have pl := pts_len k
  have kp := KT.pos k
  have lq := prD_len ps
  obtain ⟨d1, P1, hp1, a1, b1, e1⟩ := draw_t n (many := ((pts k).length : Int)) (Dl.st_p (L := .lst (kds (pts k)) :: .lst (prD ps) :: G) lp) hp (by omega) (by omega) (log_lt (by omega) (by omega))
  obtain ⟨y, hy, hm⟩ := atI_in (xs := kds (pts k)) a1 (by rw [lk]; exact b1)
  obtain ⟨x, hx, rfl⟩ := List.mem_map.mp hm
  have ec := compS (T := T) (p := p) (P := P1) (m := G.length + 2) (L := .lst (kds (pts k)) :: .lst (prD ps) :: (G ++ [.lst []])) (ρ := [some (.ref p), x1, some (.ref T.length), some (.ref (T.length + 1)), some (.str s), x5, some (.str s), some x.d, x8, none]) (g := .one 9) (fe := Dl.e2 gIx (eV 9) (eC (.int 0))) (k := [(T.length + 1, prD ps)]) ps (fun p => .tup [.str p.1, p.2.d]) (fun p => .str p.1) (by omega) (by
      show (G ++ [Cell.lst []])[G.length]? = _
      exact List.getElem?_concat_length ..) (fun a => chk_st rfl) (fun d => rfl) (fun q hq => by
    refine ⟨_, rfl, fun a ha => ?_⟩
    simp_arith [])
  have es : ∀ a, (.lst (kds (pts k)) :: .lst (prD ps) :: (G ++ [.lst []]) : List Cell).set (G.length + 2) (.lst a) = .lst (kds (pts k)) :: .lst (prD ps) :: (G ++ [.lst a]) := fun a => by
    show _ :: _ :: (G ++ [Cell.lst []]).set G.length (.lst a) = _
    rw [List.set_append_right _ _ (Nat.le_refl _), Nat.sub_self]
    rfl
  rw [es] at ec
  have en : (ps.map fun p => D.str p.1) = sts (ps.map (·.1)) := by unfold sts; rw [List.map_map]; rfl
  rw [en] at ec
  have gn := gNin_sts (S := Dl.st T p P1 (.lst (kds (pts k)) :: .lst (prD ps) :: (G ++ [.lst (sts (ps.map (·.1)))]))) (l := T.length + (G.length + 2)) (t := s) (xs := ps.map (·.1)) (by
    rw [Dl.lstAt_C, Dl.st_k]
    show Dl.lstC (G ++ [Cell.lst (sts (ps.map (·.1)))])[G.length]? = _
    rw [List.getElem?_concat_length]
    rfl)
  have fG : Dl.FL (G ++ [.lst (sts (ps.map (·.1)))]) := hG.app (.one (c := Dl.Cell.lst _) (sts_flat _))
  have em : prD ps = ps.map fun p => .tup [.str p.1, p.2.d] := rfl
  rw [← em] at ec
  by_cases hn : s ∈ ps.map (·.1)
  · simp only [hn, not_true_eq_false, decide_false] at gn
    simp_arith [lk, e1, hy, ec, gn]
    exact fin ps P1 _ _ hps (by omega) (hp1.mono (by omega)) fG
  · simp only [hn, not_false_eq_true, decide_true] at gn
    obtain ⟨d2, P2, hp2, a2, b2, e2⟩ := draw_t n (many := (ps.length : Int) + 1) (Dl.st_p (L := .lst (kds (pts k)) :: .lst (prD ps) :: (G ++ [.lst (sts (ps.map (·.1)))])) lp) hp1 (by omega) (by omega) (log_lt (by omega) (by omega))
    have gi := gIns_at (S := Dl.st T p P2 (.lst (kds (pts k)) :: .lst (prD ps) :: (G ++ [.lst (sts (ps.map (·.1)))]))) (l := T.length + 1) (xs := prD ps) (i := d2) (d := .tup [.str s, x.d]) (by rw [Dl.st_k]; rfl) (by omega) a2 (by omega)
    have ei : (prD ps).take d2.toNat ++ [.tup [.str s, x.d]] ++ (prD ps).drop d2.toNat = prD (ps.take d2.toNat ++ [(s, x)] ++ ps.drop d2.toNat) := by
      unfold prD
      rw [List.map_append, List.map_append, List.map_take, List.map_drop]
      rfl
    rw [ei] at gi
    simp_arith [lk, lq, e1, hy, ec, gn, e2, gi]
    have hi := hps.ins hs hx hn d2.toNat
    rw [List.append_assoc] at hi
    exact fin _ P2 _ _ hi (by
      simp only [List.length_append, List.length_take, List.length_drop, List.length_cons, List.length_nil]
      omega) (hp2.mono (by omega)) fG
theorem name_next {s : Str} {c : Nat} (h : Sn2 s) (hc : c ∈ LO) : Sn2 (cutS s none (some 7) ++ ⟨#[c]⟩) := by
  obtain ⟨u, r, h1, h2, h3⟩ := h.ex
  have e : (cutS s none (some 7)).cps.toList = u :: r.take 6 := by
    show (cutD s.cps.toList none (some 7)) = _
    rw [Dl.cut_take (by decide), h1]
    rfl
  refine ⟨⟨u, r.take 6 ++ [c], by rw [app_list, e]; rfl, h2, fun x hx => ?_⟩, ?_⟩
  · rcases List.mem_append.mp hx with q | q
    · exact h3 x (List.mem_of_mem_take q)
    · rw [List.mem_singleton.mp q]; exact hc
  · rw [← len_list, app_list, e, List.length_append, List.length_cons, List.length_take]
    show min 6 r.length + 1 + 1 ≤ 8
    omega
theorem cut7_len {s : Str} : (cutS s none (some 7)).length ≤ 7 := by
  rw [← len_list]
  show (cutD s.cps.toList none (some 7)).length ≤ 7
  rw [Dl.cut_take (by decide), List.length_take]
  show min 7 _ ≤ 7
  omega
theorem pairs_t (n : Nat) {N p : Nat} {T : Store} {P : List D} {k : KT} (h : T[p]? = some (.lst P)) (hp : Pool N P) (hN : N + 200 ≤ 900000) (hk : k.at_.length ≤ 40) (hT : SOK T) :
    Dl.Sp (tab (n + 42) ._law_pairs [.ref p, k.d] T) fun r => ∃ (ps : List (Str × KT)) (P' : List D), Prs k ps ∧ ps.length ≤ 3 ∧ Pool (N + 100) P' ∧ r = .ok (.ref T.length) (T.set p (.lst P') ++ [.lst (prD ps)]) := by
  refine Dl.sp_pool (g := b__law_pairs (tab (n + 41))) rfl h fun lp Q hQ => ?_
  have fin : ∀ (ps : List (Str × KT)) Q' M L, Prs k ps → ps.length ≤ 3 → Pool M Q' → M ≤ N + 100 → Q (cmp T.length (.ref (T.length + 1)) (Dl.st T p Q' (.lst (kds (pts k)) :: .lst (prD ps) :: L))) := fun ps Q' M L h1 h2 hq hM =>
    Dl.Qpl (k := 1) (hT.wf rfl) (wfs_flat hq.flat) rfl (wfs_flat (prD_flat _)) (hQ _ ⟨ps, Q', h1, h2, hq.mono hM, rfl⟩)
  rw [pairs_eq]
  have lt := letters_t (n + 40)
  have l26 := small_len
  have ep := parts_t n k 40 (S := Dl.st T p P []) (SOK.st hT hp.flat .nil) hk (by omega)
  obtain ⟨d1, P1, hp1, a1, b1, e1⟩ := draw_t (n + 39) (many := 4) (Dl.st_p (L := [.lst (kds (pts k)), .lst []]) lp) hp (by omega) (by decide)
  simp_arith [ep, e1]
  refine Dl.forQ (fun j ρ S => ∃ (ps : List (Str × KT)) (P' : List D) (G : List Cell) (s : Str) (v5 v6 v7 v8 v9 : Option D), Prs k ps ∧ ps.length ≤ j ∧ (s = "" ∨ Sn2 s) ∧ Pool (N + (1 + 20 * j)) P' ∧ Dl.FL G ∧ ρ = [some (.ref p), some k.d, some (.ref T.length), some (.ref (T.length + 1)), some (.str s), v5, v6, v7, v8, v9] ∧ S = Dl.st T p P' (.lst (kds (pts k)) :: .lst (prD ps) :: G))
    ⟨[], P1, [], "", none, none, none, none, none, ⟨(fun _ h => nomatch h), (fun _ h => nomatch h), List.nodup_nil⟩, Nat.le_refl _, .inl rfl, hp1, .nil, rfl, rfl⟩ ?_ ?_
  · rintro j d _ _ hj ⟨ps, P2, G, s, v5, v6, v7, v8, v9, hps, hl, hs, hp2, hG, rfl, rfl⟩
    obtain ⟨hj, rfl⟩ := Dl.rng_get hj
    refine ⟨chk_nil, _, _, rfl, ?_⟩
    obtain ⟨d2, P3, hp3, a3, b3, e3⟩ := draw_t (n + 39) (many := 26) (Dl.st_p (L := .lst (kds (pts k)) :: .lst (prD ps) :: G) lp) hp2 (by omega) (by decide)
    obtain ⟨c, hc, hm⟩ := atI_in (xs := ("abcdefghijklmnopqrstuvwxyz" : Str).cps.toList) a3 (by rw [small26_len]; exact b3)
    have c1 : (⟨#[c]⟩ : Str).length = 1 := rfl
    have c7 := cut7_len (s := s)
    have go : ∀ (s' : Str) (P4 : List D) (M : Nat) (G' : List Cell) x4 x7 x8 x9, Sn2 s' → Pool M P4 → M ≤ N + 1 + 20 * j + 15 → Dl.FL G' → Dl.Tn (fun ρ S => ∃ (ps : List (Str × KT)) (P' : List D) (G : List Cell) (s : Str) (v5 v6 v7 v8 v9 : Option D), Prs k ps ∧ ps.length ≤ j + 1 ∧ (s = "" ∨ Sn2 s) ∧ Pool (N + (1 + 20 * (j + 1))) P' ∧ Dl.FL G ∧ ρ = [some (.ref p), some k.d, some (.ref T.length), some (.ref (T.length + 1)), some (.str s), v5, v6, v7, v8, v9] ∧ S = Dl.st T p P' (.lst (kds (pts k)) :: .lst (prD ps) :: G)) (fun o => Dl.So T.length Q (o.seq (sR (eV 3)))) (tailPr (tab (n + 41)) [some (.ref p), some k.d, some (.ref T.length), some (.ref (T.length + 1)), x4, some (.int (0 + (j : Int))), some (.str s'), x7, x8, x9] (Dl.st T p P4 (.lst (kds (pts k)) :: .lst (prD ps) :: G'))) := fun s' P4 M G' x4 x7 x8 x9 hs' hp4 hM hG' =>
      tail_pr (n + 39) lp hp4 (by omega) hk hG' hps (by omega) hs' fun ps' P' G' x7' h1 h2 h3 h4 => ⟨ps', P', G', s', _, _, _, _, _, h1, by omega, .inr hs', h3.mono (by omega), h4, rfl, rfl⟩
    have f9 : Dl.FL [Dl.Cell.lst [.int 0, .int 0, .int 1, .int 7, .int 2, .int 3, .int 4, .int 5, .int 6]] := .one (c := Dl.Cell.lst _) rfl
    by_cases hz : s = ""
    · simp_arith [lt, e3, hc, hz]
      refine up_pr (n + 39) lp hp3 (by omega) fun s' P' v8 hs' hp' => ?_
      rw [List.cons_append, List.cons_append]
      have fg := hG.app f9
      generalize (G ++ [Cell.lst [D.int 0, D.int 0, D.int 1, D.int 7, D.int 2, D.int 3, D.int 4, D.int 5, D.int 6]]) = G' at fg ⊢
      exact go s' P' _ G' _ _ _ _ hs' hp' (by omega) fg
    · have hs := hs.resolve_left hz
      have hz' : (s = "") = False := eq_false hz
      obtain ⟨d4, P4, hp4, a4, b4, e4⟩ := draw_t (n + 39) (many := 2) (Dl.st_p (L := .lst (kds (pts k)) :: .lst (prD ps) :: G) lp) hp3 (by omega) (by decide)
      by_cases h1 : d4 = 1
      · simp_arith [lt, e3, hc, hz', e4, h1]
        refine up_pr (n + 39) lp hp4 (by omega) fun s' P' v8 hs' hp' => ?_
        rw [List.cons_append, List.cons_append]
        have fg := hG.app f9
        generalize (G ++ [Cell.lst [D.int 0, D.int 0, D.int 1, D.int 7, D.int 2, D.int 3, D.int 4, D.int 5, D.int 6]]) = G' at fg ⊢
        exact go s' P' _ G' _ _ _ _ hs' hp' (by omega) fg
      · simp_arith [lt, e3, hc, hz', e4, h1]
        exact go _ P4 _ G _ _ _ _ (name_next hs hm) hp4 (by omega) hG
  · rintro _ _ ⟨ps, P2, G, s, v5, v6, v7, v8, v9, hps, hl, hs, hp2, hG, rfl, rfl⟩
    rw [rng_length] at hl hp2
    refine ⟨chk_nil, ?_⟩
    simp_arith []
    exact fin ps P2 _ _ hps (by omega) hp2 (by omega)

end Lw

set_option Elab.async false
set_option linter.all false
set_option maxRecDepth 100000
namespace Lw
open PySem L2 Dl
local macro_rules | `(tactic| simp_arith [$ls,*]) => `(tactic| simp (disch := first | omega | assumption | (simp only [List.length_cons, List.length_nil, List.length_append, List.length_take, List.length_drop]; omega) | (simp only [List.length_cons, List.length_nil])) only [sQ_, sP_, sE_, sR_, sIf_, sN_, sA_, tgO_nx, nm_, tgIx_, eC_, eV0, eV1, e1_, e2_, eB_, eF_, aN_, aC_, eMt_, eSl_, oN_, oI_, tV_, tE_, tA_, tO_, tN_, eIf_, eAnd_, eOr_, eNot_, eCh_, seq_nx, seq_rt, seq_bk, seq_ct, seq_ex, toR_some, toR_none, toT_some, truD_bl, truD_int, truD_tup, truD_non, truD_str, truD_ref, truC_lst, tyD_str, tyD_tup, tyD_int, tyD_bl, tyD_non, tyD_ref, tyC_lst, tyC_rol, tyC_dic, kE_, kR_, kIf_t, kIf_f, kN_, kA_, kIx1_, kIx2_, kIx3_, kE1_, kE21_, kE2_, kB_, kF_, kC1_, kC_, kM1_, kM2_, kM_, kS1_, kS2_, kS3_, kO_, kV_, kT_, kAn_t, kAn_f, kOr_t, kOr_f, kNo_, kIfE_t, kIfE_f, kVa_, kVa2_t, kVa2_f, kVo_, kVo2_t, kVo2_f, kVn_, kVn2_, kH_, kH1_, kH2_t, kH2_f, kH3_, List.getElem?_cons_zero, List.getElem?_cons_succ, List.set_cons_zero, List.set_cons_succ, gAdd_int, gAdd_str, gAdd_t, gAdd_r, catC_s, gSub_int, gMul_l, gMul_r, gFdiv_int, gMod_int, gLt_int, gLe_int, gGt_int, gGe_int, gInt_int, gAbs_int, gLen_tup, gLen_str, gLen_r, lenC_s, gTpl_, gLsd_, gIx_r, ixC_s, ixO_s, gIx_t, gIx_s, ixS_s, atI_0, atI_1, atI_2, atI_3, atI_4, atI_5, gAppend_r, appC_s, gExtend_r, extC_s, gPop_r, popC_s, gSet_r, setC_0, setC_2, gTuple_r, tupC_s, gTuple_t, gList_r, gList_t, newC_s, gSl_r, slC_s, gSl_t, gSl_s, cut_take, cut_drop, cut_init, cut_mid, Int.toNat_natCast, lstC_lst, lstC_rol, lstAt_C, isi_str, isi_int, isi_bool, isi_tup, isi_lst, isO_s, isB_1, isB_2, isB_3, isB_4, isB_5, isB_6, isB_7, isB_8, isB_9, isB_10, isB_11, isB_12, isB_13, isB_14, isB_15, isB_16, isB_17, isB_18, isB_19, isB_20, isB_21, isB_22, isB_23, isB_24, isB_25, isB_26, gSum_r, sumC_s, sumO_s, gMin_, gMax_, qEq_int, qNe_int, qEq_str, qNe_str, gNeg_z, tgT_, tgU_, tgL0, tgL1, eTab_, kTab_, sX_, tgIxX_, kX1_, kX2_, kX3_, gSetX_r, setX_0, setX_2, setX_s, sPar_, kPar_, eFv_, eGetD_, kG1_, isDic_r, isDC_d, kG1b_, kG2_, kG3_, gGetD_r, getC_s, gMaxL_r, maxC_, gRep_r, repC_, eD0_, gDget_r, dgC_s, List.getElem?_concat_length, set_end, sF_, kFor_, iR1_, kR1_, iR2_, kR2_, kR3_, iA_, kAny_r, kAny_t, kAny_s, iaC_s, eLc_, kLc_, wipeD_c, wipeD_n, tYes_, put_one, sAug_, gAug_i, sBk_, sCt_, sW_, st_len, st_p, st_k, st_0, st_q, st_set_p, st_set_k, st_set_0, st_push, sx_len, sx_k, sx_0, sx_q, sx_set_k, sx_set_0, sx_push, So_rt, So_nx, So_ex, Tn_nx, Tn_ct, Tn_bk, Tn_rt, Tn_ex, Bool.false_eq_true, if_true, if_false, reduceIte, Option.map_some, Option.bind_some, Bool.not_true, Bool.not_false, decide_true, decide_false, eq_self, List.length_append, List.length_singleton, List.length_cons, List.length_nil, List.map_cons, List.map_nil, Nat.sub_self, List.replicate_zero, List.append_nil, List.cons_append, List.nil_append, List.append_assoc, List.replicate_succ, Nat.reduceSub, Nat.reduceAdd, Nat.add_zero, Nat.zero_add, Nat.add_assoc, Nat.reduceLeDiff, Int.natCast_add, Int.cast_ofNat_Int, Int.reduceEq, Int.reduceLT, Int.reduceLE, Int.reduceAdd, Int.reduceSub, Int.reduceNeg, Int.reduceToNat, List.take_succ_cons, List.take_zero, List.drop_succ_cons, List.drop_zero, List.dropLast_concat, Dl.atI_last, gFdivW_, gJoin_r, joinC_, gUpper_, gRepl_, gInK_, gNinK_, r_ax_or, r_ax_ur, r_ax_pr, r_ax_ol, r_ax_ul, r_ax_pl, r_ax_ct, r_or_ax, r_or_ur, r_or_pr, r_or_ol, r_or_ul, r_or_pl, r_or_ct, r_ur_ax, r_ur_or, r_ur_pr, r_ur_ol, r_ur_ul, r_ur_pl, r_ur_ct, r_pr_ax, r_pr_or, r_pr_ur, r_pr_ol, r_pr_ul, r_pr_pl, r_pr_ct, r_ol_ax, r_ol_or, r_ol_ur, r_ol_pr, r_ol_ul, r_ol_pl, r_ol_ct, r_ul_ax, r_ul_or, r_ul_ur, r_ul_pr, r_ul_ol, r_ul_pl, r_ul_ct, r_pl_ax, r_pl_or, r_pl_ur, r_pl_pr, r_pl_ol, r_pl_ul, r_pl_ct, r_ct_ax, r_ct_or, r_ct_ur, r_ct_pr, r_ct_ol, r_ct_ul, r_ct_pl, q1, q2, q3, q4, q5, q6, e1, e2, e3, gInt_bl, gIs_tn, gIs_nn, gIsN_tn, gIsN_nn, gReverse_r, revC_s, iV_, kVV_t, kVV_r, revI_s, iW_, kW_, gInX_r, gNinX_r, inC_d, gAny_r, anyC_s, gStartsW_, $ls,*])
local macro_rules | `(tactic| walk_at "ev") => `(tactic| simp (disch := first | omega | assumption | (simp only [List.length_cons, List.length_nil, List.length_append, List.length_take, List.length_drop]; omega) | (simp only [List.length_cons, List.length_nil])) only [sQ_, sP_, sE_, sR_, sIf_, sN_, sA_, tgO_nx, nm_, tgIx_, eC_, eV0, eV1, e1_, e2_, eB_, eF_, aN_, aC_, eMt_, eSl_, oN_, oI_, tV_, tE_, tA_, tO_, tN_, eIf_, eAnd_, eOr_, eNot_, eCh_, seq_nx, seq_rt, seq_bk, seq_ct, seq_ex, toR_some, toR_none, toT_some, truD_bl, truD_int, truD_tup, truD_non, truD_str, truD_ref, truC_lst, tyD_str, tyD_tup, tyD_int, tyD_bl, tyD_non, tyD_ref, tyC_lst, tyC_rol, tyC_dic, kE_, kR_, kIf_t, kIf_f, kN_, kA_, kIx1_, kIx2_, kIx3_, kE1_, kE21_, kE2_, kB_, kF_, kC1_, kC_, kM1_, kM2_, kM_, kS1_, kS2_, kS3_, kO_, kV_, kT_, kAn_t, kAn_f, kOr_t, kOr_f, kNo_, kIfE_t, kIfE_f, kVa_, kVa2_t, kVa2_f, kVo_, kVo2_t, kVo2_f, kVn_, kVn2_, kH_, kH1_, kH2_t, kH2_f, kH3_, List.getElem?_cons_zero, List.getElem?_cons_succ, List.set_cons_zero, List.set_cons_succ, gAdd_int, gAdd_str, gAdd_t, gAdd_r, catC_s, gSub_int, gMul_l, gMul_r, gFdiv_int, gMod_int, gLt_int, gLe_int, gGt_int, gGe_int, gInt_int, gAbs_int, gLen_tup, gLen_str, gLen_r, lenC_s, gTpl_, gLsd_, gIx_r, ixC_s, ixO_s, gIx_t, gIx_s, ixS_s, atI_0, atI_1, atI_2, atI_3, atI_4, atI_5, gAppend_r, appC_s, gExtend_r, extC_s, gPop_r, popC_s, gSet_r, setC_0, setC_2, gTuple_r, tupC_s, gTuple_t, gList_r, gList_t, newC_s, gSl_r, slC_s, gSl_t, gSl_s, cut_take, cut_drop, cut_init, cut_mid, Int.toNat_natCast, lstC_lst, lstC_rol, lstAt_C, isi_str, isi_int, isi_bool, isi_tup, isi_lst, isO_s, isB_1, isB_2, isB_3, isB_4, isB_5, isB_6, isB_7, isB_8, isB_9, isB_10, isB_11, isB_12, isB_13, isB_14, isB_15, isB_16, isB_17, isB_18, isB_19, isB_20, isB_21, isB_22, isB_23, isB_24, isB_25, isB_26, gSum_r, sumC_s, sumO_s, gMin_, gMax_, qEq_int, qNe_int, qEq_str, qNe_str, gNeg_z, tgT_, tgU_, tgL0, tgL1, eTab_, kTab_, sX_, tgIxX_, kX1_, kX2_, kX3_, gSetX_r, setX_0, setX_2, setX_s, sPar_, kPar_, eFv_, eGetD_, kG1_, isDic_r, isDC_d, kG1b_, kG2_, kG3_, gGetD_r, getC_s, gMaxL_r, maxC_, gRep_r, repC_, eD0_, gDget_r, dgC_s, List.getElem?_concat_length, set_end, sF_, kFor_, iR1_, kR1_, iR2_, kR2_, kR3_, iA_, kAny_r, kAny_t, kAny_s, iaC_s, eLc_, kLc_, wipeD_c, wipeD_n, tYes_, put_one, sAug_, gAug_i, sBk_, sCt_, sW_, st_len, st_p, st_k, st_0, st_q, st_set_p, st_set_k, st_set_0, st_push, sx_len, sx_k, sx_0, sx_q, sx_set_k, sx_set_0, sx_push, So_rt, So_nx, So_ex, Tn_nx, Tn_ct, Tn_bk, Tn_rt, Tn_ex, Bool.false_eq_true, if_true, if_false, reduceIte, Option.map_some, Option.bind_some, Bool.not_true, Bool.not_false, decide_true, decide_false, eq_self, List.length_append, List.length_singleton, List.length_cons, List.length_nil, List.map_cons, List.map_nil, Nat.sub_self, List.replicate_zero, List.append_nil, List.cons_append, List.nil_append, List.append_assoc, List.replicate_succ, Nat.reduceSub, Nat.reduceAdd, Nat.add_zero, Nat.zero_add, Nat.add_assoc, Nat.reduceLeDiff, Int.natCast_add, Int.cast_ofNat_Int, Int.reduceEq, Int.reduceLT, Int.reduceLE, Int.reduceAdd, Int.reduceSub, Int.reduceNeg, Int.reduceToNat, List.take_succ_cons, List.take_zero, List.drop_succ_cons, List.drop_zero, List.dropLast_concat, Dl.atI_last, gFdivW_, gJoin_r, joinC_, gUpper_, gRepl_, gInK_, gNinK_, r_ax_or, r_ax_ur, r_ax_pr, r_ax_ol, r_ax_ul, r_ax_pl, r_ax_ct, r_or_ax, r_or_ur, r_or_pr, r_or_ol, r_or_ul, r_or_pl, r_or_ct, r_ur_ax, r_ur_or, r_ur_pr, r_ur_ol, r_ur_ul, r_ur_pl, r_ur_ct, r_pr_ax, r_pr_or, r_pr_ur, r_pr_ol, r_pr_ul, r_pr_pl, r_pr_ct, r_ol_ax, r_ol_or, r_ol_ur, r_ol_pr, r_ol_ul, r_ol_pl, r_ol_ct, r_ul_ax, r_ul_or, r_ul_ur, r_ul_pr, r_ul_ol, r_ul_pl, r_ul_ct, r_pl_ax, r_pl_or, r_pl_ur, r_pl_pr, r_pl_ol, r_pl_ul, r_pl_ct, r_ct_ax, r_ct_or, r_ct_ur, r_ct_pr, r_ct_ol, r_ct_ul, r_ct_pl, q1, q2, q3, q4, q5, q6, e1, e2, e3, gInt_bl, gIs_tn, gIs_nn, gIsN_tn, gIsN_nn, gReverse_r, revC_s, iV_, kVV_t, kVV_r, revI_s, iW_, kW_, gInX_r, gNinX_r, inC_d, gAny_r, anyC_s, gStartsW_])
/-! ## blanks -/
def bls (m : Nat) : Str := repS " " m
theorem bls_list (m : Nat) : (bls m).cps.toList = List.replicate m 32 := by
  show (List.replicate (m : Int).toNat (" " : Str).cps.toList).flatten = _
  rw [blank_list, Int.toNat_natCast]
  induction m with
  | zero => rfl
  | succ m ih => rw [List.replicate_succ, List.flatten_cons, ih, List.replicate_succ]; rfl
theorem bls_len (m : Nat) : (bls m).length = m := by rw [← len_list, bls_list, List.length_replicate]
theorem blanks_t (n : Nat) {N p : Nat} {T : Store} {P : List D} (h : T[p]? = some (.lst P)) (hp : Pool N P) (hN : N + 20 ≤ 1000000) (hT : SOK T) :
    Dl.Sp (tab (n + 3) ._law_blanks [.ref p] T) fun r => ∃ (m : Nat) (P' : List D), m ≤ 12 ∧ Pool (N + 2) P' ∧ r = .ok (.str (bls m)) (T.set p (.lst P')) := by
  refine Dl.sp_pool (g := b__law_blanks (tab (n + 2))) rfl h fun lp Q hQ => ?_
  have fin : ∀ (m : Nat) Q' L M, m ≤ 12 → Pool M Q' → M ≤ N + 2 → Q (cmp T.length (.str (repS " " (m : Int))) (Dl.st T p Q' L)) := fun m Q' L M h1 hq hM => Dl.Qp (hT.wf rfl) (wfs_flat hq.flat) rfl (hQ _ ⟨m, Q', h1, hq.mono hM, rfl⟩)
  unfold b__law_blanks
  have l1 : (" " : Str).length ≤ 1024 := by decide +kernel
  obtain ⟨d1, P1, hp1, a1, b1, e1⟩ := draw_t n (many := 8) (Dl.st_p (L := [.lst [.int 0, .int 1, .int 1, .int 0, .int 2, .int 3, .int 1, .int 9]]) lp) hp (by omega) (by decide)
  obtain ⟨x, x0, x9, hx⟩ := pick_int (xs := [0, 1, 1, 0, 2, 3, 1, 9]) (lo := 0) (hi := 9) a1 b1 (by decide)
  simp only [List.map_cons, List.map_nil] at hx
  by_cases h9 : x = 9
  · obtain ⟨d2, P2, hp2, a2, b2, e2⟩ := draw_t n (many := 13) (Dl.st_p (L := [.lst [.int 0, .int 1, .int 1, .int 0, .int 2, .int 3, .int 1, .int 9]]) lp) hp1 (by omega) (by decide)
    obtain ⟨m, rfl⟩ : ∃ m : Nat, d2 = m := ⟨d2.toNat, by omega⟩
    have gr := fun S => gRepS_ (x := " ") (k := (m : Int)) (S := S) (by omega) (by omega) l1
    simp_arith [e1, hx, h9, e2, gr]
    exact fin m _ _ _ (by omega) hp2 (by omega)
  · obtain ⟨m, rfl⟩ : ∃ m : Nat, x = m := ⟨x.toNat, by omega⟩
    have h9' : ((m : Int) = 9) = False := eq_false h9
    have gr := fun S => gRepS_ (x := " ") (k := (m : Int)) (S := S) (by omega) (by omega) l1
    simp_arith [e1, hx, h9', gr]
    exact fin m _ _ _ (by omega) hp1 (by omega)

end Lw

set_option Elab.async false
set_option linter.all false
set_option maxRecDepth 100000
namespace Lw
open PySem L2 Dl
local macro_rules | `(tactic| simp_arith [$ls,*]) => `(tactic| simp (disch := first | omega | assumption | (simp only [List.length_cons, List.length_nil, List.length_append, List.length_take, List.length_drop]; omega) | (simp only [List.length_cons, List.length_nil])) only [sQ_, sP_, sE_, sR_, sIf_, sN_, sA_, tgO_nx, nm_, tgIx_, eC_, eV0, eV1, e1_, e2_, eB_, eF_, aN_, aC_, eMt_, eSl_, oN_, oI_, tV_, tE_, tA_, tO_, tN_, eIf_, eAnd_, eOr_, eNot_, eCh_, seq_nx, seq_rt, seq_bk, seq_ct, seq_ex, toR_some, toR_none, toT_some, truD_bl, truD_int, truD_tup, truD_non, truD_str, truD_ref, truC_lst, tyD_str, tyD_tup, tyD_int, tyD_bl, tyD_non, tyD_ref, tyC_lst, tyC_rol, tyC_dic, kE_, kR_, kIf_t, kIf_f, kN_, kA_, kIx1_, kIx2_, kIx3_, kE1_, kE21_, kE2_, kB_, kF_, kC1_, kC_, kM1_, kM2_, kM_, kS1_, kS2_, kS3_, kO_, kV_, kT_, kAn_t, kAn_f, kOr_t, kOr_f, kNo_, kIfE_t, kIfE_f, kVa_, kVa2_t, kVa2_f, kVo_, kVo2_t, kVo2_f, kVn_, kVn2_, kH_, kH1_, kH2_t, kH2_f, kH3_, List.getElem?_cons_zero, List.getElem?_cons_succ, List.set_cons_zero, List.set_cons_succ, gAdd_int, gAdd_str, gAdd_t, gAdd_r, catC_s, gSub_int, gMul_l, gMul_r, gFdiv_int, gMod_int, gLt_int, gLe_int, gGt_int, gGe_int, gInt_int, gAbs_int, gLen_tup, gLen_str, gLen_r, lenC_s, gTpl_, gLsd_, gIx_r, ixC_s, ixO_s, gIx_t, gIx_s, ixS_s, atI_0, atI_1, atI_2, atI_3, atI_4, atI_5, gAppend_r, appC_s, gExtend_r, extC_s, gPop_r, popC_s, gSet_r, setC_0, setC_2, gTuple_r, tupC_s, gTuple_t, gList_r, gList_t, newC_s, gSl_r, slC_s, gSl_t, gSl_s, cut_take, cut_drop, cut_init, cut_mid, Int.toNat_natCast, lstC_lst, lstC_rol, lstAt_C, isi_str, isi_int, isi_bool, isi_tup, isi_lst, isO_s, isB_1, isB_2, isB_3, isB_4, isB_5, isB_6, isB_7, isB_8, isB_9, isB_10, isB_11, isB_12, isB_13, isB_14, isB_15, isB_16, isB_17, isB_18, isB_19, isB_20, isB_21, isB_22, isB_23, isB_24, isB_25, isB_26, gSum_r, sumC_s, sumO_s, gMin_, gMax_, qEq_int, qNe_int, qEq_str, qNe_str, gNeg_z, tgT_, tgU_, tgL0, tgL1, eTab_, kTab_, sX_, tgIxX_, kX1_, kX2_, kX3_, gSetX_r, setX_0, setX_2, setX_s, sPar_, kPar_, eFv_, eGetD_, kG1_, isDic_r, isDC_d, kG1b_, kG2_, kG3_, gGetD_r, getC_s, gMaxL_r, maxC_, gRep_r, repC_, eD0_, gDget_r, dgC_s, List.getElem?_concat_length, set_end, sF_, kFor_, iR1_, kR1_, iR2_, kR2_, kR3_, iA_, kAny_r, kAny_t, kAny_s, iaC_s, eLc_, kLc_, wipeD_c, wipeD_n, tYes_, put_one, sAug_, gAug_i, sBk_, sCt_, sW_, st_len, st_p, st_k, st_0, st_q, st_set_p, st_set_k, st_set_0, st_push, sx_len, sx_k, sx_0, sx_q, sx_set_k, sx_set_0, sx_push, So_rt, So_nx, So_ex, Tn_nx, Tn_ct, Tn_bk, Tn_rt, Tn_ex, Bool.false_eq_true, if_true, if_false, reduceIte, Option.map_some, Option.bind_some, Bool.not_true, Bool.not_false, decide_true, decide_false, eq_self, List.length_append, List.length_singleton, List.length_cons, List.length_nil, List.map_cons, List.map_nil, Nat.sub_self, List.replicate_zero, List.append_nil, List.cons_append, List.nil_append, List.append_assoc, List.replicate_succ, Nat.reduceSub, Nat.reduceAdd, Nat.add_zero, Nat.zero_add, Nat.add_assoc, Nat.reduceLeDiff, Int.natCast_add, Int.cast_ofNat_Int, Int.reduceEq, Int.reduceLT, Int.reduceLE, Int.reduceAdd, Int.reduceSub, Int.reduceNeg, Int.reduceToNat, List.take_succ_cons, List.take_zero, List.drop_succ_cons, List.drop_zero, List.dropLast_concat, Dl.atI_last, gFdivW_, gJoin_r, joinC_, gUpper_, gRepl_, gInK_, gNinK_, r_ax_or, r_ax_ur, r_ax_pr, r_ax_ol, r_ax_ul, r_ax_pl, r_ax_ct, r_or_ax, r_or_ur, r_or_pr, r_or_ol, r_or_ul, r_or_pl, r_or_ct, r_ur_ax, r_ur_or, r_ur_pr, r_ur_ol, r_ur_ul, r_ur_pl, r_ur_ct, r_pr_ax, r_pr_or, r_pr_ur, r_pr_ol, r_pr_ul, r_pr_pl, r_pr_ct, r_ol_ax, r_ol_or, r_ol_ur, r_ol_pr, r_ol_ul, r_ol_pl, r_ol_ct, r_ul_ax, r_ul_or, r_ul_ur, r_ul_pr, r_ul_ol, r_ul_pl, r_ul_ct, r_pl_ax, r_pl_or, r_pl_ur, r_pl_pr, r_pl_ol, r_pl_ul, r_pl_ct, r_ct_ax, r_ct_or, r_ct_ur, r_ct_pr, r_ct_ol, r_ct_ul, r_ct_pl, q1, q2, q3, q4, q5, q6, e1, e2, e3, gInt_bl, gIs_tn, gIs_nn, gIsN_tn, gIsN_nn, gReverse_r, revC_s, iV_, kVV_t, kVV_r, revI_s, iW_, kW_, gInX_r, gNinX_r, inC_d, gAny_r, anyC_s, gStartsW_, $ls,*])
local macro_rules | `(tactic| walk_at "ev") => `(tactic| simp (disch := first | omega | assumption | (simp only [List.length_cons, List.length_nil, List.length_append, List.length_take, List.length_drop]; omega) | (simp only [List.length_cons, List.length_nil])) only [sQ_, sP_, sE_, sR_, sIf_, sN_, sA_, tgO_nx, nm_, tgIx_, eC_, eV0, eV1, e1_, e2_, eB_, eF_, aN_, aC_, eMt_, eSl_, oN_, oI_, tV_, tE_, tA_, tO_, tN_, eIf_, eAnd_, eOr_, eNot_, eCh_, seq_nx, seq_rt, seq_bk, seq_ct, seq_ex, toR_some, toR_none, toT_some, truD_bl, truD_int, truD_tup, truD_non, truD_str, truD_ref, truC_lst, tyD_str, tyD_tup, tyD_int, tyD_bl, tyD_non, tyD_ref, tyC_lst, tyC_rol, tyC_dic, kE_, kR_, kIf_t, kIf_f, kN_, kA_, kIx1_, kIx2_, kIx3_, kE1_, kE21_, kE2_, kB_, kF_, kC1_, kC_, kM1_, kM2_, kM_, kS1_, kS2_, kS3_, kO_, kV_, kT_, kAn_t, kAn_f, kOr_t, kOr_f, kNo_, kIfE_t, kIfE_f, kVa_, kVa2_t, kVa2_f, kVo_, kVo2_t, kVo2_f, kVn_, kVn2_, kH_, kH1_, kH2_t, kH2_f, kH3_, List.getElem?_cons_zero, List.getElem?_cons_succ, List.set_cons_zero, List.set_cons_succ, gAdd_int, gAdd_str, gAdd_t, gAdd_r, catC_s, gSub_int, gMul_l, gMul_r, gFdiv_int, gMod_int, gLt_int, gLe_int, gGt_int, gGe_int, gInt_int, gAbs_int, gLen_tup, gLen_str, gLen_r, lenC_s, gTpl_, gLsd_, gIx_r, ixC_s, ixO_s, gIx_t, gIx_s, ixS_s, atI_0, atI_1, atI_2, atI_3, atI_4, atI_5, gAppend_r, appC_s, gExtend_r, extC_s, gPop_r, popC_s, gSet_r, setC_0, setC_2, gTuple_r, tupC_s, gTuple_t, gList_r, gList_t, newC_s, gSl_r, slC_s, gSl_t, gSl_s, cut_take, cut_drop, cut_init, cut_mid, Int.toNat_natCast, lstC_lst, lstC_rol, lstAt_C, isi_str, isi_int, isi_bool, isi_tup, isi_lst, isO_s, isB_1, isB_2, isB_3, isB_4, isB_5, isB_6, isB_7, isB_8, isB_9, isB_10, isB_11, isB_12, isB_13, isB_14, isB_15, isB_16, isB_17, isB_18, isB_19, isB_20, isB_21, isB_22, isB_23, isB_24, isB_25, isB_26, gSum_r, sumC_s, sumO_s, gMin_, gMax_, qEq_int, qNe_int, qEq_str, qNe_str, gNeg_z, tgT_, tgU_, tgL0, tgL1, eTab_, kTab_, sX_, tgIxX_, kX1_, kX2_, kX3_, gSetX_r, setX_0, setX_2, setX_s, sPar_, kPar_, eFv_, eGetD_, kG1_, isDic_r, isDC_d, kG1b_, kG2_, kG3_, gGetD_r, getC_s, gMaxL_r, maxC_, gRep_r, repC_, eD0_, gDget_r, dgC_s, List.getElem?_concat_length, set_end, sF_, kFor_, iR1_, kR1_, iR2_, kR2_, kR3_, iA_, kAny_r, kAny_t, kAny_s, iaC_s, eLc_, kLc_, wipeD_c, wipeD_n, tYes_, put_one, sAug_, gAug_i, sBk_, sCt_, sW_, st_len, st_p, st_k, st_0, st_q, st_set_p, st_set_k, st_set_0, st_push, sx_len, sx_k, sx_0, sx_q, sx_set_k, sx_set_0, sx_push, So_rt, So_nx, So_ex, Tn_nx, Tn_ct, Tn_bk, Tn_rt, Tn_ex, Bool.false_eq_true, if_true, if_false, reduceIte, Option.map_some, Option.bind_some, Bool.not_true, Bool.not_false, decide_true, decide_false, eq_self, List.length_append, List.length_singleton, List.length_cons, List.length_nil, List.map_cons, List.map_nil, Nat.sub_self, List.replicate_zero, List.append_nil, List.cons_append, List.nil_append, List.append_assoc, List.replicate_succ, Nat.reduceSub, Nat.reduceAdd, Nat.add_zero, Nat.zero_add, Nat.add_assoc, Nat.reduceLeDiff, Int.natCast_add, Int.cast_ofNat_Int, Int.reduceEq, Int.reduceLT, Int.reduceLE, Int.reduceAdd, Int.reduceSub, Int.reduceNeg, Int.reduceToNat, List.take_succ_cons, List.take_zero, List.drop_succ_cons, List.drop_zero, List.dropLast_concat, Dl.atI_last, gFdivW_, gJoin_r, joinC_, gUpper_, gRepl_, gInK_, gNinK_, r_ax_or, r_ax_ur, r_ax_pr, r_ax_ol, r_ax_ul, r_ax_pl, r_ax_ct, r_or_ax, r_or_ur, r_or_pr, r_or_ol, r_or_ul, r_or_pl, r_or_ct, r_ur_ax, r_ur_or, r_ur_pr, r_ur_ol, r_ur_ul, r_ur_pl, r_ur_ct, r_pr_ax, r_pr_or, r_pr_ur, r_pr_ol, r_pr_ul, r_pr_pl, r_pr_ct, r_ol_ax, r_ol_or, r_ol_ur, r_ol_pr, r_ol_ul, r_ol_pl, r_ol_ct, r_ul_ax, r_ul_or, r_ul_ur, r_ul_pr, r_ul_ol, r_ul_pl, r_ul_ct, r_pl_ax, r_pl_or, r_pl_ur, r_pl_pr, r_pl_ol, r_pl_ul, r_pl_ct, r_ct_ax, r_ct_or, r_ct_ur, r_ct_pr, r_ct_ol, r_ct_ul, r_ct_pl, q1, q2, q3, q4, q5, q6, e1, e2, e3, gInt_bl, gIs_tn, gIs_nn, gIsN_tn, gIsN_nn, gReverse_r, revC_s, iV_, kVV_t, kVV_r, revI_s, iW_, kW_, gInX_r, gNinX_r, inC_d, gAny_r, anyC_s, gStartsW_])
/-! ## loose texts -/
noncomputable def tailLo (F : FN → List D → M D) : SX := (sQ (sF (iR1 (eV 5)) (nm 6) (sN 7 (Dl.e2 gAdd (Dl.e2 gAdd (Dl.e2 gAdd (Dl.e2 gAdd (eC (.str "(")) (eF (F ._law_blanks) (aC (eV 0) aN))) (eV 7)) (eF (F ._law_blanks) (aC (eV 0) aN))) (eC (.str ")")))))
  (sR (eV 7)))
noncomputable def kdLo (F : FN → List D → M D) : SX := (sIf (tV (eB (gIsi .str) (aC (eV 1) (aC (eC (.raw (.ty "str"))) aN)))) (sN 7 (eV 1)) (sQ (sN 9 (eF (F ._law_loose) (aC (eV 0) (aC (Dl.e2 gIx (eV 1) (eC (.int 1))) (aC (eV 2) (aC (eC (.int 1)) aN))))))
  (sQ (sN 10 (eF (F ._law_loose) (aC (eV 0) (aC (Dl.e2 gIx (eV 1) (eC (.int 2))) (aC (eV 2) (aC (eC (.int 1)) aN))))))
  (sQ (sN 7 (Dl.e2 gAdd (Dl.e2 gAdd (Dl.e2 gAdd (Dl.e2 gAdd (eV 9) (eF (F ._law_blanks) (aC (eV 0) aN))) (Dl.e2 gIx (eV 1) (eC (.int 0)))) (eF (F ._law_blanks) (aC (eV 0) aN))) (eV 10)))
  (sN 5 (Dl.e2 gAdd (eV 5) (eV 3)))))))
theorem loose_eq (F : FN → List D → M D) : b__law_loose F = (sQ (sN 4 (eLc [8] (iA (eV 2)) (.one 8) (tE (Dl.e2 gEq (Dl.e2 gIx (eV 8) (eC (.int 1))) (eV 1))) (Dl.e2 gIx (eV 8) (eC (.int 0)))))
  (sQ (sN 5 (Dl.e2 gIx (eB gLsd (aC (eC (.int 0)) (aC (eC (.int 0)) (aC (eC (.int 0)) (aC (eC (.int 1)) (aC (eC (.int 0)) (aC (eC (.int 2)) aN))))))) (eF (F ._law_draw) (aC (eV 0) (aC (eC (.int 6)) aN)))))
  (sQ (sIf (tA (tE (Dl.e2 gGt (eB gLen (aC (eV 4) aN)) (eC (.int 0)))) (tE (Dl.e2 gGt (eF (F ._law_draw) (aC (eV 0) (aC (eC (.int 3)) aN))) (eC (.int 0))))) (sN 7 (Dl.e2 gIx (eV 4) (eF (F ._law_draw) (aC (eV 0) (aC (eB gLen (aC (eV 4) aN)) aN))))) (kdLo F))
  (tailLo F)))) := rfl
/-- the texts that stand for k, short names among prs -/
structure Txo (prs : List (Str × KT)) (k : KT) (b : Prop) (x : Str) : Prop where
  e : ∀ ps, (∀ p ∈ prs, Un ps p.1 p.2) → EOk ps k x.cps.toList
  u : b → ∀ ps, (∀ p ∈ prs, Un ps p.1 p.2) → UOk ps k x.cps.toList
theorem tail_lo (n : Nat) {N p : Nat} {T : Store} {P0 : List D} {L : List Cell} {Q : Dl.R D → Prop} {prs : List (Str × KT)} {k : KT} {b : Prop} {x : Str} {m : Nat} {x1 x2 x3 x4 x6 x8 x9 x10 : Option D} (lp : p < T.length) (hp : Pool N P0) (hN : N + 100 ≤ 900000) (hm : m ≤ 3) (hT : SOK T) (hL : Dl.FL L) (hx : Txo prs k b x) (hl : x.length ≤ 100000)
    (fin : ∀ (y : Str) (P' : List D), Txo prs k (b ∨ 1 ≤ m) y → y.length ≤ x.length + 26 * m → Pool (N + 4 * m) P' → Q (cmp T.length (.str y) (Dl.st T p P' L))) :
    Dl.So T.length Q (tailLo (tab (n + 3)) [some (.ref p), x1, x2, x3, x4, some (.int m), x6, some (.str x), x8, x9, x10] (Dl.st T p P0 L)) := by
  unfold tailLo
  have S0 : ∀ Q', flats Q' = true → SOK (Dl.st T p Q' L) := fun Q' h1 => SOK.st hT h1 hL
  simp_arith []
  refine Dl.forQ (fun j ρ S => ∃ (y : Str) (P' : List D) (v : Option D), Txo prs k (b ∨ 1 ≤ j) y ∧ y.length ≤ x.length + 26 * j ∧ Pool (N + 4 * j) P' ∧ ρ = [some (.ref p), x1, x2, x3, x4, some (.int m), v, some (.str y), x8, x9, x10] ∧ S = Dl.st T p P' L) ⟨x, P0, x6, ⟨hx.e, fun h => hx.u (h.resolve_right (by decide))⟩, Nat.le_refl _, hp, rfl, rfl⟩ ?_ ?_
  · rintro j d _ _ hj ⟨y, P1, v, hy, yl, hp1, rfl, rfl⟩
    obtain ⟨hjm, rfl⟩ := Dl.rng_get hj
    refine ⟨chk_nil, _, _, rfl, ?_⟩
    obtain ⟨m1, P2, a1, hp2, e1⟩ := blanks_t n (Dl.st_p (L := L) lp) hp1 (by omega) (S0 _ hp1.flat)
    obtain ⟨m2, P3, a2, hp3, e2⟩ := blanks_t n (Dl.st_p (L := L) lp) hp2 (by omega) (S0 _ hp2.flat)
    have h2 : ("(" : Str).length = 1 := by decide +kernel
    have h3 : (")" : Str).length = 1 := by decide +kernel
    have b1 := bls_len m1
    have b2 := bls_len m2
    have l0 : ("(" ++ bls m1 : Str).length = 1 + m1 := by rw [app_len, h2, b1]
    have l1 : ("(" ++ bls m1 ++ y : Str).length = 1 + m1 + y.length := by rw [app_len, l0]
    have l2 : ("(" ++ bls m1 ++ y ++ bls m2 : Str).length = 1 + m1 + y.length + m2 := by rw [app_len, l1, b2]
    have l3 : ("(" ++ bls m1 ++ y ++ bls m2 ++ ")" : Str).length = 1 + m1 + y.length + m2 + 1 := by rw [app_len, l2, h3]
    have el : ("(" ++ bls m1 ++ y ++ bls m2 ++ ")" : Str).cps.toList = 40 :: (List.replicate m1 32 ++ y.cps.toList ++ List.replicate m2 32) ++ [41] := by
      simp only [app_list, bls_list]
      rfl
    simp_arith [e1, e2]
    refine ⟨_, P3, _, ⟨fun ps h => ?_, fun _ ps h => ?_⟩, ?_, hp3.mono ?_, rfl, rfl⟩
    · rw [el]
      exact ((hy.e ps h).bl m1 m2).br.E
    · rw [el]
      exact ((hy.e ps h).bl m1 m2).br
    · omega
    · omega
  · rintro _ _ ⟨y, P1, v, hy, yl, hp1, rfl, rfl⟩
    rw [rng_length] at hy yl hp1
    refine ⟨chk_nil, ?_⟩
    simp_arith []
    exact fin y P1 hy yl hp1
theorem deq_kt {a b : KT} (h : deq a.d b.d = true) : a = b := KT.d_inj ((deq_pu (KT.pu a) (KT.pu b)).mp h)
theorem gEq_kt {a b : KT} {S : Store} (h : a.at_.length ≤ 40) : gEq a.d b.d S = some (.bl (deq a.d b.d), S) := gEq_flat (KT.flat a) (KT.flat b) (by have := KT.dep a; omega)
theorem six_len : ([0, 0, 0, 1, 0, 2] : List Int).length = 6 := rfl
theorem ats_len {t : Str} (h : AtS t) : t.length ≤ 15 := by
  obtain ⟨b, m, rfl, hb, h0, h1⟩ := h
  exact atT_len hb h0 h1
theorem loose_t (n : Nat) {p q : Nat} (hqp : q ≠ p) {prs : List (Str × KT)} (hprs : prs.length ≤ 10) (hpk : ∀ p ∈ prs, p.2.at_.length ≤ 40 ∧ Sn2 p.1) : ∀ (m : Nat) (k : KT) (i : Nat) {N : Nat} {T : Store} {P : List D}, k.at_.length ≤ m → m ≤ 40 → k.ok AtS → i ≤ 1 → T[p]? = some (.lst P) → T[q]? = some (.lst (prD prs)) → Pool N P → N + 40 * k.at_.length + 100 ≤ 900000 → SOK T →
    Dl.Sp (tab (n + m + 4) ._law_loose [.ref p, k.d, .ref q, .int i] T) fun r => ∃ (x : Str) (P' : List D), Txo prs k (i = 1) x ∧ x.length + 110 ≤ 200 * k.at_.length ∧ Pool (N + 40 * k.at_.length - 20) P' ∧ r = .ok (.str x) (T.set p (.lst P'))
  | 0, k, _, _, _, _, h, _, _, _, _, _, _, _, _ => by have := KT.pos k; omega
  | m + 1, k, i, N, T, P, hk, hm, ok, hi, h, hq, hp, hN, hT => by
    refine Dl.sp_pool (g := b__law_loose (tab (n + (m + 4)))) rfl h fun lp Q hQ => ?_
    have lq := get_lt hq
    have kp := KT.pos k
    rw [loose_eq]
    have qT : ∀ P' L, (Dl.st T p P' L)[q]? = some (.lst (prD prs)) := fun P' L => by rw [Dl.st_q lq hqp]; exact hq
    obtain ⟨nms, hnm⟩ : ∃ nms, (prs.filter fun p => deq p.2.d k.d).map (·.1) = nms := ⟨_, rfl⟩
    have nlen : nms.length ≤ 10 := by
      rw [← hnm, List.length_map]
      exact Nat.le_trans (List.length_filter_le ..) hprs
    have nun : ∀ y ∈ nms, Sn2 y ∧ ∃ pr ∈ prs, pr.1 = y ∧ pr.2 = k := fun y hy => by
      rw [← hnm] at hy
      obtain ⟨pr, hpr, rfl⟩ := List.mem_map.mp hy
      obtain ⟨h1, h2⟩ := List.mem_filter.mp hpr
      exact ⟨(hpk pr h1).2, pr, h1, rfl, deq_kt h2⟩
    have ec : runC T.length [some (.ref p), some k.d, some (.ref q), some (.int i), none, none, none, none, none, none, none] (.one 8) (tE (Dl.e2 gEq (Dl.e2 gIx (eV 8) (eC (.int 1))) (eV 1))) (Dl.e2 gIx (eV 8) (eC (.int 0))) [(q, prD prs)] (prD prs) (Dl.st T p P [.lst []]) = .ok (.ref T.length) (Dl.st T p P [.lst (sts nms)]) := by
      have := compFS (T := T) (p := p) (P := P) (m := 0) (L := [.lst []]) (ρ := [some (.ref p), some k.d, some (.ref q), some (.int i), none, none, none, none, none, none, none]) (g := .one 8) (ft := tE (Dl.e2 gEq (Dl.e2 gIx (eV 8) (eC (.int 1))) (eV 1))) (fe := Dl.e2 gIx (eV 8) (eC (.int 0))) (k := [(q, prD prs)]) prs (fun p => .tup [.str p.1, p.2.d]) (fun p => .str p.1) (fun p => deq p.2.d k.d) (by omega) rfl (fun a => chk_one (by rw [Dl.lstAt_C, qT]; rfl)) (fun d => rfl) (fun pr hpr => by
        refine ⟨_, rfl, fun a ha => ?_⟩
        have ge := fun S => gEq_kt (a := pr.2) (b := k) (S := S) (hpk pr hpr).1
        constructor
        · simp_arith [ge]
        · intro _
          simp_arith [])
      rw [show ((prs.filter fun p => deq p.2.d k.d).map fun p => D.str p.1) = sts nms by rw [← hnm]; unfold sts; rw [List.map_map]; rfl] at this
      exact this
    have ns := sts_len nms
    have fL : Dl.FL [Dl.Cell.lst (sts nms), .lst [.int 0, .int 0, .int 0, .int 1, .int 0, .int 2]] := .cons (sts_flat _) (.one (c := Dl.Cell.lst _) rfl)
    obtain ⟨d1, P1, hp1, a1, b1, e1⟩ := draw_t (n + m + 2) (many := 6) (Dl.st_p (L := [.lst (sts nms), .lst [.int 0, .int 0, .int 0, .int 1, .int 0, .int 2]]) lp) hp (by omega) (by decide)
    rw [show n + m + 2 + 2 = n + (m + 4) by omega] at e1
    obtain ⟨x, x0, x2, hx⟩ := pick_int (xs := [0, 0, 0, 1, 0, 2]) (lo := 0) (hi := 2) a1 b1 (by decide)
    simp only [List.map_cons, List.map_nil] at hx
    obtain ⟨w, rfl⟩ : ∃ w : Nat, x = w := ⟨x.toNat, by omega⟩
    have fin : ∀ (y : Str) Q' M L, Txo prs k (i = 1) y → y.length + 110 ≤ 200 * k.at_.length → Pool M Q' → M ≤ N + 40 * k.at_.length - 20 → Q (cmp T.length (.str y) (Dl.st T p Q' L)) := fun y Q' M L h1 h2 hq hM => Dl.Qp (hT.wf rfl) (wfs_flat hq.flat) rfl (hQ _ ⟨y, Q', h1, h2, hq.mono hM, rfl⟩)
    have kind : ∀ (P' : List D) M, Pool M P' → M ≤ N + 2 → Dl.So T.length Q ((kdLo (tab (n + (m + 4))) [some (.ref p), some k.d, some (.ref q), some (.int i), some (.ref T.length), some (.int w), none, none, none, none, none] (Dl.st T p P' [.lst (sts nms), .lst [.int 0, .int 0, .int 0, .int 1, .int 0, .int 2]])).seq (tailLo (tab (n + (m + 4))))) := by
      intro P' M hp' hM
      unfold kdLo
      have tl := fun {P0 : List D} {N0 : Nat} {x : Str} {b : Prop} {m0 : Nat} {x9 x10 : Option D} (hp0 : Pool N0 P0) hN0 hm0 (tx : Txo prs k b x) hl f => tail_lo (n + m + 1) (Q := Q) (x1 := some k.d) (x2 := some (.ref q)) (x3 := some (.int i)) (x4 := some (.ref T.length)) (x6 := none) (x8 := none) (x9 := x9) (x10 := x10) (m := m0) lp hp0 hN0 hm0 hT fL tx hl f
      rw [show n + m + 1 + 3 = n + (m + 4) by omega] at tl
      cases k with
      | leaf t =>
        have hl := ats_len ok
        have l1 : (KT.leaf t).at_.length = 1 := rfl
        simp_arith [KTd_leaf, isi_ss]
        rw [KTd_leaf] at tl
        have tx : Txo prs (.leaf t) True t := ⟨fun ps _ => (UOk.un (.inl ⟨ok, rfl⟩)).E, fun _ ps _ => UOk.un (.inl ⟨ok, rfl⟩)⟩
        exact tl hp' (by omega) (show w ≤ 3 by omega) tx (by omega) fun y P' h1 h2 h3 => fin y P' _ _ ⟨h1.e, fun _ => h1.u (.inl trivial)⟩ (by omega) h3 (by omega)
      | node s a b =>
        have pa := KT.pos a
        have pb := KT.pos b
        have ln := KT.len_node (s := s) (a := a) (b := b)
        obtain ⟨x1, P3, tx1, l1, hp3, e3⟩ := loose_t n hqp hprs hpk m a 1 (T := Dl.st T p P' [.lst (sts nms), .lst [.int 0, .int 0, .int 0, .int 1, .int 0, .int 2]]) (by omega) (by omega) ok.2.1 (by omega) (Dl.st_p lp) (qT _ _) hp' (by omega) (SOK.st hT hp'.flat fL)
        obtain ⟨x2, P4, tx2, l2, hp4, e4⟩ := loose_t n hqp hprs hpk m b 1 (T := Dl.st T p P3 [.lst (sts nms), .lst [.int 0, .int 0, .int 0, .int 1, .int 0, .int 2]]) (by omega) (by omega) ok.2.2 (by omega) (Dl.st_p lp) (qT _ _) hp3 (by omega) (SOK.st hT hp3.flat fL)
        rw [show n + m + 4 = n + (m + 4) by omega, show ((1 : Nat) : Int) = 1 from rfl] at e3 e4
        obtain ⟨m1, P5, q1, hp5, e5⟩ := blanks_t (n + m + 1) (Dl.st_p (L := [.lst (sts nms), .lst [.int 0, .int 0, .int 0, .int 1, .int 0, .int 2]]) lp) hp4 (by omega) (SOK.st hT hp4.flat fL)
        obtain ⟨m2, P6, q2, hp6, e6⟩ := blanks_t (n + m + 1) (Dl.st_p (L := [.lst (sts nms), .lst [.int 0, .int 0, .int 0, .int 1, .int 0, .int 2]]) lp) hp5 (by omega) (SOK.st hT hp5.flat fL)
        rw [show n + m + 1 + 3 = n + (m + 4) by omega] at e5 e6
        obtain ⟨c, hc, _⟩ := sg_list ok.1
        have hs : s.length = 1 := by rw [← len_list, hc]; rfl
        have bl1 := bls_len m1
        have bl2 := bls_len m2
        have k1 : (x1 ++ bls m1 : Str).length = x1.length + m1 := by rw [app_len, bl1]
        have k2 : (x1 ++ bls m1 ++ s : Str).length = x1.length + m1 + 1 := by rw [app_len, k1, hs]
        have k3 : (x1 ++ bls m1 ++ s ++ bls m2 : Str).length = x1.length + m1 + 1 + m2 := by rw [app_len, k2, bl2]
        have k4 : (x1 ++ bls m1 ++ s ++ bls m2 ++ x2 : Str).length = x1.length + m1 + 1 + m2 + x2.length := by rw [app_len, k3]
        have tx : Txo prs (.node s a b) False (x1 ++ bls m1 ++ s ++ bls m2 ++ x2) := ⟨fun ps h => by
          have := EOk.node ok.1 (tx1.u rfl ps h) (tx2.u rfl ps h) m1 m2
          simp only [app_list, bls_list]
          exact this, fun h => h.elim⟩
        simp_arith [KTd_node, isi_st, e3, e4, e5, e6]
        rw [KTd_node] at tl
        rw [← Int.natCast_add]
        exact tl (m0 := w + i) hp6 (by omega) (by omega) tx (by omega) fun y P' h1 h2 h3 => fin y P' _ _ ⟨h1.e, fun hi => h1.u (.inr (by omega))⟩ (by omega) h3 (by omega)
    by_cases hz : nms.length = 0
    · have z1 : ¬ (0 : Int) < (nms.length : Int) := by omega
      simp_arith [qT, ec, e1, hx, ns, z1]
      exact kind _ _ hp1 (by omega)
    · have z1 : (0 : Int) < (nms.length : Int) := by omega
      obtain ⟨d2, P2, hp2, a2, b2, e2⟩ := draw_t (n + m + 2) (many := 3) (Dl.st_p (L := [.lst (sts nms), .lst [.int 0, .int 0, .int 0, .int 1, .int 0, .int 2]]) lp) hp1 (by omega) (by decide)
      rw [show n + m + 2 + 2 = n + (m + 4) by omega] at e2
      by_cases h2 : 0 < d2
      · obtain ⟨d3, P3, hp3, a3, b3, e3⟩ := draw_t (n + m + 2) (many := (nms.length : Int)) (Dl.st_p (L := [.lst (sts nms), .lst [.int 0, .int 0, .int 0, .int 1, .int 0, .int 2]]) lp) hp2 (by omega) (by omega) (log_lt (by omega) (by omega))
        rw [show n + m + 2 + 2 = n + (m + 4) by omega] at e3
        obtain ⟨y, hy, hmem⟩ := atI_in (xs := sts nms) a3 (by rw [ns]; exact b3)
        obtain ⟨t, ht, rfl⟩ := List.mem_map.mp hmem
        obtain ⟨hs, pr, hpr, rfl, hpk'⟩ := nun t ht
        simp_arith [qT, ec, e1, hx, ns, z1, e2, h2, e3, hy]
        have tx : Txo prs k True pr.1 := by
          subst hpk'
          exact ⟨fun ps h => (UOk.un (h pr hpr)).E, fun _ ps h => UOk.un (h pr hpr)⟩
        have hl := hs.len
        have tl := tail_lo (n + m + 1) (Q := Q) (x1 := some k.d) (x2 := some (.ref q)) (x3 := some (.int i)) (x4 := some (.ref T.length)) (x6 := none) (x8 := none) (x9 := none) (x10 := none) lp hp3 (by omega) (show w ≤ 3 by omega) hT fL tx (by omega) fun y P' h1 h2 h3 => fin y P' _ _ ⟨h1.e, fun _ => h1.u (.inl trivial)⟩ (by omega) h3 (by omega)
        rw [show n + m + 1 + 3 = n + (m + 4) by omega] at tl
        exact tl
      · simp_arith [qT, ec, e1, hx, ns, z1, e2, h2]
        exact kind _ _ hp2 (by omega)

end Lw

set_option Elab.async false
set_option linter.all false
set_option maxRecDepth 100000
namespace Lw
open PySem L2 Dl
local macro_rules | `(tactic| simp_arith [$ls,*]) => `(tactic| simp (disch := first | omega | assumption | (simp only [List.length_cons, List.length_nil, List.length_append, List.length_take, List.length_drop]; omega) | (simp only [List.length_cons, List.length_nil])) only [sQ_, sP_, sE_, sR_, sIf_, sN_, sA_, tgO_nx, nm_, tgIx_, eC_, eV0, eV1, e1_, e2_, eB_, eF_, aN_, aC_, eMt_, eSl_, oN_, oI_, tV_, tE_, tA_, tO_, tN_, eIf_, eAnd_, eOr_, eNot_, eCh_, seq_nx, seq_rt, seq_bk, seq_ct, seq_ex, toR_some, toR_none, toT_some, truD_bl, truD_int, truD_tup, truD_non, truD_str, truD_ref, truC_lst, tyD_str, tyD_tup, tyD_int, tyD_bl, tyD_non, tyD_ref, tyC_lst, tyC_rol, tyC_dic, kE_, kR_, kIf_t, kIf_f, kN_, kA_, kIx1_, kIx2_, kIx3_, kE1_, kE21_, kE2_, kB_, kF_, kC1_, kC_, kM1_, kM2_, kM_, kS1_, kS2_, kS3_, kO_, kV_, kT_, kAn_t, kAn_f, kOr_t, kOr_f, kNo_, kIfE_t, kIfE_f, kVa_, kVa2_t, kVa2_f, kVo_, kVo2_t, kVo2_f, kVn_, kVn2_, kH_, kH1_, kH2_t, kH2_f, kH3_, List.getElem?_cons_zero, List.getElem?_cons_succ, List.set_cons_zero, List.set_cons_succ, gAdd_int, gAdd_str, gAdd_t, gAdd_r, catC_s, gSub_int, gMul_l, gMul_r, gFdiv_int, gMod_int, gLt_int, gLe_int, gGt_int, gGe_int, gInt_int, gAbs_int, gLen_tup, gLen_str, gLen_r, lenC_s, gTpl_, gLsd_, gIx_r, ixC_s, ixO_s, gIx_t, gIx_s, ixS_s, atI_0, atI_1, atI_2, atI_3, atI_4, atI_5, gAppend_r, appC_s, gExtend_r, extC_s, gPop_r, popC_s, gSet_r, setC_0, setC_2, gTuple_r, tupC_s, gTuple_t, gList_r, gList_t, newC_s, gSl_r, slC_s, gSl_t, gSl_s, cut_take, cut_drop, cut_init, cut_mid, Int.toNat_natCast, lstC_lst, lstC_rol, lstAt_C, isi_str, isi_int, isi_bool, isi_tup, isi_lst, isO_s, isB_1, isB_2, isB_3, isB_4, isB_5, isB_6, isB_7, isB_8, isB_9, isB_10, isB_11, isB_12, isB_13, isB_14, isB_15, isB_16, isB_17, isB_18, isB_19, isB_20, isB_21, isB_22, isB_23, isB_24, isB_25, isB_26, gSum_r, sumC_s, sumO_s, gMin_, gMax_, qEq_int, qNe_int, qEq_str, qNe_str, gNeg_z, tgT_, tgU_, tgL0, tgL1, eTab_, kTab_, sX_, tgIxX_, kX1_, kX2_, kX3_, gSetX_r, setX_0, setX_2, setX_s, sPar_, kPar_, eFv_, eGetD_, kG1_, isDic_r, isDC_d, kG1b_, kG2_, kG3_, gGetD_r, getC_s, gMaxL_r, maxC_, gRep_r, repC_, eD0_, gDget_r, dgC_s, List.getElem?_concat_length, set_end, sF_, kFor_, iR1_, kR1_, iR2_, kR2_, kR3_, iA_, kAny_r, kAny_t, kAny_s, iaC_s, eLc_, kLc_, wipeD_c, wipeD_n, tYes_, put_one, sAug_, gAug_i, sBk_, sCt_, sW_, st_len, st_p, st_k, st_0, st_q, st_set_p, st_set_k, st_set_0, st_push, sx_len, sx_k, sx_0, sx_q, sx_set_k, sx_set_0, sx_push, So_rt, So_nx, So_ex, Tn_nx, Tn_ct, Tn_bk, Tn_rt, Tn_ex, Bool.false_eq_true, if_true, if_false, reduceIte, Option.map_some, Option.bind_some, Bool.not_true, Bool.not_false, decide_true, decide_false, eq_self, List.length_append, List.length_singleton, List.length_cons, List.length_nil, List.map_cons, List.map_nil, Nat.sub_self, List.replicate_zero, List.append_nil, List.cons_append, List.nil_append, List.append_assoc, List.replicate_succ, Nat.reduceSub, Nat.reduceAdd, Nat.add_zero, Nat.zero_add, Nat.add_assoc, Nat.reduceLeDiff, Int.natCast_add, Int.cast_ofNat_Int, Int.reduceEq, Int.reduceLT, Int.reduceLE, Int.reduceAdd, Int.reduceSub, Int.reduceNeg, Int.reduceToNat, List.take_succ_cons, List.take_zero, List.drop_succ_cons, List.drop_zero, List.dropLast_concat, Dl.atI_last, gFdivW_, gJoin_r, joinC_, gUpper_, gRepl_, gInK_, gNinK_, r_ax_or, r_ax_ur, r_ax_pr, r_ax_ol, r_ax_ul, r_ax_pl, r_ax_ct, r_or_ax, r_or_ur, r_or_pr, r_or_ol, r_or_ul, r_or_pl, r_or_ct, r_ur_ax, r_ur_or, r_ur_pr, r_ur_ol, r_ur_ul, r_ur_pl, r_ur_ct, r_pr_ax, r_pr_or, r_pr_ur, r_pr_ol, r_pr_ul, r_pr_pl, r_pr_ct, r_ol_ax, r_ol_or, r_ol_ur, r_ol_pr, r_ol_ul, r_ol_pl, r_ol_ct, r_ul_ax, r_ul_or, r_ul_ur, r_ul_pr, r_ul_ol, r_ul_pl, r_ul_ct, r_pl_ax, r_pl_or, r_pl_ur, r_pl_pr, r_pl_ol, r_pl_ul, r_pl_ct, r_ct_ax, r_ct_or, r_ct_ur, r_ct_pr, r_ct_ol, r_ct_ul, r_ct_pl, q1, q2, q3, q4, q5, q6, e1, e2, e3, gInt_bl, gIs_tn, gIs_nn, gIsN_tn, gIsN_nn, gReverse_r, revC_s, iV_, kVV_t, kVV_r, revI_s, iW_, kW_, gInX_r, gNinX_r, inC_d, gAny_r, anyC_s, gStartsW_, $ls,*])
local macro_rules | `(tactic| walk_at "ev") => `(tactic| simp (disch := first | omega | assumption | (simp only [List.length_cons, List.length_nil, List.length_append, List.length_take, List.length_drop]; omega) | (simp only [List.length_cons, List.length_nil])) only [sQ_, sP_, sE_, sR_, sIf_, sN_, sA_, tgO_nx, nm_, tgIx_, eC_, eV0, eV1, e1_, e2_, eB_, eF_, aN_, aC_, eMt_, eSl_, oN_, oI_, tV_, tE_, tA_, tO_, tN_, eIf_, eAnd_, eOr_, eNot_, eCh_, seq_nx, seq_rt, seq_bk, seq_ct, seq_ex, toR_some, toR_none, toT_some, truD_bl, truD_int, truD_tup, truD_non, truD_str, truD_ref, truC_lst, tyD_str, tyD_tup, tyD_int, tyD_bl, tyD_non, tyD_ref, tyC_lst, tyC_rol, tyC_dic, kE_, kR_, kIf_t, kIf_f, kN_, kA_, kIx1_, kIx2_, kIx3_, kE1_, kE21_, kE2_, kB_, kF_, kC1_, kC_, kM1_, kM2_, kM_, kS1_, kS2_, kS3_, kO_, kV_, kT_, kAn_t, kAn_f, kOr_t, kOr_f, kNo_, kIfE_t, kIfE_f, kVa_, kVa2_t, kVa2_f, kVo_, kVo2_t, kVo2_f, kVn_, kVn2_, kH_, kH1_, kH2_t, kH2_f, kH3_, List.getElem?_cons_zero, List.getElem?_cons_succ, List.set_cons_zero, List.set_cons_succ, gAdd_int, gAdd_str, gAdd_t, gAdd_r, catC_s, gSub_int, gMul_l, gMul_r, gFdiv_int, gMod_int, gLt_int, gLe_int, gGt_int, gGe_int, gInt_int, gAbs_int, gLen_tup, gLen_str, gLen_r, lenC_s, gTpl_, gLsd_, gIx_r, ixC_s, ixO_s, gIx_t, gIx_s, ixS_s, atI_0, atI_1, atI_2, atI_3, atI_4, atI_5, gAppend_r, appC_s, gExtend_r, extC_s, gPop_r, popC_s, gSet_r, setC_0, setC_2, gTuple_r, tupC_s, gTuple_t, gList_r, gList_t, newC_s, gSl_r, slC_s, gSl_t, gSl_s, cut_take, cut_drop, cut_init, cut_mid, Int.toNat_natCast, lstC_lst, lstC_rol, lstAt_C, isi_str, isi_int, isi_bool, isi_tup, isi_lst, isO_s, isB_1, isB_2, isB_3, isB_4, isB_5, isB_6, isB_7, isB_8, isB_9, isB_10, isB_11, isB_12, isB_13, isB_14, isB_15, isB_16, isB_17, isB_18, isB_19, isB_20, isB_21, isB_22, isB_23, isB_24, isB_25, isB_26, gSum_r, sumC_s, sumO_s, gMin_, gMax_, qEq_int, qNe_int, qEq_str, qNe_str, gNeg_z, tgT_, tgU_, tgL0, tgL1, eTab_, kTab_, sX_, tgIxX_, kX1_, kX2_, kX3_, gSetX_r, setX_0, setX_2, setX_s, sPar_, kPar_, eFv_, eGetD_, kG1_, isDic_r, isDC_d, kG1b_, kG2_, kG3_, gGetD_r, getC_s, gMaxL_r, maxC_, gRep_r, repC_, eD0_, gDget_r, dgC_s, List.getElem?_concat_length, set_end, sF_, kFor_, iR1_, kR1_, iR2_, kR2_, kR3_, iA_, kAny_r, kAny_t, kAny_s, iaC_s, eLc_, kLc_, wipeD_c, wipeD_n, tYes_, put_one, sAug_, gAug_i, sBk_, sCt_, sW_, st_len, st_p, st_k, st_0, st_q, st_set_p, st_set_k, st_set_0, st_push, sx_len, sx_k, sx_0, sx_q, sx_set_k, sx_set_0, sx_push, So_rt, So_nx, So_ex, Tn_nx, Tn_ct, Tn_bk, Tn_rt, Tn_ex, Bool.false_eq_true, if_true, if_false, reduceIte, Option.map_some, Option.bind_some, Bool.not_true, Bool.not_false, decide_true, decide_false, eq_self, List.length_append, List.length_singleton, List.length_cons, List.length_nil, List.map_cons, List.map_nil, Nat.sub_self, List.replicate_zero, List.append_nil, List.cons_append, List.nil_append, List.append_assoc, List.replicate_succ, Nat.reduceSub, Nat.reduceAdd, Nat.add_zero, Nat.zero_add, Nat.add_assoc, Nat.reduceLeDiff, Int.natCast_add, Int.cast_ofNat_Int, Int.reduceEq, Int.reduceLT, Int.reduceLE, Int.reduceAdd, Int.reduceSub, Int.reduceNeg, Int.reduceToNat, List.take_succ_cons, List.take_zero, List.drop_succ_cons, List.drop_zero, List.dropLast_concat, Dl.atI_last, gFdivW_, gJoin_r, joinC_, gUpper_, gRepl_, gInK_, gNinK_, r_ax_or, r_ax_ur, r_ax_pr, r_ax_ol, r_ax_ul, r_ax_pl, r_ax_ct, r_or_ax, r_or_ur, r_or_pr, r_or_ol, r_or_ul, r_or_pl, r_or_ct, r_ur_ax, r_ur_or, r_ur_pr, r_ur_ol, r_ur_ul, r_ur_pl, r_ur_ct, r_pr_ax, r_pr_or, r_pr_ur, r_pr_ol, r_pr_ul, r_pr_pl, r_pr_ct, r_ol_ax, r_ol_or, r_ol_ur, r_ol_pr, r_ol_ul, r_ol_pl, r_ol_ct, r_ul_ax, r_ul_or, r_ul_ur, r_ul_pr, r_ul_ol, r_ul_pl, r_ul_ct, r_pl_ax, r_pl_or, r_pl_ur, r_pl_pr, r_pl_ol, r_pl_ul, r_pl_ct, r_ct_ax, r_ct_or, r_ct_ur, r_ct_pr, r_ct_ol, r_ct_ul, r_ct_pl, q1, q2, q3, q4, q5, q6, e1, e2, e3, gInt_bl, gIs_tn, gIs_nn, gIsN_tn, gIsN_nn, gReverse_r, revC_s, iV_, kVV_t, kVV_r, revI_s, iW_, kW_, gInX_r, gNinX_r, inC_d, gAny_r, anyC_s, gStartsW_])
/-! ## room -/
noncomputable def tailRo3 (F : FN → List D → M D) : SX := (sR (Dl.e2 gAdd (Dl.e2 gAdd (Dl.e2 gRepS (eC (.str " ")) (eV 6)) (eV 3)) (Dl.e2 gRepS (eC (.str " ")) (eV 7))))
noncomputable def tailRo2 (F : FN → List D → M D) : SX := (sQ (sN 6 (eB gMin2 (aC (eV 5) (aC (eF (F ._law_draw) (aC (eV 0) (aC (eC (.int 4)) aN))) aN))))
  (sQ (sN 7 (eB gMin2 (aC (Dl.e2 Dl.gSub (eV 5) (eV 6)) (aC (eF (F ._law_draw) (aC (eV 0) (aC (eC (.int 4)) aN))) aN))))
  (sQ (sIf (tE (Dl.e2 gGe (eV 4) (eC (.int 6)))) (sQ (sN 6 (eF (F ._law_draw) (aC (eV 0) (aC (Dl.e2 gAdd (eC (.int 1)) (eV 5)) aN))))
  (sN 7 (Dl.e2 Dl.gSub (eV 5) (eV 6)))) sP)
  (tailRo3 F))))
noncomputable def tailRo1 (F : FN → List D → M D) : SX := (sQ (sN 4 (eF (F ._law_draw) (aC (eV 0) (aC (eC (.int 8)) aN))))
  (sQ (sN 5 (Dl.e2 Dl.gSub (eC (.int 400)) (eB gLen (aC (eV 3) aN))))
  (sQ (sIf (tE (Dl.e2 gEq (eV 4) (eC (.int 7)))) (sQ (sN 8 (eF (F ._law_draw) (aC (eV 0) (aC (Dl.e2 gAdd (eC (.int 1)) (Dl.e2 gFdiv (eV 5) (eC (.int 2)))) aN))))
  (sQ (sN 3 (Dl.e2 gAdd (Dl.e2 gAdd (Dl.e2 gRepS (eC (.str "(")) (eV 8)) (eV 3)) (Dl.e2 gRepS (eC (.str ")")) (eV 8))))
  (sN 5 (Dl.e2 Dl.gSub (eV 5) (Dl.e2 gMul (eC (.int 2)) (eV 8)))))) sP)
  (tailRo2 F))))
theorem room_eq (F : FN → List D → M D) : b__law_room F = (sQ (sN 3 (eV 1))
  (sQ (sIf (tE (Dl.e2 gGt (eB gLen (aC (eV 3) aN)) (eC (.int 400)))) (sN 3 (eV 2)) sP)
  (tailRo1 F))) := rfl
/-- texts that stand for k between brackets -/
def Txe (prs : List (Str × KT)) (k : KT) (x : Str) : Prop := ∀ ps, (∀ p ∈ prs, Un ps p.1 p.2) → EOk ps k x.cps.toList
theorem rep_list {s : Str} {c : Nat} (h : s.cps.toList = [c]) (m : Nat) : (repS s (m : Int)).cps.toList = List.replicate m c := by
  show (List.replicate (m : Int).toNat s.cps.toList).flatten = _
  rw [h, Int.toNat_natCast]
  induction m with
  | zero => rfl
  | succ m ih => rw [List.replicate_succ, List.flatten_cons, ih, List.replicate_succ]; rfl
theorem op_list : ("(" : Str).cps.toList = [40] := by decide +kernel
theorem cl_list : (")" : Str).cps.toList = [41] := by decide +kernel
section
variable {n N p : Nat} {T : Store} {P0 : List D} {Q : Dl.R D → Prop} {prs : List (Str × KT)} {k : KT} {t : Str} {x1 x2 x4 x6 x7 x8 : Option D}
theorem tail_ro3 {r a c : Int} (lp : p < T.length) (hp : Pool N P0) (hT : SOK T) (ht : Txe prs k t) (ha : 0 ≤ a) (hc : 0 ≤ c) (hl : (t.length : Int) + a + c ≤ 400)
    (fin : ∀ (y : Str), Txe prs k y → y.length ≤ 400 → Q (cmp T.length (.str y) (Dl.st T p P0 []))) :
    Dl.So T.length Q (tailRo3 (tab n) [some (.ref p), x1, x2, some (.str t), x4, some (.int r), some (.int a), some (.int c), x8] (Dl.st T p P0 [])) := by
  unfold tailRo3
  obtain ⟨i, rfl⟩ : ∃ i : Nat, a = i := ⟨a.toNat, by omega⟩
  obtain ⟨j, rfl⟩ : ∃ j : Nat, c = j := ⟨c.toNat, by omega⟩
  have l1 : (" " : Str).length ≤ 1024 := by decide +kernel
  have g1 := fun S => gRepS_ (x := " ") (k := (i : Int)) (S := S) (by omega) (by omega) l1
  have g2 := fun S => gRepS_ (x := " ") (k := (j : Int)) (S := S) (by omega) (by omega) l1
  have b1 : (repS " " (i : Int)).length = i := bls_len i
  have b2 : (repS " " (j : Int)).length = j := bls_len j
  have k1 : (repS " " (i : Int) ++ t : Str).length = i + t.length := by rw [app_len, b1]
  have k2 : (repS " " (i : Int) ++ t ++ repS " " (j : Int) : Str).length = i + t.length + j := by rw [app_len, k1, b2]
  simp_arith [g1, g2]
  refine fin _ (fun ps h => ?_) (by omega)
  have := (ht ps h).bl i j
  simp only [app_list]
  rw [rep_list blank_list, rep_list blank_list]
  exact this
theorem tail_ro2 {r w : Int} (lp : p < T.length) (hp : Pool N P0) (hN : N + 10 ≤ 900000) (hT : SOK T) (ht : Txe prs k t) (hr : 0 ≤ r) (hl : (t.length : Int) + r ≤ 400)
    (fin : ∀ (y : Str) P', Txe prs k y → y.length ≤ 400 → Pool (N + 3) P' → Q (cmp T.length (.str y) (Dl.st T p P' []))) :
    Dl.So T.length Q (tailRo2 (tab (n + 2)) [some (.ref p), x1, x2, some (.str t), some (.int w), some (.int r), x6, x7, x8] (Dl.st T p P0 [])) := by
  unfold tailRo2
  obtain ⟨d1, P1, hp1, a1, b1, e1⟩ := draw_t n (many := 4) (Dl.st_p (L := []) lp) hp (by omega) (by decide)
  obtain ⟨d2, P2, hp2, a2, b2, e2⟩ := draw_t n (many := 4) (Dl.st_p (L := []) lp) hp1 (by omega) (by decide)
  obtain ⟨u, hu, u0, u1⟩ : ∃ u : Int, (if d1 < r then d1 else r) = u ∧ 0 ≤ u ∧ u ≤ r := by
    refine ⟨_, rfl, ?_, ?_⟩ <;> split <;> omega
  obtain ⟨v, hv, v0, v1⟩ : ∃ v : Int, (if d2 < r - u then d2 else r - u) = v ∧ 0 ≤ v ∧ v ≤ r - u := by
    refine ⟨_, rfl, ?_, ?_⟩ <;> split <;> omega
  by_cases h6 : 6 ≤ w
  · obtain ⟨d3, P3, hp3, a3, b3, e3⟩ := draw_t n (many := 1 + r) (Dl.st_p (L := []) lp) hp2 (by omega) (by omega) (log_lt (by omega) (by omega))
    simp_arith [e1, hu, e2, hv, h6, e3]
    exact tail_ro3 lp hp3 hT ht (by omega) (by omega) (by omega) fun y h1 h2 => fin y P3 h1 h2 hp3
  · simp_arith [e1, hu, e2, hv, h6]
    exact tail_ro3 lp hp2 hT ht (by omega) (by omega) (by omega) fun y h1 h2 => fin y P2 h1 h2 (hp2.mono (by omega))
theorem tail_ro1 (lp : p < T.length) (hp : Pool N P0) (hN : N + 20 ≤ 900000) (hT : SOK T) (ht : Txe prs k t) (hl : t.length ≤ 400)
    (fin : ∀ (y : Str) P', Txe prs k y → y.length ≤ 400 → Pool (N + 5) P' → Q (cmp T.length (.str y) (Dl.st T p P' []))) :
    Dl.So T.length Q (tailRo1 (tab (n + 2)) [some (.ref p), x1, x2, some (.str t), none, none, none, none, none] (Dl.st T p P0 [])) := by
  unfold tailRo1
  obtain ⟨d1, P1, hp1, a1, b1, e1⟩ := draw_t n (many := 8) (Dl.st_p (L := []) lp) hp (by omega) (by decide)
  by_cases h7 : d1 = 7
  · obtain ⟨d2, P2, hp2, a2, b2, e2⟩ := draw_t n (many := 1 + (400 - (t.length : Int)) / 2) (Dl.st_p (L := []) lp) hp1 (by omega) (by omega) (log_lt (by omega) (by omega))
    obtain ⟨i, rfl⟩ : ∃ i : Nat, d2 = i := ⟨d2.toNat, by omega⟩
    have l1 : ("(" : Str).length ≤ 1024 := by decide +kernel
    have l2 : (")" : Str).length ≤ 1024 := by decide +kernel
    have g1 := fun S => gRepS_ (x := "(") (k := (i : Int)) (S := S) (by omega) (by omega) l1
    have g2 := fun S => gRepS_ (x := ")") (k := (i : Int)) (S := S) (by omega) (by omega) l2
    have b1 : (repS "(" (i : Int)).length = i := by rw [← len_list, rep_list op_list, List.length_replicate]
    have b2 : (repS ")" (i : Int)).length = i := by rw [← len_list, rep_list cl_list, List.length_replicate]
    have k1 : (repS "(" (i : Int) ++ t : Str).length = i + t.length := by rw [app_len, b1]
    have k2 : (repS "(" (i : Int) ++ t ++ repS ")" (i : Int) : Str).length = i + t.length + i := by rw [app_len, k1, b2]
    simp_arith [e1, h7, e2, g1, g2]
    refine tail_ro2 (prs := prs) (k := k) lp hp2 (by omega) hT (fun ps h => ?_) (by omega) (by omega) fun y P' h1 h2 h3 => fin y P' h1 h2 (h3.mono (by omega))
    have := (ht ps h).deep i
    simp only [app_list]
    rw [rep_list op_list, rep_list cl_list]
    exact this
  · simp_arith [e1, h7]
    exact tail_ro2 (prs := prs) (k := k) lp hp1 (by omega) hT ht (by omega) (by omega) fun y P' h1 h2 h3 => fin y P' h1 h2 (h3.mono (by omega))
end
theorem room_t (n : Nat) {N p : Nat} {T : Store} {P : List D} {prs : List (Str × KT)} {k : KT} {x z : Str} (h : T[p]? = some (.lst P)) (hp : Pool N P) (hN : N + 20 ≤ 900000) (hT : SOK T) (hx : Txe prs k x) (hz : Txe prs k z) (hl : z.length ≤ 400) :
    Dl.Sp (tab (n + 3) ._law_room [.ref p, .str x, .str z] T) fun r => ∃ (y : Str) (P' : List D), Txe prs k y ∧ y.length ≤ 400 ∧ Pool (N + 5) P' ∧ r = .ok (.str y) (T.set p (.lst P')) := by
  refine Dl.sp_pool (g := b__law_room (tab (n + 2))) rfl h fun lp Q hQ => ?_
  have fin : ∀ (y : Str) P', Txe prs k y → y.length ≤ 400 → Pool (N + 5) P' → Q (cmp T.length (.str y) (Dl.st T p P' [])) := fun y P' h1 h2 hq => Dl.Qp (hT.wf rfl) (wfs_flat hq.flat) rfl (hQ _ ⟨y, P', h1, h2, hq, rfl⟩)
  rw [room_eq]
  by_cases h4 : (400 : Int) < (x.length : Int)
  · simp_arith [h4]
    exact tail_ro1 lp hp hN hT hz hl fin
  · simp_arith [h4]
    exact tail_ro1 lp hp hN hT hx (by omega) fin

end Lw

set_option Elab.async false
set_option linter.all false
set_option maxRecDepth 100000
namespace Lw
open PySem L2 Dl
local macro_rules | `(tactic| simp_arith [$ls,*]) => `(tactic| simp (disch := first | omega | assumption | (simp only [List.length_cons, List.length_nil, List.length_append, List.length_take, List.length_drop]; omega) | (simp only [List.length_cons, List.length_nil])) only [sQ_, sP_, sE_, sR_, sIf_, sN_, sA_, tgO_nx, nm_, tgIx_, eC_, eV0, eV1, e1_, e2_, eB_, eF_, aN_, aC_, eMt_, eSl_, oN_, oI_, tV_, tE_, tA_, tO_, tN_, eIf_, eAnd_, eOr_, eNot_, eCh_, seq_nx, seq_rt, seq_bk, seq_ct, seq_ex, toR_some, toR_none, toT_some, truD_bl, truD_int, truD_tup, truD_non, truD_str, truD_ref, truC_lst, tyD_str, tyD_tup, tyD_int, tyD_bl, tyD_non, tyD_ref, tyC_lst, tyC_rol, tyC_dic, kE_, kR_, kIf_t, kIf_f, kN_, kA_, kIx1_, kIx2_, kIx3_, kE1_, kE21_, kE2_, kB_, kF_, kC1_, kC_, kM1_, kM2_, kM_, kS1_, kS2_, kS3_, kO_, kV_, kT_, kAn_t, kAn_f, kOr_t, kOr_f, kNo_, kIfE_t, kIfE_f, kVa_, kVa2_t, kVa2_f, kVo_, kVo2_t, kVo2_f, kVn_, kVn2_, kH_, kH1_, kH2_t, kH2_f, kH3_, List.getElem?_cons_zero, List.getElem?_cons_succ, List.set_cons_zero, List.set_cons_succ, gAdd_int, gAdd_str, gAdd_t, gAdd_r, catC_s, gSub_int, gMul_l, gMul_r, gFdiv_int, gMod_int, gLt_int, gLe_int, gGt_int, gGe_int, gInt_int, gAbs_int, gLen_tup, gLen_str, gLen_r, lenC_s, gTpl_, gLsd_, gIx_r, ixC_s, ixO_s, gIx_t, gIx_s, ixS_s, atI_0, atI_1, atI_2, atI_3, atI_4, atI_5, gAppend_r, appC_s, gExtend_r, extC_s, gPop_r, popC_s, gSet_r, setC_0, setC_2, gTuple_r, tupC_s, gTuple_t, gList_r, gList_t, newC_s, gSl_r, slC_s, gSl_t, gSl_s, cut_take, cut_drop, cut_init, cut_mid, Int.toNat_natCast, lstC_lst, lstC_rol, lstAt_C, isi_str, isi_int, isi_bool, isi_tup, isi_lst, isO_s, isB_1, isB_2, isB_3, isB_4, isB_5, isB_6, isB_7, isB_8, isB_9, isB_10, isB_11, isB_12, isB_13, isB_14, isB_15, isB_16, isB_17, isB_18, isB_19, isB_20, isB_21, isB_22, isB_23, isB_24, isB_25, isB_26, gSum_r, sumC_s, sumO_s, gMin_, gMax_, qEq_int, qNe_int, qEq_str, qNe_str, gNeg_z, tgT_, tgU_, tgL0, tgL1, eTab_, kTab_, sX_, tgIxX_, kX1_, kX2_, kX3_, gSetX_r, setX_0, setX_2, setX_s, sPar_, kPar_, eFv_, eGetD_, kG1_, isDic_r, isDC_d, kG1b_, kG2_, kG3_, gGetD_r, getC_s, gMaxL_r, maxC_, gRep_r, repC_, eD0_, gDget_r, dgC_s, List.getElem?_concat_length, set_end, sF_, kFor_, iR1_, kR1_, iR2_, kR2_, kR3_, iA_, kAny_r, kAny_t, kAny_s, iaC_s, eLc_, kLc_, wipeD_c, wipeD_n, tYes_, put_one, sAug_, gAug_i, sBk_, sCt_, sW_, st_len, st_p, st_k, st_0, st_q, st_set_p, st_set_k, st_set_0, st_push, sx_len, sx_k, sx_0, sx_q, sx_set_k, sx_set_0, sx_push, So_rt, So_nx, So_ex, Tn_nx, Tn_ct, Tn_bk, Tn_rt, Tn_ex, Bool.false_eq_true, if_true, if_false, reduceIte, Option.map_some, Option.bind_some, Bool.not_true, Bool.not_false, decide_true, decide_false, eq_self, List.length_append, List.length_singleton, List.length_cons, List.length_nil, List.map_cons, List.map_nil, Nat.sub_self, List.replicate_zero, List.append_nil, List.cons_append, List.nil_append, List.append_assoc, List.replicate_succ, Nat.reduceSub, Nat.reduceAdd, Nat.add_zero, Nat.zero_add, Nat.add_assoc, Nat.reduceLeDiff, Int.natCast_add, Int.cast_ofNat_Int, Int.reduceEq, Int.reduceLT, Int.reduceLE, Int.reduceAdd, Int.reduceSub, Int.reduceNeg, Int.reduceToNat, List.take_succ_cons, List.take_zero, List.drop_succ_cons, List.drop_zero, List.dropLast_concat, Dl.atI_last, gFdivW_, gJoin_r, joinC_, gUpper_, gRepl_, gInK_, gNinK_, r_ax_or, r_ax_ur, r_ax_pr, r_ax_ol, r_ax_ul, r_ax_pl, r_ax_ct, r_or_ax, r_or_ur, r_or_pr, r_or_ol, r_or_ul, r_or_pl, r_or_ct, r_ur_ax, r_ur_or, r_ur_pr, r_ur_ol, r_ur_ul, r_ur_pl, r_ur_ct, r_pr_ax, r_pr_or, r_pr_ur, r_pr_ol, r_pr_ul, r_pr_pl, r_pr_ct, r_ol_ax, r_ol_or, r_ol_ur, r_ol_pr, r_ol_ul, r_ol_pl, r_ol_ct, r_ul_ax, r_ul_or, r_ul_ur, r_ul_pr, r_ul_ol, r_ul_pl, r_ul_ct, r_pl_ax, r_pl_or, r_pl_ur, r_pl_pr, r_pl_ol, r_pl_ul, r_pl_ct, r_ct_ax, r_ct_or, r_ct_ur, r_ct_pr, r_ct_ol, r_ct_ul, r_ct_pl, q1, q2, q3, q4, q5, q6, e1, e2, e3, gInt_bl, gIs_tn, gIs_nn, gIsN_tn, gIsN_nn, gReverse_r, revC_s, iV_, kVV_t, kVV_r, revI_s, iW_, kW_, gInX_r, gNinX_r, inC_d, gAny_r, anyC_s, gStartsW_, $ls,*])
local macro_rules | `(tactic| walk_at "ev") => `(tactic| simp (disch := first | omega | assumption | (simp only [List.length_cons, List.length_nil, List.length_append, List.length_take, List.length_drop]; omega) | (simp only [List.length_cons, List.length_nil])) only [sQ_, sP_, sE_, sR_, sIf_, sN_, sA_, tgO_nx, nm_, tgIx_, eC_, eV0, eV1, e1_, e2_, eB_, eF_, aN_, aC_, eMt_, eSl_, oN_, oI_, tV_, tE_, tA_, tO_, tN_, eIf_, eAnd_, eOr_, eNot_, eCh_, seq_nx, seq_rt, seq_bk, seq_ct, seq_ex, toR_some, toR_none, toT_some, truD_bl, truD_int, truD_tup, truD_non, truD_str, truD_ref, truC_lst, tyD_str, tyD_tup, tyD_int, tyD_bl, tyD_non, tyD_ref, tyC_lst, tyC_rol, tyC_dic, kE_, kR_, kIf_t, kIf_f, kN_, kA_, kIx1_, kIx2_, kIx3_, kE1_, kE21_, kE2_, kB_, kF_, kC1_, kC_, kM1_, kM2_, kM_, kS1_, kS2_, kS3_, kO_, kV_, kT_, kAn_t, kAn_f, kOr_t, kOr_f, kNo_, kIfE_t, kIfE_f, kVa_, kVa2_t, kVa2_f, kVo_, kVo2_t, kVo2_f, kVn_, kVn2_, kH_, kH1_, kH2_t, kH2_f, kH3_, List.getElem?_cons_zero, List.getElem?_cons_succ, List.set_cons_zero, List.set_cons_succ, gAdd_int, gAdd_str, gAdd_t, gAdd_r, catC_s, gSub_int, gMul_l, gMul_r, gFdiv_int, gMod_int, gLt_int, gLe_int, gGt_int, gGe_int, gInt_int, gAbs_int, gLen_tup, gLen_str, gLen_r, lenC_s, gTpl_, gLsd_, gIx_r, ixC_s, ixO_s, gIx_t, gIx_s, ixS_s, atI_0, atI_1, atI_2, atI_3, atI_4, atI_5, gAppend_r, appC_s, gExtend_r, extC_s, gPop_r, popC_s, gSet_r, setC_0, setC_2, gTuple_r, tupC_s, gTuple_t, gList_r, gList_t, newC_s, gSl_r, slC_s, gSl_t, gSl_s, cut_take, cut_drop, cut_init, cut_mid, Int.toNat_natCast, lstC_lst, lstC_rol, lstAt_C, isi_str, isi_int, isi_bool, isi_tup, isi_lst, isO_s, isB_1, isB_2, isB_3, isB_4, isB_5, isB_6, isB_7, isB_8, isB_9, isB_10, isB_11, isB_12, isB_13, isB_14, isB_15, isB_16, isB_17, isB_18, isB_19, isB_20, isB_21, isB_22, isB_23, isB_24, isB_25, isB_26, gSum_r, sumC_s, sumO_s, gMin_, gMax_, qEq_int, qNe_int, qEq_str, qNe_str, gNeg_z, tgT_, tgU_, tgL0, tgL1, eTab_, kTab_, sX_, tgIxX_, kX1_, kX2_, kX3_, gSetX_r, setX_0, setX_2, setX_s, sPar_, kPar_, eFv_, eGetD_, kG1_, isDic_r, isDC_d, kG1b_, kG2_, kG3_, gGetD_r, getC_s, gMaxL_r, maxC_, gRep_r, repC_, eD0_, gDget_r, dgC_s, List.getElem?_concat_length, set_end, sF_, kFor_, iR1_, kR1_, iR2_, kR2_, kR3_, iA_, kAny_r, kAny_t, kAny_s, iaC_s, eLc_, kLc_, wipeD_c, wipeD_n, tYes_, put_one, sAug_, gAug_i, sBk_, sCt_, sW_, st_len, st_p, st_k, st_0, st_q, st_set_p, st_set_k, st_set_0, st_push, sx_len, sx_k, sx_0, sx_q, sx_set_k, sx_set_0, sx_push, So_rt, So_nx, So_ex, Tn_nx, Tn_ct, Tn_bk, Tn_rt, Tn_ex, Bool.false_eq_true, if_true, if_false, reduceIte, Option.map_some, Option.bind_some, Bool.not_true, Bool.not_false, decide_true, decide_false, eq_self, List.length_append, List.length_singleton, List.length_cons, List.length_nil, List.map_cons, List.map_nil, Nat.sub_self, List.replicate_zero, List.append_nil, List.cons_append, List.nil_append, List.append_assoc, List.replicate_succ, Nat.reduceSub, Nat.reduceAdd, Nat.add_zero, Nat.zero_add, Nat.add_assoc, Nat.reduceLeDiff, Int.natCast_add, Int.cast_ofNat_Int, Int.reduceEq, Int.reduceLT, Int.reduceLE, Int.reduceAdd, Int.reduceSub, Int.reduceNeg, Int.reduceToNat, List.take_succ_cons, List.take_zero, List.drop_succ_cons, List.drop_zero, List.dropLast_concat, Dl.atI_last, gFdivW_, gJoin_r, joinC_, gUpper_, gRepl_, gInK_, gNinK_, r_ax_or, r_ax_ur, r_ax_pr, r_ax_ol, r_ax_ul, r_ax_pl, r_ax_ct, r_or_ax, r_or_ur, r_or_pr, r_or_ol, r_or_ul, r_or_pl, r_or_ct, r_ur_ax, r_ur_or, r_ur_pr, r_ur_ol, r_ur_ul, r_ur_pl, r_ur_ct, r_pr_ax, r_pr_or, r_pr_ur, r_pr_ol, r_pr_ul, r_pr_pl, r_pr_ct, r_ol_ax, r_ol_or, r_ol_ur, r_ol_pr, r_ol_ul, r_ol_pl, r_ol_ct, r_ul_ax, r_ul_or, r_ul_ur, r_ul_pr, r_ul_ol, r_ul_pl, r_ul_ct, r_pl_ax, r_pl_or, r_pl_ur, r_pl_pr, r_pl_ol, r_pl_ul, r_pl_ct, r_ct_ax, r_ct_or, r_ct_ur, r_ct_pr, r_ct_ol, r_ct_ul, r_ct_pl, q1, q2, q3, q4, q5, q6, e1, e2, e3, gInt_bl, gIs_tn, gIs_nn, gIsN_tn, gIsN_nn, gReverse_r, revC_s, iV_, kVV_t, kVV_r, revI_s, iW_, kW_, gInX_r, gNinX_r, inC_d, gAny_r, anyC_s, gStartsW_])
/-! ## two names, one longer -/
theorem gNe_self {d : D} {S : Store} (hf : d.flat = true) (hd : d.dep ≤ 64) (hr : deq d d = true) : gNe d d S = some (.bl false, S) := by
  unfold gNe
  rw [gEqB_flat hf hf hd, hr]
  rfl
theorem deq_kk (k : KT) : deq k.d k.d = true := (deq_pu (KT.pu k) (KT.pu k)).mpr rfl
theorem gNe_kt {k : KT} {S : Store} (h : k.at_.length ≤ 40) : gNe k.d k.d S = some (.bl false, S) := gNe_self (KT.flat k) (by have := KT.dep k; omega) (deq_kk k)
theorem bnd_ok {α β : Type} {x : α} {S : Store} {g : α → Store → Dl.R β} : (Dl.R.ok x S).bind g = g x S := Dl.nr rfl
theorem both_un {s l : Str} {a b : KT} (hs : Sn2 s) (hl : Sn2 l) (hn : s ≠ l) {ps : List (Str × KT)} (h : ps = [(s, a), (l, b)] ∨ ps = [(l, b), (s, a)]) : Un ps s a ∧ Un ps l b ∧ Nms ps := by
  have m1 : (s, a) ∈ ps := by rcases h with rfl | rfl <;> simp
  have m2 : (l, b) ∈ ps := by rcases h with rfl | rfl <;> simp
  have mem : ∀ p ∈ ps, p = (s, a) ∨ p = (l, b) := by
    intro p hp
    rcases h with rfl | rfl
    · simpa using hp
    · have : p = (l, b) ∨ p = (s, a) := by simpa using hp
      exact this.symm
  refine ⟨.inr ⟨hs, m1, fun p hp e => ?_⟩, .inr ⟨hl, m2, fun p hp e => ?_⟩, fun p hp => ?_, ?_⟩
  · rcases mem p hp with rfl | rfl
    · rfl
    · exact absurd e.symm hn
  · rcases mem p hp with rfl | rfl
    · exact absurd e hn
    · rfl
  · rcases mem p hp with rfl | rfl
    · exact hs
    · exact hl
  · rcases h with rfl | rfl <;> (show 2 ≤ 1000; decide)
theorem both_t (n : Nat) {N p : Nat} {T : Store} {P : List D} {a b : Str} (h : T[p]? = some (.lst P)) (hp : Pool N P) (hN : N + 50 ≤ 900000) (hT : SOK T) (ha : AtS a) (hb : AtS b) :
    Dl.Sp (tab (n + 43) ._law_both_names [.ref p, .str a, .str b] T) fun r => ∃ P', Pool (N + 20) P' ∧ r = .ok (.bl true) (T.set p (.lst P')) := by
  refine Dl.sp_pool (g := b__law_both_names (tab (n + 42))) rfl h fun lp Q hQ => ?_
  have fin : ∀ Q' M L, Pool M Q' → M ≤ N + 20 → Q (cmp T.length (.bl true) (Dl.st T p Q' L)) := fun Q' M L hq hM => Dl.Qp (hT.wf rfl) (wfs_flat hq.flat) rfl (hQ _ ⟨Q', hq.mono hM, rfl⟩)
  unfold b__law_both_names
  have lt := letters_t (n + 41)
  have l26 := small_len
  obtain ⟨d1, P1, hp1, a1, b1, e1⟩ := draw_t (n + 40) (many := 26) (Dl.st_p (L := []) lp) hp (by omega) (by decide)
  obtain ⟨c, hc, hcs⟩ := atI_in (xs := ("ABCDEFGHIJKLMNOPQRSTUVWXYZ" : Str).cps.toList) a1 (by rw [up26_len]; exact b1)
  obtain ⟨d2, P2, hp2, a2, b2, e2⟩ := draw_t (n + 40) (many := 7) (Dl.st_p (L := []) lp) hp1 (by omega) (by decide)
  simp_arith [e1, hc, e2]
  refine Dl.forQ (fun j ρ S => ∃ s P' v, Pool (N + 2 + j) P' ∧ (∃ c r, s.cps.toList = c :: r ∧ c ∈ UP ∧ ∀ x ∈ r, x ∈ LO) ∧ s.length = 1 + j ∧ ρ = [some (.ref p), some (.str a), some (.str b), some (.str s), v, none, none, none] ∧ S = Dl.st T p P' [])
    ⟨_, P2, none, hp2, ⟨c, [], rfl, hcs, (fun _ h => nomatch h)⟩, rfl, rfl, rfl⟩ ?_ ?_
  · rintro j d _ _ hj ⟨s, P3, v, hp3, ⟨y, r, h1, h2, h3⟩, hl, rfl, rfl⟩
    obtain ⟨hj, rfl⟩ := Dl.rng_get hj
    refine ⟨chk_nil, _, _, rfl, ?_⟩
    obtain ⟨d3, P4, hp4, a3, b3, e3⟩ := draw_t (n + 40) (many := 26) (Dl.st_p (L := []) lp) hp3 (by omega) (by decide)
    obtain ⟨c3, hc3, hm3⟩ := atI_in (xs := ("abcdefghijklmnopqrstuvwxyz" : Str).cps.toList) a3 (by rw [small26_len]; exact b3)
    have c2 : (⟨#[c3]⟩ : Str).length = 1 := rfl
    simp_arith [lt, e3, hc3]
    refine ⟨_, P4, _, hp4.mono (by omega), ⟨y, r ++ [c3], by rw [app_list, h1]; rfl, h2, fun z hz => ?_⟩, ?_, rfl, rfl⟩
    · rcases List.mem_append.mp hz with q | q
      · exact h3 z q
      · rw [List.mem_singleton.mp q]; exact hm3
    · rw [app_len, c2]; omega
  · rintro _ _ ⟨s, P3, v, hp3, ⟨y, r, h1, h2, h3⟩, hl, rfl, rfl⟩
    rw [rng_length] at hl hp3
    refine ⟨chk_nil, ?_⟩
    obtain ⟨d3, P4, hp4, a3, b3, e3⟩ := draw_t (n + 40) (many := 26) (Dl.st_p (L := []) lp) hp3 (by omega) (by decide)
    obtain ⟨c3, hc3, hm3⟩ := atI_in (xs := ("abcdefghijklmnopqrstuvwxyz" : Str).cps.toList) a3 (by rw [small26_len]; exact b3)
    have c2 : (⟨#[c3]⟩ : Str).length = 1 := rfl
    have k0 : (s ++ ⟨#[c3]⟩ : Str).length = s.length + 1 := by rw [app_len, c2]
    have hs : Sn2 s := ⟨⟨y, r, h1, h2, h3⟩, by omega⟩
    have hl2 : Sn2 (s ++ ⟨#[c3]⟩) := ⟨⟨y, r ++ [c3], by rw [app_list, h1]; rfl, h2, fun z hz => (List.mem_append.mp hz).elim (h3 z) fun q => by rw [List.mem_singleton.mp q]; exact hm3⟩, by omega⟩
    have hne : s ≠ s ++ ⟨#[c3]⟩ := fun e => by have := congrArg Str.length e; omega
    have S0 : ∀ Q' L, flats Q' = true → Dl.FL L → SOK (Dl.st T p Q' L) := fun Q' L h1 h2 => SOK.st hT h1 h2
    obtain ⟨m1, P5, q1, hp5, e5⟩ := blanks_t (n + 39) (Dl.st_p (L := []) lp) hp4 (by omega) (S0 _ _ hp4.flat .nil)
    obtain ⟨m2, P6, q2, hp6, e6⟩ := blanks_t (n + 39) (Dl.st_p (L := []) lp) hp5 (by omega) (S0 _ _ hp5.flat .nil)
    generalize hlo : s ++ ⟨#[c3]⟩ = l at *
    have hst : ("*" : Str).length = 1 := by decide +kernel
    have bl1 := bls_len m1
    have bl2 := bls_len m2
    have k1 : (l ++ bls m1 : Str).length = l.length + m1 := by rw [app_len, bl1]
    have k2 : (l ++ bls m1 ++ "*" : Str).length = l.length + m1 + 1 := by rw [app_len, k1, hst]
    have k3 : (l ++ bls m1 ++ "*" ++ bls m2 : Str).length = l.length + m1 + 1 + m2 := by rw [app_len, k2, bl2]
    have k4 : (l ++ bls m1 ++ "*" ++ bls m2 ++ s : Str).length = l.length + m1 + 1 + m2 + s.length := by rw [app_len, k3]
    have par : ∀ (L : List Cell), Dl.FL L → ∀ ps, (ps = [(s, .leaf a), (l, .leaf b)] ∨ ps = [(l, .leaf b), (s, .leaf a)]) →
        tab (n + 42) .parse_kind [.str (l ++ bls m1 ++ "*" ++ bls m2 ++ s), shD ps] (Dl.st T p P6 L) = .ok (.tup [.str "*", .str b, .str a]) (Dl.st T p P6 L) ∧ tab (n + 42) .parse_kind [.str s, shD ps] (Dl.st T p P6 L) = .ok (.str a) (Dl.st T p P6 L) := fun L hL ps hps => by
      obtain ⟨u1, u2, nms⟩ := both_un (a := .leaf a) (b := .leaf b) hs hl2 hne hps
      have ok := S0 P6 L hp6.flat hL
      constructor
      · have e := EOk.node (s := "*") (.inr (.inr rfl)) (UOk.un u2) (UOk.un u1) m1 m2
        have := parse_t n (t := l ++ bls m1 ++ "*" ++ bls m2 ++ s) (K := .node "*" (.leaf b) (.leaf a)) nms (by
          simp only [app_list, bls_list]
          exact e.acc) (by omega) (by show 2 ≤ 40; decide) ok
        rw [KTd_node, KTd_leaf, KTd_leaf] at this
        exact this
      · have := parse_t n (t := s) (K := .leaf a) nms (UOk.un u1).E.acc (by omega) (by show 1 ≤ 40; decide) ok
        rw [KTd_leaf] at this
        exact this
    simp_arith [lt, e3, hc3, hlo, e5, e6]
    have fL : Dl.FL [Dl.Cell.lst [.tup [.tup [.str s, .str a], .tup [.str l, .str b]], .tup [.tup [.str l, .str b], .tup [.str s, .str a]]]] := .one (c := Dl.Cell.lst _) rfl
    obtain ⟨A1, A2⟩ := par _ fL [(s, .leaf a), (l, .leaf b)] (.inl rfl)
    obtain ⟨B1, B2⟩ := par _ fL [(l, .leaf b), (s, .leaf a)] (.inr rfl)
    rw [show shD [(s, .leaf a), (l, .leaf b)] = .tup [.tup [.str s, .str a], .tup [.str l, .str b]] from rfl] at A1 A2
    rw [show shD [(l, .leaf b), (s, .leaf a)] = .tup [.tup [.str l, .str b], .tup [.str s, .str a]] from rfl] at B1 B2
    have gn := fun S => gNe_kt (k := .node "*" (.leaf b) (.leaf a)) (S := S) (by show 2 ≤ 40; decide)
    simp only [KTd_node, KTd_leaf] at gn
    have ck : chkOk [(T.length, [D.tup [D.tup [D.str s, D.str a], D.tup [D.str l, D.str b]], D.tup [D.tup [D.str l, D.str b], D.tup [D.str s, D.str a]]])] (Dl.st T p P6 [Dl.Cell.lst [.tup [.tup [.str s, .str a], .tup [.str l, .str b]], .tup [.tup [.str l, .str b], .tup [.str s, .str a]]]]) := chk_one (by rw [Dl.lstAt_C, Dl.st_0]; rfl)
    refine Dl.forQ (fun j ρ S => ∃ v7 : Option D, ρ = [some (.ref p), some (.str a), some (.str b), some (.str s), v, some (.str l), some (.str (l ++ bls m1 ++ "*" ++ bls m2 ++ s)), v7] ∧ S = Dl.st T p P6 [Dl.Cell.lst [.tup [.tup [.str s, .str a], .tup [.str l, .str b]], .tup [.tup [.str l, .str b], .tup [.str s, .str a]]]]) ⟨none, rfl, rfl⟩ ?_ ?_
    · rintro j d _ _ hj ⟨v7, rfl, rfl⟩
      have hd := List.mem_of_getElem? hj
      simp only [List.mem_cons, List.not_mem_nil, or_false] at hd
      refine ⟨ck, _, _, rfl, ?_⟩
      rcases hd with rfl | rfl
      · simp_arith [aK_, bnd_ok, A1, A2, gn]
        exact ⟨_, rfl, trivial⟩
      · simp_arith [aK_, bnd_ok, B1, B2, gn]
        exact ⟨_, rfl, trivial⟩
    · rintro _ _ ⟨v7, rfl, rfl⟩
      refine ⟨ck, ?_⟩
      simp_arith []
      exact fin P6 _ _ hp6 (by omega)

end Lw

set_option Elab.async false
set_option linter.all false
set_option maxRecDepth 100000
namespace Lw
open PySem L2 Dl
local macro_rules | `(tactic| simp_arith [$ls,*]) => `(tactic| simp (disch := first | omega | assumption | (simp only [List.length_cons, List.length_nil, List.length_append, List.length_take, List.length_drop]; omega) | (simp only [List.length_cons, List.length_nil])) only [sQ_, sP_, sE_, sR_, sIf_, sN_, sA_, tgO_nx, nm_, tgIx_, eC_, eV0, eV1, e1_, e2_, eB_, eF_, aN_, aC_, eMt_, eSl_, oN_, oI_, tV_, tE_, tA_, tO_, tN_, eIf_, eAnd_, eOr_, eNot_, eCh_, seq_nx, seq_rt, seq_bk, seq_ct, seq_ex, toR_some, toR_none, toT_some, truD_bl, truD_int, truD_tup, truD_non, truD_str, truD_ref, truC_lst, tyD_str, tyD_tup, tyD_int, tyD_bl, tyD_non, tyD_ref, tyC_lst, tyC_rol, tyC_dic, kE_, kR_, kIf_t, kIf_f, kN_, kA_, kIx1_, kIx2_, kIx3_, kE1_, kE21_, kE2_, kB_, kF_, kC1_, kC_, kM1_, kM2_, kM_, kS1_, kS2_, kS3_, kO_, kV_, kT_, kAn_t, kAn_f, kOr_t, kOr_f, kNo_, kIfE_t, kIfE_f, kVa_, kVa2_t, kVa2_f, kVo_, kVo2_t, kVo2_f, kVn_, kVn2_, kH_, kH1_, kH2_t, kH2_f, kH3_, List.getElem?_cons_zero, List.getElem?_cons_succ, List.set_cons_zero, List.set_cons_succ, gAdd_int, gAdd_str, gAdd_t, gAdd_r, catC_s, gSub_int, gMul_l, gMul_r, gFdiv_int, gMod_int, gLt_int, gLe_int, gGt_int, gGe_int, gInt_int, gAbs_int, gLen_tup, gLen_str, gLen_r, lenC_s, gTpl_, gLsd_, gIx_r, ixC_s, ixO_s, gIx_t, gIx_s, ixS_s, atI_0, atI_1, atI_2, atI_3, atI_4, atI_5, gAppend_r, appC_s, gExtend_r, extC_s, gPop_r, popC_s, gSet_r, setC_0, setC_2, gTuple_r, tupC_s, gTuple_t, gList_r, gList_t, newC_s, gSl_r, slC_s, gSl_t, gSl_s, cut_take, cut_drop, cut_init, cut_mid, Int.toNat_natCast, lstC_lst, lstC_rol, lstAt_C, isi_str, isi_int, isi_bool, isi_tup, isi_lst, isO_s, isB_1, isB_2, isB_3, isB_4, isB_5, isB_6, isB_7, isB_8, isB_9, isB_10, isB_11, isB_12, isB_13, isB_14, isB_15, isB_16, isB_17, isB_18, isB_19, isB_20, isB_21, isB_22, isB_23, isB_24, isB_25, isB_26, gSum_r, sumC_s, sumO_s, gMin_, gMax_, qEq_int, qNe_int, qEq_str, qNe_str, gNeg_z, tgT_, tgU_, tgL0, tgL1, eTab_, kTab_, sX_, tgIxX_, kX1_, kX2_, kX3_, gSetX_r, setX_0, setX_2, setX_s, sPar_, kPar_, eFv_, eGetD_, kG1_, isDic_r, isDC_d, kG1b_, kG2_, kG3_, gGetD_r, getC_s, gMaxL_r, maxC_, gRep_r, repC_, eD0_, gDget_r, dgC_s, List.getElem?_concat_length, set_end, sF_, kFor_, iR1_, kR1_, iR2_, kR2_, kR3_, iA_, kAny_r, kAny_t, kAny_s, iaC_s, eLc_, kLc_, wipeD_c, wipeD_n, tYes_, put_one, sAug_, gAug_i, sBk_, sCt_, sW_, st_len, st_p, st_k, st_0, st_q, st_set_p, st_set_k, st_set_0, st_push, sx_len, sx_k, sx_0, sx_q, sx_set_k, sx_set_0, sx_push, So_rt, So_nx, So_ex, Tn_nx, Tn_ct, Tn_bk, Tn_rt, Tn_ex, Bool.false_eq_true, if_true, if_false, reduceIte, Option.map_some, Option.bind_some, Bool.not_true, Bool.not_false, decide_true, decide_false, eq_self, List.length_append, List.length_singleton, List.length_cons, List.length_nil, List.map_cons, List.map_nil, Nat.sub_self, List.replicate_zero, List.append_nil, List.cons_append, List.nil_append, List.append_assoc, List.replicate_succ, Nat.reduceSub, Nat.reduceAdd, Nat.add_zero, Nat.zero_add, Nat.add_assoc, Nat.reduceLeDiff, Int.natCast_add, Int.cast_ofNat_Int, Int.reduceEq, Int.reduceLT, Int.reduceLE, Int.reduceAdd, Int.reduceSub, Int.reduceNeg, Int.reduceToNat, List.take_succ_cons, List.take_zero, List.drop_succ_cons, List.drop_zero, List.dropLast_concat, Dl.atI_last, gFdivW_, gJoin_r, joinC_, gUpper_, gRepl_, gInK_, gNinK_, r_ax_or, r_ax_ur, r_ax_pr, r_ax_ol, r_ax_ul, r_ax_pl, r_ax_ct, r_or_ax, r_or_ur, r_or_pr, r_or_ol, r_or_ul, r_or_pl, r_or_ct, r_ur_ax, r_ur_or, r_ur_pr, r_ur_ol, r_ur_ul, r_ur_pl, r_ur_ct, r_pr_ax, r_pr_or, r_pr_ur, r_pr_ol, r_pr_ul, r_pr_pl, r_pr_ct, r_ol_ax, r_ol_or, r_ol_ur, r_ol_pr, r_ol_ul, r_ol_pl, r_ol_ct, r_ul_ax, r_ul_or, r_ul_ur, r_ul_pr, r_ul_ol, r_ul_pl, r_ul_ct, r_pl_ax, r_pl_or, r_pl_ur, r_pl_pr, r_pl_ol, r_pl_ul, r_pl_ct, r_ct_ax, r_ct_or, r_ct_ur, r_ct_pr, r_ct_ol, r_ct_ul, r_ct_pl, q1, q2, q3, q4, q5, q6, e1, e2, e3, gInt_bl, gIs_tn, gIs_nn, gIsN_tn, gIsN_nn, gReverse_r, revC_s, iV_, kVV_t, kVV_r, revI_s, iW_, kW_, gInX_r, gNinX_r, inC_d, gAny_r, anyC_s, gStartsW_, $ls,*])
local macro_rules | `(tactic| walk_at "ev") => `(tactic| simp (disch := first | omega | assumption | (simp only [List.length_cons, List.length_nil, List.length_append, List.length_take, List.length_drop]; omega) | (simp only [List.length_cons, List.length_nil])) only [sQ_, sP_, sE_, sR_, sIf_, sN_, sA_, tgO_nx, nm_, tgIx_, eC_, eV0, eV1, e1_, e2_, eB_, eF_, aN_, aC_, eMt_, eSl_, oN_, oI_, tV_, tE_, tA_, tO_, tN_, eIf_, eAnd_, eOr_, eNot_, eCh_, seq_nx, seq_rt, seq_bk, seq_ct, seq_ex, toR_some, toR_none, toT_some, truD_bl, truD_int, truD_tup, truD_non, truD_str, truD_ref, truC_lst, tyD_str, tyD_tup, tyD_int, tyD_bl, tyD_non, tyD_ref, tyC_lst, tyC_rol, tyC_dic, kE_, kR_, kIf_t, kIf_f, kN_, kA_, kIx1_, kIx2_, kIx3_, kE1_, kE21_, kE2_, kB_, kF_, kC1_, kC_, kM1_, kM2_, kM_, kS1_, kS2_, kS3_, kO_, kV_, kT_, kAn_t, kAn_f, kOr_t, kOr_f, kNo_, kIfE_t, kIfE_f, kVa_, kVa2_t, kVa2_f, kVo_, kVo2_t, kVo2_f, kVn_, kVn2_, kH_, kH1_, kH2_t, kH2_f, kH3_, List.getElem?_cons_zero, List.getElem?_cons_succ, List.set_cons_zero, List.set_cons_succ, gAdd_int, gAdd_str, gAdd_t, gAdd_r, catC_s, gSub_int, gMul_l, gMul_r, gFdiv_int, gMod_int, gLt_int, gLe_int, gGt_int, gGe_int, gInt_int, gAbs_int, gLen_tup, gLen_str, gLen_r, lenC_s, gTpl_, gLsd_, gIx_r, ixC_s, ixO_s, gIx_t, gIx_s, ixS_s, atI_0, atI_1, atI_2, atI_3, atI_4, atI_5, gAppend_r, appC_s, gExtend_r, extC_s, gPop_r, popC_s, gSet_r, setC_0, setC_2, gTuple_r, tupC_s, gTuple_t, gList_r, gList_t, newC_s, gSl_r, slC_s, gSl_t, gSl_s, cut_take, cut_drop, cut_init, cut_mid, Int.toNat_natCast, lstC_lst, lstC_rol, lstAt_C, isi_str, isi_int, isi_bool, isi_tup, isi_lst, isO_s, isB_1, isB_2, isB_3, isB_4, isB_5, isB_6, isB_7, isB_8, isB_9, isB_10, isB_11, isB_12, isB_13, isB_14, isB_15, isB_16, isB_17, isB_18, isB_19, isB_20, isB_21, isB_22, isB_23, isB_24, isB_25, isB_26, gSum_r, sumC_s, sumO_s, gMin_, gMax_, qEq_int, qNe_int, qEq_str, qNe_str, gNeg_z, tgT_, tgU_, tgL0, tgL1, eTab_, kTab_, sX_, tgIxX_, kX1_, kX2_, kX3_, gSetX_r, setX_0, setX_2, setX_s, sPar_, kPar_, eFv_, eGetD_, kG1_, isDic_r, isDC_d, kG1b_, kG2_, kG3_, gGetD_r, getC_s, gMaxL_r, maxC_, gRep_r, repC_, eD0_, gDget_r, dgC_s, List.getElem?_concat_length, set_end, sF_, kFor_, iR1_, kR1_, iR2_, kR2_, kR3_, iA_, kAny_r, kAny_t, kAny_s, iaC_s, eLc_, kLc_, wipeD_c, wipeD_n, tYes_, put_one, sAug_, gAug_i, sBk_, sCt_, sW_, st_len, st_p, st_k, st_0, st_q, st_set_p, st_set_k, st_set_0, st_push, sx_len, sx_k, sx_0, sx_q, sx_set_k, sx_set_0, sx_push, So_rt, So_nx, So_ex, Tn_nx, Tn_ct, Tn_bk, Tn_rt, Tn_ex, Bool.false_eq_true, if_true, if_false, reduceIte, Option.map_some, Option.bind_some, Bool.not_true, Bool.not_false, decide_true, decide_false, eq_self, List.length_append, List.length_singleton, List.length_cons, List.length_nil, List.map_cons, List.map_nil, Nat.sub_self, List.replicate_zero, List.append_nil, List.cons_append, List.nil_append, List.append_assoc, List.replicate_succ, Nat.reduceSub, Nat.reduceAdd, Nat.add_zero, Nat.zero_add, Nat.add_assoc, Nat.reduceLeDiff, Int.natCast_add, Int.cast_ofNat_Int, Int.reduceEq, Int.reduceLT, Int.reduceLE, Int.reduceAdd, Int.reduceSub, Int.reduceNeg, Int.reduceToNat, List.take_succ_cons, List.take_zero, List.drop_succ_cons, List.drop_zero, List.dropLast_concat, Dl.atI_last, gFdivW_, gJoin_r, joinC_, gUpper_, gRepl_, gInK_, gNinK_, r_ax_or, r_ax_ur, r_ax_pr, r_ax_ol, r_ax_ul, r_ax_pl, r_ax_ct, r_or_ax, r_or_ur, r_or_pr, r_or_ol, r_or_ul, r_or_pl, r_or_ct, r_ur_ax, r_ur_or, r_ur_pr, r_ur_ol, r_ur_ul, r_ur_pl, r_ur_ct, r_pr_ax, r_pr_or, r_pr_ur, r_pr_ol, r_pr_ul, r_pr_pl, r_pr_ct, r_ol_ax, r_ol_or, r_ol_ur, r_ol_pr, r_ol_ul, r_ol_pl, r_ol_ct, r_ul_ax, r_ul_or, r_ul_ur, r_ul_pr, r_ul_ol, r_ul_pl, r_ul_ct, r_pl_ax, r_pl_or, r_pl_ur, r_pl_pr, r_pl_ol, r_pl_ul, r_pl_ct, r_ct_ax, r_ct_or, r_ct_ur, r_ct_pr, r_ct_ol, r_ct_ul, r_ct_pl, q1, q2, q3, q4, q5, q6, e1, e2, e3, gInt_bl, gIs_tn, gIs_nn, gIsN_tn, gIsN_nn, gReverse_r, revC_s, iV_, kVV_t, kVV_r, revI_s, iW_, kW_, gInX_r, gNinX_r, inC_d, gAny_r, anyC_s, gStartsW_])
/-! ## the three texts read back -/
theorem nms_nil : Nms [] := ⟨(fun _ h => nomatch h), Nat.zero_le _⟩
theorem back_t (n : Nat) {q : Nat} {S : Store} {k : KT} {x y z : Str} {ps : List (Str × KT)} (hq : S[q]? = some (.lst [.str z, .str x, .str y])) (hS : SOK S) (hk : k.at_.length ≤ 40) (hz : Txe [] k z) (hx : Txe [] k x) (hy : Txe ps k y) (lz : z.length ≤ 400) (lx : x.length ≤ 400) (ly : y.length ≤ 400) (hps : Nms ps) (hun : ∀ p ∈ ps, Un ps p.1 p.2) :
    Dl.Sp (tab (n + 43) ._law_read_back [k.d, .ref q, shD ps] S) fun r => r = .ok (.bl true) S := by
  refine Dl.sp_plain (g := b__law_read_back (tab (n + 42))) rfl fun Q hQ => ?_
  unfold b__law_read_back
  have fin : ∀ L, Q (cmp S.length (.bl true) (Dl.sx S L)) := fun L => Dl.Qx (hS.wf rfl) rfl (hQ _ rfl)
  have hq' : ∀ L, (Dl.sx S L)[q]? = some (.lst [.str z, .str x, .str y]) := fun L => by rw [Dl.sx_q (get_lt hq)]; exact hq
  have ht : ∀ L ρ, tgU [nm 4, nm 5, nm 6] (.ref q) ρ (Dl.sx S L) = Dl.tgL [nm 4, nm 5, nm 6] [.str z, .str x, .str y] ρ (Dl.sx S L) := fun L ρ => tgU_l (by unfold lstAt; rw [hq']) rfl
  have e0 : shD [] = .tup [] := rfl
  have nil : ∀ p ∈ ([] : List (Str × KT)), ∀ qs, Un qs p.1 p.2 := fun _ h => nomatch h
  have z0 := parse_t n (t := z) (S := Dl.sx S [.lst [.str z, .str x]]) nms_nil (hz [] (fun p h => nil p h _)).acc lz hk (hS.sx (.one (c := Dl.Cell.lst _) rfl))
  have zp := parse_t n (t := z) (S := Dl.sx S [.lst [.str z, .str x]]) hps (hz ps (fun p h => nil p h _)).acc lz hk (hS.sx (.one (c := Dl.Cell.lst _) rfl))
  have x0 := parse_t n (t := x) (S := Dl.sx S [.lst [.str z, .str x]]) nms_nil (hx [] (fun p h => nil p h _)).acc lx hk (hS.sx (.one (c := Dl.Cell.lst _) rfl))
  have xp := parse_t n (t := x) (S := Dl.sx S [.lst [.str z, .str x]]) hps (hx ps (fun p h => nil p h _)).acc lx hk (hS.sx (.one (c := Dl.Cell.lst _) rfl))
  have yp := parse_t n (t := y) (S := Dl.sx S [.lst [.str z, .str x]]) hps (hy ps hun).acc ly hk (hS.sx (.one (c := Dl.Cell.lst _) rfl))
  rw [e0] at z0 x0
  have gn := fun S => gNe_kt (k := k) (S := S) hk
  have ge := fun S => gEq_kt (a := k) (b := k) (S := S) hk
  simp only [deq_kk] at ge
  simp_arith [ht]
  have ck : chkOk [(S.length, [D.str z, D.str x])] (Dl.sx S [Dl.Cell.lst [.str z, .str x]]) := chk_one (by rw [Dl.lstAt_C, Dl.sx_0]; rfl)
  refine Dl.forQ (fun j ρ S' => ∃ v3 : Option D, ρ = [some k.d, some (.ref q), some (shD ps), v3, some (.str z), some (.str x), some (.str y)] ∧ S' = Dl.sx S [Dl.Cell.lst [.str z, .str x]]) ⟨none, rfl, rfl⟩ ?_ ?_
  · rintro j d _ _ hj ⟨v3, rfl, rfl⟩
    have hd := List.mem_of_getElem? hj
    simp only [List.mem_cons, List.not_mem_nil, or_false] at hd
    refine ⟨ck, _, _, rfl, ?_⟩
    rcases hd with rfl | rfl
    · simp_arith [aK_, bnd_ok, z0, zp, gn]
      exact ⟨_, rfl, trivial⟩
    · simp_arith [aK_, bnd_ok, x0, xp, gn]
      exact ⟨_, rfl, trivial⟩
  · rintro _ _ ⟨v3, rfl, rfl⟩
    refine ⟨ck, ?_⟩
    simp_arith [aK_, bnd_ok, yp, z0, gn, ge]
    exact fin _

end Lw

set_option Elab.async false
set_option linter.all false
set_option maxRecDepth 100000
namespace Lw
open PySem L2 Dl
local macro_rules | `(tactic| simp_arith [$ls,*]) => `(tactic| simp (disch := first | omega | assumption | (simp only [List.length_cons, List.length_nil, List.length_append, List.length_take, List.length_drop]; omega) | (simp only [List.length_cons, List.length_nil])) only [sQ_, sP_, sE_, sR_, sIf_, sN_, sA_, tgO_nx, nm_, tgIx_, eC_, eV0, eV1, e1_, e2_, eB_, eF_, aN_, aC_, eMt_, eSl_, oN_, oI_, tV_, tE_, tA_, tO_, tN_, eIf_, eAnd_, eOr_, eNot_, eCh_, seq_nx, seq_rt, seq_bk, seq_ct, seq_ex, toR_some, toR_none, toT_some, truD_bl, truD_int, truD_tup, truD_non, truD_str, truD_ref, truC_lst, tyD_str, tyD_tup, tyD_int, tyD_bl, tyD_non, tyD_ref, tyC_lst, tyC_rol, tyC_dic, kE_, kR_, kIf_t, kIf_f, kN_, kA_, kIx1_, kIx2_, kIx3_, kE1_, kE21_, kE2_, kB_, kF_, kC1_, kC_, kM1_, kM2_, kM_, kS1_, kS2_, kS3_, kO_, kV_, kT_, kAn_t, kAn_f, kOr_t, kOr_f, kNo_, kIfE_t, kIfE_f, kVa_, kVa2_t, kVa2_f, kVo_, kVo2_t, kVo2_f, kVn_, kVn2_, kH_, kH1_, kH2_t, kH2_f, kH3_, List.getElem?_cons_zero, List.getElem?_cons_succ, List.set_cons_zero, List.set_cons_succ, gAdd_int, gAdd_str, gAdd_t, gAdd_r, catC_s, gSub_int, gMul_l, gMul_r, gFdiv_int, gMod_int, gLt_int, gLe_int, gGt_int, gGe_int, gInt_int, gAbs_int, gLen_tup, gLen_str, gLen_r, lenC_s, gTpl_, gLsd_, gIx_r, ixC_s, ixO_s, gIx_t, gIx_s, ixS_s, atI_0, atI_1, atI_2, atI_3, atI_4, atI_5, gAppend_r, appC_s, gExtend_r, extC_s, gPop_r, popC_s, gSet_r, setC_0, setC_2, gTuple_r, tupC_s, gTuple_t, gList_r, gList_t, newC_s, gSl_r, slC_s, gSl_t, gSl_s, cut_take, cut_drop, cut_init, cut_mid, Int.toNat_natCast, lstC_lst, lstC_rol, lstAt_C, isi_str, isi_int, isi_bool, isi_tup, isi_lst, isO_s, isB_1, isB_2, isB_3, isB_4, isB_5, isB_6, isB_7, isB_8, isB_9, isB_10, isB_11, isB_12, isB_13, isB_14, isB_15, isB_16, isB_17, isB_18, isB_19, isB_20, isB_21, isB_22, isB_23, isB_24, isB_25, isB_26, gSum_r, sumC_s, sumO_s, gMin_, gMax_, qEq_int, qNe_int, qEq_str, qNe_str, gNeg_z, tgT_, tgU_, tgL0, tgL1, eTab_, kTab_, sX_, tgIxX_, kX1_, kX2_, kX3_, gSetX_r, setX_0, setX_2, setX_s, sPar_, kPar_, eFv_, eGetD_, kG1_, isDic_r, isDC_d, kG1b_, kG2_, kG3_, gGetD_r, getC_s, gMaxL_r, maxC_, gRep_r, repC_, eD0_, gDget_r, dgC_s, List.getElem?_concat_length, set_end, sF_, kFor_, iR1_, kR1_, iR2_, kR2_, kR3_, iA_, kAny_r, kAny_t, kAny_s, iaC_s, eLc_, kLc_, wipeD_c, wipeD_n, tYes_, put_one, sAug_, gAug_i, sBk_, sCt_, sW_, st_len, st_p, st_k, st_0, st_q, st_set_p, st_set_k, st_set_0, st_push, sx_len, sx_k, sx_0, sx_q, sx_set_k, sx_set_0, sx_push, So_rt, So_nx, So_ex, Tn_nx, Tn_ct, Tn_bk, Tn_rt, Tn_ex, Bool.false_eq_true, if_true, if_false, reduceIte, Option.map_some, Option.bind_some, Bool.not_true, Bool.not_false, decide_true, decide_false, eq_self, List.length_append, List.length_singleton, List.length_cons, List.length_nil, List.map_cons, List.map_nil, Nat.sub_self, List.replicate_zero, List.append_nil, List.cons_append, List.nil_append, List.append_assoc, List.replicate_succ, Nat.reduceSub, Nat.reduceAdd, Nat.add_zero, Nat.zero_add, Nat.add_assoc, Nat.reduceLeDiff, Int.natCast_add, Int.cast_ofNat_Int, Int.reduceEq, Int.reduceLT, Int.reduceLE, Int.reduceAdd, Int.reduceSub, Int.reduceNeg, Int.reduceToNat, List.take_succ_cons, List.take_zero, List.drop_succ_cons, List.drop_zero, List.dropLast_concat, Dl.atI_last, gFdivW_, gJoin_r, joinC_, gUpper_, gRepl_, gInK_, gNinK_, r_ax_or, r_ax_ur, r_ax_pr, r_ax_ol, r_ax_ul, r_ax_pl, r_ax_ct, r_or_ax, r_or_ur, r_or_pr, r_or_ol, r_or_ul, r_or_pl, r_or_ct, r_ur_ax, r_ur_or, r_ur_pr, r_ur_ol, r_ur_ul, r_ur_pl, r_ur_ct, r_pr_ax, r_pr_or, r_pr_ur, r_pr_ol, r_pr_ul, r_pr_pl, r_pr_ct, r_ol_ax, r_ol_or, r_ol_ur, r_ol_pr, r_ol_ul, r_ol_pl, r_ol_ct, r_ul_ax, r_ul_or, r_ul_ur, r_ul_pr, r_ul_ol, r_ul_pl, r_ul_ct, r_pl_ax, r_pl_or, r_pl_ur, r_pl_pr, r_pl_ol, r_pl_ul, r_pl_ct, r_ct_ax, r_ct_or, r_ct_ur, r_ct_pr, r_ct_ol, r_ct_ul, r_ct_pl, q1, q2, q3, q4, q5, q6, e1, e2, e3, gInt_bl, gIs_tn, gIs_nn, gIsN_tn, gIsN_nn, gReverse_r, revC_s, iV_, kVV_t, kVV_r, revI_s, iW_, kW_, gInX_r, gNinX_r, inC_d, gAny_r, anyC_s, gStartsW_, $ls,*])
local macro_rules | `(tactic| walk_at "ev") => `(tactic| simp (disch := first | omega | assumption | (simp only [List.length_cons, List.length_nil, List.length_append, List.length_take, List.length_drop]; omega) | (simp only [List.length_cons, List.length_nil])) only [sQ_, sP_, sE_, sR_, sIf_, sN_, sA_, tgO_nx, nm_, tgIx_, eC_, eV0, eV1, e1_, e2_, eB_, eF_, aN_, aC_, eMt_, eSl_, oN_, oI_, tV_, tE_, tA_, tO_, tN_, eIf_, eAnd_, eOr_, eNot_, eCh_, seq_nx, seq_rt, seq_bk, seq_ct, seq_ex, toR_some, toR_none, toT_some, truD_bl, truD_int, truD_tup, truD_non, truD_str, truD_ref, truC_lst, tyD_str, tyD_tup, tyD_int, tyD_bl, tyD_non, tyD_ref, tyC_lst, tyC_rol, tyC_dic, kE_, kR_, kIf_t, kIf_f, kN_, kA_, kIx1_, kIx2_, kIx3_, kE1_, kE21_, kE2_, kB_, kF_, kC1_, kC_, kM1_, kM2_, kM_, kS1_, kS2_, kS3_, kO_, kV_, kT_, kAn_t, kAn_f, kOr_t, kOr_f, kNo_, kIfE_t, kIfE_f, kVa_, kVa2_t, kVa2_f, kVo_, kVo2_t, kVo2_f, kVn_, kVn2_, kH_, kH1_, kH2_t, kH2_f, kH3_, List.getElem?_cons_zero, List.getElem?_cons_succ, List.set_cons_zero, List.set_cons_succ, gAdd_int, gAdd_str, gAdd_t, gAdd_r, catC_s, gSub_int, gMul_l, gMul_r, gFdiv_int, gMod_int, gLt_int, gLe_int, gGt_int, gGe_int, gInt_int, gAbs_int, gLen_tup, gLen_str, gLen_r, lenC_s, gTpl_, gLsd_, gIx_r, ixC_s, ixO_s, gIx_t, gIx_s, ixS_s, atI_0, atI_1, atI_2, atI_3, atI_4, atI_5, gAppend_r, appC_s, gExtend_r, extC_s, gPop_r, popC_s, gSet_r, setC_0, setC_2, gTuple_r, tupC_s, gTuple_t, gList_r, gList_t, newC_s, gSl_r, slC_s, gSl_t, gSl_s, cut_take, cut_drop, cut_init, cut_mid, Int.toNat_natCast, lstC_lst, lstC_rol, lstAt_C, isi_str, isi_int, isi_bool, isi_tup, isi_lst, isO_s, isB_1, isB_2, isB_3, isB_4, isB_5, isB_6, isB_7, isB_8, isB_9, isB_10, isB_11, isB_12, isB_13, isB_14, isB_15, isB_16, isB_17, isB_18, isB_19, isB_20, isB_21, isB_22, isB_23, isB_24, isB_25, isB_26, gSum_r, sumC_s, sumO_s, gMin_, gMax_, qEq_int, qNe_int, qEq_str, qNe_str, gNeg_z, tgT_, tgU_, tgL0, tgL1, eTab_, kTab_, sX_, tgIxX_, kX1_, kX2_, kX3_, gSetX_r, setX_0, setX_2, setX_s, sPar_, kPar_, eFv_, eGetD_, kG1_, isDic_r, isDC_d, kG1b_, kG2_, kG3_, gGetD_r, getC_s, gMaxL_r, maxC_, gRep_r, repC_, eD0_, gDget_r, dgC_s, List.getElem?_concat_length, set_end, sF_, kFor_, iR1_, kR1_, iR2_, kR2_, kR3_, iA_, kAny_r, kAny_t, kAny_s, iaC_s, eLc_, kLc_, wipeD_c, wipeD_n, tYes_, put_one, sAug_, gAug_i, sBk_, sCt_, sW_, st_len, st_p, st_k, st_0, st_q, st_set_p, st_set_k, st_set_0, st_push, sx_len, sx_k, sx_0, sx_q, sx_set_k, sx_set_0, sx_push, So_rt, So_nx, So_ex, Tn_nx, Tn_ct, Tn_bk, Tn_rt, Tn_ex, Bool.false_eq_true, if_true, if_false, reduceIte, Option.map_some, Option.bind_some, Bool.not_true, Bool.not_false, decide_true, decide_false, eq_self, List.length_append, List.length_singleton, List.length_cons, List.length_nil, List.map_cons, List.map_nil, Nat.sub_self, List.replicate_zero, List.append_nil, List.cons_append, List.nil_append, List.append_assoc, List.replicate_succ, Nat.reduceSub, Nat.reduceAdd, Nat.add_zero, Nat.zero_add, Nat.add_assoc, Nat.reduceLeDiff, Int.natCast_add, Int.cast_ofNat_Int, Int.reduceEq, Int.reduceLT, Int.reduceLE, Int.reduceAdd, Int.reduceSub, Int.reduceNeg, Int.reduceToNat, List.take_succ_cons, List.take_zero, List.drop_succ_cons, List.drop_zero, List.dropLast_concat, Dl.atI_last, gFdivW_, gJoin_r, joinC_, gUpper_, gRepl_, gInK_, gNinK_, r_ax_or, r_ax_ur, r_ax_pr, r_ax_ol, r_ax_ul, r_ax_pl, r_ax_ct, r_or_ax, r_or_ur, r_or_pr, r_or_ol, r_or_ul, r_or_pl, r_or_ct, r_ur_ax, r_ur_or, r_ur_pr, r_ur_ol, r_ur_ul, r_ur_pl, r_ur_ct, r_pr_ax, r_pr_or, r_pr_ur, r_pr_ol, r_pr_ul, r_pr_pl, r_pr_ct, r_ol_ax, r_ol_or, r_ol_ur, r_ol_pr, r_ol_ul, r_ol_pl, r_ol_ct, r_ul_ax, r_ul_or, r_ul_ur, r_ul_pr, r_ul_ol, r_ul_pl, r_ul_ct, r_pl_ax, r_pl_or, r_pl_ur, r_pl_pr, r_pl_ol, r_pl_ul, r_pl_ct, r_ct_ax, r_ct_or, r_ct_ur, r_ct_pr, r_ct_ol, r_ct_ul, r_ct_pl, q1, q2, q3, q4, q5, q6, e1, e2, e3, gInt_bl, gIs_tn, gIs_nn, gIsN_tn, gIsN_nn, gReverse_r, revC_s, iV_, kVV_t, kVV_r, revI_s, iW_, kW_, gInX_r, gNinX_r, inC_d, gAny_r, anyC_s, gStartsW_])
/-! ## the law -/
noncomputable def tailLaw (F : FN → List D → M D) : SX := (sQ (sIf (tN (tV (eF (F ._law_both_names) (aC (eF (F ._law_pool) (aC (eV 0) (aC (eC (.int 5)) aN))) (aC (Dl.e2 gIx (eV 2) (eC (.int 0))) (aC (Dl.e2 gIx (eV 2) (Dl.e1 gNeg (eC (.int 1)))) aN)))))) (sR (eC (.bl false))) sP)
  (sR (Dl.e2 gEq (eF (F .format_kind) (aC (eV 4) aN)) (eV 5))))
theorem law_eq (F : FN → List D → M D) : b_law F = (sQ (sN 1 (eF (F ._law_pool) (aC (eV 0) (aC (eC (.int 0)) aN))))
  (sQ (sN 2 (eF (F ._law_atoms) (aC (eV 1) aN)))
  (sQ (sN 3 (eF (F ._law_pool) (aC (eV 0) (aC (eC (.int 1)) aN))))
  (sQ (sN 4 (eF (F ._law_bracket) (aC (eV 3) (aC (eV 2) (aC (eF (F ._law_draw) (aC (eV 3) (aC (eC (.int 8)) aN))) aN)))))
  (sQ (sN 5 (eF (F ._law_text) (aC (eV 4) aN)))
  (sQ (sN 6 (eF (F .format_kind) (aC (eV 4) aN)))
  (sQ (sIf (tO (tN (tV (eB (gIsi .str) (aC (eV 6) (aC (eC (.raw (.ty "str"))) aN))))) (tE (Dl.e2 gNe (eV 6) (eV 5)))) (sR (eC (.bl false))) sP)
  (sQ (sIf (tE (Dl.e2 gLe (eB gLen (aC (eV 5) aN)) (eC (.int 400)))) (sQ (sN 7 (eF (F ._law_pairs) (aC (eF (F ._law_pool) (aC (eV 0) (aC (eC (.int 2)) aN))) (aC (eV 4) aN))))
  (sQ (sN 8 (eF (F ._law_pool) (aC (eV 0) (aC (eC (.int 3)) aN))))
  (sQ (sN 9 (eF (F ._law_room) (aC (eV 8) (aC (eF (F ._law_loose) (aC (eV 8) (aC (eV 4) (aC (eB gLsd aN) (aC (eC (.int 0)) aN))))) (aC (eV 5) aN)))))
  (sQ (sN 8 (eF (F ._law_pool) (aC (eV 0) (aC (eC (.int 4)) aN))))
  (sQ (sN 10 (eF (F ._law_room) (aC (eV 8) (aC (eF (F ._law_loose) (aC (eV 8) (aC (eV 4) (aC (eV 7) (aC (eC (.int 0)) aN))))) (aC (eV 5) aN)))))
  (sIf (tN (tV (eF (F ._law_read_back) (aC (eV 4) (aC (eB gLsd (aC (eV 5) (aC (eV 9) (aC (eV 10) aN)))) (aC (eB gTuple (aC (eV 7) aN)) aN)))))) (sR (eC (.bl false))) sP)))))) sP)
  (tailLaw F))))))))) := rfl
theorem nodup_fst : ∀ {ps : List (Str × KT)}, (ps.map (·.1)).Nodup → ∀ p ∈ ps, ∀ q ∈ ps, p.1 = q.1 → p = q
  | [], _, _, h, _, _, _ => nomatch h
  | x :: xs, hn, p, hp, q, hq, e => by
    rw [List.map_cons, List.nodup_cons] at hn
    rcases List.mem_cons.mp hp with e1 | hp'
    · rcases List.mem_cons.mp hq with e2 | hq'
      · rw [e1, e2]
      · exact absurd (show x.1 ∈ xs.map (·.1) from List.mem_map.mpr ⟨q, hq', by rw [← e, e1]⟩) hn.1
    · rcases List.mem_cons.mp hq with e2 | hq'
      · exact absurd (show x.1 ∈ xs.map (·.1) from List.mem_map.mpr ⟨p, hp', by rw [e, e2]⟩) hn.1
      · exact nodup_fst hn.2 p hp' q hq' e
theorem Prs.un {k : KT} {ps : List (Str × KT)} (h : Prs k ps) : ∀ p ∈ ps, Un ps p.1 p.2 := fun p hp => .inr ⟨h.nm p hp, hp, fun q hq e => by rw [nodup_fst h.nd q hq p hp e]⟩
theorem tail_law (n : Nat) {S : Store} {ns : List Int} {L : List Cell} {Q : Dl.R D → Prop} {ts : List Str} {K : KT} {x1 x3 x6 x7 x8 x9 x10 : Option D} (h0 : S[0]? = some (Cell.rol (ns.map D.int))) (hS : SOK S) (hL : Dl.FL L) (h1 : L[1]? = some (.lst (sts ts))) (hts : Ats ts) (ok : K.ok AtS) (hk : K.at_.length ≤ 40)
    (fin : ∀ L, Q (cmp S.length (.bl true) (Dl.sx S L))) :
    Dl.So S.length Q (tailLaw (tab (n + 100)) [some (.ref 0), x1, some (.ref (S.length + 1)), x3, some K.d, some (.str K.fk), x6, x7, x8, x9, x10] (Dl.sx S L)) := by
  unfold tailLaw
  have l0 := get_lt h0
  obtain ⟨P, hp, e5⟩ := pool_t (n + 98) (T := Dl.sx S L) (by rw [Dl.sx_q l0]; exact h0) (hS.sx hL) 5 (by decide)
  rw [show ((5 : Nat) : Int) = 5 from rfl, show n + 98 + 2 = n + 100 from rfl] at e5
  have h1' : (L ++ [Dl.Cell.lst P])[1]? = some (.lst (sts ts)) := by rw [List.getElem?_append_left (get_lt h1)]; exact h1
  obtain ⟨t0, ht0, hm0⟩ : ∃ t, AtS t ∧ atI (sts ts) 0 = some (.str t) := by
    obtain ⟨h2, h3, _⟩ := hts
    match ts, h3, h2 with
    | t :: r, _, h2 => exact ⟨t, h2 t (List.mem_cons_self ..), Dl.atI_0⟩
  obtain ⟨t1, ht1, hm1⟩ : ∃ t, AtS t ∧ atI (sts ts) (-1) = some (.str t) := by
    obtain ⟨h2, h3, _⟩ := hts
    have hne : ts ≠ [] := fun e => by rw [e] at h3; exact absurd h3 (by decide)
    refine ⟨ts.getLast hne, h2 _ (List.getLast_mem hne), ?_⟩
    have e : ts = ts.dropLast ++ [ts.getLast hne] := (List.dropLast_concat_getLast hne).symm
    have e2 : sts ts = sts ts.dropLast ++ [.str (ts.getLast hne)] := (congrArg sts e).trans (sts_app _ _)
    rw [e2]
    exact Dl.atI_last
  have fP : Dl.FL (L ++ [Dl.Cell.lst P]) := hL.app (.one (c := Dl.Cell.lst _) hp.flat)
  obtain ⟨P', hp', eb⟩ := both_t (n + 57) (T := Dl.sx S (L ++ [.lst P])) (p := S.length + L.length) (by rw [Dl.sx_k, List.getElem?_concat_length]) hp (by decide) (hS.sx fP) ht0 ht1
  have fP' : Dl.FL (L ++ [Dl.Cell.lst P']) := hL.app (.one (c := Dl.Cell.lst _) hp'.flat)
  rw [Dl.sx_set_k, List.set_append_right _ _ (Nat.le_refl _), Nat.sub_self, show n + 57 + 43 = n + 100 from rfl] at eb
  have ef := fkind_t K (n + 99) (S := Dl.sx S (L ++ [.lst P'])) ok (by omega) (by omega) (hS.sx fP')
  simp only [List.set_cons_zero] at eb
  rw [show n + 99 + 1 = n + 100 from rfl] at ef
  simp_arith [e5, h1, h1', hm0, hm1, eb, ef]
  exact fin _
theorem law_t (n : Nat) {S : Store} {ns : List Int} (h0 : S[0]? = some (Cell.rol (ns.map D.int))) (hS : SOK S) : Dl.Sp (tab (n + 101) .law [.ref 0] S) fun r => r = .ok (.bl true) S := by
  refine Dl.sp_plain (g := b_law (tab (n + 100))) rfl fun Q hQ => ?_
  rw [law_eq]
  have fin : ∀ L, Q (cmp S.length (.bl true) (Dl.sx S L)) := fun L => Dl.Qx (hS.wf rfl) rfl (hQ _ rfl)
  have l0 := get_lt h0
  have h0' : ∀ L, (Dl.sx S L)[0]? = some (Cell.rol (ns.map D.int)) := fun L => by rw [Dl.sx_q l0]; exact h0
  have f1 : ∀ {xs : List D} {L : List Cell}, flats xs = true → Dl.FL L → Dl.FL (.lst xs :: L) := fun h hL => .cons (c := Dl.Cell.lst _) h hL
  obtain ⟨P0, hp0, e0⟩ := pool_t (n + 98) (h0' []) (hS.sx .nil) 0 (by decide)
  obtain ⟨ts, P1, hp1, hts, e1⟩ := latoms_t (n + 96) (T := Dl.sx S [.lst P0]) (p := S.length) (by rw [Dl.sx_0]; rfl) hp0 (by decide) (hS.sx (f1 hp0.flat .nil))
  rw [Dl.sx_set_0] at e1
  have F2 := f1 hp1.flat (f1 (sts_flat ts) .nil)
  obtain ⟨P2, hp2, e2⟩ := pool_t (n + 98) (h0' [.lst P1, .lst (sts ts)]) (hS.sx F2) 1 (by decide)
  obtain ⟨w, P3, hp3, a3, b3, e3⟩ := draw_t (n + 98) (many := 8) (T := Dl.sx S [.lst P1, .lst (sts ts), .lst P2]) (p := S.length + 2) (by rw [Dl.sx_k]; rfl) hp2 (by decide) (by decide)
  rw [Dl.sx_set_k] at e3
  have F3 := f1 hp1.flat (f1 (sts_flat ts) (f1 hp3.flat .nil))
  obtain ⟨K, P4, hp4, ok, hk, e4⟩ := bracket_t (n + 57) w 40 ts (T := Dl.sx S [.lst P1, .lst (sts ts), .lst P3]) (p := S.length + 2) (q := S.length + 1) hts.2.2 hts.2.1 (by decide) hts.1 (by omega) (by rw [Dl.sx_k]; rfl) (by rw [Dl.sx_k]; rfl) hp3 (by have := hts.2.2; omega) (hS.sx F3)
  rw [Dl.sx_set_k, show n + 57 + 40 + 3 = n + 100 from rfl] at e4
  have hk : K.at_.length ≤ 40 := by have := hts.2.2; omega
  have F4 := f1 hp1.flat (f1 (sts_flat ts) (f1 hp4.flat .nil))
  have e5 := text_t K (n + 58) (S := Dl.sx S [.lst P1, .lst (sts ts), .lst P4]) (hS.sx F4) ok hk
  have e6 := fkind_t K (n + 99) (S := Dl.sx S [.lst P1, .lst (sts ts), .lst P4]) ok (by omega) (by omega) (hS.sx F4)
  have zK : ∀ prs, Txe prs K K.fk := fun _ ps _ => (fk_ok ok).1
  have c01 : ((0 : Nat) : Int) = 0 ∧ ((1 : Nat) : Int) = 1 ∧ ((2 : Nat) : Int) = 2 ∧ ((3 : Nat) : Int) = 3 ∧ ((4 : Nat) : Int) = 4 := ⟨rfl, rfl, rfl, rfl, rfl⟩
  rw [c01.1] at e0
  rw [c01.2.1] at e2
  have tl : ∀ (L : List Cell) x7 x8 x9 x10, Dl.FL L → L[1]? = some (.lst (sts ts)) → Dl.So S.length Q (tailLaw (tab (n + 100)) [some (.ref 0), some (.ref S.length), some (.ref (S.length + 1)), some (.ref (S.length + 2)), some K.d, some (.str K.fk), some (.str K.fk), x7, x8, x9, x10] (Dl.sx S L)) := fun L x7 x8 x9 x10 hL h1 => tail_law n h0 hS hL h1 hts ok hk fin
  by_cases h4 : (K.fk.length : Int) ≤ 400
  · obtain ⟨P5, hp5, e7⟩ := pool_t (n + 98) (h0' [.lst P1, .lst (sts ts), .lst P4]) (hS.sx F4) 2 (by decide)
    have F5 := f1 hp1.flat (f1 (sts_flat ts) (f1 hp4.flat (f1 hp5.flat .nil)))
    obtain ⟨ps, P6, hps, lps, hp6, e8⟩ := pairs_t (n + 58) (k := K) (T := Dl.sx S [.lst P1, .lst (sts ts), .lst P4, .lst P5]) (p := S.length + 3) (by rw [Dl.sx_k]; rfl) hp5 (by decide) hk (hS.sx F5)
    rw [Dl.sx_set_k] at e8
    have F6 := f1 hp1.flat (f1 (sts_flat ts) (f1 hp4.flat (f1 hp6.flat (f1 (prD_flat ps) .nil))))
    obtain ⟨P7, hp7, e9⟩ := pool_t (n + 98) (h0' [.lst P1, .lst (sts ts), .lst P4, .lst P6, .lst (prD ps)]) (hS.sx F6) 3 (by decide)
    have F7 := f1 hp1.flat (f1 (sts_flat ts) (f1 hp4.flat (f1 hp6.flat (f1 (prD_flat ps) (f1 hp7.flat (f1 (xs := []) rfl .nil))))))
    obtain ⟨x1, P8, tx1, lx1, hp8, e10⟩ := loose_t (n + 56) (p := S.length + 5) (q := S.length + 6) (by omega) (prs := []) (by decide) (fun _ h => nomatch h) 40 K 0 (T := Dl.sx S [.lst P1, .lst (sts ts), .lst P4, .lst P6, .lst (prD ps), .lst P7, .lst []]) hk (by decide) ok (by decide) (by rw [Dl.sx_k]; rfl) (by rw [Dl.sx_k]; rfl) hp7 (by omega) (hS.sx F7)
    rw [Dl.sx_set_k] at e10
    have F8 := f1 hp1.flat (f1 (sts_flat ts) (f1 hp4.flat (f1 hp6.flat (f1 (prD_flat ps) (f1 hp8.flat (f1 (xs := []) rfl .nil))))))
    obtain ⟨y1, P9, ty1, ly1, hp9, e11⟩ := room_t (n + 97) (p := S.length + 5) (T := Dl.sx S [.lst P1, .lst (sts ts), .lst P4, .lst P6, .lst (prD ps), .lst P8, .lst []]) (prs := []) (k := K) (x := x1) (z := K.fk) (by rw [Dl.sx_k]; rfl) hp8 (by omega) (hS.sx F8) tx1.e (zK _) (by omega)
    rw [Dl.sx_set_k] at e11
    have F9 := f1 hp1.flat (f1 (sts_flat ts) (f1 hp4.flat (f1 hp6.flat (f1 (prD_flat ps) (f1 hp9.flat (f1 (xs := []) rfl .nil))))))
    obtain ⟨R1, hr1, e12⟩ := pool_t (n + 98) (h0' [.lst P1, .lst (sts ts), .lst P4, .lst P6, .lst (prD ps), .lst P9, .lst []]) (hS.sx F9) 4 (by decide)
    have FA := f1 hp1.flat (f1 (sts_flat ts) (f1 hp4.flat (f1 hp6.flat (f1 (prD_flat ps) (f1 hp9.flat (f1 (xs := []) rfl (f1 hr1.flat .nil)))))))
    obtain ⟨x2, R2, tx2, lx2, hr2, e13⟩ := loose_t (n + 56) (p := S.length + 7) (q := S.length + 4) (by omega) (prs := ps) (by omega) (fun p hp => ⟨by have := (pts_ok ok p.2 (hps.pt p hp)).2; omega, hps.nm p hp⟩) 40 K 0 (T := Dl.sx S [.lst P1, .lst (sts ts), .lst P4, .lst P6, .lst (prD ps), .lst P9, .lst [], .lst R1]) hk (by decide) ok (by decide) (by rw [Dl.sx_k]; rfl) (by rw [Dl.sx_k]; rfl) hr1 (by omega) (hS.sx FA)
    rw [Dl.sx_set_k] at e13
    have FB := f1 hp1.flat (f1 (sts_flat ts) (f1 hp4.flat (f1 hp6.flat (f1 (prD_flat ps) (f1 hp9.flat (f1 (xs := []) rfl (f1 hr2.flat .nil)))))))
    obtain ⟨y2, R3, ty2, ly2, hr3, e14⟩ := room_t (n + 97) (p := S.length + 7) (T := Dl.sx S [.lst P1, .lst (sts ts), .lst P4, .lst P6, .lst (prD ps), .lst P9, .lst [], .lst R2]) (prs := ps) (k := K) (x := x2) (z := K.fk) (by rw [Dl.sx_k]; rfl) hr2 (by omega) (hS.sx FB) tx2.e (zK _) (by omega)
    rw [Dl.sx_set_k] at e14
    have FC := f1 hp1.flat (f1 (sts_flat ts) (f1 hp4.flat (f1 hp6.flat (f1 (prD_flat ps) (f1 hp9.flat (f1 (xs := []) rfl (f1 hr3.flat (f1 (xs := [.str K.fk, .str y1, .str y2]) rfl .nil))))))))
    have e15 := back_t (n + 57) (q := S.length + 8) (S := Dl.sx S [.lst P1, .lst (sts ts), .lst P4, .lst P6, .lst (prD ps), .lst P9, .lst [], .lst R3, .lst [.str K.fk, .str y1, .str y2]]) (k := K) (z := K.fk) (x := y1) (y := y2) (ps := ps) (by rw [Dl.sx_k]; rfl) (hS.sx FC) hk (zK _) ty1 ty2 (by omega) ly1 ly2 ⟨hps.nm, by omega⟩ hps.un
    rw [c01.2.2.1] at e7
    rw [c01.2.2.2.1] at e9
    rw [c01.2.2.2.2] at e12
    rw [c01.1, show n + 56 + 40 + 4 = n + 100 from rfl] at e10 e13
    have esh : shD ps = .tup (prD ps) := rfl
    rw [esh] at e15
    simp_arith [e0, e1, e2, e3, e4, e5, e6, h4, e7, e8, e9, e10, e11, e12, e13, e14, e15]
    exact tl _ _ _ _ _ FC rfl
  · simp_arith [e0, e1, e2, e3, e4, e5, e6, h4]
    exact tl _ _ _ _ _ F4 rfl
theorem good : ∀ ns : List Int, ns.length ≤ 63 → ∃ S, tab 225 .law [.ref 0] [.rol (ns.map Dl.D.int)] = .ok (.bl true) S := fun ns _ =>
  ⟨_, law_t 124 (S := [.rol (ns.map Dl.D.int)]) rfl fun c hc => by
    rw [List.mem_singleton.mp hc]
    exact cwf_flat (c := .rol _) (ints_flat ns)⟩

end Lw

open PySem PySem.W PyProof.Rows
set_option maxRecDepth 100000 in
set_option maxHeartbeats 0 in
theorem PySem.Challenge.cw_wordfractions_k02_kind_text_back_holds : PySem.Challenge.rw_wordfractions_k02_kind_text_back.Holds := by
  w_on; o_law; k_head; (case hw => w_witness2)
  k_fill
  refine Lw.walk 225 (by exact ⟨⟨rfl, by decide, by decide⟩, rfl⟩) Lw.good (l := PySem.Challenge.rw_wordfractions_k02_kind_text_back) rfl rfl (fun w h Y => PySem.W.kIn_of Y) ?F
  case F =>
    intro w mg fa h KX G hmg
    refine' Lw.all_mk 225 KX G hmg ?a0 ?l0 ?c0 ?k0 ?a1 ?l1 ?c1 ?k1 ?a2 ?l2 ?c2 ?k2 ?a3 ?l3 ?c3 ?k3 ?a4 ?l4 ?c4 ?k4 ?a5 ?l5 ?c5 ?k5 ?a6 ?l6 ?c6 ?k6 ?a7 ?l7 ?c7 ?k7 ?a8 ?l8 ?c8 ?k8 ?a9 ?l9 ?c9 ?k9 ?a10 ?l10 ?c10 ?k10 ?a11 ?l11 ?c11 ?k11 ?a12 ?l12 ?c12 ?k12 ?a13 ?l13 ?c13 ?k13 ?a14 ?l14 ?c14 ?k14 ?a15 ?l15 ?c15 ?k15 ?a16 ?l16 ?c16 ?k16 ?a17 ?l17 ?c17 ?k17 ?a18 ?l18 ?c18 ?k18 ?a19 ?l19 ?c19 ?k19 ?a20 ?l20 ?c20 ?k20 ?a21 ?l21 ?c21 ?k21 ?a22 ?l22 ?c22 ?k22 ?a23 ?l23 ?c23 ?k23 ?a24 ?l24 ?c24 ?k24 ?a25 ?l25 ?c25 ?k25 ?a26 ?l26 ?c26 ?k26 ?a27 ?l27 ?c27 ?k27 ?a28 ?l28 ?c28 ?k28 ?z0 ?z1 ?z2 ?z3 ?z4 ?z5 ?z6 ?z7 ?z8 ?y0 ?y1 ?y2 ?y3 ?y4 ?yl4 ?yv4 ?y5 ?y6 ?kq10 ?kl10 ?kv10 ?u0 ?ve0 ?vk0 ?vs0 ?vt0
    (case a0 => k_is)
    (case l0 => k_is)
    (case c0 => k_is)
    (case k0 => k_is)
    (case a1 => k_is)
    (case l1 => k_is)
    (case c1 => k_is)
    (case k1 => k_is)
    (case a2 => k_is)
    (case l2 => k_is)
    (case c2 => k_is)
    (case k2 => k_is)
    (case a3 => k_is)
    (case l3 => k_is)
    (case c3 => k_is)
    (case k3 => k_is)
    (case a4 => k_is)
    (case l4 => k_is)
    (case c4 => k_is)
    (case k4 => k_is)
    (case a5 => k_is)
    (case l5 => k_is)
    (case c5 => k_is)
    (case k5 => k_is)
    (case a6 => k_is)
    (case l6 => k_is)
    (case c6 => k_is)
    (case k6 => k_is)
    (case a7 => k_is)
    (case l7 => k_is)
    (case c7 => k_is)
    (case k7 => k_is)
    (case a8 => k_is)
    (case l8 => k_is)
    (case c8 => k_is)
    (case k8 => k_is)
    (case a9 => k_is)
    (case l9 => k_is)
    (case c9 => k_is)
    (case k9 => k_is)
    (case a10 => k_is)
    (case l10 => k_is)
    (case c10 => k_is)
    (case k10 => k_is)
    (case a11 => k_is)
    (case l11 => k_is)
    (case c11 => k_is)
    (case k11 => k_is)
    (case a12 => k_is)
    (case l12 => k_is)
    (case c12 => k_is)
    (case k12 => k_is)
    (case a13 => k_is)
    (case l13 => k_is)
    (case c13 => k_is)
    (case k13 => k_is)
    (case a14 => k_is)
    (case l14 => k_is)
    (case c14 => k_is)
    (case k14 => k_is)
    (case a15 => k_is)
    (case l15 => k_is)
    (case c15 => k_is)
    (case k15 => k_is)
    (case a16 => k_is)
    (case l16 => k_is)
    (case c16 => k_is)
    (case k16 => k_is)
    (case a17 => k_is)
    (case l17 => k_is)
    (case c17 => k_is)
    (case k17 => k_is)
    (case a18 => k_is)
    (case l18 => k_is)
    (case c18 => k_is)
    (case k18 => k_is)
    (case a19 => k_is)
    (case l19 => k_is)
    (case c19 => k_is)
    (case k19 => k_is)
    (case a20 => k_is)
    (case l20 => k_is)
    (case c20 => k_is)
    (case k20 => k_is)
    (case a21 => k_is)
    (case l21 => k_is)
    (case c21 => k_is)
    (case k21 => k_is)
    (case a22 => k_is)
    (case l22 => k_is)
    (case c22 => k_is)
    (case k22 => k_is)
    (case a23 => k_is)
    (case l23 => k_is)
    (case c23 => k_is)
    (case k23 => k_is)
    (case a24 => k_is)
    (case l24 => k_is)
    (case c24 => k_is)
    (case k24 => k_is)
    (case a25 => k_is)
    (case l25 => k_is)
    (case c25 => k_is)
    (case k25 => k_is)
    (case a26 => k_is)
    (case l26 => k_is)
    (case c26 => k_is)
    (case k26 => k_is)
    (case a27 => k_is)
    (case l27 => k_is)
    (case c27 => k_is)
    (case k27 => k_is)
    (case a28 => k_is)
    (case l28 => k_is)
    (case c28 => k_is)
    (case k28 => k_is)
    (case z0 => k_is)
    (case z1 => k_is)
    (case z2 => k_is)
    (case z3 => k_is)
    (case z4 => k_is)
    (case z5 => k_is)
    (case z6 => k_is)
    (case z7 => k_is)
    (case z8 => k_is)
    (case y0 => k_is)
    (case y1 => k_is)
    (case y2 => k_is)
    (case y3 => k_is)
    (case y4 => k_is)
    (case yl4 => k_is)
    (case yv4 => first | rfl | decide)
    (case y5 => k_is)
    (case y6 => k_is)
    (case kq10 => k_is)
    (case kl10 => k_is)
    (case kv10 => first | rfl | decide)
    (case u0 => k_is)
    (case ve0 => k_exc)
    (case vk0 => k_is)
    (case vs0 => k_is)
    (case vt0 => k_is)
