import PyProof.Rows.All
import Wide.All
import OpenK.AllK
import HandS.ForMost
import HandS.IsInst
import HandS.TupAny
import HandS.Zip
import HandS.Deep
import HandS.Text
import KE.SortData
import KE.KDictKeyed
import KE.DatumIndex
import HandS.Defaults
import HandS.Exc
import HandS.Style
import KE.DataCmp
import KE.DataMinMax
import HandS.RaiseMore
import HandS.TupSets
import HandS.Ends
import HandS.HeadEnd
import PyProof.StrLawsRepr
import PyProof.FitsInt
import HandS.Head0
import HandS.Head1
import HandS.Head2
import HandS.HeadHook1
import HandS.HeadHook2
import HandS.Words
import HandS.WordsExc
import KE.KStateDown
import Wide.FinOn
import PySem.Challenge.RW_dominohall_k50_whole_lines_as_texts
set_option Elab.async false
set_option linter.all false
set_option maxRecDepth 100000
set_option maxHeartbeats 4000000
/-! FA: data, frames with owned objects, the functional judgement over HandS (own work) -/
namespace F
open PySem L2

/-! ### data -/
inductive D where
  | non | bl (b : Bool) | int (i : Int) | str (x : Str)
  | tup (xs : List D) | lst (xs : List D) | set (xs : List D) | dct (kvs : List (D × D))
  | ins (C : Str) (fs : List (Str × D)) | fn (x : Str) | ty (n : String) | scr (ns : List Int)
  deriving Inhabited

/-- an outcome -/
inductive R (α : Type) where
  | ok (a : α) | ex (c : Str) (d : D) | stuck
def R.bind {α β : Type} (x : R α) (f : α → R β) : R β :=
  match x with
  | .ok a => f a
  | .ex c d => .ex c d
  | .stuck => .stuck
instance : Monad R where
  pure := R.ok
  bind := R.bind
def ofO {α : Type} : Option α → R α
  | some a => .ok a
  | none => .stuck
def chk (b : Bool) : R Unit := if b then .ok () else .stuck
theorem chk_ok {b : Bool} {u : Unit} (h : chk b = .ok u) : b = true := by
  unfold chk at h
  cases b with
  | true => rfl
  | false => simp at h

/-- a raw dict as it stands -/
def rawD (a : Addr) (es : List DictEntry) : HO := .ext fun h => ∃ o ep, h.get? a = some o ∧ o.ExactDict ∧ o.data = .dict es.toArray ep

/-- what names and worlds mean -/
structure Gc where
  P : Program
  w : World
  K : PySem.W.Frag
  mg : Str → Option Value
def gc (X : Cx) : Gc := ⟨X.prog, X.w, X.K, X.mg⟩

mutual
/-- the key that data is, in a dict of tuples -/
def D.nk : D → Option NestedKey
  | .non => some .none
  | .bl b => some (.num (if b then 1 else 0))
  | .int i => some (.num i)
  | .str x => some (.text x)
  | .tup xs => (D.nks xs).map .tup
  | _ => none
def D.nks : List D → Option (List NestedKey)
  | [] => some []
  | x :: xs => match D.nk x, D.nks xs with
    | some a, some as => some (a :: as)
    | _, _ => none
end

mutual
/-- a value stands for data, off the places that A names -/
def Rv (G : Gc) (A : Addr → Prop) (H : Hp) : V → D → Prop
  | v, .non => v = .non
  | v, .bl b => v = .bl b
  | v, .int i => v = .int i
  | v, .str x => v = .str x
  | v, .tup ds => ∃ a vs, v = .ref a ∧ ¬ A a ∧ H a = some (.tup vs) ∧ RvL G A H vs ds
  | v, .lst ds => ∃ a vs, v = .ref a ∧ ¬ A a ∧ H a = some (.lst vs) ∧ RvL G A H vs ds
  | _, .set _ => False
  | v, .dct kvs => ∃ a es, v = .ref a ∧ ¬ A a ∧ ((a == sysModules) = false ∧ H a = some (rawD a es)) ∧ RvE G A H es kvs
  | _, .ins _ _ => False
  | v, .fn x => ∃ f, v = .ref f ∧ G.mg x = some (.ref f)
  | v, .ty n => v = .ty n
  | v, .scr ns => ∃ a, v = .ref a ∧ ((¬ A a ∧ Rd H a (.lst (ns.map V.int))) ∨ ∀ H', SqL G.K H' a (ns.map V.int))
def RvL (G : Gc) (A : Addr → Prop) (H : Hp) : List V → List D → Prop
  | vs, [] => vs = []
  | vs, d :: ds => ∃ v r, vs = v :: r ∧ Rv G A H v d ∧ RvL G A H r ds
def RvE (G : Gc) (A : Addr → Prop) (H : Hp) : List DictEntry → List (D × D) → Prop
  | es, [] => es = []
  | es, (k, d) :: r => ∃ (e : DictEntry) (t : List DictEntry) (n : NestedKey) (vk vd : V), es = e :: t ∧ D.nk k = some n ∧ e.hash = n.hash G.w ∧ RelV vk e.key ∧ Rv G A H vk k ∧ RelV vd e.val ∧ Rv G A H vd d ∧ RvE G A H t r
end
def RvF (G : Gc) (A : Addr → Prop) (H : Hp) (vs : List (Str × V)) (fs : List (Str × D)) : Prop := vs.map (·.1) = fs.map (·.1) ∧ RvL G A H (vs.map (·.2)) (fs.map (·.2))
/-- what stands at a place is this data (the place itself may be owned) -/
def Rc (G : Gc) (A : Addr → Prop) (H : Hp) (a : Addr) : D → Prop
  | .tup ds => ∃ vs, H a = some (.tup vs) ∧ RvL G A H vs ds
  | .lst ds => ∃ vs, H a = some (.lst vs) ∧ RvL G A H vs ds
  | .dct kvs => ∃ es, ((a == sysModules) = false ∧ H a = some (rawD a es)) ∧ RvE G A H es kvs
  | .ins C fs => ∃ Ca dx vs, H a = some (.ins Ca dx vs) ∧ G.mg C = some (.ref Ca) ∧ RvF G A H vs fs
  | _ => False
/-- kinds that may be owned -/
def D.mu : D → Bool
  | .lst _ => true | .dct _ => true | .ins _ _ => true | .set _ => true | _ => false
/-- a value is this data (its own place may be owned) -/
def Rz (G : Gc) (A : Addr → Prop) (H : Hp) (v : V) (d : D) : Prop := Rv G A H v d ∨ (d.mu = true ∧ ∃ a, v = .ref a ∧ Rc G A H a d)

section
variable {G : Gc} {A B : Addr → Prop} {H H' : Hp}
/-- what is read stays where nothing but owned places turns -/
def Keeps (A B : Addr → Prop) (H H' : Hp) : Prop := ∀ a o, H a = some o → ¬ A a → H' a = some o ∧ ¬ B a
theorem Rd.tracked {a : Addr} {u : HO} (h : Rd H a u) : ∃ o, H a = some o := by
  rcases h with h | ⟨o, h⟩
  · exact ⟨_, h⟩
  · exact ⟨_, h⟩
theorem Rd.keep {a : Addr} {u : HO} (h : Rd H a u) (k : ∀ o, H a = some o → H' a = some o) : Rd H' a u := by
  rcases h with h | ⟨o, h⟩
  · exact .inl (k _ h)
  · exact .inr ⟨o, k _ h⟩
mutual
theorem Rv.keep (k : Keeps A B H H') : ∀ (d : D) (v : V), Rv G A H v d → Rv G B H' v d
  | .non, _, h => h
  | .bl _, _, h => h
  | .int _, _, h => h
  | .str _, _, h => h
  | .tup ds, _, ⟨a, vs, e, n, r, l⟩ => ⟨a, vs, e, (k a _ r n).2, (k a _ r n).1, RvL.keep k ds vs l⟩
  | .lst ds, _, ⟨a, vs, e, n, r, l⟩ => ⟨a, vs, e, (k a _ r n).2, (k a _ r n).1, RvL.keep k ds vs l⟩
  | .set _, _, h => h.elim
  | .dct kvs, _, ⟨a, es, e, n, r, l⟩ => ⟨a, es, e, (k a _ r.2 n).2, ⟨r.1, (k a _ r.2 n).1⟩, RvE.keep k kvs es l⟩
  | .ins _ _, _, h => h.elim
  | .fn _, _, h => h
  | .ty _, _, h => h
  | .scr ns, _, ⟨a, e, q⟩ => ⟨a, e, q.elim (fun q => let ⟨o, h⟩ := Rd.tracked q.2; .inl ⟨(k a o h q.1).2, Rd.keep q.2 fun o h => (k a o h q.1).1⟩) .inr⟩
theorem RvL.keep (k : Keeps A B H H') : ∀ (ds : List D) (vs : List V), RvL G A H vs ds → RvL G B H' vs ds
  | [], _, h => h
  | d :: ds, _, ⟨v, r, e, h, t⟩ => ⟨v, r, e, Rv.keep k d v h, RvL.keep k ds r t⟩
theorem RvE.keep (k : Keeps A B H H') : ∀ (kvs : List (D × D)) (es : List DictEntry), RvE G A H es kvs → RvE G B H' es kvs
  | [], _, h => h
  | (x, y) :: r, _, ⟨e, t, n, vk, vd, q, h1, h2, h3, h4, h5, h6, h7⟩ => ⟨e, t, n, vk, vd, q, h1, h2, h3, Rv.keep k x vk h4, h5, Rv.keep k y vd h6, RvE.keep k r t h7⟩
end
theorem RvF.keep (k : Keeps A B H H') {vs : List (Str × V)} {fs : List (Str × D)} (h : RvF G A H vs fs) : RvF G B H' vs fs := ⟨h.1, RvL.keep k _ _ h.2⟩
theorem RvL.length : ∀ {ds : List D} {vs : List V}, RvL G A H vs ds → vs.length = ds.length
  | [], _, h => by
    have e : _ = [] := h
    rw [e]
    rfl
  | _ :: _, _, ⟨_, _, e, _, t⟩ => by rw [e, List.length_cons, List.length_cons, RvL.length t]
theorem RvL.get : ∀ {ds : List D} {vs : List V} {i : Nat} {d : D}, RvL G A H vs ds → ds[i]? = some d → ∃ v, vs[i]? = some v ∧ Rv G A H v d
  | [], _, _, _, _, e => by simp at e
  | _ :: _, _, 0, _, ⟨v, r, q, h, _⟩, e => by
    simp at e
    subst e
    exact ⟨v, by rw [q]; rfl, h⟩
  | _ :: _, _, i + 1, _, ⟨v, r, q, _, t⟩, e => by
    obtain ⟨u, h1, h2⟩ := RvL.get (i := i) t (by simpa using e)
    exact ⟨u, by rw [q]; simpa using h1, h2⟩
theorem RvL.append : ∀ {ds es : List D} {vs us : List V}, RvL G A H vs ds → RvL G A H us es → RvL G A H (vs ++ us) (ds ++ es)
  | [], _, _, _, h, t => by
    have e : _ = [] := h
    rw [e]
    exact t
  | _ :: _, _, _, _, ⟨v, r, e, h, q⟩, t => ⟨v, r ++ _, by rw [e]; rfl, h, RvL.append q t⟩
theorem RvL.set : ∀ {ds : List D} {vs : List V} (i : Nat) {v : V} {d : D}, RvL G A H vs ds → Rv G A H v d → RvL G A H (vs.set i v) (ds.set i d)
  | [], _, _, _, _, h, _ => by
    have e : _ = [] := h
    rw [e]
    exact rfl
  | _ :: _, _, 0, v, _, ⟨_, r, e, _, q⟩, h => ⟨v, r, by rw [e]; rfl, h, q⟩
  | _ :: _, _, i + 1, _, _, ⟨w, r, e, g, q⟩, h => ⟨w, _, by rw [e]; rfl, g, RvL.set i q h⟩
theorem RvL.drop : ∀ {ds : List D} {vs : List V} (i : Nat), RvL G A H vs ds → RvL G A H (vs.drop i) (ds.drop i)
  | _, _, 0, h => h
  | [], _, i + 1, h => by
    have e : _ = [] := h
    rw [e]
    exact rfl
  | _ :: _, _, i + 1, ⟨_, r, e, _, q⟩ => by
    rw [e]
    exact RvL.drop i q
theorem RvL.take : ∀ {ds : List D} {vs : List V} (i : Nat), RvL G A H vs ds → RvL G A H (vs.take i) (ds.take i)
  | [], _, 0, h => by
    have e : _ = [] := h
    rw [e]
    exact rfl
  | _ :: _, _, 0, _ => rfl
  | [], _, i + 1, h => by
    have e : _ = [] := h
    rw [e]
    exact rfl
  | _ :: _, _, i + 1, ⟨v, r, e, h, q⟩ => by
    rw [e]
    exact ⟨v, _, rfl, h, RvL.take i q⟩
theorem Rc.keep {d : D} {a : Addr} (k : Keeps A B H H') (h0 : ∀ o, H a = some o → H' a = some o) (h : Rc G A H a d) : Rc G B H' a d := by
  cases d with
  | tup ds => exact let ⟨vs, r, l⟩ := h; ⟨vs, h0 _ r, RvL.keep k _ _ l⟩
  | lst ds => exact let ⟨vs, r, l⟩ := h; ⟨vs, h0 _ r, RvL.keep k _ _ l⟩
  | dct kvs => exact let ⟨es, r, l⟩ := h; ⟨es, ⟨r.1, h0 _ r.2⟩, RvE.keep k _ _ l⟩
  | ins C fs => exact let ⟨Ca, dx, vs, r, m, l⟩ := h; ⟨Ca, dx, vs, h0 _ r, m, RvF.keep k l⟩
  | _ => exact h.elim
theorem Rc.tracked {d : D} {a : Addr} (h : Rc G A H a d) : ∃ o, H a = some o := by
  cases d with
  | tup ds => exact let ⟨vs, r, l⟩ := h; ⟨_, r⟩
  | lst ds => exact let ⟨vs, r, l⟩ := h; ⟨_, r⟩
  | dct kvs => exact let ⟨es, r, l⟩ := h; ⟨_, r.2⟩
  | ins C fs => exact let ⟨Ca, dx, vs, r, m, l⟩ := h; ⟨_, r⟩
  | _ => exact h.elim
/-- data that may be frozen -/
def D.still : D → Bool
  | .lst _ => true | .dct _ => true | .tup _ => true | _ => false
theorem Rc.rv {d : D} {a : Addr} (h : Rc G A H a d) (n : ¬ A a) (s : d.still = true) : Rv G A H (.ref a) d := by
  cases d with
  | tup ds => exact let ⟨vs, r, l⟩ := h; ⟨a, vs, rfl, n, r, l⟩
  | lst ds => exact let ⟨vs, r, l⟩ := h; ⟨a, vs, rfl, n, r, l⟩
  | dct kvs => exact let ⟨es, r, l⟩ := h; ⟨a, es, rfl, n, r, l⟩
  | _ => first | exact h.elim | exact absurd s (by decide) | (simp [D.still] at s)
theorem Rz.rv {v : V} {d : D} (h : Rz G A H v d) (m : d.mu = false) : Rv G A H v d := h.resolve_right fun q => by
  rw [m] at q
  cases q.1
theorem Rz.lst {v : V} {ds : List D} (h : Rz G A H v (.lst ds)) : ∃ a vs, v = .ref a ∧ H a = some (.lst vs) ∧ RvL G A H vs ds := by
  rcases h with ⟨a, vs, e, _, r, l⟩ | ⟨_, a, e, vs, r, l⟩
  · exact ⟨a, vs, e, r, l⟩
  · exact ⟨a, vs, e, r, l⟩
theorem Rz.tup {v : V} {ds : List D} (h : Rz G A H v (.tup ds)) : ∃ a vs, v = .ref a ∧ ¬ A a ∧ H a = some (.tup vs) ∧ RvL G A H vs ds := h.rv rfl
theorem Rz.dct {v : V} {kvs : List (D × D)} (h : Rz G A H v (.dct kvs)) : ∃ a es, v = .ref a ∧ ((a == sysModules) = false ∧ H a = some (rawD a es)) ∧ RvE G A H es kvs := by
  rcases h with ⟨a, es, e, _, r, l⟩ | ⟨_, a, e, es, r, l⟩
  · exact ⟨a, es, e, r, l⟩
  · exact ⟨a, es, e, r, l⟩
theorem Rz.int {v : V} {i : Int} (h : Rz G A H v (.int i)) : v = .int i := h.rv rfl
theorem Rz.bl {v : V} {i : Bool} (h : Rz G A H v (.bl i)) : v = .bl i := h.rv rfl
theorem Rz.str {v : V} {i : Str} (h : Rz G A H v (.str i)) : v = .str i := h.rv rfl
theorem Rz.non {v : V} (h : Rz G A H v .non) : v = .non := h.rv rfl
theorem Rz.ty {v : V} {n : String} (h : Rz G A H v (.ty n)) : v = .ty n := h.rv rfl
end

/-! ### frames -/
inductive Sl where
  | fro (d : D) | own (lent : Bool) (d : D)
inductive Hd where
  | fro (d : D) | slot (j : Nat) | tmp (d : D)
abbrev T := List (Option Sl)
abbrev FE := T → R (Hd × T)

def Ow (σ : St) (τ : T) (a : Addr) : Prop := ∃ (j : Nat) (b : Bool) (d : D), τ[j]? = some (some (.own b d)) ∧ σ[j]? = some (some (.ref a))
def Owf (σ : St) (τ : T) (a : Addr) : Prop := ∃ (j : Nat) (d : D), τ[j]? = some (some (.own false d)) ∧ σ[j]? = some (some (.ref a))
def Av (W : Addr → Prop) (σ : St) (τ : T) (a : Addr) : Prop := W a ∨ Ow σ τ a

structure StR (G : Gc) (W : Addr → Prop) (σ : St) (H : Hp) (τ : T) : Prop where
  trk : ∀ a, W a → H a ≠ none
  fro : ∀ (j : Nat) (d : D), τ[j]? = some (some (.fro d)) → ∃ v, σ[j]? = some (some v) ∧ Rv G (Av W σ τ) H v d
  own : ∀ (j : Nat) (b : Bool) (d : D), τ[j]? = some (some (.own b d)) → ∃ a, σ[j]? = some (some (.ref a)) ∧ Mut (H a) ∧ Rc G (Av W σ τ) H a d
  apart : ∀ (i j : Nat) (b c : Bool) (d e : D) (a : Addr), τ[i]? = some (some (.own b d)) → τ[j]? = some (some (.own c e)) → σ[i]? = some (some (.ref a)) → σ[j]? = some (some (.ref a)) → i = j
  len : τ.length = σ.length
  nw : ∀ a, Owf σ τ a → ¬ W a

structure Ev (G : Gc) (W : Addr → Prop) (σ : St) (H : Hp) (τ : T) (W' : Addr → Prop) (σ' : St) (H' : Hp) (τ' : T) : Prop where
  frm : ∀ a o, H a = some o → ¬ Ow σ τ a → H' a = some o
  trk : ∀ a, H a ≠ none → H' a ≠ none
  subf : ∀ a, Owf σ' τ' a → Owf σ τ a ∨ H a = none
  lent : ∀ (j : Nat) (d : D), τ'[j]? = some (some (.own true d)) → (∃ e, τ[j]? = some (some (.own true e))) ∧ σ'[j]? = σ[j]?
  wsub : ∀ a, W a → W' a
  wnew : ∀ a, W' a → W a ∨ H a = none
  st : StR G W' σ' H' τ'
  len : σ'.length = σ.length

section
variable {G : Gc} {W W' W1 W2 : Addr → Prop} {σ σ' σ1 σ2 : St} {H H' H1 H2 : Hp} {τ τ' τ1 τ2 : T}
theorem mut_some {o : Option HO} (m : Mut o) : o ≠ none := fun e => by
  rw [e] at m
  exact m
theorem StR.owT (s : StR G W σ H τ) {a : Addr} (h : Ow σ τ a) : H a ≠ none := by
  obtain ⟨j, b, d, h1, h2⟩ := h
  obtain ⟨a', q1, q2, _⟩ := s.own j b d h1
  rw [h2] at q1
  cases q1
  exact mut_some q2
theorem StR.avT (s : StR G W σ H τ) {a : Addr} (h : Av W σ τ a) : H a ≠ none := h.elim (s.trk a) s.owT
theorem Ev.sub (e : Ev G W σ H τ W' σ' H' τ') {a : Addr} (h : Ow σ' τ' a) : Ow σ τ a ∨ H a = none := by
  obtain ⟨j, b, d, h1, h2⟩ := h
  cases b with
  | true =>
    obtain ⟨⟨e', q⟩, q2⟩ := e.lent j d h1
    exact .inl ⟨j, true, e', q, by rw [← q2]; exact h2⟩
  | false =>
    rcases e.subf a ⟨j, d, h1, h2⟩ with ⟨i, d', p1, p2⟩ | q
    · exact .inl ⟨i, false, d', p1, p2⟩
    · exact .inr q
theorem Ev.avs (e : Ev G W σ H τ W' σ' H' τ') {a : Addr} (h : Av W' σ' τ' a) : Av W σ τ a ∨ H a = none := by
  rcases h with h | h
  · rcases e.wnew a h with h | h
    · exact .inl (.inl h)
    · exact .inr h
  · rcases e.sub h with h | h
    · exact .inl (.inr h)
    · exact .inr h
theorem Ev.keeps (e : Ev G W σ H τ W' σ' H' τ') : Keeps (Av W σ τ) (Av W' σ' τ') H H' := fun a o h n =>
  ⟨e.frm a o h fun q => n (.inr q), fun q => by
    rcases e.avs q with q | q
    · exact n q
    · rw [h] at q
      cases q⟩
theorem Ev.refl (s : StR G W σ H τ) : Ev G W σ H τ W σ H τ :=
  ⟨fun _ _ h _ => h, fun _ h => h, fun _ h => .inl h, fun _ _ h => ⟨⟨_, h⟩, rfl⟩, fun _ h => h, fun _ h => .inl h, s, rfl⟩
theorem Ev.trans (e : Ev G W σ H τ W1 σ1 H1 τ1) (f : Ev G W1 σ1 H1 τ1 W2 σ2 H2 τ2) : Ev G W σ H τ W2 σ2 H2 τ2 where
  frm := fun a o h n => f.frm a o (e.frm a o h n) fun q => by
    rcases e.sub q with q | q
    · exact n q
    · rw [h] at q
      cases q
  trk := fun a h => f.trk a (e.trk a h)
  subf := fun a h => by
    rcases f.subf a h with h | h
    · exact e.subf a h
    · refine .inr (Classical.byContradiction fun q => ?_)
      exact e.trk a q h
  lent := fun j d h => by
    obtain ⟨⟨d', q⟩, q2⟩ := f.lent j d h
    obtain ⟨r, r2⟩ := e.lent j d' q
    exact ⟨r, q2.trans r2⟩
  wsub := fun a h => f.wsub a (e.wsub a h)
  wnew := fun a h => by
    rcases f.wnew a h with h | h
    · exact e.wnew a h
    · refine .inr (Classical.byContradiction fun q => ?_)
      exact e.trk a q h
  st := f.st
  len := f.len.trans e.len
end

/-- what a handle says -/
def HdR (G : Gc) (H0 : Hp) (W : Addr → Prop) (σ : St) (H : Hp) (τ : T) (v : V) : Hd → Prop
  | .fro d => Rv G (Av W σ τ) H v d
  | .slot j => σ[j]? = some (some v)
  | .tmp d => ∃ a, v = .ref a ∧ H0 a = none ∧ W a ∧ ¬ Ow σ τ a ∧ Mut (H a) ∧ Rc G (Av W σ τ) H a d
section
variable {G : Gc} {H0 : Hp} {W W' W1 W2 : Addr → Prop} {σ σ' σ1 σ2 : St} {H H' H1 H2 : Hp} {τ τ' τ1 τ2 : T} {v : V} {h : Hd} {d : D}
theorem HdR.step (r : HdR G H0 W1 σ H1 τ1 v h) (e : Ev G W1 σ H1 τ1 W2 σ H2 τ2) : HdR G H0 W2 σ H2 τ2 v h := by
  cases h with
  | fro d => exact Rv.keep e.keeps d v r
  | slot j => exact r
  | tmp d =>
    obtain ⟨a, q1, q2, q3, q4, q5, q6⟩ := r
    obtain ⟨o, ho⟩ := Rc.tracked q6
    have k : ∀ o, H1 a = some o → H2 a = some o := fun o h => e.frm a o h q4
    refine ⟨a, q1, q2, e.wsub a q3, fun z => ?_, by rw [k o ho, ← ho]; exact q5, Rc.keep e.keeps k q6⟩
    rcases e.sub z with z | z
    · exact q4 z
    · rw [ho] at z
      cases z
theorem HdR.start {H0' : Hp} (r : HdR G H0 W σ H τ v h) (k : ∀ a, H0' a ≠ none → H0 a ≠ none) : HdR G H0' W σ H τ v h := by
  cases h with
  | fro d => exact r
  | slot j => exact r
  | tmp d =>
    obtain ⟨a, q1, q2, q⟩ := r
    exact ⟨a, q1, Classical.byContradiction fun z => k a z q2, q⟩
/-- what a handle holds -/
def peek (τ : T) : Hd → Option D
  | .fro d => some d
  | .tmp d => if d.mu = true then some d else none
  | .slot j => match τ[j]? with
    | some (some (.own _ d)) => if d.mu = true then some d else none
    | some (some (.fro d)) => some d
    | _ => none
theorem peek_ok (r : HdR G H0 W σ H τ v h) (s : StR G W σ H τ) (p : peek τ h = some d) : Rz G (Av W σ τ) H v d := by
  cases h with
  | fro e =>
    cases p
    exact .inl r
  | tmp e =>
    unfold peek at p
    dsimp only at p
    split at p
    · rename_i m
      cases p
      obtain ⟨a, q1, _, _, _, _, q6⟩ := r
      exact .inr ⟨m, a, q1, q6⟩
    · cases p
  | slot j =>
    unfold peek at p
    dsimp only at p
    split at p
    · rename_i b e he
      split at p
      · rename_i m
        cases p
        obtain ⟨a, q1, _, q3⟩ := s.own j b _ he
        have r' : σ[j]? = some (some v) := r
        rw [r'] at q1
        cases q1
        exact .inr ⟨m, a, rfl, q3⟩
      · cases p
    · rename_i e he
      cases p
      obtain ⟨u, q1, q3⟩ := s.fro j _ he
      have r' : σ[j]? = some (some v) := r
      rw [r'] at q1
      cases q1
      exact .inl q3
    · cases p
/-- a handle is frozen -/
def frz (τ : T) : Hd → R (D × T)
  | .fro d => .ok (d, τ)
  | .tmp d => if d.still then .ok (d, τ) else .stuck
  | .slot j => match τ[j]? with
    | some (some (.own false d)) => if d.still then .ok (d, τ.set j (some (.fro d))) else .stuck
    | some (some (.fro d)) => .ok (d, τ)
    | _ => .stuck
end
end F
set_option Elab.async false
set_option linter.all false
set_option maxRecDepth 100000
set_option maxHeartbeats 4000000
/-! FB: the judgement of expressions (own work) -/
namespace F
open PySem L2

/-! ### what is wanted of exceptions -/
structure XW where
  run : (Addr → Prop) → Hp → Str → D → Prop
  mono : ∀ (M M1 : Addr → Prop) (H H1 : Hp) (c : Str) (d : D), (∀ a o, H a = some o → ¬ M a → H1 a = some o) → (∀ a, M1 a → M a ∨ H a = none) → run M H c d → run M1 H1 c d
def xw0 : XW := ⟨fun _ _ _ _ => False, fun _ _ _ _ _ _ _ _ h => h⟩
def Wm (E : XW) (M : Addr → Prop) (H : Hp) {α : Type} (k : α → Prop) : R α → Prop
  | .ok a => k a
  | .ex c d => E.run M H c d
  | .stuck => False
section
variable {E : XW} {M M1 : Addr → Prop} {H H1 : Hp} {α β : Type} {k k' : α → Prop} {x : R α}
theorem Wm.imp (h : Wm E M H k x) (g : ∀ a, x = .ok a → k a → k' a) : Wm E M H k' x := by
  cases x with
  | ok a => exact g a rfl h
  | ex c d => exact h
  | stuck => exact h
theorem Wm.move (h : Wm E M H k x) (f : ∀ a o, H a = some o → ¬ M a → H1 a = some o) (s : ∀ a, M1 a → M a ∨ H a = none) : Wm E M1 H1 k x := by
  cases x with
  | ok a => exact h
  | ex c d => exact E.mono M M1 H H1 c d f s h
  | stuck => exact h
theorem Wm.bind {q : β → Prop} {f : α → R β} (h : Wm E M H q (R.bind x f)) : Wm E M H (fun a => Wm E M H q (f a)) x := by
  cases x with
  | ok a => exact h
  | ex c d => exact h
  | stuck => exact h
theorem Wm.opt {q : β → Prop} {o : Option α} {f : α → R β} (h : Wm E M H q (R.bind (ofO o) f)) : ∃ a, o = some a ∧ Wm E M H q (f a) := by
  cases o with
  | some a => exact ⟨a, rfl, h⟩
  | none => exact h.elim
theorem Wm.chk {q : β → Prop} {b : Bool} {f : Unit → R β} (h : Wm E M H q (R.bind (chk b) f)) : b = true ∧ Wm E M H q (f ()) := by
  cases b with
  | true => exact ⟨rfl, h⟩
  | false => exact h.elim
end

/-! ### shrinking, keeping, new things -/
section
variable {G : Gc} {W W' W1 W2 : Addr → Prop} {σ σ' σ1 σ2 : St} {H H' H1 H2 H0 : Hp} {τ τ' τ1 τ2 : T} {v : V} {h : Hd} {d : D}
theorem Keeps.less {A B : Addr → Prop} (k : ∀ a, B a → A a) : Keeps A B H H := fun a o e n => ⟨e, fun q => n (k a q)⟩
theorem StR.shrink (s : StR G W σ H τ) (k : ∀ a, W' a → W a) : StR G W' σ H τ := by
  have ka : Keeps (Av W σ τ) (Av W' σ τ) H H := Keeps.less fun a q => q.elim (fun q => .inl (k a q)) .inr
  refine ⟨fun a q => s.trk a (k a q), fun j d e => ?_, fun j b d e => ?_, s.apart, s.len, fun a q z => s.nw a q (k a z)⟩
  · obtain ⟨v, h1, h2⟩ := s.fro j d e
    exact ⟨v, h1, Rv.keep ka d v h2⟩
  · obtain ⟨a, h1, h2, h3⟩ := s.own j b d e
    exact ⟨a, h1, h2, Rc.keep ka (fun _ q => q) h3⟩
/-- nothing that was is touched; more is guarded, all of it new -/
theorem StR.same (s : StR G W σ H τ) (k : Same H H') (hw : ∀ a, W' a → W a ∨ H a = none) (ht : ∀ a, W' a → H' a ≠ none) : StR G W' σ H' τ := by
  have kt : ∀ a, Ow σ τ a → H a ≠ none := fun a q => s.owT q
  have ka : Keeps (Av W σ τ) (Av W' σ τ) H H' := fun a o e n => ⟨k a o e, fun q => by
    rcases q with q | q
    · rcases hw a q with q | q
      · exact n (.inl q)
      · rw [e] at q
        cases q
    · exact n (.inr q)⟩
  refine ⟨ht, fun j d e => ?_, fun j b d e => ?_, s.apart, s.len, fun a q z => ?_⟩
  · obtain ⟨v, h1, h2⟩ := s.fro j d e
    exact ⟨v, h1, Rv.keep ka d v h2⟩
  · obtain ⟨a, h1, h2, h3⟩ := s.own j b d e
    obtain ⟨o, ho⟩ := Rc.tracked h3
    exact ⟨a, h1, by rw [k a o ho, ← ho]; exact h2, Rc.keep ka (k a) h3⟩
  · obtain ⟨j, d, e1, e2⟩ := q
    rcases hw a z with z | z
    · exact s.nw a ⟨j, d, e1, e2⟩ z
    · exact kt a ⟨j, false, d, e1, e2⟩ z
theorem Same.tracked (k : Same H H') : ∀ a, H a ≠ none → H' a ≠ none := fun a n => by
  cases e : H a with
  | none => exact absurd e n
  | some o =>
    rw [k a o e]
    exact fun q => nomatch q
theorem Ev.same (s : StR G W σ H τ) (k : Same H H') : Ev G W σ H τ W σ H' τ :=
  ⟨fun a o e _ => k a o e, Same.tracked k, fun a q => .inl q, fun j d q => ⟨⟨d, q⟩, rfl⟩, fun a q => q, fun a q => .inl q, s.same k (fun a q => .inl q) fun a q => Same.tracked k a (s.trk a q), rfl⟩

/-- a result that was made: old things stay -/
def New (G : Gc) (A : Addr → Prop) (H H' : Hp) (v : V) : Hd → Prop
  | .fro d => Rv G A H' v d
  | .slot _ => False
  | .tmp d => ∃ a, v = .ref a ∧ H a = none ∧ Mut (H' a) ∧ Rc G (fun b => A b ∨ b = a) H' a d
theorem ev_new (s : StR G W σ H τ) (k : Same H H') (n : New G (Av W σ τ) H H' v h) : ∃ W', Ev G W σ H τ W' σ H' τ ∧ HdR G H W' σ H' τ v h := by
  cases h with
  | fro d => exact ⟨W, Ev.same s k, n⟩
  | slot j => exact n.elim
  | tmp d =>
    obtain ⟨a, q1, q2, q3, q4⟩ := n
    have nt : ¬ Ow σ τ a := fun z => s.owT z q2
    refine ⟨fun b => W b ∨ b = a, ⟨fun a o e _ => k a o e, Same.tracked k, fun a q => .inl q, fun j d q => ⟨⟨d, q⟩, rfl⟩, fun a q => .inl q, fun b q => ?_, s.same k (fun b q => ?_) (fun b q => ?_), rfl⟩, a, q1, q2, .inr rfl, nt, q3, ?_⟩
    · rcases q with q | q
      · exact .inl q
      · exact .inr (by rw [q]; exact q2)
    · rcases q with q | q
      · exact .inl q
      · exact .inr (by rw [q]; exact q2)
    · rcases q with q | q
      · exact Same.tracked k b (s.trk b q)
      · rw [q]
        exact mut_some q3
    · refine Rc.keep (Keeps.less fun b q => ?_) (fun _ q => q) q4
      rcases q with (q | q) | q
      · exact .inl (.inl q)
      · exact .inr q
      · exact .inl (.inr q)

/-- freezing -/
theorem frz_ev (s0 : StR G W σ H τ) (e : Ev G W σ H τ W' σ H' τ1) (r : HdR G H W' σ H' τ1 v h) (p : frz τ1 h = .ok (d, τ2)) : ∃ W2, Ev G W σ H τ W2 σ H' τ2 ∧ Rv G (Av W2 σ τ2) H' v d := by
  cases h with
  | fro d' =>
    cases p
    exact ⟨W', e, r⟩
  | tmp d' =>
    unfold frz at p
    dsimp only at p
    split at p
    · rename_i st
      cases p
      obtain ⟨a, q1, q2, q3, q4, q5, q6⟩ := r
      subst q1
      refine ⟨fun b => W' b ∧ b ≠ a, ⟨e.frm, e.trk, e.subf, e.lent, fun b q => ⟨e.wsub b q, fun z => ?_⟩, fun b q => e.wnew b q.1, e.st.shrink fun b q => q.1, e.len⟩, Rc.rv (Rc.keep (Keeps.less fun b q => q.elim (fun q => .inl q.1) .inr) (fun _ q => q) q6) (fun z => ?_) st⟩
      · rw [z] at q
        exact s0.trk a q q2
      · rcases z with z | z
        · exact z.2 rfl
        · exact q4 z
    · cases p
  | slot j =>
    unfold frz at p
    dsimp only at p
    split at p
    · rename_i d' he
      split at p
      · rename_i st
        cases p
        have hj : j < τ1.length := (List.getElem?_eq_some_iff.mp he).1
        obtain ⟨a, o1, o2, o3⟩ := e.st.own j false _ he
        have r' : σ[j]? = some (some v) := r
        rw [r'] at o1
        cases o1
        -- what is owned behind it was owned ahead of it
        have sub : ∀ (b : Addr) (i : Nat) (c : Bool) (x : D), (τ1.set j (some (.fro d)))[i]? = some (some (.own c x)) → i ≠ j ∧ τ1[i]? = some (some (.own c x)) := fun b i c x q => by
          by_cases ij : j = i
          · subst ij
            rw [List.getElem?_set_self hj] at q
            cases q
          · rw [List.getElem?_set_ne ij] at q
            exact ⟨fun z => ij z.symm, q⟩
        have ow : ∀ b, Ow σ (τ1.set j (some (.fro d))) b → Ow σ τ1 b := fun b ⟨i, c, x, q1, q2⟩ => ⟨i, c, x, (sub b i c x q1).2, q2⟩
        have na : ¬ Ow σ (τ1.set j (some (.fro d))) a := fun ⟨i, c, x, q1, q2⟩ => by
          obtain ⟨ne, q⟩ := sub a i c x q1
          exact ne (e.st.apart i j c false x d a q he q2 r')
        have ka : Keeps (Av W' σ τ1) (Av W' σ (τ1.set j (some (.fro d)))) H' H' := Keeps.less fun b q => q.elim .inl fun q => .inr (ow b q)
        have st' : StR G W' σ H' (τ1.set j (some (.fro d))) := by
          refine ⟨e.st.trk, fun i x q => ?_, fun i b x q => ?_, fun i k b c x y b' q1 q2 p1 p2 => ?_, by rw [List.length_set]; exact e.st.len, fun b ⟨i, x, q1, q2⟩ => e.st.nw b ⟨i, x, (sub b i false x q1).2, q2⟩⟩
          · by_cases ij : j = i
            · subst ij
              rw [List.getElem?_set_self hj] at q
              cases q
              refine ⟨_, r', Rc.rv (Rc.keep ka (fun _ q => q) o3) (fun z => ?_) st⟩
              rcases z with z | z
              · exact e.st.nw a ⟨j, d, he, r'⟩ z
              · exact na z
            · rw [List.getElem?_set_ne ij] at q
              obtain ⟨u, h1, h2⟩ := e.st.fro i x q
              exact ⟨u, h1, Rv.keep ka x u h2⟩
          · obtain ⟨u, h1, h2, h3⟩ := e.st.own i b x (sub a i b x q).2
            exact ⟨u, h1, h2, Rc.keep ka (fun _ q => q) h3⟩
          · exact e.st.apart i k b c x y b' (sub b' i b x q1).2 (sub b' k c y q2).2 p1 p2
        refine ⟨W', ⟨e.frm, e.trk, fun b ⟨i, x, q1, q2⟩ => e.subf b ⟨i, x, (sub b i false x q1).2, q2⟩, fun i x q => e.lent i x (sub a i true x q).2, e.wsub, e.wnew, st', e.len⟩, ?_⟩
        obtain ⟨u, h1, h2⟩ := st'.fro j d (List.getElem?_set_self hj)
        rw [r'] at h1
        cases h1
        exact h2
      · cases p
    · rename_i d' he
      cases p
      obtain ⟨u, h1, h2⟩ := e.st.fro j _ he
      have r' : σ[j]? = some (some v) := r
      rw [r'] at h1
      cases h1
      exact ⟨W', e, h2⟩
    · cases p
end

/-! ### the judgement -/
def EEt (G : Gc) (E : XW) (f : FE) : TE := fun σ H Q => ∃ W τ, StR G W σ H τ ∧ Wm E (Ow σ τ) H (fun p => ∀ v H' W', Ev G W σ H τ W' σ H' p.2 → HdR G H W' σ H' p.2 v p.1 → Q v H') (f τ)
def EE (X : Cx) (E : XW) (e : Expr) (f : FE) : Prop := PE X e (EEt (gc X) E f)
theorem PE.imp {X : Cx} {e : Expr} {t t' : TE} (h : PE X e t) (k : ∀ σ H Q, t' σ H Q → t σ H Q) : PE X e t' := ⟨fun pins s σ H Q I q => h.run pins s σ H Q I (k σ H Q q)⟩
/-- a test -/
def EBt (G : Gc) (E : XW) (f : T → R (Bool × T)) : TT := fun σ H Q => ∃ W τ, StR G W σ H τ ∧ Wm E (Ow σ τ) H (fun p => ∀ H' W', Ev G W σ H τ W' σ H' p.2 → Q p.1 H') (f τ)
def EB (X : Cx) (E : XW) (e : Expr) (f : T → R (Bool × T)) : Prop := PT X e (EBt (gc X) E f)
def EBW (X : Cx) (E : XW) (e : Expr) (f : T → R (Bool × T)) : Prop := PW X e (EBt (gc X) E f)
theorem PT.imp {X : Cx} {e : Expr} {t t' : TT} (h : PT X e t) (k : ∀ σ H Q, t' σ H Q → t σ H Q) : PT X e t' := ⟨fun pins s σ H Q I q => h.run pins s σ H Q I (k σ H Q q)⟩
theorem PW.imp {X : Cx} {e : Expr} {t t' : TT} (h : PW X e t) (k : ∀ σ H Q, t' σ H Q → t σ H Q) : PW X e t' := ⟨fun wh pins s σ H Q I q => h.run wh pins s σ H Q I (k σ H Q q)⟩

section
variable {X : Cx} {E : XW} {e a b c : Expr} {f g k : FE} {pos : Pos}
/-- from where one stands: what a part asks -/
theorem EEt.at {G : Gc} {W0 W : Addr → Prop} {σ0 σ : St} {H0 H : Hp} {τ0 τ : T} {Q : VK} {q : Hd × T → Prop} (ev : Ev G W0 σ0 H0 τ0 W σ H τ) (m : Wm E (Ow σ0 τ0) H0 q (f τ))
    (h : ∀ h τ' v H' W', q (h, τ') → Ev G W0 σ0 H0 τ0 W' σ H' τ' → HdR G H0 W' σ H' τ' v h → Ev G W σ H τ W' σ H' τ' → Q v H') : EEt G E f σ H Q := by
  refine ⟨W, τ, ev.st, (m.move ev.frm fun a q => ev.sub q).imp fun p _ hp v H' W' e1 r1 => ?_⟩
  obtain ⟨hd, τ'⟩ := p
  exact h hd τ' v H' W' hp (ev.trans e1) (r1.start fun a z => ev.trk a z) e1
def sFrz (f : FE) : FE := fun τ => (f τ).bind fun p => (frz p.2 p.1).bind fun q => .ok (.fro q.1, q.2)
theorem ee_frz (h : EE X E e f) : EE X E e (sFrz f) := by
  refine PE.imp h fun σ H Q ⟨W, τ, s, m⟩ => ?_
  refine EEt.at (Ev.refl s) m.bind fun hd τ' v H' W' q ev r _ => ?_
  cases z : frz τ' hd with
  | ok p =>
    obtain ⟨d, τ2⟩ := p
    dsimp only at q
    rw [z] at q
    obtain ⟨W2, e2, r2⟩ := frz_ev s ev r z
    exact q v H' W2 e2 r2
  | ex c d =>
    exfalso
    clear q
    revert z
    unfold frz
    split <;> (try split) <;> (try split) <;> intro z <;> cases z
  | stuck =>
    dsimp only at q
    rw [z] at q
    exact q.elim

def sVar (i : Nat) : FE := fun τ => match τ[i]? with
  | some (some (.fro d)) => .ok (.fro d, τ)
  | some (some (.own _ _)) => .ok (.slot i, τ)
  | _ => .stuck
theorem ee_var (i : Nat) {x : Str} (hN : X.N[i]? = some x := by rfl) (hv : Vis X.env.scope x := by first | exact Or.inl rfl | exact Or.inr (Or.inl rfl) | exact Or.inr (Or.inr rfl)) (hd : (x == ("__debug__" : Str)) = false := by decide)
    (hcd : (x == ("__classdict__" : Str)) = false := by decide) : EE X E (.Name x pos) (sVar i) := by
  refine PE.imp (pe_var hN hv hd hcd) fun σ H Q ⟨W, τ, s, m⟩ => ?_
  unfold sVar at m
  split at m
  · rename_i d he
    obtain ⟨v, h1, h2⟩ := s.fro i d he
    exact ⟨v, h1, m v H W (Ev.refl s) h2⟩
  · rename_i b d he
    obtain ⟨a, h1, h2, h3⟩ := s.own i b d he
    exact ⟨_, h1, m _ H W (Ev.refl s) h1⟩
  · exact m.elim

def sC (d : D) : FE := fun τ => .ok (.fro d, τ)
theorem ee_c {t : V} {d : D} (h : PE X e (tC t)) (r : ∀ A H, Rv (gc X) A H t d) : EE X E e (sC d) :=
  PE.imp h fun σ H Q ⟨W, τ, s, m⟩ => m t H W (Ev.refl s) (r _ _)
theorem ee_int {i : Int} {j} : EE X E (.Constant (.int i) j pos) (sC (.int i)) := ee_c pe_int fun _ _ => rfl
theorem ee_bl {i : Bool} {j} : EE X E (.Constant (.bool i) j pos) (sC (.bl i)) := ee_c pe_bl fun _ _ => rfl
theorem ee_non {j} : EE X E (.Constant .none j pos) (sC .non) := ee_c pe_non fun _ _ => rfl
theorem ee_str {i : Str} {j} : EE X E (.Constant (.str i) j pos) (sC (.str i)) := ee_c pe_str fun _ _ => rfl
/-- a module's whole number -/
theorem ee_globI {x : Str} {i : Int} {t : Tok} (hg : Gl X x) (hm : X.mg x = some (.int i t)) (hd : (x == ("__debug__" : Str)) = false := by decide) : EE X E (.Name x pos) (sC (.int i)) := ee_c (t := .int i) (pe_glob hg hm ⟨t, rfl⟩ hd) fun _ _ => rfl
/-- a def as a value -/
theorem ee_globF {x : Str} {fa : Addr} (hg : Gl X x) (hm : X.mg x = some (.ref fa)) (hd : (x == ("__debug__" : Str)) = false := by decide) : EE X E (.Name x pos) (sC (.fn x)) := ee_c (t := .ref fa) (pe_glob hg hm rfl hd) fun _ _ => ⟨fa, rfl, hm⟩

/-! ### two operands -/
def rOp2 (G : Gc) (op : D → D → Option Hd) : R2 := fun x y H Q => ∃ (A : Addr → Prop) (d e : D) (h : Hd), (∀ a, A a → H a ≠ none) ∧ Rz G A H x d ∧ Rz G A H y e ∧ op d e = some h ∧ ∀ v H', Same H H' → New G A H H' v h → Q v H'
def sOp2 (op : D → D → Option Hd) (f g : FE) : FE := fun τ => (f τ).bind fun p => (g p.2).bind fun q => (ofO (peek q.2 p.1)).bind fun d => (ofO (peek q.2 q.1)).bind fun e => (ofO (op d e)).bind fun h => .ok (h, q.2)
/-- behind both operands -/
theorem op2_at {op : D → D → Option Hd} {σ : St} {H : Hp} {Q : VK} (h : EEt (gc X) E (sOp2 op f g) σ H Q) : EEt (gc X) E f σ H fun x H1 => EEt (gc X) E g σ H1 fun y H2 => rOp2 (gc X) op x y H2 Q := by
  obtain ⟨W, τ, s, m⟩ := h
  refine EEt.at (Ev.refl s) m.bind fun h1 τ1 v1 H1 W1 q1 ev1 r1 _ => ?_
  refine EEt.at ev1 q1.bind fun h2 τ2 v2 H2 W2 q2 ev2 r2 st2 => ?_
  obtain ⟨d, p1, q2⟩ := q2.opt
  obtain ⟨e, p2, q2⟩ := q2.opt
  obtain ⟨h, p3, q2⟩ := q2.opt
  refine ⟨Av W2 σ τ2, d, e, h, fun a z => ev2.st.avT z, peek_ok (r1.step st2) ev2.st p1, peek_ok r2 ev2.st p2, p3, fun v H3 sm n => ?_⟩
  obtain ⟨W3, ev3, r3⟩ := ev_new ev2.st sm n
  exact q2 v H3 W3 (ev2.trans ev3) (r3.start fun a z => ev2.trk a z)
theorem ee_op {o : Operator} {op : D → D → Option Hd} (ho : OpR X (binaryOp o) (rOp2 (gc X) op)) (ha : EE X E a f) (hb : EE X E b g) : EE X E (.BinOp a o b pos) (sOp2 op f g) :=
  PE.imp (pe_op ho ha hb) fun _ _ _ h => op2_at h
theorem ee_cmp {o : CmpOp} {op : D → D → Option Hd} (ho : OpR X (compareOp o) (rOp2 (gc X) op)) (ha : EE X E a f) (hb : EE X E b g) (hm : behindInMarks o b = false := by first | exact nomark _ | rfl) : EE X E (.Compare a [o] [b] pos) (sOp2 op f g) :=
  PE.imp (pe_cmpR ho ha hb hm) fun _ _ _ h => op2_at h
theorem ee_ix {op : D → D → Option Hd} (ho : IxR X (rOp2 (gc X) op)) (ha : EE X E a f) (hb : EE X E b g) (hs : PlainIx b := by intro _ _; rfl) : EE X E (.Subscript a b pos) (sOp2 op f g) :=
  PE.imp (pe_ix ho ha hb hs) fun _ _ _ h => op2_at h
/-- the truth of a bool -/
def asB (x : R (Hd × T)) : R (Bool × T) := x.bind fun p => match p.1 with
  | .fro (.bl b) => .ok (b, p.2)
  | _ => .stuck
theorem asB_at {σ : St} {H : Hp} {Q : Bool → Hp → Prop} (h : EBt (gc X) E (fun τ => asB (f τ)) σ H Q) : tB (EEt (gc X) E f) σ H Q := by
  obtain ⟨W, τ, s, m⟩ := h
  refine EEt.at (Ev.refl s) m.bind fun h1 τ1 v1 H1 W1 q1 ev1 r1 _ => ?_
  dsimp only at q1
  split at q1
  · rename_i b
    exact ⟨b, r1, q1 H1 W1 ev1⟩
  · exact q1.elim
theorem eb_cmp {o : CmpOp} {op : D → D → Option Hd} (ho : OpR X (compareOp o) (rOp2 (gc X) op)) (ha : EE X E a f) (hb : EE X E b g) (hm : behindInMarks o b = false := by first | exact nomark _ | rfl) : EB X E (.Compare a [o] [b] pos) (fun τ => asB (sOp2 op f g τ)) :=
  PT.imp (pt_cmpR ho ha hb hm) fun σ H Q h => by
    obtain ⟨W, τ, s, m⟩ := asB_at h
    have := op2_at (X := X) (Q := fun x H1 => ∃ c, x = V.bl c ∧ Q c H1) ⟨W, τ, s, m⟩
    exact this
/-- an expression that gives a bool, as a test -/
theorem eb_val (he : EE X E e f) (hw : ∀ whole, isTrue e X.env whole = (do let v ← whole; standAt e.pos; holding [v] (truthy v)) := by intro _; rfl) : EB X E e (fun τ => asB (f τ)) :=
  PT.imp (pt_val he hw) fun _ _ _ h => asB_at h
end
end F
set_option Elab.async false
set_option linter.all false
set_option maxRecDepth 100000
set_option maxHeartbeats 4000000
/-! FC: tests, arguments, displays, statements (own work) -/
namespace F
open PySem L2

section
variable {X : Cx} {E : XW} {e a b c : Expr} {es : List Expr} {f g k : FE} {fb gb : T → R (Bool × T)} {pos : Pos}
theorem EBt.at {G : Gc} {W0 W : Addr → Prop} {σ0 σ : St} {H0 H : Hp} {τ0 τ : T} {Q : Bool → Hp → Prop} {q : Bool × T → Prop} (ev : Ev G W0 σ0 H0 τ0 W σ H τ) (m : Wm E (Ow σ0 τ0) H0 q (fb τ))
    (h : ∀ b τ' H' W', q (b, τ') → Ev G W0 σ0 H0 τ0 W' σ H' τ' → Q b H') : EBt G E fb σ H Q := by
  refine ⟨W, τ, ev.st, (m.move ev.frm fun a q => ev.sub q).imp fun p _ hp H' W' e1 => ?_⟩
  obtain ⟨b, τ'⟩ := p
  exact h b τ' H' W' hp (ev.trans e1)
/-! ### and, or, not, if -/
def bAnd (f g : T → R (Bool × T)) : T → R (Bool × T) := fun τ => (f τ).bind fun p => if p.1 = true then g p.2 else .ok (false, p.2)
def bOr (f g : T → R (Bool × T)) : T → R (Bool × T) := fun τ => (f τ).bind fun p => if p.1 = true then .ok (true, p.2) else g p.2
def bNot (f : T → R (Bool × T)) : T → R (Bool × T) := fun τ => (f τ).bind fun p => .ok (!p.1, p.2)
theorem eb_and1 (ha : EB X E a fb) : EBW X E (.BoolOp .And [a] pos) fb := pw_and1 ha
theorem eb_or1 (ha : EB X E a fb) : EBW X E (.BoolOp .Or [a] pos) fb := pw_or1 ha
theorem eb_and (ha : EB X E a fb) (hb : EBW X E (.BoolOp .And (b :: es) pos) gb) : EBW X E (.BoolOp .And (a :: b :: es) pos) (bAnd fb gb) :=
  PW.imp (pw_and ha hb) fun σ H Q ⟨W, τ, s, m⟩ => by
    refine EBt.at (Ev.refl s) m.bind fun c τ1 H1 W1 q ev => ?_
    cases c with
    | true =>
      rw [if_pos rfl]
      exact EBt.at ev q fun d τ2 H2 W2 q2 ev2 => q2 H2 W2 ev2
    | false =>
      rw [if_neg Bool.false_ne_true]
      exact q H1 W1 ev
theorem eb_or (ha : EB X E a fb) (hb : EBW X E (.BoolOp .Or (b :: es) pos) gb) : EBW X E (.BoolOp .Or (a :: b :: es) pos) (bOr fb gb) :=
  PW.imp (pw_or ha hb) fun σ H Q ⟨W, τ, s, m⟩ => by
    refine EBt.at (Ev.refl s) m.bind fun c τ1 H1 W1 q ev => ?_
    cases c with
    | true =>
      rw [if_pos rfl]
      exact q H1 W1 ev
    | false =>
      rw [if_neg Bool.false_ne_true]
      exact EBt.at ev q fun d τ2 H2 W2 q2 ev2 => q2 H2 W2 ev2
theorem eb_w (h : EBW X E e fb) : EB X E e fb := PW.pt h
theorem eb_not (ha : EB X E a fb) : EB X E (.UnaryOp .Not a pos) (bNot fb) :=
  PT.imp (pt_not ha) fun σ H Q ⟨W, τ, s, m⟩ => EBt.at (Ev.refl s) m.bind fun c τ1 H1 W1 q ev => q H1 W1 ev
def sAnd (f g : FE) : FE := fun τ => (asB (f τ)).bind fun p => if p.1 = true then g p.2 else .ok (.fro (.bl false), p.2)
def sOr (f g : FE) : FE := fun τ => (asB (f τ)).bind fun p => if p.1 = true then .ok (.fro (.bl true), p.2) else g p.2
def sNot (f : FE) : FE := fun τ => (asB (f τ)).bind fun p => .ok (.fro (.bl (!p.1)), p.2)
theorem asB_ev {G : Gc} {W0 W : Addr → Prop} {σ0 σ : St} {H0 H : Hp} {τ0 τ : T} {Q : VK} {q : Bool × T → Prop} (ev : Ev G W0 σ0 H0 τ0 W σ H τ) (m : Wm E (Ow σ0 τ0) H0 q (asB (f τ)))
    (h : ∀ b τ' H' W', q (b, τ') → Ev G W0 σ0 H0 τ0 W' σ H' τ' → Q (.bl b) H') : EEt G E f σ H Q := by
  refine EEt.at ev m.bind fun hd τ1 v H1 W1 q ev1 r _ => ?_
  dsimp only at q
  split at q
  · rename_i b
    have r' : v = .bl b := r
    rw [r']
    exact h b τ1 H1 W1 q ev1
  · exact q.elim
theorem ee_one {op} (h : EE X E a f) : EE X E (.BoolOp op [a] pos) f := pe_one h
theorem ee_and (ha : EE X E a f) (hb : EE X E (.BoolOp .And (b :: es) pos) g) : EE X E (.BoolOp .And (a :: b :: es) pos) (sAnd f g) :=
  PE.imp (pe_and ha hb) fun σ H Q ⟨W, τ, s, m⟩ => by
    refine asB_ev (Ev.refl s) m.bind fun c τ1 H1 W1 q ev => ⟨c, rfl, ?_⟩
    cases c with
    | true =>
      rw [if_pos rfl]
      exact EEt.at ev q fun hd τ2 v H2 W2 q2 ev2 r _ => q2 v H2 W2 ev2 r
    | false =>
      rw [if_neg Bool.false_ne_true]
      exact q _ H1 W1 ev rfl
theorem ee_or (ha : EE X E a f) (hb : EE X E (.BoolOp .Or (b :: es) pos) g) : EE X E (.BoolOp .Or (a :: b :: es) pos) (sOr f g) :=
  PE.imp (pe_or ha hb) fun σ H Q ⟨W, τ, s, m⟩ => by
    refine asB_ev (Ev.refl s) m.bind fun c τ1 H1 W1 q ev => ⟨c, rfl, ?_⟩
    cases c with
    | true =>
      rw [if_pos rfl]
      exact q _ H1 W1 ev rfl
    | false =>
      rw [if_neg Bool.false_ne_true]
      exact EEt.at ev q fun hd τ2 v H2 W2 q2 ev2 r _ => q2 v H2 W2 ev2 r
theorem ee_not (ha : EE X E a f) : EE X E (.UnaryOp .Not a pos) (sNot f) :=
  PE.imp (pe_not ha) fun σ H Q ⟨W, τ, s, m⟩ => asB_ev (Ev.refl s) m.bind fun c τ1 H1 W1 q ev => ⟨c, rfl, q _ H1 W1 ev rfl⟩
def sIf (c : T → R (Bool × T)) (f g : FE) : FE := fun τ => (c τ).bind fun p => if p.1 = true then f p.2 else g p.2
theorem ee_if (hc : EB X E c fb) (ha : EE X E a f) (hb : EE X E b g) : EE X E (.IfExp c a b pos) (sIf fb f g) :=
  PE.imp (pe_ifExp hc ha hb) fun σ H Q ⟨W, τ, s, m⟩ => by
    refine EBt.at (Ev.refl s) m.bind fun c τ1 H1 W1 q ev => ?_
    cases c with
    | true =>
      rw [if_pos rfl] at q ⊢
      exact EEt.at ev q fun hd τ2 v H2 W2 q2 ev2 r _ => q2 v H2 W2 ev2 r
    | false =>
      rw [if_neg Bool.false_ne_true] at q ⊢
      exact EEt.at ev q fun hd τ2 v H2 W2 q2 ev2 r _ => q2 v H2 W2 ev2 r
end
end F
set_option Elab.async false
set_option linter.all false
set_option maxRecDepth 100000
set_option maxHeartbeats 4000000
/-! FD: argument lists, displays, built-in calls, slices, what is written (own work) -/
namespace F
open PySem L2

/-! ### lists of handles -/
def HdL (G : Gc) (H0 : Hp) (W : Addr → Prop) (σ : St) (H : Hp) (τ : T) : List V → List Hd → Prop
  | vs, [] => vs = []
  | vs, h :: hs => ∃ v r, vs = v :: r ∧ HdR G H0 W σ H τ v h ∧ HdL G H0 W σ H τ r hs
def RzL (G : Gc) (A : Addr → Prop) (H : Hp) : List V → List D → Prop
  | vs, [] => vs = []
  | vs, d :: ds => ∃ v r, vs = v :: r ∧ Rz G A H v d ∧ RzL G A H r ds
def peeks (τ : T) : List Hd → Option (List D)
  | [] => some []
  | h :: hs => match peek τ h, peeks τ hs with
    | some d, some ds => some (d :: ds)
    | _, _ => none
def allFro : List Hd → Option (List D)
  | [] => some []
  | .fro d :: hs => (allFro hs).map (d :: ·)
  | _ :: _ => none
section
variable {G : Gc} {H0 : Hp} {W W' W1 W2 : Addr → Prop} {σ σ' σ1 σ2 : St} {H H' H1 H2 : Hp} {τ τ' τ1 τ2 : T} {v : V} {h : Hd} {d : D}
theorem HdL.step (e : Ev G W1 σ H1 τ1 W2 σ H2 τ2) : ∀ {hs : List Hd} {vs : List V}, HdL G H0 W1 σ H1 τ1 vs hs → HdL G H0 W2 σ H2 τ2 vs hs
  | [], _, q => q
  | _ :: _, _, ⟨v, r, q, h, t⟩ => ⟨v, r, q, h.step e, HdL.step e t⟩
theorem HdL.start {H0' : Hp} (k : ∀ a, H0' a ≠ none → H0 a ≠ none) : ∀ {hs : List Hd} {vs : List V}, HdL G H0 W σ H τ vs hs → HdL G H0' W σ H τ vs hs
  | [], _, q => q
  | _ :: _, _, ⟨v, r, q, h, t⟩ => ⟨v, r, q, h.start k, HdL.start k t⟩
theorem peeks_ok (s : StR G W σ H τ) : ∀ {hs : List Hd} {vs : List V} {ds : List D}, HdL G H0 W σ H τ vs hs → peeks τ hs = some ds → RzL G (Av W σ τ) H vs ds
  | [], _, _, q, p => by
    cases p
    exact q
  | h :: hs, _, _, ⟨v, r, q, hh, t⟩, p => by
    unfold peeks at p
    split at p
    · rename_i d ds p1 p2
      cases p
      exact ⟨v, r, q, peek_ok hh s p1, peeks_ok s t p2⟩
    · cases p
theorem allFro_ok : ∀ {hs : List Hd} {vs : List V} {ds : List D}, HdL G H0 W σ H τ vs hs → allFro hs = some ds → RvL G (Av W σ τ) H vs ds
  | [], _, _, q, p => by
    cases p
    exact q
  | .fro d :: hs, _, _, ⟨v, r, q, hh, t⟩, p => by
    unfold allFro at p
    cases z : allFro hs with
    | none =>
      rw [z] at p
      cases p
    | some ds =>
      rw [z] at p
      cases p
      exact ⟨v, r, q, hh, allFro_ok t z⟩
  | .slot _ :: _, _, _, _, p => by cases p
  | .tmp _ :: _, _, _, _, p => by cases p
end
abbrev FA := T → R (List Hd × T)
def EAt (G : Gc) (E : XW) (f : FA) : TA := fun σ H Q => ∃ W τ, StR G W σ H τ ∧ Wm E (Ow σ τ) H (fun p => ∀ vs H' W', Ev G W σ H τ W' σ H' p.2 → HdL G H W' σ H' p.2 vs p.1 → Q vs H') (f τ)
def EA (X : Cx) (E : XW) (es : List Expr) (f : FA) : Prop := PA X es (EAt (gc X) E f)
theorem PA.imp {X : Cx} {e : List Expr} {t t' : TA} (h : PA X e t) (k : ∀ σ H Q, t' σ H Q → t σ H Q) : PA X e t' := ⟨fun pos pins s σ H Q I q => h.run pos pins s σ H Q I (k σ H Q q)⟩
section
variable {X : Cx} {E : XW} {e a b c : Expr} {es : List Expr} {f g k : FE} {fs : FA} {pos : Pos}
theorem EAt.at {G : Gc} {W0 W : Addr → Prop} {σ0 σ : St} {H0 H : Hp} {τ0 τ : T} {Q : List V → Hp → Prop} {q : List Hd × T → Prop} (ev : Ev G W0 σ0 H0 τ0 W σ H τ) (m : Wm E (Ow σ0 τ0) H0 q (fs τ))
    (h : ∀ h τ' v H' W', q (h, τ') → Ev G W0 σ0 H0 τ0 W' σ H' τ' → HdL G H0 W' σ H' τ' v h → Ev G W σ H τ W' σ H' τ' → Q v H') : EAt G E fs σ H Q := by
  refine ⟨W, τ, ev.st, (m.move ev.frm fun a q => ev.sub q).imp fun p _ hp v H' W' e1 r1 => ?_⟩
  obtain ⟨hd, τ'⟩ := p
  exact h hd τ' v H' W' hp (ev.trans e1) (r1.start fun a z => ev.trk a z) e1
def aNil : FA := fun τ => .ok ([], τ)
def aCons (f : FE) (fs : FA) : FA := fun τ => (f τ).bind fun p => (fs p.2).bind fun q => .ok (p.1 :: q.1, q.2)
theorem ea_nil : EA X E [] aNil := PA.imp pa_nil fun σ H Q ⟨W, τ, s, m⟩ => m [] H W (Ev.refl s) rfl
theorem ea_cons (h : EE X E e f) (hr : EA X E es fs) (hs : starEach (e :: es) X.env = (false, eval e X.env) :: starEach es X.env := by rfl) : EA X E (e :: es) (aCons f fs) :=
  PA.imp (pa_cons h hr hs) fun σ H Q ⟨W, τ, s, m⟩ => by
    refine EEt.at (Ev.refl s) m.bind fun h1 τ1 v1 H1 W1 q1 ev1 r1 _ => ?_
    refine EAt.at ev1 q1.bind fun h2 τ2 v2 H2 W2 q2 ev2 r2 st2 => ?_
    exact q2 (v1 :: v2) H2 W2 ev2 ⟨v1, v2, rfl, r1.step st2, r2⟩

/-! ### displays -/
def sz (n : Nat) : Bool := decide (n ≤ 16777216)
theorem sz_ok {n : Nat} (h : sz n = true) : n ≤ sizeLine := by
  rw [sizeLine_eq]
  exact of_decide_eq_true h
theorem keeps_new {G : Gc} {A : Addr → Prop} {H : Hp} {p : Addr} {o : HO} (hp : H p = none) : Keeps A (fun b => A b ∨ b = p) H (upd H p o) := fun a u h n => by
  have ne : a ≠ p := fun z => by
    rw [z, hp] at h
    cases h
  exact ⟨by rw [upd_ne ne]; exact h, fun z => z.elim n ne⟩
theorem same_new {H : Hp} {p : Addr} {o : HO} (hp : H p = none) : Same H (upd H p o) := fun a u h => by
  have ne : a ≠ p := fun z => by
    rw [z, hp] at h
    cases h
  rw [upd_ne ne]
  exact h
/-- a new tuple of frozen things -/
theorem new_tup {G : Gc} {A : Addr → Prop} {H : Hp} {p : Addr} {vs : List V} {ds : List D} (hA : ∀ a, A a → H a ≠ none) (hp : H p = none) (h : RvL G A H vs ds) : New G A H (upd H p (.tup vs)) (.ref p) (.fro (.tup ds)) :=
  ⟨p, vs, rfl, fun z => hA p z hp, upd_same, RvL.keep (fun a u h n => ⟨same_new hp a u h, n⟩) ds vs h⟩
theorem new_lst {G : Gc} {A : Addr → Prop} {H : Hp} {p : Addr} {vs : List V} {ds : List D} (hp : H p = none) (h : RvL G A H vs ds) : New G A H (upd H p (.lst vs)) (.ref p) (.tmp (.lst ds)) :=
  ⟨p, rfl, hp, by rw [upd_same]; trivial, vs, upd_same, RvL.keep (keeps_new (G := G) hp) ds vs h⟩
def sTup (fs : FA) : FE := fun τ => (fs τ).bind fun p => (ofO (allFro p.1)).bind fun ds => (chk (sz ds.length)).bind fun _ => .ok (.fro (.tup ds), p.2)
def sLst (fs : FA) : FE := fun τ => (fs τ).bind fun p => (ofO (allFro p.1)).bind fun ds => (chk (sz ds.length)).bind fun _ => .ok (.tmp (.lst ds), p.2)
theorem ee_tup {x1} (h : EA X E es fs) : EE X E (.Tuple es x1 pos) (sTup fs) :=
  PE.imp (pe_tup h) fun σ H Q ⟨W, τ, s, m⟩ => by
    refine EAt.at (Ev.refl s) m.bind fun hs τ1 vs H1 W1 q ev r _ => ?_
    obtain ⟨ds, p, q⟩ := q.opt
    obtain ⟨c, q⟩ := q.chk
    have l := allFro_ok r p
    refine ⟨by rw [RvL.length l]; exact sz_ok c, fun a ha => ?_⟩
    obtain ⟨W2, ev2, r2⟩ := ev_new ev.st (same_new ha) (new_tup (fun a z => ev.st.avT z) ha l)
    exact q _ _ W2 (ev.trans ev2) (r2.start fun a z => ev.trk a z)
theorem ee_lst (h : EA X E es fs) : EE X E (.List es pos) (sLst fs) :=
  PE.imp (pe_lst h) fun σ H Q ⟨W, τ, s, m⟩ => by
    refine EAt.at (Ev.refl s) m.bind fun hs τ1 vs H1 W1 q ev r _ => ?_
    obtain ⟨ds, p, q⟩ := q.opt
    obtain ⟨c, q⟩ := q.chk
    have l := allFro_ok r p
    refine ⟨by rw [RvL.length l]; exact sz_ok c, fun a ha => ?_⟩
    obtain ⟨W2, ev2, r2⟩ := ev_new ev.st (same_new ha) (new_lst ha l)
    exact q _ _ W2 (ev.trans ev2) (r2.start fun a z => ev.trk a z)

/-! ### built-in calls by values -/
def rCall (G : Gc) (op : List D → Option Hd) : List V → Hp → VK → Prop := fun vs H Q => ∃ (A : Addr → Prop) (ds : List D) (h : Hd), (∀ a, A a → H a ≠ none) ∧ RzL G A H vs ds ∧ op ds = some h ∧ ∀ v H', Same H H' → New G A H H' v h → Q v H'
def sCB (op : List D → Option Hd) (fs : FA) : FE := fun τ => (fs τ).bind fun p => (ofO (peeks p.2 p.1)).bind fun ds => (ofO (op ds)).bind fun h => .ok (h, p.2)
theorem call_at {op : List D → Option Hd} {σ : St} {H : Hp} {Q : VK} (h : EEt (gc X) E (sCB op fs) σ H Q) : EAt (gc X) E fs σ H fun vs H1 => rCall (gc X) op vs H1 Q := by
  obtain ⟨W, τ, s, m⟩ := h
  refine EAt.at (Ev.refl s) m.bind fun hs τ1 vs H1 W1 q ev r _ => ?_
  obtain ⟨ds, p, q⟩ := q.opt
  obtain ⟨h, p2, q⟩ := q.opt
  refine ⟨Av W1 σ τ1, ds, h, fun a z => ev.st.avT z, peeks_ok ev.st r p, p2, fun v H2 sm n => ?_⟩
  obtain ⟨W2, ev2, r2⟩ := ev_new ev.st sm n
  exact q _ _ W2 (ev.trans ev2) (r2.start fun a z => ev.trk a z)
theorem ee_callB {id : String} {x : Str} {p : Pos} {op : List D → Option Hd} (hc : CallR X (.builtin id) (rCall (gc X) op)) (hg : Gl X x) (hm : X.mg x = none) (hv : bootBuiltins x = some (.builtin id)) (ha : EA X E (e :: es) fs) (hn : x ≠ "__name__" := by decide) (hdb : (x == ("__debug__" : Str)) = false := by decide)
    (he : starEach (e :: es) X.env = (false, eval e X.env) :: starEach es X.env := by rfl) (hpl : (backTo pos (starEach es X.env)).any (·.1) = false := by rfl) : EE X E (.Call (.Name x p) (e :: es) [] pos) (sCB op fs) :=
  PE.imp (pe_callB hc hg hm hv ha hn hdb he hpl) fun _ _ _ h => call_at h
theorem ee_callTy {id : String} {x : Str} {p : Pos} {op : List D → Option Hd} (hc : CallR X (.type id) (rCall (gc X) op)) (hg : Gl X x) (hm : X.mg x = none) (hv : bootBuiltins x = some (.type id)) (ha : EA X E (e :: es) fs) (hn : x ≠ "__name__" := by decide) (hdb : (x == ("__debug__" : Str)) = false := by decide)
    (he : starEach (e :: es) X.env = (false, eval e X.env) :: starEach es X.env := by rfl) (hpl : (backTo pos (starEach es X.env)).any (·.1) = false := by rfl) : EE X E (.Call (.Name x p) (e :: es) [] pos) (sCB op fs) :=
  PE.imp (pe_callTy hc hg hm hv ha hn hdb he hpl) fun _ _ _ h => call_at h

/-! ### slices -/
abbrev FO := T → R (Option Int × T)
def EOt (G : Gc) (E : XW) (f : FO) : TO := fun σ H Q => ∃ W τ, StR G W σ H τ ∧ Wm E (Ow σ τ) H (fun p => ∀ H' W', Ev G W σ H τ W' σ H' p.2 → Q p.1 H') (f τ)
def EO (X : Cx) (E : XW) (e : Option Expr) (f : FO) : Prop := PO X e (EOt (gc X) E f)
theorem PO.imp {X : Cx} {e : Option Expr} {t t' : TO} (h : PO X e t) (k : ∀ σ H Q, t' σ H Q → t σ H Q) : PO X e t' := ⟨fun pins s σ H Q I q => h.run pins s σ H Q I (k σ H Q q)⟩
def oNone : FO := fun τ => .ok (none, τ)
def oSome (f : FE) : FO := fun τ => (f τ).bind fun p => match p.1 with
  | .fro (.int i) => .ok (some i, p.2)
  | _ => .stuck
theorem eo_none : EO X E none oNone := PO.imp po_none fun σ H Q ⟨W, τ, s, m⟩ => m H W (Ev.refl s)
theorem eo_some (h : EE X E e f) : EO X E (some e) (oSome f) :=
  PO.imp (po_some h) fun σ H Q ⟨W, τ, s, m⟩ => by
    refine EEt.at (Ev.refl s) m.bind fun h1 τ1 v1 H1 W1 q1 ev1 r1 _ => ?_
    dsimp only at q1
    split at q1
    · rename_i i
      exact ⟨i, r1, q1 H1 W1 ev1⟩
    · exact q1.elim
theorem EOt.at {fo : FO} {G : Gc} {W0 W : Addr → Prop} {σ0 σ : St} {H0 H : Hp} {τ0 τ : T} {Q : Option Int → Hp → Prop} {q : Option Int × T → Prop} (ev : Ev G W0 σ0 H0 τ0 W σ H τ) (m : Wm E (Ow σ0 τ0) H0 q (fo τ))
    (h : ∀ b τ' H' W', q (b, τ') → Ev G W0 σ0 H0 τ0 W' σ H' τ' → Ev G W σ H τ W' σ H' τ' → Q b H') : EOt G E fo σ H Q := by
  refine ⟨W, τ, ev.st, (m.move ev.frm fun a q => ev.sub q).imp fun p _ hp H' W' e1 => ?_⟩
  obtain ⟨b, τ'⟩ := p
  exact h b τ' H' W' hp (ev.trans e1) e1
def rSl (G : Gc) (op : D → Option Int → Option Int → Option Hd) : V → Option Int → Option Int → Hp → VK → Prop := fun x lo hi H Q => ∃ (A : Addr → Prop) (d : D) (h : Hd), (∀ a, A a → H a ≠ none) ∧ Rz G A H x d ∧ op d lo hi = some h ∧ ∀ v H', Same H H' → New G A H H' v h → Q v H'
def sSl (op : D → Option Int → Option Int → Option Hd) (f : FE) (lo hi : FO) : FE := fun τ => (f τ).bind fun p => (lo p.2).bind fun l => (hi l.2).bind fun u => (ofO (peek u.2 p.1)).bind fun d => (ofO (op d l.1 u.1)).bind fun h => .ok (h, u.2)
theorem ee_slice {p2 : Pos} {lo hi : Option Expr} {fl fh : FO} {op : D → Option Int → Option Int → Option Hd} (hr : SlR X (rSl (gc X) op)) (h : EE X E e f) (hl : EO X E lo fl) (hu : EO X E hi fh) : EE X E (.Subscript e (.Slice lo hi none p2) pos) (sSl op f fl fh) :=
  PE.imp (pe_slice hr h hl hu) fun σ H Q ⟨W, τ, s, m⟩ => by
    refine EEt.at (Ev.refl s) m.bind fun h1 τ1 v1 H1 W1 q1 ev1 r1 _ => ?_
    refine EOt.at ev1 q1.bind fun l τ2 H2 W2 q2 ev2 st2 => ?_
    refine EOt.at ev2 q2.bind fun u τ3 H3 W3 q3 ev3 st3 => ?_
    obtain ⟨d, p, q⟩ := q3.opt
    obtain ⟨h, p2, q⟩ := q.opt
    refine ⟨Av W3 σ τ3, d, h, fun a z => ev3.st.avT z, peek_ok ((r1.step st2).step st3) ev3.st p, p2, fun v H4 sm n => ?_⟩
    obtain ⟨W4, ev4, r4⟩ := ev_new ev3.st sm n
    exact q _ _ W4 (ev3.trans ev4) (r4.start fun a z => ev3.trk a z)
/-- one operand -/
def rOp1 (G : Gc) (op : D → Option Hd) : V → Hp → VK → Prop := fun x H Q => ∃ (A : Addr → Prop) (d : D) (h : Hd), (∀ a, A a → H a ≠ none) ∧ Rz G A H x d ∧ op d = some h ∧ ∀ v H', Same H H' → New G A H H' v h → Q v H'
def sOp1 (op : D → Option Hd) (f : FE) : FE := fun τ => (f τ).bind fun p => (ofO (peek p.2 p.1)).bind fun d => (ofO (op d)).bind fun h => .ok (h, p.2)
theorem op1_at {op : D → Option Hd} {σ : St} {H : Hp} {Q : VK} (h : EEt (gc X) E (sOp1 op f) σ H Q) : EEt (gc X) E f σ H fun x H1 => rOp1 (gc X) op x H1 Q := by
  obtain ⟨W, τ, s, m⟩ := h
  refine EEt.at (Ev.refl s) m.bind fun h1 τ1 v1 H1 W1 q1 ev1 r1 _ => ?_
  obtain ⟨d, p1, q2⟩ := q1.opt
  obtain ⟨h, p3, q2⟩ := q2.opt
  refine ⟨Av W1 σ τ1, d, h, fun a z => ev1.st.avT z, peek_ok r1 ev1.st p1, p3, fun v H3 sm n => ?_⟩
  obtain ⟨W3, ev3, r3⟩ := ev_new ev1.st sm n
  exact q2 v H3 W3 (ev1.trans ev3) (r3.start fun a z => ev1.trk a z)
theorem ee_un {o : UnaryOp} {op : D → Option Hd} (ho : UnR X (unaryOp o) (rOp1 (gc X) op)) (ha : EE X E a f) : EE X E (.UnaryOp o a pos) (sOp1 op f) :=
  PE.imp (pe_un ho ha) fun _ _ _ h => op1_at h
end

/-! ### what is written -/
section
variable {G : Gc} {W W' W1 W2 : Addr → Prop} {σ σ' σ1 σ2 : St} {H H' H1 H2 H0 : Hp} {τ τ' τ1 τ2 : T} {v : V} {h : Hd} {d d' : D}
theorem ow_set {j : Nat} {b : Bool} (hj : τ[j]? = some (some (.own b d))) : ∀ (i : Nat) (c : Bool) (x : D), (τ.set j (some (.own b d')))[i]? = some (some (.own c x)) → ∃ y, τ[i]? = some (some (.own c y)) := fun i c x q => by
  have hl : j < τ.length := (List.getElem?_eq_some_iff.mp hj).1
  by_cases ij : j = i
  · subst ij
    rw [List.getElem?_set_self hl] at q
    cases q
    exact ⟨d, hj⟩
  · rw [List.getElem?_set_ne ij] at q
    exact ⟨x, q⟩
/-- the object of an owned slot is written -/
theorem ev_write {j : Nat} {b : Bool} {a : Addr} {o : HO} (s : StR G W σ H τ) (hj : τ[j]? = some (some (.own b d))) (hσ : σ[j]? = some (some (.ref a))) (hm : Mut (some o)) (hc : Rc G (Av W σ τ) (upd H a o) a d') :
    Ev G W σ H τ W σ (upd H a o) (τ.set j (some (.own b d'))) := by
  have hl : j < τ.length := (List.getElem?_eq_some_iff.mp hj).1
  have oa : Ow σ τ a := ⟨j, b, d, hj, hσ⟩
  have back : ∀ c, Ow σ (τ.set j (some (.own b d'))) c → Ow σ τ c := fun c ⟨i, x, y, q1, q2⟩ => let ⟨z, e⟩ := ow_set hj i x y q1; ⟨i, x, z, e, q2⟩
  have ka : Keeps (Av W σ τ) (Av W σ (τ.set j (some (.own b d')))) H (upd H a o) := fun c u e n => by
    have ne : c ≠ a := fun z => n (.inr (z ▸ oa))
    exact ⟨by rw [upd_ne ne]; exact e, fun q => n (q.elim .inl fun q => .inr (back c q))⟩
  have kb : Keeps (Av W σ τ) (Av W σ (τ.set j (some (.own b d')))) (upd H a o) (upd H a o) := Keeps.less fun c q => q.elim .inl fun q => .inr (back c q)
  have trk : ∀ c, H c ≠ none → upd H a o c ≠ none := fun c n => by
    by_cases e : c = a
    · rw [e, upd_same]
      exact fun z => nomatch z
    · rw [upd_ne e]
      exact n
  refine ⟨fun c u e n => ?_, trk, fun c ⟨i, x, q1, q2⟩ => ?_, fun i x q => let ⟨y, e⟩ := ow_set hj i true x q; ⟨⟨y, e⟩, rfl⟩, fun _ q => q, fun _ q => .inl q, ⟨fun c q => trk c (s.trk c q), fun i x q => ?_, fun i c x q => ?_, fun i k c c' x y a' q1 q2 p1 p2 => ?_, by rw [List.length_set]; exact s.len, fun c ⟨i, x, q1, q2⟩ => ?_⟩, rfl⟩
  · have ne : c ≠ a := fun z => n (z ▸ oa)
    rw [upd_ne ne]
    exact e
  · obtain ⟨y, e⟩ := ow_set hj i false x q1
    exact .inl ⟨i, y, e, q2⟩
  · by_cases ij : j = i
    · subst ij
      rw [List.getElem?_set_self hl] at q
      cases q
    · rw [List.getElem?_set_ne ij] at q
      obtain ⟨u, h1, h2⟩ := s.fro i x q
      exact ⟨u, h1, Rv.keep ka x u h2⟩
  · by_cases ij : j = i
    · subst ij
      rw [List.getElem?_set_self hl] at q
      cases q
      exact ⟨a, hσ, by rw [upd_same]; exact hm, Rc.keep kb (fun _ z => z) hc⟩
    · rw [List.getElem?_set_ne ij] at q
      obtain ⟨u, h1, h2, h3⟩ := s.own i c x q
      have ne : u ≠ a := fun z => ij (s.apart j i b c d x a hj q hσ (z ▸ h1))
      exact ⟨u, h1, by rw [upd_ne ne]; exact h2, Rc.keep ka (fun o e => by rw [upd_ne ne]; exact e) h3⟩
  · obtain ⟨y1, e1⟩ := ow_set hj i c x q1
    obtain ⟨y2, e2⟩ := ow_set hj k c' y q2
    exact s.apart i k c c' y1 y2 a' e1 e2 p1 p2
  · obtain ⟨y1, e1⟩ := ow_set hj i false x q1
    exact s.nw c ⟨i, y1, e1, q2⟩
theorem StR.own_at {j : Nat} {b : Bool} (s : StR G W σ H τ) (hj : τ[j]? = some (some (.own b d))) (hσ : σ[j]? = some (some v)) : ∃ a, v = .ref a ∧ Mut (H a) ∧ Rc G (Av W σ τ) H a d := by
  obtain ⟨a, h1, h2, h3⟩ := s.own j b d hj
  rw [hσ] at h1
  cases h1
  exact ⟨a, rfl, h2, h3⟩
theorem rd_mut {a : Addr} {u : HO} (r : Rd H a u) (m : Mut (H a)) : H a = some u := by
  rcases r with r | ⟨o, r⟩
  · exact r
  · rw [r] at m
    exact m.elim
/-- a name is stored -/
def slOf : Hd → Option Sl
  | .fro d => some (.fro d)
  | .tmp d => some (.own false d)
  | .slot _ => none
theorem ev_set {i : Nat} {x : Sl} (s0 : StR G W σ H τ) (e : Ev G W σ H τ W' σ H' τ1) (r : HdR G H W' σ H' τ1 v h) (hx : slOf h = some x) : Ev G W σ H τ W (σ.set i (some v)) H' (τ1.set i (some x)) := by
  have hlen := e.st.len
  -- the places that are owned behind it
  have own' : ∀ (k : Nat) (b : Bool) (y : D) (u : Option V), (τ1.set i (some x))[k]? = some (some (.own b y)) → (σ.set i (some v))[k]? = some u →
      (k ≠ i ∧ τ1[k]? = some (some (.own b y)) ∧ σ[k]? = some u) ∨ (k = i ∧ h = .tmp y ∧ b = false ∧ u = some v) := fun k b y u q1 q2 => by
    by_cases ik : i = k
    · subst ik
      have hl : i < τ1.length := by
        have z := (List.getElem?_eq_some_iff.mp q1).1
        rw [List.length_set] at z
        exact z
      rw [List.getElem?_set_self hl] at q1
      rw [List.getElem?_set_self (by rw [← hlen]; exact hl)] at q2
      cases q2
      cases h with
      | fro d =>
        cases hx
        cases q1
      | slot j => cases hx
      | tmp d =>
        cases hx
        cases q1
        exact .inr ⟨rfl, rfl, rfl, rfl⟩
    · rw [List.getElem?_set_ne ik] at q1 q2
      exact .inl ⟨fun z => ik z.symm, q1, q2⟩
  have ow : ∀ c, Ow (σ.set i (some v)) (τ1.set i (some x)) c → Ow σ τ1 c ∨ (W' c ∧ H c = none ∧ v = .ref c) := fun c ⟨k, b, y, q1, q2⟩ => by
    rcases own' k b y _ q1 q2 with ⟨_, p1, p2⟩ | ⟨_, p1, p2, p3⟩
    · exact .inl ⟨k, b, y, p1, p2⟩
    · subst p1
      obtain ⟨a, z1, z2, z3, _⟩ := r
      cases p3
      cases z1
      exact .inr ⟨z3, z2, rfl⟩
  have ka : Keeps (Av W' σ τ1) (Av W (σ.set i (some v)) (τ1.set i (some x))) H' H' := Keeps.less fun c q => by
    rcases q with q | q
    · exact .inl (e.wsub c q)
    · rcases ow c q with q | q
      · exact .inr q
      · exact .inl q.1
  refine ⟨e.frm, e.trk, fun c ⟨k, y, q1, q2⟩ => ?_, fun k y q => ?_, fun _ q => q, fun _ q => .inl q, ⟨fun c q => e.st.trk c (e.wsub c q), fun k y q => ?_, fun k b y q => ?_, fun k l b c y z a q1 q2 p1 p2 => ?_, by rw [List.length_set, List.length_set]; exact hlen, fun c ⟨k, y, q1, q2⟩ z => ?_⟩, by rw [List.length_set]⟩
  · rcases own' k false y _ q1 q2 with ⟨_, p1, p2⟩ | ⟨_, p1, _, p3⟩
    · exact e.subf c ⟨k, y, p1, p2⟩
    · subst p1
      obtain ⟨a, z1, z2, _⟩ := r
      cases p3
      cases z1
      exact .inr z2
  · by_cases ik : i = k
    · subst ik
      have hl : i < τ1.length := by
        have z := (List.getElem?_eq_some_iff.mp q).1
        rw [List.length_set] at z
        exact z
      rw [List.getElem?_set_self hl] at q
      cases q
      cases h with
      | fro d => cases hx
      | slot j => cases hx
      | tmp d => cases hx
    · rw [List.getElem?_set_ne ik] at q ⊢
      exact e.lent k y q
  · by_cases ik : i = k
    · subst ik
      have hl : i < τ1.length := by
        have z := (List.getElem?_eq_some_iff.mp q).1
        rw [List.length_set] at z
        exact z
      rw [List.getElem?_set_self hl] at q
      rw [List.getElem?_set_self (by rw [← hlen]; exact hl)]
      cases q
      cases h with
      | fro d =>
        cases hx
        exact ⟨v, rfl, Rv.keep ka _ _ r⟩
      | slot j => cases hx
      | tmp d => cases hx
    · rw [List.getElem?_set_ne ik] at q ⊢
      obtain ⟨u, h1, h2⟩ := e.st.fro k y q
      exact ⟨u, h1, Rv.keep ka y u h2⟩
  · have hk : k < (σ.set i (some v)).length := by
      rw [List.length_set, ← hlen]
      have z := (List.getElem?_eq_some_iff.mp q).1
      rw [List.length_set] at z
      exact z
    rcases own' k b y _ q (List.getElem?_eq_getElem hk) with ⟨ne, p1, p2⟩ | ⟨p0, p1, _, p3⟩
    · obtain ⟨u, h1, h2, h3⟩ := e.st.own k b y p1
      rw [List.getElem?_set_ne (Ne.symm ne)]
      exact ⟨u, h1, h2, Rc.keep ka (fun _ z => z) h3⟩
    · subst p1 p0
      obtain ⟨a, z1, z2, z3, z4, z5, z6⟩ := r
      subst z1
      rw [List.getElem?_eq_getElem hk, p3]
      exact ⟨a, rfl, z5, Rc.keep ka (fun _ z => z) z6⟩
  · rcases own' k b y _ q1 p1 with ⟨ne, k1, k2⟩ | ⟨k0, k1, _, k3⟩
    · rcases own' l c z _ q2 p2 with ⟨ne', l1, l2⟩ | ⟨l0, l1, _, l3⟩
      · exact e.st.apart k l b c y z a k1 l1 k2 l2
      · subst l1
        obtain ⟨a', z1, z2, z3, z4, _⟩ := r
        cases l3
        cases z1
        exact absurd ⟨k, b, y, k1, k2⟩ z4
    · rcases own' l c z _ q2 p2 with ⟨ne', l1, l2⟩ | ⟨l0, l1, _, l3⟩
      · subst k1
        obtain ⟨a', z1, z2, z3, z4, _⟩ := r
        cases k3
        cases z1
        exact absurd ⟨l, c, z, l1, l2⟩ z4
      · rw [k0, l0]
  · rcases own' k false y _ q1 q2 with ⟨_, p1, p2⟩ | ⟨_, p1, _, p3⟩
    · exact e.st.nw c ⟨k, y, p1, p2⟩ (e.wsub c z)
    · subst p1
      obtain ⟨a, z1, z2, _⟩ := r
      cases p3
      cases z1
      exact s0.trk c z z2
end
end F
set_option Elab.async false
set_option linter.all false
set_option maxRecDepth 100000
set_option maxHeartbeats 4000000
/-! FE: statements, targets, loops (own work) -/
namespace F
open PySem L2

inductive Out where
  | nx (τ : T) | rt (h : Hd) (τ : T) | bk (τ : T) | ct (τ : T)
abbrev FS := T → R Out
def RtR (G : Gc) (σ0 : St) (τ0 : T) (H0 : Hp) (W : Addr → Prop) (σ : St) (H : Hp) (τ : T) (v : V) : Hd → Prop
  | .fro d => Rv G (Av W σ τ) H v d
  | .slot _ => False
  | .tmp d => ∃ a, v = .ref a ∧ (H0 a = none ∨ Owf σ0 τ0 a) ∧ ¬ Ow σ τ a ∧ Mut (H a) ∧ StR G (fun b => W b ∨ b = a) σ H τ ∧ Rc G (Av (fun b => W b ∨ b = a) σ τ) H a d
def SQ (G : Gc) (W : Addr → Prop) (σ : St) (H : Hp) (τ : T) (D : Ends) : Out → Prop
  | .nx τ' => ∀ σ' H', Ev G W σ H τ W σ' H' τ' → D.nx σ' H'
  | .rt h τ' => ∀ v σ' H', Ev G W σ H τ W σ' H' τ' → RtR G σ τ H W σ' H' τ' v h → D.rt v H'
  | .bk τ' => ∀ σ' H', Ev G W σ H τ W σ' H' τ' → D.bk σ' H'
  | .ct τ' => ∀ σ' H', Ev G W σ H τ W σ' H' τ' → D.ct σ' H'
def SSt (G : Gc) (E : XW) (g : FS) : TS := fun D σ H => ∃ W τ, StR G W σ H τ ∧ Wm E (Ow σ τ) H (SQ G W σ H τ D) (g τ)
def SS (X : Cx) (E : XW) (st : Stmt) (g : FS) : Prop := PS X st (SSt (gc X) E g)
def SSs (X : Cx) (E : XW) (st : List Stmt) (g : FS) : Prop := PSs X st (SSt (gc X) E g)
theorem PS.imp {X : Cx} {e : Stmt} {t t' : TS} (h : PS X e t) (k : ∀ D σ H, t' D σ H → t D σ H) : PS X e t' := ⟨fun pins s σ H D I q => h.run pins s σ H D I (k D σ H q)⟩
theorem PSs.imp {X : Cx} {e : List Stmt} {t t' : TS} (h : PSs X e t) (k : ∀ D σ H, t' D σ H → t D σ H) : PSs X e t' := ⟨fun pins s σ H D I q => h.run pins s σ H D I (k D σ H q)⟩
section
variable {G : Gc} {E : XW} {W W' W0 W1 W2 : Addr → Prop} {σ σ' σ0 σ1 σ2 : St} {H H' H1 H2 H0 : Hp} {τ τ' τ0 τ1 τ2 : T} {v : V} {h : Hd} {d d' : D} {D0 : Ends} {o : Out}
theorem Ev.base (e : Ev G W σ H τ W' σ' H' τ') : Ev G W σ H τ W σ' H' τ' := ⟨e.frm, e.trk, e.subf, e.lent, fun _ q => q, fun _ q => .inl q, e.st.shrink e.wsub, e.len⟩
theorem RtR.from (e : Ev G W0 σ0 H0 τ0 W σ H τ) (r : RtR G σ τ H W1 σ1 H1 τ1 v h) : RtR G σ0 τ0 H0 W1 σ1 H1 τ1 v h := by
  cases h with
  | fro d => exact r
  | slot j => exact r
  | tmp d =>
    obtain ⟨a, q1, q2, q⟩ := r
    refine ⟨a, q1, ?_, q⟩
    rcases q2 with q2 | q2
    · exact .inl (Classical.byContradiction fun z => e.trk a z q2)
    · exact (e.subf a q2).symm
/-- what is left to be shown behind a step -/
theorem SQ.after (e : Ev G W σ0 H0 τ0 W σ H τ) (q : SQ G W σ0 H0 τ0 D0 o) : SQ G W σ H τ D0 o := by
  cases o with
  | nx τ' => exact fun σ' H' e' => q σ' H' (e.trans e')
  | rt h τ' => exact fun v σ' H' e' r => q v σ' H' (e.trans e') (r.from e)
  | bk τ' => exact fun σ' H' e' => q σ' H' (e.trans e')
  | ct τ' => exact fun σ' H' e' => q σ' H' (e.trans e')
theorem SSt.at {g : FS} (e : Ev G W σ0 H0 τ0 W σ H τ) (m : Wm E (Ow σ0 τ0) H0 (SQ G W σ0 H0 τ0 D0) (g τ)) : SSt G E g D0 σ H :=
  ⟨W, τ, e.st, (m.move e.frm fun a q => e.sub q).imp fun o _ q => q.after e⟩

/-! ### forgetting names -/
def kill (ks : List Nat) (τ : T) : T := ks.foldl (fun t k => t.set k none) τ
theorem ev_kill1 {k : Nat} (s : Ev G W σ H τ W' σ' H' τ') : Ev G W σ H τ W' σ' H' (τ'.set k none) := by
  have back : ∀ (i : Nat) (x : Sl), (τ'.set k none)[i]? = some (some x) → τ'[i]? = some (some x) := fun i x q => by
    by_cases ik : k = i
    · subst ik
      by_cases hl : k < τ'.length
      · rw [List.getElem?_set_self hl] at q
        cases q
      · rw [List.getElem?_eq_none (by rw [List.length_set]; omega)] at q
        cases q
    · rw [List.getElem?_set_ne ik] at q
      exact q
  have ow : ∀ c, Ow σ' (τ'.set k none) c → Ow σ' τ' c := fun c ⟨i, b, y, q1, q2⟩ => ⟨i, b, y, back i _ q1, q2⟩
  have ka : Keeps (Av W' σ' τ') (Av W' σ' (τ'.set k none)) H' H' := Keeps.less fun c q => q.elim .inl fun q => .inr (ow c q)
  refine ⟨s.frm, s.trk, fun c ⟨i, y, q1, q2⟩ => s.subf c ⟨i, y, back i _ q1, q2⟩, fun i y q => s.lent i y (back i _ q), s.wsub, s.wnew, ⟨s.st.trk, fun i y q => ?_, fun i b y q => ?_, fun i j b c x y a q1 q2 => s.st.apart i j b c x y a (back i _ q1) (back j _ q2), by rw [List.length_set]; exact s.st.len, fun c ⟨i, y, q1, q2⟩ => s.st.nw c ⟨i, y, back i _ q1, q2⟩⟩, s.len⟩
  · obtain ⟨u, h1, h2⟩ := s.st.fro i y (back i _ q)
    exact ⟨u, h1, Rv.keep ka y u h2⟩
  · obtain ⟨u, h1, h2, h3⟩ := s.st.own i b y (back i _ q)
    exact ⟨u, h1, h2, Rc.keep ka (fun _ z => z) h3⟩
theorem ev_kill (ks : List Nat) : ∀ {τ'}, Ev G W σ H τ W' σ' H' τ' → Ev G W σ H τ W' σ' H' (kill ks τ') := by
  induction ks with
  | nil => exact fun s => s
  | cons k ks ih => exact fun s => ih (ev_kill1 s)
end

section
variable {X : Cx} {E : XW} {e a b c : Expr} {es : List Expr} {st : Stmt} {sts : List Stmt} {f g k : FE} {fs : FA} {fb : T → R (Bool × T)} {s1 s2 : FS} {pos : Pos}
/-! ### blocks -/
def sSkip : FS := fun τ => .ok (.nx τ)
def sSeq (s1 s2 : FS) : FS := fun τ => (s1 τ).bind fun o => match o with
  | .nx τ1 => s2 τ1
  | o => .ok o
theorem ss_nil : SSs X E [] sSkip := PSs.imp pss_nil fun D σ H ⟨W, τ, s, m⟩ => m σ H (Ev.refl s)
theorem ss_one (h : SS X E st s1) : SSs X E [st] s1 := pss_one h
theorem ss_cons (h1 : SS X E st s1) (h2 : SSs X E sts s2) : SSs X E (st :: sts) (sSeq s1 s2) :=
  PSs.imp (pss_cons h1 h2) fun D σ H ⟨W, τ, s, m⟩ => by
    refine ⟨W, τ, s, m.bind.imp fun o _ q => ?_⟩
    cases o with
    | nx τ1 => exact fun σ' H' e' => SSt.at e' q
    | rt h τ' => exact q
    | bk τ' => exact q
    | ct τ' => exact q
theorem ss_pass : SS X E (.Pass pos) sSkip := PS.imp ps_pass fun D σ H ⟨W, τ, s, m⟩ => m σ H (Ev.refl s)
theorem ss_break : SS X E (.Break pos) (fun τ => .ok (.bk τ)) := PS.imp ps_break fun D σ H ⟨W, τ, s, m⟩ => m σ H (Ev.refl s)
theorem ss_continue : SS X E (.Continue pos) (fun τ => .ok (.ct τ)) := PS.imp ps_continue fun D σ H ⟨W, τ, s, m⟩ => m σ H (Ev.refl s)
theorem ss_raise0 {c : Str} {d : D} : SS X xw0 st (fun _ => .ex c d) := PS.imp ps_never fun D σ H ⟨W, τ, s, m⟩ => m.elim
theorem ss_never : SS X E st (fun _ => .stuck) := PS.imp ps_never fun D σ H ⟨W, τ, s, m⟩ => m.elim
def sDrop (f : FE) : FS := fun τ => (f τ).bind fun p => .ok (.nx p.2)
theorem ss_expr (he : EE X E e f) (hs : swapsWith e none pos.line X.env = pure false := by rfl) : SS X E (.Expr e pos) (sDrop f) :=
  PS.imp (ps_expr he hs) fun D σ H ⟨W, τ, s, m⟩ => EEt.at (Ev.refl s) m.bind fun hd τ1 v H1 W1 q ev r _ => q σ H1 ev.base
def sIfS (c : T → R (Bool × T)) (s1 s2 : FS) : FS := fun τ => (c τ).bind fun p => if p.1 = true then s1 p.2 else s2 p.2
theorem ss_if {x y : List Stmt} (hc : EB X E c fb) (ha : SSs X E x s1) (hb : SSs X E y s2) : SS X E (.If c x y pos) (sIfS fb s1 s2) :=
  PS.imp (ps_if hc ha hb) fun D σ H ⟨W, τ, s, m⟩ => by
    refine EBt.at (Ev.refl s) m.bind fun c τ1 H1 W1 q ev => ?_
    cases c with
    | true =>
      rw [if_pos rfl] at q ⊢
      exact SSt.at ev.base q
    | false =>
      rw [if_neg Bool.false_ne_true] at q ⊢
      exact SSt.at ev.base q
/-! ### return -/
def mov (τ : T) : Hd → R (Hd × T)
  | .fro d => .ok (.fro d, τ)
  | .tmp d => .ok (.tmp d, τ)
  | .slot j => match τ[j]? with
    | some (some (.own false d)) => .ok (.tmp d, τ.set j none)
    | some (some (.fro d)) => .ok (.fro d, τ)
    | _ => .stuck
def sRet (f : FE) : FS := fun τ => (f τ).bind fun p => (mov p.2 p.1).bind fun q => .ok (.rt q.1 q.2)
def sRetN : FS := fun τ => .ok (.rt (.fro .non) τ)
theorem mov_ok {G : Gc} {W W' : Addr → Prop} {σ : St} {H H' : Hp} {τ τ1 τ2 : T} {v : V} {h h2 : Hd} (s : StR G W σ H τ) (ev : Ev G W σ H τ W' σ H' τ1) (r : HdR G H W' σ H' τ1 v h) (p : mov τ1 h = .ok (h2, τ2)) :
    Ev G W σ H τ W σ H' τ2 ∧ RtR G σ τ H W σ H' τ2 v h2 := by
  have ks : Keeps (Av W' σ τ1) (Av W σ τ1) H' H' := Keeps.less fun a q => q.elim (fun q => .inl (ev.wsub a q)) .inr
  cases h with
  | fro d =>
    cases p
    exact ⟨ev.base, Rv.keep ks d v r⟩
  | tmp d =>
    cases p
    obtain ⟨a, q1, q2, q3, q4, q5, q6⟩ := r
    have wa : ∀ b, (W b ∨ b = a) → W' b := fun b z => z.elim (ev.wsub b) fun z => by rw [z]; exact q3
    exact ⟨ev.base, a, q1, .inl q2, q4, q5, ev.st.shrink wa, Rc.keep (Keeps.less fun b z => z.elim (fun z => .inl (wa b z)) .inr) (fun _ z => z) q6⟩
  | slot j =>
    unfold mov at p
    dsimp only at p
    split at p
    · rename_i d he
      cases p
      obtain ⟨a, o1, o2, o3⟩ := ev.st.own j false d he
      have r' : σ[j]? = some (some v) := r
      rw [r'] at o1
      cases o1
      have hl : j < τ1.length := (List.getElem?_eq_some_iff.mp he).1
      have back : ∀ (i : Nat) (x : Sl), (τ1.set j none)[i]? = some (some x) → i ≠ j ∧ τ1[i]? = some (some x) := fun i x q => by
        by_cases ik : j = i
        · subst ik
          rw [List.getElem?_set_self hl] at q
          cases q
        · rw [List.getElem?_set_ne ik] at q
          exact ⟨fun z => ik z.symm, q⟩
      have na : ¬ Ow σ (τ1.set j none) a := fun ⟨i, c, x, q1, q2⟩ => by
        obtain ⟨ne, q⟩ := back i _ q1
        exact ne (ev.st.apart i j c false x d a q he q2 r')
      have kl : ∀ c, Av (fun b => W b ∨ b = a) σ (τ1.set j none) c → Av W' σ τ1 c := fun c z => by
        rcases z with (z | z) | ⟨i, b, x, q1, q2⟩
        · exact .inl (ev.wsub c z)
        · exact .inr ⟨j, false, d, he, by rw [z]; exact r'⟩
        · exact .inr ⟨i, b, x, (back i _ q1).2, q2⟩
      refine ⟨(ev_kill1 ev).base, a, rfl, ?_, na, o2, ⟨fun b z => ?_, fun i x q => ?_, fun i b x q => ?_, fun i k b c x y a' q1 q2 => ev.st.apart i k b c x y a' (back i _ q1).2 (back k _ q2).2, by rw [List.length_set]; exact ev.st.len, fun c ⟨i, x, q1, q2⟩ z => ?_⟩, ?_⟩
      · exact (ev.subf a ⟨j, d, he, r'⟩).symm
      · rcases z with z | z
        · exact ev.st.trk b (ev.wsub b z)
        · rw [z]
          exact mut_some o2
      · obtain ⟨u, h1, h2⟩ := ev.st.fro i x (back i _ q).2
        exact ⟨u, h1, Rv.keep (Keeps.less kl) x u h2⟩
      · obtain ⟨u, h1, h2, h3⟩ := ev.st.own i b x (back i _ q).2
        exact ⟨u, h1, h2, Rc.keep (Keeps.less kl) (fun _ z => z) h3⟩
      · rcases z with z | z
        · exact ev.st.nw c ⟨i, x, (back i _ q1).2, q2⟩ (ev.wsub c z)
        · exact na ⟨i, false, x, q1, by rw [← z]; exact q2⟩
      · exact Rc.keep (Keeps.less kl) (fun _ z => z) o3
    · rename_i d he
      cases p
      obtain ⟨u, h1, h2⟩ := ev.st.fro j d he
      have r' : σ[j]? = some (some v) := r
      rw [r'] at h1
      cases h1
      exact ⟨ev.base, Rv.keep ks d v h2⟩
    · cases p
theorem ss_ret (he : EE X E e f) : SS X E (.Return (some e) pos) (sRet f) :=
  PS.imp (ps_ret he) fun D σ H ⟨W, τ, s, m⟩ => by
    refine EEt.at (Ev.refl s) m.bind fun hd τ1 v H1 W1 q ev r _ => ?_
    dsimp only at q
    cases z : mov τ1 hd with
    | ok p =>
      obtain ⟨h2, τ2⟩ := p
      rw [z] at q
      obtain ⟨e2, r2⟩ := mov_ok s ev r z
      exact q v σ H1 e2 r2
    | ex c d =>
      exfalso
      clear q
      revert z
      unfold mov
      split <;> (try split) <;> intro z <;> cases z
    | stuck =>
      rw [z] at q
      exact q.elim
theorem ss_retN : SS X E (.Return none pos) sRetN := PS.imp ps_retN fun D σ H ⟨W, τ, s, m⟩ => m .non σ H (Ev.refl s) rfl
/-! ### names are stored -/
/-- a handle to be stored: a second name is frozen -/
def sMov (f : FE) : FE := fun τ => (f τ).bind fun p => match p.1 with
  | .slot j => (frz p.2 (.slot j)).bind fun q => .ok (.fro q.1, q.2)
  | h => .ok (h, p.2)
theorem frz_noex {τ : T} {h : Hd} {c : Str} {d : D} : frz τ h ≠ .ex c d := by
  unfold frz
  intro z
  split at z <;> (try split at z) <;> (try split at z) <;> cases z
theorem ee_mov (h : EE X E e f) : EE X E e (sMov f) := by
  refine PE.imp h fun σ H Q ⟨W, τ, s, m⟩ => ?_
  refine EEt.at (Ev.refl s) m.bind fun hd τ' v H' W' q ev r _ => ?_
  cases hd with
  | fro d => exact q v H' W' ev r
  | tmp d => exact q v H' W' ev r
  | slot j =>
    dsimp only at q
    cases z : frz τ' (.slot j) with
    | ok p =>
      obtain ⟨d, τ2⟩ := p
      rw [z] at q
      obtain ⟨W2, e2, r2⟩ := frz_ev s ev r z
      exact q v H' W2 e2 r2
    | ex c d => exact absurd z frz_noex
    | stuck =>
      rw [z] at q
      exact q.elim
def sSet (i : Nat) (f : FE) : FS := fun τ => (f τ).bind fun p => (ofO (slOf p.1)).bind fun x => .ok (.nx (p.2.set i (some x)))
theorem ss_set {i : Nat} {x : Str} {pos' : Pos} (hN : X.N.Nodup) (he : EE X E e f) (hi : X.N[i]? = some x := by rfl) (hx : Loc X.env.scope x := by first | exact Or.inl rfl | exact Or.inr rfl) (hs : swapsWith e (some (.Name x pos')) pos.line X.env = pure false := by rfl) (hf : X.fn x = true ∨ X.env.scope.names.lookup x = some .local := by first | exact .inl rfl | exact .inr rfl) :
    SS X E (.Assign [.Name x pos'] e pos) (sSet i f) :=
  PS.imp (ps_set hN hi hx he hs hf) fun D σ H ⟨W, τ, s, m⟩ => by
    refine EEt.at (Ev.refl s) m.bind fun hd τ1 v H1 W1 q ev r _ => ?_
    obtain ⟨y, hy, q⟩ := q.opt
    exact q _ H1 (ev_set s ev r hy)
end
end F
set_option Elab.async false
set_option linter.all false
set_option maxRecDepth 100000
set_option maxHeartbeats 4000000
/-! FF: targets, loops, what is walked (own work) -/
namespace F
open PySem L2

abbrev GF := D → T → R T
/-- they differ at these places alone -/
def Dif (ws : List Nat) (σ σ' : St) : Prop := ∀ (i : Nat), i ∉ ws → σ'[i]? = σ[i]?
def GGt (G : Gc) (E : XW) (ws : List Nat) (g : GF) : TG := fun v σ H Q => ∃ W τ d, StR G W σ H τ ∧ Rv G (Av W σ τ) H v d ∧ Wm E (Ow σ τ) H (fun τ' => ∀ σ' H', Ev G W σ H τ W σ' H' τ' → Dif ws σ σ' → Q σ' H') (g d τ)
def GG (X : Cx) (E : XW) (tg : Expr) (ws : List Nat) (g : GF) : Prop := PG X tg (GGt (gc X) E ws g)
abbrev GFs := List D → T → R T
def GLt (G : Gc) (E : XW) (ws : List Nat) (g : GFs) : TGs := fun vs σ H Q => ∃ W τ ds, StR G W σ H τ ∧ RvL G (Av W σ τ) H vs ds ∧ Wm E (Ow σ τ) H (fun τ' => ∀ σ' H', Ev G W σ H τ W σ' H' τ' → Dif ws σ σ' → Q σ' H') (g ds τ)
def GL (X : Cx) (E : XW) (tg : List Expr) (ws : List Nat) (g : GFs) : Prop := PGs X tg (GLt (gc X) E ws g)
theorem PG.imp {X : Cx} {e : Expr} {t t' : TG} (h : PG X e t) (k : ∀ v σ H Q, t' v σ H Q → t v σ H Q) : PG X e t' := ⟨fun pins s σ H v u Q I r q => h.run pins s σ H v u Q I r (k v σ H Q q)⟩
theorem PGs.imp {X : Cx} {e : List Expr} {t t' : TGs} (h : PGs X e t) (k : ∀ v σ H Q, t' v σ H Q → t v σ H Q) : PGs X e t' := ⟨fun pins s σ H v u Q I r q => h.run pins s σ H v u Q I r (k v σ H Q q)⟩
section
variable {X : Cx} {E : XW} {e a b c tg : Expr} {es : List Expr} {st : Stmt} {sts : List Stmt} {f g k : FE} {fs : FA} {fb : T → R (Bool × T)} {s1 s2 : FS} {gf : GF} {gs : GFs} {pos : Pos}
def gN (i : Nat) : GF := fun d τ => .ok (τ.set i (some (.fro d)))
theorem gg_name {i : Nat} {x : Str} (hN : X.N.Nodup) (hi : X.N[i]? = some x := by rfl) (hx : Loc X.env.scope x := by first | exact Or.inl rfl | exact Or.inr rfl) (hf : X.fn x = true ∨ X.env.scope.names.lookup x = some .local := by first | exact .inl rfl | exact .inr rfl) : GG X E (.Name x pos) [i] (gN i) :=
  PG.imp (pg_name hN hi hx hf) fun v σ H Q ⟨W, τ, d, s, r, m⟩ => m _ H (ev_set (h := .fro d) s (Ev.refl s) r rfl) fun k hk => List.getElem?_set_ne fun z => hk (by rw [z]; exact List.mem_singleton.mpr rfl)
theorem GGt.at {ws : List Nat} {G : Gc} {W : Addr → Prop} {σ σ0 : St} {H0 H : Hp} {τ0 τ : T} {v : V} {d : D} {Q : St → Hp → Prop} {q : T → Prop} (ev : Ev G W σ0 H0 τ0 W σ H τ) (r : Rv G (Av W σ τ) H v d) (m : Wm E (Ow σ0 τ0) H0 q (gf d τ))
    (h : ∀ τ' σ' H', q τ' → Ev G W σ0 H0 τ0 W σ' H' τ' → Ev G W σ H τ W σ' H' τ' → Dif ws σ σ' → Q σ' H') : GGt G E ws gf v σ H Q :=
  ⟨W, τ, d, ev.st, r, (m.move ev.frm fun a q => ev.sub q).imp fun τ' _ q σ' H' e dd => h τ' σ' H' q (ev.trans e) e dd⟩
theorem GLt.at {ws : List Nat} {G : Gc} {W : Addr → Prop} {σ σ0 : St} {H0 H : Hp} {τ0 τ : T} {v : List V} {d : List D} {Q : St → Hp → Prop} {q : T → Prop} (ev : Ev G W σ0 H0 τ0 W σ H τ) (r : RvL G (Av W σ τ) H v d) (m : Wm E (Ow σ0 τ0) H0 q (gs d τ))
    (h : ∀ τ' σ' H', q τ' → Ev G W σ0 H0 τ0 W σ' H' τ' → Dif ws σ σ' → Q σ' H') : GLt G E ws gs v σ H Q :=
  ⟨W, τ, d, ev.st, r, (m.move ev.frm fun a q => ev.sub q).imp fun τ' _ q σ' H' e dd => h τ' σ' H' q (ev.trans e) dd⟩
theorem Dif.trans {w1 w2 : List Nat} {σ σ1 σ2 : St} (a : Dif w1 σ σ1) (b : Dif w2 σ1 σ2) : Dif (w1 ++ w2) σ σ2 := fun i h => by
  rw [List.mem_append, not_or] at h
  rw [b i h.2, a i h.1]
def gNil : GFs := fun ds τ => match ds with
  | [] => .ok τ
  | _ :: _ => .stuck
def gCons (g : GF) (gs : GFs) : GFs := fun ds τ => match ds with
  | [] => .stuck
  | d :: ds => (g d τ).bind fun τ1 => gs ds τ1
theorem gl_nil : GL X E [] [] gNil := PGs.imp pgs_nil fun v σ H Q ⟨W, τ, ds, s, r, m⟩ => by
  cases ds with
  | nil => exact ⟨r, m σ H (Ev.refl s) fun _ _ => rfl⟩
  | cons d ds => exact m.elim
theorem gl_cons {w1 w2 : List Nat} (h1 : GG X E e w1 gf) (h2 : GL X E es w2 gs) (hs : (assignEach (e :: es) X.env).map (·.2) = assign e X.env :: (assignEach es X.env).map (·.2) := by rfl) : GL X E (e :: es) (w1 ++ w2) (gCons gf gs) :=
  PGs.imp (pgs_cons h1 h2 hs) fun v σ H Q ⟨W, τ, ds, s, r, m⟩ => by
    cases ds with
    | nil => exact m.elim
    | cons d ds =>
      obtain ⟨v1, vr, ev, r1, rr⟩ := r
      refine ⟨v1, vr, ev, GGt.at (Ev.refl s) r1 m.bind fun τ1 σ1 H1 q e1 _ d1 => ?_⟩
      exact GLt.at e1 (RvL.keep e1.keeps ds vr rr) q fun τ2 σ2 H2 q2 e2 d2 => q2 σ2 H2 e2 (d1.trans d2)
def gTup (gs : GFs) : GF := fun d τ => match d with
  | .tup ds => gs ds τ
  | _ => .stuck
/-- how many items a target takes: it takes no other number, and never raises -/
def Takes (gs : GFs) (n : Nat) : Prop := (∀ ds τ τ', gs ds τ = .ok τ' → ds.length = n) ∧ ∀ ds τ c d, gs ds τ ≠ .ex c d
def Calm (g : GF) : Prop := ∀ d τ c e, g d τ ≠ .ex c e
theorem calm_n {i : Nat} : Calm (gN i) := fun d τ c e h => by cases h
theorem takes_nil : Takes gNil 0 := by
  refine ⟨fun ds τ τ' h => ?_, fun ds τ c d h => ?_⟩
  · cases ds with
    | nil => rfl
    | cons d ds => cases h
  · cases ds with
    | nil => cases h
    | cons d ds => cases h
theorem takes_cons {n : Nat} (hg : Calm gf) (h : Takes gs n) : Takes (gCons gf gs) (n + 1) := by
  refine ⟨fun ds τ τ' q => ?_, fun ds τ c e q => ?_⟩
  · cases ds with
    | nil => cases q
    | cons d ds =>
      have q' : (gf d τ).bind (fun τ1 => gs ds τ1) = .ok τ' := q
      cases z : gf d τ with
      | ok τ1 =>
        rw [z] at q'
        rw [List.length_cons, h.1 ds τ1 τ' q']
      | ex c d =>
        rw [z] at q'
        cases q'
      | stuck =>
        rw [z] at q'
        cases q'
  · cases ds with
    | nil => cases q
    | cons d ds =>
      have q' : (gf d τ).bind (fun τ1 => gs ds τ1) = .ex c e := q
      cases z : gf d τ with
      | ok τ1 =>
        rw [z] at q'
        exact h.2 ds τ1 c e q'
      | ex c d => exact hg _ _ _ _ z
      | stuck =>
        rw [z] at q'
        cases q'
theorem calm_tup {n : Nat} (ht : Takes gs n) : Calm (gTup gs) := fun d τ c e h => by
  unfold gTup at h
  split at h
  · exact ht.2 _ _ _ _ h
  · cases h
theorem gg_tup {ws : List Nat} {n k : Nat} (hc : X.calm = true) (h : GL X E es ws gs) (ht : Takes gs n) (hn : (assignEach es X.env).length = n := by rfl) (hst : (assignEach es X.env).findIdx? (·.1) = none := by rfl) : GG X E (.Tuple es k pos) ws (gTup gs) :=
  PG.imp (pg_tup hc h hn hst) fun v σ H Q ⟨W, τ, d, s, r, m⟩ => by
    unfold gTup at m
    split at m
    · rename_i ds
      obtain ⟨a, vs, e1, _, r1, rl⟩ := r
      refine ⟨a, vs, e1, .inl (.inl r1), ?_, W, τ, ds, s, rl, m⟩
      rw [RvL.length rl]
      cases z : gs ds τ with
      | ok τ1 => exact ht.1 ds τ τ1 z
      | ex c d => exact absurd z (ht.2 ds τ c d)
      | stuck =>
        rw [z] at m
        exact m.elim
    · exact m.elim
/-! ### target = value -/
def sAsg (f : FE) (g : GF) : FS := fun τ => (f τ).bind fun p => match p.1 with
  | .fro d => (g d p.2).bind fun τ2 => .ok (.nx τ2)
  | _ => .stuck
theorem ss_asg {ws : List Nat} (he : EE X E e f) (hg : GG X E tg ws gf) (hs : swapsWithSole [tg] e pos.line X.env = pure false := by rfl) (hw : swappedStores [tg] e X.env = pure none := by rfl) (h1 : (assignEach [tg] X.env).map (·.2) = [assign tg X.env] := by rfl) :
    SS X E (.Assign [tg] e pos) (sAsg f gf) :=
  PS.imp (ps_asg he hg hs hw h1) fun D σ H ⟨W, τ, s, m⟩ => by
    refine EEt.at (Ev.refl s) m.bind fun hd τ1 v H1 W1 q ev r _ => ?_
    cases hd with
    | fro d =>
      have ks : Keeps (Av W1 σ τ1) (Av W σ τ1) H1 H1 := Keeps.less fun a q => q.elim (fun q => .inl (ev.wsub a q)) .inr
      exact GGt.at ev.base (Rv.keep ks d v r) q.bind fun τ2 σ2 H2 q2 e2 _ _ => q2 σ2 H2 e2
    | slot j => exact q.elim
    | tmp d => exact q.elim

/-! ### while -/
def sWhileN (c : T → R (Bool × T)) (bd : FS) (ks : List Nat) : Nat → FS
  | 0, _ => .stuck
  | n + 1, τ => (c τ).bind fun p => if p.1 = true then (bd p.2).bind fun o => match o with
      | .nx τ2 => sWhileN c bd ks n (kill ks τ2)
      | .ct τ2 => sWhileN c bd ks n (kill ks τ2)
      | .bk τ2 => .ok (.nx τ2)
      | .rt h τ2 => .ok (.rt h τ2)
    else .ok (.nx p.2)
def sWhile (n : Nat) (c : T → R (Bool × T)) (bd : FS) (ks : List Nat) : FS := fun τ => sWhileN c bd ks n (kill ks τ)
theorem ss_while {body : List Stmt} (n : Nat) (ks : List Nat) (hp : PassesOwn (model X.prog X.w) X.A X.env X.xe) (hc : EB X E c fb) (hb : SSs X E body s1) : SS X E (.While c body [] pos) (sWhile n fb s1 ks) :=
  PS.imp (ps_while hp hc hb) fun D σ H ⟨W, τ, s, m⟩ => by
    refine ⟨fun n σ1 H1 => ∃ τ1, Ev (gc X) W σ H τ W σ1 H1 τ1 ∧ Wm E (Ow σ τ) H (SQ (gc X) W σ H τ D) (sWhileN fb s1 ks n τ1), ⟨n, kill ks τ, ev_kill ks (Ev.refl s), m⟩, ?_⟩
    rintro n σ1 H1 ⟨τ1, ev, m1⟩
    cases n with
    | zero => exact m1.elim
    | succ n =>
      refine EBt.at ev m1.bind fun b τ2 H2 W2 q ev2 => ?_
      have ev2 := ev2.base
      cases b with
      | false =>
        rw [if_neg Bool.false_ne_true] at q ⊢
        exact q σ1 H2 ev2
      | true =>
        rw [if_pos rfl] at q ⊢
        refine ⟨fun σ3 H3 => ∃ τ3, Ev (gc X) W σ H τ W σ3 H3 τ3 ∧ Wm E (Ow σ τ) H (SQ (gc X) W σ H τ D) (sWhileN fb s1 ks n τ3), fun σ3 H3 z => ⟨n, Nat.lt_succ_self n, z⟩, ?_⟩
        refine ⟨W, τ2, ev2.st, (q.bind.move ev2.frm fun a q => ev2.sub q).imp fun o _ q3 => ?_⟩
        cases o with
        | nx τ3 => exact fun σ4 H4 e4 => ⟨kill ks τ3, ev_kill ks (ev2.trans e4), q3⟩
        | ct τ3 => exact fun σ4 H4 e4 => ⟨kill ks τ3, ev_kill ks (ev2.trans e4), q3⟩
        | bk τ3 => exact fun σ4 H4 e4 => q3 σ4 H4 (ev2.trans e4)
        | rt h τ3 => exact fun v σ4 H4 e4 r => q3 v σ4 H4 (ev2.trans e4) (r.from ev2)

/-! ### what is walked -/
structure ItOk (G : Gc) (J : It) (W : Addr → Prop) (σ : St) (H : Hp) (τ : T) (ds : List D) : Prop where
  go : ∀ W2 σ2 H2 τ2, Ev G W σ H τ W2 σ2 H2 τ2 → ∀ (i : Nat) d, ds[i]? = some d → J.go i H2 ∧ ∀ x H3, J.yld i H2 x H3 → Same H2 H3 ∧ Rv G (Av W2 σ2 τ2) H3 x d
  stop : ∀ W2 σ2 H2 τ2, Ev G W σ H τ W2 σ2 H2 τ2 → J.stop ds.length H2
abbrev FI := T → R (List D × T)
def IIt (G : Gc) (E : XW) (f : FI) : TI := fun σ H Q => ∃ W τ, StR G W σ H τ ∧ Wm E (Ow σ τ) H (fun p => ∀ J H', Ev G W σ H τ W σ H' p.2 → ItOk G J W σ H' p.2 p.1 → Q J H') (f τ)
def II (X : Cx) (E : XW) (tg iter : Expr) (f : FI) : Prop := PI X tg iter (IIt (gc X) E f)
theorem PI.imp {t t' : TI} (h : PI X tg e t) (k : ∀ σ H Q, t' σ H Q → t σ H Q) : PI X tg e t' := ⟨fun pins s σ H Q I q => h.run pins s σ H Q I (k σ H Q q)⟩
def iSeq (f : FE) : FI := fun τ => (sFrz f τ).bind fun p => match p.1 with
  | .fro (.lst ds) => .ok (ds, p.2)
  | .fro (.tup ds) => .ok (ds, p.2)
  | _ => .stuck
theorem itOk_list {G : Gc} {K : PySem.W.Frag} {W : Addr → Prop} {σ : St} {H : Hp} {τ : T} {a : Addr} {vs : List V} {ds : List D} (n : ¬ Av W σ τ a) (r0 : H a = some (.lst vs)) (l : RvL G (Av W σ τ) H vs ds) : ItOk G (Itl K a) W σ H τ ds where
  go := fun W2 σ2 H2 τ2 e i d hd => by
    have r : Rd H a (.lst vs) := .inl r0
    have r2 : Rd H2 a (.lst vs) := Rd.keep r fun o q => (e.keeps a o q n).1
    obtain ⟨v, hv, rv⟩ := RvL.get l hd
    refine ⟨⟨vs, v, .inl r2, hv⟩, fun x H3 y => ?_⟩
    obtain ⟨e1, y⟩ := y
    subst e1
    have := y vs (.inl r2)
    rw [hv] at this
    cases this
    exact ⟨Same.refl _, Rv.keep e.keeps d v rv⟩
  stop := fun W2 σ2 H2 τ2 e => ⟨vs, .inl (.inl (e.keeps a _ r0 n).1), by rw [RvL.length l]; exact Nat.le_refl _⟩
theorem itOk_tup {G : Gc} {K : PySem.W.Frag} {W : Addr → Prop} {σ : St} {H : Hp} {τ : T} {a : Addr} {vs : List V} {ds : List D} (n : ¬ Av W σ τ a) (r0 : H a = some (.tup vs)) (l : RvL G (Av W σ τ) H vs ds) : ItOk G (Itt K a) W σ H τ ds where
  go := fun W2 σ2 H2 τ2 e i d hd => by
    have r : Rd H a (.tup vs) := .inl r0
    have r2 : Rd H2 a (.tup vs) := Rd.keep r fun o q => (e.keeps a o q n).1
    obtain ⟨v, hv, rv⟩ := RvL.get l hd
    refine ⟨⟨vs, v, .inl r2, hv⟩, fun x H3 y => ?_⟩
    obtain ⟨e1, y⟩ := y
    subst e1
    have := y vs (.inl r2)
    rw [hv] at this
    cases this
    exact ⟨Same.refl _, Rv.keep e.keeps d v rv⟩
  stop := fun W2 σ2 H2 τ2 e => ⟨vs, .inl (.inl (e.keeps a _ r0 n).1), by rw [RvL.length l]; exact Nat.le_refl _⟩
theorem ii_seq (he : EE X E e f) : II X E tg e (iSeq f) := by
  refine ⟨fun pins s σ H Q I ⟨W, τ, st, m⟩ => ?_⟩
  have hf := ee_frz he
  unfold iSeq at m
  have m' := m.bind
  cases z : sFrz f τ with
  | stuck =>
    rw [z] at m'
    exact m'.elim
  | ex c d =>
    rw [z] at m'
    refine (pi_list hf).run pins s σ H Q I ⟨W, τ, st, ?_⟩
    rw [z]
    exact m'
  | ok p =>
    rw [z] at m'
    obtain ⟨h, τ1⟩ := p
    have m1 : Wm E (Ow σ τ) H (fun p => ∀ J H', Ev (gc X) W σ H τ W σ H' p.2 → ItOk (gc X) J W σ H' p.2 p.1 → Q J H') (match h with | .fro (.lst ds) => .ok (ds, τ1) | .fro (.tup ds) => .ok (ds, τ1) | _ => .stuck) := m'
    split at m1
    · rename_i ds
      refine (pi_list hf).run pins s σ H Q I ⟨W, τ, st, ?_⟩
      rw [z]
      refine fun v H1 W1 ev r => ?_
      have ks : Keeps (Av W1 σ τ1) (Av W σ τ1) H1 H1 := Keeps.less fun a q => q.elim (fun q => .inl (ev.wsub a q)) .inr
      obtain ⟨a, vs, e1, n, r1, l⟩ := Rv.keep ks _ _ r
      exact ⟨a, e1, ⟨vs, .inl (.inl r1)⟩, m1 _ H1 ev.base (itOk_list n r1 l)⟩
    · rename_i ds
      refine (pi_tup hf).run pins s σ H Q I ⟨W, τ, st, ?_⟩
      rw [z]
      refine fun v H1 W1 ev r => ?_
      have ks : Keeps (Av W1 σ τ1) (Av W σ τ1) H1 H1 := Keeps.less fun a q => q.elim (fun q => .inl (ev.wsub a q)) .inr
      obtain ⟨a, vs, e1, n, r1, l⟩ := Rv.keep ks _ _ r
      exact ⟨a, e1, ⟨vs, .inl (.inl r1)⟩, m1 _ H1 ev.base (itOk_tup n r1 l)⟩
    · exact m1.elim
theorem IIt.at {fi : FI} {G : Gc} {W0 W : Addr → Prop} {σ0 σ : St} {H0 H : Hp} {τ0 τ : T} {Q : It → Hp → Prop} {q : List D × T → Prop} (ev : Ev G W0 σ0 H0 τ0 W σ H τ) (m : Wm E (Ow σ0 τ0) H0 q (fi τ))
    (h : ∀ ds τ' J H', q (ds, τ') → Ev G W0 σ0 H0 τ0 W σ H' τ' → ItOk G J W σ H' τ' ds → Ev G W σ H τ W σ H' τ' → Q J H') : IIt G E fi σ H Q := by
  refine ⟨W, τ, ev.st, (m.move ev.frm fun a q => ev.sub q).imp fun p _ hp J H' e1 r1 => ?_⟩
  obtain ⟨ds, τ'⟩ := p
  exact h ds τ' J H' hp (ev.trans e1) r1 e1
/-- whole numbers from one on -/
def rngL (lo : Int) (n : Nat) : List D := (List.range n).map fun (k : Nat) => D.int (lo + (k : Int))
theorem itOk_rng {G : Gc} {W : Addr → Prop} {σ : St} {H : Hp} {τ : T} (lo : Int) (n : Nat) : ItOk G (Itr lo n) W σ H τ (rngL lo n) where
  go := fun W2 σ2 H2 τ2 e i d hd => by
    have hi : i < n := by
      have z := (List.getElem?_eq_some_iff.mp hd).1
      unfold rngL at z
      rw [List.length_map, List.length_range] at z
      exact z
    unfold rngL at hd
    rw [List.getElem?_map, List.getElem?_range hi] at hd
    cases hd
    refine ⟨hi, fun x H3 y => ?_⟩
    obtain ⟨e1, y⟩ := y
    subst e1
    exact ⟨Same.refl _, y⟩
  stop := fun W2 σ2 H2 τ2 e => by
    show n ≤ (rngL lo n).length
    unfold rngL
    rw [List.length_map, List.length_range]
    exact Nat.le_refl _
def inI (i : Int) : Bool := decide (-4611686018427387904 ≤ i) && decide (i < 4611686018427387904)
theorem inI_ok {i : Int} (h : inI i = true) : -(2 ^ 62) ≤ i ∧ i < 2 ^ 62 := by
  unfold inI at h
  rw [Bool.and_eq_true, decide_eq_true_eq, decide_eq_true_eq] at h
  omega
def iRng1 (fs : FA) : FI := fun τ => (fs τ).bind fun p => match p.1 with
  | [.fro (.int j)] => (chk (inI j)).bind fun _ => .ok (rngL 0 j.toNat, p.2)
  | _ => .stuck
def iRng2 (fs : FA) : FI := fun τ => (fs τ).bind fun p => match p.1 with
  | [.fro (.int i), .fro (.int j)] => (chk (inI i && inI j)).bind fun _ => .ok (rngL i (j - i).toNat, p.2)
  | _ => .stuck
theorem ii_range1 {p : Pos} (hg : Gl X "range") (hm : X.mg "range" = none) (ha : EA X E [a] fs) (hs : starEach [a] X.env = [(false, eval a X.env)] := by rfl) : II X E tg (.Call (.Name "range" p) [a] [] pos) (iRng1 fs) :=
  PI.imp (pi_range1 hg hm ha hs) fun σ H Q ⟨W, τ, s, m⟩ => by
    refine EAt.at (Ev.refl s) m.bind fun hs τ1 vs H1 W1 q ev r _ => ?_
    dsimp only at q
    split at q
    · rename_i j
      obtain ⟨c, q⟩ := q.chk
      obtain ⟨v, r1, e1, h1, h2⟩ := r
      have h2' : r1 = [] := h2
      have h1' : v = .int j := h1
      subst h2' h1'
      exact ⟨j, e1, (inI_ok c).1, (inI_ok c).2, q _ H1 ev.base (itOk_rng 0 _)⟩
    · exact q.elim
theorem ii_range2 {p : Pos} (hg : Gl X "range") (hm : X.mg "range" = none) (ha : EA X E [a, b] fs) (hs : starEach [a, b] X.env = [(false, eval a X.env), (false, eval b X.env)] := by rfl) (hs2 : starEach [b] X.env = [(false, eval b X.env)] := by rfl) : II X E tg (.Call (.Name "range" p) [a, b] [] pos) (iRng2 fs) :=
  PI.imp (pi_range2 hg hm ha hs hs2) fun σ H Q ⟨W, τ, s, m⟩ => by
    refine EAt.at (Ev.refl s) m.bind fun hs τ1 vs H1 W1 q ev r _ => ?_
    dsimp only at q
    split at q
    · rename_i i j
      obtain ⟨c, q⟩ := q.chk
      rw [Bool.and_eq_true] at c
      obtain ⟨v, r1, e1, h1, w, r2, e2, h2, h3⟩ := r
      have h3' : r2 = [] := h3
      have h1' : v = .int i := h1
      have h2' : w = .int j := h2
      subst h3' h2' h1' e2
      exact ⟨i, j, e1, ⟨(inI_ok c.1).1, (inI_ok c.1).2, (inI_ok c.2).1, (inI_ok c.2).2⟩, q _ H1 ev.base (itOk_rng i _)⟩
    · exact q.elim
/-! ### for -/
def sForL (tg : GF) (bd : FS) (ks : List Nat) : List D → FS
  | [], τ => .ok (.nx τ)
  | d :: ds, τ => (tg d τ).bind fun τ1 => (bd τ1).bind fun o => match o with
      | .nx τ2 => sForL tg bd ks ds (kill ks τ2)
      | .ct τ2 => sForL tg bd ks ds (kill ks τ2)
      | .bk τ2 => .ok (.nx τ2)
      | .rt h τ2 => .ok (.rt h τ2)
def sFor (f : FI) (tg : GF) (bd : FS) (ks : List Nat) : FS := fun τ => (f τ).bind fun p => sForL tg bd ks p.1 (kill ks p.2)
theorem ss_for {iter : Expr} {body : List Stmt} {fi : FI} {ws : List Nat} (ks : List Nat) (hp : PassesOwn (model X.prog X.w) X.A X.env X.xe) (hc : X.calm = true) (hi : II X E tg iter fi) (hg : GG X E tg ws gf) (hb : SSs X E body s1)
    (hs : ∀ x, foldedSetIterable iter X.env x = pure x := by intro _; rfl) : SS X E (.For tg iter body [] pos) (sFor fi gf s1 ks) :=
  PS.imp (ps_for hp hc hi hg hb hs) fun D σ H ⟨W, τ, s, m⟩ => by
    refine IIt.at (Ev.refl s) m.bind fun ds τ1 J H1 q ev it _ => ?_
    -- at turn i: what is left of the items
    refine ⟨fun i m σi Hi => m = ds.length - i ∧ i ≤ ds.length ∧ ∃ τi, Ev (gc X) W σ H1 τ1 W σi Hi τi ∧ Wm E (Ow σ τ) H (SQ (gc X) W σ H τ D) (sForL gf s1 ks (ds.drop i) τi), ⟨ds.length, by simp, Nat.zero_le _, kill ks τ1, ev_kill ks (Ev.refl ev.st), q⟩, ?_⟩
    rintro i m σi Hi ⟨rfl, hi, τi, ei, mi⟩
    by_cases hlt : i < ds.length
    · right
      have hdi : ds[i]? = some ds[i] := List.getElem?_eq_getElem hlt
      obtain ⟨g1, g2⟩ := it.go W σi Hi τi ei i ds[i] hdi
      refine ⟨g1, fun σ' H' => ∃ τ', Ev (gc X) W σ H1 τ1 W σ' H' τ' ∧ Wm E (Ow σ τ) H (SQ (gc X) W σ H τ D) (sForL gf s1 ks (ds.drop (i + 1)) τ'), fun σ' H' z => ⟨ds.length - (i + 1), by omega, rfl, hlt, z⟩, fun x H2 y => ?_⟩
      obtain ⟨sm, rx⟩ := g2 x H2 y
      rw [List.drop_eq_getElem_cons hlt] at mi
      have e2 : Ev (gc X) W σ H1 τ1 W σi H2 τi := ei.trans (Ev.same ei.st sm)
      have rx : Rv (gc X) (Av W σi τi) H2 x ds[i] := rx
      refine GGt.at (ev.trans e2) rx mi.bind fun τ3 σ3 H3 q3 e4 e5 _ => ?_
      have e6 := e2.trans e5
      refine ⟨W, τ3, e4.st, (q3.bind.move e4.frm fun a q => e4.sub q).imp fun o _ q5 => ?_⟩
      cases o with
      | nx τ4 => exact fun σ4 H4 e7 => ⟨kill ks τ4, ev_kill ks (e6.trans e7), q5⟩
      | ct τ4 => exact fun σ4 H4 e7 => ⟨kill ks τ4, ev_kill ks (e6.trans e7), q5⟩
      | bk τ4 => exact fun σ4 H4 e7 => q5 σ4 H4 (e4.trans e7)
      | rt h τ4 => exact fun v σ4 H4 e7 r => q5 v σ4 H4 (e4.trans e7) (r.from e4)
    · left
      have e : i = ds.length := by omega
      subst e
      rw [List.drop_length] at mi
      exact ⟨it.stop W σi Hi τi ei, mi σi Hi (ev.trans ei)⟩
end
end F
set_option Elab.async false
set_option linter.all false
set_option maxRecDepth 100000
set_option maxHeartbeats 4000000
/-! FG: comprehensions (own work) -/
namespace F
open PySem L2

section
variable {G : Gc} {E : XW} {W W' W0 W1 W2 : Addr → Prop} {σ σ' σ0 σ1 σ2 σ3 : St} {H H' H1 H2 H0 : Hp} {τ τ' τ0 τ1 τ2 : T} {v : V} {h : Hd} {d d' : D}
/-- nothing is known at these places -/
def KB (vs : List Nat) (τ : T) : Prop := ∀ (i : Nat) (x : Sl), τ[i]? = some (some x) → i ∉ vs
theorem set_none {k i : Nat} {x : Sl} (q : (τ.set k none)[i]? = some (some x)) : i ≠ k ∧ τ[i]? = some (some x) := by
  by_cases ik : k = i
  · subst ik
    by_cases hl : k < τ.length
    · rw [List.getElem?_set_self hl] at q
      cases q
    · rw [List.getElem?_eq_none (by rw [List.length_set]; omega)] at q
      cases q
  · rw [List.getElem?_set_ne ik] at q
    exact ⟨fun z => ik z.symm, q⟩
theorem kill_get : ∀ {ks : List Nat} {τ : T} {i : Nat} {x : Sl}, (kill ks τ)[i]? = some (some x) → i ∉ ks ∧ τ[i]? = some (some x)
  | [], _, _, _, h => ⟨List.not_mem_nil, h⟩
  | k :: ks, τ, i, x, h => by
    have h' : (kill ks (τ.set k none))[i]? = some (some x) := h
    obtain ⟨h1, h2⟩ := kill_get h'
    obtain ⟨h3, h4⟩ := set_none h2
    exact ⟨by rw [List.mem_cons, not_or]; exact ⟨h3, h1⟩, h4⟩
theorem kb_kill (ks : List Nat) (τ : T) : KB ks (kill ks τ) := fun i x q => (kill_get q).1
/-- the frame may be another at places of which nothing is known -/
theorem ev_off {vs : List Nat} (e : Ev G W0 σ0 H0 τ0 W σ H τ) (kb : KB vs τ) (hd : Dif vs σ σ') (hl : σ'.length = σ.length) : Ev G W0 σ0 H0 τ0 W σ' H τ := by
  have at_ : ∀ (i : Nat) (x : Sl), τ[i]? = some (some x) → σ'[i]? = σ[i]? := fun i x q => hd i (kb i x q)
  have ow : ∀ c, Ow σ' τ c → Ow σ τ c := fun c ⟨i, b, y, q1, q2⟩ => ⟨i, b, y, q1, by rw [← at_ i _ q1]; exact q2⟩
  have ka : Keeps (Av W σ τ) (Av W σ' τ) H H := Keeps.less fun c q => q.elim .inl fun q => .inr (ow c q)
  refine ⟨e.frm, e.trk, fun c ⟨i, y, q1, q2⟩ => e.subf c ⟨i, y, q1, by rw [← at_ i _ q1]; exact q2⟩, fun i y q => let ⟨a, b⟩ := e.lent i y q; ⟨a, (at_ i _ q).trans b⟩, e.wsub, e.wnew, ⟨e.st.trk, fun i y q => ?_, fun i b y q => ?_, fun i j b c x y a q1 q2 p1 p2 => ?_, e.st.len.trans hl.symm, fun c ⟨i, y, q1, q2⟩ => e.st.nw c ⟨i, y, q1, by rw [← at_ i _ q1]; exact q2⟩⟩, hl.trans e.len⟩
  · obtain ⟨u, h1, h2⟩ := e.st.fro i y q
    exact ⟨u, (at_ i _ q).trans h1, Rv.keep ka y u h2⟩
  · obtain ⟨u, h1, h2, h3⟩ := e.st.own i b y q
    exact ⟨u, (at_ i _ q).trans h1, h2, Rc.keep ka (fun _ z => z) h3⟩
  · rw [at_ i _ q1] at p1
    rw [at_ j _ q2] at p2
    exact e.st.apart i j b c x y a q1 q2 p1 p2
/-- a guarded object of our own is written -/
theorem ev_guard {a : Addr} {o : HO} (e : Ev G W0 σ0 H0 τ0 W σ H τ) (h0 : H0 a = none) (hw : W a) (hn : ¬ Ow σ τ a) : Ev G W0 σ0 H0 τ0 W σ (upd H a o) τ := by
  have ka : Keeps (Av W σ τ) (Av W σ τ) H (upd H a o) := fun c u q n => by
    have ne : c ≠ a := fun z => n (.inl (by rw [z]; exact hw))
    exact ⟨by rw [upd_ne ne]; exact q, n⟩
  have trk : ∀ c, H c ≠ none → upd H a o c ≠ none := fun c n => by
    by_cases z : c = a
    · rw [z, upd_same]
      exact fun z => nomatch z
    · rw [upd_ne z]
      exact n
  refine ⟨fun c u q n => ?_, fun c n => trk c (e.trk c n), e.subf, e.lent, e.wsub, e.wnew, ⟨fun c q => trk c (e.st.trk c q), fun i y q => ?_, fun i b y q => ?_, e.st.apart, e.st.len, e.st.nw⟩, e.len⟩
  · have ne : c ≠ a := fun z => by
      rw [z, h0] at q
      cases q
    rw [upd_ne ne]
    exact e.frm c u q n
  · obtain ⟨u, h1, h2⟩ := e.st.fro i y q
    exact ⟨u, h1, Rv.keep ka y u h2⟩
  · obtain ⟨u, h1, h2, h3⟩ := e.st.own i b y q
    have ne : u ≠ a := fun z => hn ⟨i, b, y, q, by rw [← z]; exact h1⟩
    exact ⟨u, h1, by rw [upd_ne ne]; exact h2, Rc.keep ka (fun o z => by rw [upd_ne ne]; exact z) h3⟩
theorem wipe_off {vs : List Nat} : Dif vs σ (wipe σ vs) := fun i h => wipe_out h
theorem wipe_eq {ws vs : List Nat} (h : Dif ws σ σ') (hw : ∀ i ∈ ws, i ∈ vs) (hl : σ'.length = σ.length) : wipe σ' vs = wipe σ vs := by
  have wl : ∀ (s : St) (vs : List Nat) (i : Nat), i ∈ vs → i < s.length → (wipe s vs)[i]? = some none := by
    intro s vs
    induction vs with
    | nil => exact fun i h => absurd h List.not_mem_nil
    | cons v vs ih =>
      intro i hi hl
      unfold wipe
      by_cases e : v = i
      · subst e
        rw [List.getElem?_set_self (by rw [wipe_length]; exact hl)]
      · rw [List.getElem?_set_ne e]
        rcases List.mem_cons.mp hi with z | z
        · exact absurd z.symm e
        · exact ih i z hl
  refine List.ext_getElem? fun i => ?_
  by_cases hi : i ∈ vs
  · by_cases hlt : i < σ.length
    · rw [wl σ' vs i hi (by rw [hl]; exact hlt), wl σ vs i hi hlt]
    · rw [List.getElem?_eq_none (by rw [wipe_length, hl]; omega), List.getElem?_eq_none (by rw [wipe_length]; omega)]
  · rw [wipe_out hi, wipe_out hi]
    exact h i fun z => hi (hw i z)
end

section
variable {X : Cx} {E : XW} {e a b c tg elt iter : Expr} {es ifs : List Expr} {st : Stmt} {sts : List Stmt} {f g k el : FE} {fs : FA} {fb tt : T → R (Bool × T)} {s1 s2 : FS} {gf : GF} {gs : GFs} {fi : FI} {pos : Pos}
def EBs (X : Cx) (E : XW) (es : List Expr) (f : T → R (Bool × T)) : Prop := PTs X es (EBt (gc X) E f)
theorem PTs.imp {t t' : TT} (h : PTs X es t) (k : ∀ σ H Q, t' σ H Q → t σ H Q) : PTs X es t' := ⟨fun pins s σ H Q I q => h.run pins s σ H Q I (k σ H Q q)⟩
def bYes : T → R (Bool × T) := fun τ => .ok (true, τ)
theorem ebs_nil : EBs X E [] bYes := PTs.imp pts_nil fun σ H Q ⟨W, τ, s, m⟩ => m H W (Ev.refl s)
theorem ebs_one (h : EB X E c fb) : EBs X E [c] fb := pts_one h
def sCompL (tg : GF) (c : T → R (Bool × T)) (el : FE) (vs : List Nat) : List D → T → R (List D × T)
  | [], τ => .ok ([], τ)
  | d :: ds, τ => (tg d τ).bind fun τ1 => (c τ1).bind fun p => if p.1 = true then (el p.2).bind fun q => match q.1 with
        | .fro x => (sCompL tg c el vs ds (kill vs q.2)).bind fun r => .ok (x :: r.1, r.2)
        | _ => .stuck
      else sCompL tg c el vs ds (kill vs p.2)
/-- nothing is raised within a comprehension -/
def noex {α : Type} : R α → R α
  | .ok a => .ok a
  | _ => .stuck
theorem Wm.noex {M : Addr → Prop} {H : Hp} {α β : Type} {k : β → Prop} {x : R α} {f : α → R β} (h : Wm E M H k (R.bind (noex x) f)) : Wm xw0 M H (fun a => Wm E M H k (f a)) x := by
  cases x with
  | ok a => exact h
  | ex c d => exact h.elim
  | stuck => exact h.elim
def sComp (fi : FI) (tg : GF) (c : T → R (Bool × T)) (el : FE) (vs : List Nat) : FE := fun τ => (fi τ).bind fun p => (chk (sz p.1.length)).bind fun _ => (noex (sCompL tg c el vs p.1 (kill vs p.2))).bind fun r => .ok (.tmp (.lst r.1), r.2)
theorem Wm.app {M : Addr → Prop} {H : Hp} {α β : Type} {k : β → Prop} {x : R α} {f : α → R β} (h : Wm E M H (fun a => Wm E M H k (f a)) x) : Wm E M H k (R.bind x f) := by
  cases x with
  | ok a => exact h
  | ex c d => exact h
  | stuck => exact h
/-- the reading of a comprehension, by its parts' -/
theorem comp_at {ws vs : List Nat} {wi : TI} {g : TG} {t : TT} {te : TE} (hw : ∀ i ∈ ws, i ∈ vs) (hwi : ∀ σ H Q, IIt (gc X) E fi σ H Q → wi σ H Q) (hg : ∀ v σ H Q, GGt (gc X) xw0 ws gf v σ H Q → g v σ H Q) (ht : ∀ σ H Q, EBt (gc X) xw0 tt σ H Q → t σ H Q) (hte : ∀ σ H Q, EEt (gc X) xw0 el σ H Q → te σ H Q)
    {σ : St} {H : Hp} {Q : VK} (h : EEt (gc X) E (sComp fi gf tt el vs) σ H Q) : tLc wi g t te vs σ H Q := by
  obtain ⟨W, τ, s, m⟩ := h
  refine hwi σ H _ (IIt.at (Ev.refl s) m.bind fun ds τ1 J H1 q ev it _ => ?_)
  obtain ⟨zc, q⟩ := q.chk
  intro L hL
  have hL0 : H L = none := Classical.byContradiction fun z => ev.trk L z hL
  -- what holds between two turns
  let Wb : Addr → Prop := fun a => W a ∨ a = L
  refine ⟨fun i m Hi => m = ds.length - i ∧ i ≤ ds.length ∧ ∃ τi acc as, Ev (gc X) W σ H τ Wb (wipe σ vs) Hi τi ∧ Ev (gc X) W σ H1 τ1 Wb (wipe σ vs) Hi τi ∧ KB vs τi ∧ Hi L = some (.lst acc) ∧ acc.length ≤ i ∧ RvL (gc X) (Av Wb (wipe σ vs) τi) Hi acc as ∧
      Wm xw0 (Ow σ τ) H (fun (r : List D × T) => ∀ (v : V) (H' : Hp) (W' : Addr → Prop), Ev (gc X) W σ H τ W' σ H' r.2 → HdR (gc X) H W' σ H' r.2 v (.tmp (.lst (as ++ r.1))) → Q v H') (sCompL gf tt el vs (ds.drop i) τi),
    ⟨ds.length, by simp, Nat.zero_le _, kill vs τ1, [], [], ?_, ?_, kb_kill vs τ1, upd_same, Nat.le_refl _, rfl, q.noex⟩, ?_⟩
  · have sm : Same H1 (upd H1 L (.lst [])) := same_new hL
    have e1 : Ev (gc X) W σ H1 τ1 Wb σ (upd H1 L (.lst [])) τ1 := by
      refine ⟨fun a o z _ => sm a o z, Same.tracked sm, fun a z => .inl z, fun j d z => ⟨⟨d, z⟩, rfl⟩, fun a z => .inl z, fun a z => z.elim .inl fun z => .inr (by rw [z]; exact hL), ev.st.same sm (fun a z => z.elim .inl fun z => .inr (by rw [z]; exact hL)) fun a z => ?_, rfl⟩
      rcases z with z | z
      · exact Same.tracked sm a (ev.st.trk a z)
      · rw [z, upd_same]
        exact fun z => nomatch z
    exact ev.trans (ev_off (ev_kill vs e1) (kb_kill vs τ1) wipe_off (wipe_length σ vs))
  · have sm : Same H1 (upd H1 L (.lst [])) := same_new hL
    have e1 : Ev (gc X) W σ H1 τ1 Wb σ (upd H1 L (.lst [])) τ1 := by
      refine ⟨fun a o z _ => sm a o z, Same.tracked sm, fun a z => .inl z, fun j d z => ⟨⟨d, z⟩, rfl⟩, fun a z => .inl z, fun a z => z.elim .inl fun z => .inr (by rw [z]; exact hL), ev.st.same sm (fun a z => z.elim .inl fun z => .inr (by rw [z]; exact hL)) fun a z => ?_, rfl⟩
      rcases z with z | z
      · exact Same.tracked sm a (ev.st.trk a z)
      · rw [z, upd_same]
        exact fun z => nomatch z
    exact ev_off (ev_kill vs e1) (kb_kill vs τ1) wipe_off (wipe_length σ vs)
  · rintro i m Hi ⟨rfl, hi, τi, acc, as, ei, ej, kb, hD, hacc, hrv, mi⟩
    have nD : ∀ {σ2 : St} {H2 : Hp} {τ2 : T}, Ev (gc X) W σ H τ Wb σ2 H2 τ2 → ¬ Ow σ2 τ2 L := fun e z => by
      rcases e.sub z with z | z
      · exact s.owT z hL0
      · -- it is new: but no slot of ours holds it
        exact absurd z (fun _ => by
          obtain ⟨j, b, d, q1, q2⟩ := ‹Ow _ _ L›
          cases b with
          | true =>
            obtain ⟨⟨d', q3⟩, q4⟩ := e.lent j d q1
            exact s.owT ⟨j, true, d', q3, by rw [← q4]; exact q2⟩ hL0
          | false => exact e.st.nw L ⟨j, d, q1, q2⟩ (.inr rfl))
    by_cases hlt : i < ds.length
    · right
      have hdi : ds[i]? = some ds[i] := List.getElem?_eq_getElem hlt
      obtain ⟨g1, g2⟩ := it.go Wb (wipe σ vs) Hi τi ej i ds[i] hdi
      refine ⟨g1, fun H' => ∃ τ' acc as, Ev (gc X) W σ H τ Wb (wipe σ vs) H' τ' ∧ Ev (gc X) W σ H1 τ1 Wb (wipe σ vs) H' τ' ∧ KB vs τ' ∧ H' L = some (.lst acc) ∧ acc.length ≤ i + 1 ∧ RvL (gc X) (Av Wb (wipe σ vs) τ') H' acc as ∧
        Wm xw0 (Ow σ τ) H (fun (r : List D × T) => ∀ (v : V) (H' : Hp) (W' : Addr → Prop), Ev (gc X) W σ H τ W' σ H' r.2 → HdR (gc X) H W' σ H' r.2 v (.tmp (.lst (as ++ r.1))) → Q v H') (sCompL gf tt el vs (ds.drop (i + 1)) τ'), fun H' z => ⟨ds.length - (i + 1), by omega, rfl, hlt, z⟩, fun x H2 y => ?_⟩
      obtain ⟨sm, rx⟩ := g2 x H2 y
      rw [List.drop_eq_getElem_cons hlt] at mi
      have ey : Ev (gc X) Wb (wipe σ vs) Hi τi Wb (wipe σ vs) H2 τi := Ev.same ei.st sm
      have mt := mi.bind
      refine hg _ _ _ _ ⟨Wb, τi, ds[i], ey.st, rx, (mt.move (ei.trans ey).frm fun a q => (ei.trans ey).sub q).imp fun τ3 _ q3 σ3 H3 e3 d3 => ?_⟩
      have w3 : wipe σ3 vs = wipe σ vs := by
        rw [wipe_eq d3 hw e3.len]
        refine wipe_eq (ws := vs) wipe_off (fun i z => z) (wipe_length σ vs)
      refine ⟨w3, ?_⟩
      have ey3 := ey.trans e3
      have t3 := ei.trans ey3
      refine ht _ _ _ ⟨Wb, τ3, t3.st, (q3.bind.move t3.frm fun a q => t3.sub q).imp fun p _ q4 H4 W4 e4' => ?_⟩
      obtain ⟨b, τ4⟩ := p
      have e4 := e4'.base
      have ey4 := ey3.trans e4
      have t4 := ei.trans ey4
      have u4 := ej.trans ey4
      have back : Dif vs σ3 (wipe σ vs) := fun i h => by rw [← w3]; exact wipe_out h
      have hlen : (wipe σ vs).length = σ3.length := by rw [← w3]; exact wipe_length σ3 vs
      cases b with
      | false =>
        rw [if_neg Bool.false_ne_true] at q4 ⊢
        have ek : Ev (gc X) Wb (wipe σ vs) Hi τi Wb (wipe σ vs) H4 (kill vs τ4) := ev_off (ev_kill vs ey4) (kb_kill vs τ4) back hlen
        exact ⟨kill vs τ4, acc, as, ei.trans ek, ej.trans ek, kb_kill vs τ4, ek.frm L _ hD (nD ei), Nat.le_succ_of_le hacc, RvL.keep ek.keeps _ _ hrv, q4⟩
      | true =>
        rw [if_pos rfl] at q4 ⊢
        refine hte _ _ _ ⟨Wb, τ4, t4.st, (q4.bind.move t4.frm fun a q => t4.sub q).imp fun p _ q5 y5 H5 W5 e5' r5 => ?_⟩
        obtain ⟨hd, τ5⟩ := p
        have e5 := e5'.base
        have ey5 := ey4.trans e5
        cases hd with
        | slot j => exact q5.elim
        | tmp d => exact q5.elim
        | fro x5 =>
          have hD5 : H5 L = some (.lst acc) := ey5.frm L _ hD (nD ei)
          have r5' : Rv (gc X) (Av Wb σ3 τ5) H5 y5 x5 := Rv.keep (Keeps.less fun a q => q.elim (fun q => .inl (e5'.wsub a q)) .inr) _ _ r5
          have ek : Ev (gc X) Wb (wipe σ vs) Hi τi Wb (wipe σ vs) H5 (kill vs τ5) := ev_off (ev_kill vs ey5) (kb_kill vs τ5) back hlen
          have r6 : Rv (gc X) (Av Wb (wipe σ vs) (kill vs τ5)) H5 y5 x5 := Rv.keep (Keeps.less fun a q => q.elim .inl fun ⟨j, b, d, q1, q2⟩ => .inr ⟨j, b, d, (kill_get q1).2, by rw [back j (kill_get q1).1] at q2; exact q2⟩) _ _ r5'
          have zl : acc.length < sizeLine := by
            have z1 : ds.length ≤ sizeLine := sz_ok zc
            omega
          refine ⟨acc, hD5, zl, kill vs τ5, acc ++ [y5], as ++ [x5], ev_guard (ei.trans ek) hL0 (.inr rfl) (nD (ei.trans ek)), ev_guard (ej.trans ek) hL (.inr rfl) (nD (ei.trans ek)), kb_kill vs τ5, upd_same, by rw [List.length_append, List.length_singleton]; omega, ?_, ?_⟩
          · have ku : Keeps (Av Wb (wipe σ vs) (kill vs τ5)) (Av Wb (wipe σ vs) (kill vs τ5)) H5 (upd H5 L (.lst (acc ++ [y5]))) := fun a o h n => by
              have ne : a ≠ L := fun z => n (.inl (.inr z))
              exact ⟨by rw [upd_ne ne]; exact h, n⟩
            exact RvL.keep ku _ _ (RvL.append (RvL.keep ek.keeps _ _ hrv) ⟨y5, [], rfl, r6, rfl⟩)
          · refine Wm.imp q5.bind fun r _ q6 v H' W' e6 r6 => q6 v H' W' e6 ?_
            rw [List.append_assoc] at r6
            exact r6
    · left
      have e : i = ds.length := by omega
      subst e
      rw [List.drop_length] at mi
      have mi' : ∀ v H' W', Ev (gc X) W σ H τ W' σ H' τi → HdR (gc X) H W' σ H' τi v (.tmp (.lst (as ++ []))) → Q v H' := mi
      rw [List.append_nil] at mi'
      have off : Dif vs (wipe σ vs) σ := fun i h => (wipe_out h).symm
      have ez := ev_off ei kb off (wipe_length σ vs).symm
      refine ⟨it.stop Wb _ Hi τi ej, mi' (.ref L) Hi Wb ez ⟨L, rfl, hL0, .inr rfl, nD ez, by rw [hD]; trivial, acc, hD, ?_⟩⟩
      exact RvL.keep (Keeps.less fun a q => q.elim .inl fun ⟨j, b, d, q1, q2⟩ => .inr ⟨j, b, d, q1, by rw [← off j (kb j _ q1)]; exact q2⟩) _ _ hrv
abbrev BX (X : Cx) (scope : Scope) (s : Shared) (H : Hp) (C : Addr) (cl : List (Str × Addr)) (fp : List Addr) : Cx := X.blk s H scope (compEnvC scope cl C X.env) fp
theorem ee_lc {scope : Scope} {ws : List Nat} (own : List (Str × Nat)) (hc : X.calm = true) (hN : X.N.Nodup) (hi : II X E tg iter fi) (hw : (ws.all fun i => (own.map (·.2)).contains i) = true) (ok : blkC X.N X.env.scope scope own = true)
    (hg : ∀ s H C cl fp, GG (BX X scope s H C cl fp) xw0 tg ws gf) (ht : ∀ s H C cl fp, EBs (BX X scope s H C cl fp) xw0 ifs tt) (he : ∀ s H C cl fp, EE (BX X scope s H C cl fp) xw0 elt el) (hs : ∀ x, foldedSetIterable iter X.env x = pure x := by intro _; rfl) :
    EE X E (.ListComp elt [⟨tg, iter, ifs, 0⟩] scope pos) (sComp fi gf tt el (own.map (·.2))) :=
  PE.imp (pe_lc (g := GGt (gc X) xw0 ws gf) (tt := EBt (gc X) xw0 tt) (te := EEt (gc X) xw0 el) hc hN hi (blkOk_by ok) hg ht he hs) fun σ H Q h => comp_at (fun i hi => by simpa using List.all_eq_true.mp hw i hi) (fun _ _ _ q => q) (fun _ _ _ _ q => q) (fun _ _ _ q => q) (fun _ _ _ q => q) h
theorem ss_setLc {i : Nat} {y : Str} {py spos : Pos} {scope : Scope} {ws : List Nat} (own : List (Str × Nat)) (hc : X.calm = true) (hN : X.N.Nodup) (hi : II X E tg iter fi) (hw : (ws.all fun i => (own.map (·.2)).contains i) = true) (ok : blkC X.N X.env.scope scope own = true)
    (hg : ∀ s H C cl fp, GG (BX X scope s H C cl fp) xw0 tg ws gf) (ht : ∀ s H C cl fp, EBs (BX X scope s H C cl fp) xw0 ifs tt) (he : ∀ s H C cl fp, EE (BX X scope s H C cl fp) xw0 elt el)
    (hsw : swapsWith (.ListComp elt [⟨tg, iter, ifs, 0⟩] scope pos) (some (.Name y py)) spos.line X.env = pure true) (hy : X.N[i]? = some y := by rfl) (hyl : X.env.scope.names.lookup y = some .local := by rfl) (hs : ∀ x, foldedSetIterable iter X.env x = pure x := by intro _; rfl) :
    SS X E (.Assign [.Name y py] (.ListComp elt [⟨tg, iter, ifs, 0⟩] scope pos) spos) (sSet i (sComp fi gf tt el (own.map (·.2)))) :=
  PS.imp (ps_setLc (g := GGt (gc X) xw0 ws gf) (tt := EBt (gc X) xw0 tt) (te := EEt (gc X) xw0 el) hc hN hy hyl hsw hi (blkOk_by ok) hg ht he hs) fun D σ H ⟨W, τ, s, m⟩ => by
    refine comp_at (fun i hi => by simpa using List.all_eq_true.mp hw i hi) (fun _ _ _ q => q) (fun _ _ _ _ q => q) (fun _ _ _ q => q) (fun _ _ _ q => q) (EEt.at (Ev.refl s) m.bind fun hd τ1 v H1 W1 q ev r _ => ?_)
    obtain ⟨y, hy, q⟩ := q.opt
    exact q _ H1 (ev_set s ev r hy)
end
end F
set_option Elab.async false
set_option linter.all false
set_option maxRecDepth 100000
set_option maxHeartbeats 4000000
/-! FH: defs and their calls (own work) -/
namespace F
open PySem L2

/-! ### what a def does, at a stack without guards -/
structure FnG (P : Program) (w : World) (K : PySem.W.Frag) (mg : Str → Option Value) (base : Heap) (CX : CXT) (k : Nat) (f : Addr) (fd : FuncData) (ps : List Str) (sp : Sp) : Prop where
  len : ∀ vs H Q E, sp vs H Q E → vs.length = ps.length
  run : ∀ (A : Around) (outer : List Env) (s : Shared) (H : Hp) (args : Args) (us : List Value) (vs : List V) (Q : VK) (E : XK), Room k A → A.guards = some [] → Env0 P w K mg base A outer s H → BindsTo s fd args (ps.zip us) → Vals vs us →
    sp vs H Q E → codeAny (model P w) A (.call (.ref f) args) (CR CX outer P w H s Q E) s
abbrev FnR := List Sl → R (Hd × List Sl)
def lentOk : Sl → Bool
  | .fro _ => true
  | .own b _ => b
def fr (xs : List V) : St := xs.map some
def ft (xs : List Sl) : T := xs.map some
/-- the promise: the def does what the function says -/
def spF (G : Gc) (xw : XK → XW) (n : Nat) (F : FnR) : Sp := fun vs H Q Ex => ∃ A sls, sls.length = n ∧ StR G A (fr vs) H (ft sls) ∧ sls.all lentOk = true ∧
  Wm (xw Ex) (Ow (fr vs) (ft sls)) H (fun p => ∀ v H' A', Ev G A (fr vs) H (ft sls) A' (fr vs) H' (ft p.2) → HdR G H A' (fr vs) H' (ft p.2) v p.1 → Q v H') (F sls)

/-! ### the body -/
def outs : List Sl → T → Option (List Sl)
  | [], _ => some []
  | .fro d :: r, _ :: τ => (outs r τ).map (.fro d :: ·)
  | .own true _ :: r, some (.own true d) :: τ => (outs r τ).map (.own true d :: ·)
  | _, _ => none
def fnS (n : Nat) (g : FS) : FnR := fun sls => (g (ft sls ++ List.replicate (n - sls.length) none)).bind fun o => match o with
  | .rt (.slot _) _ => .stuck
  | .rt h τ' => (ofO (outs sls τ')).bind fun os => .ok (h, os)
  | .nx τ' => (ofO (outs sls τ')).bind fun os => .ok (.fro .non, os)
  | _ => .stuck
theorem outs_get : ∀ {sls : List Sl} {τ : T} {os : List Sl}, outs sls τ = some os → os.length = sls.length ∧ ∀ (i : Nat) (x : Sl), os[i]? = some x →
    (∃ d, x = .fro d ∧ sls[i]? = some (.fro d)) ∨ ∃ d d', x = .own true d' ∧ sls[i]? = some (.own true d) ∧ τ[i]? = some (some (.own true d'))
  | [], τ, os, h => by
    have h' : some [] = some os := h
    cases h'
    exact ⟨rfl, fun i x q => by simp at q⟩
  | .fro d :: r, y :: τ, os, h => by
    have h' : (outs r τ).map (Sl.fro d :: ·) = some os := h
    cases z : outs r τ with
    | none =>
      rw [z] at h'
      cases h'
    | some os1 =>
      rw [z] at h'
      cases h'
      obtain ⟨l, g⟩ := outs_get z
      refine ⟨by rw [List.length_cons, List.length_cons, l], fun i x q => ?_⟩
      cases i with
      | zero =>
        simp at q
        exact .inl ⟨d, q.symm, rfl⟩
      | succ i =>
        have q' : os1[i]? = some x := by simpa using q
        rcases g i x q' with ⟨d1, e1, e2⟩ | ⟨d1, d2, e1, e2, e3⟩
        · exact .inl ⟨d1, e1, by simpa using e2⟩
        · exact .inr ⟨d1, d2, e1, by simpa using e2, by simpa using e3⟩
  | .fro d :: r, [], os, h => by
    have h' : none = some os := h
    cases h'
  | .own true d :: r, some (.own true d') :: τ, os, h => by
    have h' : (outs r τ).map (Sl.own true d' :: ·) = some os := h
    cases z : outs r τ with
    | none =>
      rw [z] at h'
      cases h'
    | some os1 =>
      rw [z] at h'
      cases h'
      obtain ⟨l, g⟩ := outs_get z
      refine ⟨by rw [List.length_cons, List.length_cons, l], fun i x q => ?_⟩
      cases i with
      | zero =>
        simp at q
        exact .inr ⟨d, d', q.symm, rfl, rfl⟩
      | succ i =>
        have q' : os1[i]? = some x := by simpa using q
        rcases g i x q' with ⟨d1, e1, e2⟩ | ⟨d1, d2, e1, e2, e3⟩
        · exact .inl ⟨d1, e1, by simpa using e2⟩
        · exact .inr ⟨d1, d2, e1, by simpa using e2, by simpa using e3⟩
  | .own false d :: r, τ, os, h => by
    unfold outs at h
    cases h
  | .own true d :: r, [], os, h => by
    have h' : none = some os := h
    cases h'
  | .own true d :: r, none :: τ, os, h => by
    have h' : none = some os := h
    cases h'
  | .own true d :: r, some (.fro _) :: τ, os, h => by
    have h' : none = some os := h
    cases h'
  | .own true d :: r, some (.own false _) :: τ, os, h => by
    have h' : none = some os := h
    cases h'
theorem ft_get {xs : List Sl} {i : Nat} {x : Sl} : (ft xs)[i]? = some (some x) ↔ xs[i]? = some x := by
  unfold ft
  rw [List.getElem?_map]
  cases xs[i]? with
  | none => simp
  | some y => simp
theorem fr_get {xs : List V} {i : Nat} {x : V} : (fr xs)[i]? = some (some x) ↔ xs[i]? = some x := by
  unfold fr
  rw [List.getElem?_map]
  cases xs[i]? with
  | none => simp
  | some y => simp
theorem rep_get {τ : T} {n i : Nat} {x : Sl} (q : (τ ++ List.replicate n none)[i]? = some (some x)) : τ[i]? = some (some x) := by
  by_cases h : i < τ.length
  · rw [List.getElem?_append_left h] at q
    exact q
  · rw [List.getElem?_append_right (by omega), List.getElem?_replicate] at q
    split at q
    · cases q
    · cases q
theorem rep_get' {σ : St} {n i : Nat} (h : i < σ.length) : (σ ++ List.replicate n none)[i]? = σ[i]? := List.getElem?_append_left h
section
variable {G : Gc} {A A' W W1 : Addr → Prop} {H H' : Hp} {vs : List V} {sls os : List Sl} {σ' : St} {τ' : T} {n m : Nat}
theorem str_rep {σ : St} {τ : T} (s : StR G W σ H τ) (n : Nat) : StR G W (σ ++ List.replicate n none) H (τ ++ List.replicate n none) := by
  have at_ : ∀ (i : Nat) (x : Sl), (τ ++ List.replicate n none)[i]? = some (some x) → τ[i]? = some (some x) ∧ (σ ++ List.replicate n none)[i]? = σ[i]? := fun i x q => by
    have q' := rep_get q
    have hl : i < τ.length := (List.getElem?_eq_some_iff.mp q').1
    exact ⟨q', rep_get' (by rw [← s.len]; exact hl)⟩
  have ow : ∀ c, Ow (σ ++ List.replicate n none) (τ ++ List.replicate n none) c → Ow σ τ c := fun c ⟨i, b, y, q1, q2⟩ => let ⟨p1, p2⟩ := at_ i _ q1; ⟨i, b, y, p1, by rw [← p2]; exact q2⟩
  have ka : Keeps (Av W σ τ) (Av W (σ ++ List.replicate n none) (τ ++ List.replicate n none)) H H := Keeps.less fun c q => q.elim .inl fun q => .inr (ow c q)
  refine ⟨s.trk, fun i y q => ?_, fun i b y q => ?_, fun i j b c x y a q1 q2 p1 p2 => ?_, by rw [List.length_append, List.length_append, s.len, List.length_replicate, List.length_replicate], fun c ⟨i, y, q1, q2⟩ => ?_⟩
  · obtain ⟨p1, p2⟩ := at_ i _ q
    obtain ⟨u, h1, h2⟩ := s.fro i y p1
    exact ⟨u, p2.trans h1, Rv.keep ka y u h2⟩
  · obtain ⟨p1, p2⟩ := at_ i _ q
    obtain ⟨u, h1, h2, h3⟩ := s.own i b y p1
    exact ⟨u, p2.trans h1, h2, Rc.keep ka (fun _ z => z) h3⟩
  · obtain ⟨k1, k2⟩ := at_ i _ q1
    obtain ⟨l1, l2⟩ := at_ j _ q2
    rw [k2] at p1
    rw [l2] at p2
    exact s.apart i j b c x y a k1 l1 p1 p2
  · obtain ⟨k1, k2⟩ := at_ i _ q1
    rw [k2] at q2
    exact s.nw c ⟨i, y, k1, q2⟩
theorem ow_rep {σ : St} {τ : T} (hl : τ.length = σ.length) (n : Nat) {c : Addr} : Ow (σ ++ List.replicate n none) (τ ++ List.replicate n none) c ↔ Ow σ τ c := by
  constructor
  · rintro ⟨i, b, y, q1, q2⟩
    have q' := rep_get q1
    have h : i < τ.length := (List.getElem?_eq_some_iff.mp q').1
    rw [rep_get' (by rw [← hl]; exact h)] at q2
    exact ⟨i, b, y, q', q2⟩
  · rintro ⟨i, b, y, q1, q2⟩
    have h : i < τ.length := (List.getElem?_eq_some_iff.mp q1).1
    exact ⟨i, b, y, by rw [List.getElem?_append_left h]; exact q1, by rw [rep_get' (by rw [← hl]; exact h)]; exact q2⟩
/-- what a body leaves of its arguments -/
theorem outs_ev (st : StR G A (fr vs) H (ft sls)) (lo : sls.all lentOk = true) (e : Ev G A (fr vs ++ List.replicate n none) H (ft sls ++ List.replicate n none) W1 σ' H' τ') (ho : outs sls τ' = some os)
    (hW : ∀ a, W1 a → A a ∨ H a = none) (hA : ∀ a, A a → W1 a) (st' : StR G W1 σ' H' τ') : Ev G A (fr vs) H (ft sls) W1 (fr vs) H' (ft os) := by
  obtain ⟨ol, og⟩ := outs_get ho
  have nof : ∀ (i : Nat) (d : D), sls[i]? ≠ some (.own false d) := fun i d q => by
    have := List.all_eq_true.mp lo _ (List.mem_of_getElem? q)
    cases this
  have own' : ∀ (i : Nat) (b : Bool) (y : D), (ft os)[i]? = some (some (.own b y)) → b = true ∧ (∃ d, sls[i]? = some (.own true d)) ∧ τ'[i]? = some (some (.own true y)) ∧ (fr vs)[i]? = σ'[i]? := fun i b y q => by
    rcases og i _ (ft_get.mp q) with ⟨d, e1, _⟩ | ⟨d, d', e1, e2, e3⟩
    · cases e1
    · cases e1
      obtain ⟨_, k⟩ := e.lent i y e3
      have hl : i < (fr vs).length := by
        rw [← st.len]
        unfold ft
        rw [List.length_map]
        exact (List.getElem?_eq_some_iff.mp e2).1
      rw [rep_get' hl] at k
      exact ⟨rfl, ⟨d, e2⟩, e3, k.symm⟩
  have ow : ∀ c, Ow (fr vs) (ft os) c → Ow σ' τ' c := fun c ⟨i, b, y, q1, q2⟩ => let ⟨h1, _, h3, h4⟩ := own' i b y q1; ⟨i, true, y, h3, by rw [← h4]; exact q2⟩
  have ows : ∀ c, Ow (fr vs) (ft os) c → Ow (fr vs) (ft sls) c := fun c ⟨i, b, y, q1, q2⟩ => let ⟨h1, ⟨d, h2⟩, _⟩ := own' i b y q1; ⟨i, true, d, ft_get.mpr h2, q2⟩
  have frm : ∀ a o, H a = some o → ¬ Ow (fr vs) (ft sls) a → H' a = some o := fun a o h n => e.frm a o h fun z => n ((ow_rep st.len _).mp z)
  have kf : Keeps (Av A (fr vs) (ft sls)) (Av W1 (fr vs) (ft os)) H H' := fun a o h n => ⟨frm a o h fun z => n (.inr z), fun z => by
    rcases z with z | z
    · rcases hW a z with z | z
      · exact n (.inl z)
      · rw [h] at z
        cases z
    · exact n (.inr (ows a z))⟩
  have ko : Keeps (Av W1 σ' τ') (Av W1 (fr vs) (ft os)) H' H' := Keeps.less fun a z => z.elim .inl fun z => .inr (ow a z)
  refine ⟨frm, e.trk, fun a ⟨i, y, q1, q2⟩ => ?_, fun i y q => let ⟨_, ⟨d, h2⟩, _⟩ := own' i true y q; ⟨⟨d, ft_get.mpr h2⟩, rfl⟩, hA, hW, ⟨st'.trk, fun i y q => ?_, fun i b y q => ?_, fun i j b c x y a q1 q2 p1 p2 => ?_, ?_, fun a ⟨i, y, q1, q2⟩ => ?_⟩, rfl⟩
  · cases (own' i false y q1).1
  · rcases og i _ (ft_get.mp q) with ⟨d, e1, e2⟩ | ⟨d, d', e1, _⟩
    · cases e1
      obtain ⟨u, h1, h2⟩ := st.fro i y (ft_get.mpr e2)
      exact ⟨u, h1, Rv.keep kf y u h2⟩
    · cases e1
  · obtain ⟨h1, _, h3, h4⟩ := own' i b y q
    obtain ⟨u, k1, k2, k3⟩ := st'.own i true y h3
    exact ⟨u, h4.trans k1, k2, Rc.keep ko (fun _ z => z) k3⟩
  · obtain ⟨_, _, h3, h4⟩ := own' i b x q1
    obtain ⟨_, _, l3, l4⟩ := own' j c y q2
    rw [h4] at p1
    rw [l4] at p2
    exact st'.apart i j true true x y a h3 l3 p1 p2
  · have := st.len
    unfold ft at this ⊢
    rw [List.length_map] at this ⊢
    rw [ol]
    exact this
  · cases (own' i false y q1).1
end
section
variable {CX : CXT} {P : Program} {w : World} {K : PySem.W.Frag} {mg : Str → Option Value} {base : Heap} {xw : XK → XW}
/-- the body keeps the promise -/
theorem body_ok {X : Cx} {E : XW} {N : List Str} {vs : List V} {H : Hp} {Q : VK} {n : Nat} {g : FS} {A : Addr → Prop} {sls : List Sl} (hn : sls.length = n) (st : StR (gc X) A (fr vs) H (ft sls)) (lo : sls.all lentOk = true)
    (m : Wm E (Ow (fr vs) (ft sls)) H (fun p => ∀ v H' A', Ev (gc X) A (fr vs) H (ft sls) A' (fr vs) H' (ft p.2) → HdR (gc X) H A' (fr vs) H' (ft p.2) v p.1 → Q v H') (fnS N.length g sls)) :
    SSt (gc X) E g { nx := fun _ H' => Q .non H', rt := Q } (start N vs) H := by
  have hl : vs.length = sls.length := by
    have := st.len
    unfold ft fr at this
    rw [List.length_map, List.length_map] at this
    exact this.symm
  have es : start N vs = fr vs ++ List.replicate (N.length - vs.length) none := rfl
  rw [es]
  have s0 := str_rep st (N.length - vs.length)
  have nof : ∀ a, ¬ Owf (fr vs ++ List.replicate (N.length - vs.length) none) (ft sls ++ List.replicate (N.length - vs.length) none) a := fun a ⟨i, d, q1, q2⟩ => by
    have := List.all_eq_true.mp lo _ (List.mem_of_getElem? (ft_get.mp (rep_get q1)))
    cases this
  refine ⟨A, ft sls ++ List.replicate (N.length - vs.length) none, s0, ?_⟩
  unfold fnS at m
  rw [← hl] at m
  refine (m.bind.move (fun _ _ h _ => h) fun a z => .inl ((ow_rep st.len _).mp z)).imp fun o _ q => ?_
  cases o with
  | bk τ' => exact q.elim
  | ct τ' => exact q.elim
  | nx τ' =>
    obtain ⟨os, ho, q⟩ := q.opt
    exact fun σ' H' e => q .non H' A (outs_ev st lo e ho (fun a z => .inl z) (fun a z => z) e.st) rfl
  | rt h τ' =>
    cases h with
    | slot j => exact q.elim
    | fro d =>
      obtain ⟨os, ho, q⟩ := q.opt
      refine fun v σ' H' e r => ?_
      have eo := outs_ev st lo e ho (fun a z => .inl z) (fun a z => z) e.st
      refine q v H' A eo (Rv.keep (Keeps.less fun a z => z.elim .inl fun ⟨i, b, y, q1, q2⟩ => .inr ?_) _ _ r)
      rcases (outs_get ho).2 i _ (ft_get.mp q1) with ⟨d', e1, _⟩ | ⟨d', d'', e1, e2, e3⟩
      · cases e1
      · cases e1
        obtain ⟨_, k⟩ := e.lent i y e3
        have hi : i < (fr vs).length := by
          rw [← st.len]
          unfold ft
          rw [List.length_map]
          exact (List.getElem?_eq_some_iff.mp e2).1
        rw [rep_get' hi] at k
        exact ⟨i, true, y, e3, by rw [k]; exact q2⟩
    | tmp d =>
      obtain ⟨os, ho, q⟩ := q.opt
      refine fun v σ' H' e r => ?_
      obtain ⟨a, r1, r2, r3, r4, r5, r6⟩ := r
      have ha : H a = none := r2.resolve_right fun z => nof a z
      have eo := outs_ev (W1 := fun b => A b ∨ b = a) st lo ⟨e.frm, e.trk, e.subf, e.lent, fun b z => .inl z, fun b z => z.elim .inl fun z => .inr (by rw [z]; exact ha), r5, e.len⟩ ho (fun b z => z.elim .inl fun z => .inr (by rw [z]; exact ha)) (fun b z => .inl z) r5
      have ow : ∀ c, Ow (fr vs) (ft os) c → Ow σ' τ' c := fun c ⟨i, b, y, q1, q2⟩ => by
        rcases (outs_get ho).2 i _ (ft_get.mp q1) with ⟨d', e1, _⟩ | ⟨d', d'', e1, e2, e3⟩
        · cases e1
        · cases e1
          obtain ⟨_, k⟩ := e.lent i y e3
          have hi : i < (fr vs).length := by
            rw [← st.len]
            unfold ft
            rw [List.length_map]
            exact (List.getElem?_eq_some_iff.mp e2).1
          rw [rep_get' hi] at k
          exact ⟨i, true, y, e3, by rw [k]; exact q2⟩
      refine q v H' _ eo ⟨a, r1, ha, .inr rfl, fun z => r3 (ow a z), r4, Rc.keep (Keeps.less fun c z => z.elim .inl fun z => .inr (ow c z)) (fun _ z => z) r6⟩
end
end F
set_option Elab.async false
set_option linter.all false
set_option maxRecDepth 100000
set_option maxHeartbeats 4000000
/-! FI: calls (own work) -/
namespace F
open PySem L2

/-! ### handles as arguments -/
def toSl (τ : T) : Hd → Option Sl
  | .fro d => some (.fro d)
  | .tmp d => some (.own true d)
  | .slot j => match τ[j]? with
    | some (some (.own _ d)) => some (.own true d)
    | some (some (.fro d)) => some (.fro d)
    | _ => none
def toSls (τ : T) : List Hd → Option (List Sl)
  | [] => some []
  | h :: hs => match toSl τ h, toSls τ hs with
    | some x, some xs => some (x :: xs)
    | _, _ => none
def hkey : Hd → Option (Option Nat)
  | .fro _ => none
  | .tmp _ => some none
  | .slot j => some (some j)
/-- no owned thing twice, one made thing at most -/
def okA : List Hd → Bool
  | [] => true
  | h :: hs => (match hkey h with
    | none => true
    | some k => hs.all fun h' => match hkey h' with
      | none => true
      | some k' => !decide (k = k')) && okA hs
/-- what was owned is given back -/
def shp : List Sl → List Sl → Bool
  | [], [] => true
  | .fro _ :: a, .fro _ :: b => shp a b
  | .own _ _ :: a, .own true _ :: b => shp a b
  | _, _ => false
def wb1 (h : Hd) (o : Sl) (τ : T) : T := match h, o with
  | .slot j, .own _ d => match τ[j]? with
    | some (some (.own b _)) => τ.set j (some (.own b d))
    | _ => τ
  | _, _ => τ
def wb : List Hd → List Sl → T → T
  | h :: hs, o :: os, τ => wb hs os (wb1 h o τ)
  | _, _, τ => τ
theorem toSls_get {τ : T} : ∀ {hs : List Hd} {sls : List Sl}, toSls τ hs = some sls → sls.length = hs.length ∧ ∀ (i : Nat) (x : Sl), sls[i]? = some x → ∃ h, hs[i]? = some h ∧ toSl τ h = some x
  | [], sls, q => by
    cases q
    exact ⟨rfl, fun i x z => by simp at z⟩
  | h :: hs, sls, q => by
    unfold toSls at q
    split at q
    · rename_i x xs e1 e2
      cases q
      obtain ⟨l, g⟩ := toSls_get e2
      refine ⟨by rw [List.length_cons, List.length_cons, l], fun i y z => ?_⟩
      cases i with
      | zero =>
        simp at z
        exact ⟨h, rfl, by rw [← z]; exact e1⟩
      | succ i =>
        obtain ⟨h', g1, g2⟩ := g i y (by simpa using z)
        exact ⟨h', by simpa using g1, g2⟩
    · cases q
theorem okA_inj : ∀ {hs : List Hd}, okA hs = true → ∀ (i j : Nat) (h h' : Hd) (k : Option Nat), hs[i]? = some h → hs[j]? = some h' → hkey h = some k → hkey h' = some k → i = j
  | [], _, i, _, _, _, _, q, _, _, _ => by simp at q
  | x :: hs, ok, i, j, h, h', k, q1, q2, k1, k2 => by
    unfold okA at ok
    rw [Bool.and_eq_true] at ok
    have far : ∀ (n : Nat) (y y' : Hd), hkey y = some k → x = y → hs[n]? = some y' → hkey y' = some k → False := fun n y y' e1 e2 e3 e4 => by
      have o1 := ok.1
      rw [e2, e1] at o1
      have := List.all_eq_true.mp o1 y' (List.mem_of_getElem? e3)
      rw [e4] at this
      simp at this
    cases i with
    | zero =>
      cases j with
      | zero => rfl
      | succ j =>
        simp at q1 q2
        exact (far j h h' k1 q1 q2 k2).elim
    | succ i =>
      cases j with
      | zero =>
        simp at q1 q2
        exact (far i h' h k2 q2 q1 k1).elim
      | succ j =>
        simp at q1 q2
        rw [okA_inj ok.2 i j h h' k q1 q2 k1 k2]
theorem HdL.get {G : Gc} {H0 H : Hp} {W : Addr → Prop} {σ : St} {τ : T} : ∀ {hs : List Hd} {vs : List V}, HdL G H0 W σ H τ vs hs → vs.length = hs.length ∧ ∀ (i : Nat) (h : Hd), hs[i]? = some h → ∃ v, vs[i]? = some v ∧ HdR G H0 W σ H τ v h
  | [], vs, q => by
    have e : vs = [] := q
    subst e
    exact ⟨rfl, fun i h z => by simp at z⟩
  | h :: hs, vs, ⟨v, r, e, hh, t⟩ => by
    subst e
    obtain ⟨l, g⟩ := HdL.get t
    refine ⟨by rw [List.length_cons, List.length_cons, l], fun i y z => ?_⟩
    cases i with
    | zero =>
      simp at z
      exact ⟨v, rfl, by rw [← z]; exact hh⟩
    | succ i =>
      obtain ⟨u, g1, g2⟩ := g i y (by simpa using z)
      exact ⟨u, by simpa using g1, g2⟩
theorem shp_get : ∀ {a b : List Sl}, shp a b = true → a.length = b.length ∧ ∀ (i : Nat) (x : Sl), a[i]? = some x → (∃ d d', x = .fro d ∧ b[i]? = some (.fro d')) ∨ ∃ c d d', x = .own c d ∧ b[i]? = some (.own true d')
  | [], [], _ => ⟨rfl, fun i x z => by simp at z⟩
  | .fro d :: a, .fro d' :: b, q => by
    obtain ⟨l, g⟩ := shp_get (a := a) (b := b) q
    refine ⟨by simp [l], fun i x z => ?_⟩
    cases i with
    | zero =>
      simp at z
      exact .inl ⟨d, d', z.symm, rfl⟩
    | succ i => simpa using g i x (by simpa using z)
  | .own c d :: a, .own true d' :: b, q => by
    obtain ⟨l, g⟩ := shp_get (a := a) (b := b) q
    refine ⟨by simp [l], fun i x z => ?_⟩
    cases i with
    | zero =>
      simp at z
      exact .inr ⟨c, d, d', z.symm, rfl⟩
    | succ i => simpa using g i x (by simpa using z)
  | [], _ :: _, q => by cases q
  | .fro _ :: _, [], q => by cases q
  | .fro _ :: _, .own _ _ :: _, q => by cases q
  | .own _ _ :: _, [], q => by cases q
  | .own _ _ :: _, .fro _ :: _, q => by cases q
  | .own _ _ :: _, .own false _ :: _, q => by cases q
theorem wb1_len (h : Hd) (o : Sl) (τ : T) : (wb1 h o τ).length = τ.length := by
  unfold wb1
  split
  · split
    · rw [List.length_set]
    · rfl
  · rfl
theorem wb_len : ∀ (hs : List Hd) (os : List Sl) (τ : T), (wb hs os τ).length = τ.length
  | h :: hs, o :: os, τ => by
    show (wb hs os (wb1 h o τ)).length = _
    rw [wb_len hs os, wb1_len]
  | [], _, τ => by unfold wb; rfl
  | _ :: _, [], τ => by unfold wb; rfl
/-- what is written back, slot by slot -/
theorem wb_get : ∀ {hs : List Hd} {os : List Sl} {τ : T}, okA hs = true → hs.length = os.length → ∀ (j : Nat),
    (∃ (i : Nat) (c : Bool) (d' : D) (b : Bool) (d : D), hs[i]? = some (Hd.slot j) ∧ os[i]? = some (Sl.own c d') ∧ τ[j]? = some (some (.own b d)) ∧ (wb hs os τ)[j]? = some (some (.own b d'))) ∨
      ((∀ (i : Nat) (c : Bool) (d' : D) (b : Bool) (d : D), hs[i]? = some (Hd.slot j) → os[i]? = some (Sl.own c d') → τ[j]? = some (some (.own b d)) → False) ∧ (wb hs os τ)[j]? = τ[j]?)
  | [], os, τ, _, _, j => .inr ⟨fun i c d' b d q => by simp at q, by unfold wb; rfl⟩
  | _ :: _, [], τ, _, hl, j => by simp at hl
  | h :: hs, o :: os, τ, ok, hl, j => by
    have ok' : okA hs = true := by
      unfold okA at ok
      rw [Bool.and_eq_true] at ok
      exact ok.2
    have hl' : hs.length = os.length := by simpa using hl
    have e : wb (h :: hs) (o :: os) τ = wb hs os (wb1 h o τ) := rfl
    rw [e]
    have ih := wb_get (τ := wb1 h o τ) ok' hl' j
    -- is this one the slot's own?
    by_cases hj : ∃ c d' b d, h = .slot j ∧ o = .own c d' ∧ τ[j]? = some (some (.own b d))
    · obtain ⟨c, d', b, d, rfl, rfl, hτ⟩ := hj
      have hlt : j < τ.length := (List.getElem?_eq_some_iff.mp hτ).1
      have w1 : wb1 (.slot j) (.own c d') τ = τ.set j (some (.own b d')) := by
        unfold wb1
        dsimp only
        rw [hτ]
      have g1 : (wb1 (.slot j) (.own c d') τ)[j]? = some (some (.own b d')) := by
        rw [w1, List.getElem?_set_self hlt]
      refine .inl ⟨0, c, d', b, d, rfl, rfl, hτ, ?_⟩
      rcases ih with ⟨i, c2, d2, b2, d3, q1, q2, q3, q4⟩ | ⟨_, q2⟩
      · exfalso
        have := okA_inj ok 0 (i + 1) (.slot j) (.slot j) (some j) rfl (by simpa using q1) rfl rfl
        cases this
      · rw [q2, g1]
    · have g1 : (wb1 h o τ)[j]? = τ[j]? := by
        cases h with
        | fro d => rfl
        | tmp d => rfl
        | slot j' =>
          cases o with
          | fro d => rfl
          | own c d' =>
            unfold wb1
            dsimp only
            split
            · rename_i b d hτ
              by_cases ej : j' = j
              · subst ej
                exact absurd ⟨c, d', b, d, rfl, rfl, hτ⟩ hj
              · rw [List.getElem?_set_ne ej]
            · rfl
      rcases ih with ⟨i, c2, d2, b2, d3, q1, q2, q3, q4⟩ | ⟨q1, q2⟩
      · rw [g1] at q3
        exact .inl ⟨i + 1, c2, d2, b2, d3, by simpa using q1, by simpa using q2, q3, q4⟩
      · refine .inr ⟨fun i c d' b d p1 p2 p3 => ?_, q2.trans g1⟩
        cases i with
        | zero =>
          simp at p1 p2
          exact hj ⟨c, d', b, d, p1, p2, p3⟩
        | succ i => exact q1 i c d' b d (by simpa using p1) (by simpa using p2) (by rw [g1]; exact p3)
def sCall (n : Nat) (F : FnR) (fs : FA) : FE := fun τ => (fs τ).bind fun p => (chk (okA p.1 && decide (p.1.length = n))).bind fun _ => (ofO (toSls p.2 p.1)).bind fun sls => (F sls).bind fun r => (chk (shp sls r.2)).bind fun _ => match r.1 with
  | .slot _ => .stuck
  | h => .ok (h, wb p.1 r.2 p.2)
section
variable {X : Cx} {E : XW} {fs : FA} {F : FnR}
theorem sp_at {xw : XK → XW} {Ex : XK} (hE : xw Ex = E) {W W1 : Addr → Prop} {σ : St} {H H1 : Hp} {τ τ1 : T} {hs : List Hd} {vs : List V} {Q : VK} {n : Nat} (s : StR (gc X) W σ H τ) (ev : Ev (gc X) W σ H τ W1 σ H1 τ1) (r : HdL (gc X) H W1 σ H1 τ1 vs hs)
    (q : Wm E (Ow σ τ) H (fun p => ∀ v H' W', Ev (gc X) W σ H τ W' σ H' p.2 → HdR (gc X) H W' σ H' p.2 v p.1 → Q v H') ((chk (okA hs && decide (hs.length = n))).bind fun _ => (ofO (toSls τ1 hs)).bind fun sls => (F sls).bind fun r => (chk (shp sls r.2)).bind fun _ => match r.1 with
      | .slot _ => .stuck
      | h => .ok (h, wb hs r.2 τ1))) : spF (gc X) xw n F vs H1 Q Ex := by
  obtain ⟨ok, q⟩ := q.chk
  rw [Bool.and_eq_true, decide_eq_true_eq] at ok
  obtain ⟨ok, hn⟩ := ok
  obtain ⟨sls, hsl, q⟩ := q.opt
  obtain ⟨ll, lg⟩ := toSls_get hsl
  obtain ⟨vl, vg⟩ := HdL.get r
  have st1 := ev.st
  -- each owned argument's place
  have own : ∀ (i : Nat) (b : Bool) (d : D), sls[i]? = some (.own b d) → b = true ∧ ∃ a, vs[i]? = some (.ref a) ∧ Mut (H1 a) ∧ Rc (gc X) (Av W1 σ τ1) H1 a d ∧ Av W1 σ τ1 a ∧
      ((∃ d0, hs[i]? = some (.tmp d0) ∧ ¬ Ow σ τ1 a) ∨ ∃ j c, hs[i]? = some (.slot j) ∧ τ1[j]? = some (some (.own c d)) ∧ σ[j]? = some (some (.ref a))) := fun i b d e => by
    obtain ⟨h, h1, h2⟩ := lg i _ e
    obtain ⟨v, v1, v2⟩ := vg i h h1
    cases h with
    | fro d' => cases h2
    | tmp d' =>
      cases h2
      obtain ⟨a, r1, r2, r3, r4, r5, r6⟩ := v2
      subst r1
      exact ⟨rfl, a, v1, r5, r6, .inl r3, .inl ⟨_, h1, r4⟩⟩
    | slot j =>
      unfold toSl at h2
      dsimp only at h2
      split at h2
      · rename_i c d' hτ
        cases h2
        have r' : σ[j]? = some (some v) := v2
        obtain ⟨a, o1, o2, o3⟩ := st1.own j c d hτ
        rw [r'] at o1
        cases o1
        exact ⟨rfl, a, v1, o2, o3, .inr ⟨j, c, d, hτ, r'⟩, .inr ⟨j, c, h1, hτ, r'⟩⟩
      · cases h2
      · cases h2
  have ows : ∀ a, Ow (fr vs) (ft sls) a → Av W1 σ τ1 a := fun a ⟨i, b, d, q1, q2⟩ => by
    obtain ⟨_, a', e1, _, _, e4, _⟩ := own i b d (ft_get.mp q1)
    rw [fr_get.mp q2] at e1
    cases e1
    exact e4
  have ap : ∀ (i j : Nat) (b c : Bool) (d e : D) (a : Addr), sls[i]? = some (.own b d) → sls[j]? = some (.own c e) → vs[i]? = some (.ref a) → vs[j]? = some (.ref a) → i = j := fun i j b c d e a q1 q2 p1 p2 => by
    obtain ⟨_, a1, e1, _, _, _, e5⟩ := own i b d q1
    obtain ⟨_, a2, f1, _, _, _, f5⟩ := own j c e q2
    rw [p1] at e1
    rw [p2] at f1
    cases e1
    cases f1
    rcases e5 with ⟨d0, g1, g2⟩ | ⟨k, c1, g1, g2, g3⟩
    · rcases f5 with ⟨d1, l1, l2⟩ | ⟨k', c2, l1, l2, l3⟩
      · exact okA_inj ok i j _ _ none g1 l1 rfl rfl
      · exact absurd ⟨k', c2, e, l2, l3⟩ g2
    · rcases f5 with ⟨d1, l1, l2⟩ | ⟨k', c2, l1, l2, l3⟩
      · exact absurd ⟨k, c1, d, g2, g3⟩ l2
      · have ek := st1.apart k k' c1 c2 d e a g2 l2 g3 l3
        subst ek
        exact okA_inj ok i j _ _ (some k) g1 l1 rfl rfl
  refine ⟨Av W1 σ τ1, sls, by rw [ll, hn], ⟨fun a z => st1.avT z, fun i d e => ?_, fun i b d e => ?_, fun i j b c d e a q1 q2 p1 p2 => ap i j b c d e a (ft_get.mp q1) (ft_get.mp q2) (fr_get.mp p1) (fr_get.mp p2), ?_, fun a ⟨i, d, q1, q2⟩ => ?_⟩, ?_, ?_⟩
  · obtain ⟨h, h1, h2⟩ := lg i _ (ft_get.mp e)
    obtain ⟨v, v1, v2⟩ := vg i h h1
    refine ⟨v, fr_get.mpr v1, Rv.keep (Keeps.less fun a z => z.elim (fun z => z) (ows a)) d v ?_⟩
    cases h with
    | fro d' =>
      cases h2
      exact v2
    | tmp d' => cases h2
    | slot j =>
      unfold toSl at h2
      dsimp only at h2
      split at h2
      · cases h2
      · rename_i d' hτ
        cases h2
        have r' : σ[j]? = some (some v) := v2
        obtain ⟨u, o1, o2⟩ := st1.fro j d hτ
        rw [r'] at o1
        cases o1
        exact o2
      · cases h2
  · obtain ⟨_, a, e1, e2, e3, _⟩ := own i b d (ft_get.mp e)
    exact ⟨a, fr_get.mpr e1, e2, Rc.keep (Keeps.less fun a z => z.elim (fun z => z) (ows a)) (fun _ z => z) e3⟩
  · unfold ft fr
    rw [List.length_map, List.length_map, ll, vl]
  · cases (own i false d (ft_get.mp q1)).1
  · refine List.all_eq_true.mpr fun x hx => ?_
    obtain ⟨i, hi⟩ := List.getElem?_of_mem hx
    cases x with
    | fro d => rfl
    | own b d =>
      obtain ⟨e, _⟩ := own i b d hi
      rw [e]
      rfl
  · rw [hE]
    have owh : ∀ a, Ow (fr vs) (ft sls) a → H a = none ∨ Ow σ τ1 a := fun a ⟨i, b, d, q1, q2⟩ => by
      obtain ⟨_, a', e1, _, _, _, e5⟩ := own i b d (ft_get.mp q1)
      rw [fr_get.mp q2] at e1
      cases e1
      rcases e5 with ⟨d0, g1, g2⟩ | ⟨k, c1, g1, g2, g3⟩
      · obtain ⟨v, v1, v2⟩ := vg i _ g1
        rw [fr_get.mp q2] at v1
        cases v1
        obtain ⟨a', r1, r2, _⟩ := v2
        cases r1
        exact .inl r2
      · exact .inr ⟨k, c1, d, g2, g3⟩
    refine (q.bind.move ev.frm fun a z => ?_).imp fun p _ q v H' A' e r => ?_
    · rcases owh a z with z | z
      · exact .inr z
      · exact ev.sub z
    · obtain ⟨hd, os⟩ := p
      obtain ⟨sh, q⟩ := q.chk
      obtain ⟨sl, sg⟩ := shp_get sh
      have hlo : hs.length = os.length := ll.symm.trans sl
      have wbg := fun j => wb_get (τ := τ1) ok hlo j
      -- the slots behind it
      have own2 : ∀ (j : Nat) (b : Bool) (d : D), (wb hs os τ1)[j]? = some (some (.own b d)) → (∃ d0, τ1[j]? = some (some (.own b d0))) ∧
          ((∃ (i : Nat) (c : Bool), hs[i]? = some (Hd.slot j) ∧ os[i]? = some (Sl.own c d)) ∨ (τ1[j]? = some (some (.own b d)) ∧ ∀ a, σ[j]? = some (some (.ref a)) → ¬ Ow (fr vs) (ft sls) a)) := fun j b d e => by
        rcases wbg j with ⟨i, c, d', b', d0, q1, q2, q3, q4⟩ | ⟨q1, q2⟩
        · rw [q4] at e
          cases e
          exact ⟨⟨d0, q3⟩, .inl ⟨i, c, q1, q2⟩⟩
        · rw [q2] at e
          refine ⟨⟨d, e⟩, .inr ⟨e, fun a ha ⟨i, b', y, z1, z2⟩ => ?_⟩⟩
          obtain ⟨_, a', e1, _, _, _, e5⟩ := own i b' y (ft_get.mp z1)
          rw [fr_get.mp z2] at e1
          cases e1
          rcases e5 with ⟨d0, g1, g2⟩ | ⟨k, c1, g1, g2, g3⟩
          · exact g2 ⟨j, b, d, e, ha⟩
          · have ek := st1.apart k j c1 b y d a g2 e g3 ha
            subst ek
            rcases sg i _ (ft_get.mp z1) with ⟨x1, x2, x3, _⟩ | ⟨x1, x2, x3, x4, x5⟩
            · cases x3
            · exact q1 i true x3 b d g1 x5 e
      have fro2 : ∀ (j : Nat) (d : D), (wb hs os τ1)[j]? = some (some (.fro d)) → τ1[j]? = some (some (.fro d)) := fun j d e => by
        rcases wbg j with ⟨i, c, d', b', d0, q1, q2, q3, q4⟩ | ⟨q1, q2⟩
        · rw [q4] at e
          cases e
        · rw [q2] at e
          exact e
      have ow2 : ∀ a, Ow σ (wb hs os τ1) a → Ow σ τ1 a := fun a ⟨j, b, d, z1, z2⟩ => let ⟨⟨d0, h0⟩, _⟩ := own2 j b d z1; ⟨j, b, d0, h0, z2⟩
      -- from here on: W2 is what is guarded then
      have main : ∀ W2 : Addr → Prop, (∀ a, W1 a → W2 a) → (∀ a, W2 a → A' a) → (∀ a, W2 a → W1 a ∨ H1 a = none) → Ev (gc X) W σ H τ W2 σ H' (wb hs os τ1) := fun W2 w1 w2 w3 => by
        have ka : Keeps (Av W1 σ τ1) (Av W2 σ (wb hs os τ1)) H1 H' := fun a o h n => ⟨e.frm a o h fun z => n (ows a z), fun z => by
          rcases z with z | z
          · rcases w3 a z with z | z
            · exact n (.inl z)
            · rw [h] at z
              cases z
          · exact n (.inr (ow2 a z))⟩
        have kb : Keeps (Av A' (fr vs) (ft os)) (Av W2 σ (wb hs os τ1)) H' H' := Keeps.less fun a z => z.elim (fun z => .inl (w2 a z)) fun z => .inl (e.wsub a (.inr (ow2 a z)))
        refine ⟨fun a o h n => ?_, fun a z => e.trk a (ev.trk a z), fun a ⟨j, d, z1, z2⟩ => let ⟨⟨d0, h0⟩, _⟩ := own2 j false d z1; ev.subf a ⟨j, d0, h0, z2⟩, fun j d z => let ⟨⟨d0, h0⟩, _⟩ := own2 j true d z; ev.lent j d0 h0, fun a z => w1 a (ev.wsub a z), fun a z => ?_, ⟨fun a z => e.st.trk a (w2 a z), fun j d z => ?_, fun j b d z => ?_, fun i j b c d e' a z1 z2 p1 p2 => ?_, by rw [wb_len]; exact st1.len, fun a ⟨j, d, z1, z2⟩ z => ?_⟩, rfl⟩
        · refine e.frm a o (ev.frm a o h n) fun z => ?_
          have hn : H a ≠ none := fun y => by
            rw [h] at y
            cases y
          rcases owh a z with y | y
          · exact hn y
          · rcases ev.sub y with y | y
            · exact n y
            · exact hn y
        · rcases w3 a z with z | z
          · exact ev.wnew a z
          · exact .inr (Classical.byContradiction fun y => ev.trk a y z)
        · obtain ⟨u, h1, h2⟩ := st1.fro j d (fro2 j d z)
          exact ⟨u, h1, Rv.keep ka d u h2⟩
        · obtain ⟨⟨d0, h0⟩, hh⟩ := own2 j b d z
          obtain ⟨a, o1, o2, o3⟩ := st1.own j b d0 h0
          rcases hh with ⟨i, c, g1, g2⟩ | ⟨g1, g2⟩
          · have hi : i < sls.length := by
              rw [ll]
              exact (List.getElem?_eq_some_iff.mp g1).1
            obtain ⟨x, hx⟩ : ∃ x, sls[i]? = some x := ⟨_, List.getElem?_eq_getElem hi⟩
            have cc : c = true := by
              rcases sg i x hx with ⟨_, _, _, y⟩ | ⟨_, _, _, _, y⟩
              · rw [y] at g2
                cases g2
              · rw [y] at g2
                cases g2
                rfl
            subst cc
            obtain ⟨a', k1, k2, k3⟩ := e.st.own i true d (ft_get.mpr g2)
            obtain ⟨v', v1, v2⟩ := vg i _ g1
            have v2' : σ[j]? = some (some v') := v2
            rw [fr_get.mp k1] at v1
            cases v1
            exact ⟨a', v2', k2, Rc.keep kb (fun _ z => z) k3⟩
          · rw [h0] at g1
            cases g1
            obtain ⟨o, ho⟩ := Rc.tracked o3
            have hk : ∀ o, H1 a = some o → H' a = some o := fun o h => e.frm a o h (g2 a o1)
            exact ⟨a, o1, by rw [hk o ho, ← ho]; exact o2, Rc.keep ka hk o3⟩
        · obtain ⟨⟨d1, h1⟩, _⟩ := own2 i b d z1
          obtain ⟨⟨d2, h2⟩, _⟩ := own2 j c e' z2
          exact st1.apart i j b c d1 d2 a h1 h2 p1 p2
        · obtain ⟨⟨d0, h0⟩, _⟩ := own2 j false d z1
          rcases w3 a z with y | y
          · exact st1.nw a ⟨j, d0, h0, z2⟩ y
          · exact st1.owT ⟨j, false, d0, h0, z2⟩ y
      cases hd with
      | slot j => exact q.elim
      | fro d =>
        have e2 := main W1 (fun a z => z) (fun a z => e.wsub a (.inl z)) (fun a z => .inl z)
        refine q v H' W1 e2 (Rv.keep (Keeps.less fun a z => .inl (e.wsub a (z.elim .inl fun z => .inr (ow2 a z)))) d v r)
      | tmp d =>
        obtain ⟨a, r1, r2, r3, r4, r5, r6⟩ := r
        have e2 := main (fun b => W1 b ∨ b = a) (fun b z => .inl z) (fun b z => z.elim (fun z => e.wsub b (.inl z)) fun z => by rw [z]; exact r3) (fun b z => z.elim .inl fun z => .inr (by rw [z]; exact r2))
        have ha : H a = none := Classical.byContradiction fun z => ev.trk a z r2
        refine q v H' _ e2 ⟨a, r1, ha, .inr rfl, fun z => st1.owT (ow2 a z) r2, r5, Rc.keep (Keeps.less fun b z => ?_) (fun _ z => z) r6⟩
        rcases z with (z | z) | z
        · exact .inl (e.wsub b (.inl z))
        · rw [z]
          exact .inl r3
        · exact .inl (e.wsub b (.inr (ow2 b z)))
end
end F
set_option Elab.async false
set_option linter.all false
set_option maxRecDepth 100000
set_option maxHeartbeats 4000000
/-! FJ: defs by their bodies, calls by their promises (own work) -/
namespace F
open PySem L2
section
variable {P : Program} {w : World} {K : PySem.W.Frag} {mg : Str → Option Value} {base : Heap} {CX : CXT} {xw : XK → XW}
/-- a def whose body is read does what it says -/
theorem fn_g {x qual : Str} {params : Arguments} {body : List Stmt} {scope : Scope} {f : Addr} {fd : FuncData} {N ps : List Str} {k n : Nat} {g : FS} (F : FunD K x qual params body scope [] [] f fd) (S : FnScope N ps scope) (hn : ps.length = n)
    (hb : ∀ (cdv : Value) (A : Around) (outer : List Env) (s : Shared) (H : Hp) (E : XK), Room k (A.deeper (PyProof.Rows.envOfC qual scope s.heap.objs.size f cdv)) → (A.deeper (PyProof.Rows.envOfC qual scope s.heap.objs.size f cdv)).guards = some [] →
      SSs (cxOf CX P w K mg base N qual scope f cdv A outer s H E) (xw E) body g) :
    FnG P w K mg base CX (k + 1) f fd ps (spF ⟨P, w, K, mg⟩ xw n (fnS N.length g)) := by
  obtain ⟨oc, od, dV, kV, doc, pm, an, cdv, ct, osl, rfl, lk, hcd, _, _⟩ := F.ex
  have len : ∀ vs H Q E, spF ⟨P, w, K, mg⟩ xw n (fnS N.length g) vs H Q E → vs.length = ps.length := by
    rintro vs H Q E ⟨A, sls, h1, h2, _⟩
    have z := h2.len
    unfold ft fr at z
    rw [List.length_map, List.length_map] at z
    omega
  refine ⟨len, ?_⟩
  intro A outer s H args us vs Q E hr hgd e0 hbd r hsp
  have hl := len _ _ _ _ hsp
  have up : ∀ b o, base.get? b = some o → s.heap.get? b = some o := fun b o e => (e0.bs b o e).1
  have KX : K.In s.heap := e0.mod.kin.keeps up
  have lim : s.heap.NoLimit := e0.mod.nolimit.keeps up
  refine codeAny_call_function hr.depth (KX _ _ lk) rfl S.co S.gen rfl (PySem.W.codeRec_of KX hcd) (hbd _ _ _ _ ?_)
  refine wpAny_newFunctionEnv_cells S.kind ?_ fun env he s1 x => ?_
  · rintro ⟨m, v⟩ hy
    rcases S.par m (List.of_mem_zip hy).1 with q | q
    · exact Or.inl q
    · exact Or.inr ⟨q, PySem.W.cellsFrom_some _ _ _ (Or.inl q)⟩
  · subst he
    refine ⟨lim.keeps x.toInCall.keep, codeAny_func ?_⟩
    have I := inv_start (CX := CX) (P := P) (w := w) (E := E) S hr.hd e0 hl r x
    obtain ⟨A0, sls, h1, h2, h3, h4⟩ := hsp
    have hq := body_ok (X := cxOf CX P w K mg base N qual scope f cdv A outer s H E) (E := xw E) (N := N) (n := n) (g := g) h1 h2 h3 h4
    have run := (hb cdv A outer s H E (hr.deeper _) hgd).run [] s1 (start N vs) H _ I hq
    have fin : ∀ {σ' : St} {H' : Hp} {v : V} {u : Value} {s' : Shared}, Inv (cxOf CX P w K mg base N qual scope f cdv A outer s H E) [] σ' H' s' → RelV v u → Q v H' → CE outer P w H s Q u s' := fun J rv q => ⟨_, _, J.os, J.bare, J.base, J.hok, rv, q⟩
    refine wpAny_mono run (fun fl s' hs => ?_) fun _ _ hs => hs
    cases fl with
    | ret u =>
      obtain ⟨v, σ', H', J, rv, q⟩ := hs
      exact fin J rv q
    | next =>
      obtain ⟨σ', H', J, q⟩ := hs
      exact fin (v := V.non) (u := Value.none) J rfl q
    | brk => exact (let ⟨_, _, _, q⟩ := hs; q : False).elim
    | cont => exact (let ⟨_, _, _, q⟩ := hs; q : False).elim
end

/-! ### a def of the module, all in one -/
structure Fn (P : Program) (w : World) (K : PySem.W.Frag) (mg : Str → Option Value) (base : Heap) (CX : CXT) (xw : XK → XW) (x : Str) (n k : Nat) (F : FnR) : Prop where
  ex : ∃ (f : Addr) (fd : FuncData) (ps : List Str), mg x = some (.ref f) ∧ PySem.W.keepIn K (.ref f) = true ∧ ps.length = n ∧ Binds K fd ps [] ∧ FnG P w K mg base CX k f fd ps (spF ⟨P, w, K, mg⟩ xw n F)
section
variable {X : Cx} {E : XW} {e o : Expr} {es : List Expr} {fs : FA} {Fm : FnR} {f : FE} {CX : CXT} {xw : XK → XW} {k n : Nat} {x m : Str} {p pos apos : Pos} {Ex : XK}
theorem runG {fa : Addr} {fd : FuncData} {ps : List Str} {sp : Sp} {pins : List (Addr × Obj)} {σ : St} {H : Hp} {s : Shared} {Q : VK} {us : List Value} {vs : List V} (FG : FnG X.prog X.w X.K X.mg X.base CX k fa fd ps sp) (hr : Room k X.A) (hgd : X.A.guards = some [])
    (hb : Binds X.K fd ps []) (hx : Passes CX X Ex) (I : Inv X pins σ H s) (r : Vals vs us) (h : sp vs H Q Ex) : wpAny (model X.prog X.w) X.A (call (.ref fa) us) (EP X pins σ Q) X.xe s := by
  have hl : (us ++ []).length = ps.length := by
    rw [List.append_nil, ← r.length]
    exact FG.len _ _ _ _ h
  have hbs := hb s us I.kIn hl
  rw [List.append_nil] at hbs
  refine wpAny_call (codeAny_mono (FG.run X.A X.stack s H ⟨us, []⟩ us vs Q Ex hr hgd I.env0 hbs r h) fun r s' hq => ?_)
  cases r with
  | error e => exact hx pins σ H s e s' I hq
  | ok fl =>
    cases fl with
    | ret u => exact I.after hq
    | next => exact hq.elim
    | brk => exact hq.elim
    | cont => exact hq.elim
/-- behind the arguments: the promise -/
theorem args_at (hE : xw Ex = E) {σ : St} {H : Hp} {Q : VK} (h : EEt (gc X) E (sCall n Fm fs) σ H Q) : EAt (gc X) E fs σ H fun vs H1 => spF (gc X) xw n Fm vs H1 Q Ex := by
  obtain ⟨W, τ, st, m⟩ := h
  exact EAt.at (Ev.refl st) m.bind fun hs τ1 vs H1 W1 q ev r _ => sp_at hE st ev r q
/-- f(e, ..) -/
theorem ee_call (G : Fn X.prog X.w X.K X.mg X.base CX xw x n k Fm) (hr : Room k X.A) (hgd : X.A.guards = some []) (hx : Passes CX X Ex) (hE : xw Ex = E) (ha : EA X E (e :: es) fs) (hg : Gl X x := by rfl)
    (hdb : (x == ("__debug__" : Str)) = false := by decide) (he : starEach (e :: es) X.env = (false, eval e X.env) :: starEach es X.env := by rfl) (hpl : (backTo pos (starEach es X.env)).any (·.1) = false := by rfl) :
    EE X E (.Call (.Name x p) (e :: es) [] pos) (sCall n Fm fs) := by
  obtain ⟨fa, fd, ps, hm, hk, hps, hb, FG⟩ := G.ex
  refine ⟨fun pins s σ H Q I h => wpAny_Call_Name_kw (ld_glob I hg hm ?_ hdb)⟩
  refine PySem.W.callWith_K (h₀ := X.base) I.ok.mod.kin hk (thn (ha.run pos pins s σ H _ I (args_at hE h)) fun us s1 ⟨vs, H1, I1, r, q⟩ => ⟨I1.kIn, ?_⟩) he hpl
  exact runG FG hr hgd hb hx I1 r q
/-- f() -/
theorem ee_call0 (G : Fn X.prog X.w X.K X.mg X.base CX xw x n k Fm) (hr : Room k X.A) (hgd : X.A.guards = some []) (hx : Passes CX X Ex) (hE : xw Ex = E) (hg : Gl X x := by rfl)
    (hdb : (x == ("__debug__" : Str)) = false := by decide) : EE X E (.Call (.Name x p) [] [] pos) (sCall n Fm aNil) := by
  obtain ⟨fa, fd, ps, hm, hk, hps, hb, FG⟩ := G.ex
  refine ⟨fun pins s σ H Q I h => wpAny_Call_Name_kw (ld_glob I hg hm ?_ hdb)⟩
  obtain ⟨W, τ, st, m⟩ := h
  have q := sp_at (vs := []) (Q := Q) (F := Fm) (n := n) hE st (Ev.refl st) (hs := []) rfl m
  exact PySem.W.callWith_K0 I.kIn hk (runG (us := []) FG hr hgd hb hx I .nil q)
end
end F
set_option Elab.async false
set_option linter.all false
set_option maxRecDepth 100000
set_option maxHeartbeats 4000000
/-! FK: what operators do to data (own work) -/
namespace F
open PySem L2

section
variable {X : Cx}
/-- an operator on two things, by what it does -/
abbrev Op2R (X : Cx) (m : Value → Value → Sem Value) (op : D → D → Option Hd) : Prop := OpR X m (rOp2 (gc X) op)
def dAdd : D → D → Option Hd
  | .int i, .int j => some (.fro (.int (i + j)))
  | .str a, .str b => if sz (a.length + b.length) = true then some (.fro (.str (a ++ b))) else none
  | .tup a, .tup b => if sz (a.length + b.length) = true then some (.fro (.tup (a ++ b))) else none
  | .lst a, .lst b => if sz (a.length + b.length) = true then some (.tmp (.lst (a ++ b))) else none
  | _, _ => none
theorem RvL.nil_iff {G : Gc} {A : Addr → Prop} {H : Hp} {vs : List V} {ds : List D} (h : RvL G A H vs ds) : vs = [] ↔ ds = [] := by
  have := RvL.length h
  constructor
  · intro e
    rw [e] at this
    exact List.eq_nil_of_length_eq_zero this.symm
  · intro e
    rw [e] at this
    exact List.eq_nil_of_length_eq_zero this
theorem op_dAdd : Op2R X (binaryOp .Add) dAdd := by
  intro pins s σ H x y v u Q I rx ry ⟨A, d, e, h, hA, hd, he, ho, q⟩
  unfold dAdd at ho
  split at ho
  · rename_i i j
    cases ho
    exact op_add pins s σ H x y v u Q I rx ry ⟨i, j, hd.int, he.int, q _ H (Same.refl _) rfl⟩
  · rename_i a b
    split at ho
    · rename_i z
      cases ho
      exact op_add_str pins s σ H x y v u Q I rx ry ⟨a, b, hd.str, he.str, sz_ok z, q _ H (Same.refl _) rfl⟩
    · cases ho
  · rename_i a b
    split at ho
    · rename_i z
      cases ho
      obtain ⟨p, vs, e1, n1, h1, l1⟩ := hd.tup
      obtain ⟨p2, us, e2, n2, h2, l2⟩ := he.tup
      have r : RvL (gc X) A H (vs ++ us) (a ++ b) := RvL.append l1 l2
      refine op_catA pins s σ H x y v u Q I rx ry ⟨p, p2, vs, us, e1, e2, .inl (.inl h1), .inl (.inl h2), by rw [RvL.length l1, RvL.length l2]; exact sz_ok z, fun c => ?_, fun c1 c2 => ?_, fun c1 c2 p3 hp => ?_⟩
      · subst c
        exact q _ H (Same.refl _) ⟨p2, us, rfl, n2, h2, r⟩
      · subst c2
        rw [List.append_nil] at r
        exact q _ H (Same.refl _) ⟨p, vs, rfl, n1, h1, r⟩
      · exact q _ _ (same_new hp) (new_tup hA hp r)
    · cases ho
  · rename_i a b
    split at ho
    · rename_i z
      cases ho
      obtain ⟨p, vs, e1, h1, l1⟩ := hd.lst
      obtain ⟨p2, us, e2, h2, l2⟩ := he.lst
      exact op_cat pins s σ H x y v u Q I rx ry ⟨p, p2, vs, us, e1, e2, h1, h2, by rw [RvL.length l1, RvL.length l2]; exact sz_ok z, fun p3 hp => q _ _ (same_new hp) (new_lst hp (RvL.append l1 l2))⟩
    · cases ho
  · cases ho
/-- whole numbers alone -/
def dInt2 (c : Int → Int → Bool) (g : Int → Int → D) : D → D → Option Hd
  | .int i, .int j => if c i j = true then some (.fro (g i j)) else none
  | _, _ => none
theorem dInt2_of {m : Value → Value → Sem Value} {C : Int → Int → Prop} {gv : Int → Int → V} {c : Int → Int → Bool} {g : Int → Int → D} (ho : OpR X m (rI C gv)) (hc : ∀ i j, c i j = true → C i j) (hg : ∀ A H i j, Rv (gc X) A H (gv i j) (g i j)) : Op2R X m (dInt2 c g) := by
  intro pins s σ H x y v u Q I rx ry ⟨A, d, e, h, hA, hd, he, hop, q⟩
  unfold dInt2 at hop
  split at hop
  · rename_i i j
    split at hop
    · rename_i z
      cases hop
      exact ho pins s σ H x y v u Q I rx ry ⟨i, j, hd.int, he.int, hc i j z, q _ H (Same.refl _) (hg _ _ _ _)⟩
    · cases hop
  · cases hop
theorem rI0_rI {m : Value → Value → Sem Value} {gv : Int → Int → V} (ho : OpR X m (rI0 gv)) : OpR X m (rI (fun _ _ => True) gv) := fun pins s σ H x y v u Q I rx ry ⟨i, j, e1, e2, _, q⟩ => ho pins s σ H x y v u Q I rx ry ⟨i, j, e1, e2, q⟩
def dSub := dInt2 (fun _ _ => true) fun i j => .int (i - j)
def dMul := dInt2 (fun i j => (decide (-18446744073709551616 < i) && decide (i < 18446744073709551616)) || (decide (-18446744073709551616 < j) && decide (j < 18446744073709551616))) fun i j => .int (i * j)
def dDiv := dInt2 (fun _ j => decide (0 < j) && decide (j < 1073741824)) fun i j => .int (i / j)
def dMod := dInt2 (fun _ j => decide (0 < j)) fun i j => .int (i % j)
def dPow := dInt2 (fun i j => decide (0 ≤ j) && decide (j ≤ 1000000) && decide (i.natAbs < 18446744073709551616)) fun i j => .int (i ^ j.toNat)
theorem op_dSub : Op2R X (binaryOp .Sub) dSub := dInt2_of (rI0_rI op_sub) (fun _ _ _ => trivial) fun _ _ _ _ => rfl
theorem op_dMul : Op2R X (binaryOp .Mult) dMul := dInt2_of op_mul (fun i j h => by
  rw [Bool.or_eq_true, Bool.and_eq_true, Bool.and_eq_true, decide_eq_true_eq, decide_eq_true_eq, decide_eq_true_eq, decide_eq_true_eq] at h
  unfold CMul
  omega) fun _ _ _ _ => rfl
theorem op_dDiv : Op2R X (binaryOp .FloorDiv) dDiv := dInt2_of op_fdiv (fun i j h => by
  rw [Bool.and_eq_true, decide_eq_true_eq, decide_eq_true_eq] at h
  exact h) fun _ _ _ _ => rfl
theorem op_dMod : Op2R X (binaryOp .Mod) dMod := dInt2_of op_mod (fun i j h => of_decide_eq_true h) fun _ _ _ _ => rfl
theorem op_dPow : Op2R X (binaryOp .Pow) dPow := dInt2_of op_pow (fun i j h => by
  rw [Bool.and_eq_true, Bool.and_eq_true, decide_eq_true_eq, decide_eq_true_eq, decide_eq_true_eq] at h
  exact ⟨h.1.1, h.1.2, by have := h.2; omega⟩) fun _ _ _ _ => rfl
def dNeg : D → Option Hd
  | .int i => some (.fro (.int (-i)))
  | _ => none
theorem un_dNeg : UnR X (unaryOp .USub) (rOp1 (gc X) dNeg) := by
  intro pins s σ H x v Q I rx ⟨A, d, h, hA, hd, ho, q⟩
  unfold dNeg at ho
  split at ho
  · rename_i i
    cases ho
    exact un_neg pins s σ H x v Q I rx ⟨i, hd.int, q _ H (Same.refl _) rfl⟩
  · cases ho

/-! ### data without dicts, sets, instances -/
mutual
def D.eqv : D → D → Bool
  | .non, .non => true
  | .bl a, .bl b => a == b
  | .bl a, .int b => (if a then 1 else 0) == b
  | .int a, .bl b => a == (if b then 1 else 0)
  | .int a, .int b => a == b
  | .str a, .str b => a == b
  | .tup a, .tup b => D.eqvs a b
  | .lst a, .lst b => D.eqvs a b
  | _, _ => false
def D.eqvs : List D → List D → Bool
  | [], [] => true
  | a :: as, b :: bs => D.eqv a b && D.eqvs as bs
  | _, _ => false
end
mutual
def D.alk : D → D → Bool
  | .non, .non => true
  | .bl _, .bl _ => true
  | .int _, .int _ => true
  | .str _, .str _ => true
  | .tup a, .tup b => D.alks a b
  | .lst a, .lst b => D.alks a b
  | _, _ => false
def D.alks : List D → List D → Bool
  | a :: as, b :: bs => D.alk a b && D.alks as bs
  | [], _ => true
  | _ :: _, [] => true
end
mutual
def D.py : D → PyData
  | .non => .none | .bl b => .bool b | .int i => .int i | .str x => .str x
  | .tup xs => .tuple (D.pys xs) | .lst xs => .list (D.pys xs)
  | _ => .none
def D.pys : List D → List PyData
  | [] => []
  | x :: xs => D.py x :: D.pys xs
end
/-- plain data, no deeper than n -/
def D.okd : Nat → D → Bool
  | 0, .tup _ => false
  | 0, .lst _ => false
  | n + 1, .tup xs => xs.all (D.okd n)
  | n + 1, .lst xs => xs.all (D.okd n)
  | _, .non => true
  | _, .bl _ => true
  | _, .int _ => true
  | _, .str _ => true
  | _, _ => false
mutual
/-- texts of signs alone -/
def D.nos : D → Bool
  | .str x => PyData.strOk x
  | .tup xs => D.noss xs
  | .lst xs => D.noss xs
  | _ => true
def D.noss : List D → Bool
  | [] => true
  | x :: xs => D.nos x && D.noss xs
end
end
end F
set_option Elab.async false
set_option linter.all false
set_option maxRecDepth 100000
set_option maxHeartbeats 4000000
/-! FL: comparing data (own work) -/
namespace F
open PySem L2

mutual
theorem eqv_py : ∀ (n m : Nat) (d e : D), D.okd n d = true → D.okd m e = true → PyData.eqv d.py e.py = D.eqv d e
  | n, m, .non, e, h1, h2 => by cases e <;> first | rfl | (simp [D.py, PyData.eqv, D.eqv]; done) | (cases m <;> simp [D.okd] at h2)
  | n, m, .bl b, e, h1, h2 => by cases e <;> first | rfl | (simp [D.py, PyData.eqv, D.eqv]; done) | (cases m <;> simp [D.okd] at h2)
  | n, m, .int i, e, h1, h2 => by cases e <;> first | rfl | (simp [D.py, PyData.eqv, D.eqv]; done) | (cases m <;> simp [D.okd] at h2)
  | n, m, .str x, e, h1, h2 => by cases e <;> first | rfl | (simp [D.py, PyData.eqv, D.eqv]; done) | (cases m <;> simp [D.okd] at h2)
  | 0, m, .tup xs, e, h1, h2 => by simp [D.okd] at h1
  | n + 1, m, .tup xs, e, h1, h2 => by
    cases e with
    | tup ys =>
      cases m with
      | zero => simp [D.okd] at h2
      | succ m => simpa [D.py, PyData.eqv, D.eqv] using eqvs_py n m xs ys (by simpa [D.okd] using h1) (by simpa [D.okd] using h2)
    | _ => first | rfl | (simp [D.py, PyData.eqv, D.eqv]; done) | (cases m <;> simp [D.okd] at h2)
  | 0, m, .lst xs, e, h1, h2 => by simp [D.okd] at h1
  | n + 1, m, .lst xs, e, h1, h2 => by
    cases e with
    | lst ys =>
      cases m with
      | zero => simp [D.okd] at h2
      | succ m => simpa [D.py, PyData.eqv, D.eqv] using eqvs_py n m xs ys (by simpa [D.okd] using h1) (by simpa [D.okd] using h2)
    | _ => first | rfl | (simp [D.py, PyData.eqv, D.eqv]; done) | (cases m <;> simp [D.okd] at h2)
  | n, m, .set _, e, h1, h2 => by cases n <;> simp [D.okd] at h1
  | n, m, .dct _, e, h1, h2 => by cases n <;> simp [D.okd] at h1
  | n, m, .ins _ _, e, h1, h2 => by cases n <;> simp [D.okd] at h1
  | n, m, .fn _, e, h1, h2 => by cases n <;> simp [D.okd] at h1
  | n, m, .ty _, e, h1, h2 => by cases n <;> simp [D.okd] at h1
  | n, m, .scr _, e, h1, h2 => by cases n <;> simp [D.okd] at h1
theorem eqvs_py : ∀ (n m : Nat) (d e : List D), (∀ x ∈ d, D.okd n x = true) → (∀ x ∈ e, D.okd m x = true) → PyData.eqvAll (D.pys d) (D.pys e) = D.eqvs d e
  | n, m, [], [], _, _ => by simp [D.pys, PyData.eqvAll, D.eqvs]
  | n, m, [], _ :: _, _, _ => by simp [D.pys, PyData.eqvAll, D.eqvs]
  | n, m, _ :: _, [], _, _ => by simp [D.pys, PyData.eqvAll, D.eqvs]
  | n, m, x :: xs, y :: ys, h1, h2 => by
    rw [D.pys, D.pys, PyData.eqvAll, D.eqvs, eqv_py n m x y (h1 x List.mem_cons_self) (h2 y List.mem_cons_self), eqvs_py n m xs ys (fun z hz => h1 z (List.mem_cons_of_mem _ hz)) (fun z hz => h2 z (List.mem_cons_of_mem _ hz))]
end
mutual
theorem alk_py : ∀ (d e : D), D.alk d e = true → PySem.W.alike d.py e.py = true
  | .non, e, h => by cases e <;> first | (simp [D.py, PySem.W.alike]; done) | (simp [D.alk] at h)
  | .bl _, e, h => by cases e <;> first | (simp [D.py, PySem.W.alike]; done) | (simp [D.alk] at h)
  | .int _, e, h => by cases e <;> first | (simp [D.py, PySem.W.alike]; done) | (simp [D.alk] at h)
  | .str _, e, h => by cases e <;> first | (simp [D.py, PySem.W.alike]; done) | (simp [D.alk] at h)
  | .tup xs, e, h => by
    cases e with
    | tup ys => simpa [D.py, PySem.W.alike] using alks_py xs ys (by simpa [D.alk] using h)
    | _ => simp [D.alk] at h
  | .lst xs, e, h => by
    cases e with
    | lst ys => simpa [D.py, PySem.W.alike] using alks_py xs ys (by simpa [D.alk] using h)
    | _ => simp [D.alk] at h
  | .set _, e, h => by simp [D.alk] at h
  | .dct _, e, h => by simp [D.alk] at h
  | .ins _ _, e, h => by simp [D.alk] at h
  | .fn _, e, h => by simp [D.alk] at h
  | .ty _, e, h => by simp [D.alk] at h
  | .scr _, e, h => by simp [D.alk] at h
theorem alks_py : ∀ (d e : List D), D.alks d e = true → PySem.W.alikeAll (D.pys d) (D.pys e) = true
  | [], e, _ => by simp [D.pys, PySem.W.alikeAll]
  | _ :: _, [], _ => by simp [D.pys, PySem.W.alikeAll]
  | x :: xs, y :: ys, h => by
    rw [D.alks, Bool.and_eq_true] at h
    rw [D.pys, D.pys, PySem.W.alikeAll, alk_py x y h.1, alks_py xs ys h.2]
    rfl
end
mutual
theorem nos_py : ∀ (n : Nat) (d : D), D.okd n d = true → D.nos d = true → PyData.canLay0 d.py = true
  | n, .non, _, _ => by simp [D.py, PyData.canLay0]
  | n, .bl _, _, _ => by simp [D.py, PyData.canLay0]
  | n, .int _, _, _ => by simp [D.py, PyData.canLay0]
  | n, .str x, _, h => by simpa [D.py, PyData.canLay0, D.nos] using h
  | 0, .tup xs, h, _ => by simp [D.okd] at h
  | n + 1, .tup xs, h1, h => by simpa [D.py, PyData.canLay0] using noss_py n xs (by simpa [D.okd] using h1) (by simpa [D.nos] using h)
  | 0, .lst xs, h, _ => by simp [D.okd] at h
  | n + 1, .lst xs, h1, h => by simpa [D.py, PyData.canLay0] using noss_py n xs (by simpa [D.okd] using h1) (by simpa [D.nos] using h)
  | n, .set _, h1, h2 => by cases n <;> simp [D.okd] at h1
  | n, .dct _, h1, h2 => by cases n <;> simp [D.okd] at h1
  | n, .ins _ _, h1, h2 => by cases n <;> simp [D.okd] at h1
  | n, .fn _, h1, h2 => by cases n <;> simp [D.okd] at h1
  | n, .ty _, h1, h2 => by cases n <;> simp [D.okd] at h1
  | n, .scr _, h1, h2 => by cases n <;> simp [D.okd] at h1
theorem noss_py : ∀ (n : Nat) (d : List D), (∀ x ∈ d, D.okd n x = true) → D.noss d = true → PyData.canLayAll0 (D.pys d) = true
  | _, [], _, _ => by simp [D.pys, PyData.canLayAll0]
  | n, x :: xs, h1, h => by
    rw [D.noss, Bool.and_eq_true] at h
    rw [D.pys, PyData.canLayAll0, nos_py n x (h1 x List.mem_cons_self) h.1, noss_py n xs (fun z hz => h1 z (List.mem_cons_of_mem _ hz)) h.2]
    rfl
end
mutual
theorem dep_py : ∀ (n : Nat) (d : D), D.okd n d = true → PyData.depth d.py ≤ n
  | n, .non, _ => by simp [D.py, PyData.depth]
  | n, .bl _, _ => by simp [D.py, PyData.depth]
  | n, .int _, _ => by simp [D.py, PyData.depth]
  | n, .str x, _ => by simp [D.py, PyData.depth]
  | 0, .tup xs, h => by simp [D.okd] at h
  | n + 1, .tup xs, h1 => by
    have := deps_py n xs (by simpa [D.okd] using h1)
    simp only [D.py, PyData.depth]
    omega
  | 0, .lst xs, h => by simp [D.okd] at h
  | n + 1, .lst xs, h1 => by
    have := deps_py n xs (by simpa [D.okd] using h1)
    simp only [D.py, PyData.depth]
    omega
  | n, .set _, h1 => by cases n <;> simp [D.okd] at h1
  | n, .dct _, h1 => by cases n <;> simp [D.okd] at h1
  | n, .ins _ _, h1 => by cases n <;> simp [D.okd] at h1
  | n, .fn _, h1 => by cases n <;> simp [D.okd] at h1
  | n, .ty _, h1 => by cases n <;> simp [D.okd] at h1
  | n, .scr _, h1 => by cases n <;> simp [D.okd] at h1
theorem deps_py : ∀ (n : Nat) (d : List D), (∀ x ∈ d, D.okd n x = true) → PyData.depthAll (D.pys d) ≤ n
  | _, [], _ => by simp [D.pys, PyData.depthAll]
  | n, x :: xs, h1 => by
    have h2 := dep_py n x (h1 x List.mem_cons_self)
    have h3 := deps_py n xs fun z hz => h1 z (List.mem_cons_of_mem _ hz)
    rw [D.pys, PyData.depthAll]
    omega
end
section
variable {G : Gc} {A : Addr → Prop} {H : Hp}
mutual
theorem rv_dp : ∀ (n : Nat) (d : D) (v : V), D.okd n d = true → Rv G A H v d → Dp G.K H v d.py
  | n, .non, v, _, h => by
    have e : v = .non := h
    subst e
    exact .non
  | n, .bl b, v, _, h => by
    have e : v = .bl b := h
    subst e
    exact .bl b
  | n, .int b, v, _, h => by
    have e : v = .int b := h
    subst e
    exact .int b
  | n, .str b, v, _, h => by
    have e : v = .str b := h
    subst e
    exact .str b
  | 0, .tup xs, v, h, _ => by simp [D.okd] at h
  | n + 1, .tup xs, v, h1, ⟨a, vs, e, _, r, l⟩ => by
    subst e
    rw [D.py]
    exact .tup (.inl (.inl r)) (rv_dps n xs vs (by simpa [D.okd] using h1) l)
  | 0, .lst xs, v, h, _ => by simp [D.okd] at h
  | n + 1, .lst xs, v, h1, ⟨a, vs, e, _, r, l⟩ => by
    subst e
    rw [D.py]
    exact .lst (.inl (.inl r)) (rv_dps n xs vs (by simpa [D.okd] using h1) l)
  | n, .set _, _, h1, _ => by cases n <;> simp [D.okd] at h1
  | n, .dct _, _, h1, _ => by cases n <;> simp [D.okd] at h1
  | n, .ins _ _, _, h1, _ => by cases n <;> simp [D.okd] at h1
  | n, .fn _, _, h1, _ => by cases n <;> simp [D.okd] at h1
  | n, .ty _, _, h1, _ => by cases n <;> simp [D.okd] at h1
  | n, .scr _, _, h1, _ => by cases n <;> simp [D.okd] at h1
theorem rv_dps : ∀ (n : Nat) (d : List D) (v : List V), (∀ x ∈ d, D.okd n x = true) → RvL G A H v d → DpAll G.K H v (D.pys d)
  | _, [], v, _, h => by
    have e : v = [] := h
    subst e
    exact .nil
  | n, x :: xs, v, h1, ⟨u, r, e, h, t⟩ => by
    subst e
    exact .cons (rv_dp n x u (h1 x List.mem_cons_self) h) (rv_dps n xs r (fun z hz => h1 z (List.mem_cons_of_mem _ hz)) t)
end
theorem rz_dp {n : Nat} {d : D} {v : V} (h1 : D.okd n d = true) (h : Rz G A H v d) : Dp G.K H v d.py := by
  rcases h with h | ⟨_, a, e, h⟩
  · exact rv_dp n d v h1 h
  · subst e
    cases d with
    | lst ds =>
      obtain ⟨vs, r, l⟩ := h
      cases n with
      | zero => simp [D.okd] at h1
      | succ n =>
        rw [D.py]
        exact .lst (.inl (.inl r)) (rv_dps n ds vs (by simpa [D.okd] using h1) l)
    | tup ds =>
      obtain ⟨vs, r, l⟩ := h
      cases n with
      | zero => simp [D.okd] at h1
      | succ n =>
        rw [D.py]
        exact .tup (.inl (.inl r)) (rv_dps n ds vs (by simpa [D.okd] using h1) l)
    | _ => first | exact h.elim | (cases n <;> simp [D.okd] at h1)
end
section
variable {X : Cx}
/-- the depth that data may have here -/
abbrev dd : Nat := 12
theorem room_dd (hu : X.A.units + 64 < cLine) {d e : D} (h1 : D.okd dd d = true) : X.A.units + min d.py.depth e.py.depth < cLine := by
  have := dep_py dd d h1
  have := Nat.min_le_left d.py.depth e.py.depth
  unfold dd at *
  omega
def eqOk (d e : D) : Bool := D.okd dd d && D.okd dd e && (D.alk d e || (D.nos d && D.nos e))
theorem eqOk_ok {d e : D} (h : eqOk d e = true) : D.okd dd d = true ∧ D.okd dd e = true ∧ (D.alk d e = true ∨ (D.nos d = true ∧ D.nos e = true)) := by
  unfold eqOk at h
  rw [Bool.and_eq_true, Bool.and_eq_true, Bool.or_eq_true, Bool.and_eq_true] at h
  exact ⟨h.1.1, h.1.2, h.2⟩
theorem shaped_py {d : D} (h : D.okd dd d = true) (g : D.nos d = true) : SeqAt.shaped d.py = true := by
  unfold SeqAt.shaped
  rw [Bool.and_eq_true, decide_eq_true_eq]
  exact ⟨nos_py dd d h g, Nat.le_trans (dep_py dd d h) (by decide)⟩
/-- == at any place where two data stand -/
theorem eqAt_d {pins : List (Addr × Obj)} {σ : St} {H : Hp} {s : Shared} {x y : V} {v u : Value} {B : Addr → Prop} {d e : D} {A : Around} (I : Inv X pins σ H s) (hu : A.units + 64 < cLine) (rx : RelV x v) (ry : RelV y u) (hd : Rz (gc X) B H x d) (he : Rz (gc X) B H y e) (h : eqOk d e = true) :
    SeqAt.EqAt A s v u (D.eqv d e) := by
  obtain ⟨h1, h2, h3⟩ := eqOk_ok h
  obtain ⟨as, r1⟩ := Dp.reads I _ x v (rz_dp h1 hd) rx
  obtain ⟨bs, r2⟩ := Dp.reads I _ y u (rz_dp h2 he) ry
  have hr : A.units + min d.py.depth e.py.depth < cLine := by
    have := dep_py dd d h1
    have := Nat.min_le_left d.py.depth e.py.depth
    unfold dd at *
    omega
  rw [← eqv_py dd dd d e h1 h2]
  rcases h3 with h3 | ⟨h3, h4⟩
  · exact PySem.W.eqAt_alike _ _ A s v u as bs r1 r2 (alk_py d e h3) hr
  · exact SeqAt.eqAt_reads _ _ A s v u as bs r1 r2 (nos_py dd d h1 h3) (nos_py dd e h2 h4) hr
/-- == and != as operators -/
def eqOk2 : D → D → Bool
  | .str _, .str _ => true
  | d, e => D.okd dd d && D.okd dd e && D.nos d && D.nos e
def dEq : D → D → Option Hd := fun d e => if eqOk2 d e = true then some (.fro (.bl (D.eqv d e))) else none
def dNe : D → D → Option Hd := fun d e => if eqOk2 d e = true then some (.fro (.bl (!D.eqv d e))) else none
theorem eqOk2_ok {d e : D} (h : eqOk2 d e = true) : (∃ a b, d = .str a ∧ e = .str b) ∨ (D.okd dd d = true ∧ D.okd dd e = true ∧ D.nos d = true ∧ D.nos e = true) := by
  unfold eqOk2 at h
  split at h
  · exact .inl ⟨_, _, rfl, rfl⟩
  · rw [Bool.and_eq_true, Bool.and_eq_true, Bool.and_eq_true] at h
    exact .inr ⟨h.1.1.1, h.1.1.2, h.1.2, h.2⟩
theorem op_dEq (hu : X.A.units + 64 < cLine) : Op2R X (compareOp .Eq) dEq := by
  intro pins s σ H x y v u Q I rx ry ⟨A, d, e, h, hA, hd, he, ho, q⟩
  unfold dEq at ho
  split at ho
  · rename_i z
    cases ho
    rcases eqOk2_ok z with ⟨a, b, rfl, rfl⟩ | ⟨h1, h2, h3, h4⟩
    · have e1 := hd.str
      have e2 := he.str
      subst e1 e2
      refine op_eq pins s σ H _ _ v u Q I rx ry ⟨rfl, ?_⟩
      rw [dec_str]
      exact q _ H (Same.refl _) rfl
    · refine op_eqD hu pins s σ H x y v u Q I rx ry ⟨d.py, e.py, rz_dp h1 hd, rz_dp h2 he, shaped_py h1 h3, shaped_py h2 h4, ?_⟩
      rw [eqv_py dd dd d e h1 h2]
      exact q _ H (Same.refl _) rfl
  · cases ho
theorem op_dNe (hu : X.A.units + 64 < cLine) : Op2R X (compareOp .NotEq) dNe := by
  intro pins s σ H x y v u Q I rx ry ⟨A, d, e, h, hA, hd, he, ho, q⟩
  unfold dNe at ho
  split at ho
  · rename_i z
    cases ho
    rcases eqOk2_ok z with ⟨a, b, rfl, rfl⟩ | ⟨h1, h2, h3, h4⟩
    · have e1 := hd.str
      have e2 := he.str
      subst e1 e2
      refine op_ne pins s σ H _ _ v u Q I rx ry ⟨rfl, ?_⟩
      rw [dec_str]
      exact q _ H (Same.refl _) rfl
    · refine op_neD hu pins s σ H x y v u Q I rx ry ⟨d.py, e.py, rz_dp h1 hd, rz_dp h2 he, shaped_py h1 h3, shaped_py h2 h4, ?_⟩
      rw [eqv_py dd dd d e h1 h2]
      exact q _ H (Same.refl _) rfl
  · cases ho
/-- in a list, in a tuple -/
def inAny (x : D) (ds : List D) : Bool := ds.any fun y => D.eqv y x
def inOk (x : D) (ds : List D) : Bool := D.okd dd x && ds.all (fun y => D.okd dd y) && D.nos x && D.noss ds
theorem inOk_ok {x : D} {ds : List D} (h : inOk x ds = true) : D.okd dd x = true ∧ (∀ y ∈ ds, D.okd dd y = true) ∧ D.nos x = true ∧ D.noss ds = true := by
  unfold inOk at h
  rw [Bool.and_eq_true, Bool.and_eq_true, Bool.and_eq_true] at h
  exact ⟨h.1.1.1, List.all_eq_true.mp h.1.1.2, h.1.2, h.2⟩
theorem any_py : ∀ (ds : List D) (x : D), (∀ y ∈ ds, D.okd dd y = true) → D.okd dd x = true → ((D.pys ds).any fun y => PyData.eqv y x.py) = inAny x ds
  | [], x, _, _ => rfl
  | y :: ds, x, h, hx => by
    unfold inAny
    rw [D.pys, List.any_cons, List.any_cons, eqv_py dd dd y x (h y List.mem_cons_self) hx, any_py ds x (fun z hz => h z (List.mem_cons_of_mem _ hz)) hx]
    rfl
def dIn : D → D → Option Hd
  | x, .lst ds => if inOk x ds = true then some (.fro (.bl (inAny x ds))) else none
  | x, .tup ds => if inOk x ds = true then some (.fro (.bl (inAny x ds))) else none
  | _, _ => none
def dNotIn : D → D → Option Hd
  | x, .lst ds => if inOk x ds = true then some (.fro (.bl (!inAny x ds))) else none
  | x, .tup ds => if inOk x ds = true then some (.fro (.bl (!inAny x ds))) else none
  | _, _ => none
theorem room_in (hu : X.A.units + 65 < cLine) {x : D} {ds : List PyData} (h1 : D.okd dd x = true) : X.A.units + 1 + min (PyData.depthAll ds) x.py.depth < cLine := by
  have := dep_py dd x h1
  have := Nat.min_le_right (PyData.depthAll ds) x.py.depth
  unfold dd at *
  omega
theorem op_dIn0 (hu : X.A.units + 65 < cLine) : Op2R X (compareOp .In) dIn := by
  intro pins s σ H x y v u Q I rx ry ⟨A, d, e, h, hA, hd, he, ho, q⟩
  unfold dIn at ho
  split at ho
  · rename_i x0 ds
    split at ho
    · rename_i z
      cases ho
      obtain ⟨h1, h2, h3, h4⟩ := inOk_ok z
      obtain ⟨p, vs, e1, r, l⟩ := he.lst
      obtain ⟨as, r1⟩ := Dp.reads I _ x v (rz_dp h1 hd) rx
      obtain ⟨bs, r2⟩ := Dp.reads I (.list (D.pys ds)) y u (by rw [e1]; exact .lst (.inl (.inl r)) (rv_dps dd ds vs h2 l)) ry
      refine SeqAt.in_list_reads r2 r1 (noss_py dd ds h2 h4) (nos_py dd d h1 h3) (room_in hu h1) ?_
      rw [any_py ds d h2 h1]
      exact ⟨.bl _, H, I, rfl, q _ H (Same.refl _) rfl⟩
    · cases ho
  · rename_i x0 ds
    split at ho
    · rename_i z
      cases ho
      obtain ⟨h1, h2, h3, h4⟩ := inOk_ok z
      obtain ⟨p, vs, e1, _, r, l⟩ := he.tup
      obtain ⟨as, r1⟩ := Dp.reads I _ x v (rz_dp h1 hd) rx
      obtain ⟨bs, r2⟩ := Dp.reads I (.tuple (D.pys ds)) y u (by rw [e1]; exact .tup (.inl (.inl r)) (rv_dps dd ds vs h2 l)) ry
      refine SeqAt.in_tuple_reads r2 r1 (noss_py dd ds h2 h4) (nos_py dd d h1 h3) (room_in hu h1) ?_
      rw [any_py ds d h2 h1]
      exact ⟨.bl _, H, I, rfl, q _ H (Same.refl _) rfl⟩
    · cases ho
  · cases ho
theorem op_dNotIn0 (hu : X.A.units + 65 < cLine) : Op2R X (compareOp .NotIn) dNotIn := by
  intro pins s σ H x y v u Q I rx ry ⟨A, d, e, h, hA, hd, he, ho, q⟩
  unfold dNotIn at ho
  split at ho
  · rename_i x0 ds
    split at ho
    · rename_i z
      cases ho
      obtain ⟨h1, h2, h3, h4⟩ := inOk_ok z
      obtain ⟨p, vs, e1, r, l⟩ := he.lst
      obtain ⟨as, r1⟩ := Dp.reads I _ x v (rz_dp h1 hd) rx
      obtain ⟨bs, r2⟩ := Dp.reads I (.list (D.pys ds)) y u (by rw [e1]; exact .lst (.inl (.inl r)) (rv_dps dd ds vs h2 l)) ry
      refine SeqAt.notIn_list_reads r2 r1 (noss_py dd ds h2 h4) (nos_py dd d h1 h3) (room_in hu h1) ?_
      rw [any_py ds d h2 h1]
      exact ⟨.bl _, H, I, rfl, q _ H (Same.refl _) rfl⟩
    · cases ho
  · rename_i x0 ds
    split at ho
    · rename_i z
      cases ho
      obtain ⟨h1, h2, h3, h4⟩ := inOk_ok z
      obtain ⟨p, vs, e1, _, r, l⟩ := he.tup
      obtain ⟨as, r1⟩ := Dp.reads I _ x v (rz_dp h1 hd) rx
      obtain ⟨bs, r2⟩ := Dp.reads I (.tuple (D.pys ds)) y u (by rw [e1]; exact .tup (.inl (.inl r)) (rv_dps dd ds vs h2 l)) ry
      refine SeqAt.notIn_tuple_reads r2 r1 (noss_py dd ds h2 h4) (nos_py dd d h1 h3) (room_in hu h1) ?_
      rw [any_py ds d h2 h1]
      exact ⟨.bl _, H, I, rfl, q _ H (Same.refl _) rfl⟩
    · cases ho
  · cases ho
/-! ### < and its kin -/
def D.lt (d e : D) : Bool := PySem.W.dataLt d.py e.py
/-- < at any place where two data stand -/
def ltOk (d e : D) : Bool := D.okd dd d && D.alk d e && D.okd dd e && (match d with | .non => false | .bl _ => false | _ => true)
theorem ltAt_d {pins : List (Addr × Obj)} {σ : St} {H : Hp} {s : Shared} {x y : V} {v u : Value} {B : Addr → Prop} {d e : D} {A : Around} (I : Inv X pins σ H s) (hu : A.units + 64 < cLine) (rx : RelV x v) (ry : RelV y u) (hd : Rz (gc X) B H x d) (he : Rz (gc X) B H y e) (h : ltOk d e = true) :
    SeqAt.RcLt A s v u (D.lt d e) := by
  unfold ltOk at h
  rw [Bool.and_eq_true, Bool.and_eq_true, Bool.and_eq_true] at h
  obtain ⟨⟨⟨h1, h2⟩, h3⟩, h4⟩ := h
  obtain ⟨as, r1⟩ := Dp.reads I _ x v (rz_dp h1 hd) rx
  obtain ⟨bs, r2⟩ := Dp.reads I _ y u (rz_dp h3 he) ry
  refine PySem.W.rcLt_alike _ _ A s v u as bs r1 r2 (alk_py d e h2) (fun z => ?_) ?_
  · cases d <;> first | (simp [D.py] at z; done) | (simp [D.alk] at h2; done) | (cases e <;> simp [D.alk] at h2; done) | (simp at h4; done)
  · have := dep_py dd d h1
    have := Nat.min_le_left d.py.depth e.py.depth
    unfold dd at *
    omega
def dCmp (f : Int → Int → Bool) (g : D → D → Bool) : D → D → Option Hd := fun d e => match d, e with
  | .int i, .int j => some (.fro (.bl (f i j)))
  | d, e => if ltOk d e = true then some (.fro (.bl (g d e))) else none
def dLt := dCmp (fun i j => decide (i < j)) fun d e => D.lt d e
def dLe := dCmp (fun i j => decide (i ≤ j)) fun d e => !D.lt e d
def dGt := dCmp (fun i j => decide (j < i)) fun d e => D.lt e d
def dGe := dCmp (fun i j => decide (j ≤ i)) fun d e => !D.lt d e
theorem dCmp_of {o : CmpOp} {f : Int → Int → Bool} {g : D → D → Bool} {k : PyData → PyData → Bool} (h1 : OpR X (compareOp o) (rI0 fun i j => .bl (f i j)))
    (h2 : ∀ (E : Value → Shared → Prop) (s : Shared) (a b : Value) (da db : PyData) (as bs : List Addr) (Q : Value → Shared → Prop), Reads s.heap a da as → Reads s.heap b db bs → PySem.W.alike da db = true → da ≠ .none → X.A.units + min da.depth db.depth < cLine → Q (.bool (k da db)) s → wpAny (model X.prog X.w) X.A (compareOp o a b) Q E s)
    (hk : ∀ d e : D, k d.py e.py = g d e) (hu : X.A.units + 64 < cLine) : Op2R X (compareOp o) (dCmp f g) := by
  intro pins s σ H x y v u Q I rx ry ⟨A, d, e, h, hA, hd, he, ho, q⟩
  unfold dCmp at ho
  split at ho
  · rename_i i j
    cases ho
    exact h1 pins s σ H x y v u Q I rx ry ⟨i, j, hd.int, he.int, q _ H (Same.refl _) rfl⟩
  · split at ho
    · rename_i z
      cases ho
      unfold ltOk at z
      rw [Bool.and_eq_true, Bool.and_eq_true, Bool.and_eq_true] at z
      obtain ⟨⟨⟨z1, z2⟩, z3⟩, z4⟩ := z
      obtain ⟨as, r1⟩ := Dp.reads I _ x v (rz_dp z1 hd) rx
      obtain ⟨bs, r2⟩ := Dp.reads I _ y u (rz_dp z3 he) ry
      refine h2 _ s v u _ _ as bs _ r1 r2 (alk_py d e z2) (fun z => ?_) (room_dd hu z1) ?_
      · cases d <;> first | (simp [D.py] at z; done) | (simp [D.alk] at z2; done) | (cases e <;> simp [D.alk] at z2; done) | (simp at z4; done)
      · rw [hk]
        exact ⟨.bl _, H, I, rfl, q _ H (Same.refl _) rfl⟩
    · cases ho
theorem op_dLt (hu : X.A.units + 64 < cLine) : Op2R X (compareOp .Lt) dLt := dCmp_of op_lt (fun E s a b da db as bs Q r1 r2 ha hn hu hq => PySem.W.lt_data r1 r2 ha hn hu hq) (fun _ _ => rfl) hu
theorem op_dLe (hu : X.A.units + 64 < cLine) : Op2R X (compareOp .LtE) dLe := dCmp_of op_le (k := fun a b => !PySem.W.dataLt b a) (fun E s a b da db as bs Q r1 r2 ha hn hu hq => PySem.W.le_data r1 r2 ha hn hu hq) (fun _ _ => rfl) hu
theorem op_dGt (hu : X.A.units + 64 < cLine) : Op2R X (compareOp .Gt) dGt := dCmp_of op_gt (k := fun a b => PySem.W.dataLt b a) (fun E s a b da db as bs Q r1 r2 ha hn hu hq => PySem.W.gt_data r1 r2 ha hn hu hq) (fun _ _ => rfl) hu
theorem op_dGe (hu : X.A.units + 64 < cLine) : Op2R X (compareOp .GtE) dGe := dCmp_of op_ge (k := fun a b => !PySem.W.dataLt a b) (fun E s a b da db as bs Q r1 r2 ha hn hu hq => PySem.W.ge_data r1 r2 ha hn hu hq) (fun _ _ => rfl) hu
/-! ### is, is not -/
def dIs : D → D → Option Hd
  | .non, .non => some (.fro (.bl true))
  | .set _, .non => none
  | _, .non => some (.fro (.bl false))
  | .bl a, .bl b => some (.fro (.bl (decide (a = b))))
  | _, _ => none
def dIsNot : D → D → Option Hd
  | .non, .non => some (.fro (.bl false))
  | .set _, .non => none
  | _, .non => some (.fro (.bl true))
  | .bl a, .bl b => some (.fro (.bl (!decide (a = b))))
  | _, _ => none
theorem rz_none {G : Gc} {A : Addr → Prop} {H : Hp} {x : V} {d : D} (h : Rz G A H x d) (e : x = .non) : d = .non := by
  subst e
  rcases h with h | ⟨_, a, z, _⟩
  · cases d <;> first | rfl | (cases (show V.non = _ from h); done) | (obtain ⟨a, _, z, _⟩ := h; cases z; done) | (obtain ⟨a, z, _⟩ := h; cases z; done) | exact h.elim
  · cases z
theorem op_dIs : Op2R X (compareOp .Is) dIs := by
  intro pins s σ H x y v u Q I rx ry ⟨A, d, e, h, hA, hd, he, ho, q⟩
  unfold dIs at ho
  split at ho
  · cases ho
    refine op_isN pins s σ H x y v u Q I rx ry ⟨he.non, ?_⟩
    rw [decide_eq_true hd.non]
    exact q _ H (Same.refl _) rfl
  · cases ho
  · rename_i n1 n2
    cases ho
    refine op_isN pins s σ H x y v u Q I rx ry ⟨he.non, ?_⟩
    rw [decide_eq_false fun z => n1 (rz_none hd z)]
    exact q _ H (Same.refl _) rfl
  · cases ho
    exact op_isBl pins s σ H x y v u Q I rx ry ⟨_, _, hd.bl, he.bl, q _ H (Same.refl _) rfl⟩
  · cases ho
theorem op_dIsNot : Op2R X (compareOp .IsNot) dIsNot := by
  intro pins s σ H x y v u Q I rx ry ⟨A, d, e, h, hA, hd, he, ho, q⟩
  unfold dIsNot at ho
  split at ho
  · cases ho
    refine op_notN pins s σ H x y v u Q I rx ry ⟨he.non, ?_⟩
    rw [decide_eq_true hd.non]
    exact q _ H (Same.refl _) rfl
  · cases ho
  · rename_i n1 n2
    cases ho
    refine op_notN pins s σ H x y v u Q I rx ry ⟨he.non, ?_⟩
    rw [decide_eq_false fun z => n1 (rz_none hd z)]
    exact q _ H (Same.refl _) rfl
  · cases ho
    exact op_notBl pins s σ H x y v u Q I rx ry ⟨_, _, hd.bl, he.bl, q _ H (Same.refl _) rfl⟩
  · cases ho
end
end F
set_option Elab.async false
set_option linter.all false
set_option maxRecDepth 100000
set_option maxHeartbeats 4000000
/-! FM: items, slices, built-in defs (own work) -/
namespace F
open PySem L2

section
variable {X : Cx}
theorem RzL.one {G : Gc} {A : Addr → Prop} {H : Hp} {vs : List V} {d : D} (h : RzL G A H vs [d]) : ∃ v, vs = [v] ∧ Rz G A H v d := by
  obtain ⟨v, r, e, h1, h2⟩ := h
  have h2' : r = [] := h2
  subst h2'
  exact ⟨v, e, h1⟩
theorem RzL.two {G : Gc} {A : Addr → Prop} {H : Hp} {vs : List V} {d e : D} (h : RzL G A H vs [d, e]) : ∃ v w, vs = [v, w] ∧ Rz G A H v d ∧ Rz G A H w e := by
  obtain ⟨v, r, e1, h1, h2⟩ := h
  obtain ⟨w, e2, h3⟩ := RzL.one h2
  subst e2
  exact ⟨v, w, e1, h1, h3⟩
/-! ### items -/
theorem RvL.atI {G : Gc} {A : Addr → Prop} {H : Hp} {vs : List V} {ds : List D} {i : Int} {d : D} (l : RvL G A H vs ds) (h : atI ds i = some d) : ∃ v, atI vs i = some v ∧ Rv G A H v d := by
  unfold L2.atI at h ⊢
  rw [RvL.length l]
  cases z : ixN ds.length i with
  | none =>
    rw [z] at h
    cases h
  | some j =>
    rw [z] at h
    obtain ⟨v, h1, h2⟩ := RvL.get l (show ds[j]? = some d from h)
    exact ⟨v, h1, h2⟩
def dIx : D → D → Option Hd
  | .lst xs, .int i => (atI xs i).map Hd.fro
  | .tup xs, .int i => (atI xs i).map Hd.fro
  | .str z, .int i => if sz z.length = true then (atI z.cps.toList i).map fun c => Hd.fro (.str ⟨#[c]⟩) else none
  | _, _ => none
theorem ix_dIx : IxR X (rOp2 (gc X) dIx) := by
  intro value slice pins s σ H x y v u Q I rx ry ⟨A, d, e, h, hA, hd, he, ho, q⟩ hs
  unfold dIx at ho
  split at ho
  · obtain ⟨d, h1, rfl⟩ := Option.map_eq_some_iff.mp ho
    obtain ⟨p, vs, e1, r, l⟩ := hd.lst
    obtain ⟨w, h2, h3⟩ := RvL.atI l h1
    exact ix_list value slice pins s σ H x y v u Q I rx ry ⟨p, vs, _, w, e1, he.int, .inl (.inl r), h2, q _ H (Same.refl _) h3⟩ hs
  · obtain ⟨d, h1, rfl⟩ := Option.map_eq_some_iff.mp ho
    obtain ⟨p, vs, e1, _, r, l⟩ := hd.tup
    obtain ⟨w, h2, h3⟩ := RvL.atI l h1
    exact ix_tup value slice pins s σ H x y v u Q I rx ry ⟨p, vs, _, w, e1, he.int, .inl (.inl r), h2, q _ H (Same.refl _) h3⟩ hs
  · split at ho
    · rename_i z i c
      obtain ⟨c, h1, rfl⟩ := Option.map_eq_some_iff.mp ho
      exact ix_str value slice pins s σ H x y v u Q I rx ry ⟨_, _, c, hd.str, he.int, sz_ok (by assumption), h1, q _ H (Same.refl _) rfl⟩ hs
    · cases ho
  · cases ho
/-! ### slices -/
def cutD (xs : List D) (lo hi : Option Int) : List D := (xs.drop (HT.sIx xs.length 0 lo)).take (HT.sIx xs.length xs.length hi - HT.sIx xs.length 0 lo)
theorem RvL.cut {G : Gc} {A : Addr → Prop} {H : Hp} {vs : List V} {ds : List D} (lo hi : Option Int) (l : RvL G A H vs ds) : RvL G A H (cutV vs lo hi) (cutD ds lo hi) := by
  unfold cutV cutD
  rw [RvL.length l]
  exact RvL.take _ (RvL.drop _ l)
def dSl : D → Option Int → Option Int → Option Hd
  | .lst xs, lo, hi => some (.tmp (.lst (cutD xs lo hi)))
  | .tup xs, lo, hi => some (.fro (.tup (cutD xs lo hi)))
  | .str z, lo, hi => if sz z.length = true then some (.fro (.str (cutS z lo hi))) else none
  | _, _, _ => none
theorem sl_dSl : SlR X (rSl (gc X) dSl) := by
  intro pins s σ H x v vl vu lo hi sl Q I rx hs pl pu ⟨A, d, h, hA, hd, ho, q⟩
  unfold dSl at ho
  split at ho
  · cases ho
    obtain ⟨p, vs, e1, r, l⟩ := hd.lst
    exact sl_list pins s σ H x v vl vu lo hi sl Q I rx hs pl pu ⟨p, vs, e1, .inl (.inl r), fun p hp => q _ _ (same_new hp) (new_lst hp (RvL.cut lo hi l))⟩
  · rename_i xs
    cases ho
    obtain ⟨p, vs, e1, n, r, l⟩ := hd.tup
    refine sl_tupA pins s σ H x v vl vu lo hi sl Q I rx hs pl pu ⟨p, vs, e1, .inl (.inl r), fun z => ?_, fun z p hp => q _ _ (same_new hp) (new_tup hA hp (RvL.cut lo hi l))⟩
    refine q _ H (Same.refl _) ⟨p, vs, rfl, n, r, ?_⟩
    have : cutD xs lo hi = xs := by
      rw [RvL.length l] at z
      unfold cutD
      rw [z.1, z.2]
      simp
    rw [this]
    exact l
  · split at ho
    · cases ho
      exact sl_str pins s σ H x v vl vu lo hi sl Q I rx hs pl pu ⟨_, hd.str, sz_ok (by assumption), q _ H (Same.refl _) rfl⟩
    · cases ho
  · cases ho
/-! ### a < b < c -/
variable {E : XW} {e a b c : Expr} {es : List Expr} {f g k : FE} {fs : FA} {pos : Pos}
def sChain (op op' : D → D → Option Hd) (f g k : FE) : FE := fun τ => (f τ).bind fun p => (g p.2).bind fun q => (ofO (peek q.2 p.1)).bind fun d => (ofO (peek q.2 q.1)).bind fun e => (ofO (op d e)).bind fun h => match h with
  | .fro (.bl true) => (k q.2).bind fun r => (ofO (peek r.2 q.1)).bind fun e => (ofO (peek r.2 r.1)).bind fun u => (ofO (op' e u)).bind fun h => .ok (h, r.2)
  | .fro (.bl false) => .ok (.fro (.bl false), q.2)
  | _ => .stuck
theorem ee_chain {o o' : CmpOp} {op op' : D → D → Option Hd} (ho : OpR X (compareOp o) (rOp2 (gc X) op)) (ho' : OpR X (compareOp o') (rOp2 (gc X) op')) (ha : EE X E a f) (hb : EE X E b g) (hc : EE X E c k)
    (hm : lastMarks [o, o'] [b, c] = false := by with_unfolding_all rfl) : EE X E (.Compare a [o, o'] [b, c] pos) (sChain op op' f g k) :=
  PE.imp (pe_chain ho ho' ha hb hc hm) fun σ H Q ⟨W, τ, s, m⟩ => by
    refine EEt.at (Ev.refl s) m.bind fun h1 τ1 v1 H1 W1 q1 ev1 r1 _ => ?_
    refine EEt.at ev1 q1.bind fun h2 τ2 v2 H2 W2 q2 ev2 r2 st2 => ?_
    obtain ⟨d, p1, q2⟩ := q2.opt
    obtain ⟨e, p2, q2⟩ := q2.opt
    obtain ⟨h, p3, q2⟩ := q2.opt
    refine ⟨Av W2 σ τ2, d, e, h, fun a z => ev2.st.avT z, peek_ok (r1.step st2) ev2.st p1, peek_ok r2 ev2.st p2, p3, fun v H3 sm n => ?_⟩
    obtain ⟨W3, ev3, r3⟩ := ev_new ev2.st sm n
    have ev4 := ev2.trans ev3
    split at q2
    · refine ⟨true, r3, ?_⟩
      rw [if_pos rfl]
      refine EEt.at ev4 q2.bind fun h5 τ5 v5 H5 W5 q5 ev5 r5 st5 => ?_
      obtain ⟨d', p1', q5⟩ := q5.opt
      obtain ⟨e', p2', q5⟩ := q5.opt
      obtain ⟨h', p3', q5⟩ := q5.opt
      refine ⟨Av W5 σ τ5, d', e', h', fun a z => ev5.st.avT z, peek_ok ((r2.step ev3).step st5) ev5.st p1', peek_ok r5 ev5.st p2', p3', fun v H6 sm n => ?_⟩
      obtain ⟨W6, ev6, r6⟩ := ev_new ev5.st sm n
      exact q5 v H6 W6 (ev5.trans ev6) (r6.start fun a z => ev5.trk a z)
    · refine ⟨false, r3, ?_⟩
      rw [if_neg Bool.false_ne_true]
      exact q2 _ H3 W3 ev4 rfl
    · exact q2.elim
theorem eb_chain {o o' : CmpOp} {op op' : D → D → Option Hd} (ho : OpR X (compareOp o) (rOp2 (gc X) op)) (ho' : OpR X (compareOp o') (rOp2 (gc X) op')) (ha : EE X E a f) (hb : EE X E b g) (hc : EE X E c k)
    (hm : lastMarks [o, o'] [b, c] = false := by with_unfolding_all rfl) : EB X E (.Compare a [o, o'] [b, c] pos) (fun τ => asB (sChain op op' f g k τ)) :=
  PT.imp (pt_chain ho ho' ha hb hc hm) fun σ H Q h => by
    obtain ⟨W, τ, s, m⟩ := asB_at h
    refine EEt.at (Ev.refl s) m.bind fun h1 τ1 v1 H1 W1 q1 ev1 r1 _ => ?_
    refine EEt.at ev1 q1.bind fun h2 τ2 v2 H2 W2 q2 ev2 r2 st2 => ?_
    obtain ⟨d, p1, q2⟩ := q2.opt
    obtain ⟨e, p2, q2⟩ := q2.opt
    obtain ⟨h, p3, q2⟩ := q2.opt
    refine ⟨Av W2 σ τ2, d, e, h, fun a z => ev2.st.avT z, peek_ok (r1.step st2) ev2.st p1, peek_ok r2 ev2.st p2, p3, fun v H3 sm n => ?_⟩
    obtain ⟨W3, ev3, r3⟩ := ev_new ev2.st sm n
    have ev4 := ev2.trans ev3
    split at q2
    · refine ⟨true, r3, ?_⟩
      rw [if_pos rfl]
      refine EEt.at ev4 q2.bind fun h5 τ5 v5 H5 W5 q5 ev5 r5 st5 => ?_
      obtain ⟨d', p1', q5⟩ := q5.opt
      obtain ⟨e', p2', q5⟩ := q5.opt
      obtain ⟨h', p3', q5⟩ := q5.opt
      refine ⟨Av W5 σ τ5, d', e', h', fun a z => ev5.st.avT z, peek_ok ((r2.step ev3).step st5) ev5.st p1', peek_ok r5 ev5.st p2', p3', fun v H6 sm n => ?_⟩
      obtain ⟨W6, ev6, r6⟩ := ev_new ev5.st sm n
      exact q5 v H6 W6 (ev5.trans ev6) (r6.start fun a z => ev5.trk a z)
    · refine ⟨false, r3, ?_⟩
      rw [if_neg Bool.false_ne_true]
      exact q2 _ H3 W3 ev4 rfl
    · exact q2.elim

/-! ### built-in defs by values -/
abbrev ClR (X : Cx) (f : Value) (op : List D → Option Hd) : Prop := CallR X f (rCall (gc X) op)
def cLen : List D → Option Hd
  | [.str a] => if sz a.length = true then some (.fro (.int a.length)) else none
  | [.lst xs] => some (.fro (.int xs.length))
  | [.tup xs] => some (.fro (.int xs.length))
  | _ => none
theorem cl_len : ClR X (.builtin "len") cLen := by
  intro pins s σ H xs us Q I r ⟨A, ds, h, hA, hz, ho, q⟩
  unfold cLen at ho
  split at ho
  · split at ho
    · cases ho
      obtain ⟨v, e1, h1⟩ := hz.one
      subst e1
      have := h1.str
      subst this
      exact call_len pins s σ H _ us Q I r ⟨_, _, rfl, ⟨sz_ok (by assumption), rfl⟩, q _ H (Same.refl _) rfl⟩
    · cases ho
  · cases ho
    obtain ⟨v, e1, h1⟩ := hz.one
    subst e1
    obtain ⟨p, vs, e2, r2, l⟩ := h1.lst
    subst e2
    refine call_len pins s σ H _ us Q I r ⟨_, vs.length, rfl, .inl ⟨vs, .inl (.inl r2), rfl⟩, ?_⟩
    rw [RvL.length l]
    exact q _ H (Same.refl _) rfl
  · cases ho
    obtain ⟨v, e1, h1⟩ := hz.one
    subst e1
    obtain ⟨p, vs, e2, _, r2, l⟩ := h1.tup
    subst e2
    refine call_len pins s σ H _ us Q I r ⟨_, vs.length, rfl, .inr ⟨vs, .inl (.inl r2), rfl⟩, ?_⟩
    rw [RvL.length l]
    exact q _ H (Same.refl _) rfl
  · cases ho
def cAbs : List D → Option Hd
  | [.int i] => some (.fro (.int (if i < 0 then -i else i)))
  | _ => none
theorem cl_abs : ClR X (.builtin "abs") cAbs := by
  intro pins s σ H xs us Q I r ⟨A, ds, h, hA, hz, ho, q⟩
  unfold cAbs at ho
  split at ho
  · cases ho
    obtain ⟨v, e1, h1⟩ := hz.one
    subst e1
    have := h1.int
    subst this
    exact call_abs pins s σ H _ us Q I r ⟨_, rfl, q _ H (Same.refl _) rfl⟩
  · cases ho
def cInt : List D → Option Hd
  | [.int i] => some (.fro (.int i))
  | [.bl k] => some (.fro (.int (if k then 1 else 0)))
  | [.str a] => if decide (a.length ≤ 640) = true then (PySem.intText? a).map fun n => .fro (.int n) else none
  | _ => none
theorem cl_int : ClR X (.type "int") cInt := by
  intro pins s σ H xs us Q I r ⟨A, ds, h, hA, hz, ho, q⟩
  unfold cInt at ho
  split at ho
  · cases ho
    obtain ⟨v, e1, h1⟩ := hz.one
    subst e1
    have := h1.int
    subst this
    exact call_int1 pins s σ H _ us Q I r (.inl ⟨_, rfl, q _ H (Same.refl _) rfl⟩)
  · cases ho
    obtain ⟨v, e1, h1⟩ := hz.one
    subst e1
    have := h1.bl
    subst this
    exact call_int1 pins s σ H _ us Q I r (.inr ⟨_, rfl, q _ H (Same.refl _) rfl⟩)
  · split at ho
    · rename_i z
      obtain ⟨n, h2, rfl⟩ := Option.map_eq_some_iff.mp ho
      obtain ⟨v, e1, h1⟩ := hz.one
      subst e1
      have := h1.str
      subst this
      exact call_int_str pins s σ H _ us Q I r ⟨_, n, rfl, h2, of_decide_eq_true z, q _ H (Same.refl _) rfl⟩
    · cases ho
  · cases ho
def cStr : List D → Option Hd
  | [.int i] => if decide (i.natAbs.log2 < 1920) = true then some (.fro (.str (toString i))) else none
  | [.str a] => some (.fro (.str a))
  | _ => none
theorem cl_str : ClR X (.type "str") cStr := by
  intro pins s σ H xs us Q I r ⟨A, ds, h, hA, hz, ho, q⟩
  unfold cStr at ho
  split at ho
  · split at ho
    · rename_i z
      cases ho
      obtain ⟨v, e1, h1⟩ := hz.one
      subst e1
      have := h1.int
      subst this
      exact call_str_int pins s σ H _ us Q I r ⟨_, rfl, of_decide_eq_true z, q _ H (Same.refl _) rfl⟩
    · cases ho
  · cases ho
    obtain ⟨v, e1, h1⟩ := hz.one
    subst e1
    have := h1.str
    subst this
    exact SkE.call_str_str pins s σ H _ us Q I r ⟨_, rfl, q _ H (Same.refl _) rfl⟩
  · cases ho
theorem RvL.ints {G : Gc} {A : Addr → Prop} {H : Hp} : ∀ (ns : List Int), RvL G A H (ns.map V.int) (ns.map D.int)
  | [] => rfl
  | n :: ns => ⟨_, _, rfl, rfl, RvL.ints ns⟩
def cList : List D → Option Hd
  | [.lst xs] => some (.tmp (.lst xs))
  | [.tup xs] => some (.tmp (.lst xs))
  | [.scr ns] => some (.tmp (.lst (ns.map D.int)))
  | _ => none
theorem cl_list : ClR X (.type "list") cList := by
  intro pins s σ H xs us Q I r ⟨A, ds, h, hA, hz, ho, q⟩
  unfold cList at ho
  split at ho
  · cases ho
    obtain ⟨v, e1, h1⟩ := hz.one
    subst e1
    obtain ⟨p, vs, e2, r2, l⟩ := h1.lst
    subst e2
    exact call_list_of pins s σ H _ us Q I r ⟨p, vs, rfl, .inl (.inl (.inl r2)), fun l0 hl => q _ _ (same_new hl) (new_lst hl l)⟩
  · cases ho
    obtain ⟨v, e1, h1⟩ := hz.one
    subst e1
    obtain ⟨p, vs, e2, _, r2, l⟩ := h1.tup
    subst e2
    exact call_list_of pins s σ H _ us Q I r ⟨p, vs, rfl, .inr (.inl (.inl r2)), fun l0 hl => q _ _ (same_new hl) (new_lst hl l)⟩
  · rename_i ns
    cases ho
    obtain ⟨v, e1, h1⟩ := hz.one
    subst e1
    have h2 : Rv (gc X) A H v (.scr ns) := h1.rv rfl
    obtain ⟨p, e2, h3⟩ := h2
    subst e2
    have sq : SqL X.K H p (ns.map V.int) := h3.elim (fun z => .inl z.2) fun z => z H
    exact call_list_of pins s σ H _ us Q I r ⟨p, _, rfl, .inl sq, fun l0 hl => q _ _ (same_new hl) (new_lst hl (RvL.ints ns))⟩
  · cases ho
def cTup : List D → Option Hd
  | [.lst xs] => some (.fro (.tup xs))
  | [.tup xs] => some (.fro (.tup xs))
  | _ => none
theorem cl_tup : ClR X (.type "tuple") cTup := by
  intro pins s σ H xs us Q I r ⟨A, ds, h, hA, hz, ho, q⟩
  unfold cTup at ho
  split at ho
  · cases ho
    obtain ⟨v, e1, h1⟩ := hz.one
    subst e1
    obtain ⟨p, vs, e2, r2, l⟩ := h1.lst
    subst e2
    exact call_tuple_of pins s σ H _ us Q I r ⟨p, vs, rfl, .inl ⟨.inl (.inl r2), fun l0 hl => q _ _ (same_new hl) (new_tup hA hl l)⟩⟩
  · cases ho
    obtain ⟨v, e1, h1⟩ := hz.one
    subst e1
    obtain ⟨p, vs, e2, n, r2, l⟩ := h1.tup
    subst e2
    exact call_tuple_of pins s σ H _ us Q I r ⟨p, vs, rfl, .inr ⟨.inl (.inl r2), q _ H (Same.refl _) ⟨p, vs, rfl, n, r2, l⟩⟩⟩
  · cases ho
end
end F
set_option Elab.async false
set_option linter.all false
set_option maxRecDepth 100000
set_option maxHeartbeats 4000000
/-! FN: all, any, sum, isinstance, min, max, sorted, repr (own work) -/
namespace F
open PySem L2

section
variable {X : Cx}
def bls : List D → Option (List Bool)
  | [] => some []
  | .bl b :: r => (bls r).map (b :: ·)
  | _ :: _ => none
def nums : List D → Option (List Int)
  | [] => some []
  | .int b :: r => (nums r).map (b :: ·)
  | _ :: _ => none
theorem bls_map : ∀ {ds : List D} {bs : List Bool}, bls ds = some bs → ds = bs.map D.bl
  | [], _, h => by
    cases h
    rfl
  | d :: r, _, h => by
    cases d <;> first | (cases h; done) | skip
    rename_i b
    obtain ⟨t, h1, rfl⟩ := Option.map_eq_some_iff.mp (show (bls r).map (b :: ·) = some _ from h)
    rw [List.map_cons, bls_map h1]
theorem nums_map : ∀ {ds : List D} {bs : List Int}, nums ds = some bs → ds = bs.map D.int
  | [], _, h => by
    cases h
    rfl
  | d :: r, _, h => by
    cases d <;> first | (cases h; done) | skip
    rename_i b
    obtain ⟨t, h1, rfl⟩ := Option.map_eq_some_iff.mp (show (nums r).map (b :: ·) = some _ from h)
    rw [List.map_cons, nums_map h1]
theorem bls_of (bs : List Bool) : bls (bs.map D.bl) = some bs := by
  induction bs with
  | nil => rfl
  | cons b bs ih =>
    show (bls (bs.map D.bl)).map (b :: ·) = _
    rw [ih]
    rfl
theorem nums_of (bs : List Int) : nums (bs.map D.int) = some bs := by
  induction bs with
  | nil => rfl
  | cons b bs ih =>
    show (nums (bs.map D.int)).map (b :: ·) = _
    rw [ih]
    rfl
theorem RvL.bls_of {G : Gc} {A : Addr → Prop} {H : Hp} : ∀ {bs : List Bool} {vs : List V}, RvL G A H vs (bs.map D.bl) → vs = bs.map V.bl
  | [], _, h => h
  | _ :: _, _, ⟨v, r, e, h1, h2⟩ => by
    have h1' : v = .bl _ := h1
    rw [e, h1', RvL.bls_of h2]
    rfl
theorem RvL.ints_of {G : Gc} {A : Addr → Prop} {H : Hp} : ∀ {bs : List Int} {vs : List V}, RvL G A H vs (bs.map D.int) → vs = bs.map V.int
  | [], _, h => h
  | _ :: _, _, ⟨v, r, e, h1, h2⟩ => by
    have h1' : v = .int _ := h1
    rw [e, h1', RvL.ints_of h2]
    rfl
def cAll : List D → Option Hd
  | [.lst xs] => (bls xs).map fun bs => .fro (.bl (bs.all id))
  | _ => none
def cAny : List D → Option Hd
  | [.lst xs] => (bls xs).map fun bs => .fro (.bl (bs.any id))
  | _ => none
def cSum : List D → Option Hd
  | [.lst xs] => (nums xs).map fun bs => .fro (.int bs.sum)
  | _ => none
theorem cl_all (hc : X.calm = true) : ClR X (.builtin "all") cAll := by
  intro pins s σ H xs us Q I r ⟨A, ds, h, hA, hz, ho, q⟩
  unfold cAll at ho
  split at ho
  · obtain ⟨bs, h1, rfl⟩ := Option.map_eq_some_iff.mp ho
    obtain ⟨v, e1, h2⟩ := hz.one
    subst e1
    obtain ⟨p, vs, e2, r2, l⟩ := h2.lst
    subst e2
    rw [bls_map h1] at l
    rw [RvL.bls_of l] at r2
    exact cr_all hc pins s σ H _ us Q I r ⟨p, bs, rfl, .inl (.inl r2), q _ H (Same.refl _) rfl⟩
  · cases ho
theorem cl_any (hc : X.calm = true) : ClR X (.builtin "any") cAny := by
  intro pins s σ H xs us Q I r ⟨A, ds, h, hA, hz, ho, q⟩
  unfold cAny at ho
  split at ho
  · obtain ⟨bs, h1, rfl⟩ := Option.map_eq_some_iff.mp ho
    obtain ⟨v, e1, h2⟩ := hz.one
    subst e1
    obtain ⟨p, vs, e2, r2, l⟩ := h2.lst
    subst e2
    rw [bls_map h1] at l
    rw [RvL.bls_of l] at r2
    exact cr_any hc pins s σ H _ us Q I r ⟨p, bs, rfl, .inl (.inl r2), q _ H (Same.refl _) rfl⟩
  · cases ho
theorem cl_sum (hc : X.calm = true) : ClR X (.builtin "sum") cSum := by
  intro pins s σ H xs us Q I r ⟨A, ds, h, hA, hz, ho, q⟩
  unfold cSum at ho
  split at ho
  · obtain ⟨bs, h1, rfl⟩ := Option.map_eq_some_iff.mp ho
    obtain ⟨v, e1, h2⟩ := hz.one
    subst e1
    obtain ⟨p, vs, e2, r2, l⟩ := h2.lst
    subst e2
    rw [nums_map h1] at l
    rw [RvL.ints_of l] at r2
    exact cr_sum hc pins s σ H _ us Q I r ⟨p, bs, rfl, .inl (.inl r2), q _ H (Same.refl _) rfl⟩
  · cases ho
/-! ### isinstance -/
def D.tn : D → Option String
  | .non => some "NoneType" | .bl _ => some "bool" | .int _ => some "int" | .str _ => some "str" | .tup _ => some "tuple" | .lst _ => some "list" | _ => none
theorem tyX_of {G : Gc} {A : Addr → Prop} {H : Hp} {v : V} {d : D} {t : String} (h : Rz G A H v d) (e : D.tn d = some t) : TyX G.K H v (.type t) := by
  cases d with
  | non =>
    cases e
    rw [h.non]
    exact .base .non
  | bl b =>
    cases e
    rw [h.bl]
    exact .base (.bl _)
  | int b =>
    cases e
    rw [h.int]
    exact .base (.int _)
  | str b =>
    cases e
    rw [h.str]
    exact .base (.str _)
  | tup b =>
    cases e
    obtain ⟨p, vs, e2, _, r, _⟩ := h.tup
    rw [e2]
    exact .base (.tup r)
  | lst b =>
    cases e
    obtain ⟨p, vs, e2, r, _⟩ := h.lst
    rw [e2]
    exact .base (.lst r)
  | _ => cases e
def cIsi : List D → Option Hd
  | [d, .ty n] => match D.tn d with
    | some t => (kitB t n).map fun b => .fro (.bl b)
    | none => none
  | _ => none
theorem cl_isi : ClR X (.builtin "isinstance") cIsi := by
  intro pins s σ H xs us Q I r ⟨A, ds, h, hA, hz, ho, q⟩
  unfold cIsi at ho
  split at ho
  · split at ho
    · rename_i t z
      obtain ⟨b, h1, rfl⟩ := Option.map_eq_some_iff.mp ho
      obtain ⟨v, w, e1, h2, h3⟩ := hz.two
      subst e1
      have := h3.ty
      subst this
      exact call_isi pins s σ H _ us Q I r ⟨v, _, .type t, .type _, b, rfl, .ty _, tyX_of h2 z, kit_ty h1, q _ H (Same.refl _) rfl⟩
    · cases ho
  · cases ho
theorem ee_tyc {E : XW} {x : Str} {n : String} {pos : Pos} (h : PE X (.Name x pos) (tC (.ty n))) : EE X E (.Name x pos) (sC (.ty n)) := ee_c h fun _ _ => rfl
/-! ### the least, the greatest -/
def D.minL (d : D) (ds : List D) : D := ds.foldl (fun a y => if D.lt y a = true then y else a) d
def D.maxL (d : D) (ds : List D) : D := ds.foldl (fun a y => if D.lt a y = true then y else a) d
theorem minL_py (ds : List D) : ∀ d : D, (D.minL d ds).py = PySem.W.minD d.py (D.pys ds) := by
  induction ds with
  | nil => exact fun d => rfl
  | cons y ds ih =>
    intro d
    unfold D.minL PySem.W.minD at ih ⊢
    rw [D.pys, List.foldl_cons, List.foldl_cons, ih]
    unfold D.lt
    split <;> rfl
theorem maxL_py (ds : List D) : ∀ d : D, (D.maxL d ds).py = PySem.W.maxD d.py (D.pys ds) := by
  induction ds with
  | nil => exact fun d => rfl
  | cons y ds ih =>
    intro d
    unfold D.maxL PySem.W.maxD at ih ⊢
    rw [D.pys, List.foldl_cons, List.foldl_cons, ih]
    unfold D.lt
    split <;> rfl
theorem minL_mem (ds : List D) : ∀ d : D, D.minL d ds ∈ d :: ds := by
  induction ds with
  | nil => exact fun d => List.mem_cons_self
  | cons y ds ih =>
    intro d
    unfold D.minL at ih ⊢
    rw [List.foldl_cons]
    split
    · exact List.mem_cons_of_mem _ (ih y)
    · rcases List.mem_cons.mp (ih d) with h | h
      · rw [h]
        exact List.mem_cons_self
      · exact List.mem_cons_of_mem _ (List.mem_cons_of_mem _ h)
theorem maxL_mem (ds : List D) : ∀ d : D, D.maxL d ds ∈ d :: ds := by
  induction ds with
  | nil => exact fun d => List.mem_cons_self
  | cons y ds ih =>
    intro d
    unfold D.maxL at ih ⊢
    rw [List.foldl_cons]
    split
    · exact List.mem_cons_of_mem _ (ih y)
    · rcases List.mem_cons.mp (ih d) with h | h
      · rw [h]
        exact List.mem_cons_self
      · exact List.mem_cons_of_mem _ (List.mem_cons_of_mem _ h)
mutual
theorem py_inj : ∀ (n m : Nat) (d e : D), D.okd n d = true → D.okd m e = true → d.py = e.py → d = e
  | n, m, .non, e, h1, h2, h => by
    cases e <;> first | rfl | (simp [D.py] at h; done) | (cases m <;> simp [D.okd] at h2)
  | n, m, .bl b, e, h1, h2, h => by
    cases e <;> first | (simp [D.py] at h; done) | (simp [D.py] at h; subst h; rfl) | (cases m <;> simp [D.okd] at h2)
  | n, m, .int b, e, h1, h2, h => by
    cases e <;> first | (simp [D.py] at h; done) | (simp [D.py] at h; subst h; rfl) | (cases m <;> simp [D.okd] at h2)
  | n, m, .str b, e, h1, h2, h => by
    cases e <;> first | (simp [D.py] at h; done) | (simp [D.py] at h; subst h; rfl) | (cases m <;> simp [D.okd] at h2)
  | 0, m, .tup xs, e, h1, h2, _ => by simp [D.okd] at h1
  | n + 1, m, .tup xs, e, h1, h2, h => by
    cases e with
    | tup ys =>
      cases m with
      | zero => simp [D.okd] at h2
      | succ m =>
        rw [D.py, D.py] at h
        rw [pys_inj n m xs ys (by simpa [D.okd] using h1) (by simpa [D.okd] using h2) (PyData.tuple.inj h)]
    | _ => first | (simp [D.py] at h; done) | (cases m <;> simp [D.okd] at h2)
  | 0, m, .lst xs, e, h1, h2, _ => by simp [D.okd] at h1
  | n + 1, m, .lst xs, e, h1, h2, h => by
    cases e with
    | lst ys =>
      cases m with
      | zero => simp [D.okd] at h2
      | succ m =>
        rw [D.py, D.py] at h
        rw [pys_inj n m xs ys (by simpa [D.okd] using h1) (by simpa [D.okd] using h2) (PyData.list.inj h)]
    | _ => first | (simp [D.py] at h; done) | (cases m <;> simp [D.okd] at h2)
  | n, m, .set _, e, h1, h2, _ => by cases n <;> simp [D.okd] at h1
  | n, m, .dct _, e, h1, h2, _ => by cases n <;> simp [D.okd] at h1
  | n, m, .ins _ _, e, h1, h2, _ => by cases n <;> simp [D.okd] at h1
  | n, m, .fn _, e, h1, h2, _ => by cases n <;> simp [D.okd] at h1
  | n, m, .ty _, e, h1, h2, _ => by cases n <;> simp [D.okd] at h1
  | n, m, .scr _, e, h1, h2, _ => by cases n <;> simp [D.okd] at h1
theorem pys_inj : ∀ (n m : Nat) (d e : List D), (∀ x ∈ d, D.okd n x = true) → (∀ x ∈ e, D.okd m x = true) → D.pys d = D.pys e → d = e
  | n, m, [], [], _, _, _ => rfl
  | n, m, [], _ :: _, _, _, h => by simp [D.pys] at h
  | n, m, _ :: _, [], _, _, h => by simp [D.pys] at h
  | n, m, x :: xs, y :: ys, h1, h2, h => by
    rw [D.pys, D.pys, List.cons.injEq] at h
    rw [py_inj n m x y (h1 x List.mem_cons_self) (h2 y List.mem_cons_self) h.1, pys_inj n m xs ys (fun z hz => h1 z (List.mem_cons_of_mem _ hz)) (fun z hz => h2 z (List.mem_cons_of_mem _ hz)) h.2]
end
/-- what may be ordered -/
def ordOk (ds : List D) : Bool := ds.all (fun x => D.okd dd x && (match x with | .non => false | _ => true)) && ds.all fun x => ds.all fun y => D.alk x y
theorem ordOk_ok {ds : List D} (h : ordOk ds = true) : (∀ x ∈ ds, D.okd dd x = true ∧ x ≠ .non) ∧ ∀ x ∈ ds, ∀ y ∈ ds, D.alk x y = true := by
  unfold ordOk at h
  rw [Bool.and_eq_true] at h
  refine ⟨fun x hx => ?_, fun x hx y hy => List.all_eq_true.mp (List.all_eq_true.mp h.2 x hx) y hy⟩
  have := List.all_eq_true.mp h.1 x hx
  rw [Bool.and_eq_true] at this
  refine ⟨this.1, fun z => ?_⟩
  rw [z] at this
  cases this.2
theorem pys_mem {ds : List D} {x : PyData} (h : x ∈ D.pys ds) : ∃ d ∈ ds, x = d.py := by
  induction ds with
  | nil => cases h
  | cons d ds ih =>
    rw [D.pys] at h
    rcases List.mem_cons.mp h with e | h
    · exact ⟨d, List.mem_cons_self, e⟩
    · obtain ⟨z, h1, h2⟩ := ih h
      exact ⟨z, List.mem_cons_of_mem _ h1, h2⟩
theorem pys_eq_map (ds : List D) : D.pys ds = ds.map D.py := by
  induction ds with
  | nil => rfl
  | cons d ds ih => rw [D.pys, ih, List.map_cons]
theorem py_none {n : Nat} {d : D} (h : D.okd n d = true) (e : d.py = .none) : d = .non := by
  cases d <;> first | rfl | (simp [D.py] at e; done) | (cases n <;> simp [D.okd] at h)
theorem alikeAll_of {ds : List D} (h : ordOk ds = true) : PySem.W.AlikeAll (D.pys ds) := by
  obtain ⟨h1, h2⟩ := ordOk_ok h
  refine ⟨fun x hx y hy => ?_, fun x hx => ?_⟩
  · obtain ⟨d, d1, rfl⟩ := pys_mem hx
    obtain ⟨e, e1, rfl⟩ := pys_mem hy
    exact alk_py d e (h2 d d1 e e1)
  · obtain ⟨d, d1, rfl⟩ := pys_mem hx
    exact fun z => (h1 d d1).2 (py_none (h1 d d1).1 z)
theorem room_pys (hu : X.A.units + 65 < cLine) {ds : List D} (h : ordOk ds = true) : X.A.units + 1 + PyData.depthAll (D.pys ds) < cLine := by
  have := deps_py dd ds fun x hx => ((ordOk_ok h).1 x hx).1
  unfold dd at this
  omega
theorem dps_reads {pins : List (Addr × Obj)} {σ : St} {H : Hp} {s : Shared} (I : Inv X pins σ H s) : ∀ {ds : List PyData} {vs : List V} {us : List Value}, DpAll X.K H vs ds → Vals vs us → ∃ as, ReadsAll s.heap us ds as
  | _, _, _, .nil, .nil => ⟨_, .nil⟩
  | _, _, _, .cons d t, .cons r rs => by
    obtain ⟨as, h1⟩ := Dp.reads I _ _ _ d r
    obtain ⟨bs, h2⟩ := dps_reads I t rs
    exact ⟨_, .cons h1 h2⟩
def cMin : List D → Option Hd
  | [.int i, .int j] => some (.fro (.int (if j < i then j else i)))
  | [.lst (x :: xs)] => if ordOk (x :: xs) = true then some (.fro (D.minL x xs)) else none
  | [.tup (x :: xs)] => if ordOk (x :: xs) = true then some (.fro (D.minL x xs)) else none
  | _ => none
def cMax : List D → Option Hd
  | [.int i, .int j] => some (.fro (.int (if j > i then j else i)))
  | [.lst (x :: xs)] => if ordOk (x :: xs) = true then some (.fro (D.maxL x xs)) else none
  | [.tup (x :: xs)] => if ordOk (x :: xs) = true then some (.fro (D.maxL x xs)) else none
  | _ => none
/-- an item that reads as one of the data is that one -/
theorem item_is {pins : List (Addr × Obj)} {σ : St} {H : Hp} {s : Shared} (I : Inv X pins σ H s) {A : Addr → Prop} {ds : List D} {vs : List V} {us : List Value} {i : Nat} {u : Value} {e : D} {h' : Heap} {bs : List Addr} (hok : ordOk ds = true)
    (l : RvL (gc X) A H vs ds) (r : Vals vs us) (hi : us[i]? = some u) (he : e ∈ ds) (hk : ∀ b o, s.heap.get? b = some o → h'.get? b = some o) (rd : Reads h' u e.py bs) : ∃ v, RelV v u ∧ Rv (gc X) A H v e := by
  obtain ⟨h1, h2⟩ := ordOk_ok hok
  have hl : i < vs.length := by
    rw [r.length]
    exact (List.getElem?_eq_some_iff.mp hi).1
  obtain ⟨u', hu', ru⟩ := r.get (List.getElem?_eq_getElem hl)
  rw [hi] at hu'
  cases hu'
  have hd : i < ds.length := by rw [← RvL.length l]; exact hl
  obtain ⟨v, hv, rv⟩ := RvL.get l (List.getElem?_eq_getElem hd)
  rw [List.getElem?_eq_getElem hl] at hv
  cases hv
  have hm : ds[i] ∈ ds := List.getElem_mem hd
  obtain ⟨as, r1⟩ := Dp.reads I _ _ u (rv_dp dd _ _ (h1 _ hm).1 rv) ru
  have r2 := PyProof.Rows.Reads.keeps hk r1
  have ep := (PySem.Reads.unique rd _ _ r2).1
  have ee := py_inj dd dd e _ (h1 e he).1 (h1 _ hm).1 ep
  exact ⟨_, ru, by rw [ee]; exact rv⟩
theorem cl_min (hc : X.calm = true) (hu : X.A.units + 65 < cLine) : ClR X (.builtin "min") cMin := by
  intro pins s σ H xs us Q I r ⟨A, ds, h, hA, hz, ho, q⟩
  unfold cMin at ho
  split at ho
  · cases ho
    obtain ⟨v, w, e1, h1, h2⟩ := hz.two
    have := h1.int
    have := h2.int
    subst e1
    subst v w
    exact call_min2 hc pins s σ H _ us Q I r ⟨_, _, rfl, q _ H (Same.refl _) rfl⟩
  · split at ho
    · rename_i x xs z
      cases ho
      obtain ⟨v, e1, h1⟩ := hz.one
      subst e1
      obtain ⟨p, vs, e2, r2, l⟩ := h1.lst
      subst e2
      obtain ⟨its, rv, pl, _⟩ := I.list (X := X) (.inl (.inl r2))
      obtain ⟨as, hr⟩ := dps_reads I (rv_dps dd (x :: xs) vs (fun y hy => ((ordOk_ok z).1 y hy).1) l) rv
      rw [Vals.ref1 r]
      rw [D.pys] at hr
      have ha := alikeAll_of z
      have hb := room_pys hu z
      rw [D.pys] at ha hb
      refine PySem.W.min_list_data (I.ok.hd hc) pl.isList hr ha hb fun i u h' tk bs hi hrd hk => ?_
      rw [← minL_py] at hrd
      obtain ⟨v, ru, rv2⟩ := item_is I z l rv (by simpa using hi) (minL_mem xs x) hk hrd
      exact ⟨v, H, I.kept hk, ru, q _ H (Same.refl _) rv2⟩
    · cases ho
  · split at ho
    · rename_i x xs z
      cases ho
      obtain ⟨v, e1, h1⟩ := hz.one
      subst e1
      obtain ⟨p, vs, e2, _, r2, l⟩ := h1.tup
      subst e2
      obtain ⟨its, rv, pl, _⟩ := I.tuple (X := X) (.inl (.inl r2))
      obtain ⟨as, hr⟩ := dps_reads I (rv_dps dd (x :: xs) vs (fun y hy => ((ordOk_ok z).1 y hy).1) l) rv
      rw [Vals.ref1 r]
      rw [D.pys] at hr
      have ha := alikeAll_of z
      have hb := room_pys hu z
      rw [D.pys] at ha hb
      refine PySem.W.min_tuple_data (I.ok.hd hc) pl hr ha hb fun i u h' tk bs hi hrd hk => ?_
      rw [← minL_py] at hrd
      obtain ⟨v, ru, rv2⟩ := item_is I z l rv (by simpa using hi) (minL_mem xs x) hk hrd
      exact ⟨v, H, I.kept hk, ru, q _ H (Same.refl _) rv2⟩
    · cases ho
  · cases ho
theorem cl_max (hc : X.calm = true) (hu : X.A.units + 65 < cLine) : ClR X (.builtin "max") cMax := by
  intro pins s σ H xs us Q I r ⟨A, ds, h, hA, hz, ho, q⟩
  unfold cMax at ho
  split at ho
  · cases ho
    obtain ⟨v, w, e1, h1, h2⟩ := hz.two
    have := h1.int
    have := h2.int
    subst e1
    subst v w
    exact call_max2 hc pins s σ H _ us Q I r ⟨_, _, rfl, q _ H (Same.refl _) rfl⟩
  · split at ho
    · rename_i x xs z
      cases ho
      obtain ⟨v, e1, h1⟩ := hz.one
      subst e1
      obtain ⟨p, vs, e2, r2, l⟩ := h1.lst
      subst e2
      obtain ⟨its, rv, pl, _⟩ := I.list (X := X) (.inl (.inl r2))
      obtain ⟨as, hr⟩ := dps_reads I (rv_dps dd (x :: xs) vs (fun y hy => ((ordOk_ok z).1 y hy).1) l) rv
      rw [Vals.ref1 r]
      rw [D.pys] at hr
      have ha := alikeAll_of z
      have hb := room_pys hu z
      rw [D.pys] at ha hb
      refine PySem.W.max_list_data (I.ok.hd hc) pl.isList hr ha hb fun i u h' tk bs hi hrd hk => ?_
      rw [← maxL_py] at hrd
      obtain ⟨v, ru, rv2⟩ := item_is I z l rv (by simpa using hi) (maxL_mem xs x) hk hrd
      exact ⟨v, H, I.kept hk, ru, q _ H (Same.refl _) rv2⟩
    · cases ho
  · split at ho
    · rename_i x xs z
      cases ho
      obtain ⟨v, e1, h1⟩ := hz.one
      subst e1
      obtain ⟨p, vs, e2, _, r2, l⟩ := h1.tup
      subst e2
      obtain ⟨its, rv, pl, _⟩ := I.tuple (X := X) (.inl (.inl r2))
      obtain ⟨as, hr⟩ := dps_reads I (rv_dps dd (x :: xs) vs (fun y hy => ((ordOk_ok z).1 y hy).1) l) rv
      rw [Vals.ref1 r]
      rw [D.pys] at hr
      have ha := alikeAll_of z
      have hb := room_pys hu z
      rw [D.pys] at ha hb
      refine PySem.W.max_tuple_data (I.ok.hd hc) pl hr ha hb fun i u h' tk bs hi hrd hk => ?_
      rw [← maxL_py] at hrd
      obtain ⟨v, ru, rv2⟩ := item_is I z l rv (by simpa using hi) (maxL_mem xs x) hk hrd
      exact ⟨v, H, I.kept hk, ru, q _ H (Same.refl _) rv2⟩
    · cases ho
  · cases ho
/-! ### sorted -/
def D.sort (ds : List D) : List D := ds.mergeSort (PySem.W.dataLe false D.py)
def sortKey : D → Bool
  | .tup [] => false
  | .tup _ => true
  | _ => true
def sortOk (ds : List D) : Bool := ordOk ds && (ds.all (fun x => match x with | .tup (_ :: _) => true | _ => false) || ds.all fun x => match x with | .tup _ => false | .non => false | _ => true)
theorem sortable_of {ds : List D} (h : sortOk ds = true) : PySem.W.Sortable (ds.map D.py) := by
  unfold sortOk at h
  rw [Bool.and_eq_true, Bool.or_eq_true] at h
  rcases h.2 with h2 | h2
  · refine .inl fun d hd => ?_
    obtain ⟨x, hx, rfl⟩ := List.mem_map.mp hd
    have := List.all_eq_true.mp h2 x hx
    split at this
    · exact ⟨_, _, by rw [D.py, D.pys]⟩
    · cases this
  · refine .inr fun d hd => ?_
    obtain ⟨x, hx, rfl⟩ := List.mem_map.mp hd
    have := List.all_eq_true.mp h2 x hx
    have hk := ((ordOk_ok h.1).1 x hx).1
    refine ⟨fun e => ?_, fun xs e => ?_⟩
    · rw [py_none hk e] at this
      cases this
    · cases x <;> first | (simp [D.py] at e; done) | (cases this; done)
theorem each_vals {G : Gc} {A : Addr → Prop} {H : Hp} : ∀ {ds : List D} {vs : List V} {us : List Value}, RvL G A H vs ds → Vals vs us → PySem.W.EachIs (fun u d => ∃ v, RelV v u ∧ Rv G A H v d) us ds
  | [], vs, us, h, r => by
    have e : vs = [] := h
    subst e
    cases r
    exact .nil
  | d :: ds, vs, us, ⟨v, t, e, h, l⟩, r => by
    subst e
    cases r with
    | cons r rs => exact .cons ⟨v, r, h⟩ (each_vals l rs)
theorem vals_each {G : Gc} {A : Addr → Prop} {H : Hp} : ∀ {us : List Value} {ds : List D}, PySem.W.EachIs (fun u d => ∃ v, RelV v u ∧ Rv G A H v d) us ds → ∃ vs, RvL G A H vs ds ∧ Vals vs us
  | _, _, .nil => ⟨[], rfl, .nil⟩
  | _, _, .cons ⟨v, r, h⟩ t => by
    obtain ⟨vs, l, rs⟩ := vals_each t
    exact ⟨v :: vs, ⟨v, vs, rfl, h, l⟩, .cons r rs⟩
def cSorted : List D → Option Hd
  | [.lst xs] => if sortOk xs = true then some (.tmp (.lst (D.sort xs))) else none
  | _ => none
theorem sorted_at (hu : X.A.units + 65 < cLine) {pins : List (Addr × Obj)} {σ : St} {H : Hp} {s : Shared} {Q : VK} (I : Inv X pins σ H s) {A : Addr → Prop} {xs : List D} {vs : List V} {p : Addr} (z : sortOk xs = true) (r2 : H p = some (.lst vs)) (l : RvL (gc X) A H vs xs)
    (q : ∀ v H', Same H H' → New (gc X) A H H' v (.tmp (.lst (D.sort xs))) → Q v H') : wpAny (model X.prog X.w) X.A (call (.builtin "sorted") [.ref p]) (EP X pins σ Q) X.xe s := by
  have z0 : ordOk xs = true := by
    unfold sortOk at z
    rw [Bool.and_eq_true] at z
    exact z.1
  obtain ⟨its, rv, pl, hz⟩ := I.list (X := X) (.inl (.inl r2))
  have e := each_vals l rv
  have hok := (ordOk_ok z0).1
  have er : PySem.W.EachIs (fun v b => ∃ as, Reads s.heap v (D.py b) as) its xs := (PySem.W.each_mem e).mono fun u d ⟨⟨v, r, h⟩, hd⟩ => Dp.reads I _ v u (rv_dp dd d v (hok d hd).1 h) r
  have hal : PySem.W.AllAlike (xs.map D.py) := by
    rw [← pys_eq_map]
    exact (alikeAll_of z0).1
  refine PySem.W.sorted_data pl.isList e er hal (sortable_of z) (by rw [← RvL.length l]; exact hz) (fun b hb => ?_) fun out hl eo => ?_
  · have := dep_py dd b (hok b hb).1
    unfold dd at this
    omega
  · obtain ⟨ys, l2, r3⟩ := vals_each eo
    obtain ⟨ep, he'⟩ := PyProof.Rows.sortedAll_at s.heap its out.toArray
    have hn : H (s.heap.objs.size + 1) = none := I.hok.fresh (Nat.le_succ _)
    refine ⟨.ref _, upd H (s.heap.objs.size + 1) (.lst ys), I.laid (t' := s.toks) (fun _ _ => PyProof.Rows.sortedAll_old) (Nat.le_succ _) ⟨?_, out, ep, r3, he'⟩, rfl, q _ _ (same_new hn) (new_lst hn l2)⟩
    rw [r3.length, hl, ← RvL.length l]
    exact hz
theorem cl_sorted (hu : X.A.units + 65 < cLine) : ClR X (.builtin "sorted") cSorted := by
  intro pins s σ H xs us Q I r ⟨A, ds, h, hA, hz, ho, q⟩
  unfold cSorted at ho
  split at ho
  · split at ho
    · rename_i xs z
      cases ho
      obtain ⟨v, e1, h1⟩ := hz.one
      subst e1
      obtain ⟨p, vs, e2, r2, l⟩ := h1.lst
      subst e2
      rw [Vals.ref1 r]
      exact sorted_at hu I z r2 l q
    · cases ho
  · cases ho
/-! ### repr -/
def reprOk (d : D) : Bool := D.okd dd d && PyData.showable d.py && decide (d.py.shown.length ≤ 16777216)
def cRepr : List D → Option Hd
  | [.int i] => if decide (i.natAbs.log2 < 1920) = true then some (.fro (.str (toString i))) else none
  | [.str x] => if sz (reprText x).length = true then some (.fro (.str (reprText x))) else none
  | [.bl b] => some (.fro (.str (if b then "True" else "False")))
  | [.non] => some (.fro (.str "None"))
  | [.tup xs] => if reprOk (.tup xs) = true then some (.fro (.str (D.py (.tup xs)).shown)) else none
  | [.lst xs] => if reprOk (.lst xs) = true then some (.fro (.str (D.py (.lst xs)).shown)) else none
  | _ => none
mutual
theorem noDict_py : ∀ d : D, PyData.hasDict d.py = false
  | .non => rfl
  | .bl _ => rfl
  | .int _ => rfl
  | .str _ => rfl
  | .tup xs => by
    rw [D.py]
    exact noDict_pys xs
  | .lst xs => by
    rw [D.py]
    exact noDict_pys xs
  | .set _ => rfl
  | .dct _ => rfl
  | .ins _ _ => rfl
  | .fn _ => rfl
  | .ty _ => rfl
  | .scr _ => rfl
theorem noDict_pys : ∀ d : List D, PyData.hasDictAll (D.pys d) = false
  | [] => rfl
  | x :: xs => by
    rw [D.pys, PyData.hasDictAll, noDict_py x, noDict_pys xs]
    rfl
end
theorem cl_repr (hg : X.A.guards = some []) (hu : X.A.units + 65 < cLine) : ClR X (.builtin "repr") cRepr := by
  intro pins s σ H xs us Q I r ⟨A, ds, h, hA, hz, ho, q⟩
  have go : ∀ (d : D) (v : V) (u : Value) (a : Addr), RelV v u → v = .ref a → Rz (gc X) A H v d → reprOk d = true → (∀ v H', Same H H' → New (gc X) A H H' v (.fro (.str d.py.shown)) → Q v H') → wpAny (model X.prog X.w) X.A (call (.builtin "repr") [u]) (EP X pins σ Q) X.xe s := fun d v u a ru e hd z q => by
    subst e
    obtain rfl : u = Value.ref a := ru
    unfold reprOk at z
    rw [Bool.and_eq_true, Bool.and_eq_true, decide_eq_true_eq] at z
    obtain ⟨⟨z1, z2⟩, z3⟩ := z
    obtain ⟨as, r1⟩ := Dp.reads I _ _ (Value.ref a) (rz_dp z1 hd) rfl
    have hdep := dep_py dd d z1
    unfold dd at hdep
    exact repr_of_reads' r1 z2 (fun e => by rw [noDict_py] at e; cases e) hg (by omega) (fun _ _ e => e) (fun h' k tk hk => ⟨.str _, H, I.kept hk, ⟨_, rfl⟩, q _ H (Same.refl _) rfl⟩) (by rw [sizeLine_eq]; exact z3)
  unfold cRepr at ho
  split at ho
  · split at ho
    · rename_i z
      cases ho
      obtain ⟨v, e1, h1⟩ := hz.one
      subst e1
      have := h1.int
      subst this
      exact SkE.call_repr_int pins s σ H _ us Q I r ⟨_, rfl, of_decide_eq_true z, q _ H (Same.refl _) rfl⟩
    · cases ho
  · split at ho
    · rename_i z
      cases ho
      obtain ⟨v, e1, h1⟩ := hz.one
      subst e1
      have := h1.str
      subst this
      obtain ⟨u, rfl, t, rfl⟩ := vals1 r
      exact P.repr_of_str ⟨.str _, H, I.tok _, ⟨_, rfl⟩, q _ H (Same.refl _) rfl⟩ (sz_ok z)
    · cases ho
  · cases ho
    obtain ⟨v, e1, h1⟩ := hz.one
    subst e1
    have := h1.bl
    subst this
    obtain ⟨u, rfl, ru⟩ := vals1 r
    cases ru
    exact P.repr_of_bool ⟨.str _, H, I.tok _, ⟨_, rfl⟩, q _ H (Same.refl _) rfl⟩
  · cases ho
    obtain ⟨v, e1, h1⟩ := hz.one
    subst e1
    have := h1.non
    subst this
    obtain ⟨u, rfl, ru⟩ := vals1 r
    cases ru
    exact P.repr_of_none ⟨.str _, H, I.tok _, ⟨_, rfl⟩, q _ H (Same.refl _) rfl⟩
  · split at ho
    · rename_i xs z
      cases ho
      obtain ⟨v, e1, h1⟩ := hz.one
      subst e1
      obtain ⟨u, rfl, ru⟩ := vals1 r
      obtain ⟨p, vs, e2, _⟩ := h1.tup
      exact go _ v u p ru e2 h1 z q
    · cases ho
  · split at ho
    · rename_i xs z
      cases ho
      obtain ⟨v, e1, h1⟩ := hz.one
      subst e1
      obtain ⟨u, rfl, ru⟩ := vals1 r
      obtain ⟨p, vs, e2, _⟩ := h1.lst
      exact go _ v u p ru e2 h1 z q
    · cases ho
  · cases ho
end
end F
set_option Elab.async false
set_option linter.all false
set_option maxRecDepth 100000
set_option maxHeartbeats 4000000
/-! FO: names stored side by side (own work) -/
namespace F
open PySem L2

section
variable {G : Gc} {W W' W1 W2 Wt : Addr → Prop} {σ σ' σ1 σ2 : St} {H H' H1 H2 H0 : Hp} {τ τ' τ1 τ2 : T} {v : V} {h : Hd} {d d' : D}
/-- a name is stored; what is guarded behind it: Wt -/
theorem ev_setW {i : Nat} {x : Sl} (s0 : StR G W σ H τ) (e : Ev G W σ H τ W' σ1 H' τ1) (r : HdR G H W' σ1 H' τ1 v h) (hx : slOf h = some x) (w1 : ∀ c, W c → Wt c) (w2 : ∀ c, Wt c → W' c) (na : ∀ a d, h = .tmp d → v = .ref a → ¬ Wt a) :
    Ev G W σ H τ Wt (σ1.set i (some v)) H' (τ1.set i (some x)) ∧ Keeps (Av W' σ1 τ1) (Av Wt (σ1.set i (some v)) (τ1.set i (some x))) H' H' ∧ ∀ c, Ow (σ1.set i (some v)) (τ1.set i (some x)) c → Ow σ1 τ1 c ∨ (∃ d, h = .tmp d ∧ v = .ref c) := by
  have hlen := e.st.len
  have own' : ∀ (k : Nat) (b : Bool) (y : D) (u : Option V), (τ1.set i (some x))[k]? = some (some (.own b y)) → (σ1.set i (some v))[k]? = some u →
      (k ≠ i ∧ τ1[k]? = some (some (.own b y)) ∧ σ1[k]? = some u) ∨ (k = i ∧ h = .tmp y ∧ b = false ∧ u = some v) := fun k b y u q1 q2 => by
    by_cases ik : i = k
    · subst ik
      have hl : i < τ1.length := by
        have z := (List.getElem?_eq_some_iff.mp q1).1
        rw [List.length_set] at z
        exact z
      rw [List.getElem?_set_self hl] at q1
      rw [List.getElem?_set_self (by rw [← hlen]; exact hl)] at q2
      cases q2
      cases h with
      | fro d =>
        cases hx
        cases q1
      | slot j => cases hx
      | tmp d =>
        cases hx
        cases q1
        exact .inr ⟨rfl, rfl, rfl, rfl⟩
    · rw [List.getElem?_set_ne ik] at q1 q2
      exact .inl ⟨fun z => ik z.symm, q1, q2⟩
  have ow : ∀ c, Ow (σ1.set i (some v)) (τ1.set i (some x)) c → Ow σ1 τ1 c ∨ (W' c ∧ H c = none ∧ v = .ref c ∧ ∃ d, h = .tmp d) := fun c ⟨k, b, y, q1, q2⟩ => by
    rcases own' k b y _ q1 q2 with ⟨_, p1, p2⟩ | ⟨_, p1, p2, p3⟩
    · exact .inl ⟨k, b, y, p1, p2⟩
    · subst p1
      obtain ⟨a, z1, z2, z3, _⟩ := r
      cases p3
      cases z1
      exact .inr ⟨z3, z2, rfl, _, rfl⟩
  have ka : Keeps (Av W' σ1 τ1) (Av Wt (σ1.set i (some v)) (τ1.set i (some x))) H' H' := Keeps.less fun c q => by
    rcases q with q | q
    · exact .inl (w2 c q)
    · rcases ow c q with q | q
      · exact .inr q
      · exact .inl q.1
  refine ⟨⟨e.frm, e.trk, fun c ⟨k, y, q1, q2⟩ => ?_, fun k y q => ?_, w1, fun c q => e.wnew c (w2 c q), ⟨fun c q => e.st.trk c (w2 c q), fun k y q => ?_, fun k b y q => ?_, fun k l b c y z a q1 q2 p1 p2 => ?_, by rw [List.length_set, List.length_set]; exact hlen, fun c ⟨k, y, q1, q2⟩ z => ?_⟩, by rw [List.length_set]; exact e.len⟩, ka, fun c q => ?_⟩
  · rcases own' k false y _ q1 q2 with ⟨_, p1, p2⟩ | ⟨_, p1, _, p3⟩
    · exact e.subf c ⟨k, y, p1, p2⟩
    · subst p1
      obtain ⟨a, z1, z2, _⟩ := r
      cases p3
      cases z1
      exact .inr z2
  · by_cases ik : i = k
    · subst ik
      have hl : i < τ1.length := by
        have z := (List.getElem?_eq_some_iff.mp q).1
        rw [List.length_set] at z
        exact z
      rw [List.getElem?_set_self hl] at q
      cases q
      cases h with
      | fro d => cases hx
      | slot j => cases hx
      | tmp d => cases hx
    · rw [List.getElem?_set_ne ik] at q ⊢
      exact e.lent k y q
  · by_cases ik : i = k
    · subst ik
      have hl : i < τ1.length := by
        have z := (List.getElem?_eq_some_iff.mp q).1
        rw [List.length_set] at z
        exact z
      rw [List.getElem?_set_self hl] at q
      rw [List.getElem?_set_self (by rw [← hlen]; exact hl)]
      cases q
      cases h with
      | fro d =>
        cases hx
        exact ⟨v, rfl, Rv.keep ka _ _ r⟩
      | slot j => cases hx
      | tmp d => cases hx
    · rw [List.getElem?_set_ne ik] at q ⊢
      obtain ⟨u, h1, h2⟩ := e.st.fro k y q
      exact ⟨u, h1, Rv.keep ka y u h2⟩
  · have hk : k < (σ1.set i (some v)).length := by
      rw [List.length_set, ← hlen]
      have z := (List.getElem?_eq_some_iff.mp q).1
      rw [List.length_set] at z
      exact z
    rcases own' k b y _ q (List.getElem?_eq_getElem hk) with ⟨ne, p1, p2⟩ | ⟨p0, p1, _, p3⟩
    · obtain ⟨u, h1, h2, h3⟩ := e.st.own k b y p1
      rw [List.getElem?_set_ne (Ne.symm ne)]
      exact ⟨u, h1, h2, Rc.keep ka (fun _ z => z) h3⟩
    · subst p1 p0
      obtain ⟨a, z1, z2, z3, z4, z5, z6⟩ := r
      subst z1
      rw [List.getElem?_eq_getElem hk, p3]
      exact ⟨a, rfl, z5, Rc.keep ka (fun _ z => z) z6⟩
  · rcases own' k b y _ q1 p1 with ⟨ne, k1, k2⟩ | ⟨k0, k1, _, k3⟩
    · rcases own' l c z _ q2 p2 with ⟨ne', l1, l2⟩ | ⟨l0, l1, _, l3⟩
      · exact e.st.apart k l b c y z a k1 l1 k2 l2
      · subst l1
        obtain ⟨a', z1, z2, z3, z4, _⟩ := r
        cases l3
        cases z1
        exact absurd ⟨k, b, y, k1, k2⟩ z4
    · rcases own' l c z _ q2 p2 with ⟨ne', l1, l2⟩ | ⟨l0, l1, _, l3⟩
      · subst k1
        obtain ⟨a', z1, z2, z3, z4, _⟩ := r
        cases k3
        cases z1
        exact absurd ⟨l, c, z, l1, l2⟩ z4
      · rw [k0, l0]
  · rcases own' k false y _ q1 q2 with ⟨_, p1, p2⟩ | ⟨_, p1, _, p3⟩
    · exact e.st.nw c ⟨k, y, p1, p2⟩ (w2 c z)
    · cases p3
      exact na c y p1 rfl z
  · rcases ow c q with q | q
    · exact .inl q
    · exact .inr ⟨q.2.2.2.choose, q.2.2.2.choose_spec, q.2.2.1⟩
/-- one made thing at most, no second name -/
def parOk : List Hd → Bool
  | [] => true
  | .fro _ :: r => parOk r
  | .tmp _ :: r => (allFro r).isSome
  | .slot _ :: _ => false
def putAll : List Nat → List Hd → T → Option T
  | [], [], τ => some τ
  | i :: is, h :: hs, τ => match slOf h with
    | some x => putAll is hs (τ.set i (some x))
    | none => none
  | _, _, _ => none
def putV : List Nat → List V → St → St
  | i :: is, v :: vs, σ => putV is vs (σ.set i (some v))
  | _, _, σ => σ
theorem allFro_par : ∀ {hs : List Hd}, (allFro hs).isSome = true → parOk hs = true
  | [], _ => rfl
  | .fro d :: hs, h => by
    have h' : ((allFro hs).map (d :: ·)).isSome = true := h
    rw [Option.isSome_map] at h'
    exact allFro_par (hs := hs) h'
  | .tmp _ :: _, h => by cases h
  | .slot _ :: _, h => by cases h
theorem putAll_ok (s0 : StR G W σ H τ) : ∀ (is : List Nat) (hs : List Hd) (vs : List V) (W1 : Addr → Prop) (σ1 : St) (τ1 τ2 : T), Ev G W σ H τ W1 σ1 H' τ1 → HdL G H W1 σ1 H' τ1 vs hs → parOk hs = true → putAll is hs τ1 = some τ2 →
    Ev G W σ H τ W (putV is vs σ1) H' τ2
  | [], [], vs, W1, σ1, τ1, τ2, e, r, p, q => by
    cases q
    have : vs = [] := r
    subst this
    exact e.base
  | i :: is, .fro d :: hs, vs, W1, σ1, τ1, τ2, e, ⟨v, vr, ev, r1, rr⟩, p, q => by
    subst ev
    obtain ⟨e2, k2, o2⟩ := ev_setW (i := i) (x := .fro d) (Wt := W1) s0 e r1 rfl e.wsub (fun _ z => z) fun a d z => nomatch z
    refine putAll_ok s0 is hs vr W1 _ _ τ2 e2 ?_ p q
    have move : ∀ {hs : List Hd} {vs : List V}, parOk hs = true → HdL G H W1 σ1 H' τ1 vs hs → HdL G H W1 (σ1.set i (some v)) H' (τ1.set i (some (.fro d))) vs hs := by
      intro hs
      induction hs with
      | nil => exact fun _ z => z
      | cons h hs ih =>
        rintro vs p ⟨u, ur, eu, ru, rt⟩
        cases h with
        | fro d' => exact ⟨u, ur, eu, Rv.keep k2 d' u ru, ih p rt⟩
        | slot j => cases p
        | tmp d' =>
          obtain ⟨a, q1, q2, q3, q4, q5, q6⟩ := ru
          refine ⟨u, ur, eu, ⟨a, q1, q2, q3, fun z => ?_, q5, Rc.keep k2 (fun _ z => z) q6⟩, ih (allFro_par p) rt⟩
          rcases o2 a z with z | ⟨d2, z, _⟩
          · exact q4 z
          · cases z
    exact move p rr
  | i :: is, .tmp d :: hs, vs, W1, σ1, τ1, τ2, e, ⟨v, vr, ev, r1, rr⟩, p, q => by
    subst ev
    obtain ⟨a, q1, q2, q3, q4, q5, q6⟩ := r1
    subst q1
    obtain ⟨e2, k2, o2⟩ := ev_setW (i := i) (x := .own false d) (Wt := fun c => W1 c ∧ c ≠ a) s0 e (h := .tmp d) ⟨a, rfl, q2, q3, q4, q5, q6⟩ rfl (fun c z => ⟨e.wsub c z, fun y => s0.trk c z (by rw [y]; exact q2)⟩) (fun _ z => z.1) fun a' d z y => by
      cases y
      exact fun z => z.2 rfl
    refine putAll_ok s0 is hs vr _ _ _ τ2 e2 ?_ (allFro_par p) q
    have move : ∀ {hs : List Hd} {vs : List V}, (allFro hs).isSome = true → HdL G H W1 σ1 H' τ1 vs hs → HdL G H (fun c => W1 c ∧ c ≠ a) (σ1.set i (some (.ref a))) H' (τ1.set i (some (.own false d))) vs hs := by
      intro hs
      induction hs with
      | nil => exact fun _ z => z
      | cons h hs ih =>
        rintro vs p ⟨u, ur, eu, ru, rt⟩
        cases h with
        | fro d' =>
          have p' : ((allFro hs).map (d' :: ·)).isSome = true := p
          rw [Option.isSome_map] at p'
          exact ⟨u, ur, eu, Rv.keep k2 d' u ru, ih p' rt⟩
        | slot j => cases p
        | tmp d' => cases p
    exact move p rr
  | [], _ :: _, _, _, _, _, _, _, _, _, q => by cases q
  | _ :: _, [], _, _, _, _, _, _, _, _, q => by cases q
  | _ :: _, .slot _ :: _, _, _, _, _, _, _, _, p, _ => by cases p
end
section
variable {X : Cx} {E : XW} {e a b c : Expr} {fs : FA} {pos : Pos}
def sPar (is : List Nat) (fs : FA) : FS := fun τ => (fs τ).bind fun p => (chk (parOk p.1)).bind fun _ => (ofO (putAll is p.1 p.2)).bind fun τ2 => .ok (.nx τ2)
theorem par_at {is : List Nat} {σ : St} {H : Hp} {D : Ends} (h : SSt (gc X) E (sPar is fs) D σ H) : EAt (gc X) E fs σ H fun vs H1 => vs.length = is.length ∧ D.nx (putV is vs σ) H1 := by
  obtain ⟨W, τ, s, m⟩ := h
  refine EAt.at (Ev.refl s) m.bind fun hs τ1 vs H1 W1 q ev r _ => ?_
  obtain ⟨p, q⟩ := q.chk
  obtain ⟨τ2, p2, q⟩ := q.opt
  refine ⟨?_, q _ H1 (putAll_ok s is hs vs W1 σ τ1 τ2 ev r p p2)⟩
  have : ∀ (is : List Nat) (hs : List Hd) (τ τ2 : T), putAll is hs τ = some τ2 → hs.length = is.length := by
    intro is
    induction is with
    | nil =>
      intro hs τ τ2 q
      cases hs with
      | nil => rfl
      | cons h hs => cases q
    | cons i is ih =>
      intro hs τ τ2 q
      cases hs with
      | nil => cases q
      | cons h hs =>
        unfold putAll at q
        split at q
        · rw [List.length_cons, List.length_cons, ih _ _ _ q]
        · cases q
  rw [(HdL.get r).1, this is hs τ1 τ2 p2]
theorem ss_par {i j : Nat} {x y : Str} {px py pt : Pos} {kt k2 pt2} (hc : X.calm = true) (hN : X.N.Nodup) (hij : i ≠ j) (ha : EA X E [a, b] fs)
    (hw : swappedStores [.Tuple [.Name x px, .Name y py] kt pt] (.Tuple [a, b] k2 pt2) X.env = pure (some [x, y])) (hi : X.N[i]? = some x := by rfl) (hj : X.N[j]? = some y := by rfl)
    (hx : X.env.scope.names.lookup x = some .local := by rfl) (hy : X.env.scope.names.lookup y = some .local := by rfl)
    (hs : swapsWithSole [.Tuple [.Name x px, .Name y py] kt pt] (.Tuple [a, b] k2 pt2) pos.line X.env = pure false := by rfl) :
    SS X E (.Assign [.Tuple [.Name x px, .Name y py] kt pt] (.Tuple [a, b] k2 pt2) pos) (sPar [i, j] fs) :=
  PS.imp (ps_par hc hN hi hj hij hx hy ha hw hs) fun D σ H h => by
    obtain ⟨W, τ, s, m⟩ := par_at h
    refine ⟨W, τ, s, m.imp fun p _ q vs H1 W1 e r => ?_⟩
    obtain ⟨hl, q⟩ := q vs H1 W1 e r
    match vs, hl, q with
    | [u, v], _, q => exact ⟨u, v, rfl, q⟩
theorem ss_par3 {i j l : Nat} {x y z : Str} {px py pz pt : Pos} {kt k2 pt2} (hc : X.calm = true) (hN : X.N.Nodup) (hij : i ≠ j) (hil : i ≠ l) (hjl : j ≠ l) (ha : EA X E [a, b, c] fs)
    (hw : swappedStores [.Tuple [.Name x px, .Name y py, .Name z pz] kt pt] (.Tuple [a, b, c] k2 pt2) X.env = pure (some [x, y, z])) (hi : X.N[i]? = some x := by rfl) (hj : X.N[j]? = some y := by rfl) (hl : X.N[l]? = some z := by rfl)
    (hx : X.env.scope.names.lookup x = some .local := by rfl) (hy : X.env.scope.names.lookup y = some .local := by rfl) (hz : X.env.scope.names.lookup z = some .local := by rfl)
    (hs : swapsWithSole [.Tuple [.Name x px, .Name y py, .Name z pz] kt pt] (.Tuple [a, b, c] k2 pt2) pos.line X.env = pure false := by rfl) :
    SS X E (.Assign [.Tuple [.Name x px, .Name y py, .Name z pz] kt pt] (.Tuple [a, b, c] k2 pt2) pos) (sPar [i, j, l] fs) :=
  PS.imp (ps_par3 hc hN hi hj hl hij hil hjl hx hy hz ha hw hs) fun D σ H h => by
    obtain ⟨W, τ, s, m⟩ := par_at h
    refine ⟨W, τ, s, m.imp fun p _ q vs H1 W1 e r => ?_⟩
    obtain ⟨hl, q⟩ := q vs H1 W1 e r
    match vs, hl, q with
    | [u, v, w], _, q => exact ⟨u, v, w, rfl, q⟩
end
end F
set_option Elab.async false
set_option linter.all false
set_option maxRecDepth 100000
set_option maxHeartbeats 4000000
/-! FP: methods, stores, instances (own work) -/
namespace F
open PySem L2

section
variable {X : Cx} {E : XW} {e o a b c : Expr} {es : List Expr} {f g fo : FE} {fs : FA} {pos apos cpos : Pos}
/-! ### built-in methods by values -/
def rMt (G : Gc) (op : D → List D → Option Hd) : V → List V → Hp → VK → Prop := fun x vs H Q => ∃ (A : Addr → Prop) (d : D) (ds : List D) (h : Hd), (∀ a, A a → H a ≠ none) ∧ Rz G A H x d ∧ RzL G A H vs ds ∧ op d ds = some h ∧ ∀ v H', Same H H' → New G A H H' v h → Q v H'
/-- the type that data has, for a method -/
def D.mt : D → Option String
  | .str _ => some "str" | .lst _ => some "list" | _ => none
theorem tyV_of {G : Gc} {A : Addr → Prop} {H : Hp} {v : V} {d : D} {t : String} (h : Rz G A H v d) (e : D.mt d = some t) : tyV G.K t v H := by
  cases d with
  | str x =>
    cases e
    rw [h.str]
    exact rfl
  | lst ds =>
    cases e
    obtain ⟨p, vs, e2, r, _⟩ := h.lst
    rw [e2]
    exact .inl ⟨rfl, vs, .inl (.inl r)⟩
  | _ => cases e
def sBM (t : String) (op : D → List D → Option Hd) (f : FE) (fs : FA) : FE := fun τ => (f τ).bind fun p => (ofO (peek p.2 p.1)).bind fun d0 => (chk (decide (D.mt d0 = some t))).bind fun _ => (fs p.2).bind fun q => (ofO (peek q.2 p.1)).bind fun d => (ofO (peeks q.2 q.1)).bind fun ds => (ofO (op d ds)).bind fun h => .ok (h, q.2)
theorem bm_at {t : String} {op : D → List D → Option Hd} {σ : St} {H : Hp} {Q : VK} (h : EEt (gc X) E (sBM t op f fs) σ H Q) : EEt (gc X) E f σ H fun x H1 => tyV X.K t x H1 ∧ EAt (gc X) E fs σ H1 fun xs H2 => rMt (gc X) op x xs H2 Q := by
  obtain ⟨W, τ, s, m⟩ := h
  refine EEt.at (Ev.refl s) m.bind fun h1 τ1 v1 H1 W1 q1 ev1 r1 _ => ?_
  obtain ⟨d0, p0, q1⟩ := q1.opt
  obtain ⟨z, q1⟩ := q1.chk
  refine ⟨tyV_of (G := gc X) (peek_ok r1 ev1.st p0) (of_decide_eq_true z), EAt.at ev1 q1.bind fun hs τ2 vs H2 W2 q2 ev2 r2 st2 => ?_⟩
  obtain ⟨d, p1, q2⟩ := q2.opt
  obtain ⟨ds, p2, q2⟩ := q2.opt
  obtain ⟨h, p3, q2⟩ := q2.opt
  refine ⟨Av W2 σ τ2, d, ds, h, fun a z => ev2.st.avT z, peek_ok (r1.step st2) ev2.st p1, peeks_ok ev2.st r2 p2, p3, fun v H3 sm n => ?_⟩
  obtain ⟨W3, ev3, r3⟩ := ev_new ev2.st sm n
  exact q2 v H3 W3 (ev2.trans ev3) (r3.start fun a z => ev2.trk a z)
theorem ee_bm {t id : String} {name : Str} {op : D → List D → Option Hd} (pa : PlainAttrs t) (slot : Slot t name id) (hty : typeOf (.builtin id) = pure (.type "method_descriptor")) (hm : MtR X id (rMt (gc X) op)) (ho : EE X E o f) (ha : EA X E (e :: es) fs)
    (hbase : attributeBase o name X.env (eval o X.env) = eval o X.env := by rfl)
    (hfew : ((backTo cpos (starEach (e :: es) X.env)).all (fun x => !x.1) && (backToKw cpos (keywordEach [] X.env)).all (fun x => x.1.isSome)
      && decide ((e :: es).length + ([] : List Keyword).length + (if ([] : List Keyword).isEmpty then 0 else 1) < 30)) = true := by rfl)
    (hline : (apos.endLine == cpos.line) = true := by rfl) (hs : starEach (e :: es) X.env = (false, eval e X.env) :: starEach es X.env := by rfl) (hplain : (backTo cpos (starEach es X.env)).any (·.1) = false := by rfl) :
    EE X E (.Call (.Attribute o name apos) (e :: es) [] cpos) (sBM t op f fs) :=
  PE.imp (pe_bm pa slot hty hm ho ha hbase hfew hline hs hplain) fun _ _ _ h => bm_at h
/-- texts joined -/
def txts : List D → Option (List Str)
  | [] => some []
  | .str b :: r => (txts r).map (b :: ·)
  | _ :: _ => none
theorem txts_map : ∀ {ds : List D} {bs : List Str}, txts ds = some bs → ds = bs.map D.str
  | [], _, h => by
    cases h
    rfl
  | d :: r, _, h => by
    cases d <;> first | (cases h; done) | skip
    rename_i b
    obtain ⟨t, h1, rfl⟩ := Option.map_eq_some_iff.mp (show (txts r).map (b :: ·) = some _ from h)
    rw [List.map_cons, txts_map h1]
theorem txts_of (bs : List Str) : txts (bs.map D.str) = some bs := by
  induction bs with
  | nil => rfl
  | cons b bs ih =>
    show (txts (bs.map D.str)).map (b :: ·) = _
    rw [ih]
    rfl
theorem RvL.txts_of {G : Gc} {A : Addr → Prop} {H : Hp} : ∀ {bs : List Str} {vs : List V}, RvL G A H vs (bs.map D.str) → vs = bs.map V.str
  | [], _, h => h
  | _ :: _, _, ⟨v, r, e, h1, h2⟩ => by
    have h1' : v = .str _ := h1
    rw [e, h1', RvL.txts_of h2]
    rfl
def joinOk (a : Str) (ys : List Str) : Bool := decide ((ys.map (·.length)).sum + ys.length * a.length ≤ 16777216)
def mJoin : D → List D → Option Hd
  | .str a, [.lst xs] => (txts xs).bind fun ys => if joinOk a ys = true then some (.fro (.str (Txt.join a ys))) else none
  | .str a, [.tup xs] => (txts xs).bind fun ys => if joinOk a ys = true then some (.fro (.str (Txt.join a ys))) else none
  | _, _ => none
theorem mt_mJoin : MtR X "str.join" (rMt (gc X) mJoin) := by
  intro pins s σ H x xs v us Q I rx rs ⟨A, d, ds, h, hA, hd, hz, ho, q⟩
  unfold mJoin at ho
  split at ho
  · obtain ⟨ys, h1, h2⟩ := Option.bind_eq_some_iff.mp ho
    split at h2
    · rename_i z
      cases h2
      obtain ⟨w, e1, h3⟩ := hz.one
      obtain ⟨p, vs, e2, r2, l⟩ := h3.lst
      rw [txts_map h1] at l
      rw [RvL.txts_of l] at r2
      exact mt_join pins s σ H x xs v us Q I rx rs ⟨_, p, ys, hd.str, by rw [e1, e2], .inl (.inl (.inl r2)), of_decide_eq_true z, q _ H (Same.refl _) rfl⟩
    · cases h2
  · obtain ⟨ys, h1, h2⟩ := Option.bind_eq_some_iff.mp ho
    split at h2
    · rename_i z
      cases h2
      obtain ⟨w, e1, h3⟩ := hz.one
      obtain ⟨p, vs, e2, _, r2, l⟩ := h3.tup
      rw [txts_map h1] at l
      rw [RvL.txts_of l] at r2
      exact mt_join pins s σ H x xs v us Q I rx rs ⟨_, p, ys, hd.str, by rw [e1, e2], .inr (.inl (.inl r2)), of_decide_eq_true z, q _ H (Same.refl _) rfl⟩
    · cases h2
  · cases ho
/-! ### methods that write the list of an owned slot -/
/-- the new list, and what is given back -/
def rMw (G : Gc) (op : List D → List D → Option (List D × D)) : V → List V → Hp → VK → Prop := fun x vs H Q => ∃ (A : Addr → Prop) (a : Addr) (xs : List V) (d ds d' : List D) (u : D), x = .ref a ∧ H a = some (.lst xs) ∧ RvL G A H xs d ∧ RvL G A H vs ds ∧ op d ds = some (d', u) ∧ ∀ v xs', RvL G A H xs' d' → Rv G A H v u → Q v (upd H a (.lst xs'))
def sMw (op : List D → List D → Option (List D × D)) (f : FE) (fs : FA) : FE := fun τ => (f τ).bind fun p => match p.1 with
  | .slot j => (chk (match p.2[j]? with
      | some (some (.own _ (.lst _))) => true
      | _ => false)).bind fun _ => (fs p.2).bind fun q => match q.2[j]? with
    | some (some (.own b (.lst d))) => (ofO (allFro q.1)).bind fun ds => (ofO (op d ds)).bind fun r => .ok (.fro r.2, q.2.set j (some (.own b (.lst r.1))))
    | _ => .stuck
  | _ => .stuck
theorem mw_at {op : List D → List D → Option (List D × D)} {σ : St} {H : Hp} {Q : VK} (h : EEt (gc X) E (sMw op f fs) σ H Q) : EEt (gc X) E f σ H fun x H1 => tyV X.K "list" x H1 ∧ EAt (gc X) E fs σ H1 fun xs H2 => rMw (gc X) op x xs H2 Q := by
  obtain ⟨W, τ, s, m⟩ := h
  refine EEt.at (Ev.refl s) m.bind fun h1 τ1 v1 H1 W1 q1 ev1 r1 _ => ?_
  dsimp only at q1
  split at q1
  · rename_i j
    obtain ⟨z, q1⟩ := q1.chk
    have r' : σ[j]? = some (some v1) := r1
    refine ⟨?_, EAt.at ev1 q1.bind fun hs τ2 vs H2 W2 q2 ev2 r2 st2 => ?_⟩
    · split at z
      · rename_i b d hj
        obtain ⟨a, e1, _, xs, r, _⟩ := ev1.st.own_at hj r'
        rw [e1]
        exact .inl ⟨rfl, xs, .inl (.inl r)⟩
      · cases z
    · dsimp only at q2
      split at q2
      · rename_i b d hj
        obtain ⟨ds, p1, q2⟩ := q2.opt
        obtain ⟨r, p2, q2⟩ := q2.opt
        obtain ⟨d', u⟩ := r
        obtain ⟨a, e1, _, xs, rr, l⟩ := ev2.st.own_at hj r'
        subst e1
        refine ⟨Av W2 σ τ2, a, xs, d, ds, d', u, rfl, rr, l, allFro_ok r2 p1, p2, fun v xs' l' rv => ?_⟩
        have oa : Av W2 σ τ2 a := .inr ⟨j, b, _, hj, r'⟩
        have ku : Keeps (Av W2 σ τ2) (Av W2 σ τ2) H2 (upd H2 a (.lst xs')) := fun c o e n => by
          have ne : c ≠ a := fun z => n (by rw [z]; exact oa)
          exact ⟨by rw [upd_ne ne]; exact e, n⟩
        have ew := ev_write (o := .lst xs') (d' := .lst d') ev2.st hj r' trivial ⟨xs', upd_same, RvL.keep ku _ _ l'⟩
        exact q2 v _ W2 (ev2.trans ew) (Rv.keep ew.keeps u v rv)
      · exact q2.elim
  · exact q1.elim
theorem ee_mw {id : String} {name : Str} {op : List D → List D → Option (List D × D)} (pa : PlainAttrs "list") (slot : Slot "list" name id) (hty : typeOf (.builtin id) = pure (.type "method_descriptor")) (hm : MtR X id (rMw (gc X) op)) (ho : EE X E o f) (ha : EA X E (e :: es) fs)
    (hbase : attributeBase o name X.env (eval o X.env) = eval o X.env := by rfl)
    (hfew : ((backTo cpos (starEach (e :: es) X.env)).all (fun x => !x.1) && (backToKw cpos (keywordEach [] X.env)).all (fun x => x.1.isSome)
      && decide ((e :: es).length + ([] : List Keyword).length + (if ([] : List Keyword).isEmpty then 0 else 1) < 30)) = true := by rfl)
    (hline : (apos.endLine == cpos.line) = true := by rfl) (hs : starEach (e :: es) X.env = (false, eval e X.env) :: starEach es X.env := by rfl) (hplain : (backTo cpos (starEach es X.env)).any (·.1) = false := by rfl) :
    EE X E (.Call (.Attribute o name apos) (e :: es) [] cpos) (sMw op f fs) :=
  PE.imp (pe_bm pa slot hty hm ho ha hbase hfew hline hs hplain) fun _ _ _ h => mw_at h
theorem ee_mw0 {id : String} {name : Str} {op : List D → List D → Option (List D × D)} (pa : PlainAttrs "list") (slot : Slot "list" name id) (hty : typeOf (.builtin id) = pure (.type "method_descriptor")) (hm : MtR X id (rMw (gc X) op)) (ho : EE X E o f)
    (hbase : attributeBase o name X.env (eval o X.env) = eval o X.env := by rfl) (hline : (apos.endLine == cpos.line) = true := by rfl) : EE X E (.Call (.Attribute o name apos) [] [] cpos) (sMw op f aNil) :=
  PE.imp (pe_bm0 pa slot hty hm ho hbase hline) fun σ H Q h => by
    obtain ⟨W, τ, s, m⟩ := mw_at h
    refine ⟨W, τ, s, m.imp fun p _ q v H' W' e r => ?_⟩
    obtain ⟨t, W2, τ2, s2, m2⟩ := q v H' W' e r
    exact ⟨t, m2 [] H' W2 (Ev.refl s2) rfl⟩
def wAppend : List D → List D → Option (List D × D)
  | xs, [y] => if decide (xs.length < 16777216) = true then some (xs ++ [y], .non) else none
  | _, _ => none
theorem mw_append : MtR X "list.append" (rMw (gc X) wAppend) := by
  intro pins s σ H x vs v us Q I rx rs ⟨A, a, xs, d, ds, d', u, e1, ha, l, l2, ho, q⟩
  unfold wAppend at ho
  split at ho
  · split at ho
    · rename_i z
      cases ho
      obtain ⟨y, r, e2, h1, h2⟩ := l2
      have h2' : r = [] := h2
      subst h2'
      exact mt_append pins s σ H x vs v us Q I rx rs ⟨a, xs, y, e1, e2, ha, by rw [RvL.length l, sizeLine_eq]; exact of_decide_eq_true z, q .non _ (RvL.append l ⟨y, [], rfl, h1, rfl⟩) rfl⟩
    · cases ho
  · cases ho
def wPop : List D → List D → Option (List D × D)
  | xs, [] => (xs[xs.length - 1]?).map fun y => (xs.dropLast, y)
  | xs, [.int i] => if decide (-9223372036854775808 ≤ i ∧ i < 9223372036854775808) = true then (seqIndex? i xs.length).bind fun k => (xs[k]?).map fun y => (xs.eraseIdx k, y) else none
  | _, _ => none
theorem RvL.dropLast {G : Gc} {A : Addr → Prop} {H : Hp} {vs : List V} {ds : List D} (l : RvL G A H vs ds) : RvL G A H vs.dropLast ds.dropLast := by
  rw [List.dropLast_eq_take, List.dropLast_eq_take, RvL.length l]
  exact RvL.take _ l
theorem RvL.eraseIdx {G : Gc} {A : Addr → Prop} {H : Hp} : ∀ {ds : List D} {vs : List V} (k : Nat), RvL G A H vs ds → RvL G A H (vs.eraseIdx k) (ds.eraseIdx k)
  | [], _, _, h => by
    have e : _ = [] := h
    rw [e]
    exact rfl
  | _ :: _, _, 0, ⟨v, r, e, h, t⟩ => by
    rw [e]
    exact t
  | _ :: _, _, k + 1, ⟨v, r, e, h, t⟩ => by
    rw [e]
    exact ⟨v, _, rfl, h, RvL.eraseIdx k t⟩
theorem mw_pop : MtR X "list.pop" (rMw (gc X) wPop) := by
  intro pins s σ H x vs v us Q I rx rs ⟨A, a, xs, d, ds, d', u, e1, ha, l, l2, ho, q⟩
  unfold wPop at ho
  split at ho
  · obtain ⟨y, h1, h2⟩ := Option.map_eq_some_iff.mp ho
    cases h2
    have e2 : vs = [] := l2
    obtain ⟨w, h3, h4⟩ := RvL.get l h1
    exact mt_pop pins s σ H x vs v us Q I rx rs ⟨a, xs, w, e1, e2, ha, by rw [RvL.length l]; exact h3, q w _ (RvL.dropLast l) h4⟩
  · split at ho
    · rename_i i z
      obtain ⟨k, h0, ho⟩ := Option.bind_eq_some_iff.mp ho
      obtain ⟨y, h1, h2⟩ := Option.map_eq_some_iff.mp ho
      cases h2
      obtain ⟨w0, r0, e2, e3, e4⟩ := l2
      have e4' : r0 = [] := e4
      have e3' : w0 = .int _ := e3
      subst e4' e3'
      obtain ⟨w, h3, h4⟩ := RvL.get l h1
      have zz := of_decide_eq_true z
      exact mt_popAt pins s σ H x vs v us Q I rx rs ⟨a, xs, _, k, w, e1, e2, ha, by omega, by omega, by rw [RvL.length l]; exact h0, h3, q w _ (RvL.eraseIdx k l) h4⟩
    · cases ho
  · cases ho
/-! ### items stored -/
def gSub0 (op : List D → D → D → Option (List D)) (fo fi : FE) : GF := fun d τ => (fo τ).bind fun p => match p.1 with
  | .slot j => (fi p.2).bind fun q => match q.1, q.2[j]? with
    | .fro i, some (some (.own b (.lst xs))) => (ofO (op xs i d)).bind fun ys => .ok (q.2.set j (some (.own b (.lst ys))))
    | _, _ => .stuck
  | _ => .stuck
def oSetL : List D → D → D → Option (List D)
  | xs, .int k, d => (ixN xs.length k).map fun j => xs.set j d
  | _, _, _ => none
theorem gg_subL {i : Expr} {fi : FE} (ho : EE X E o fo) (hi : EE X E i fi) (ha : ∀ v, assign (.Subscript o i pos) X.env v = (do
      let ov ← holding [v] (eval o X.env)
      let iv ← holding [v, ov] (eval i X.env)
      standAt pos
      holding [v, ov, iv] (setItem ov iv v)
      release [v, ov, iv] []) := by intro _; rfl) : GG X E (.Subscript o i pos) [] (gSub0 oSetL fo fi) :=
  PG.imp (pg_sub ho hi set_list ha) fun v σ H Q ⟨W, τ, d, s, r, m⟩ => by
    refine EEt.at (Ev.refl s) m.bind fun h1 τ1 v1 H1 W1 q1 ev1 r1 _ => ?_
    dsimp only at q1
    split at q1
    · rename_i j
      have r' : σ[j]? = some (some v1) := r1
      refine EEt.at ev1 q1.bind fun h2 τ2 v2 H2 W2 q2 ev2 r2 st2 => ?_
      dsimp only at q2
      split at q2
      · rename_i i b xs hj
        obtain ⟨ys, p1, q2⟩ := q2.opt
        cases i with
        | int k =>
          have p1' : (ixN xs.length k).map (fun j => xs.set j d) = some ys := p1
          obtain ⟨jj, h3, h4⟩ := Option.map_eq_some_iff.mp p1'
          subst h4
          obtain ⟨a, e1, _, us, rr, l⟩ := ev2.st.own_at hj r'
          subst e1
          have e2 : v2 = .int k := r2
          refine ⟨a, us, k, jj, rfl, e2, rr, by rw [RvL.length l]; exact h3, ?_⟩
          have oa : Av W2 σ τ2 a := .inr ⟨j, b, _, hj, r'⟩
          have ku : Keeps (Av W2 σ τ2) (Av W2 σ τ2) H2 (upd H2 a (.lst (us.set jj v))) := fun c o e n => by
            have ne : c ≠ a := fun z => n (by rw [z]; exact oa)
            exact ⟨by rw [upd_ne ne]; exact e, n⟩
          have rd : Rv (gc X) (Av W2 σ τ2) H2 v d := Rv.keep ev2.keeps _ _ r
          have ew := ev_write (o := .lst (us.set jj v)) (d' := .lst (xs.set jj d)) ev2.st hj r' trivial ⟨us.set jj v, upd_same, RvL.keep ku _ _ (RvL.set jj l rd)⟩
          exact q2 σ _ (ev2.trans ew).base fun _ _ => rfl
        | _ => cases p1
      · exact q2.elim
    · exact q1.elim
/-! ### attributes of instances -/
structure ClsF (K : PySem.W.Frag) (mg : Str → Option Value) (C f : Str) : Prop where
  ex : ∃ Ca, mg C = some (.ref Ca) ∧ Cls K Ca ∧ NoAttr K Ca f
theorem Rz.ins {G : Gc} {A : Addr → Prop} {H : Hp} {v : V} {C : Str} {fs : List (Str × D)} (h : Rz G A H v (.ins C fs)) : ∃ a Ca dx vs, v = .ref a ∧ H a = some (.ins Ca dx vs) ∧ G.mg C = some (.ref Ca) ∧ RvF G A H vs fs := by
  rcases h with h | ⟨_, a, e, Ca, dx, vs, r, m, l⟩
  · exact h.elim
  · exact ⟨a, Ca, dx, vs, e, r, m, l⟩
theorem RvF.lookup {G : Gc} {A : Addr → Prop} {H : Hp} : ∀ {fs : List (Str × D)} {vs : List (Str × V)} {f : Str} {d : D}, RvF G A H vs fs → fs.lookup f = some d → ∃ v, vs.lookup f = some v ∧ Rv G A H v d
  | [], _, _, _, _, e => by cases e
  | (g, x) :: fs, vs, f, d, ⟨h1, h2⟩, e => by
    obtain ⟨v, r, q1, q2, q3⟩ := h2
    cases vs with
    | nil => cases q1
    | cons y vs =>
      obtain ⟨g', v'⟩ := y
      rw [List.map_cons, List.map_cons] at h1
      rw [List.map_cons] at q1
      obtain ⟨e1, e2⟩ := List.cons.inj h1
      obtain ⟨e3, e4⟩ := List.cons.inj q1
      dsimp only at e1 e3
      subst e1 e3
      rw [List.lookup_cons] at e ⊢
      split at e
      · cases e
        exact ⟨_, rfl, q2⟩
      · exact RvF.lookup ⟨e2, by rw [e4]; exact q3⟩ e
theorem RvF.lookup_none {G : Gc} {A : Addr → Prop} {H : Hp} : ∀ {fs : List (Str × D)} {vs : List (Str × V)} {f : Str}, RvF G A H vs fs → fs.lookup f = none → vs.lookup f = none
  | [], vs, _, ⟨h1, _⟩, _ => by
    cases vs with
    | nil => rfl
    | cons y vs => cases h1
  | (g, x) :: fs, vs, f, ⟨h1, h2⟩, e => by
    obtain ⟨v, r, q1, q2, q3⟩ := h2
    cases vs with
    | nil => cases q1
    | cons y vs =>
      obtain ⟨g', v'⟩ := y
      rw [List.map_cons, List.map_cons] at h1
      rw [List.map_cons] at q1
      obtain ⟨e1, e2⟩ := List.cons.inj h1
      obtain ⟨e3, e4⟩ := List.cons.inj q1
      dsimp only at e1 e3
      subst e1 e3
      rw [List.lookup_cons] at e ⊢
      split at e
      · cases e
      · exact RvF.lookup_none ⟨e2, by rw [e4]; exact q3⟩ e
def putD (f : Str) (v : D) : List (Str × D) → List (Str × D)
  | [] => [(f, v)]
  | (g, x) :: r => if g = f then (g, v) :: r else (g, x) :: putD f v r
theorem RvF.put {G : Gc} {A : Addr → Prop} {H : Hp} {f : Str} {v : V} {d : D} (hv : Rv G A H v d) : ∀ {fs : List (Str × D)} {vs : List (Str × V)}, RvF G A H vs fs → RvF G A H (putF f v vs) (putD f d fs)
  | [], vs, ⟨h1, _⟩ => by
    cases vs with
    | nil => exact ⟨rfl, v, [], rfl, hv, rfl⟩
    | cons y vs => cases h1
  | (g, x) :: fs, vs, ⟨h1, h2⟩ => by
    obtain ⟨w, r, q1, q2, q3⟩ := h2
    cases vs with
    | nil => cases q1
    | cons y vs =>
      obtain ⟨g', v'⟩ := y
      rw [List.map_cons, List.map_cons] at h1
      rw [List.map_cons] at q1
      obtain ⟨e1, e2⟩ := List.cons.inj h1
      obtain ⟨e3, e4⟩ := List.cons.inj q1
      dsimp only at e1 e3
      subst e1 e3
      unfold putF putD
      by_cases z : g' = f
      · rw [if_pos z, if_pos z]
        exact ⟨by rw [List.map_cons, List.map_cons, e2], v, _, rfl, hv, by rw [e4]; exact q3⟩
      · rw [if_neg z, if_neg z]
        obtain ⟨k1, k2⟩ := RvF.put hv (fs := fs) (vs := vs) ⟨e2, by rw [e4]; exact q3⟩
        exact ⟨by rw [List.map_cons, List.map_cons, k1], _, _, rfl, q2, k2⟩
def fldOf (C f : Str) : D → Option D
  | .ins C' fs => if C' = C then fs.lookup f else none
  | _ => none
def sFld (C f : Str) (fo : FE) : FE := fun τ => (fo τ).bind fun p => (ofO ((peek p.2 p.1).bind (fldOf C f))).bind fun d => .ok (.fro d, p.2)
theorem ee_fld {C f : Str} (c : ClsF X.K X.mg C f) (ho : EE X E o fo) (hb : attributeBase o f X.env (eval o X.env) = eval o X.env := by rfl) : EE X E (.Attribute o f pos) (sFld C f fo) :=
  PE.imp (pe_fld ho hb) fun σ H Q ⟨W, τ, s, m⟩ => by
    refine EEt.at (Ev.refl s) m.bind fun h1 τ1 v1 H1 W1 q1 ev1 r1 _ => ?_
    obtain ⟨d, p1, q⟩ := q1.opt
    obtain ⟨dd, p2, p3⟩ := Option.bind_eq_some_iff.mp p1
    unfold fldOf at p3
    split at p3
    · rename_i C' fs
      split at p3
      · rename_i ec
        subst ec
        obtain ⟨a, Ca, dx, vs, e1, h1, h2, l⟩ := Rz.ins (peek_ok r1 ev1.st p2)
        obtain ⟨Cb, c1, c2, c3⟩ := c.ex
        have c1' : (gc X).mg _ = some (.ref Cb) := c1
        rw [h2] at c1'
        cases c1'
        obtain ⟨v, l1, l2⟩ := RvF.lookup l p3
        exact ⟨a, Ca, dx, vs, v, e1, h1, c2, c3, l1, q v H1 W1 ev1 l2⟩
      · cases p3
    · cases p3
def gFld (C f : Str) (fo : FE) : GF := fun d τ => (fo τ).bind fun p => match p.1 with
  | .slot j => match p.2[j]? with
    | some (some (.own b (.ins C' fs))) => (chk (decide (C' = C) && decide (fs.length < 1000))).bind fun _ => .ok (p.2.set j (some (.own b (.ins C' (putD f d fs)))))
    | _ => .stuck
  | _ => .stuck
/-- o.f as a target -/
def pgFld (K : PySem.W.Frag) (to : TE) (f : Str) : TG := fun v σ H Q => to σ H fun x H1 => ∃ a C dx fs, x = .ref a ∧ H1 a = some (.ins C dx fs) ∧ Cls K C ∧ NoAttr K C f ∧ fs.length < 1000 ∧ Q σ (upd H1 a (.ins C dx (putF f v fs)))
theorem pg_fld {to : TE} {f : Str} (ho : PE X o to) : PG X (.Attribute o f pos) (pgFld X.K to f) := by
  refine ⟨fun pins s σ H v u Q I r h => ?_⟩
  rw [show assign (.Attribute o f pos) X.env u = (do let ov ← holding [u] (eval o X.env); standAt pos.atName; holding [u, ov] (setAttr ov f u); release [u, ov] []) from rfl]
  refine wpAny_bind (wpAny_holding (thn (ho.run pins s σ H _ I h) fun ov s1 ⟨x, H1, I1, r1, a, C, dx, fs, ex, ea, c, n, l, q⟩ => ?_))
  subst ex
  obtain rfl : ov = Value.ref a := r1
  exact wpAny_bind (wpAny_standAt (wpAny_bind (wpAny_holding (setattr_ok I1 ea c n l r fun s3 I3 => wpAny_release ⟨σ, _, I3, q⟩))))
theorem putF_len {f : Str} {v : V} : ∀ {vs : List (Str × V)} {fs : List (Str × D)}, vs.map (·.1) = fs.map (·.1) → vs.length = fs.length := fun h => by
  have := congrArg List.length h
  rw [List.length_map, List.length_map] at this
  exact this
theorem gg_fld {C f : Str} (c : ClsF X.K X.mg C f) (ho : EE X E o fo) : GG X E (.Attribute o f pos) [] (gFld C f fo) :=
  PG.imp (pg_fld ho) fun v σ H Q ⟨W, τ, d, s, r, m⟩ => by
    refine EEt.at (Ev.refl s) m.bind fun h1 τ1 v1 H1 W1 q1 ev1 r1 _ => ?_
    dsimp only at q1
    split at q1
    · rename_i j
      have r' : σ[j]? = some (some v1) := r1
      split at q1
      · rename_i b C' fs hj
        obtain ⟨z, q⟩ := q1.chk
        rw [Bool.and_eq_true, decide_eq_true_eq, decide_eq_true_eq] at z
        obtain ⟨ec, hlen⟩ := z
        subst ec
        obtain ⟨a, e1, _, Ca, dx, vs, h1, h2, l⟩ := ev1.st.own_at hj r'
        subst e1
        obtain ⟨Cb, c1, c2, c3⟩ := c.ex
        have c1' : (gc X).mg _ = some (.ref Cb) := c1
        rw [h2] at c1'
        cases c1'
        refine ⟨a, Ca, dx, vs, rfl, h1, c2, c3, by rw [putF_len (f := f) (v := v) l.1]; exact hlen, ?_⟩
        have oa : Av W1 σ τ1 a := .inr ⟨j, b, _, hj, r'⟩
        have ku : Keeps (Av W1 σ τ1) (Av W1 σ τ1) H1 (upd H1 a (.ins Ca dx (putF f v vs))) := fun c o e n => by
          have ne : c ≠ a := fun z => n (by rw [z]; exact oa)
          exact ⟨by rw [upd_ne ne]; exact e, n⟩
        have rd : Rv (gc X) (Av W1 σ τ1) H1 v d := Rv.keep ev1.keeps _ _ r
        have ew := ev_write (o := .ins Ca dx (putF f v vs)) (d' := .ins C' (putD f d fs)) ev1.st hj r' trivial ⟨Ca, dx, putF f v vs, upd_same, h2, RvF.keep ku (RvF.put rd l)⟩
        exact q σ _ (ev1.trans ew).base fun _ _ => rfl
      · exact q1.elim
    · exact q1.elim
theorem calm_fld {C f : Str} {i : Nat} : Calm (gFld C f (sVar i)) := fun d τ c e h => by
  unfold gFld sVar at h
  split at h
  · cases h
  · simp only [R.bind] at h
    split at h
    · rename_i b C' fs _
      cases z : decide (C' = C) && decide (fs.length < 1000) with
      | true => rw [z] at h; cases h
      | false => rw [z] at h; cases h
    · cases h
  · cases h
end
end F
set_option Elab.async false
set_option linter.all false
set_option maxRecDepth 100000
set_option maxHeartbeats 4000000
/-! FQ: own classes: made, their methods; zip; sets that are counted (own work) -/
namespace F
open PySem L2

/-! ### own methods -/
structure Mth (P : Program) (w : World) (K : PySem.W.Frag) (mg : Str → Option Value) (base : Heap) (CX : CXT) (xw : XK → XW) (C m : Str) (n k : Nat) (F : FnR) : Prop where
  ex : ∃ (Ca f : Addr) (fd : FuncData) (ps : List Str), mg C = some (.ref Ca) ∧ Cls K Ca ∧ Meth K Ca m f ∧ Binds K fd ps [] ∧ FnG P w K mg base CX k f fd ps (spF ⟨P, w, K, mg⟩ xw n F)
structure Mke (P : Program) (w : World) (K : PySem.W.Frag) (mg : Str → Option Value) (base : Heap) (CX : CXT) (xw : XK → XW) (C : Str) (n k : Nat) (F : FnR) : Prop where
  ex : ∃ (Ca f : Addr) (fd : FuncData) (ps : List Str), mg C = some (.ref Ca) ∧ Mk K Ca f ∧ Binds K fd ps [] ∧ FnG P w K mg base CX k f fd ps (spF ⟨P, w, K, mg⟩ xw n F)
section
variable {X : Cx} {E : XW} {e o a b c : Expr} {es : List Expr} {f g fo : FE} {fs : FA} {pos apos cpos p : Pos} {CX : CXT} {xw : XK → XW} {k n : Nat} {Fm : FnR} {Ex : XK} {C m : Str}
def isIns (C m : Str) : D → Bool
  | .ins C' fs => decide (C' = C) && (fs.lookup m).isNone
  | _ => false
def cTail (n : Nat) (F : FnR) (hs : List Hd) (τ1 : T) : R (Hd × T) := (chk (okA hs && decide (hs.length = n))).bind fun _ => (ofO (toSls τ1 hs)).bind fun sls => (F sls).bind fun r => (chk (shp sls r.2)).bind fun _ => match r.1 with
  | .slot _ => .stuck
  | h => .ok (h, wb hs r.2 τ1)
def sMeth (C m : Str) (n : Nat) (F : FnR) (fo : FE) (fs : FA) : FE := fun τ => (fo τ).bind fun p => (ofO (peek p.2 p.1)).bind fun d => (chk (isIns C m d)).bind fun _ => (fs p.2).bind fun q => cTail n F (p.1 :: q.1) q.2
def tMethG (Ca : Addr) (m : Str) (sp : Sp) (Ex : XK) (ta : TE) (t : TA) : TE := fun σ H Q => ta σ H fun x H1 => ∃ a dx fs, x = .ref a ∧ H1 a = some (.ins Ca dx fs) ∧ fs.lookup m = none ∧ t σ H1 fun vs H2 => sp (x :: vs) H2 Q Ex
theorem meth_at {Ca : Addr} (hC : X.mg C = some (.ref Ca)) (hE : xw Ex = E) {σ : St} {H : Hp} {Q : VK} (h : EEt (gc X) E (sMeth C m n Fm fo fs) σ H Q) : tMethG Ca m (spF (gc X) xw n Fm) Ex (EEt (gc X) E fo) (EAt (gc X) E fs) σ H Q := by
  obtain ⟨W, τ, s, q0⟩ := h
  refine EEt.at (Ev.refl s) q0.bind fun h1 τ1 v1 H1 W1 q1 ev1 r1 _ => ?_
  obtain ⟨d, p1, q2⟩ := q1.opt
  obtain ⟨z, q3⟩ := q2.chk
  clear q1 q2
  unfold isIns at z
  split at z
  · rename_i C' fds
    rw [Bool.and_eq_true, decide_eq_true_eq, Option.isNone_iff_eq_none] at z
    obtain ⟨ec, hl⟩ := z
    subst ec
    obtain ⟨a, Cb, dx, vs, e1, h1', h2, l⟩ := Rz.ins (peek_ok r1 ev1.st p1)
    have h2' : X.mg C' = some (.ref Cb) := h2
    rw [hC] at h2'
    cases h2'
    refine ⟨a, dx, vs, e1, h1', RvF.lookup_none l hl, EAt.at ev1 q3.bind fun hs τ2 us H2 W2 q2 ev2 r2 st2 => ?_⟩
    exact sp_at (hs := h1 :: hs) (vs := v1 :: us) hE s ev2 ⟨v1, us, rfl, (r1.step st2), r2⟩ q2
  · cases z
theorem ee_meth {pl : Sem Bool} (M : Mth X.prog X.w X.K X.mg X.base CX xw C m n k Fm) (ho : EE X E o fo) (hr : Room k X.A) (hgd : X.A.guards = some []) (hx : Passes CX X Ex) (hE : xw Ex = E) (ha : EA X E (e :: es) fs)
    (hst : starEach (e :: es) X.env = (false, eval e X.env) :: starEach es X.env := by rfl) (hpl : (backTo pos (starEach es X.env)).any (·.1) = false := by rfl)
    (ht : eval (.Call (.Attribute o m apos) (e :: es) [] pos) X.env = (do
      let ov ← eval o X.env
      standAt apos.atName
      let (f, first) ← holding [ov] (getMethod ov m pl)
      callWith pos f first (backTo pos (starEach (e :: es) X.env)) (backToKw pos (keywordEach [] X.env))) := by rfl) :
    EE X E (.Call (.Attribute o m apos) (e :: es) [] pos) (sMeth C m n Fm fo fs) := by
  obtain ⟨Ca, fa, fd, ps, hC, hcls, hm, hb, FG⟩ := M.ex
  refine ⟨fun pins s σ H Q I h0 => ?_⟩
  have h := meth_at hC hE h0
  refine PySem.W.methodCall_KW (pl := pl) (thn (ho.run pins s σ H _ I h) fun u s1 ⟨x, H1, I1, rx, a, dx, fvs, ex, ea, l, q⟩ => ?_) ht
  subst ex
  obtain rfl : u = Value.ref a := rx
  refine getmeth_ok I1 ea hcls hm l ?_
  exact PySem.W.callWith_K (first := [.ref a]) (h₀ := X.base) I.ok.mod.kin hm.kp (thn (ha.run pos pins s1 σ H1 _ I1 q) fun us s2 ⟨vs, H2, I2, r, q2⟩ => ⟨I2.kIn, runG (us := .ref a :: us) (vs := .ref a :: vs) FG hr hgd hb hx I2 (.cons rfl r) q2⟩) hst hpl
theorem ee_meth0 {pl : Sem Bool} (M : Mth X.prog X.w X.K X.mg X.base CX xw C m n k Fm) (ho : EE X E o fo) (hr : Room k X.A) (hgd : X.A.guards = some []) (hx : Passes CX X Ex) (hE : xw Ex = E)
    (ht : eval (.Call (.Attribute o m apos) [] [] pos) X.env = (do
      let ov ← eval o X.env
      standAt apos.atName
      let (f, first) ← holding [ov] (getMethod ov m pl)
      callWith pos f first (backTo pos (starEach [] X.env)) (backToKw pos (keywordEach [] X.env))) := by rfl) :
    EE X E (.Call (.Attribute o m apos) [] [] pos) (sMeth C m n Fm fo aNil) := by
  obtain ⟨Ca, fa, fd, ps, hC, hcls, hm, hb, FG⟩ := M.ex
  refine ⟨fun pins s σ H Q I h0 => ?_⟩
  have h := meth_at hC hE h0
  refine PySem.W.methodCall_KW (pl := pl) (thn (ho.run pins s σ H _ I h) fun u s1 ⟨x, H1, I1, rx, a, dx, fvs, ex, ea, l, q⟩ => ?_) ht
  subst ex
  obtain rfl : u = Value.ref a := rx
  refine getmeth_ok I1 ea hcls hm l ?_
  obtain ⟨W2, τ2, s2, m2⟩ := q
  have q2 := m2 [] H1 W2 (Ev.refl s2) rfl
  exact PySem.W.callWith_K0 (first := [.ref a]) I1.kIn hm.kp (runG (us := [.ref a]) (vs := [.ref a]) FG hr hgd hb hx I1 (.cons rfl .nil) q2)
/-! ### making -/
def sMake (C : Str) (n : Nat) (F : FnR) (fs : FA) : FE := fun τ => (fs τ).bind fun p => (ofO (allFro p.1)).bind fun ds => (chk (decide (ds.length + 1 = n))).bind fun _ => (F (.own true (.ins C []) :: ds.map .fro)).bind fun r => match r.1, r.2 with
  | .fro .non, .own true d' :: _ => .ok (.tmp d', p.2)
  | _, _ => .stuck
theorem fro_get {ds : List D} {i : Nat} {x : Sl} (h : (ds.map Sl.fro)[i]? = some x) : ∃ d, ds[i]? = some d ∧ x = .fro d := by
  rw [List.getElem?_map] at h
  obtain ⟨d, h1, h2⟩ := Option.map_eq_some_iff.mp h
  exact ⟨d, h1, h2.symm⟩
theorem make_at {Ca : Addr} (hC : X.mg C = some (.ref Ca)) (hE : xw Ex = E) {σ : St} {H : Hp} {Q : VK} (h : EEt (gc X) E (sMake C n Fm fs) σ H Q) :
    EAt (gc X) E fs σ H fun vs H1 => ∀ x dx, H1 x = none → H1 dx = none → dx ≠ x → spF (gc X) xw n Fm (.ref x :: vs) (upd (upd H1 dx (.own x)) x (.ins Ca dx [])) (fun v H2 => v = .non ∧ Q (.ref x) H2) Ex := by
  obtain ⟨W, τ, s, q0⟩ := h
  refine EAt.at (Ev.refl s) q0.bind fun hs τ1 vs H1 W1 q1 ev1 r1 _ => ?_
  obtain ⟨ds, p1, q1⟩ := q1.opt
  obtain ⟨z, q1⟩ := q1.chk
  rw [decide_eq_true_eq] at z
  intro x dx hx hdx ne
  have l := allFro_ok r1 p1
  have st1 := ev1.st
  have hs2 : Same H1 (upd (upd H1 dx (.own x)) x (.ins Ca dx [])) := fun a o ho => by
    have n1 : a ≠ x := fun y => by
      rw [y, hx] at ho
      cases ho
    have n2 : a ≠ dx := fun y => by
      rw [y, hdx] at ho
      cases ho
    rw [upd_ne n1, upd_ne n2]
    exact ho
  have ow1 : ∀ a, Ow (fr (V.ref x :: vs)) (ft (Sl.own true (D.ins C []) :: ds.map .fro)) a → a = x := fun a ⟨i, b, d, e1, e2⟩ => by
    have e1' := ft_get.mp e1
    have e2' := fr_get.mp e2
    cases i with
    | zero =>
      simp at e2'
      exact e2'.symm
    | succ i =>
      obtain ⟨d', _, e3⟩ := fro_get (show (ds.map Sl.fro)[i]? = some (Sl.own b d) by simpa using e1')
      cases e3
  have ka : Keeps (Av W1 σ τ1) (Av (Av W1 σ τ1) (fr (V.ref x :: vs)) (ft (Sl.own true (D.ins C []) :: ds.map .fro))) H1 (upd (upd H1 dx (.own x)) x (.ins Ca dx [])) := fun a o ho n => ⟨hs2 a o ho, fun y => by
    rcases y with y | y
    · exact n y
    · rw [ow1 a y, hx] at ho
      cases ho⟩
  have l2 := RvL.keep ka _ _ l
  refine ⟨Av W1 σ τ1, Sl.own true (.ins C []) :: ds.map .fro, by rw [List.length_cons, List.length_map]; exact z, ⟨fun a y => Same.tracked hs2 a (st1.avT y), fun i d e1 => ?_, fun i b d e1 => ?_, fun i j b c d e' a e1 e2 e3 e4 => ?_, ?_, fun a ⟨i, d, e1, e2⟩ => ?_⟩, ?_, ?_⟩
  · have e1' := ft_get.mp e1
    cases i with
    | zero => simp at e1'
    | succ i =>
      obtain ⟨d', h1, e3⟩ := fro_get (show (ds.map Sl.fro)[i]? = some (Sl.fro d) by simpa using e1')
      cases e3
      obtain ⟨v, h2, h3⟩ := RvL.get l2 h1
      exact ⟨v, fr_get.mpr (by simpa using h2), h3⟩
  · have e1' := ft_get.mp e1
    cases i with
    | zero =>
      simp at e1'
      obtain ⟨rfl, rfl⟩ := e1'
      exact ⟨x, fr_get.mpr rfl, by rw [upd_same]; trivial, Ca, dx, [], upd_same, hC, rfl, rfl⟩
    | succ i =>
      obtain ⟨d', h1, e3⟩ := fro_get (show (ds.map Sl.fro)[i]? = some (Sl.own b d) by simpa using e1')
      cases e3
  · have z1 : ∀ (i : Nat) (b : Bool) (d : D), (ft (Sl.own true (D.ins C []) :: ds.map .fro))[i]? = some (some (.own b d)) → i = 0 := fun i b d e1 => by
      cases i with
      | zero => rfl
      | succ i =>
        obtain ⟨d', _, e3⟩ := fro_get (show (ds.map Sl.fro)[i]? = some (Sl.own b d) by simpa using ft_get.mp e1)
        cases e3
    rw [z1 i b d e1, z1 j c e' e2]
  · unfold ft fr
    rw [List.length_map, List.length_map, List.length_cons, List.length_cons, List.length_map, RvL.length l]
  · have e1' := ft_get.mp e1
    cases i with
    | zero => simp at e1'
    | succ i =>
      obtain ⟨d', h1, e3⟩ := fro_get (show (ds.map Sl.fro)[i]? = some (Sl.own false d) by simpa using e1')
      cases e3
  · rw [List.all_cons]
    refine Bool.and_eq_true_iff.mpr ⟨rfl, List.all_eq_true.mpr fun y hy => ?_⟩
    obtain ⟨d, _, rfl⟩ := List.mem_map.mp hy
    rfl
  · rw [hE]
    refine (q1.bind.move (H1 := upd (upd H1 dx (.own x)) x (.ins Ca dx [])) (fun a o ho n => hs2 a o (ev1.frm a o ho n)) fun a y => ?_).imp fun p _ q v H' A' e r => ?_
    · rw [ow1 a y]
      exact .inr (Classical.byContradiction fun y2 => ev1.trk x y2 hx)
    · obtain ⟨hd, os⟩ := p
      dsimp only at q
      split at q
      · rename_i d' rest _
        have h0 : (ft (Sl.own true d' :: rest))[0]? = some (some (.own true d')) := rfl
        obtain ⟨a, k1, k2, k3⟩ := e.st.own 0 true d' h0
        have k1' : a = x := by
          have := fr_get.mp k1
          simp at this
          exact this.symm
        subst k1'
        refine ⟨r, ?_⟩
        have sm : Same H1 H' := fun b o ho => e.frm b o (hs2 b o ho) fun y => by
          rw [ow1 b y, hx] at ho
          cases ho
        obtain ⟨W3, ev3, r3⟩ := ev_new (v := V.ref a) (h := .tmp d') st1 sm ⟨a, rfl, hx, k2, Rc.keep (Keeps.less fun b y => y.elim (fun y => .inl (e.wsub b y)) fun y => .inr ⟨0, true, d', h0, by rw [y]; exact k1⟩) (fun _ y => y) k3⟩
        exact q _ H' W3 (ev1.trans ev3) (r3.start fun b y => ev1.trk b y)
      · exact q.elim
theorem ee_make {x : Str} (M : Mke X.prog X.w X.K X.mg X.base CX xw x n k Fm) (hr : Room (k + 1) X.A) (hgd : X.A.guards = some []) (hx : Passes CX X Ex) (hE : xw Ex = E) (ha : EA X E (e :: es) fs) (hg : Gl X x := by rfl)
    (hdb : (x == ("__debug__" : Str)) = false := by decide) (he : starEach (e :: es) X.env = (false, eval e X.env) :: starEach es X.env := by rfl) (hpl : (backTo pos (starEach es X.env)).any (·.1) = false := by rfl) :
    EE X E (.Call (.Name x p) (e :: es) [] pos) (sMake x n Fm fs) := by
  obtain ⟨Ca, fa, fd, ps, hC, hM, hb, FG⟩ := M.ex
  refine ⟨fun pins s σ H Q I h0 => wpAny_Call_Name_kw (ld_glob I hg hC ?_ hdb)⟩
  have h := make_at hC hE h0
  refine PySem.W.callWith_K (h₀ := X.base) I.ok.mod.kin hM.kp (thn (ha.run pos pins s σ H _ I h) fun us s1 ⟨vs, H1, I1, r, q⟩ => ⟨I1.kIn, ?_⟩) he hpl
  have hq := q (s1.heap.objs.size + 1) s1.heap.objs.size (I1.hok.fresh (Nat.le_succ _)) (I1.hok.fresh (Nat.le_refl _)) (Nat.ne_of_lt (Nat.lt_succ_self _))
  have I2 := Inv.made (C := Ca) I1
  have r2 : Vals (V.ref (s1.heap.objs.size + 1) :: vs) (Value.ref (s1.heap.objs.size + 1) :: us) := .cons rfl r
  have hl : ((Value.ref (s1.heap.objs.size + 1) :: us) ++ []).length = ps.length := by
    rw [List.append_nil, ← r2.length]
    exact FG.len _ _ _ _ hq
  have hbs := hb _ (Value.ref (s1.heap.objs.size + 1) :: us) I2.kIn hl
  rw [List.append_nil] at hbs
  have hgd2 : (X.A.under (.builtin "type.__call__" ⟨.ref Ca :: us, []⟩)).guards = some [] := by
    first
      | exact hgd
      | (show X.A.guards = _; exact hgd)
  refine wpAny_call (make_map (f := fa) I1.kIn hM.makes hM.init (beq_iff_eq.mp hM.fn) (codeAny_mono (FG.run _ X.stack _ _ ⟨Value.ref (s1.heap.objs.size + 1) :: us, []⟩ (Value.ref (s1.heap.objs.size + 1) :: us) _ _ Ex (hr.make Ca us []) hgd2
    (I2.env0.make Ca us []) hbs r2 hq) fun r s' hq' => ?_))
  cases r with
  | error e => exact hx pins σ _ _ e s' I2 hq'
  | ok fl =>
    cases fl with
    | ret u =>
      obtain ⟨v, H', I3, rv, ev, q3⟩ := I2.after hq'
      subst ev
      exact ⟨rv, ⟨V.ref (s1.heap.objs.size + 1), H', I3, rfl, q3⟩⟩
    | next => exact False.elim hq'
    | brk => exact False.elim hq'
    | cont => exact False.elim hq'
end
/-! ### zip -/
def zipL (xs ys : List D) : List D := List.zipWith (fun x y => D.tup [x, y]) xs ys
def iZip (fs : FA) : FI := fun τ => (fs τ).bind fun p => match p.1 with
  | [.fro (.lst xs), .fro (.lst ys)] => .ok (zipL xs ys, p.2)
  | [.fro (.tup xs), .fro (.tup ys)] => .ok (zipL xs ys, p.2)
  | _ => .stuck
theorem zipL_get {xs ys : List D} {i : Nat} {d : D} (h : (zipL xs ys)[i]? = some d) : ∃ x y, xs[i]? = some x ∧ ys[i]? = some y ∧ d = .tup [x, y] := by
  unfold zipL at h
  rw [List.getElem?_zipWith] at h
  cases hx : xs[i]? with
  | none =>
    rw [hx] at h
    cases h
  | some x =>
    cases hy : ys[i]? with
    | none =>
      rw [hx, hy] at h
      cases h
    | some y =>
      rw [hx, hy] at h
      cases h
      exact ⟨x, y, rfl, rfl, rfl⟩
section
variable {X : Cx} {E : XW} {e e2 a b c : Expr} {fs : FA} {pos : Pos}
theorem Rv.lst_at {G : Gc} {A : Addr → Prop} {H : Hp} {v : V} {ds : List D} (h : Rv G A H v (.lst ds)) : ∃ a vs, v = .ref a ∧ ¬ A a ∧ H a = some (.lst vs) ∧ RvL G A H vs ds := h
theorem Rv.tup_at {G : Gc} {A : Addr → Prop} {H : Hp} {v : V} {ds : List D} (h : Rv G A H v (.tup ds)) : ∃ a vs, v = .ref a ∧ ¬ A a ∧ H a = some (.tup vs) ∧ RvL G A H vs ds := h
theorem ii_zip {p tpos : Pos} {elts : List Expr} {kk : Nat} (hg : Gl X "zip") (hm : X.mg "zip" = none) (ha : EA X E [e, e2] fs)
    (hs : starEach [e, e2] X.env = (false, eval e X.env) :: starEach [e2] X.env := by rfl) (hpl : (backTo pos (starEach [e2] X.env)).any (·.1) = false := by rfl) :
    II X E (.Tuple elts kk tpos) (.Call (.Name "zip" p) [e, e2] [] pos) (iZip fs) :=
  PI.imp (RZ.pi_zipA hg hm ha hs hpl) fun σ H Q ⟨W, τ, s, m⟩ => by
    refine EAt.at (Ev.refl s) m.bind fun hs τ1 vs H1 W1 q ev r _ => ?_
    have ks : Keeps (Av W1 σ τ1) (Av W σ τ1) H1 H1 := Keeps.less fun a q => q.elim (fun q => .inl (ev.wsub a q)) .inr
    dsimp only at q
    split at q
    · rename_i xs ys
      obtain ⟨v, r1, e1, h1, w, r2, e2', h2, h3⟩ := r
      have h3' : r2 = [] := h3
      subst h3' e2'
      obtain ⟨a, us, e3, n1, g1, l1⟩ := Rv.lst_at (Rv.keep ks _ _ h1)
      obtain ⟨b, ws, e4, n2, g2, l2⟩ := Rv.lst_at (Rv.keep ks _ _ h2)
      subst e3 e4
      refine ⟨a, b, us, ws, e1, .inl ⟨.inl (.inl g1), .inl (.inl g2), q _ H1 ev.base ⟨fun W2 σ2 H2 τ2 e i d hd => ?_, fun W2 σ2 H2 τ2 e => ?_⟩⟩⟩
      · obtain ⟨x, y, hx, hy, rfl⟩ := zipL_get hd
        obtain ⟨vx, k1, k2⟩ := RvL.get l1 hx
        obtain ⟨vy, k3, k4⟩ := RvL.get l2 hy
        have f1 : H2 a = some (.lst us) := (e.keeps a _ g1 n1).1
        have f2 : H2 b = some (.lst ws) := (e.keeps b _ g2 n2).1
        refine ⟨⟨us, ws, vx, vy, .inl (.inl f1), .inl (.inl f2), k1, k3⟩, fun x' H3 y' => ?_⟩
        obtain ⟨t, x2, y2, z1, z2, z3, z4, z5⟩ := y'
        have z4' := z4 us (.inl (.inl f1))
        have z5' := z5 ws (.inl (.inl f2))
        rw [k1] at z4'
        rw [k3] at z5'
        cases z4'
        cases z5'
        subst z1 z3
        refine ⟨same_new z2, ?_⟩
        exact new_tup (fun c y => e.st.avT y) z2 ⟨_, [_], rfl, Rv.keep e.keeps _ _ k2, _, [], rfl, Rv.keep e.keeps _ _ k4, rfl⟩
      · have f1 : H2 a = some (.lst us) := (e.keeps a _ g1 n1).1
        have f2 : H2 b = some (.lst ws) := (e.keeps b _ g2 n2).1
        refine ⟨us, ws, .inl (.inl f1), .inl (.inl f2), ?_⟩
        rw [RvL.length l1, RvL.length l2]
        unfold zipL
        rw [List.length_zipWith]
        omega
    · rename_i xs ys
      obtain ⟨v, r1, e1, h1, w, r2, e2', h2, h3⟩ := r
      have h3' : r2 = [] := h3
      subst h3' e2'
      obtain ⟨a, us, e3, n1, g1, l1⟩ := Rv.tup_at (Rv.keep ks _ _ h1)
      obtain ⟨b, ws, e4, n2, g2, l2⟩ := Rv.tup_at (Rv.keep ks _ _ h2)
      subst e3 e4
      refine ⟨a, b, us, ws, e1, .inr ⟨.inl (.inl g1), .inl (.inl g2), q _ H1 ev.base ⟨fun W2 σ2 H2 τ2 e i d hd => ?_, fun W2 σ2 H2 τ2 e => ?_⟩⟩⟩
      · obtain ⟨x, y, hx, hy, rfl⟩ := zipL_get hd
        obtain ⟨vx, k1, k2⟩ := RvL.get l1 hx
        obtain ⟨vy, k3, k4⟩ := RvL.get l2 hy
        have f1 : H2 a = some (.tup us) := (e.keeps a _ g1 n1).1
        have f2 : H2 b = some (.tup ws) := (e.keeps b _ g2 n2).1
        refine ⟨⟨us, ws, vx, vy, .inl (.inl f1), .inl (.inl f2), k1, k3⟩, fun x' H3 y' => ?_⟩
        obtain ⟨t, x2, y2, z1, z2, z3, z4, z5⟩ := y'
        have z4' := z4 us (.inl (.inl f1))
        have z5' := z5 ws (.inl (.inl f2))
        rw [k1] at z4'
        rw [k3] at z5'
        cases z4'
        cases z5'
        subst z1 z3
        refine ⟨same_new z2, ?_⟩
        exact new_tup (fun c y => e.st.avT y) z2 ⟨_, [_], rfl, Rv.keep e.keeps _ _ k2, _, [], rfl, Rv.keep e.keeps _ _ k4, rfl⟩
      · have f1 : H2 a = some (.tup us) := (e.keeps a _ g1 n1).1
        have f2 : H2 b = some (.tup ws) := (e.keeps b _ g2 n2).1
        refine ⟨us, ws, .inl (.inl f1), .inl (.inl f2), ?_⟩
        rw [RvL.length l1, RvL.length l2]
        unfold zipL
        rw [List.length_zipWith]
        omega
    · exact q.elim
end
end F
set_option Elab.async false
set_option linter.all false
set_option maxRecDepth 100000
set_option maxHeartbeats 4000000
/-! FR: how many a set has (own work) -/
namespace F
open PySem L2

def dedupe {α : Type} [DecidableEq α] : List α → List α
  | [] => []
  | x :: xs => if x ∈ xs then dedupe xs else x :: dedupe xs
theorem mem_dedupe {α : Type} [DecidableEq α] {y : α} : ∀ {xs : List α}, y ∈ dedupe xs ↔ y ∈ xs
  | [] => Iff.rfl
  | x :: xs => by
    unfold dedupe
    split
    · rename_i h
      rw [mem_dedupe, List.mem_cons]
      exact ⟨.inr, fun z => z.elim (fun z => by rw [z]; exact h) fun z => z⟩
    · rw [List.mem_cons, List.mem_cons, mem_dedupe]
theorem nodup_dedupe {α : Type} [DecidableEq α] : ∀ xs : List α, (dedupe xs).Nodup
  | [] => List.nodup_nil
  | x :: xs => by
    unfold dedupe
    split
    · exact nodup_dedupe xs
    · rename_i h
      exact List.nodup_cons.mpr ⟨fun z => h (mem_dedupe.mp z), nodup_dedupe xs⟩
theorem dedupe_nodup {α : Type} [DecidableEq α] : ∀ {xs : List α}, xs.Nodup → dedupe xs = xs
  | [], _ => rfl
  | x :: xs, h => by
    obtain ⟨h1, h2⟩ := List.nodup_cons.mp h
    unfold dedupe
    rw [if_neg h1, dedupe_nodup h2]
theorem dedupe_len {α : Type} [DecidableEq α] {xs ys : List α} (n : ys.Nodup) (h1 : ∀ y ∈ ys, y ∈ xs) (h2 : ∀ y ∈ xs, y ∈ ys) : ys.length = (dedupe xs).length :=
  ((List.perm_ext_iff_of_nodup n (nodup_dedupe xs)).mpr fun a => ⟨fun z => mem_dedupe.mpr (h1 a z), fun z => h2 a (mem_dedupe.mp z)⟩).length_eq
theorem dedupe_le {α : Type} [DecidableEq α] : ∀ xs : List α, (dedupe xs).length ≤ xs.length
  | [] => Nat.le_refl _
  | x :: xs => by
    unfold dedupe
    have := dedupe_le xs
    split
    · rw [List.length_cons]
      omega
    · rw [List.length_cons, List.length_cons]
      omega
theorem dedupe_full {α : Type} [DecidableEq α] : ∀ {xs : List α}, (dedupe xs).length = xs.length ↔ xs.Nodup
  | [] => ⟨fun _ => List.nodup_nil, fun _ => rfl⟩
  | x :: xs => by
    unfold dedupe
    have le := dedupe_le xs
    rw [List.nodup_cons]
    split
    · rename_i h
      rw [List.length_cons]
      exact ⟨fun z => by omega, fun z => absurd h z.1⟩
    · rename_i h
      rw [List.length_cons, List.length_cons]
      exact ⟨fun z => ⟨h, dedupe_full.mp (by omega)⟩, fun z => by rw [dedupe_full.mpr z.2]⟩
/-- rows of whole numbers -/
def rowsI : List D → Option (List (List Int))
  | [] => some []
  | .tup xs :: r => match nums xs, rowsI r with
    | some a, some b => some (a :: b)
    | _, _ => none
  | _ :: _ => none
theorem rowsI_of (ks : List (List Int)) : rowsI (ks.map fun k => D.tup (k.map D.int)) = some ks := by
  induction ks with
  | nil => rfl
  | cons k ks ih =>
    rw [List.map_cons, rowsI, nums_of, ih]
theorem rowsI_at {G : Gc} {A : Addr → Prop} {H : Hp} : ∀ {ds : List D} {vs : List V} {ks : List (List Int)}, RvL G A H vs ds → rowsI ds = some ks → ∃ rs : List (Addr × List Int), vs = rs.map (fun p => V.ref p.1) ∧ rs.map (·.2) = ks ∧ ∀ p ∈ rs, SqT G.K H p.1 (p.2.map V.int)
  | [], vs, ks, l, h => by
    cases h
    have : vs = [] := l
    exact ⟨[], this, rfl, fun p hp => nomatch hp⟩
  | d :: ds, vs, ks, ⟨v, r, e, hv, l⟩, h => by
    cases d with
    | tup xs =>
      unfold rowsI at h
      split at h
      · rename_i a b h1 h2
        cases h
        obtain ⟨rs, q1, q2, q3⟩ := rowsI_at l h2
        obtain ⟨p, us, k1, _, k2, k3⟩ := Rv.tup_at hv
        rw [nums_map h1] at k3
        rw [RvL.ints_of k3] at k2
        refine ⟨(p, a) :: rs, by rw [e, k1, q1, List.map_cons], by rw [List.map_cons, q2], fun z hz => ?_⟩
        rcases List.mem_cons.mp hz with hz | hz
        · rw [hz]
          exact .inl (.inl k2)
        · exact q3 z hz
      · cases h
    | _ => cases h
section
variable {X : Cx} {E : XW} {a : Expr} {f : FE}
def lenSet : D → Option Hd
  | .lst xs => (rowsI xs).bind fun ks => if decide (ks.length < 64) = true then some (.fro (.int (dedupe ks).length)) else none
  | _ => none
theorem run_lenSet {x : V} {u : Value} {pins : List (Addr × Obj)} {s1 : Shared} {σ : St} {H1 : Hp} {Q : VK} (hc : X.calm = true) (hu : X.A.units + 64 < cLine) (I1 : Inv X pins σ H1 s1) (r1 : RelV x u) (h : rOp1 (gc X) lenSet x H1 Q) :
    wpAny (model X.prog X.w) X.A (call (.type "set") [u]) (fun y s2 => wpAny (model X.prog X.w) X.A (call (.builtin "len") [y]) (EP X pins σ Q) X.xe s2) X.xe s1 := by
  obtain ⟨A, d, h, hA, hd, ho, q⟩ := h
  unfold lenSet at ho
  split at ho
  · rename_i xs
    obtain ⟨ks, k1, k2⟩ := Option.bind_eq_some_iff.mp ho
    split at k2
    · rename_i z
      cases k2
      obtain ⟨p, vs, e1, r, l⟩ := hd.lst
      subst e1
      obtain rfl : u = Value.ref p := r1
      obtain ⟨rs, q1, q2, q3⟩ := rowsI_at l k1
      obtain ⟨its, rv, pl, hz⟩ := I1.list (X := X) (.inl (.inl r))
      rw [q1] at rv
      have hl : rs.length = ks.length := by rw [← q2, List.length_map]
      refine call_set_tups (P := X.prog) (w := X.w) rs (I1.ok.hd hc) pl.isList (by simpa using refs_of_vals rv) (fun p hp => I1.isT (q3 p hp)) (by rw [hl]; exact of_decide_eq_true z) (by omega) fun h' tk L es ep t R g k => ?_
      obtain ⟨o, ho, hex, hd⟩ := R.ob
      have hsz := SetTR.size (s := { s1 with heap := h', toks := tk }) R
      have hlen : (dedupe ks).length = L.length := by
        rw [← dedupe_len (ys := L.map (·.2)) R.nd (fun y hy => ?_) fun y hy => ?_, List.length_map]
        · obtain ⟨p, hp, e⟩ := List.mem_map.mp hy
          rw [← e, ← q2]
          exact List.mem_map.mpr ⟨p, List.mem_of_mem_take (g.sub p hp), rfl⟩
        · rw [← q2] at hy
          obtain ⟨p, hp, e⟩ := List.mem_map.mp hy
          rw [← e]
          exact g.all p (by rw [List.take_length]; exact hp)
      have few := R.few
      refine call_len_set ho hex hd (SetTR.fits (s := { s1 with heap := h', toks := tk }) R) (by rw [hsz]; omega) ?_
      have I2 : Inv X pins σ H1 { s1 with heap := h', toks := tk } := I1.kept k
      refine ⟨.int (dedupe ks).length, H1, I2.tok _, ⟨_, by rw [hsz, hlen]⟩, q _ H1 (Same.refl _) rfl⟩
    · cases k2
  · cases ho
theorem ee_lenSet {p p2 q pos : Pos} (hc : X.calm = true) (hu : X.A.units + 64 < cLine) (hg : Gl X "len") (hm : X.mg "len" = none) (hg2 : Gl X "set") (hm2 : X.mg "set" = none) (ha : EE X E a f)
    (na : starEach [a] X.env = (false, eval a X.env) :: starEach [] X.env := by rfl) : EE X E (.Call (.Name "len" p) [.Call (.Name "set" p2) [a] [] q] [] pos) (sOp1 lenSet f) := by
  refine ⟨fun pins s σ H Q I h0 => ?_⟩
  have h := op1_at h0
  refine PyProof.Rows.Call_ (ld_blt I hg hm PySem.boot_len ?_)
  refine PyProof.Rows.callWith_builtin1 (PyProof.Rows.args_cons ?_ rfl) rfl rfl
  refine PyProof.Rows.Call_ (ld_blt I hg2 hm2 PyProof.Rows.boot_set ?_)
  refine PyProof.Rows.callWith_type1 (PyProof.Rows.args_cons (thn (ha.run pins s σ H _ I h) fun v s1 ⟨x, H1, I1, r1, q1⟩ => PyProof.Rows.args_nil ?_) na) na rfl
  exact thn (run_lenSet hc hu I1 r1 q1) fun y s2 z => PyProof.Rows.args_nil z
end
end F
set_option Elab.async false
set_option linter.all false
set_option maxRecDepth 100000
set_option maxHeartbeats 4000000
/-! FS: the law's own end, over defs that ask for no guards (own work, after the library's shape of such an end) -/
namespace F
open PySem L2 PySem.Spec PyProof.Rows

abbrev EndP (h1 : Shared) (r : Result) (s' : Shared) : Prop := r = .ok (.ret (.bool true)) ∧ OldK h1.heap s'.heap ∧ s'.os = h1.os ∧ AllBare s'.gens
section
variable {P : Program} {w : World} {K : PySem.W.Frag} {mg mb : Str → Option Value} {CX : CXT} {k : Nat} {fa a : Addr} {fd : FuncData} {x : Str} {sp : Sp} {h1 : Shared} {us : List Value} {zs : List Int}
/-- from an abstract heap in which nothing but the script may be tracked -/
theorem end_core (inK : K.In h1.heap) (nsG : h1.heap.Ns mainGlobals mg) (nsB : h1.heap.Ns builtinsNs mb) (bbs : ∀ x : Str, x ≠ "__name__" → mb x = bootBuiltins x) (nl : h1.heap.NoLimit) (gen0 : h1.gens = #[])
    (atA : h1.heap.get? a = some { cls := .type "list", data := .seq us.toArray }) (room : Room k callerA) (gd : callerA.guards = some [])
    (FN : ∀ base : Heap, K.In base → base.Ns mainGlobals mg → FnG P w K mg base CX k fa fd [x] sp) (bnd : ∀ (s : Shared) (u : Value), BindsTo s fd ⟨[u], []⟩ [(x, u)])
    (prom : ∀ H : Hp, Only H → SqL K H a (zs.map V.int) → sp [.ref a] H (fun v _ => v = .bl true) fun _ _ _ => False)
    (nox : ∀ H e s', CX [] H h1 (fun _ _ _ => False) e s' → False) (H : Hp) (onl : Only H) (sq : SqL K H a (zs.map V.int)) (hk : HOk P w H h1.heap) (lone : ∀ b, H b ≠ none → b = a) (offK : H a ≠ none → K.lookup a = none) :
    codeAny (model P w) callerA (.call (.ref fa) ⟨[.ref a], []⟩) (EndP h1) h1 := by
  have bs : ∀ {b : Addr} {o : Obj}, h1.heap.get? b = some o → H b = none → (hidT h1.heap H).get? b = some o := fun e n => hidT_get e n
  have isA : ∀ {b : Addr} {u : HO}, H b = some u → b = a := fun {b u} q => lone b fun z => by
    rw [q] at z
    cases z
  have dictOff : ∀ {b : Addr} {o : Obj} {es : Array DictEntry} {ep : Nat}, h1.heap.get? b = some o → o.data = .dict es ep → H b = none := fun {b o es ep} e d => by
    cases q : H b with
    | none => rfl
    | some u =>
      have eb := isA q
      subst eb
      rw [atA] at e
      cases e
      have d' : Data.seq us.toArray _ = Data.dict es ep := d
      cases d'
  have nsM : ∀ {b : Addr} {m : Str → Option Value}, h1.heap.Ns b m → (hidT h1.heap H).Ns b m := fun {b m} ⟨o, es, ep, e, d, r⟩ => ⟨o, es, ep, bs e (dictOff e d), d, r⟩
  have inB : K.In (hidT h1.heap H) := fun b o e => bs (inK b o e) (by
    cases q : H b with
    | none => rfl
    | some u =>
      have eb := isA q
      subst eb
      have off := offK fun z => by
        rw [q] at z
        cases z
      rw [off] at e
      cases e)
  obtain ⟨ml, l1, l2⟩ := nl
  have md : Mod K mg (hidT h1.heap H) := ⟨inB, nsM nsG, ⟨mb, nsM nsB, bbs⟩, ml, nsM l1, l2⟩
  have env : Env0 P w K mg (hidT h1.heap H) callerA [] h1 H := ⟨rfl, md, fun b o e => of_hidT e, Nat.le_of_eq (hidT_size _ _), trivial, fun b hb => absurd hb List.not_mem_nil, hk, .of_eq gen0⟩
  refine codeAny_mono ((FN _ inB (nsM nsG)).run callerA [] h1 H ⟨[.ref a], []⟩ [.ref a] [.ref a] _ _ room gd env (bnd h1 (.ref a)) (.cons rfl .nil) (prom H onl sq)) fun r s' z => ?_
  cases r with
  | error e => exact (nox H e s' z).elim
  | ok fl =>
    cases fl with
    | ret u =>
      obtain ⟨v, H', eo, eb, un, hk', rv, q⟩ := z
      have q' : v = .bl true := q
      subst q'
      obtain rfl : u = Value.bool true := rv
      refine ⟨rfl, OldK.of_keep fun b o e => ?_, eo, eb⟩
      cases q : H b with
      | none => exact un.keep b o e q (fun z => absurd z List.not_mem_nil) (by simp)
      | some u =>
        rcases onl b with z | ⟨ob, xs, z⟩
        · rw [q] at z
          cases z
        · obtain ⟨e1, _⟩ := hk b _ z
          obtain ⟨e2, _⟩ := hk' b _ (un.frzs b ob _ z)
          rw [e] at e1
          cases e1
          exact e2
    | next => exact z.elim
    | brk => exact z.elim
    | cont => exact z.elim
theorem end_call (inK : K.In h1.heap) (nsG : h1.heap.Ns mainGlobals mg) (nsB : h1.heap.Ns builtinsNs mb) (bbs : ∀ x : Str, x ≠ "__name__" → mb x = bootBuiltins x) (nl : h1.heap.NoLimit) (gen0 : h1.gens = #[])
    (atA : h1.heap.get? a = some { cls := .type "list", data := .seq us.toArray }) (are : IntsAre us zs) (few : zs.length ≤ sizeLine) (room : Room k callerA) (gd : callerA.guards = some [])
    (FN : ∀ base : Heap, K.In base → base.Ns mainGlobals mg → FnG P w K mg base CX k fa fd [x] sp) (bnd : ∀ (s : Shared) (u : Value), BindsTo s fd ⟨[u], []⟩ [(x, u)])
    (prom : ∀ H : Hp, Only H → SqL K H a (zs.map V.int) → sp [.ref a] H (fun v _ => v = .bl true) fun _ _ _ => False)
    (nox : ∀ H e s', CX [] H h1 (fun _ _ _ => False) e s' → False) : codeAny (model P w) callerA (.call (.ref fa) ⟨[.ref a], []⟩) (EndP h1) h1 := by
  have rv := vals_ints are
  have core := end_core (us := us) (zs := zs) inK nsG nsB bbs nl gen0 atA room gd FN bnd prom nox
  cases look : K.lookup a with
  | some o =>
    have e := inK a o look
    rw [atA] at e
    cases e
    have no : ∀ (b : Addr) (u : HO), (none : Option HO) = some u → False := fun b u z => by cases z
    exact core (fun _ => none) (fun _ => .inl rfl) (.inr ⟨_, us.toArray, _, look, rfl, rfl, rfl, by rw [List.size_toArray, are.length]; exact few, by simpa using rv⟩) (fun b u z => (no b u z).elim) (fun b z => absurd rfl z) fun z => absurd rfl z
  | none =>
    let Hs : Hp := fun b => if b = a then some (.frz { cls := .type "list", data := .seq us.toArray } (.lst (zs.map V.int))) else none
    have at_ : Hs a = some (.frz { cls := .type "list", data := .seq us.toArray } (.lst (zs.map V.int))) := if_pos rfl
    have off : ∀ b, b ≠ a → Hs b = none := fun b n => if_neg n
    refine core Hs (fun b => ?_) (.inl (.inr ⟨_, at_⟩)) (fun b u z => ?_) (fun b z => Classical.byContradiction fun n => z (off b n)) fun _ => look
    · by_cases eb : b = a
      · exact .inr ⟨_, _, by rw [eb]; exact at_⟩
      · exact .inl (off b eb)
    · by_cases eb : b = a
      · subst eb
        rw [at_] at z
        cases z
        exact ⟨atA, by rw [List.length_map]; exact few, us, _, rv, atA⟩
      · rw [off b eb] at z
        cases z
end
/-- a law's end, its def's function given -/
theorem walk_g {l : PySem.W.OpenLaw} {n k : Nat} {q : Program} {loose : List Str} {XP : (Str → Option Value) → Heap → Prop} {YP : World → Heap → Prop} {d : DefRec} {CX : CXT} {x : Str}
    (most : l.most = some n) (small : n ≤ sizeLine) (nodef : d.params.defaults = []) (room : Room k callerA) (gd : callerA.guards = some [])
    (FN : ∀ (w : World) (mg : Str → Option Value) (fa : Addr) (h : Heap), YP w h → h.Ns mainGlobals mg → mg d.name = some (.ref fa) →
      ∃ (K : PySem.W.Frag) (fd : FuncData) (sp : Sp), K.In h ∧ (∀ (s : Shared) (u : Value), BindsTo s fd ⟨[u], []⟩ [(x, u)]) ∧
        (∀ (H : Hp) (a : Addr) (zs : List Int), zs.length ≤ n → Only H → SqL K H a (zs.map V.int) → sp [.ref a] H (fun v _ => v = .bl true) fun _ _ _ => False) ∧
        ∀ base : Heap, K.In base → base.Ns mainGlobals mg → FnG l.prog w K mg base CX k fa fd [x] sp)
    (nox : ∀ (H : Hp) (s : Shared) (e : Value) (s' : Shared), CX [] H s (fun _ _ _ => False) e s' → False) : PySem.W.WalkO q loose XP YP l.row.toRowW d [] (fun f vs => PySem.call f vs) := by
  refine Att.attach_call most nodef fun w s0 s1 mg mb fa o pm cd doc a us zs gg yy io id icd img iobj iis len gen0 => ?_
  obtain ⟨K, fd, sp, inK, bnd, prom, hF⟩ := FN w mg fa _ yy gg.T.g img
  exact end_call inK gg.T.g gg.T.b gg.T.builtins gg.T.nolimit gen0 iobj iis (Nat.le_trans len small) room gd hF bnd (fun H onl sq => prom H a zs len onl sq) fun H e s' => nox H s1 e s'
theorem caller_guards : callerA.guards = some [] := by rfl
/-- the promise of a law's def, from what its function says -/
theorem law_prom {P : Program} {w : World} {K : PySem.W.Frag} {mg : Str → Option Value} {Fl : FnR} {xw : XK → XW} {n : Nat} (good : ∀ zs : List Int, zs.length ≤ n → ∃ os, Fl [.fro (.scr zs)] = .ok (.fro (.bl true), os))
    (H : Hp) (a : Addr) (zs : List Int) (hn : zs.length ≤ n) (onl : Only H) (sq : SqL K H a (zs.map V.int)) : spF ⟨P, w, K, mg⟩ xw 1 Fl [.ref a] H (fun v _ => v = .bl true) fun _ _ _ => False := by
  obtain ⟨os, e⟩ := good zs hn
  have noOw : ∀ b, ¬ Ow (fr [V.ref a]) (ft [Sl.fro (D.scr zs)]) b := fun b ⟨i, c, d, h1, _⟩ => by
    have h1' := ft_get.mp h1
    cases i with
    | zero => simp at h1'
    | succ i => simp at h1'
  have rs : ∀ A : Addr → Prop, (∀ b, ¬ A b) → Rv ⟨P, w, K, mg⟩ A H (.ref a) (.scr zs) := fun A nA => ⟨a, rfl, by
    rcases sq with h | ⟨o, its, m, h⟩
    · exact .inl ⟨nA a, h⟩
    · exact .inr fun H' => .inr ⟨o, its, m, h⟩⟩
  refine ⟨fun _ => False, [.fro (.scr zs)], rfl, ⟨fun b z => z.elim, fun i d h1 => ?_, fun i b d h1 => ?_, fun i j b c d e' b' h1 => ?_, rfl, fun b ⟨i, d, h1, _⟩ => ?_⟩, rfl, ?_⟩
  · have h1' := ft_get.mp h1
    cases i with
    | zero =>
      simp at h1'
      subst h1'
      exact ⟨.ref a, rfl, rs _ fun b z => z.elim (fun z => z) (noOw b)⟩
    | succ i => simp at h1'
  · have h1' := ft_get.mp h1
    cases i with
    | zero => simp at h1'
    | succ i => simp at h1'
  · have h1' := ft_get.mp h1
    cases i with
    | zero => simp at h1'
    | succ i => simp at h1'
  · have h1' := ft_get.mp h1
    cases i with
    | zero => simp at h1'
    | succ i => simp at h1'
  · rw [e]
    exact fun v H' A' _ r => r
end F
set_option Elab.async false
set_option linter.all false
set_option maxRecDepth 100000
set_option maxHeartbeats 4000000
/-! FT: short names for what a generated text uses (own work) -/
namespace F
open PySem L2

def bB (x : String) : Prop := bootBuiltins (Str.ofString x) = some (.builtin x)
def bT (x : String) : Prop := bootBuiltins (Str.ofString x) = some (.type x)
theorem bt_len : bB "len" := by unfold bB; decide +kernel
theorem bt_abs : bB "abs" := by unfold bB; decide +kernel
theorem bt_min : bB "min" := by unfold bB; decide +kernel
theorem bt_max : bB "max" := by unfold bB; decide +kernel
theorem bt_sum : bB "sum" := by unfold bB; decide +kernel
theorem bt_all : bB "all" := by unfold bB; decide +kernel
theorem bt_any : bB "any" := by unfold bB; decide +kernel
theorem bt_sorted : bB "sorted" := by unfold bB; decide +kernel
theorem bt_repr : bB "repr" := by unfold bB; decide +kernel
theorem bt_isinstance : bB "isinstance" := by unfold bB; decide +kernel
theorem bt_int : bT "int" := by unfold bT; decide +kernel
theorem bt_str : bT "str" := by unfold bT; decide +kernel
theorem bt_bool : bT "bool" := by unfold bT; decide +kernel
theorem bt_list : bT "list" := by unfold bT; decide +kernel
theorem bt_tuple : bT "tuple" := by unfold bT; decide +kernel
theorem bt_set : bT "set" := by unfold bT; decide +kernel
theorem bt_dict : bT "dict" := by unfold bT; decide +kernel
/-- the body of a class -/
def clsB : Stmt → List Stmt
  | .ClassDef (body := b) .. => b
  | _ => []
def pass0' : Stmt := .Pass ⟨0, 0, 0, 0⟩
def xn : XK → XW := fun _ => xw0
def sNever : FS := fun _ => .stuck
theorem ss_nev {X : Cx} {E : XW} {st : Stmt} : SS X E st sNever := ss_never
def bV (f : FE) : T → R (Bool × T) := fun τ => asB (f τ)
def sBrk : FS := fun τ => .ok (.bk τ)
def sCnt : FS := fun τ => .ok (.ct τ)
theorem ss_brk {X : Cx} {E : XW} {pos : Pos} : SS X E (.Break pos) sBrk := ss_break
theorem ss_cnt {X : Cx} {E : XW} {pos : Pos} : SS X E (.Continue pos) sCnt := ss_continue
/-- the room that a body has -/
theorem rm {k : Nat} {A : Around} (h : Room k A) : A.units + 65 < cLine := by
  have := h.un
  omega
theorem rm4 {k : Nat} {A : Around} (h : Room k A) : A.units + 64 < cLine := by
  have := h.un
  omega
section
variable {X : Cx} {E : XW}
theorem ee_bty {x : String} {pos : Pos} (hg : Gl X (Str.ofString x)) (hm : X.mg (Str.ofString x) = none) (hv : bT x) (hn : Str.ofString x ≠ "__name__" := by decide) (hd : (Str.ofString x == ("__debug__" : Str)) = false := by decide) : EE X E (.Name (Str.ofString x) pos) (sC (.ty x)) :=
  ee_tyc (pe_bltn hg hm hv rfl hn hd)
end
/-- the facts of a def -/
def DefF (K : PySem.W.Frag) (mg : Str → Option Value) (x : Str) (st : Stmt) : Prop := ∃ (f : Addr) (fd : FuncData), mg x = some (.ref f) ∧ FunD K x x (defArgs st) (defBody st) (defScope st) [] [] f fd
def IntF (mg : Str → Option Value) (x : Str) (i : Int) : Prop := ∃ t, mg x = some (.int i t)
/-- the facts of a class whose instances are made -/
structure ClassF (K : PySem.W.Frag) (mg : Str → Option Value) (C : Str) (fs : List Str) (ms : List (Str × Stmt)) (ini : Stmt) : Prop where
  ex : ∃ Ca, mg C = some (.ref Ca) ∧ Cls K Ca ∧ (∀ f ∈ fs, NoAttr K Ca f) ∧ (∀ m ∈ ms, ∃ f fd, Meth K Ca m.1 f ∧ FunD K m.1 (C ++ ("." : Str) ++ m.1) (defArgs m.2) (defBody m.2) (defScope m.2) [] [] f fd) ∧
    ∃ f fd, Mk K Ca f ∧ FunD K "__init__" (C ++ (".__init__" : Str)) (defArgs ini) (defBody ini) (defScope ini) [] [] f fd
theorem ClassF.fld {K : PySem.W.Frag} {mg : Str → Option Value} {C : Str} {fs : List Str} {ms : List (Str × Stmt)} {ini : Stmt} (c : ClassF K mg C fs ms ini) {f : Str} (h : f ∈ fs) : ClsF K mg C f := by
  obtain ⟨Ca, h1, h2, h3, _⟩ := c.ex
  exact ⟨Ca, h1, h2, h3 f h⟩
end F
namespace F
theorem at_str : PySem.PlainAttrs "str" := PySem.F.plainAttrs_str
theorem at_list : PySem.PlainAttrs "list" := PySem.F.plainAttrs_list
theorem sl_join : PySem.Slot "str" "join" "str.join" := PySem.F.slot_str_join
theorem sl_append : PySem.Slot "list" "append" "list.append" := PySem.F.slot_list_append
theorem sl_pop : PySem.Slot "list" "pop" "list.pop" := PySem.F.slot_list_pop
end F
set_option Elab.async false
set_option linter.all false
set_option maxRecDepth 100000
set_option maxHeartbeats 4000000
/-! FU: running the functions by simp (own work) -/
namespace F
open PySem L2

section
variable {α β : Type} {τ : T} {d e : D} {i j : Nat} {b : Bool}
@[simp] theorem bind_ok (a : α) (f : α → R β) : (R.ok a).bind f = f a := rfl
@[simp] theorem bind_ex (c : Str) (d : D) (f : α → R β) : (R.ex c d).bind f = .ex c d := rfl
@[simp] theorem bind_stuck (f : α → R β) : (R.stuck : R α).bind f = .stuck := rfl
@[simp] theorem ofO_some (a : α) : ofO (some a) = .ok a := rfl
@[simp] theorem chk_true : chk true = .ok () := rfl
@[simp] theorem noex_ok (a : α) : noex (R.ok a) = .ok a := rfl
theorem bind_ite {c : Prop} [Decidable c] (x y : R α) (f : α → R β) : (if c then x else y).bind f = if c then x.bind f else y.bind f := by
  split <;> rfl
def vw (i : Nat) (τ : T) : Option (Option Sl) → R (Hd × T)
  | some (some (.fro d)) => .ok (.fro d, τ)
  | some (some (.own _ _)) => .ok (.slot i, τ)
  | _ => .stuck
@[simp] theorem sVar_eq : sVar i τ = vw i τ τ[i]? := by
  unfold sVar vw
  rcases τ[i]? with _ | _ | d | ⟨b, d⟩ <;> rfl
@[simp] theorem vw_fro : vw i τ (some (some (.fro d))) = .ok (.fro d, τ) := rfl
@[simp] theorem vw_own : vw i τ (some (some (.own b d))) = .ok (.slot i, τ) := rfl
def pk : Option (Option Sl) → Option D
  | some (some (.own _ d)) => if d.mu = true then some d else none
  | some (some (.fro d)) => some d
  | _ => none
@[simp] theorem peek_fro : peek τ (.fro d) = some d := rfl
@[simp] theorem peek_tmp : peek τ (.tmp d) = if d.mu = true then some d else none := rfl
@[simp] theorem peek_slot : peek τ (.slot j) = pk τ[j]? := by
  unfold peek pk
  first
    | (dsimp only; done)
    | (dsimp only; rcases τ[j]? with _ | _ | d | ⟨_ | _, d⟩ <;> rfl)
@[simp] theorem pk_fro : pk (some (some (.fro d))) = some d := rfl
@[simp] theorem pk_own : pk (some (some (.own b d))) = if d.mu = true then some d else none := rfl
@[simp] theorem mu_lst (xs : List D) : D.mu (.lst xs) = true := rfl
@[simp] theorem mu_dct (xs : List (D × D)) : D.mu (.dct xs) = true := rfl
@[simp] theorem mu_ins (C : Str) (fs : List (Str × D)) : D.mu (.ins C fs) = true := rfl
@[simp] theorem still_lst (xs : List D) : D.still (.lst xs) = true := rfl
@[simp] theorem still_dct (xs : List (D × D)) : D.still (.dct xs) = true := rfl
@[simp] theorem still_tup (xs : List D) : D.still (.tup xs) = true := rfl
def fz (j : Nat) (τ : T) : Option (Option Sl) → R (D × T)
  | some (some (.own false d)) => if d.still then .ok (d, τ.set j (some (.fro d))) else .stuck
  | some (some (.fro d)) => .ok (d, τ)
  | _ => .stuck
@[simp] theorem frz_fro : frz τ (.fro d) = .ok (d, τ) := rfl
@[simp] theorem frz_tmp : frz τ (.tmp d) = if d.still then .ok (d, τ) else .stuck := rfl
@[simp] theorem frz_slot : frz τ (.slot j) = fz j τ τ[j]? := by
  unfold frz fz
  first
    | (dsimp only; done)
    | (dsimp only; rcases τ[j]? with _ | _ | d | ⟨_ | _, d⟩ <;> rfl)
@[simp] theorem fz_fro : fz j τ (some (some (.fro d))) = .ok (d, τ) := rfl
@[simp] theorem fz_own : fz j τ (some (some (.own false d))) = if d.still then .ok (d, τ.set j (some (.fro d))) else .stuck := rfl
def mv (j : Nat) (τ : T) : Option (Option Sl) → R (Hd × T)
  | some (some (.own false d)) => .ok (.tmp d, τ.set j none)
  | some (some (.fro d)) => .ok (.fro d, τ)
  | _ => .stuck
@[simp] theorem mov_fro : mov τ (.fro d) = .ok (.fro d, τ) := rfl
@[simp] theorem mov_tmp : mov τ (.tmp d) = .ok (.tmp d, τ) := rfl
@[simp] theorem mov_slot : mov τ (.slot j) = mv j τ τ[j]? := by
  unfold mov mv
  first
    | (dsimp only; done)
    | (dsimp only; rcases τ[j]? with _ | _ | d | ⟨_ | _, d⟩ <;> rfl)
@[simp] theorem mv_fro : mv j τ (some (some (.fro d))) = .ok (.fro d, τ) := rfl
@[simp] theorem mv_own : mv j τ (some (some (.own false d))) = .ok (.tmp d, τ.set j none) := rfl
def sl1 (τ : T) : Option (Option Sl) → Option Sl
  | some (some (.own _ d)) => some (.own true d)
  | some (some (.fro d)) => some (.fro d)
  | _ => none
@[simp] theorem toSl_fro : toSl τ (.fro d) = some (.fro d) := rfl
@[simp] theorem toSl_tmp : toSl τ (.tmp d) = some (.own true d) := rfl
@[simp] theorem toSl_slot : toSl τ (.slot j) = sl1 τ τ[j]? := by
  unfold toSl sl1
  first
    | (dsimp only; done)
    | (dsimp only; rcases τ[j]? with _ | _ | d | ⟨_ | _, d⟩ <;> rfl)
@[simp] theorem sl1_fro : sl1 τ (some (some (.fro d))) = some (.fro d) := rfl
@[simp] theorem sl1_own : sl1 τ (some (some (.own b d))) = some (.own true d) := rfl
@[simp] theorem toSls_nil : toSls τ [] = some [] := rfl
def cns (a : Option α) (b : Option (List α)) : Option (List α) := match a, b with
  | some x, some xs => some (x :: xs)
  | _, _ => none
@[simp] theorem cns_some (a : α) (b : List α) : cns (some a) (some b) = some (a :: b) := rfl
@[simp] theorem toSls_cons {h : Hd} {hs : List Hd} : toSls τ (h :: hs) = cns (toSl τ h) (toSls τ hs) := by
  rw [toSls]
  unfold cns
  cases toSl τ h <;> cases toSls τ hs <;> rfl
@[simp] theorem peeks_nil : peeks τ [] = some [] := rfl
@[simp] theorem peeks_cons {h : Hd} {hs : List Hd} : peeks τ (h :: hs) = cns (peek τ h) (peeks τ hs) := by
  rw [peeks]
  unfold cns
  cases peek τ h <;> cases peeks τ hs <;> rfl
@[simp] theorem allFro_nil : allFro [] = some [] := rfl
@[simp] theorem allFro_cons {hs : List Hd} : allFro (.fro d :: hs) = (allFro hs).map (d :: ·) := rfl
@[simp] theorem hkey_fro : hkey (.fro d) = none := rfl
@[simp] theorem hkey_tmp : hkey (.tmp d) = some none := rfl
@[simp] theorem hkey_slot : hkey (.slot j) = some (some j) := rfl
@[simp] theorem okA_nil : okA [] = true := rfl
@[simp] theorem okA_fro {hs : List Hd} : okA (.fro d :: hs) = okA hs := rfl
@[simp] theorem okA_one {h : Hd} : okA [h] = true := by
  unfold okA
  split <;> rfl
@[simp] theorem okA_sl1 {hs : List Hd} : okA (.slot j :: .fro d :: hs) = okA (.slot j :: hs) := by
  unfold okA
  simp
@[simp] theorem okA_tm1 {hs : List Hd} : okA (.tmp e :: .fro d :: hs) = okA (.tmp e :: hs) := by
  unfold okA
  simp
@[simp] theorem shp_nil : shp [] [] = true := rfl
@[simp] theorem shp_fro {a b : List Sl} : shp (.fro d :: a) (.fro e :: b) = shp a b := rfl
@[simp] theorem shp_own {a c : List Sl} : shp (.own b d :: a) (.own true e :: c) = shp a c := rfl
@[simp] theorem wb_nil {os : List Sl} : wb [] os τ = τ := by
  cases os <;> rfl
@[simp] theorem wb_fro {hs : List Hd} {o : Sl} {os : List Sl} : wb (.fro d :: hs) (o :: os) τ = wb hs os τ := rfl
@[simp] theorem wb_tmp {hs : List Hd} {o : Sl} {os : List Sl} : wb (.tmp d :: hs) (o :: os) τ = wb hs os τ := rfl
def w1 (j : Nat) (d : D) (τ : T) : Option (Option Sl) → T
  | some (some (.own b _)) => τ.set j (some (.own b d))
  | _ => τ
@[simp] theorem wb_slot {hs : List Hd} {os : List Sl} : wb (.slot j :: hs) (.own b d :: os) τ = wb hs os (w1 j d τ τ[j]?) := by
  show wb hs os (wb1 (.slot j) (.own b d) τ) = _
  congr 1
@[simp] theorem wb_slotf {hs : List Hd} {os : List Sl} : wb (.slot j :: hs) (.fro d :: os) τ = wb hs os τ := rfl
@[simp] theorem w1_own : w1 j d τ (some (some (.own b e))) = τ.set j (some (.own b d)) := rfl
@[simp] theorem outs_nil : outs [] τ = some [] := rfl
@[simp] theorem outs_fro {r : List Sl} {x : Option Sl} : outs (.fro d :: r) (x :: τ) = (outs r τ).map (.fro d :: ·) := rfl
@[simp] theorem outs_own {r : List Sl} : outs (.own true d :: r) (some (.own true e) :: τ) = (outs r τ).map (.own true e :: ·) := rfl
@[simp] theorem sz_dec (n : Nat) : sz n = decide (n ≤ 16777216) := rfl
end
section
variable {τ : T} {f g k : FE} {fs : FA} {fb gb : T → R (Bool × T)} {d e : D} {i j n : Nat}
@[simp] theorem e_C : sC d τ = .ok (.fro d, τ) := rfl
@[simp] theorem e_Frz : sFrz f τ = (f τ).bind fun p => (frz p.2 p.1).bind fun q => .ok (.fro q.1, q.2) := rfl
def mvS (τ : T) : Hd → R (Hd × T)
  | .slot j => (frz τ (.slot j)).bind fun q => .ok (.fro q.1, q.2)
  | h => .ok (h, τ)
@[simp] theorem e_Mov : sMov f τ = (f τ).bind fun p => mvS p.2 p.1 := by
  unfold sMov mvS
  cases f τ with
  | ok p =>
    obtain ⟨h, τ'⟩ := p
    cases h <;> rfl
  | ex c d => rfl
  | stuck => rfl
@[simp] theorem mvS_fro : mvS τ (.fro d) = .ok (.fro d, τ) := rfl
@[simp] theorem mvS_tmp : mvS τ (.tmp d) = .ok (.tmp d, τ) := rfl
@[simp] theorem mvS_slot : mvS τ (.slot j) = (frz τ (.slot j)).bind fun q => .ok (.fro q.1, q.2) := rfl
@[simp] theorem e_Op2 {op : D → D → Option Hd} : sOp2 op f g τ = (f τ).bind fun p => (g p.2).bind fun q => (ofO (peek q.2 p.1)).bind fun d => (ofO (peek q.2 q.1)).bind fun e => (ofO (op d e)).bind fun h => .ok (h, q.2) := rfl
@[simp] theorem e_Op1 {op : D → Option Hd} : sOp1 op f τ = (f τ).bind fun p => (ofO (peek p.2 p.1)).bind fun d => (ofO (op d)).bind fun h => .ok (h, p.2) := rfl
def tru : Hd × T → R (Bool × T)
  | (.fro (.bl b), τ) => .ok (b, τ)
  | _ => .stuck
@[simp] theorem asB_eq {x : R (Hd × T)} : asB x = x.bind tru := by
  unfold asB
  cases x with
  | ok p =>
    obtain ⟨h, τ'⟩ := p
    cases h with
    | fro d => cases d <;> rfl
    | _ => rfl
  | ex c d => rfl
  | stuck => rfl
@[simp] theorem tru_bl {b : Bool} : tru (.fro (.bl b), τ) = .ok (b, τ) := rfl
@[simp] theorem e_bV : bV f τ = (f τ).bind tru := asB_eq
@[simp] theorem e_bAnd : bAnd fb gb τ = (fb τ).bind fun p => if p.1 = true then gb p.2 else .ok (false, p.2) := rfl
@[simp] theorem e_bOr : bOr fb gb τ = (fb τ).bind fun p => if p.1 = true then .ok (true, p.2) else gb p.2 := rfl
@[simp] theorem e_bNot : bNot fb τ = (fb τ).bind fun p => .ok (!p.1, p.2) := rfl
@[simp] theorem e_And : sAnd f g τ = (asB (f τ)).bind fun p => if p.1 = true then g p.2 else .ok (.fro (.bl false), p.2) := rfl
@[simp] theorem e_Or : sOr f g τ = (asB (f τ)).bind fun p => if p.1 = true then .ok (.fro (.bl true), p.2) else g p.2 := rfl
@[simp] theorem e_Not : sNot f τ = (asB (f τ)).bind fun p => .ok (.fro (.bl (!p.1)), p.2) := rfl
@[simp] theorem e_If : sIf fb f g τ = (fb τ).bind fun p => if p.1 = true then f p.2 else g p.2 := rfl
@[simp] theorem e_aNil : aNil τ = .ok ([], τ) := rfl
@[simp] theorem e_aCons : aCons f fs τ = (f τ).bind fun p => (fs p.2).bind fun q => .ok (p.1 :: q.1, q.2) := rfl
@[simp] theorem e_Tup : sTup fs τ = (fs τ).bind fun p => (ofO (allFro p.1)).bind fun ds => (chk (sz ds.length)).bind fun _ => .ok (.fro (.tup ds), p.2) := rfl
@[simp] theorem e_Lst : sLst fs τ = (fs τ).bind fun p => (ofO (allFro p.1)).bind fun ds => (chk (sz ds.length)).bind fun _ => .ok (.tmp (.lst ds), p.2) := rfl
@[simp] theorem e_CB {op : List D → Option Hd} : sCB op fs τ = (fs τ).bind fun p => (ofO (peeks p.2 p.1)).bind fun ds => (ofO (op ds)).bind fun h => .ok (h, p.2) := rfl
@[simp] theorem e_oNone : oNone τ = .ok (none, τ) := rfl
def iOf : Hd × T → R (Option Int × T)
  | (.fro (.int i), τ) => .ok (some i, τ)
  | _ => .stuck
@[simp] theorem e_oSome : oSome f τ = (f τ).bind iOf := by
  unfold oSome
  cases f τ with
  | ok p =>
    obtain ⟨h, τ'⟩ := p
    cases h with
    | fro d => cases d <;> rfl
    | _ => rfl
  | ex c d => rfl
  | stuck => rfl
@[simp] theorem iOf_int {i : Int} : iOf (.fro (.int i), τ) = .ok (some i, τ) := rfl
@[simp] theorem e_Sl {op : D → Option Int → Option Int → Option Hd} {lo hi : FO} : sSl op f lo hi τ = (f τ).bind fun p => (lo p.2).bind fun l => (hi l.2).bind fun u => (ofO (peek u.2 p.1)).bind fun d => (ofO (op d l.1 u.1)).bind fun h => .ok (h, u.2) := rfl
def chT (op' : D → D → Option Hd) (k : FE) (q : Hd × T) : Hd → R (Hd × T)
  | .fro (.bl true) => (k q.2).bind fun r => (ofO (peek r.2 q.1)).bind fun e => (ofO (peek r.2 r.1)).bind fun u => (ofO (op' e u)).bind fun h => .ok (h, r.2)
  | .fro (.bl false) => .ok (.fro (.bl false), q.2)
  | _ => .stuck
@[simp] theorem e_Chain {op op' : D → D → Option Hd} : sChain op op' f g k τ = (f τ).bind fun p => (g p.2).bind fun q => (ofO (peek q.2 p.1)).bind fun d => (ofO (peek q.2 q.1)).bind fun e => (ofO (op d e)).bind (chT op' k q) := rfl
@[simp] theorem chT_bl {op' : D → D → Option Hd} {q : Hd × T} {b : Bool} : chT op' k q (.fro (.bl b)) = if b = true then (k q.2).bind fun r => (ofO (peek r.2 q.1)).bind fun e => (ofO (peek r.2 r.1)).bind fun u => (ofO (op' e u)).bind fun h => .ok (h, r.2) else .ok (.fro (.bl false), q.2) := by
  cases b <;> rfl
/-! ### statements -/
@[simp] theorem e_Skip : sSkip τ = .ok (.nx τ) := rfl
def thenS (s2 : FS) : Out → R Out
  | .nx τ1 => s2 τ1
  | o => .ok o
@[simp] theorem e_Seq {s1 s2 : FS} : sSeq s1 s2 τ = (s1 τ).bind (thenS s2) := rfl
@[simp] theorem thenS_nx {s2 : FS} : thenS s2 (.nx τ) = s2 τ := rfl
@[simp] theorem thenS_rt {s2 : FS} {h : Hd} : thenS s2 (.rt h τ) = .ok (.rt h τ) := rfl
@[simp] theorem thenS_bk {s2 : FS} : thenS s2 (.bk τ) = .ok (.bk τ) := rfl
@[simp] theorem thenS_ct {s2 : FS} : thenS s2 (.ct τ) = .ok (.ct τ) := rfl
@[simp] theorem e_Drop : sDrop f τ = (f τ).bind fun p => .ok (.nx p.2) := rfl
@[simp] theorem e_IfS {s1 s2 : FS} : sIfS fb s1 s2 τ = (fb τ).bind fun p => if p.1 = true then s1 p.2 else s2 p.2 := rfl
@[simp] theorem e_Ret : sRet f τ = (f τ).bind fun p => (mov p.2 p.1).bind fun q => .ok (.rt q.1 q.2) := rfl
@[simp] theorem e_RetN : sRetN τ = .ok (.rt (.fro .non) τ) := rfl
@[simp] theorem slOf_fro : slOf (.fro d) = some (.fro d) := rfl
@[simp] theorem slOf_tmp : slOf (.tmp d) = some (.own false d) := rfl
@[simp] theorem e_Set : sSet i f τ = (f τ).bind fun p => (ofO (slOf p.1)).bind fun x => .ok (.nx (p.2.set i (some x))) := rfl
@[simp] theorem e_gN : gN i d τ = .ok (τ.set i (some (.fro d))) := rfl
@[simp] theorem e_gNil : gNil [] τ = .ok τ := rfl
@[simp] theorem e_gCons {gf : GF} {gs : GFs} {ds : List D} : gCons gf gs (d :: ds) τ = (gf d τ).bind fun τ1 => gs ds τ1 := rfl
@[simp] theorem e_gTup {gs : GFs} {ds : List D} : gTup gs (.tup ds) τ = gs ds τ := rfl
def asgT (g : GF) : Hd × T → R Out
  | (.fro d, τ) => (g d τ).bind fun τ2 => .ok (.nx τ2)
  | _ => .stuck
@[simp] theorem e_Asg {gf : GF} : sAsg f gf τ = (f τ).bind (asgT gf) := by
  unfold sAsg
  cases f τ with
  | ok p =>
    obtain ⟨h, τ'⟩ := p
    cases h <;> rfl
  | ex c d => rfl
  | stuck => rfl
@[simp] theorem asgT_fro {gf : GF} : asgT gf (.fro d, τ) = (gf d τ).bind fun τ2 => .ok (.nx τ2) := rfl
@[simp] theorem putAll_nil : putAll [] [] τ = some τ := rfl
def pu (i : Nat) (is : List Nat) (hs : List Hd) (τ : T) : Option Sl → Option T
  | some x => putAll is hs (τ.set i (some x))
  | none => none
@[simp] theorem putAll_cons {is : List Nat} {h : Hd} {hs : List Hd} : putAll (i :: is) (h :: hs) τ = pu i is hs τ (slOf h) := rfl
@[simp] theorem pu_some {is : List Nat} {hs : List Hd} {x : Sl} : pu i is hs τ (some x) = putAll is hs (τ.set i (some x)) := rfl
@[simp] theorem parOk_nil : parOk [] = true := rfl
@[simp] theorem parOk_fro {hs : List Hd} : parOk (.fro d :: hs) = parOk hs := rfl
@[simp] theorem parOk_tmp {hs : List Hd} : parOk (.tmp d :: hs) = (allFro hs).isSome := rfl
@[simp] theorem e_Par {is : List Nat} : sPar is fs τ = (fs τ).bind fun p => (chk (parOk p.1)).bind fun _ => (ofO (putAll is p.1 p.2)).bind fun τ2 => .ok (.nx τ2) := rfl
/-! ### what is walked -/
def seqT : Hd × T → R (List D × T)
  | (.fro (.lst ds), τ) => .ok (ds, τ)
  | (.fro (.tup ds), τ) => .ok (ds, τ)
  | _ => .stuck
@[simp] theorem e_iSeq : iSeq f τ = (sFrz f τ).bind seqT := by
  unfold iSeq
  cases sFrz f τ with
  | ok p =>
    obtain ⟨h, τ'⟩ := p
    cases h with
    | fro d => cases d <;> rfl
    | _ => rfl
  | ex c d => rfl
  | stuck => rfl
@[simp] theorem seqT_lst {ds : List D} : seqT (.fro (.lst ds), τ) = .ok (ds, τ) := rfl
@[simp] theorem seqT_tup {ds : List D} : seqT (.fro (.tup ds), τ) = .ok (ds, τ) := rfl
def rg1 : List Hd × T → R (List D × T)
  | ([.fro (.int j)], τ) => (chk (inI j)).bind fun _ => .ok (rngL 0 j.toNat, τ)
  | _ => .stuck
def rg2 : List Hd × T → R (List D × T)
  | ([.fro (.int i), .fro (.int j)], τ) => (chk (inI i && inI j)).bind fun _ => .ok (rngL i (j - i).toNat, τ)
  | _ => .stuck
theorem e_iRng1' {p : List Hd × T} : (match p.1 with | [.fro (.int j)] => (chk (inI j)).bind fun _ => R.ok (rngL 0 j.toNat, p.2) | _ => .stuck) = rg1 p := by
  obtain ⟨hs, τ'⟩ := p
  dsimp only
  split
  · rfl
  · rename_i h
    unfold rg1
    split
    · rename_i e
      injection e with e1 e2
      exact absurd e1 (h _)
    · rfl
@[simp] theorem e_iRng1 : iRng1 fs τ = (fs τ).bind rg1 := by
  unfold iRng1
  congr 1
  funext p
  exact e_iRng1'
theorem e_iRng2' {p : List Hd × T} : (match p.1 with | [.fro (.int i), .fro (.int j)] => (chk (inI i && inI j)).bind fun _ => R.ok (rngL i (j - i).toNat, p.2) | _ => .stuck) = rg2 p := by
  obtain ⟨hs, τ'⟩ := p
  dsimp only
  split
  · rfl
  · rename_i h
    unfold rg2
    split
    · rename_i e
      injection e with e1 e2
      exact absurd e1 (h _ _)
    · rfl
@[simp] theorem e_iRng2 : iRng2 fs τ = (fs τ).bind rg2 := by
  unfold iRng2
  congr 1
  funext p
  exact e_iRng2'
@[simp] theorem rg1_int {j : Int} : rg1 ([.fro (.int j)], τ) = (chk (inI j)).bind fun _ => .ok (rngL 0 j.toNat, τ) := rfl
@[simp] theorem rg2_int {i j : Int} : rg2 ([.fro (.int i), .fro (.int j)], τ) = (chk (inI i && inI j)).bind fun _ => .ok (rngL i (j - i).toNat, τ) := rfl
def zpT : List Hd × T → R (List D × T)
  | ([.fro (.lst xs), .fro (.lst ys)], τ) => .ok (zipL xs ys, τ)
  | ([.fro (.tup xs), .fro (.tup ys)], τ) => .ok (zipL xs ys, τ)
  | _ => .stuck
theorem e_iZip' {p : List Hd × T} : (match p.1 with | [.fro (.lst xs), .fro (.lst ys)] => R.ok (zipL xs ys, p.2) | [.fro (.tup xs), .fro (.tup ys)] => .ok (zipL xs ys, p.2) | _ => .stuck) = zpT p := by
  obtain ⟨hs, τ'⟩ := p
  dsimp only
  split
  · rfl
  · rfl
  · rename_i h1 h2
    unfold zpT
    split
    · rename_i e
      injection e with e1 e2
      exact absurd e1 (h1 _ _)
    · rename_i e
      injection e with e1 e2
      exact absurd e1 (h2 _ _)
    · rfl
@[simp] theorem e_iZip : iZip fs τ = (fs τ).bind zpT := by
  unfold iZip
  congr 1
  funext p
  exact e_iZip'
@[simp] theorem zpT_lst {xs ys : List D} : zpT ([.fro (.lst xs), .fro (.lst ys)], τ) = .ok (zipL xs ys, τ) := rfl
@[simp] theorem zpT_tup {xs ys : List D} : zpT ([.fro (.tup xs), .fro (.tup ys)], τ) = .ok (zipL xs ys, τ) := rfl
@[simp] theorem e_Comp {fi : FI} {tg : GF} {c : T → R (Bool × T)} {el : FE} {vs : List Nat} : sComp fi tg c el vs τ = (fi τ).bind fun p => (chk (sz p.1.length)).bind fun _ => (noex (sCompL tg c el vs p.1 (kill vs p.2))).bind fun r => .ok (.tmp (.lst r.1), r.2) := rfl
@[simp] theorem e_For {fi : FI} {tg : GF} {bd : FS} {ks : List Nat} : sFor fi tg bd ks τ = (fi τ).bind fun p => sForL tg bd ks p.1 (kill ks p.2) := rfl
@[simp] theorem e_bYes : bYes τ = .ok (true, τ) := rfl
@[simp] theorem kill_nil : kill [] τ = τ := rfl
@[simp] theorem kill_cons {ks : List Nat} : kill (i :: ks) τ = kill ks (τ.set i none) := rfl
/-! ### calls -/
def cl2 (hs : List Hd) (τ1 : T) (sls : List Sl) : Hd × List Sl → R (Hd × T)
  | (.slot _, _) => .stuck
  | (h, os) => (chk (shp sls os)).bind fun _ => .ok (h, wb hs os τ1)
def callT (n : Nat) (F : FnR) (hs : List Hd) (τ1 : T) : R (Hd × T) := (chk (okA hs && decide (hs.length = n))).bind fun _ => (ofO (toSls τ1 hs)).bind fun sls => (F sls).bind (cl2 hs τ1 sls)
theorem callT_eq {F : FnR} {hs : List Hd} {τ1 : T} : ((chk (okA hs && decide (hs.length = n))).bind fun _ => (ofO (toSls τ1 hs)).bind fun sls => (F sls).bind fun r => (chk (shp sls r.2)).bind fun _ => match r.1 with
      | .slot _ => .stuck
      | h => .ok (h, wb hs r.2 τ1)) = callT n F hs τ1 := by
  unfold callT
  congr 1
  funext u
  congr 1
  funext sls
  congr 1
  funext r
  obtain ⟨h, os⟩ := r
  cases h with
  | slot j =>
    show (chk (shp sls os)).bind (fun _ => R.stuck) = .stuck
    cases shp sls os <;> rfl
  | _ => rfl
@[simp] theorem e_Call {F : FnR} : sCall n F fs τ = (fs τ).bind fun p => callT n F p.1 p.2 := by
  unfold sCall
  congr 1
  funext p
  exact callT_eq
@[simp] theorem cl2_fro {hs : List Hd} {τ1 : T} {sls os : List Sl} : cl2 hs τ1 sls (.fro d, os) = (chk (shp sls os)).bind fun _ => .ok (.fro d, wb hs os τ1) := rfl
@[simp] theorem cl2_tmp {hs : List Hd} {τ1 : T} {sls os : List Sl} : cl2 hs τ1 sls (.tmp d, os) = (chk (shp sls os)).bind fun _ => .ok (.tmp d, wb hs os τ1) := rfl
/-- a call whose arguments are at hand -/
theorem callT_ok {F : FnR} {hs : List Hd} {τ1 : T} {sls os : List Sl} {r : Hd} (h1 : okA hs = true) (h2 : hs.length = n) (h3 : toSls τ1 hs = some sls) (h4 : F sls = .ok (r, os)) (h5 : shp sls os = true) (h6 : ∀ j, r ≠ .slot j) : callT n F hs τ1 = .ok (r, wb hs os τ1) := by
  unfold callT
  rw [h1, h2, h3]
  simp only [decide_true, Bool.and_self, chk_true, bind_ok, ofO_some, h4]
  cases r with
  | slot j => exact absurd rfl (h6 j)
  | fro d => simp only [cl2_fro, h5, chk_true, bind_ok]
  | tmp d => simp only [cl2_tmp, h5, chk_true, bind_ok]
@[simp] theorem e_Meth {C m : Str} {F : FnR} {fo : FE} : sMeth C m n F fo fs τ = (fo τ).bind fun p => (ofO (peek p.2 p.1)).bind fun d => (chk (isIns C m d)).bind fun _ => (fs p.2).bind fun q => callT n F (p.1 :: q.1) q.2 := by
  unfold sMeth
  congr 1
  funext p
  congr 1
  funext d
  congr 1
  funext u
  congr 1
  funext q
  exact callT_eq
def mkT (τ1 : T) : Hd × List Sl → R (Hd × T)
  | (.fro .non, .own true d' :: _) => .ok (.tmp d', τ1)
  | _ => .stuck
theorem mkT_eq {p : T} {r : Hd × List Sl} : (match r.1, r.2 with | .fro .non, .own true d' :: _ => R.ok (Hd.tmp d', p) | _, _ => .stuck) = mkT p r := by
  obtain ⟨h, os⟩ := r
  dsimp only
  split
  · rfl
  · rename_i h1
    unfold mkT
    split
    · rename_i e
      injection e with e1 e2
      exact absurd e2 (h1 _ _ e1)
    · rfl
@[simp] theorem e_Make {C : Str} {F : FnR} : sMake C n F fs τ = (fs τ).bind fun p => (ofO (allFro p.1)).bind fun ds => (chk (decide (ds.length + 1 = n))).bind fun _ => (F (.own true (.ins C []) :: ds.map .fro)).bind (mkT p.2) := by
  unfold sMake
  congr 1
  funext p
  congr 1
  funext ds
  congr 1
  funext u
  congr 1
  funext r
  exact mkT_eq
@[simp] theorem mkT_ok {os : List Sl} : mkT τ (.fro .non, .own true d :: os) = .ok (.tmp d, τ) := rfl
@[simp] theorem e_Fld {C f : Str} {fo : FE} : sFld C f fo τ = (fo τ).bind fun p => (ofO ((peek p.2 p.1).bind (fldOf C f))).bind fun d => .ok (.fro d, p.2) := rfl
def gfU (C f : Str) (d : D) (j : Nat) (τ : T) : Option (Option Sl) → R T
  | some (some (.own b (.ins C' fs))) => (chk (decide (C' = C) && decide (fs.length < 1000))).bind fun _ => .ok (τ.set j (some (.own b (.ins C' (putD f d fs)))))
  | _ => .stuck
def gfT (C f : Str) (d : D) : Hd × T → R T
  | (.slot j, τ) => gfU C f d j τ τ[j]?
  | _ => .stuck
@[simp] theorem e_gFld {C f : Str} {fo : FE} : gFld C f fo d τ = (fo τ).bind (gfT C f d) := by
  unfold gFld
  congr 1
  funext p
  obtain ⟨h, τ'⟩ := p
  cases h with
  | slot j =>
    show _ = gfU C f d j τ' τ'[j]?
    unfold gfU
    rfl
  | _ => rfl
@[simp] theorem gfT_slot {C f : Str} : gfT C f d (.slot j, τ) = gfU C f d j τ τ[j]? := rfl
@[simp] theorem gfU_own {C C' f : Str} {b : Bool} {fs : List (Str × D)} : gfU C f d j τ (some (some (.own b (.ins C' fs)))) = (chk (decide (C' = C) && decide (fs.length < 1000))).bind fun _ => .ok (τ.set j (some (.own b (.ins C' (putD f d fs))))) := rfl
/-- what a def gives back -/
def endS (sls : List Sl) : Out → R (Hd × List Sl)
  | .rt (.slot _) _ => .stuck
  | .rt h τ' => (ofO (outs sls τ')).bind fun os => .ok (h, os)
  | .nx τ' => (ofO (outs sls τ')).bind fun os => .ok (.fro .non, os)
  | _ => .stuck
theorem fnS_eq {g : FS} {sls : List Sl} : fnS n g sls = (g (ft sls ++ List.replicate (n - sls.length) none)).bind (endS sls) := by
  unfold fnS
  congr 1
@[simp] theorem endS_fro {sls : List Sl} : endS sls (.rt (.fro d) τ) = (ofO (outs sls τ)).bind fun os => .ok (.fro d, os) := rfl
@[simp] theorem endS_tmp {sls : List Sl} : endS sls (.rt (.tmp d) τ) = (ofO (outs sls τ)).bind fun os => .ok (.tmp d, os) := rfl
@[simp] theorem endS_nx {sls : List Sl} : endS sls (.nx τ) = (ofO (outs sls τ)).bind fun os => .ok (.fro .non, os) := rfl
@[simp] theorem ft_nil : ft [] = [] := rfl
@[simp] theorem ft_cons {x : Sl} {xs : List Sl} : ft (x :: xs) = some x :: ft xs := rfl
end
/-! ### operators on known data -/
section
@[simp] theorem dAdd_int (i j : Int) : dAdd (.int i) (.int j) = some (.fro (.int (i + j))) := rfl
@[simp] theorem dSub_int (i j : Int) : dSub (.int i) (.int j) = some (.fro (.int (i - j))) := rfl
theorem dMul_int {i j : Int} (h : (-18446744073709551616 < i ∧ i < 18446744073709551616) ∨ (-18446744073709551616 < j ∧ j < 18446744073709551616)) : dMul (.int i) (.int j) = some (.fro (.int (i * j))) := by
  have : ((decide (-18446744073709551616 < i) && decide (i < 18446744073709551616)) || (decide (-18446744073709551616 < j) && decide (j < 18446744073709551616))) = true := by
    simpa using h
  exact if_pos this
theorem dDiv_int {i j : Int} (h : 0 < j) (h2 : j < 1073741824) : dDiv (.int i) (.int j) = some (.fro (.int (i / j))) := by
  exact if_pos (show (decide (0 < j) && decide (j < 1073741824)) = true by rw [decide_eq_true h, decide_eq_true h2]; rfl)
theorem dMod_int {i j : Int} (h : 0 < j) : dMod (.int i) (.int j) = some (.fro (.int (i % j))) := by
  exact if_pos (decide_eq_true h)
@[simp] theorem dNeg_int (i : Int) : dNeg (.int i) = some (.fro (.int (-i))) := rfl
@[simp] theorem dLt_int (i j : Int) : dLt (.int i) (.int j) = some (.fro (.bl (decide (i < j)))) := rfl
@[simp] theorem dLe_int (i j : Int) : dLe (.int i) (.int j) = some (.fro (.bl (decide (i ≤ j)))) := rfl
@[simp] theorem dGt_int (i j : Int) : dGt (.int i) (.int j) = some (.fro (.bl (decide (j < i)))) := rfl
@[simp] theorem dGe_int (i j : Int) : dGe (.int i) (.int j) = some (.fro (.bl (decide (j ≤ i)))) := rfl
@[simp] theorem okd_int (n : Nat) (i : Int) : D.okd n (.int i) = true := by cases n <;> rfl
@[simp] theorem okd_bl (n : Nat) (i : Bool) : D.okd n (.bl i) = true := by cases n <;> rfl
@[simp] theorem okd_str (n : Nat) (i : Str) : D.okd n (.str i) = true := by cases n <;> rfl
@[simp] theorem okd_non (n : Nat) : D.okd n .non = true := by cases n <;> rfl
@[simp] theorem okd_tup (n : Nat) (xs : List D) : D.okd (n + 1) (.tup xs) = xs.all (D.okd n) := rfl
@[simp] theorem okd_lst (n : Nat) (xs : List D) : D.okd (n + 1) (.lst xs) = xs.all (D.okd n) := rfl
@[simp] theorem eqv_int (i j : Int) : D.eqv (.int i) (.int j) = (i == j) := by unfold D.eqv; rfl
@[simp] theorem eqv_str (i j : Str) : D.eqv (.str i) (.str j) = (i == j) := by unfold D.eqv; rfl
@[simp] theorem eqv_bl (i j : Bool) : D.eqv (.bl i) (.bl j) = (i == j) := by unfold D.eqv; rfl
@[simp] theorem eqv_tup (i j : List D) : D.eqv (.tup i) (.tup j) = D.eqvs i j := by conv => lhs; unfold D.eqv
@[simp] theorem eqv_lst (i j : List D) : D.eqv (.lst i) (.lst j) = D.eqvs i j := by conv => lhs; unfold D.eqv
@[simp] theorem eqvs_nil : D.eqvs [] [] = true := by unfold D.eqvs; rfl
@[simp] theorem eqvs_cons (a b : D) (as bs : List D) : D.eqvs (a :: as) (b :: bs) = (D.eqv a b && D.eqvs as bs) := by conv => lhs; unfold D.eqvs
@[simp] theorem nos_int (i : Int) : D.nos (.int i) = true := by unfold D.nos; rfl
@[simp] theorem nos_bl (i : Bool) : D.nos (.bl i) = true := by unfold D.nos; rfl
@[simp] theorem nos_non : D.nos .non = true := by unfold D.nos; rfl
@[simp] theorem nos_str (x : Str) : D.nos (.str x) = PyData.strOk x := by unfold D.nos; rfl
@[simp] theorem nos_tup (xs : List D) : D.nos (.tup xs) = D.noss xs := by conv => lhs; unfold D.nos
@[simp] theorem nos_lst (xs : List D) : D.nos (.lst xs) = D.noss xs := by conv => lhs; unfold D.nos
@[simp] theorem noss_nil : D.noss [] = true := by unfold D.noss; rfl
@[simp] theorem noss_cons (x : D) (xs : List D) : D.noss (x :: xs) = (D.nos x && D.noss xs) := by conv => lhs; unfold D.noss
@[simp] theorem dEq_int (i j : Int) : dEq (.int i) (.int j) = some (.fro (.bl (i == j))) := by
  unfold dEq
  have : eqOk2 (.int i) (.int j) = true := by simp [eqOk2]
  rw [if_pos this, eqv_int]
@[simp] theorem dNe_int (i j : Int) : dNe (.int i) (.int j) = some (.fro (.bl (!(i == j)))) := by
  unfold dNe
  have : eqOk2 (.int i) (.int j) = true := by simp [eqOk2]
  rw [if_pos this, eqv_int]
@[simp] theorem dEq_str (i j : Str) : dEq (.str i) (.str j) = some (.fro (.bl (i == j))) := by
  unfold dEq
  have : eqOk2 (.str i) (.str j) = true := rfl
  rw [if_pos this, eqv_str]
@[simp] theorem dNe_str (i j : Str) : dNe (.str i) (.str j) = some (.fro (.bl (!(i == j)))) := by
  unfold dNe
  have : eqOk2 (.str i) (.str j) = true := rfl
  rw [if_pos this, eqv_str]
theorem kb_NoneType_int : kitB "NoneType" "int" = some false := by decide +kernel
@[simp] theorem isi_non_int  : cIsi [.non, .ty "int"] = some (.fro (.bl false)) := by
  simp only [cIsi, D.tn, kb_NoneType_int]
  rfl
theorem kb_NoneType_bool : kitB "NoneType" "bool" = some false := by decide +kernel
@[simp] theorem isi_non_bool  : cIsi [.non, .ty "bool"] = some (.fro (.bl false)) := by
  simp only [cIsi, D.tn, kb_NoneType_bool]
  rfl
theorem kb_NoneType_str : kitB "NoneType" "str" = some false := by decide +kernel
@[simp] theorem isi_non_str  : cIsi [.non, .ty "str"] = some (.fro (.bl false)) := by
  simp only [cIsi, D.tn, kb_NoneType_str]
  rfl
theorem kb_NoneType_tuple : kitB "NoneType" "tuple" = some false := by decide +kernel
@[simp] theorem isi_non_tuple  : cIsi [.non, .ty "tuple"] = some (.fro (.bl false)) := by
  simp only [cIsi, D.tn, kb_NoneType_tuple]
  rfl
theorem kb_bool_int : kitB "bool" "int" = some true := by decide +kernel
@[simp] theorem isi_bl_int (b : Bool) : cIsi [.bl b, .ty "int"] = some (.fro (.bl true)) := by
  simp only [cIsi, D.tn, kb_bool_int]
  rfl
theorem kb_bool_bool : kitB "bool" "bool" = some true := by decide +kernel
@[simp] theorem isi_bl_bool (b : Bool) : cIsi [.bl b, .ty "bool"] = some (.fro (.bl true)) := by
  simp only [cIsi, D.tn, kb_bool_bool]
  rfl
theorem kb_bool_str : kitB "bool" "str" = some false := by decide +kernel
@[simp] theorem isi_bl_str (b : Bool) : cIsi [.bl b, .ty "str"] = some (.fro (.bl false)) := by
  simp only [cIsi, D.tn, kb_bool_str]
  rfl
theorem kb_bool_tuple : kitB "bool" "tuple" = some false := by decide +kernel
@[simp] theorem isi_bl_tuple (b : Bool) : cIsi [.bl b, .ty "tuple"] = some (.fro (.bl false)) := by
  simp only [cIsi, D.tn, kb_bool_tuple]
  rfl
theorem kb_int_int : kitB "int" "int" = some true := by decide +kernel
@[simp] theorem isi_int_int (b : Int) : cIsi [.int b, .ty "int"] = some (.fro (.bl true)) := by
  simp only [cIsi, D.tn, kb_int_int]
  rfl
theorem kb_int_bool : kitB "int" "bool" = some false := by decide +kernel
@[simp] theorem isi_int_bool (b : Int) : cIsi [.int b, .ty "bool"] = some (.fro (.bl false)) := by
  simp only [cIsi, D.tn, kb_int_bool]
  rfl
theorem kb_int_str : kitB "int" "str" = some false := by decide +kernel
@[simp] theorem isi_int_str (b : Int) : cIsi [.int b, .ty "str"] = some (.fro (.bl false)) := by
  simp only [cIsi, D.tn, kb_int_str]
  rfl
theorem kb_int_tuple : kitB "int" "tuple" = some false := by decide +kernel
@[simp] theorem isi_int_tuple (b : Int) : cIsi [.int b, .ty "tuple"] = some (.fro (.bl false)) := by
  simp only [cIsi, D.tn, kb_int_tuple]
  rfl
theorem kb_str_int : kitB "str" "int" = some false := by decide +kernel
@[simp] theorem isi_str_int (b : Str) : cIsi [.str b, .ty "int"] = some (.fro (.bl false)) := by
  simp only [cIsi, D.tn, kb_str_int]
  rfl
theorem kb_str_bool : kitB "str" "bool" = some false := by decide +kernel
@[simp] theorem isi_str_bool (b : Str) : cIsi [.str b, .ty "bool"] = some (.fro (.bl false)) := by
  simp only [cIsi, D.tn, kb_str_bool]
  rfl
theorem kb_str_str : kitB "str" "str" = some true := by decide +kernel
@[simp] theorem isi_str_str (b : Str) : cIsi [.str b, .ty "str"] = some (.fro (.bl true)) := by
  simp only [cIsi, D.tn, kb_str_str]
  rfl
theorem kb_str_tuple : kitB "str" "tuple" = some false := by decide +kernel
@[simp] theorem isi_str_tuple (b : Str) : cIsi [.str b, .ty "tuple"] = some (.fro (.bl false)) := by
  simp only [cIsi, D.tn, kb_str_tuple]
  rfl
theorem kb_tuple_int : kitB "tuple" "int" = some false := by decide +kernel
@[simp] theorem isi_tup_int (b : List D) : cIsi [.tup b, .ty "int"] = some (.fro (.bl false)) := by
  simp only [cIsi, D.tn, kb_tuple_int]
  rfl
theorem kb_tuple_bool : kitB "tuple" "bool" = some false := by decide +kernel
@[simp] theorem isi_tup_bool (b : List D) : cIsi [.tup b, .ty "bool"] = some (.fro (.bl false)) := by
  simp only [cIsi, D.tn, kb_tuple_bool]
  rfl
theorem kb_tuple_str : kitB "tuple" "str" = some false := by decide +kernel
@[simp] theorem isi_tup_str (b : List D) : cIsi [.tup b, .ty "str"] = some (.fro (.bl false)) := by
  simp only [cIsi, D.tn, kb_tuple_str]
  rfl
theorem kb_tuple_tuple : kitB "tuple" "tuple" = some true := by decide +kernel
@[simp] theorem isi_tup_tuple (b : List D) : cIsi [.tup b, .ty "tuple"] = some (.fro (.bl true)) := by
  simp only [cIsi, D.tn, kb_tuple_tuple]
  rfl
theorem kb_list_int : kitB "list" "int" = some false := by decide +kernel
@[simp] theorem isi_lst_int (b : List D) : cIsi [.lst b, .ty "int"] = some (.fro (.bl false)) := by
  simp only [cIsi, D.tn, kb_list_int]
  rfl
theorem kb_list_bool : kitB "list" "bool" = some false := by decide +kernel
@[simp] theorem isi_lst_bool (b : List D) : cIsi [.lst b, .ty "bool"] = some (.fro (.bl false)) := by
  simp only [cIsi, D.tn, kb_list_bool]
  rfl
theorem kb_list_str : kitB "list" "str" = some false := by decide +kernel
@[simp] theorem isi_lst_str (b : List D) : cIsi [.lst b, .ty "str"] = some (.fro (.bl false)) := by
  simp only [cIsi, D.tn, kb_list_str]
  rfl
theorem kb_list_tuple : kitB "list" "tuple" = some false := by decide +kernel
@[simp] theorem isi_lst_tuple (b : List D) : cIsi [.lst b, .ty "tuple"] = some (.fro (.bl false)) := by
  simp only [cIsi, D.tn, kb_list_tuple]
  rfl
end
end F
set_option Elab.async false
set_option linter.all false
set_option maxRecDepth 100000
set_option maxHeartbeats 4000000
/-! FV: loops, comprehensions by plain lists (own work) -/
namespace F
open PySem L2

section
variable {τ : T} {tg : GF} {c : T → R (Bool × T)} {el : FE} {vs ks : List Nat} {bd : FS}
theorem compL {p : D → Bool} {g : D → D} : ∀ ds : List D, (∀ d ∈ ds, ∃ τ1 τ2, tg d τ = .ok τ1 ∧ c τ1 = .ok (p d, τ2) ∧ (p d = false → kill vs τ2 = τ) ∧ (p d = true → ∃ τ3, el τ2 = .ok (.fro (g d), τ3) ∧ kill vs τ3 = τ)) →
    sCompL tg c el vs ds τ = .ok ((ds.filter p).map g, τ)
  | [], _ => rfl
  | d :: ds, h => by
    obtain ⟨τ1, τ2, h1, h2, h3, h4⟩ := h d List.mem_cons_self
    have ih := compL ds fun d hd => h d (List.mem_cons_of_mem _ hd)
    show (tg d τ).bind _ = _
    rw [h1, bind_ok, h2, bind_ok]
    cases z : p d with
    | false =>
      rw [if_neg Bool.false_ne_true, h3 z, ih, List.filter_cons_of_neg (by rw [z]; exact Bool.false_ne_true)]
    | true =>
      obtain ⟨τ3, h5, h6⟩ := h4 z
      rw [if_pos rfl, h5, bind_ok]
      dsimp only
      rw [h6, ih, List.filter_cons_of_pos z]
      rfl
/-- without a filter -/
theorem compL1 {g : D → D} (ds : List D) (h : ∀ d ∈ ds, ∃ τ1 τ3, tg d τ = .ok τ1 ∧ el τ1 = .ok (.fro (g d), τ3) ∧ kill vs τ3 = τ) : sCompL tg bYes el vs ds τ = .ok (ds.map g, τ) := by
  have := compL (p := fun _ => true) (g := g) (c := bYes) (τ := τ) (tg := tg) (el := el) (vs := vs) ds fun d hd => by
    obtain ⟨τ1, τ3, h1, h2, h3⟩ := h d hd
    exact ⟨τ1, τ1, h1, rfl, (fun z => Bool.noConfusion z), fun _ => ⟨τ3, h2, h3⟩⟩
  rw [this, List.filter_eq_self.mpr fun _ _ => rfl]
/-- a loop that goes on to its end -/
theorem forL {I : List D → T → Prop} (all : List D) (step : ∀ pre d post τ, all = pre ++ d :: post → I pre τ → ∃ τ1 τ2, tg d τ = .ok τ1 ∧ (bd τ1 = .ok (.nx τ2) ∨ bd τ1 = .ok (.ct τ2)) ∧ I (pre ++ [d]) (kill ks τ2)) :
    ∀ (post pre : List D) (τ : T), all = pre ++ post → I pre τ → ∃ τ', sForL tg bd ks post τ = .ok (.nx τ') ∧ I all τ'
  | [], pre, τ, e, h => ⟨τ, rfl, by rw [e, List.append_nil]; exact h⟩
  | d :: post, pre, τ, e, h => by
    obtain ⟨τ1, τ2, h1, h2, h3⟩ := step pre d post τ e h
    obtain ⟨τ', h4, h5⟩ := forL all step post (pre ++ [d]) (kill ks τ2) (by rw [e, List.append_assoc]; rfl) h3
    refine ⟨τ', ?_, h5⟩
    show (tg d τ).bind _ = _
    rw [h1, bind_ok]
    rcases h2 with h2 | h2 <;> rw [h2, bind_ok] <;> exact h4
theorem for_all {I : List D → T → Prop} {all : List D} (h0 : I [] τ) (step : ∀ pre d post τ, all = pre ++ d :: post → I pre τ → ∃ τ1 τ2, tg d τ = .ok τ1 ∧ (bd τ1 = .ok (.nx τ2) ∨ bd τ1 = .ok (.ct τ2)) ∧ I (pre ++ [d]) (kill ks τ2)) :
    ∃ τ', sForL tg bd ks all τ = .ok (.nx τ') ∧ I all τ' := forL all step all [] τ rfl h0
end
/-! ### whole numbers -/
theorem rngL_zero (lo : Int) : rngL lo 0 = [] := rfl
theorem mem_rngL {lo : Int} {n : Nat} {d : D} (h : d ∈ rngL lo n) : ∃ i : Int, d = .int i ∧ lo ≤ i ∧ i < lo + n := by
  unfold rngL at h
  obtain ⟨k, h1, h2⟩ := List.mem_map.mp h
  have := List.mem_range.mp h1
  exact ⟨lo + k, h2.symm, by omega, by omega⟩
theorem length_rngL (lo : Int) (n : Nat) : (rngL lo n).length = n := by
  unfold rngL
  rw [List.length_map, List.length_range]
@[simp] theorem inI_eq (i : Int) : inI i = (decide (-4611686018427387904 ≤ i) && decide (i < 4611686018427387904)) := rfl
theorem atI_nat {α : Type} {xs : List α} {i : Int} (h0 : 0 ≤ i) (h1 : i < xs.length) : atI xs i = xs[i.toNat]? := by
  unfold L2.atI ixN
  rw [if_pos h0, if_pos h1]
  rfl
theorem atI_neg {α : Type} {xs : List α} {i : Int} (h0 : i < 0) (h1 : -(xs.length : Int) ≤ i) : atI xs i = xs[(xs.length + i).toNat]? := by
  unfold L2.atI ixN
  rw [if_neg (by omega)]
  split
  · rw [Int.add_comm]
    rfl
  · omega
theorem atI_last {α : Type} {xs : List α} {x : α} : atI (xs ++ [x]) (-1) = some x := by
  rw [atI_neg (by omega) (by rw [List.length_append, List.length_singleton]; omega)]
  rw [List.length_append, List.length_singleton]
  have : (((xs.length + 1 : Nat) : Int) + -1).toNat = xs.length := by omega
  rw [this, List.getElem?_append_right (Nat.le_refl _)]
  simp
end F
namespace F
open PySem L2
/-! ### operators on lists, tuples, texts -/
theorem dAdd_lst {a b : List D} (h : a.length + b.length ≤ 16777216) : dAdd (.lst a) (.lst b) = some (.tmp (.lst (a ++ b))) := if_pos (decide_eq_true h)
theorem dAdd_tup {a b : List D} (h : a.length + b.length ≤ 16777216) : dAdd (.tup a) (.tup b) = some (.fro (.tup (a ++ b))) := if_pos (decide_eq_true h)
theorem dAdd_str {a b : Str} (h : a.length + b.length ≤ 16777216) : dAdd (.str a) (.str b) = some (.fro (.str (a ++ b))) := if_pos (decide_eq_true h)
@[simp] theorem cLen_lst (xs : List D) : cLen [.lst xs] = some (.fro (.int xs.length)) := rfl
@[simp] theorem cLen_tup (xs : List D) : cLen [.tup xs] = some (.fro (.int xs.length)) := rfl
@[simp] theorem cInt_int (i : Int) : cInt [.int i] = some (.fro (.int i)) := rfl
@[simp] theorem cInt_bl (i : Bool) : cInt [.bl i] = some (.fro (.int (if i then 1 else 0))) := rfl
@[simp] theorem cAbs_int (i : Int) : cAbs [.int i] = some (.fro (.int (if i < 0 then -i else i))) := rfl
@[simp] theorem cMin_int (i j : Int) : cMin [.int i, .int j] = some (.fro (.int (if j < i then j else i))) := rfl
@[simp] theorem cMax_int (i j : Int) : cMax [.int i, .int j] = some (.fro (.int (if j > i then j else i))) := rfl
@[simp] theorem cTup_lst (xs : List D) : cTup [.lst xs] = some (.fro (.tup xs)) := rfl
@[simp] theorem cTup_tup (xs : List D) : cTup [.tup xs] = some (.fro (.tup xs)) := rfl
@[simp] theorem cList_lst (xs : List D) : cList [.lst xs] = some (.tmp (.lst xs)) := rfl
@[simp] theorem cList_tup (xs : List D) : cList [.tup xs] = some (.tmp (.lst xs)) := rfl
@[simp] theorem cList_scr (xs : List Int) : cList [.scr xs] = some (.tmp (.lst (xs.map D.int))) := rfl
@[simp] theorem cAll_bls (bs : List Bool) : cAll [.lst (bs.map D.bl)] = some (.fro (.bl (bs.all id))) := by
  show (bls (bs.map D.bl)).map _ = _
  rw [bls_of]
  rfl
@[simp] theorem cAny_bls (bs : List Bool) : cAny [.lst (bs.map D.bl)] = some (.fro (.bl (bs.any id))) := by
  show (bls (bs.map D.bl)).map _ = _
  rw [bls_of]
  rfl
@[simp] theorem cSum_ints (bs : List Int) : cSum [.lst (bs.map D.int)] = some (.fro (.int bs.sum)) := by
  show (nums (bs.map D.int)).map _ = _
  rw [nums_of]
  rfl
@[simp] theorem dIx_lst (xs : List D) (i : Int) : dIx (.lst xs) (.int i) = (atI xs i).map Hd.fro := rfl
@[simp] theorem dIx_tup (xs : List D) (i : Int) : dIx (.tup xs) (.int i) = (atI xs i).map Hd.fro := rfl
@[simp] theorem dSl_lst (xs : List D) (lo hi : Option Int) : dSl (.lst xs) lo hi = some (.tmp (.lst (cutD xs lo hi))) := rfl
@[simp] theorem dSl_tup (xs : List D) (lo hi : Option Int) : dSl (.tup xs) lo hi = some (.fro (.tup (cutD xs lo hi))) := rfl
@[simp] theorem atI_zero {α : Type} (x : α) (xs : List α) : atI (x :: xs) 0 = some x := by
  rw [atI_nat (Int.le_refl 0) (by rw [List.length_cons]; omega)]
  rfl
@[simp] theorem atI_one {α : Type} (x y : α) (xs : List α) : atI (x :: y :: xs) 1 = some y := by
  rw [atI_nat (by omega) (by rw [List.length_cons, List.length_cons]; omega)]
  rfl
theorem cut_tail (xs : List D) : cutD xs (some 1) none = xs.tail := by
  unfold cutD HT.sIx
  cases xs with
  | nil => rfl
  | cons x xs => simp
def sbT (op : List D → D → D → Option (List D)) (fi : FE) (d : D) : Hd × T → R T
  | (.slot j, τ) => (fi τ).bind fun q => match q.1, q.2[j]? with
    | .fro i, some (some (.own b (.lst xs))) => (ofO (op xs i d)).bind fun ys => .ok (q.2.set j (some (.own b (.lst ys))))
    | _, _ => .stuck
  | _ => .stuck
def sbU (op : List D → D → D → Option (List D)) (d : D) (j : Nat) (τ : T) : Hd → Option (Option Sl) → R T
  | .fro i, some (some (.own b (.lst xs))) => (ofO (op xs i d)).bind fun ys => .ok (τ.set j (some (.own b (.lst ys))))
  | _, _ => .stuck
@[simp] theorem e_gSub {op : List D → D → D → Option (List D)} {fo fi : FE} {d : D} {τ : T} : gSub0 op fo fi d τ = (fo τ).bind (sbT op fi d) := by
  unfold gSub0
  cases fo τ with
  | ok p =>
    obtain ⟨h, τ'⟩ := p
    cases h <;> rfl
  | ex c d => rfl
  | stuck => rfl
@[simp] theorem sbT_slot {op : List D → D → D → Option (List D)} {fi : FE} {d : D} {τ : T} {j : Nat} : sbT op fi d (.slot j, τ) = (fi τ).bind fun q => sbU op d j q.2 q.1 q.2[j]? := rfl
@[simp] theorem sbU_fro {op : List D → D → D → Option (List D)} {d i : D} {τ : T} {j : Nat} {b : Bool} {xs : List D} : sbU op d j τ (.fro i) (some (some (.own b (.lst xs)))) = (ofO (op xs i d)).bind fun ys => .ok (τ.set j (some (.own b (.lst ys)))) := rfl
@[simp] theorem oSetL_0 (x d : D) (xs : List D) : oSetL (x :: xs) (.int 0) d = some (d :: xs) := by
  show (ixN (x :: xs).length 0).map _ = _
  unfold ixN
  rw [if_pos (Int.le_refl 0), if_pos (by rw [List.length_cons]; omega)]
  rfl
@[simp] theorem oSetL_1 (x y d : D) (xs : List D) : oSetL (x :: y :: xs) (.int 1) d = some (x :: d :: xs) := by
  show (ixN (x :: y :: xs).length 1).map _ = _
  unfold ixN
  rw [if_pos (by omega), if_pos (by rw [List.length_cons, List.length_cons]; omega)]
  rfl
end F
namespace F
open PySem L2
/-! ### order -/
theorem sort_perm (ds : List D) : (D.sort ds).Perm ds := List.mergeSort_perm ds _
theorem sort_mem {ds : List D} {d : D} : d ∈ D.sort ds ↔ d ∈ ds := List.mem_mergeSort
theorem sort_sorted (ds : List D) : (D.sort ds).Pairwise fun a b => D.lt b a = false := by
  have t := PySem.W.sortLe_total (PyProof.Rows.listOrd PyProof.Rows.itemOrd) false fun d : D => PySem.W.keyToks d.py
  have h := List.pairwise_mergeSort (le := PySem.W.dataLe false D.py) t.trans (fun a b => (Bool.or_eq_true _ _).mpr (t.total a b)) ds
  refine List.Pairwise.imp (fun {a b} z => ?_) h
  rw [PySem.W.dataLe_eq] at z
  have z' : (!PySem.W.dataLt b.py a.py) = true := z
  unfold D.lt
  simpa using z'
theorem lt_ii (x y x' y' : Int) : D.lt (.tup [.int x, .int y]) (.tup [.int x', .int y']) = decide (x < x' ∨ (x = x' ∧ y < y')) := PySem.W.dataLt_ii x y x' y'
theorem lt_int (x y : Int) : D.lt (.int x) (.int y) = decide (x < y) := PySem.W.dataLt_int x y
theorem lt_str (x y : Str) : D.lt (.str x) (.str y) = decide (x.cps.toList < y.cps.toList) := PySem.W.dataLt_str x y
theorem eqvs_ints : ∀ s t : List Int, D.eqvs (s.map D.int) (t.map D.int) = decide (s = t)
  | [], [] => by simp
  | [], _ :: _ => by
    rw [List.map_nil, List.map_cons]
    unfold D.eqvs
    simp
  | _ :: _, [] => by
    rw [List.map_nil, List.map_cons]
    unfold D.eqvs
    simp
  | a :: s, b :: t => by
    rw [List.map_cons, List.map_cons, eqvs_cons, eqvs_ints s t, eqv_int]
    by_cases h : a = b <;> by_cases h2 : s = t <;> simp [h, h2]
theorem noss_ints : ∀ s : List Int, D.noss (s.map D.int) = true
  | [] => by simp
  | a :: s => by
    rw [List.map_cons, noss_cons, noss_ints s]
    simp
theorem okd_ints (n : Nat) (s : List Int) : (s.map D.int).all (D.okd n) = true := by
  rw [List.all_map]
  exact List.all_eq_true.mpr fun x _ => okd_int n x
theorem noss_of : ∀ {ds : List D}, (∀ d ∈ ds, D.nos d = true) → D.noss ds = true
  | [], _ => by simp
  | d :: ds, h => by
    rw [noss_cons, h d List.mem_cons_self, noss_of fun x hx => h x (List.mem_cons_of_mem _ hx)]
    rfl
/-- all are so -/
theorem cAll_true {ds : List D} (h : ∀ d ∈ ds, d = .bl true) : cAll [.lst ds] = some (.fro (.bl true)) := by
  have e : ds = (ds.map fun _ => true).map D.bl := by
    rw [List.map_map]
    conv => lhs; rw [← List.map_id ds]
    exact List.map_congr_left fun d hd => h d hd
  rw [e, cAll_bls]
  have : (ds.map fun _ => true).all id = true := by
    rw [List.all_map]
    exact List.all_eq_true.mpr fun _ _ => rfl
  rw [this]
end F
set_option Elab.async false
set_option linter.all false
set_option maxRecDepth 100000
set_option maxHeartbeats 4000000
/-! FW: how long a repr may be (own work) -/
namespace F
open PySem L2

mutual
def D.sw : D → Nat
  | .int _ => 1921 | .str x => 10 * x.length + 2 | .bl _ => 5 | .non => 4 | .tup xs => D.sws xs + 3
  | _ => 0
def D.sws : List D → Nat
  | [] => 0
  | x :: xs => D.sw x + 2 + D.sws xs
end
mutual
def D.rok : D → Bool
  | .int i => decide (i.natAbs.log2 < 1920) | .str x => x.cps.toList.all (fun c => decide (c < 4294967296)) | .bl _ => true | .non => true | .tup xs => D.roks xs
  | _ => false
def D.roks : List D → Bool
  | [] => true
  | x :: xs => D.rok x && D.roks xs
end
theorem len_app (a b : Str) : (a ++ b).length = a.length + b.length := Array.size_append
theorem reprText_le {x : Str} (h : (x.cps.toList.all (fun c => decide (c < 4294967296))) = true) : (reprText x).length ≤ 10 * x.length + 2 := by
  have h' : ∀ c ∈ x.cps.toList, c < 16 ^ 8 := fun c hc => by
    have := of_decide_eq_true (List.all_eq_true.mp h c hc)
    simpa using this
  have := StrLaws.foldl_repr_len (reprQuote x) x.cps.toList #[reprQuote x] h'
  unfold reprText
  show (Array.push _ _).size ≤ _
  rw [Array.size_push, ← Array.foldl_toList]
  have e : x.length = x.cps.toList.length := by rw [Array.length_toList]; rfl
  rw [e]
  have : (#[reprQuote x] : Array Nat).size = 1 := rfl
  omega
mutual
theorem shown_le : ∀ d : D, D.rok d = true → d.py.shown.length ≤ d.sw ∧ PyData.showable d.py = true
  | .non, _ => ⟨by decide, rfl⟩
  | .bl b, _ => by
    cases b
    · exact ⟨by decide, rfl⟩
    · exact ⟨by decide, rfl⟩
  | .int i, h => by
    unfold D.rok at h
    refine ⟨?_, h⟩
    have := int_text_length_le (k := 1920) (by decide) (of_decide_eq_true h)
    show (Str.ofString (toString i)).length ≤ 1921
    rw [PySem.ofString_length]
    exact this
  | .str x, h => by
    unfold D.rok at h
    exact ⟨reprText_le h, rfl⟩
  | .tup xs, h => by
    unfold D.rok at h
    obtain ⟨h1, h2⟩ := showns_le xs h
    refine ⟨?_, by rw [D.py]; exact h2⟩
    rw [D.py]
    show (tupleText (PyData.shownAll (D.pys xs))).length ≤ D.sws xs + 3
    unfold tupleText
    rw [len_app, len_app]
    have a1 : ("(" : Str).length = 1 := by decide
    have a2 : ((if (PyData.shownAll (D.pys xs)).length == 1 then ",)" else ")" : String) : Str).length ≤ 2 := by
      split <;> decide
    have a3 : (Str.join ", " (PyData.shownAll (D.pys xs))).length ≤ D.sws xs := by
      by_cases z : PyData.shownAll (D.pys xs) = []
      · rw [z]
        exact Nat.zero_le _
      · have := join_length_add _ z
        omega
    omega
  | .lst _, h => by simp [D.rok] at h
  | .set _, h => by simp [D.rok] at h
  | .dct _, h => by simp [D.rok] at h
  | .ins _ _, h => by simp [D.rok] at h
  | .fn _, h => by simp [D.rok] at h
  | .ty _, h => by simp [D.rok] at h
  | .scr _, h => by simp [D.rok] at h
theorem showns_le : ∀ ds : List D, D.roks ds = true → piled (PyData.shownAll (D.pys ds)) ≤ D.sws ds ∧ PyData.showableAll (D.pys ds) = true
  | [], _ => ⟨Nat.le_refl _, rfl⟩
  | d :: ds, h => by
    rw [D.roks, Bool.and_eq_true] at h
    obtain ⟨h1, h2⟩ := shown_le d h.1
    obtain ⟨h3, h4⟩ := showns_le ds h.2
    refine ⟨?_, ?_⟩
    · rw [D.pys, PyData.shownAll, piled_cons, D.sws]
      omega
    · rw [D.pys, PyData.showableAll, h2, h4]
      rfl
end
theorem cRepr_tup {xs : List D} (h1 : D.okd 12 (.tup xs) = true) (h2 : D.roks xs = true) (h3 : D.sws xs ≤ 16000000) : cRepr [.tup xs] = some (.fro (.str (D.py (.tup xs)).shown)) := by
  obtain ⟨a, b⟩ := shown_le (.tup xs) h2
  have e : D.sw (.tup xs) = D.sws xs + 3 := rfl
  have : reprOk (.tup xs) = true := by
    unfold reprOk
    rw [show D.okd dd (.tup xs) = true from h1, b]
    exact decide_eq_true (by omega)
  exact if_pos this
theorem roks_of {ds : List D} (h : ∀ d ∈ ds, D.rok d = true) : D.roks ds = true := by
  induction ds with
  | nil => rfl
  | cons d ds ih =>
    rw [D.roks, h d List.mem_cons_self, ih fun x hx => h x (List.mem_cons_of_mem _ hx)]
    rfl
theorem sws_le {ds : List D} {k : Nat} (h : ∀ d ∈ ds, D.sw d ≤ k) : D.sws ds ≤ ds.length * (k + 2) := by
  induction ds with
  | nil => exact Nat.zero_le _
  | cons d ds ih =>
    have h1 := h d List.mem_cons_self
    have h2 := ih fun x hx => h x (List.mem_cons_of_mem _ hx)
    rw [D.sws, List.length_cons, Nat.add_mul]
    omega
theorem rok_small {i : Int} (h : i.natAbs < 1073741824) : D.rok (.int i) = true := by
  unfold D.rok
  refine decide_eq_true ?_
  by_cases z : i.natAbs = 0
  · rw [z]
    decide
  · have := (Nat.log2_lt z).mpr (show i.natAbs < 2 ^ 30 from h)
    omega
end F
set_option Elab.async false
set_option linter.all false
set_option maxRecDepth 100000
set_option maxHeartbeats 4000000
/-! the walk of a law, printed by gen.py (own work) -/
namespace F.L
open PySem L2 F
def top (i : Nat) : Stmt := PySem.Challenge.pw_dominohall_k50_whole_lines_as_texts.main.body.getD i pass0'
def mth (i j : Nat) : Stmt := (clsB (top i)).getD j pass0'
abbrev s__law_cup : Stmt := top 31
def N__law_cup : List Str := ["script", "cell"]
abbrev s__law_roll : Stmt := top 32
def N__law_roll : List Str := ["cup", "many", "found", "deep"]
abbrev s__law_some : Stmt := top 33
def N__law_some : List Str := ["cup", "things"]
abbrev s__law_line : Stmt := top 34
def N__law_line : List Str := ["cup", "most", "found", "used", "step", "half", "tile"]
abbrev s_is_tuple_of : Stmt := top 10
def N_is_tuple_of : List Str := ["value", "low", "high"]
abbrev s_is_rising : Stmt := top 11
def N_is_rising : List Str := ["value", "one", "other"]
abbrev s_is_whole : Stmt := top 9
def N_is_whole : List Str := ["value", "low", "high"]
abbrev s_fits_tile : Stmt := top 12
def N_fits_tile : List Str := ["value", "one"]
abbrev s_fits_tiles : Stmt := top 13
def N_fits_tiles : List Str := ["value", "one"]
abbrev s_need_tiles : Stmt := top 14
def N_need_tiles : List Str := ["tiles"]
abbrev s_tile_of : Stmt := top 15
def N_tile_of : List Str := ["one", "other"]
abbrev s_fits_line : Stmt := top 16
def N_fits_line : List Str := ["tiles", "value", "used", "one", "other"]
abbrev s_is_line : Stmt := top 17
def N_is_line : List Str := ["tiles", "value"]
abbrev s_fits_any : Stmt := top 22
def N_fits_any : List Str := ["value", "used", "one", "other"]
abbrev s_need_any : Stmt := top 23
def N_need_any : List Str := ["line"]
abbrev s_print_line : Stmt := top 26
def N_print_line : List Str := ["line", "half"]
abbrev s_count_line_texts : Stmt := top 28
def N_count_line_texts : List Str := ["line", "found", "one", "other"]
abbrev s_need_text : Stmt := top 21
def N_need_text : List Str := ["text"]
abbrev s_Reading_here : Stmt := mth 25 1
def N_Reading_here : List Str := ["self"]
abbrev s_Reading_one_of : Stmt := mth 25 3
def N_Reading_one_of : List Str := ["self", "signs", "found"]
abbrev s_halves_from : Stmt := top 24
def N_halves_from : List Str := ["low", "high", "half"]
abbrev s_Reading_line : Stmt := mth 25 6
def N_Reading_line : List Str := ["self", "found", "good", "sign", "half"]
abbrev s_Reading___init__ : Stmt := mth 25 0
def N_Reading___init__ : List Str := ["self", "text"]
abbrev s_read_line : Stmt := top 27
def N_read_line : List Str := ["text"]
abbrev s_tiles_told : Stmt := top 29
def N_tiles_told : List Str := ["text", "line", "one", "other"]
abbrev s__law_right : Stmt := top 35
def N__law_right : List Str := ["cup", "line", "used", "every", "one", "other", "longer", "turn", "text"]
abbrev s_law : Stmt := top 36
def N_law : List Str := ["script", "cup", "turn", "row", "many", "power", "half", "text"]
structure Fc (K : PySem.W.Frag) (mg : Str → Option Value) : Prop where
  b_abs : mg "abs" = none
  b_list : mg "list" = none
  b_int : mg "int" = none
  b_len : mg "len" = none
  b_range : mg "range" = none
  b_min : mg "min" = none
  b_max : mg "max" = none
  b_tuple : mg "tuple" = none
  b_sorted : mg "sorted" = none
  b_isinstance : mg "isinstance" = none
  b_all : mg "all" = none
  b_zip : mg "zip" = none
  b_bool : mg "bool" = none
  b_set : mg "set" = none
  b_str : mg "str" = none
  b_repr : mg "repr" = none
  i_PIPS : IntF mg "PIPS" 6
  i_TILES : IntF mg "TILES" 12
  i_HALVES : IntF mg "HALVES" 13
  i_SIGNS : IntF mg "SIGNS" 20000
  d__law_cup : DefF K mg "_law_cup" s__law_cup
  d__law_roll : DefF K mg "_law_roll" s__law_roll
  d__law_some : DefF K mg "_law_some" s__law_some
  d__law_line : DefF K mg "_law_line" s__law_line
  d_is_tuple_of : DefF K mg "is_tuple_of" s_is_tuple_of
  d_is_rising : DefF K mg "is_rising" s_is_rising
  d_is_whole : DefF K mg "is_whole" s_is_whole
  d_fits_tile : DefF K mg "fits_tile" s_fits_tile
  d_fits_tiles : DefF K mg "fits_tiles" s_fits_tiles
  d_need_tiles : DefF K mg "need_tiles" s_need_tiles
  d_tile_of : DefF K mg "tile_of" s_tile_of
  d_fits_line : DefF K mg "fits_line" s_fits_line
  d_is_line : DefF K mg "is_line" s_is_line
  d_fits_any : DefF K mg "fits_any" s_fits_any
  d_need_any : DefF K mg "need_any" s_need_any
  d_print_line : DefF K mg "print_line" s_print_line
  d_count_line_texts : DefF K mg "count_line_texts" s_count_line_texts
  d_need_text : DefF K mg "need_text" s_need_text
  d_halves_from : DefF K mg "halves_from" s_halves_from
  d_read_line : DefF K mg "read_line" s_read_line
  d_tiles_told : DefF K mg "tiles_told" s_tiles_told
  d__law_right : DefF K mg "_law_right" s__law_right
  d_law : DefF K mg "law" s_law
  c_Reading : ClassF K mg "Reading" ["text", "at"] [("here", s_Reading_here), ("one_of", s_Reading_one_of), ("line", s_Reading_line)] s_Reading___init__
theorem sc__law_cup : FnScope N__law_cup ["script"] (defScope s__law_cup) := ⟨rfl, rfl, rfl, by decide +kernel, rfl, by decide +kernel, by decide +kernel⟩
theorem sc__law_roll : FnScope N__law_roll ["cup", "many"] (defScope s__law_roll) := ⟨rfl, rfl, rfl, by decide +kernel, rfl, by decide +kernel, by decide +kernel⟩
theorem sc__law_some : FnScope N__law_some ["cup", "things"] (defScope s__law_some) := ⟨rfl, rfl, rfl, by decide +kernel, rfl, by decide +kernel, by decide +kernel⟩
theorem sc__law_line : FnScope N__law_line ["cup", "most"] (defScope s__law_line) := ⟨rfl, rfl, rfl, by decide +kernel, rfl, by decide +kernel, by decide +kernel⟩
theorem sc_is_tuple_of : FnScope N_is_tuple_of ["value", "low", "high"] (defScope s_is_tuple_of) := ⟨rfl, rfl, rfl, by decide +kernel, rfl, by decide +kernel, by decide +kernel⟩
theorem sc_is_rising : FnScope N_is_rising ["value"] (defScope s_is_rising) := ⟨rfl, rfl, rfl, by decide +kernel, rfl, by decide +kernel, by decide +kernel⟩
theorem sc_is_whole : FnScope N_is_whole ["value", "low", "high"] (defScope s_is_whole) := ⟨rfl, rfl, rfl, by decide +kernel, rfl, by decide +kernel, by decide +kernel⟩
theorem sc_fits_tile : FnScope N_fits_tile ["value"] (defScope s_fits_tile) := ⟨rfl, rfl, rfl, by decide +kernel, rfl, by decide +kernel, by decide +kernel⟩
theorem sc_fits_tiles : FnScope N_fits_tiles ["value"] (defScope s_fits_tiles) := ⟨rfl, rfl, rfl, by decide +kernel, rfl, by decide +kernel, by decide +kernel⟩
theorem sc_need_tiles : FnScope N_need_tiles ["tiles"] (defScope s_need_tiles) := ⟨rfl, rfl, rfl, by decide +kernel, rfl, by decide +kernel, by decide +kernel⟩
theorem sc_tile_of : FnScope N_tile_of ["one", "other"] (defScope s_tile_of) := ⟨rfl, rfl, rfl, by decide +kernel, rfl, by decide +kernel, by decide +kernel⟩
theorem sc_fits_line : FnScope N_fits_line ["tiles", "value"] (defScope s_fits_line) := ⟨rfl, rfl, rfl, by decide +kernel, rfl, by decide +kernel, by decide +kernel⟩
theorem sc_is_line : FnScope N_is_line ["tiles", "value"] (defScope s_is_line) := ⟨rfl, rfl, rfl, by decide +kernel, rfl, by decide +kernel, by decide +kernel⟩
theorem sc_fits_any : FnScope N_fits_any ["value"] (defScope s_fits_any) := ⟨rfl, rfl, rfl, by decide +kernel, rfl, by decide +kernel, by decide +kernel⟩
theorem sc_need_any : FnScope N_need_any ["line"] (defScope s_need_any) := ⟨rfl, rfl, rfl, by decide +kernel, rfl, by decide +kernel, by decide +kernel⟩
theorem sc_print_line : FnScope N_print_line ["line"] (defScope s_print_line) := ⟨rfl, rfl, rfl, by decide +kernel, rfl, by decide +kernel, by decide +kernel⟩
theorem sc_count_line_texts : FnScope N_count_line_texts ["line"] (defScope s_count_line_texts) := ⟨rfl, rfl, rfl, by decide +kernel, rfl, by decide +kernel, by decide +kernel⟩
theorem sc_need_text : FnScope N_need_text ["text"] (defScope s_need_text) := ⟨rfl, rfl, rfl, by decide +kernel, rfl, by decide +kernel, by decide +kernel⟩
theorem sc_Reading_here : FnScope N_Reading_here ["self"] (defScope s_Reading_here) := ⟨rfl, rfl, rfl, by decide +kernel, rfl, by decide +kernel, by decide +kernel⟩
theorem sc_Reading_one_of : FnScope N_Reading_one_of ["self", "signs"] (defScope s_Reading_one_of) := ⟨rfl, rfl, rfl, by decide +kernel, rfl, by decide +kernel, by decide +kernel⟩
theorem sc_halves_from : FnScope N_halves_from ["low", "high"] (defScope s_halves_from) := ⟨rfl, rfl, rfl, by decide +kernel, rfl, by decide +kernel, by decide +kernel⟩
theorem sc_Reading_line : FnScope N_Reading_line ["self"] (defScope s_Reading_line) := ⟨rfl, rfl, rfl, by decide +kernel, rfl, by decide +kernel, by decide +kernel⟩
theorem sc_Reading___init__ : FnScope N_Reading___init__ ["self", "text"] (defScope s_Reading___init__) := ⟨rfl, rfl, rfl, by decide +kernel, rfl, by decide +kernel, by decide +kernel⟩
theorem sc_read_line : FnScope N_read_line ["text"] (defScope s_read_line) := ⟨rfl, rfl, rfl, by decide +kernel, rfl, by decide +kernel, by decide +kernel⟩
theorem sc_tiles_told : FnScope N_tiles_told ["text"] (defScope s_tiles_told) := ⟨rfl, rfl, rfl, by decide +kernel, rfl, by decide +kernel, by decide +kernel⟩
theorem sc__law_right : FnScope N__law_right ["cup"] (defScope s__law_right) := ⟨rfl, rfl, rfl, by decide +kernel, rfl, by decide +kernel, by decide +kernel⟩
theorem sc_law : FnScope N_law ["script"] (defScope s_law) := ⟨rfl, rfl, rfl, by decide +kernel, rfl, by decide +kernel, by decide +kernel⟩
def g__law_cup : FS := sSeq (sSet 1 (sCB cAbs (aCons (sOp2 dIx (sOp2 dAdd (sCB cList (aCons (sVar 0) (aNil))) (sLst (aCons (sC (.int 0)) (aNil)))) (sC (.int 0))) (aNil)))) (sRet (sLst (aCons (sIf (bV (sOp2 dGe (sVar 1) (sOp2 dPow (sC (.int 10)) (sC (.int 18))))) (sOp2 dDiv (sVar 1) (sC (.int 161))) (sC (.int 0))) (aCons (sOp2 dAdd (sOp2 dMod (sCB cInt (aCons (sOp2 dAdd (sOp2 dMul (sVar 1) (sC (.int 427))) (sC (.int 4611))) (aNil))) (sC (.int 2077503101))) (sC (.int 305))) (aNil)))))
def F__law_cup : FnR := fnS 2 g__law_cup
def g__law_roll : FS := sSeq (sIfS (bV (sOp2 dGt (sOp2 dIx (sVar 0) (sC (.int 0))) (sC (.int 0)))) (sSeq (sSet 2 (sOp2 dMod (sCB cInt (aCons (sOp2 dIx (sVar 0) (sC (.int 0))) (aNil))) (sVar 1))) (sSeq (sAsg (sOp2 dDiv (sOp2 dIx (sVar 0) (sC (.int 0))) (sVar 1)) (gSub0 oSetL (sVar 0) (sC (.int 0)))) (sRet (sVar 2)))) (sSkip)) (sSeq (sAsg (sOp2 dMod (sCB cInt (aCons (sOp2 dAdd (sOp2 dMul (sOp2 dIx (sVar 0) (sC (.int 1))) (sC (.int 31355))) (sC (.int 8293))) (aNil))) (sC (.int 2147483399))) (gSub0 oSetL (sVar 0) (sC (.int 1)))) (sSeq (sSet 3 (sOp2 dMod (sCB cInt (aCons (sOp2 dMul (sOp2 dIx (sVar 0) (sC (.int 1))) (sOp2 dAdd (sOp2 dIx (sVar 0) (sC (.int 1))) (sC (.int 503)))) (aNil))) (sC (.int 2147483563)))) (sRet (sOp2 dMod (sCB cInt (aCons (sOp2 dDiv (sVar 3) (sC (.int 797))) (aNil))) (sVar 1)))))
def F__law_roll : FnR := fnS 4 g__law_roll
def g__law_some : FS := sRet (sOp2 dIx (sVar 1) (sCall 2 F__law_roll (aCons (sVar 0) (aCons (sCB cLen (aCons (sVar 1) (aNil))) (aNil)))))
def F__law_some : FnR := fnS 2 g__law_some
def g__law_line : FS := sSeq (sPar [2, 3] (aCons (sTup (aCons (sFrz (sCall 2 F__law_roll (aCons (sVar 0) (aCons (sC (.int 7)) (aNil))))) (aNil))) (aCons (sLst (aNil)) (aNil)))) (sSeq (sFor (iRng1 (aCons (sCall 2 F__law_roll (aCons (sVar 0) (aCons (sFrz (sVar 1)) (aNil)))) (aNil))) (gN 4) (sSeq (sSet 5 (sCall 2 F__law_some (aCons (sVar 0) (aCons (sFrz (sLst (aCons (sOp2 dIx (sVar 2) (sOp1 dNeg (sC (.int 1)))) (aCons (sFrz (sCall 2 F__law_roll (aCons (sVar 0) (aCons (sC (.int 7)) (aNil))))) (aCons (sFrz (sCall 2 F__law_roll (aCons (sVar 0) (aCons (sC (.int 3)) (aNil))))) (aNil)))))) (aNil))))) (sSeq (sSet 6 (sTup (aCons (sCB cMin (aCons (sOp2 dIx (sVar 2) (sOp1 dNeg (sC (.int 1)))) (aCons (sVar 5) (aNil)))) (aCons (sCB cMax (aCons (sOp2 dIx (sVar 2) (sOp1 dNeg (sC (.int 1)))) (aCons (sVar 5) (aNil)))) (aNil))))) (sIfS (bV (sOp2 dNotIn (sVar 6) (sVar 3))) (sSeq (sDrop (sMw wAppend (sVar 3) (aCons (sFrz (sVar 6)) (aNil)))) (sSet 2 (sOp2 dAdd (sVar 2) (sTup (aCons (sFrz (sVar 5)) (aNil)))))) (sSkip)))) [1, 4, 5, 6]) (sRet (sTup (aCons (sFrz (sVar 2)) (aCons (sCB cTup (aCons (sCB cSorted (aCons (sVar 3) (aNil))) (aNil))) (aNil))))))
def F__law_line : FnR := fnS 7 g__law_line
def g_is_tuple_of : FS := sRet (sAnd (sCB cIsi (aCons (sVar 0) (aCons (sC (.ty "tuple")) (aNil)))) (sChain dLe dLe (sVar 1) (sCB cLen (aCons (sVar 0) (aNil))) (sVar 2)))
def F_is_tuple_of : FnR := fnS 3 g_is_tuple_of
def g_is_rising : FS := sRet (sCB cAll (aCons (sComp (iZip (aCons (sFrz (sVar 0)) (aCons (sFrz (sSl dSl (sVar 0) (oSome (sC (.int 1))) (oNone))) (aNil)))) (gTup (gCons (gN 1) (gCons (gN 2) (gNil)))) (bYes) (sOp2 dLt (sVar 1) (sVar 2)) [1, 2]) (aNil)))
def F_is_rising : FnR := fnS 3 g_is_rising
def g_is_whole : FS := sRet (sAnd (sCB cIsi (aCons (sVar 0) (aCons (sC (.ty "int")) (aNil)))) (sAnd (sNot (sCB cIsi (aCons (sVar 0) (aCons (sC (.ty "bool")) (aNil))))) (sChain dLe dLe (sVar 1) (sVar 0) (sVar 2))))
def F_is_whole : FnR := fnS 3 g_is_whole
def g_fits_tile : FS := sRet (sAnd (sCall 3 F_is_tuple_of (aCons (sFrz (sVar 0)) (aCons (sC (.int 2)) (aCons (sC (.int 2)) (aNil))))) (sAnd (sCB cAll (aCons (sComp (iSeq (sVar 0)) (gN 1) (bYes) (sFrz (sCall 3 F_is_whole (aCons (sFrz (sVar 1)) (aCons (sC (.int 0)) (aCons (sC (.int 6)) (aNil)))))) [1]) (aNil))) (sOp2 dLe (sOp2 dIx (sVar 0) (sC (.int 0))) (sOp2 dIx (sVar 0) (sC (.int 1))))))
def F_fits_tile : FnR := fnS 2 g_fits_tile
def g_fits_tiles : FS := sRet (sAnd (sCall 3 F_is_tuple_of (aCons (sFrz (sVar 0)) (aCons (sC (.int 0)) (aCons (sC (.int 12)) (aNil))))) (sAnd (sCB cAll (aCons (sComp (iSeq (sVar 0)) (gN 1) (bYes) (sFrz (sCall 1 F_fits_tile (aCons (sFrz (sVar 1)) (aNil)))) [1]) (aNil))) (sCall 1 F_is_rising (aCons (sFrz (sVar 0)) (aNil)))))
def F_fits_tiles : FnR := fnS 2 g_fits_tiles
def g_need_tiles : FS := sIfS (bNot (bV (sCall 1 F_fits_tiles (aCons (sFrz (sVar 0)) (aNil))))) (sNever) (sSkip)
def F_need_tiles : FnR := fnS 1 g_need_tiles
def g_tile_of : FS := sRet (sTup (aCons (sCB cMin (aCons (sVar 0) (aCons (sVar 1) (aNil)))) (aCons (sCB cMax (aCons (sVar 0) (aCons (sVar 1) (aNil)))) (aNil))))
def F_tile_of : FnR := fnS 2 g_tile_of
def g_fits_line : FS := sSeq (sIfS (bOr (bNot (bV (sCall 3 F_is_tuple_of (aCons (sFrz (sVar 1)) (aCons (sC (.int 1)) (aCons (sOp2 dAdd (sC (.int 12)) (sC (.int 1))) (aNil))))))) (bNot (bV (sCB cAll (aCons (sComp (iSeq (sVar 1)) (gN 3) (bYes) (sFrz (sCall 3 F_is_whole (aCons (sFrz (sVar 3)) (aCons (sC (.int 0)) (aCons (sC (.int 6)) (aNil)))))) [3]) (aNil)))))) (sRet (sC (.bl false))) (sSkip)) (sSeq (sSet 2 (sComp (iZip (aCons (sFrz (sVar 1)) (aCons (sFrz (sSl dSl (sVar 1) (oSome (sC (.int 1))) (oNone))) (aNil)))) (gTup (gCons (gN 3) (gCons (gN 4) (gNil)))) (bYes) (sFrz (sCall 2 F_tile_of (aCons (sFrz (sVar 3)) (aCons (sFrz (sVar 4)) (aNil))))) [3, 4])) (sRet (sAnd (sCB cAll (aCons (sComp (iSeq (sVar 2)) (gN 3) (bYes) (sOp2 dIn (sVar 3) (sVar 0)) [3]) (aNil))) (sOp2 dEq (sOp1 lenSet (sVar 2)) (sCB cLen (aCons (sVar 2) (aNil)))))))
def F_fits_line : FnR := fnS 5 g_fits_line
def g_is_line : FS := sSeq (sDrop (sCall 1 F_need_tiles (aCons (sFrz (sVar 0)) (aNil)))) (sRet (sCall 2 F_fits_line (aCons (sFrz (sVar 0)) (aCons (sFrz (sVar 1)) (aNil)))))
def F_is_line : FnR := fnS 2 g_is_line
def g_fits_any : FS := sSeq (sIfS (bOr (bNot (bV (sCall 3 F_is_tuple_of (aCons (sFrz (sVar 0)) (aCons (sC (.int 1)) (aCons (sC (.int 13)) (aNil))))))) (bNot (bV (sCB cAll (aCons (sComp (iSeq (sVar 0)) (gN 2) (bYes) (sFrz (sCall 3 F_is_whole (aCons (sFrz (sVar 2)) (aCons (sC (.int 0)) (aCons (sC (.int 6)) (aNil)))))) [2]) (aNil)))))) (sRet (sC (.bl false))) (sSkip)) (sSeq (sSet 1 (sComp (iZip (aCons (sFrz (sVar 0)) (aCons (sFrz (sSl dSl (sVar 0) (oSome (sC (.int 1))) (oNone))) (aNil)))) (gTup (gCons (gN 2) (gCons (gN 3) (gNil)))) (bYes) (sFrz (sCall 2 F_tile_of (aCons (sFrz (sVar 2)) (aCons (sFrz (sVar 3)) (aNil))))) [2, 3])) (sRet (sOp2 dEq (sOp1 lenSet (sVar 1)) (sCB cLen (aCons (sVar 1) (aNil))))))
def F_fits_any : FnR := fnS 4 g_fits_any
def g_need_any : FS := sIfS (bNot (bV (sCall 1 F_fits_any (aCons (sFrz (sVar 0)) (aNil))))) (sNever) (sSkip)
def F_need_any : FnR := fnS 1 g_need_any
def g_print_line : FS := sSeq (sDrop (sCall 1 F_need_any (aCons (sFrz (sVar 0)) (aNil)))) (sRet (sBM "str" mJoin (sC (.str "")) (aCons (sComp (iSeq (sVar 0)) (gN 1) (bYes) (sCB cStr (aCons (sVar 1) (aNil))) [1]) (aNil))))
def F_print_line : FnR := fnS 2 g_print_line
def g_count_line_texts : FS := sSeq (sDrop (sCall 1 F_need_any (aCons (sFrz (sVar 0)) (aNil)))) (sSeq (sSet 1 (sC (.int 1))) (sSeq (sFor (iZip (aCons (sFrz (sVar 0)) (aCons (sFrz (sSl dSl (sVar 0) (oSome (sC (.int 1))) (oNone))) (aNil)))) (gTup (gCons (gN 2) (gCons (gN 3) (gNil)))) (sSet 1 (sOp2 dMul (sVar 1) (sIf (bV (sOp2 dEq (sVar 2) (sVar 3))) (sC (.int 2)) (sC (.int 1))))) [0, 2, 3]) (sRet (sVar 1))))
def F_count_line_texts : FnR := fnS 4 g_count_line_texts
def g_need_text : FS := sIfS (bOr (bNot (bV (sCB cIsi (aCons (sVar 0) (aCons (sC (.ty "str")) (aNil)))))) (bV (sOp2 dGt (sCB cLen (aCons (sVar 0) (aNil))) (sC (.int 20000))))) (sNever) (sSkip)
def F_need_text : FnR := fnS 1 g_need_text
def g_Reading_here : FS := sRet (sSl dSl (sFld "Reading" "text" (sVar 0)) (oSome (sFld "Reading" "at" (sVar 0))) (oSome (sOp2 dAdd (sFld "Reading" "at" (sVar 0)) (sC (.int 1)))))
def F_Reading_here : FnR := fnS 1 g_Reading_here
def g_Reading_one_of : FS := sSeq (sSet 2 (sMeth "Reading" "here" 1 F_Reading_here (sVar 0) (aNil))) (sSeq (sIfS (bOr (bV (sOp2 dEq (sVar 2) (sC (.str "")))) (bV (sOp2 dNotIn (sVar 2) (sVar 1)))) (sNever) (sSkip)) (sSeq (sAsg (sOp2 dAdd (sFld "Reading" "at" (sVar 0)) (sC (.int 1))) (gFld "Reading" "at" (sVar 0))) (sRet (sVar 2))))
def F_Reading_one_of : FnR := fnS 3 g_Reading_one_of
def g_halves_from : FS := sRet (sComp (iRng2 (aCons (sVar 0) (aCons (sOp2 dAdd (sCB cMin (aCons (sVar 1) (aCons (sC (.int 6)) (aNil)))) (sC (.int 1))) (aNil)))) (gN 2) (bYes) (sCB cStr (aCons (sVar 2) (aNil))) [2])
def F_halves_from : FnR := fnS 3 g_halves_from
def g_Reading_line : FS := sSeq (sSet 1 (sTup (aCons (sCB cInt (aCons (sMeth "Reading" "one_of" 2 F_Reading_one_of (sVar 0) (aCons (sFrz (sCall 2 F_halves_from (aCons (sC (.int 0)) (aCons (sC (.int 6)) (aNil))))) (aNil))) (aNil))) (aNil)))) (sSeq (sWhile 1000 (bV (sOp2 dNe (sMeth "Reading" "here" 1 F_Reading_here (sVar 0) (aNil)) (sC (.str "")))) (sSeq (sSet 2 (sComp (iRng1 (aCons (sOp2 dAdd (sC (.int 6)) (sC (.int 1))) (aNil))) (gN 4) (bV (sCall 1 F_fits_any (aCons (sFrz (sOp2 dAdd (sVar 1) (sTup (aCons (sFrz (sVar 4)) (aNil))))) (aNil)))) (sFrz (sVar 4)) [4])) (sSeq (sSet 3 (sMeth "Reading" "one_of" 2 F_Reading_one_of (sVar 0) (aCons (sFrz (sOp2 dAdd (sComp (iSeq (sVar 2)) (gN 4) (bYes) (sCB cStr (aCons (sVar 4) (aNil))) [4]) (sIf (bV (sOp2 dIn (sOp2 dIx (sVar 1) (sOp1 dNeg (sC (.int 1)))) (sVar 2))) (sLst (aCons (sC (.str "=")) (aNil))) (sLst (aNil))))) (aNil)))) (sSet 1 (sOp2 dAdd (sVar 1) (sTup (aCons (sIf (bV (sOp2 dEq (sVar 3) (sC (.str "=")))) (sOp2 dIx (sVar 1) (sOp1 dNeg (sC (.int 1)))) (sCB cInt (aCons (sVar 3) (aNil)))) (aNil))))))) [2, 3, 4]) (sRet (sVar 1)))
def F_Reading_line : FnR := fnS 5 g_Reading_line
def g_Reading___init__ : FS := sAsg (sTup (aCons (sFrz (sVar 1)) (aCons (sC (.int 0)) (aNil)))) (gTup (gCons (gFld "Reading" "text" (sVar 0)) (gCons (gFld "Reading" "at" (sVar 0)) (gNil))))
def F_Reading___init__ : FnR := fnS 2 g_Reading___init__
def g_read_line : FS := sSeq (sDrop (sCall 1 F_need_text (aCons (sFrz (sVar 0)) (aNil)))) (sRet (sMeth "Reading" "line" 1 F_Reading_line (sMake "Reading" 2 F_Reading___init__ (aCons (sFrz (sVar 0)) (aNil))) (aNil)))
def F_read_line : FnR := fnS 1 g_read_line
def g_tiles_told : FS := sSeq (sDrop (sCall 1 F_need_text (aCons (sFrz (sVar 0)) (aNil)))) (sSeq (sSet 1 (sMeth "Reading" "line" 1 F_Reading_line (sMake "Reading" 2 F_Reading___init__ (aCons (sFrz (sVar 0)) (aNil))) (aNil))) (sRet (sCB cTup (aCons (sCB cSorted (aCons (sComp (iZip (aCons (sFrz (sVar 1)) (aCons (sFrz (sSl dSl (sVar 1) (oSome (sC (.int 1))) (oNone))) (aNil)))) (gTup (gCons (gN 2) (gCons (gN 3) (gNil)))) (bYes) (sFrz (sCall 2 F_tile_of (aCons (sFrz (sVar 2)) (aCons (sFrz (sVar 3)) (aNil))))) [2, 3]) (aNil))) (aNil)))))
def F_tiles_told : FnR := fnS 4 g_tiles_told
def g__law_right : FS := sSeq (sAsg (sFrz (sCall 2 F__law_line (aCons (sVar 0) (aCons (sC (.int 13)) (aNil))))) (gTup (gCons (gN 1) (gCons (gN 2) (gNil))))) (sSeq (sSet 3 (sLst (aCons (sCB cStr (aCons (sOp2 dIx (sVar 1) (sC (.int 0))) (aNil))) (aNil)))) (sSeq (sFor (iZip (aCons (sFrz (sVar 1)) (aCons (sFrz (sSl dSl (sVar 1) (oSome (sC (.int 1))) (oNone))) (aNil)))) (gTup (gCons (gN 4) (gCons (gN 5) (gNil)))) (sSeq (sSet 6 (sComp (iSeq (sVar 3)) (gN 8) (bYes) (sFrz (sOp2 dAdd (sVar 8) (sCB cStr (aCons (sVar 5) (aNil))))) [8])) (sSet 3 (sOp2 dAdd (sVar 6) (sIf (bV (sOp2 dEq (sVar 4) (sVar 5))) (sComp (iSeq (sVar 3)) (gN 8) (bYes) (sFrz (sOp2 dAdd (sVar 8) (sC (.str "=")))) [8]) (sLst (aNil)))))) [4, 5, 6, 7, 8]) (sSeq (sIfS (bOr (bV (sOp2 dNe (sCB cRepr (aCons (sTup (aCons (sFrz (sCall 1 F_print_line (aCons (sFrz (sVar 1)) (aNil)))) (aCons (sFrz (sCall 1 F_count_line_texts (aCons (sFrz (sVar 1)) (aNil)))) (aNil)))) (aNil))) (sCB cRepr (aCons (sTup (aCons (sCB cMin (aCons (sVar 3) (aNil))) (aCons (sCB cLen (aCons (sVar 3) (aNil))) (aNil)))) (aNil))))) (bV (sOp2 dIsNot (sCall 2 F_is_line (aCons (sFrz (sVar 2)) (aCons (sFrz (sVar 1)) (aNil)))) (sC (.bl true))))) (sRet (sC (.bl false))) (sSkip)) (sSeq (sFor (iRng1 (aCons (sC (.int 6)) (aNil))) (gN 7) (sSeq (sSet 8 (sCall 2 F__law_some (aCons (sVar 0) (aCons (sFrz (sVar 3)) (aNil))))) (sIfS (bV (sOp2 dNe (sCB cRepr (aCons (sTup (aCons (sFrz (sCall 1 F_read_line (aCons (sFrz (sVar 8)) (aNil)))) (aCons (sFrz (sCall 1 F_tiles_told (aCons (sFrz (sVar 8)) (aNil)))) (aNil)))) (aNil))) (sCB cRepr (aCons (sTup (aCons (sFrz (sVar 1)) (aCons (sFrz (sVar 2)) (aNil)))) (aNil))))) (sRet (sC (.bl false))) (sSkip))) [4, 5, 6, 7, 8]) (sRet (sC (.bl true)))))))
def F__law_right : FnR := fnS 9 g__law_right
def g_law : FS := sSeq (sSet 1 (sCall 1 F__law_cup (aCons (sFrz (sVar 0)) (aNil)))) (sSeq (sFor (iRng1 (aCons (sC (.int 10)) (aNil))) (gN 2) (sIfS (bNot (bV (sCall 1 F__law_right (aCons (sVar 1) (aNil))))) (sRet (sC (.bl false))) (sSkip)) [0, 2, 3, 4, 5, 6, 7]) (sSeq (sPar [3, 4, 5] (aCons (sTup (aCons (sC (.int 0)) (aCons (sC (.int 0)) (aNil)))) (aCons (sOp2 dAdd (sC (.int 1)) (sCall 2 F__law_roll (aCons (sVar 1) (aCons (sC (.int 6)) (aNil))))) (aCons (sC (.int 2)) (aNil))))) (sSeq (sFor (iRng2 (aCons (sC (.int 1)) (aCons (sVar 4) (aNil)))) (gN 6) (sPar [3, 5] (aCons (sOp2 dAdd (sVar 3) (sTup (aCons (sFrz (sVar 6)) (aCons (sFrz (sVar 6)) (aNil))))) (aCons (sOp2 dMul (sVar 5) (sC (.int 2))) (aNil)))) [0, 1, 2, 6, 7]) (sSeq (sSet 7 (sBM "str" mJoin (sC (.str "")) (aCons (sComp (iRng1 (aCons (sVar 4) (aNil))) (gN 6) (bYes) (sFrz (sOp2 dAdd (sCB cStr (aCons (sVar 6) (aNil))) (sC (.str "=")))) [6]) (aNil)))) (sRet (sOp2 dEq (sTup (aCons (sFrz (sCall 1 F_count_line_texts (aCons (sFrz (sVar 3)) (aNil)))) (aCons (sFrz (sCall 1 F_read_line (aCons (sFrz (sVar 7)) (aNil)))) (aCons (sCB cLen (aCons (sCall 1 F_tiles_told (aCons (sFrz (sVar 7)) (aNil))) (aNil))) (aCons (sFrz (sCall 1 F_count_line_texts (aCons (sTup (aCons (sC (.int 5)) (aNil))) (aNil)))) (aCons (sFrz (sCall 1 F_tiles_told (aCons (sC (.str "5")) (aNil)))) (aNil))))))) (sTup (aCons (sFrz (sVar 5)) (aCons (sFrz (sVar 3)) (aCons (sOp2 dSub (sOp2 dMul (sC (.int 2)) (sVar 4)) (sC (.int 1))) (aCons (sC (.int 1)) (aCons (sTup (aNil)) (aNil)))))))))))))
def F_law : FnR := fnS 8 g_law
section
variable {P : Program} {w : World} {K : PySem.W.Frag} {mg : Str → Option Value} {base : Heap}
theorem ok__law_cup (Y : Fc K mg) : Fn P w K mg base CX0 xn "_law_cup" 1 1 F__law_cup := by
  obtain ⟨f, fd, hm, FD⟩ := Y.d__law_cup
  have b_abs := Y.b_abs
  have b_list := Y.b_list
  have b_int := Y.b_int
  have nd := sc__law_cup.nd
  refine ⟨f, fd, ["script"], hm, FD.kp, rfl, FunD.bindsN (ps := ["script"]) FD fun _ _ _ _ _ _ us hl => match us, hl with | [_], _ => rfl, fn_g FD sc__law_cup rfl fun cdv A outer s H E hr hgd => ?_⟩
  have hu := rm hr
  have hv := rm4 hr
  refine PSs.nox ?_
  show SSs _ xw0 _ g__law_cup
  exact ss_cons (ss_set (i := 1) nd (ee_callB cl_abs rfl b_abs bt_abs (ea_cons (ee_ix ix_dIx (ee_op op_dAdd (ee_callTy cl_list rfl b_list bt_list (ea_cons (ee_var 0) (ea_nil))) (ee_lst (ea_cons (ee_int) (ea_nil)))) (ee_int)) (ea_nil)))) (ss_one (ss_ret (ee_lst (ea_cons (ee_if (eb_cmp (op_dGe hv) (ee_var 1) (ee_op op_dPow (ee_int) (ee_int))) (ee_op op_dDiv (ee_var 1) (ee_int)) (ee_int)) (ea_cons (ee_op op_dAdd (ee_op op_dMod (ee_callTy cl_int rfl b_int bt_int (ea_cons (ee_op op_dAdd (ee_op op_dMul (ee_var 1) (ee_int)) (ee_int)) (ea_nil))) (ee_int)) (ee_int)) (ea_nil))))))
theorem ok__law_roll (Y : Fc K mg) : Fn P w K mg base CX0 xn "_law_roll" 2 1 F__law_roll := by
  obtain ⟨f, fd, hm, FD⟩ := Y.d__law_roll
  have b_int := Y.b_int
  have nd := sc__law_roll.nd
  refine ⟨f, fd, ["cup", "many"], hm, FD.kp, rfl, FunD.bindsN (ps := ["cup", "many"]) FD fun _ _ _ _ _ _ us hl => match us, hl with | [_, _], _ => rfl, fn_g FD sc__law_roll rfl fun cdv A outer s H E hr hgd => ?_⟩
  have hu := rm hr
  have hv := rm4 hr
  refine PSs.nox ?_
  show SSs _ xw0 _ g__law_roll
  exact ss_cons (ss_if (eb_cmp (op_dGt hv) (ee_ix ix_dIx (ee_var 0) (ee_int)) (ee_int)) (ss_cons (ss_set (i := 2) nd (ee_op op_dMod (ee_callTy cl_int rfl b_int bt_int (ea_cons (ee_ix ix_dIx (ee_var 0) (ee_int)) (ea_nil))) (ee_var 1))) (ss_cons (ss_asg (ee_op op_dDiv (ee_ix ix_dIx (ee_var 0) (ee_int)) (ee_var 1)) (gg_subL (ee_var 0) (ee_int))) (ss_one (ss_ret (ee_var 2))))) (ss_nil)) (ss_cons (ss_asg (ee_op op_dMod (ee_callTy cl_int rfl b_int bt_int (ea_cons (ee_op op_dAdd (ee_op op_dMul (ee_ix ix_dIx (ee_var 0) (ee_int)) (ee_int)) (ee_int)) (ea_nil))) (ee_int)) (gg_subL (ee_var 0) (ee_int))) (ss_cons (ss_set (i := 3) nd (ee_op op_dMod (ee_callTy cl_int rfl b_int bt_int (ea_cons (ee_op op_dMul (ee_ix ix_dIx (ee_var 0) (ee_int)) (ee_op op_dAdd (ee_ix ix_dIx (ee_var 0) (ee_int)) (ee_int))) (ea_nil))) (ee_int))) (ss_one (ss_ret (ee_op op_dMod (ee_callTy cl_int rfl b_int bt_int (ea_cons (ee_op op_dDiv (ee_var 3) (ee_int)) (ea_nil))) (ee_var 1))))))
theorem ok__law_some (Y : Fc K mg) : Fn P w K mg base CX0 xn "_law_some" 2 2 F__law_some := by
  obtain ⟨f, fd, hm, FD⟩ := Y.d__law_some
  have b_len := Y.b_len
  have k__law_roll := ok__law_roll (P := P) (w := w) (base := base) Y
  have nd := sc__law_some.nd
  refine ⟨f, fd, ["cup", "things"], hm, FD.kp, rfl, FunD.bindsN (ps := ["cup", "things"]) FD fun _ _ _ _ _ _ us hl => match us, hl with | [_, _], _ => rfl, fn_g FD sc__law_some rfl fun cdv A outer s H E hr hgd => ?_⟩
  have hu := rm hr
  have hv := rm4 hr
  refine PSs.nox ?_
  show SSs _ xw0 _ g__law_some
  exact ss_one (ss_ret (ee_ix ix_dIx (ee_var 1) (ee_call k__law_roll (hr.mono (by decide)) hgd pass0 (Ex := E0) rfl (ea_cons (ee_var 0) (ea_cons (ee_callB cl_len rfl b_len bt_len (ea_cons (ee_var 1) (ea_nil))) (ea_nil))))))
theorem ok__law_line (Y : Fc K mg) : Fn P w K mg base CX0 xn "_law_line" 2 3 F__law_line := by
  obtain ⟨f, fd, hm, FD⟩ := Y.d__law_line
  have b_range := Y.b_range
  have b_min := Y.b_min
  have b_max := Y.b_max
  have b_tuple := Y.b_tuple
  have b_sorted := Y.b_sorted
  have k__law_roll := ok__law_roll (P := P) (w := w) (base := base) Y
  have k__law_some := ok__law_some (P := P) (w := w) (base := base) Y
  have nd := sc__law_line.nd
  refine ⟨f, fd, ["cup", "most"], hm, FD.kp, rfl, FunD.bindsN (ps := ["cup", "most"]) FD fun _ _ _ _ _ _ us hl => match us, hl with | [_, _], _ => rfl, fn_g FD sc__law_line rfl fun cdv A outer s H E hr hgd => ?_⟩
  have hu := rm hr
  have hv := rm4 hr
  refine PSs.nox ?_
  show SSs _ xw0 _ g__law_line
  exact ss_cons (ss_par (i := 2) (j := 3) rfl nd (by decide) (ea_cons (ee_tup (ea_cons (ee_frz (ee_call k__law_roll (hr.mono (by decide)) hgd pass0 (Ex := E0) rfl (ea_cons (ee_var 0) (ea_cons (ee_int) (ea_nil))))) (ea_nil))) (ea_cons (ee_lst (ea_nil)) (ea_nil))) (by rfl)) (ss_cons (ss_for [1, 4, 5, 6] .never rfl (ii_range1 rfl b_range (ea_cons (ee_call k__law_roll (hr.mono (by decide)) hgd pass0 (Ex := E0) rfl (ea_cons (ee_var 0) (ea_cons (ee_frz (ee_var 1)) (ea_nil)))) (ea_nil))) (gg_name (i := 4) nd) (ss_cons (ss_set (i := 5) nd (ee_call k__law_some (hr.mono (by decide)) hgd pass0 (Ex := E0) rfl (ea_cons (ee_var 0) (ea_cons (ee_frz (ee_lst (ea_cons (ee_ix ix_dIx (ee_var 2) (ee_un un_dNeg (ee_int))) (ea_cons (ee_frz (ee_call k__law_roll (hr.mono (by decide)) hgd pass0 (Ex := E0) rfl (ea_cons (ee_var 0) (ea_cons (ee_int) (ea_nil))))) (ea_cons (ee_frz (ee_call k__law_roll (hr.mono (by decide)) hgd pass0 (Ex := E0) rfl (ea_cons (ee_var 0) (ea_cons (ee_int) (ea_nil))))) (ea_nil)))))) (ea_nil))))) (ss_cons (ss_set (i := 6) nd (ee_tup (ea_cons (ee_callB (cl_min rfl hu) rfl b_min bt_min (ea_cons (ee_ix ix_dIx (ee_var 2) (ee_un un_dNeg (ee_int))) (ea_cons (ee_var 5) (ea_nil)))) (ea_cons (ee_callB (cl_max rfl hu) rfl b_max bt_max (ea_cons (ee_ix ix_dIx (ee_var 2) (ee_un un_dNeg (ee_int))) (ea_cons (ee_var 5) (ea_nil)))) (ea_nil))))) (ss_one (ss_if (eb_cmp (op_dNotIn0 hu) (ee_var 6) (ee_var 3)) (ss_cons (ss_expr (ee_mw at_list sl_append rfl mw_append (ee_var 3) (ea_cons (ee_frz (ee_var 6)) (ea_nil)))) (ss_one (ss_set (i := 2) nd (ee_op op_dAdd (ee_var 2) (ee_tup (ea_cons (ee_frz (ee_var 5)) (ea_nil))))))) (ss_nil)))))) (ss_one (ss_ret (ee_tup (ea_cons (ee_frz (ee_var 2)) (ea_cons (ee_callTy cl_tup rfl b_tuple bt_tuple (ea_cons (ee_callB (cl_sorted hu) rfl b_sorted bt_sorted (ea_cons (ee_var 3) (ea_nil))) (ea_nil))) (ea_nil)))))))
theorem ok_is_tuple_of (Y : Fc K mg) : Fn P w K mg base CX0 xn "is_tuple_of" 3 1 F_is_tuple_of := by
  obtain ⟨f, fd, hm, FD⟩ := Y.d_is_tuple_of
  have b_isinstance := Y.b_isinstance
  have b_tuple := Y.b_tuple
  have b_len := Y.b_len
  have nd := sc_is_tuple_of.nd
  refine ⟨f, fd, ["value", "low", "high"], hm, FD.kp, rfl, FunD.bindsN (ps := ["value", "low", "high"]) FD fun _ _ _ _ _ _ us hl => match us, hl with | [_, _, _], _ => rfl, fn_g FD sc_is_tuple_of rfl fun cdv A outer s H E hr hgd => ?_⟩
  have hu := rm hr
  have hv := rm4 hr
  refine PSs.nox ?_
  show SSs _ xw0 _ g_is_tuple_of
  exact ss_one (ss_ret (ee_and (ee_callB cl_isi rfl b_isinstance bt_isinstance (ea_cons (ee_var 0) (ea_cons (ee_bty rfl b_tuple bt_tuple) (ea_nil)))) (ee_one (ee_chain (op_dLe hv) (op_dLe hv) (ee_var 1) (ee_callB cl_len rfl b_len bt_len (ea_cons (ee_var 0) (ea_nil))) (ee_var 2)))))
theorem ok_is_rising (Y : Fc K mg) : Fn P w K mg base CX0 xn "is_rising" 1 1 F_is_rising := by
  obtain ⟨f, fd, hm, FD⟩ := Y.d_is_rising
  have b_all := Y.b_all
  have b_zip := Y.b_zip
  have nd := sc_is_rising.nd
  refine ⟨f, fd, ["value"], hm, FD.kp, rfl, FunD.bindsN (ps := ["value"]) FD fun _ _ _ _ _ _ us hl => match us, hl with | [_], _ => rfl, fn_g FD sc_is_rising rfl fun cdv A outer s H E hr hgd => ?_⟩
  have hu := rm hr
  have hv := rm4 hr
  refine PSs.nox ?_
  show SSs _ xw0 _ g_is_rising
  exact ss_one (ss_ret (ee_callB (cl_all rfl) rfl b_all bt_all (ea_cons (ee_lc [("one", 1), ("other", 2)] rfl nd (ii_zip rfl b_zip (ea_cons (ee_frz (ee_var 0)) (ea_cons (ee_frz (ee_slice sl_dSl (ee_var 0) (eo_some (ee_int)) (eo_none))) (ea_nil)))) (by rfl) (by rfl) (fun _ _ _ _ _ => gg_tup rfl (gl_cons (gg_name (i := 1) nd) (gl_cons (gg_name (i := 2) nd) (gl_nil))) (takes_cons (calm_n) (takes_cons (calm_n) (takes_nil)))) (fun _ _ _ _ _ => ebs_nil) (fun _ _ _ _ _ => ee_cmp (op_dLt hv) (ee_var 1) (ee_var 2))) (ea_nil))))
theorem ok_is_whole (Y : Fc K mg) : Fn P w K mg base CX0 xn "is_whole" 3 1 F_is_whole := by
  obtain ⟨f, fd, hm, FD⟩ := Y.d_is_whole
  have b_isinstance := Y.b_isinstance
  have b_int := Y.b_int
  have b_bool := Y.b_bool
  have nd := sc_is_whole.nd
  refine ⟨f, fd, ["value", "low", "high"], hm, FD.kp, rfl, FunD.bindsN (ps := ["value", "low", "high"]) FD fun _ _ _ _ _ _ us hl => match us, hl with | [_, _, _], _ => rfl, fn_g FD sc_is_whole rfl fun cdv A outer s H E hr hgd => ?_⟩
  have hu := rm hr
  have hv := rm4 hr
  refine PSs.nox ?_
  show SSs _ xw0 _ g_is_whole
  exact ss_one (ss_ret (ee_and (ee_callB cl_isi rfl b_isinstance bt_isinstance (ea_cons (ee_var 0) (ea_cons (ee_bty rfl b_int bt_int) (ea_nil)))) (ee_and (ee_not (ee_callB cl_isi rfl b_isinstance bt_isinstance (ea_cons (ee_var 0) (ea_cons (ee_bty rfl b_bool bt_bool) (ea_nil))))) (ee_one (ee_chain (op_dLe hv) (op_dLe hv) (ee_var 1) (ee_var 0) (ee_var 2))))))
theorem ok_fits_tile (Y : Fc K mg) : Fn P w K mg base CX0 xn "fits_tile" 1 2 F_fits_tile := by
  obtain ⟨f, fd, hm, FD⟩ := Y.d_fits_tile
  have b_all := Y.b_all
  obtain ⟨t_PIPS, i_PIPS⟩ := Y.i_PIPS
  have k_is_tuple_of := ok_is_tuple_of (P := P) (w := w) (base := base) Y
  have k_is_whole := ok_is_whole (P := P) (w := w) (base := base) Y
  have nd := sc_fits_tile.nd
  refine ⟨f, fd, ["value"], hm, FD.kp, rfl, FunD.bindsN (ps := ["value"]) FD fun _ _ _ _ _ _ us hl => match us, hl with | [_], _ => rfl, fn_g FD sc_fits_tile rfl fun cdv A outer s H E hr hgd => ?_⟩
  have hu := rm hr
  have hv := rm4 hr
  refine PSs.nox ?_
  show SSs _ xw0 _ g_fits_tile
  exact ss_one (ss_ret (ee_and (ee_call k_is_tuple_of (hr.mono (by decide)) hgd pass0 (Ex := E0) rfl (ea_cons (ee_frz (ee_var 0)) (ea_cons (ee_int) (ea_cons (ee_int) (ea_nil))))) (ee_and (ee_callB (cl_all rfl) rfl b_all bt_all (ea_cons (ee_lc [("one", 1)] rfl nd (ii_seq (ee_var 0)) (by rfl) (by rfl) (fun _ _ _ _ _ => gg_name (i := 1) nd) (fun _ _ _ _ _ => ebs_nil) (fun _ _ _ _ _ => ee_frz (ee_call k_is_whole (hr.mono (by decide)) hgd pass0 (Ex := E0) rfl (ea_cons (ee_frz (ee_var 1)) (ea_cons (ee_int) (ea_cons (ee_globI rfl i_PIPS) (ea_nil))))))) (ea_nil))) (ee_one (ee_cmp (op_dLe hv) (ee_ix ix_dIx (ee_var 0) (ee_int)) (ee_ix ix_dIx (ee_var 0) (ee_int)))))))
theorem ok_fits_tiles (Y : Fc K mg) : Fn P w K mg base CX0 xn "fits_tiles" 1 3 F_fits_tiles := by
  obtain ⟨f, fd, hm, FD⟩ := Y.d_fits_tiles
  have b_all := Y.b_all
  obtain ⟨t_TILES, i_TILES⟩ := Y.i_TILES
  have k_is_tuple_of := ok_is_tuple_of (P := P) (w := w) (base := base) Y
  have k_fits_tile := ok_fits_tile (P := P) (w := w) (base := base) Y
  have k_is_rising := ok_is_rising (P := P) (w := w) (base := base) Y
  have nd := sc_fits_tiles.nd
  refine ⟨f, fd, ["value"], hm, FD.kp, rfl, FunD.bindsN (ps := ["value"]) FD fun _ _ _ _ _ _ us hl => match us, hl with | [_], _ => rfl, fn_g FD sc_fits_tiles rfl fun cdv A outer s H E hr hgd => ?_⟩
  have hu := rm hr
  have hv := rm4 hr
  refine PSs.nox ?_
  show SSs _ xw0 _ g_fits_tiles
  exact ss_one (ss_ret (ee_and (ee_call k_is_tuple_of (hr.mono (by decide)) hgd pass0 (Ex := E0) rfl (ea_cons (ee_frz (ee_var 0)) (ea_cons (ee_int) (ea_cons (ee_globI rfl i_TILES) (ea_nil))))) (ee_and (ee_callB (cl_all rfl) rfl b_all bt_all (ea_cons (ee_lc [("one", 1)] rfl nd (ii_seq (ee_var 0)) (by rfl) (by rfl) (fun _ _ _ _ _ => gg_name (i := 1) nd) (fun _ _ _ _ _ => ebs_nil) (fun _ _ _ _ _ => ee_frz (ee_call k_fits_tile (hr.mono (by decide)) hgd pass0 (Ex := E0) rfl (ea_cons (ee_frz (ee_var 1)) (ea_nil))))) (ea_nil))) (ee_one (ee_call k_is_rising (hr.mono (by decide)) hgd pass0 (Ex := E0) rfl (ea_cons (ee_frz (ee_var 0)) (ea_nil)))))))
theorem ok_need_tiles (Y : Fc K mg) : Fn P w K mg base CX0 xn "need_tiles" 1 4 F_need_tiles := by
  obtain ⟨f, fd, hm, FD⟩ := Y.d_need_tiles
  have k_fits_tiles := ok_fits_tiles (P := P) (w := w) (base := base) Y
  have nd := sc_need_tiles.nd
  refine ⟨f, fd, ["tiles"], hm, FD.kp, rfl, FunD.bindsN (ps := ["tiles"]) FD fun _ _ _ _ _ _ us hl => match us, hl with | [_], _ => rfl, fn_g FD sc_need_tiles rfl fun cdv A outer s H E hr hgd => ?_⟩
  have hu := rm hr
  have hv := rm4 hr
  refine PSs.nox ?_
  show SSs _ xw0 _ g_need_tiles
  exact ss_one (ss_if (eb_not (eb_val (ee_call k_fits_tiles (hr.mono (by decide)) hgd pass0 (Ex := E0) rfl (ea_cons (ee_frz (ee_var 0)) (ea_nil))))) (ss_one (ss_nev)) (ss_nil))
theorem ok_tile_of (Y : Fc K mg) : Fn P w K mg base CX0 xn "tile_of" 2 1 F_tile_of := by
  obtain ⟨f, fd, hm, FD⟩ := Y.d_tile_of
  have b_min := Y.b_min
  have b_max := Y.b_max
  have nd := sc_tile_of.nd
  refine ⟨f, fd, ["one", "other"], hm, FD.kp, rfl, FunD.bindsN (ps := ["one", "other"]) FD fun _ _ _ _ _ _ us hl => match us, hl with | [_, _], _ => rfl, fn_g FD sc_tile_of rfl fun cdv A outer s H E hr hgd => ?_⟩
  have hu := rm hr
  have hv := rm4 hr
  refine PSs.nox ?_
  show SSs _ xw0 _ g_tile_of
  exact ss_one (ss_ret (ee_tup (ea_cons (ee_callB (cl_min rfl hu) rfl b_min bt_min (ea_cons (ee_var 0) (ea_cons (ee_var 1) (ea_nil)))) (ea_cons (ee_callB (cl_max rfl hu) rfl b_max bt_max (ea_cons (ee_var 0) (ea_cons (ee_var 1) (ea_nil)))) (ea_nil)))))
theorem ok_fits_line (Y : Fc K mg) : Fn P w K mg base CX0 xn "fits_line" 2 2 F_fits_line := by
  obtain ⟨f, fd, hm, FD⟩ := Y.d_fits_line
  have b_all := Y.b_all
  have b_zip := Y.b_zip
  have b_len := Y.b_len
  have b_set := Y.b_set
  obtain ⟨t_TILES, i_TILES⟩ := Y.i_TILES
  obtain ⟨t_PIPS, i_PIPS⟩ := Y.i_PIPS
  have k_is_tuple_of := ok_is_tuple_of (P := P) (w := w) (base := base) Y
  have k_is_whole := ok_is_whole (P := P) (w := w) (base := base) Y
  have k_tile_of := ok_tile_of (P := P) (w := w) (base := base) Y
  have nd := sc_fits_line.nd
  refine ⟨f, fd, ["tiles", "value"], hm, FD.kp, rfl, FunD.bindsN (ps := ["tiles", "value"]) FD fun _ _ _ _ _ _ us hl => match us, hl with | [_, _], _ => rfl, fn_g FD sc_fits_line rfl fun cdv A outer s H E hr hgd => ?_⟩
  have hu := rm hr
  have hv := rm4 hr
  refine PSs.nox ?_
  show SSs _ xw0 _ g_fits_line
  exact ss_cons (ss_if (eb_w (eb_or (eb_not (eb_val (ee_call k_is_tuple_of (hr.mono (by decide)) hgd pass0 (Ex := E0) rfl (ea_cons (ee_frz (ee_var 1)) (ea_cons (ee_int) (ea_cons (ee_op op_dAdd (ee_globI rfl i_TILES) (ee_int)) (ea_nil))))))) (eb_or1 (eb_not (eb_val (ee_callB (cl_all rfl) rfl b_all bt_all (ea_cons (ee_lc [("one", 3)] rfl nd (ii_seq (ee_var 1)) (by rfl) (by rfl) (fun _ _ _ _ _ => gg_name (i := 3) nd) (fun _ _ _ _ _ => ebs_nil) (fun _ _ _ _ _ => ee_frz (ee_call k_is_whole (hr.mono (by decide)) hgd pass0 (Ex := E0) rfl (ea_cons (ee_frz (ee_var 3)) (ea_cons (ee_int) (ea_cons (ee_globI rfl i_PIPS) (ea_nil))))))) (ea_nil)))))))) (ss_one (ss_ret (ee_bl))) (ss_nil)) (ss_cons (ss_setLc (i := 2) [("one", 3), ("other", 4)] rfl nd (ii_zip rfl b_zip (ea_cons (ee_frz (ee_var 1)) (ea_cons (ee_frz (ee_slice sl_dSl (ee_var 1) (eo_some (ee_int)) (eo_none))) (ea_nil)))) (by rfl) (by rfl) (fun _ _ _ _ _ => gg_tup rfl (gl_cons (gg_name (i := 3) nd) (gl_cons (gg_name (i := 4) nd) (gl_nil))) (takes_cons (calm_n) (takes_cons (calm_n) (takes_nil)))) (fun _ _ _ _ _ => ebs_nil) (fun _ _ _ _ _ => ee_frz (ee_call k_tile_of (hr.mono (by decide)) hgd pass0 (Ex := E0) rfl (ea_cons (ee_frz (ee_var 3)) (ea_cons (ee_frz (ee_var 4)) (ea_nil))))) (sw_true rfl rfl rfl (by decide +kernel))) (ss_one (ss_ret (ee_and (ee_callB (cl_all rfl) rfl b_all bt_all (ea_cons (ee_lc [("one", 3)] rfl nd (ii_seq (ee_var 2)) (by rfl) (by rfl) (fun _ _ _ _ _ => gg_name (i := 3) nd) (fun _ _ _ _ _ => ebs_nil) (fun _ _ _ _ _ => ee_cmp (op_dIn0 hu) (ee_var 3) (ee_var 0))) (ea_nil))) (ee_one (ee_cmp (op_dEq hv) (ee_lenSet rfl hv rfl b_len rfl b_set (ee_var 2)) (ee_callB cl_len rfl b_len bt_len (ea_cons (ee_var 2) (ea_nil)))))))))
theorem ok_is_line (Y : Fc K mg) : Fn P w K mg base CX0 xn "is_line" 2 5 F_is_line := by
  obtain ⟨f, fd, hm, FD⟩ := Y.d_is_line
  have k_need_tiles := ok_need_tiles (P := P) (w := w) (base := base) Y
  have k_fits_line := ok_fits_line (P := P) (w := w) (base := base) Y
  have nd := sc_is_line.nd
  refine ⟨f, fd, ["tiles", "value"], hm, FD.kp, rfl, FunD.bindsN (ps := ["tiles", "value"]) FD fun _ _ _ _ _ _ us hl => match us, hl with | [_, _], _ => rfl, fn_g FD sc_is_line rfl fun cdv A outer s H E hr hgd => ?_⟩
  have hu := rm hr
  have hv := rm4 hr
  refine PSs.nox ?_
  show SSs _ xw0 _ g_is_line
  exact ss_cons (ss_expr (ee_call k_need_tiles (hr.mono (by decide)) hgd pass0 (Ex := E0) rfl (ea_cons (ee_frz (ee_var 0)) (ea_nil)))) (ss_one (ss_ret (ee_call k_fits_line (hr.mono (by decide)) hgd pass0 (Ex := E0) rfl (ea_cons (ee_frz (ee_var 0)) (ea_cons (ee_frz (ee_var 1)) (ea_nil))))))
theorem ok_fits_any (Y : Fc K mg) : Fn P w K mg base CX0 xn "fits_any" 1 2 F_fits_any := by
  obtain ⟨f, fd, hm, FD⟩ := Y.d_fits_any
  have b_all := Y.b_all
  have b_zip := Y.b_zip
  have b_len := Y.b_len
  have b_set := Y.b_set
  obtain ⟨t_HALVES, i_HALVES⟩ := Y.i_HALVES
  obtain ⟨t_PIPS, i_PIPS⟩ := Y.i_PIPS
  have k_is_tuple_of := ok_is_tuple_of (P := P) (w := w) (base := base) Y
  have k_is_whole := ok_is_whole (P := P) (w := w) (base := base) Y
  have k_tile_of := ok_tile_of (P := P) (w := w) (base := base) Y
  have nd := sc_fits_any.nd
  refine ⟨f, fd, ["value"], hm, FD.kp, rfl, FunD.bindsN (ps := ["value"]) FD fun _ _ _ _ _ _ us hl => match us, hl with | [_], _ => rfl, fn_g FD sc_fits_any rfl fun cdv A outer s H E hr hgd => ?_⟩
  have hu := rm hr
  have hv := rm4 hr
  refine PSs.nox ?_
  show SSs _ xw0 _ g_fits_any
  exact ss_cons (ss_if (eb_w (eb_or (eb_not (eb_val (ee_call k_is_tuple_of (hr.mono (by decide)) hgd pass0 (Ex := E0) rfl (ea_cons (ee_frz (ee_var 0)) (ea_cons (ee_int) (ea_cons (ee_globI rfl i_HALVES) (ea_nil))))))) (eb_or1 (eb_not (eb_val (ee_callB (cl_all rfl) rfl b_all bt_all (ea_cons (ee_lc [("one", 2)] rfl nd (ii_seq (ee_var 0)) (by rfl) (by rfl) (fun _ _ _ _ _ => gg_name (i := 2) nd) (fun _ _ _ _ _ => ebs_nil) (fun _ _ _ _ _ => ee_frz (ee_call k_is_whole (hr.mono (by decide)) hgd pass0 (Ex := E0) rfl (ea_cons (ee_frz (ee_var 2)) (ea_cons (ee_int) (ea_cons (ee_globI rfl i_PIPS) (ea_nil))))))) (ea_nil)))))))) (ss_one (ss_ret (ee_bl))) (ss_nil)) (ss_cons (ss_setLc (i := 1) [("one", 2), ("other", 3)] rfl nd (ii_zip rfl b_zip (ea_cons (ee_frz (ee_var 0)) (ea_cons (ee_frz (ee_slice sl_dSl (ee_var 0) (eo_some (ee_int)) (eo_none))) (ea_nil)))) (by rfl) (by rfl) (fun _ _ _ _ _ => gg_tup rfl (gl_cons (gg_name (i := 2) nd) (gl_cons (gg_name (i := 3) nd) (gl_nil))) (takes_cons (calm_n) (takes_cons (calm_n) (takes_nil)))) (fun _ _ _ _ _ => ebs_nil) (fun _ _ _ _ _ => ee_frz (ee_call k_tile_of (hr.mono (by decide)) hgd pass0 (Ex := E0) rfl (ea_cons (ee_frz (ee_var 2)) (ea_cons (ee_frz (ee_var 3)) (ea_nil))))) (sw_true rfl rfl rfl (by decide +kernel))) (ss_one (ss_ret (ee_cmp (op_dEq hv) (ee_lenSet rfl hv rfl b_len rfl b_set (ee_var 1)) (ee_callB cl_len rfl b_len bt_len (ea_cons (ee_var 1) (ea_nil)))))))
theorem ok_need_any (Y : Fc K mg) : Fn P w K mg base CX0 xn "need_any" 1 3 F_need_any := by
  obtain ⟨f, fd, hm, FD⟩ := Y.d_need_any
  have k_fits_any := ok_fits_any (P := P) (w := w) (base := base) Y
  have nd := sc_need_any.nd
  refine ⟨f, fd, ["line"], hm, FD.kp, rfl, FunD.bindsN (ps := ["line"]) FD fun _ _ _ _ _ _ us hl => match us, hl with | [_], _ => rfl, fn_g FD sc_need_any rfl fun cdv A outer s H E hr hgd => ?_⟩
  have hu := rm hr
  have hv := rm4 hr
  refine PSs.nox ?_
  show SSs _ xw0 _ g_need_any
  exact ss_one (ss_if (eb_not (eb_val (ee_call k_fits_any (hr.mono (by decide)) hgd pass0 (Ex := E0) rfl (ea_cons (ee_frz (ee_var 0)) (ea_nil))))) (ss_one (ss_nev)) (ss_nil))
theorem ok_print_line (Y : Fc K mg) : Fn P w K mg base CX0 xn "print_line" 1 4 F_print_line := by
  obtain ⟨f, fd, hm, FD⟩ := Y.d_print_line
  have b_str := Y.b_str
  have k_need_any := ok_need_any (P := P) (w := w) (base := base) Y
  have nd := sc_print_line.nd
  refine ⟨f, fd, ["line"], hm, FD.kp, rfl, FunD.bindsN (ps := ["line"]) FD fun _ _ _ _ _ _ us hl => match us, hl with | [_], _ => rfl, fn_g FD sc_print_line rfl fun cdv A outer s H E hr hgd => ?_⟩
  have hu := rm hr
  have hv := rm4 hr
  refine PSs.nox ?_
  show SSs _ xw0 _ g_print_line
  exact ss_cons (ss_expr (ee_call k_need_any (hr.mono (by decide)) hgd pass0 (Ex := E0) rfl (ea_cons (ee_frz (ee_var 0)) (ea_nil)))) (ss_one (ss_ret (ee_bm at_str sl_join rfl mt_mJoin (ee_str) (ea_cons (ee_lc [("half", 1)] rfl nd (ii_seq (ee_var 0)) (by rfl) (by rfl) (fun _ _ _ _ _ => gg_name (i := 1) nd) (fun _ _ _ _ _ => ebs_nil) (fun _ _ _ _ _ => ee_callTy cl_str rfl b_str bt_str (ea_cons (ee_var 1) (ea_nil)))) (ea_nil)))))
theorem ok_count_line_texts (Y : Fc K mg) : Fn P w K mg base CX0 xn "count_line_texts" 1 4 F_count_line_texts := by
  obtain ⟨f, fd, hm, FD⟩ := Y.d_count_line_texts
  have b_zip := Y.b_zip
  have k_need_any := ok_need_any (P := P) (w := w) (base := base) Y
  have nd := sc_count_line_texts.nd
  refine ⟨f, fd, ["line"], hm, FD.kp, rfl, FunD.bindsN (ps := ["line"]) FD fun _ _ _ _ _ _ us hl => match us, hl with | [_], _ => rfl, fn_g FD sc_count_line_texts rfl fun cdv A outer s H E hr hgd => ?_⟩
  have hu := rm hr
  have hv := rm4 hr
  refine PSs.nox ?_
  show SSs _ xw0 _ g_count_line_texts
  exact ss_cons (ss_expr (ee_call k_need_any (hr.mono (by decide)) hgd pass0 (Ex := E0) rfl (ea_cons (ee_frz (ee_var 0)) (ea_nil)))) (ss_cons (ss_set (i := 1) nd (ee_int)) (ss_cons (ss_for [0, 2, 3] .never rfl (ii_zip rfl b_zip (ea_cons (ee_frz (ee_var 0)) (ea_cons (ee_frz (ee_slice sl_dSl (ee_var 0) (eo_some (ee_int)) (eo_none))) (ea_nil)))) (gg_tup rfl (gl_cons (gg_name (i := 2) nd) (gl_cons (gg_name (i := 3) nd) (gl_nil))) (takes_cons (calm_n) (takes_cons (calm_n) (takes_nil)))) (ss_one (ss_set (i := 1) nd (ee_op op_dMul (ee_var 1) (ee_if (eb_cmp (op_dEq hv) (ee_var 2) (ee_var 3)) (ee_int) (ee_int)))))) (ss_one (ss_ret (ee_var 1)))))
theorem ok_need_text (Y : Fc K mg) : Fn P w K mg base CX0 xn "need_text" 1 1 F_need_text := by
  obtain ⟨f, fd, hm, FD⟩ := Y.d_need_text
  have b_isinstance := Y.b_isinstance
  have b_str := Y.b_str
  have b_len := Y.b_len
  obtain ⟨t_SIGNS, i_SIGNS⟩ := Y.i_SIGNS
  have nd := sc_need_text.nd
  refine ⟨f, fd, ["text"], hm, FD.kp, rfl, FunD.bindsN (ps := ["text"]) FD fun _ _ _ _ _ _ us hl => match us, hl with | [_], _ => rfl, fn_g FD sc_need_text rfl fun cdv A outer s H E hr hgd => ?_⟩
  have hu := rm hr
  have hv := rm4 hr
  refine PSs.nox ?_
  show SSs _ xw0 _ g_need_text
  exact ss_one (ss_if (eb_w (eb_or (eb_not (eb_val (ee_callB cl_isi rfl b_isinstance bt_isinstance (ea_cons (ee_var 0) (ea_cons (ee_bty rfl b_str bt_str) (ea_nil)))))) (eb_or1 (eb_cmp (op_dGt hv) (ee_callB cl_len rfl b_len bt_len (ea_cons (ee_var 0) (ea_nil))) (ee_globI rfl i_SIGNS))))) (ss_one (ss_nev)) (ss_nil))
theorem mt_Reading_here (Y : Fc K mg) : Mth P w K mg base CX0 xn "Reading" "here" 1 1 F_Reading_here := by
  obtain ⟨Ca, hC, hcl, hna, hms, _⟩ := Y.c_Reading.ex
  obtain ⟨f, fd, hM, FD⟩ := hms ("here", s_Reading_here) (by simp)
  have c_Reading := Y.c_Reading
  have nd := sc_Reading_here.nd
  refine ⟨Ca, f, fd, ["self"], hC, hcl, hM, FunD.bindsN (ps := ["self"]) FD fun _ _ _ _ _ _ us hl => match us, hl with | [_], _ => rfl, fn_g FD sc_Reading_here rfl fun cdv A outer s H E hr hgd => ?_⟩
  have hu := rm hr
  have hv := rm4 hr
  refine PSs.nox ?_
  show SSs _ xw0 _ g_Reading_here
  exact ss_one (ss_ret (ee_slice sl_dSl (ee_fld (c_Reading.fld (f := "text") (by simp)) (ee_var 0)) (eo_some (ee_fld (c_Reading.fld (f := "at") (by simp)) (ee_var 0))) (eo_some (ee_op op_dAdd (ee_fld (c_Reading.fld (f := "at") (by simp)) (ee_var 0)) (ee_int)))))
theorem mt_Reading_one_of (Y : Fc K mg) : Mth P w K mg base CX0 xn "Reading" "one_of" 2 2 F_Reading_one_of := by
  obtain ⟨Ca, hC, hcl, hna, hms, _⟩ := Y.c_Reading.ex
  obtain ⟨f, fd, hM, FD⟩ := hms ("one_of", s_Reading_one_of) (by simp)
  have c_Reading := Y.c_Reading
  have t_Reading_here := mt_Reading_here (P := P) (w := w) (base := base) Y
  have nd := sc_Reading_one_of.nd
  refine ⟨Ca, f, fd, ["self", "signs"], hC, hcl, hM, FunD.bindsN (ps := ["self", "signs"]) FD fun _ _ _ _ _ _ us hl => match us, hl with | [_, _], _ => rfl, fn_g FD sc_Reading_one_of rfl fun cdv A outer s H E hr hgd => ?_⟩
  have hu := rm hr
  have hv := rm4 hr
  refine PSs.nox ?_
  show SSs _ xw0 _ g_Reading_one_of
  exact ss_cons (ss_set (i := 2) nd (ee_meth0 t_Reading_here (ee_var 0) (hr.mono (by decide)) hgd pass0 (Ex := E0) rfl)) (ss_cons (ss_if (eb_w (eb_or (eb_cmp (op_dEq hv) (ee_var 2) (ee_str)) (eb_or1 (eb_cmp (op_dNotIn0 hu) (ee_var 2) (ee_var 1))))) (ss_one (ss_nev)) (ss_nil)) (ss_cons (ss_asg (ee_op op_dAdd (ee_fld (c_Reading.fld (f := "at") (by simp)) (ee_var 0)) (ee_int)) (gg_fld (c_Reading.fld (f := "at") (by simp)) (ee_var 0))) (ss_one (ss_ret (ee_var 2)))))
theorem ok_halves_from (Y : Fc K mg) : Fn P w K mg base CX0 xn "halves_from" 2 1 F_halves_from := by
  obtain ⟨f, fd, hm, FD⟩ := Y.d_halves_from
  have b_min := Y.b_min
  have b_range := Y.b_range
  have b_str := Y.b_str
  obtain ⟨t_PIPS, i_PIPS⟩ := Y.i_PIPS
  have nd := sc_halves_from.nd
  refine ⟨f, fd, ["low", "high"], hm, FD.kp, rfl, FunD.bindsN (ps := ["low", "high"]) FD fun _ _ _ _ _ _ us hl => match us, hl with | [_, _], _ => rfl, fn_g FD sc_halves_from rfl fun cdv A outer s H E hr hgd => ?_⟩
  have hu := rm hr
  have hv := rm4 hr
  refine PSs.nox ?_
  show SSs _ xw0 _ g_halves_from
  exact ss_one (ss_ret (ee_lc [("half", 2)] rfl nd (ii_range2 rfl b_range (ea_cons (ee_var 0) (ea_cons (ee_op op_dAdd (ee_callB (cl_min rfl hu) rfl b_min bt_min (ea_cons (ee_var 1) (ea_cons (ee_globI rfl i_PIPS) (ea_nil)))) (ee_int)) (ea_nil)))) (by rfl) (by rfl) (fun _ _ _ _ _ => gg_name (i := 2) nd) (fun _ _ _ _ _ => ebs_nil) (fun _ _ _ _ _ => ee_callTy cl_str rfl b_str bt_str (ea_cons (ee_var 2) (ea_nil)))))
theorem mt_Reading_line (Y : Fc K mg) : Mth P w K mg base CX0 xn "Reading" "line" 1 3 F_Reading_line := by
  obtain ⟨Ca, hC, hcl, hna, hms, _⟩ := Y.c_Reading.ex
  obtain ⟨f, fd, hM, FD⟩ := hms ("line", s_Reading_line) (by simp)
  have b_int := Y.b_int
  have b_range := Y.b_range
  have b_str := Y.b_str
  obtain ⟨t_PIPS, i_PIPS⟩ := Y.i_PIPS
  have k_halves_from := ok_halves_from (P := P) (w := w) (base := base) Y
  have k_fits_any := ok_fits_any (P := P) (w := w) (base := base) Y
  have t_Reading_one_of := mt_Reading_one_of (P := P) (w := w) (base := base) Y
  have t_Reading_here := mt_Reading_here (P := P) (w := w) (base := base) Y
  have nd := sc_Reading_line.nd
  refine ⟨Ca, f, fd, ["self"], hC, hcl, hM, FunD.bindsN (ps := ["self"]) FD fun _ _ _ _ _ _ us hl => match us, hl with | [_], _ => rfl, fn_g FD sc_Reading_line rfl fun cdv A outer s H E hr hgd => ?_⟩
  have hu := rm hr
  have hv := rm4 hr
  refine PSs.nox ?_
  show SSs _ xw0 _ g_Reading_line
  exact ss_cons (ss_set (i := 1) nd (ee_tup (ea_cons (ee_callTy cl_int rfl b_int bt_int (ea_cons (ee_meth t_Reading_one_of (ee_var 0) (hr.mono (by decide)) hgd pass0 (Ex := E0) rfl (ea_cons (ee_frz (ee_call k_halves_from (hr.mono (by decide)) hgd pass0 (Ex := E0) rfl (ea_cons (ee_int) (ea_cons (ee_globI rfl i_PIPS) (ea_nil))))) (ea_nil))) (ea_nil))) (ea_nil)))) (ss_cons (ss_while 1000 [2, 3, 4] .never (eb_cmp (op_dNe hv) (ee_meth0 t_Reading_here (ee_var 0) (hr.mono (by decide)) hgd pass0 (Ex := E0) rfl) (ee_str)) (ss_cons (ss_setLc (i := 2) [("half", 4)] rfl nd (ii_range1 rfl b_range (ea_cons (ee_op op_dAdd (ee_globI rfl i_PIPS) (ee_int)) (ea_nil))) (by rfl) (by rfl) (fun _ _ _ _ _ => gg_name (i := 4) nd) (fun _ _ _ _ _ => ebs_one (eb_val (ee_call k_fits_any (hr.mono (by decide)) hgd pass0 (Ex := E0) rfl (ea_cons (ee_frz (ee_op op_dAdd (ee_var 1) (ee_tup (ea_cons (ee_frz (ee_var 4)) (ea_nil))))) (ea_nil))))) (fun _ _ _ _ _ => ee_frz (ee_var 4)) (sw_true rfl rfl rfl (by decide +kernel))) (ss_cons (ss_set (i := 3) nd (ee_meth t_Reading_one_of (ee_var 0) (hr.mono (by decide)) hgd pass0 (Ex := E0) rfl (ea_cons (ee_frz (ee_op op_dAdd (ee_lc [("half", 4)] rfl nd (ii_seq (ee_var 2)) (by rfl) (by rfl) (fun _ _ _ _ _ => gg_name (i := 4) nd) (fun _ _ _ _ _ => ebs_nil) (fun _ _ _ _ _ => ee_callTy cl_str rfl b_str bt_str (ea_cons (ee_var 4) (ea_nil)))) (ee_if (eb_cmp (op_dIn0 hu) (ee_ix ix_dIx (ee_var 1) (ee_un un_dNeg (ee_int))) (ee_var 2)) (ee_lst (ea_cons (ee_str) (ea_nil))) (ee_lst (ea_nil))))) (ea_nil)))) (ss_one (ss_set (i := 1) nd (ee_op op_dAdd (ee_var 1) (ee_tup (ea_cons (ee_if (eb_cmp (op_dEq hv) (ee_var 3) (ee_str)) (ee_ix ix_dIx (ee_var 1) (ee_un un_dNeg (ee_int))) (ee_callTy cl_int rfl b_int bt_int (ea_cons (ee_var 3) (ea_nil)))) (ea_nil))))))))) (ss_one (ss_ret (ee_var 1))))
theorem mk_Reading (Y : Fc K mg) : Mke P w K mg base CX0 xn "Reading" 2 1 F_Reading___init__ := by
  obtain ⟨Ca, hC, hcl, hna, hms, f, fd, hM, FD⟩ := Y.c_Reading.ex
  have c_Reading := Y.c_Reading
  have nd := sc_Reading___init__.nd
  refine ⟨Ca, f, fd, ["self", "text"], hC, hM, FunD.bindsN (ps := ["self", "text"]) FD fun _ _ _ _ _ _ us hl => match us, hl with | [_, _], _ => rfl, fn_g FD sc_Reading___init__ rfl fun cdv A outer s H E hr hgd => ?_⟩
  have hu := rm hr
  have hv := rm4 hr
  refine PSs.nox ?_
  show SSs _ xw0 _ g_Reading___init__
  exact ss_one (ss_asg (ee_tup (ea_cons (ee_frz (ee_var 1)) (ea_cons (ee_int) (ea_nil)))) (gg_tup rfl (gl_cons (gg_fld (c_Reading.fld (f := "text") (by simp)) (ee_var 0)) (gl_cons (gg_fld (c_Reading.fld (f := "at") (by simp)) (ee_var 0)) (gl_nil))) (takes_cons (calm_fld) (takes_cons (calm_fld) (takes_nil)))))
theorem ok_read_line (Y : Fc K mg) : Fn P w K mg base CX0 xn "read_line" 1 4 F_read_line := by
  obtain ⟨f, fd, hm, FD⟩ := Y.d_read_line
  have k_need_text := ok_need_text (P := P) (w := w) (base := base) Y
  have m_Reading := mk_Reading (P := P) (w := w) (base := base) Y
  have t_Reading_line := mt_Reading_line (P := P) (w := w) (base := base) Y
  have nd := sc_read_line.nd
  refine ⟨f, fd, ["text"], hm, FD.kp, rfl, FunD.bindsN (ps := ["text"]) FD fun _ _ _ _ _ _ us hl => match us, hl with | [_], _ => rfl, fn_g FD sc_read_line rfl fun cdv A outer s H E hr hgd => ?_⟩
  have hu := rm hr
  have hv := rm4 hr
  refine PSs.nox ?_
  show SSs _ xw0 _ g_read_line
  exact ss_cons (ss_expr (ee_call k_need_text (hr.mono (by decide)) hgd pass0 (Ex := E0) rfl (ea_cons (ee_frz (ee_var 0)) (ea_nil)))) (ss_one (ss_ret (ee_meth0 t_Reading_line (ee_make m_Reading (hr.mono (by decide)) hgd pass0 (Ex := E0) rfl (ea_cons (ee_frz (ee_var 0)) (ea_nil))) (hr.mono (by decide)) hgd pass0 (Ex := E0) rfl)))
theorem ok_tiles_told (Y : Fc K mg) : Fn P w K mg base CX0 xn "tiles_told" 1 4 F_tiles_told := by
  obtain ⟨f, fd, hm, FD⟩ := Y.d_tiles_told
  have b_tuple := Y.b_tuple
  have b_sorted := Y.b_sorted
  have b_zip := Y.b_zip
  have k_need_text := ok_need_text (P := P) (w := w) (base := base) Y
  have k_tile_of := ok_tile_of (P := P) (w := w) (base := base) Y
  have m_Reading := mk_Reading (P := P) (w := w) (base := base) Y
  have t_Reading_line := mt_Reading_line (P := P) (w := w) (base := base) Y
  have nd := sc_tiles_told.nd
  refine ⟨f, fd, ["text"], hm, FD.kp, rfl, FunD.bindsN (ps := ["text"]) FD fun _ _ _ _ _ _ us hl => match us, hl with | [_], _ => rfl, fn_g FD sc_tiles_told rfl fun cdv A outer s H E hr hgd => ?_⟩
  have hu := rm hr
  have hv := rm4 hr
  refine PSs.nox ?_
  show SSs _ xw0 _ g_tiles_told
  exact ss_cons (ss_expr (ee_call k_need_text (hr.mono (by decide)) hgd pass0 (Ex := E0) rfl (ea_cons (ee_frz (ee_var 0)) (ea_nil)))) (ss_cons (ss_set (i := 1) nd (ee_meth0 t_Reading_line (ee_make m_Reading (hr.mono (by decide)) hgd pass0 (Ex := E0) rfl (ea_cons (ee_frz (ee_var 0)) (ea_nil))) (hr.mono (by decide)) hgd pass0 (Ex := E0) rfl)) (ss_one (ss_ret (ee_callTy cl_tup rfl b_tuple bt_tuple (ea_cons (ee_callB (cl_sorted hu) rfl b_sorted bt_sorted (ea_cons (ee_lc [("one", 2), ("other", 3)] rfl nd (ii_zip rfl b_zip (ea_cons (ee_frz (ee_var 1)) (ea_cons (ee_frz (ee_slice sl_dSl (ee_var 1) (eo_some (ee_int)) (eo_none))) (ea_nil)))) (by rfl) (by rfl) (fun _ _ _ _ _ => gg_tup rfl (gl_cons (gg_name (i := 2) nd) (gl_cons (gg_name (i := 3) nd) (gl_nil))) (takes_cons (calm_n) (takes_cons (calm_n) (takes_nil)))) (fun _ _ _ _ _ => ebs_nil) (fun _ _ _ _ _ => ee_frz (ee_call k_tile_of (hr.mono (by decide)) hgd pass0 (Ex := E0) rfl (ea_cons (ee_frz (ee_var 2)) (ea_cons (ee_frz (ee_var 3)) (ea_nil)))))) (ea_nil))) (ea_nil))))))
theorem ok__law_right (Y : Fc K mg) : Fn P w K mg base CX0 xn "_law_right" 1 6 F__law_right := by
  obtain ⟨f, fd, hm, FD⟩ := Y.d__law_right
  have b_str := Y.b_str
  have b_zip := Y.b_zip
  have b_repr := Y.b_repr
  have b_min := Y.b_min
  have b_len := Y.b_len
  have b_range := Y.b_range
  have k__law_line := ok__law_line (P := P) (w := w) (base := base) Y
  have k_print_line := ok_print_line (P := P) (w := w) (base := base) Y
  have k_count_line_texts := ok_count_line_texts (P := P) (w := w) (base := base) Y
  have k_is_line := ok_is_line (P := P) (w := w) (base := base) Y
  have k__law_some := ok__law_some (P := P) (w := w) (base := base) Y
  have k_read_line := ok_read_line (P := P) (w := w) (base := base) Y
  have k_tiles_told := ok_tiles_told (P := P) (w := w) (base := base) Y
  have nd := sc__law_right.nd
  refine ⟨f, fd, ["cup"], hm, FD.kp, rfl, FunD.bindsN (ps := ["cup"]) FD fun _ _ _ _ _ _ us hl => match us, hl with | [_], _ => rfl, fn_g FD sc__law_right rfl fun cdv A outer s H E hr hgd => ?_⟩
  have hu := rm hr
  have hv := rm4 hr
  refine PSs.nox ?_
  show SSs _ xw0 _ g__law_right
  exact ss_cons (ss_asg (ee_frz (ee_call k__law_line (hr.mono (by decide)) hgd pass0 (Ex := E0) rfl (ea_cons (ee_var 0) (ea_cons (ee_int) (ea_nil))))) (gg_tup rfl (gl_cons (gg_name (i := 1) nd) (gl_cons (gg_name (i := 2) nd) (gl_nil))) (takes_cons (calm_n) (takes_cons (calm_n) (takes_nil))))) (ss_cons (ss_set (i := 3) nd (ee_lst (ea_cons (ee_callTy cl_str rfl b_str bt_str (ea_cons (ee_ix ix_dIx (ee_var 1) (ee_int)) (ea_nil))) (ea_nil)))) (ss_cons (ss_for [4, 5, 6, 7, 8] .never rfl (ii_zip rfl b_zip (ea_cons (ee_frz (ee_var 1)) (ea_cons (ee_frz (ee_slice sl_dSl (ee_var 1) (eo_some (ee_int)) (eo_none))) (ea_nil)))) (gg_tup rfl (gl_cons (gg_name (i := 4) nd) (gl_cons (gg_name (i := 5) nd) (gl_nil))) (takes_cons (calm_n) (takes_cons (calm_n) (takes_nil)))) (ss_cons (ss_setLc (i := 6) [("text", 8)] rfl nd (ii_seq (ee_var 3)) (by rfl) (by rfl) (fun _ _ _ _ _ => gg_name (i := 8) nd) (fun _ _ _ _ _ => ebs_nil) (fun _ _ _ _ _ => ee_frz (ee_op op_dAdd (ee_var 8) (ee_callTy cl_str rfl b_str bt_str (ea_cons (ee_var 5) (ea_nil))))) (sw_true rfl rfl rfl (by decide +kernel))) (ss_one (ss_set (i := 3) nd (ee_op op_dAdd (ee_var 6) (ee_if (eb_cmp (op_dEq hv) (ee_var 4) (ee_var 5)) (ee_lc [("text", 8)] rfl nd (ii_seq (ee_var 3)) (by rfl) (by rfl) (fun _ _ _ _ _ => gg_name (i := 8) nd) (fun _ _ _ _ _ => ebs_nil) (fun _ _ _ _ _ => ee_frz (ee_op op_dAdd (ee_var 8) (ee_str)))) (ee_lst (ea_nil)))))))) (ss_cons (ss_if (eb_w (eb_or (eb_cmp (op_dNe hv) (ee_callB (cl_repr hgd hu) rfl b_repr bt_repr (ea_cons (ee_tup (ea_cons (ee_frz (ee_call k_print_line (hr.mono (by decide)) hgd pass0 (Ex := E0) rfl (ea_cons (ee_frz (ee_var 1)) (ea_nil)))) (ea_cons (ee_frz (ee_call k_count_line_texts (hr.mono (by decide)) hgd pass0 (Ex := E0) rfl (ea_cons (ee_frz (ee_var 1)) (ea_nil)))) (ea_nil)))) (ea_nil))) (ee_callB (cl_repr hgd hu) rfl b_repr bt_repr (ea_cons (ee_tup (ea_cons (ee_callB (cl_min rfl hu) rfl b_min bt_min (ea_cons (ee_var 3) (ea_nil))) (ea_cons (ee_callB cl_len rfl b_len bt_len (ea_cons (ee_var 3) (ea_nil))) (ea_nil)))) (ea_nil)))) (eb_or1 (eb_cmp (op_dIsNot) (ee_call k_is_line (hr.mono (by decide)) hgd pass0 (Ex := E0) rfl (ea_cons (ee_frz (ee_var 2)) (ea_cons (ee_frz (ee_var 1)) (ea_nil)))) (ee_bl))))) (ss_one (ss_ret (ee_bl))) (ss_nil)) (ss_cons (ss_for [4, 5, 6, 7, 8] .never rfl (ii_range1 rfl b_range (ea_cons (ee_int) (ea_nil))) (gg_name (i := 7) nd) (ss_cons (ss_set (i := 8) nd (ee_call k__law_some (hr.mono (by decide)) hgd pass0 (Ex := E0) rfl (ea_cons (ee_var 0) (ea_cons (ee_frz (ee_var 3)) (ea_nil))))) (ss_one (ss_if (eb_cmp (op_dNe hv) (ee_callB (cl_repr hgd hu) rfl b_repr bt_repr (ea_cons (ee_tup (ea_cons (ee_frz (ee_call k_read_line (hr.mono (by decide)) hgd pass0 (Ex := E0) rfl (ea_cons (ee_frz (ee_var 8)) (ea_nil)))) (ea_cons (ee_frz (ee_call k_tiles_told (hr.mono (by decide)) hgd pass0 (Ex := E0) rfl (ea_cons (ee_frz (ee_var 8)) (ea_nil)))) (ea_nil)))) (ea_nil))) (ee_callB (cl_repr hgd hu) rfl b_repr bt_repr (ea_cons (ee_tup (ea_cons (ee_frz (ee_var 1)) (ea_cons (ee_frz (ee_var 2)) (ea_nil)))) (ea_nil)))) (ss_one (ss_ret (ee_bl))) (ss_nil))))) (ss_one (ss_ret (ee_bl)))))))
theorem law_g (Y : Fc K mg) {f : Addr} {fd : FuncData} (FD : FunD K "law" "law" (defArgs s_law) (defBody s_law) (defScope s_law) [] [] f fd) : FnG P w K mg base CX0 7 f fd ["script"] (spF ⟨P, w, K, mg⟩ xn 1 F_law) := by
  have b_range := Y.b_range
  have b_str := Y.b_str
  have b_len := Y.b_len
  have k__law_cup := ok__law_cup (P := P) (w := w) (base := base) Y
  have k__law_right := ok__law_right (P := P) (w := w) (base := base) Y
  have k__law_roll := ok__law_roll (P := P) (w := w) (base := base) Y
  have k_count_line_texts := ok_count_line_texts (P := P) (w := w) (base := base) Y
  have k_read_line := ok_read_line (P := P) (w := w) (base := base) Y
  have k_tiles_told := ok_tiles_told (P := P) (w := w) (base := base) Y
  have nd := sc_law.nd
  refine fn_g FD sc_law rfl fun cdv A outer s H E hr hgd => ?_
  have hu := rm hr
  have hv := rm4 hr
  refine PSs.nox ?_
  show SSs _ xw0 _ g_law
  exact ss_cons (ss_set (i := 1) nd (ee_call k__law_cup (hr.mono (by decide)) hgd pass0 (Ex := E0) rfl (ea_cons (ee_frz (ee_var 0)) (ea_nil)))) (ss_cons (ss_for [0, 2, 3, 4, 5, 6, 7] .never rfl (ii_range1 rfl b_range (ea_cons (ee_int) (ea_nil))) (gg_name (i := 2) nd) (ss_one (ss_if (eb_not (eb_val (ee_call k__law_right (hr.mono (by decide)) hgd pass0 (Ex := E0) rfl (ea_cons (ee_var 1) (ea_nil))))) (ss_one (ss_ret (ee_bl))) (ss_nil)))) (ss_cons (ss_par3 (i := 3) (j := 4) (l := 5) rfl nd (by decide) (by decide) (by decide) (ea_cons (ee_tup (ea_cons (ee_int) (ea_cons (ee_int) (ea_nil)))) (ea_cons (ee_op op_dAdd (ee_int) (ee_call k__law_roll (hr.mono (by decide)) hgd pass0 (Ex := E0) rfl (ea_cons (ee_var 1) (ea_cons (ee_int) (ea_nil))))) (ea_cons (ee_int) (ea_nil)))) (by rfl)) (ss_cons (ss_for [0, 1, 2, 6, 7] .never rfl (ii_range2 rfl b_range (ea_cons (ee_int) (ea_cons (ee_var 4) (ea_nil)))) (gg_name (i := 6) nd) (ss_one (ss_par (i := 3) (j := 5) rfl nd (by decide) (ea_cons (ee_op op_dAdd (ee_var 3) (ee_tup (ea_cons (ee_frz (ee_var 6)) (ea_cons (ee_frz (ee_var 6)) (ea_nil))))) (ea_cons (ee_op op_dMul (ee_var 5) (ee_int)) (ea_nil))) (by rfl)))) (ss_cons (ss_set (i := 7) nd (ee_bm at_str sl_join rfl mt_mJoin (ee_str) (ea_cons (ee_lc [("half", 6)] rfl nd (ii_range1 rfl b_range (ea_cons (ee_var 4) (ea_nil))) (by rfl) (by rfl) (fun _ _ _ _ _ => gg_name (i := 6) nd) (fun _ _ _ _ _ => ebs_nil) (fun _ _ _ _ _ => ee_frz (ee_op op_dAdd (ee_callTy cl_str rfl b_str bt_str (ea_cons (ee_var 6) (ea_nil))) (ee_str)))) (ea_nil)))) (ss_one (ss_ret (ee_cmp (op_dEq hv) (ee_tup (ea_cons (ee_frz (ee_call k_count_line_texts (hr.mono (by decide)) hgd pass0 (Ex := E0) rfl (ea_cons (ee_frz (ee_var 3)) (ea_nil)))) (ea_cons (ee_frz (ee_call k_read_line (hr.mono (by decide)) hgd pass0 (Ex := E0) rfl (ea_cons (ee_frz (ee_var 7)) (ea_nil)))) (ea_cons (ee_callB cl_len rfl b_len bt_len (ea_cons (ee_call k_tiles_told (hr.mono (by decide)) hgd pass0 (Ex := E0) rfl (ea_cons (ee_frz (ee_var 7)) (ea_nil))) (ea_nil))) (ea_cons (ee_frz (ee_call k_count_line_texts (hr.mono (by decide)) hgd pass0 (Ex := E0) rfl (ea_cons (ee_tup (ea_cons (ee_int) (ea_nil))) (ea_nil)))) (ea_cons (ee_frz (ee_call k_tiles_told (hr.mono (by decide)) hgd pass0 (Ex := E0) rfl (ea_cons (ee_str) (ea_nil)))) (ea_nil))))))) (ee_tup (ea_cons (ee_frz (ee_var 5)) (ea_cons (ee_frz (ee_var 3)) (ea_cons (ee_op op_dSub (ee_op op_dMul (ee_int) (ee_var 4)) (ee_int)) (ea_cons (ee_int) (ea_cons (ee_tup (ea_nil)) (ea_nil))))))))))))))
end
end F.L
set_option Elab.async false
set_option linter.all false
set_option maxRecDepth 100000
set_option maxHeartbeats 4000000
/-! plain law of k50, first part: the drawing (own work) -/
namespace F.L
open PySem L2 F

def CupOk (a b : Int) : Prop := 0 ≤ a ∧ 0 ≤ b ∧ b < 2147483648
abbrev cupD (a b : Int) : D := .lst [.int a, .int b]
theorem pow18 : dPow (.int 10) (.int 18) = some (.fro (.int 1000000000000000000)) := rfl
theorem cup_ok (zs : List Int) (h : zs.length ≤ 63) : ∃ a b, F__law_cup [.fro (.scr zs)] = .ok (.tmp (cupD a b), [.fro (.scr zs)]) ∧ CupOk a b := by
  obtain ⟨z, h1⟩ : ∃ z : Int, atI (zs.map D.int ++ [D.int 0]) 0 = some (.int z) := by
    cases zs with
    | nil => exact ⟨0, rfl⟩
    | cons z zs => exact ⟨z, by simp⟩
  have h2 : dAdd (.lst (zs.map D.int)) (.lst [.int 0]) = some (.tmp (.lst (zs.map D.int ++ [.int 0]))) := dAdd_lst (by simp; omega)
  obtain ⟨c, hc⟩ : ∃ c : Int, c = (if z < 0 then -z else z) := ⟨_, rfl⟩
  have hc0 : 0 ≤ c := by
    rw [hc]
    split <;> omega
  refine ⟨if 1000000000000000000 ≤ c then c / 161 else 0, (c * 427 + 4611) % 2077503101 + 305, ?_, ?_⟩
  · unfold F__law_cup g__law_cup
    by_cases hk : 1000000000000000000 ≤ c <;> simp [fnS_eq, h2, h1, ← hc, pow18, dMod_int, dMul_int, dDiv_int, hk]
  · refine ⟨?_, ?_, ?_⟩
    · split <;> omega
    · omega
    · omega
theorem roll_ok {a b m : Int} (c : CupOk a b) (h1 : 1 ≤ m) (h2 : m < 1073741824) : ∃ r a' b', F__law_roll [.own true (cupD a b), .fro (.int m)] = .ok (.fro (.int r), [.own true (cupD a' b'), .fro (.int m)]) ∧ CupOk a' b' ∧ 0 ≤ r ∧ r < m := by
  obtain ⟨c1, c2, c3⟩ := c
  by_cases ha : 0 < a
  · refine ⟨a % m, a / m, b, ?_, ⟨Int.ediv_nonneg c1 (by omega), c2, c3⟩, Int.emod_nonneg _ (by omega), Int.emod_lt_of_pos _ (by omega)⟩
    unfold F__law_roll g__law_roll
    simp [fnS_eq, ha, dMod_int (show 0 < m by omega), dDiv_int (show 0 < m by omega) h2]
  · obtain ⟨q, hq⟩ : ∃ q, (b * 31355 + 8293) % 2147483399 = q := ⟨_, rfl⟩
    have hb0 : 0 ≤ q := by omega
    have hb1 : q < 2147483399 := by omega
    have m1 : dMul (.int b) (.int 31355) = some (.fro (.int (b * 31355))) := dMul_int (.inr (by omega))
    have e1 : dMod (.int (b * 31355 + 8293)) (.int 2147483399) = some (.fro (.int q)) := by rw [dMod_int (by omega), hq]
    have m2 : dMul (.int q) (.int (q + 503)) = some (.fro (.int (q * (q + 503)))) := dMul_int (.inl (by omega))
    have e2 : dMod (.int (q * (q + 503))) (.int 2147483563) = some (.fro (.int (q * (q + 503) % 2147483563))) := dMod_int (by omega)
    have e3 : dDiv (.int (q * (q + 503) % 2147483563)) (.int 797) = some (.fro (.int (q * (q + 503) % 2147483563 / 797))) := dDiv_int (by omega) (by omega)
    refine ⟨q * (q + 503) % 2147483563 / 797 % m, a, q, ?_, ⟨c1, hb0, by omega⟩, Int.emod_nonneg _ (by omega), Int.emod_lt_of_pos _ (by omega)⟩
    unfold F__law_roll g__law_roll
    simp [fnS_eq, ha, m1, e1, m2, e2, e3, dMod_int (show 0 < m by omega)]
end F.L
set_option Elab.async false
set_option linter.all false
set_option maxRecDepth 100000
set_option maxHeartbeats 4000000
/-! plain law of k50: tiles, lines (own work) -/
namespace F.L
open PySem L2 F

theorem some_ok {a b : Int} {ds : List D} (c : CupOk a b) (h1 : ds ≠ []) (h2 : ds.length < 1073741824) : ∃ (r : Nat) (x : D) (a' b' : Int), F__law_some [.own true (cupD a b), .fro (.lst ds)] = .ok (.fro x, [.own true (cupD a' b'), .fro (.lst ds)]) ∧ CupOk a' b' ∧ ds[r]? = some x ∧ x ∈ ds := by
  have hp : 0 < ds.length := List.length_pos_iff.mpr h1
  obtain ⟨r, a', b', e, c', r0, r1⟩ := roll_ok (m := (ds.length : Int)) c (by omega) (by omega)
  have hr : r.toNat < ds.length := by omega
  have e2 : atI ds r = some ds[r.toNat] := by rw [atI_nat r0 r1, List.getElem?_eq_getElem hr]
  refine ⟨r.toNat, ds[r.toNat], a', b', ?_, c', List.getElem?_eq_getElem hr, List.getElem_mem hr⟩
  unfold F__law_some g__law_some
  simp [fnS_eq, callT, e, e2]
/-! ### tiles -/
def tileP (i j : Int) : List Int := [if j < i then j else i, if j > i then j else i]
abbrev tileD (t : List Int) : D := .tup (t.map D.int)
/-- the tiles of a line -/
def tilesP : List Int → List (List Int)
  | i :: j :: r => tileP i j :: tilesP (j :: r)
  | _ => []
abbrev lineD (ns : List Int) : D := .tup (ns.map D.int)
theorem tilesP_len : ∀ ns : List Int, (tilesP ns).length = ns.length - 1
  | [] => rfl
  | [_] => rfl
  | i :: j :: r => by
    rw [tilesP, List.length_cons, tilesP_len (j :: r)]
    simp
theorem is_whole_ok (i lo hi : Int) : F_is_whole [.fro (.int i), .fro (.int lo), .fro (.int hi)] = .ok (.fro (.bl (decide (lo ≤ i) && decide (i ≤ hi))), [.fro (.int i), .fro (.int lo), .fro (.int hi)]) := by
  unfold F_is_whole g_is_whole
  simp [fnS_eq]
  by_cases h : lo ≤ i <;> simp [h]
theorem is_tuple_of_ok (ds : List D) (lo hi : Int) : F_is_tuple_of [.fro (.tup ds), .fro (.int lo), .fro (.int hi)] = .ok (.fro (.bl (decide (lo ≤ ds.length) && decide ((ds.length : Int) ≤ hi))), [.fro (.tup ds), .fro (.int lo), .fro (.int hi)]) := by
  unfold F_is_tuple_of g_is_tuple_of
  simp [fnS_eq]
  by_cases h : lo ≤ ds.length <;> simp [h]
theorem tile_of_ok (i j : Int) : F_tile_of [.fro (.int i), .fro (.int j)] = .ok (.fro (tileD (tileP i j)), [.fro (.int i), .fro (.int j)]) := by
  unfold F_tile_of g_tile_of
  simp [fnS_eq, tileP]
theorem zip_pairs : ∀ ns : List Int, zipL (ns.map D.int) (ns.map D.int).tail = (List.zip ns ns.tail).map fun p => D.tup [.int p.1, .int p.2]
  | [] => rfl
  | [_] => rfl
  | i :: j :: r => by
    have := zip_pairs (j :: r)
    simp only [zipL, List.map_cons, List.tail_cons, List.zipWith_cons_cons, List.zip_cons_cons] at this ⊢
    rw [this]
theorem tilesP_zip : ∀ ns : List Int, tilesP ns = (List.zip ns ns.tail).map fun p => tileP p.1 p.2
  | [] => rfl
  | [_] => rfl
  | i :: j :: r => by
    rw [tilesP, tilesP_zip (j :: r)]
    rfl
def pips (ns : List Int) : Prop := ∀ n ∈ ns, 0 ≤ n ∧ n ≤ 6
/-- a line of any tiles -/
structure LineOk (ns : List Int) : Prop where
  ne : ns ≠ []
  few : ns.length ≤ 13
  pip : pips ns
  nd : (tilesP ns).Nodup
/-- is it one? -/
def anyB (ns : List Int) : Bool := decide (1 ≤ ns.length) && decide (ns.length ≤ 13) && ns.all (fun n => decide (0 ≤ n) && decide (n ≤ 6)) && decide (tilesP ns).Nodup
def wholeB (n : Int) : Bool := decide (0 ≤ n) && decide (n ≤ 6)
theorem fits_any_ok (ns : List Int) (hl : ns.length ≤ 14) : F_fits_any [.fro (lineD ns)] = .ok (.fro (.bl (anyB ns)), [.fro (lineD ns)]) := by
  have c1 : sCompL (gN 2) bYes (sFrz (sCall 3 F_is_whole (aCons (sFrz (sVar 2)) (aCons (sC (.int 0)) (aCons (sC (.int 6)) (aNil)))))) [2] (ns.map D.int) [some (.fro (lineD ns)), none, none, none] = .ok ((ns.map wholeB).map D.bl, [some (.fro (lineD ns)), none, none, none]) := by
    rw [compL1 (g := fun d => match d with | .int n => D.bl (wholeB n) | d => d) _ fun d hd => ?_]
    · rw [List.map_map, List.map_map]
      rfl
    · obtain ⟨n, hn, rfl⟩ := List.mem_map.mp hd
      refine ⟨_, [some (.fro (lineD ns)), none, some (.fro (.int n)), none], rfl, ?_, rfl⟩
      simp [callT, is_whole_ok, wholeB]
  have c2 : sCompL (gTup (gCons (gN 2) (gCons (gN 3) (gNil)))) bYes (sFrz (sCall 2 F_tile_of (aCons (sFrz (sVar 2)) (aCons (sFrz (sVar 3)) (aNil))))) [2, 3] (zipL (ns.map D.int) (ns.map D.int).tail) [some (.fro (lineD ns)), none, none, none] = .ok ((tilesP ns).map tileD, [some (.fro (lineD ns)), none, none, none]) := by
    rw [zip_pairs, tilesP_zip]
    have := compL1 (tg := gTup (gCons (gN 2) (gCons (gN 3) (gNil)))) (el := sFrz (sCall 2 F_tile_of (aCons (sFrz (sVar 2)) (aCons (sFrz (sVar 3)) (aNil))))) (vs := [2, 3]) (τ := [some (.fro (lineD ns)), none, none, none]) (g := fun d => match d with | .tup [.int i, .int j] => tileD (tileP i j) | d => d) ((List.zip ns ns.tail).map fun p => D.tup [.int p.1, .int p.2]) fun d hd => by
      obtain ⟨p, hp, rfl⟩ := List.mem_map.mp hd
      refine ⟨_, [some (.fro (lineD ns)), none, some (.fro (.int p.1)), some (.fro (.int p.2))], rfl, ?_, rfl⟩
      simp [callT, tile_of_ok]
    rw [this, List.map_map, List.map_map]
    rfl
  have hz : (tilesP ns).length < 64 := by
    rw [tilesP_len]
    omega
  have ls : lenSet (.lst ((tilesP ns).map tileD)) = some (.fro (.int (dedupe (tilesP ns)).length)) := by
    show (rowsI ((tilesP ns).map fun k => D.tup (k.map D.int))).bind _ = _
    rw [rowsI_of]
    exact if_pos (decide_eq_true hz)
  have zl : (zipL (ns.map D.int) (ns.map D.int).tail).length ≤ 16777216 := by
    unfold zipL
    rw [List.length_zipWith, List.length_map]
    omega
  have nl : ns.length ≤ 16777216 := by omega
  have ny : (((dedupe (tilesP ns)).length : Int) == ((tilesP ns).length : Int)) = decide (tilesP ns).Nodup := by
    by_cases h : (tilesP ns).Nodup
    · rw [decide_eq_true h, dedupe_full.mpr h]
      simp
    · rw [decide_eq_false h]
      have : (dedupe (tilesP ns)).length ≠ (tilesP ns).length := fun z => h (dedupe_full.mp z)
      simp
      omega
  unfold F_fits_any g_fits_any
  by_cases h1 : 1 ≤ ns.length
  · by_cases h2 : ns.length ≤ 13
    · have i1 : ¬ ((ns.length : Int) < 1) := by omega
      have i2 : ¬ (13 < (ns.length : Int)) := by omega
      by_cases h3 : (ns.map wholeB).all id = true
      · have e : anyB ns = decide (tilesP ns).Nodup := by
          unfold anyB
          rw [decide_eq_true h1, decide_eq_true h2]
          rw [List.all_map] at h3
          have : (ns.all fun n => decide (0 ≤ n) && decide (n ≤ 6)) = true := h3
          rw [this]
          simp
        simp [fnS_eq, callT, is_tuple_of_ok, c1, nl, i1, i2, -List.map_map, -List.all_map, h3, cut_tail, c2, ls, zl, -List.map_tail, e]
        exact ny
      · have e : anyB ns = false := by
          unfold anyB
          rw [List.all_map] at h3
          have : (ns.all fun n => decide (0 ≤ n) && decide (n ≤ 6)) = false := Bool.eq_false_iff.mpr h3
          rw [this]
          simp
        simp [fnS_eq, callT, is_tuple_of_ok, c1, nl, i1, i2, -List.map_map, -List.all_map, h3, e]
    · have e : anyB ns = false := by
        unfold anyB
        rw [decide_eq_false h2]
        simp
      have i2 : 13 < (ns.length : Int) := by omega
      simp [fnS_eq, callT, is_tuple_of_ok, i2, e]
  · have e : anyB ns = false := by
      unfold anyB
      rw [decide_eq_false h1]
      simp
    have i1 : (ns.length : Int) < 1 := by omega
    simp [fnS_eq, callT, is_tuple_of_ok, i1, e]
end F.L
set_option Elab.async false
set_option linter.all false
set_option maxRecDepth 100000
set_option maxHeartbeats 4000000
/-! plain law of k50: tiles of a line (own work) -/
namespace F.L
open PySem L2 F

def TileOk (t : List Int) : Prop := ∃ x y : Int, t = [x, y] ∧ 0 ≤ x ∧ x ≤ y ∧ y ≤ 6
theorem tileP_ok {i j : Int} (hi : 0 ≤ i ∧ i ≤ 6) (hj : 0 ≤ j ∧ j ≤ 6) : TileOk (tileP i j) := by
  refine ⟨_, _, rfl, ?_, ?_, ?_⟩ <;> (split <;> (try split) <;> omega)
theorem tilesP_ok : ∀ {ns : List Int}, pips ns → ∀ t ∈ tilesP ns, TileOk t
  | [], _, t, h => nomatch h
  | [_], _, t, h => nomatch h
  | i :: j :: r, p, t, h => by
    rw [tilesP] at h
    rcases List.mem_cons.mp h with h | h
    · rw [h]
      exact tileP_ok (p i (by simp)) (p j (by simp))
    · exact tilesP_ok (fun n hn => p n (List.mem_cons_of_mem _ hn)) t h
theorem eqv_tile (s t : List Int) : D.eqv (tileD s) (tileD t) = decide (s = t) := by
  rw [eqv_tup, eqvs_ints]
theorem okd_tile (t : List Int) : D.okd 12 (tileD t) = true := okd_ints 11 t
theorem nos_tile (t : List Int) : D.nos (tileD t) = true := by
  rw [nos_tup, noss_ints]
/-- the tiles, in order -/
def usedP (ns : List Int) : List (List Int) := (tilesP ns).mergeSort fun s t => PySem.W.dataLe false D.py (tileD s) (tileD t)
theorem used_sort (ns : List Int) : D.sort ((tilesP ns).map tileD) = (usedP ns).map tileD := (List.map_mergeSort (f := tileD) (l := tilesP ns) (r := fun s t => PySem.W.dataLe false D.py (tileD s) (tileD t)) (s := PySem.W.dataLe false D.py) fun _ _ _ _ => rfl).symm
theorem used_perm (ns : List Int) : (usedP ns).Perm (tilesP ns) := List.mergeSort_perm _ _
theorem used_mem {ns : List Int} {t : List Int} : t ∈ usedP ns ↔ t ∈ tilesP ns := List.mem_mergeSort
theorem used_len (ns : List Int) : (usedP ns).length = ns.length - 1 := by rw [(used_perm ns).length_eq, tilesP_len]
theorem used_strict {ns : List Int} (h : LineOk ns) : (usedP ns).Pairwise fun s t => D.lt (tileD s) (tileD t) = true := by
  have h1 := sort_sorted ((tilesP ns).map tileD)
  rw [used_sort] at h1
  have h2 := List.pairwise_map.mp h1
  have h3 : (usedP ns).Nodup := (used_perm ns).nodup_iff.mpr h.nd
  have h4 : (usedP ns).Pairwise fun s t => (s ∈ usedP ns ∧ t ∈ usedP ns) ∧ D.lt (tileD t) (tileD s) = false ∧ s ≠ t := by
    have := List.Pairwise.and h2 h3
    exact List.Pairwise.imp_of_mem (fun {a b} ha hb z => ⟨⟨ha, hb⟩, z⟩) this
  refine List.Pairwise.imp (fun {s t} z => ?_) h4
  obtain ⟨⟨hs, ht⟩, z1, z2⟩ := z
  obtain ⟨x, y, rfl, _⟩ := tilesP_ok h.pip s (used_mem.mp hs)
  obtain ⟨x', y', rfl, _⟩ := tilesP_ok h.pip t (used_mem.mp ht)
  have e1 : D.lt (tileD [x', y']) (tileD [x, y]) = decide (x' < x ∨ (x' = x ∧ y' < y)) := lt_ii ..
  have e2 : D.lt (tileD [x, y]) (tileD [x', y']) = decide (x < x' ∨ (x = x' ∧ y < y')) := lt_ii ..
  rw [e1] at z1
  rw [e2]
  have z1' := of_decide_eq_false z1
  refine decide_eq_true ?_
  have ne : ¬ (x = x' ∧ y = y') := fun q => z2 (by rw [q.1, q.2])
  omega
theorem zip_adj {α : Type} {R : α → α → Prop} : ∀ {l : List α}, l.Pairwise R → ∀ p ∈ List.zip l l.tail, R p.1 p.2
  | [], _, p, hp => nomatch hp
  | [_], _, p, hp => nomatch hp
  | a :: b :: r, h, p, hp => by
    rw [List.tail_cons, List.zip_cons_cons] at hp
    obtain ⟨h1, h2⟩ := List.pairwise_cons.mp h
    rcases List.mem_cons.mp hp with e | hp
    · rw [e]
      exact h1 b List.mem_cons_self
    · exact zip_adj h2 p hp
theorem zipL_zip {α : Type} (f : α → D) (xs ys : List α) : zipL (xs.map f) (ys.map f) = (List.zip xs ys).map fun p => D.tup [f p.1, f p.2] := by
  unfold zipL
  rw [List.zipWith_map, List.zip, List.map_zipWith]
theorem alk_tile {s t : List Int} (hs : TileOk s) (ht : TileOk t) : D.alk (tileD s) (tileD t) = true := by
  obtain ⟨x, y, rfl, _⟩ := hs
  obtain ⟨x', y', rfl, _⟩ := ht
  simp [D.alk, D.alks]
theorem dLt_tile {s t : List Int} (hs : TileOk s) (ht : TileOk t) : dLt (tileD s) (tileD t) = some (.fro (.bl (D.lt (tileD s) (tileD t)))) := by
  have h : ltOk (tileD s) (tileD t) = true := by
    unfold ltOk
    rw [show D.okd dd (tileD s) = true from okd_tile s, show D.okd dd (tileD t) = true from okd_tile t, alk_tile hs ht]
    rfl
  exact if_pos h
theorem rising_ok {ts : List (List Int)} (hl : ts.length ≤ 100) (ok : ∀ t ∈ ts, TileOk t) (h : ts.Pairwise fun s t => D.lt (tileD s) (tileD t) = true) : F_is_rising [.fro (.tup (ts.map tileD))] = .ok (.fro (.bl true), [.fro (.tup (ts.map tileD))]) := by
  have c1 : sCompL (gTup (gCons (gN 1) (gCons (gN 2) (gNil)))) bYes (sOp2 dLt (sVar 1) (sVar 2)) [1, 2] (zipL (ts.map tileD) (ts.map tileD).tail) [some (.fro (.tup (ts.map tileD))), none, none] = .ok ((List.zip ts ts.tail).map (fun _ => D.bl true), [some (.fro (.tup (ts.map tileD))), none, none]) := by
    rw [← List.map_tail, zipL_zip]
    have := compL1 (tg := gTup (gCons (gN 1) (gCons (gN 2) (gNil)))) (el := sOp2 dLt (sVar 1) (sVar 2)) (vs := [1, 2]) (τ := [some (.fro (.tup (ts.map tileD))), none, none]) (g := fun _ => D.bl true) ((List.zip ts ts.tail).map fun p => D.tup [tileD p.1, tileD p.2]) fun d hd => by
      obtain ⟨p, hp, rfl⟩ := List.mem_map.mp hd
      refine ⟨_, [some (.fro (.tup (ts.map tileD))), some (.fro (tileD p.1)), some (.fro (tileD p.2))], rfl, ?_, rfl⟩
      have m1 : p.1 ∈ ts := (List.of_mem_zip hp).1
      have m2 : p.2 ∈ ts := List.mem_of_mem_tail (List.of_mem_zip hp).2
      simp [dLt_tile (ok _ m1) (ok _ m2), zip_adj h p hp]
    rw [this, List.map_map]
    rfl
  have zl : (zipL (ts.map tileD) (ts.map tileD).tail).length ≤ 16777216 := by
    unfold zipL
    rw [List.length_zipWith, List.length_map]
    omega
  have al : cAll [.lst ((List.zip ts ts.tail).map (fun _ => D.bl true))] = some (.fro (.bl true)) := cAll_true fun d hd => by
    obtain ⟨_, _, e⟩ := List.mem_map.mp hd
    exact e.symm
  unfold F_is_rising g_is_rising
  simp [fnS_eq, cut_tail, zl, c1, al, -List.map_tail]
theorem fits_tile_ok {t : List Int} (h : TileOk t) : F_fits_tile [.fro (tileD t)] = .ok (.fro (.bl true), [.fro (tileD t)]) := by
  obtain ⟨x, y, rfl, h1, h2, h3⟩ := h
  have hx : x ≤ 6 := by omega
  have hy : 0 ≤ y := by omega
  have c1 : sCompL (gN 1) bYes (sFrz (sCall 3 F_is_whole (aCons (sFrz (sVar 1)) (aCons (sC (.int 0)) (aCons (sC (.int 6)) (aNil)))))) [1] [.int x, .int y] [some (.fro (tileD [x, y])), none] = .ok ([D.bl true, D.bl true], [some (.fro (tileD [x, y])), none]) := by
    simp [sCompL, callT, is_whole_ok, h1, h3, hx, hy]
  have al : cAll [.lst [D.bl true, D.bl true]] = some (.fro (.bl true)) := cAll_bls [true, true]
  unfold F_fits_tile g_fits_tile
  simp [fnS_eq, callT, is_tuple_of_ok, c1, al, h2]
theorem fits_tiles_ok {ts : List (List Int)} (hl : ts.length ≤ 12) (ok : ∀ t ∈ ts, TileOk t) (h : ts.Pairwise fun s t => D.lt (tileD s) (tileD t) = true) : F_fits_tiles [.fro (.tup (ts.map tileD))] = .ok (.fro (.bl true), [.fro (.tup (ts.map tileD))]) := by
  have c1 : sCompL (gN 1) bYes (sFrz (sCall 1 F_fits_tile (aCons (sFrz (sVar 1)) (aNil)))) [1] (ts.map tileD) [some (.fro (.tup (ts.map tileD))), none] = .ok ((ts.map tileD).map (fun _ => D.bl true), [some (.fro (.tup (ts.map tileD))), none]) := by
    refine compL1 _ fun d hd => ?_
    obtain ⟨t, ht, rfl⟩ := List.mem_map.mp hd
    refine ⟨_, [some (.fro (.tup (ts.map tileD))), some (.fro (tileD t))], rfl, ?_, rfl⟩
    simp [callT, fits_tile_ok (ok t ht)]
  have al : cAll [.lst ((ts.map tileD).map (fun _ => D.bl true))] = some (.fro (.bl true)) := cAll_true fun d hd => by
    obtain ⟨_, _, e⟩ := List.mem_map.mp hd
    exact e.symm
  have l1 : ts.length ≤ 16777216 := by omega
  have l2 : ((ts.length : Nat) : Int) ≤ 12 := by omega
  have l0 : (0 : Int) ≤ ((ts.length : Nat) : Int) := by omega
  unfold F_fits_tiles g_fits_tiles
  simp [fnS_eq, callT, is_tuple_of_ok, c1, al, l1, l2, l0, rising_ok (by omega) ok h, -List.map_map]
theorem need_tiles_ok {ts : List (List Int)} (hl : ts.length ≤ 12) (ok : ∀ t ∈ ts, TileOk t) (h : ts.Pairwise fun s t => D.lt (tileD s) (tileD t) = true) : F_need_tiles [.fro (.tup (ts.map tileD))] = .ok (.fro .non, [.fro (.tup (ts.map tileD))]) := by
  unfold F_need_tiles g_need_tiles
  simp [fnS_eq, callT, fits_tiles_ok hl ok h]
end F.L
set_option Elab.async false
set_option linter.all false
set_option maxRecDepth 100000
set_option maxHeartbeats 4000000
/-! plain law of k50: lines told and counted (own work) -/
namespace F.L
open PySem L2 F

theorem anyB_ok {ns : List Int} (h : LineOk ns) : anyB ns = true := by
  have h1 : 1 ≤ ns.length := List.length_pos_iff.mpr h.ne
  have h3 : (ns.all fun n => decide (0 ≤ n) && decide (n ≤ 6)) = true := List.all_eq_true.mpr fun n hn => by
    obtain ⟨a, b⟩ := h.pip n hn
    rw [decide_eq_true a, decide_eq_true b]
    rfl
  unfold anyB
  rw [decide_eq_true h1, decide_eq_true h.few, h3, decide_eq_true h.nd]
  rfl
theorem need_any_ok {ns : List Int} (h : LineOk ns) : F_need_any [.fro (lineD ns)] = .ok (.fro .non, [.fro (lineD ns)]) := by
  have := h.few
  unfold F_need_any g_need_any
  simp [fnS_eq, callT, fits_any_ok ns (by omega), anyB_ok h]
theorem all_wholeB {ns : List Int} (p : pips ns) : (ns.map wholeB).all id = true := by
  rw [List.all_map]
  refine List.all_eq_true.mpr fun n hn => ?_
  obtain ⟨a, b⟩ := p n hn
  show wholeB n = true
  unfold wholeB
  rw [decide_eq_true a, decide_eq_true b]
  rfl
theorem lenSet_tiles {ts : List (List Int)} (h : ts.length < 64) : lenSet (.lst (ts.map tileD)) = some (.fro (.int (dedupe ts).length)) := by
  show (rowsI (ts.map fun k => D.tup (k.map D.int))).bind _ = _
  rw [rowsI_of]
  exact if_pos (decide_eq_true h)
theorem dIn_tile {t : List Int} {us : List (List Int)} (h : t ∈ us) : dIn (tileD t) (.tup (us.map tileD)) = some (.fro (.bl true)) := by
  have ok : inOk (tileD t) (us.map tileD) = true := by
    unfold inOk
    rw [show D.okd dd (tileD t) = true from okd_tile t, nos_tile, noss_of fun d hd => by
      obtain ⟨u, _, rfl⟩ := List.mem_map.mp hd
      exact nos_tile u]
    have : (us.map tileD).all (fun y => D.okd dd y) = true := List.all_eq_true.mpr fun d hd => by
      obtain ⟨u, _, rfl⟩ := List.mem_map.mp hd
      exact okd_tile u
    rw [this]
    rfl
  have an : inAny (tileD t) (us.map tileD) = true := by
    unfold inAny
    refine List.any_eq_true.mpr ⟨tileD t, List.mem_map.mpr ⟨t, h, rfl⟩, ?_⟩
    rw [eqv_tile]
    exact decide_eq_true rfl
  have e : dIn (tileD t) (.tup (us.map tileD)) = if inOk (tileD t) (us.map tileD) = true then some (Hd.fro (.bl (inAny (tileD t) (us.map tileD)))) else none := rfl
  rw [e, if_pos ok, an]
theorem fits_line_ok {ns : List Int} (h : LineOk ns) : F_fits_line [.fro (.tup ((usedP ns).map tileD)), .fro (lineD ns)] = .ok (.fro (.bl true), [.fro (.tup ((usedP ns).map tileD)), .fro (lineD ns)]) := by
  have hf := h.few
  have hn : 1 ≤ ns.length := List.length_pos_iff.mpr h.ne
  obtain ⟨U, hU⟩ : ∃ U, U = D.tup ((usedP ns).map tileD) := ⟨_, rfl⟩
  have c1 : sCompL (gN 3) bYes (sFrz (sCall 3 F_is_whole (aCons (sFrz (sVar 3)) (aCons (sC (.int 0)) (aCons (sC (.int 6)) (aNil)))))) [3] (ns.map D.int) [some (.fro U), some (.fro (lineD ns)), none, none, none] = .ok ((ns.map wholeB).map D.bl, [some (.fro U), some (.fro (lineD ns)), none, none, none]) := by
    rw [compL1 (g := fun d => match d with | .int n => D.bl (wholeB n) | d => d) _ fun d hd => ?_]
    · rw [List.map_map, List.map_map]
      rfl
    · obtain ⟨n, hn, rfl⟩ := List.mem_map.mp hd
      refine ⟨_, [some (.fro U), some (.fro (lineD ns)), none, some (.fro (.int n)), none], rfl, ?_, rfl⟩
      simp [callT, is_whole_ok, wholeB]
  have c2 : sCompL (gTup (gCons (gN 3) (gCons (gN 4) (gNil)))) bYes (sFrz (sCall 2 F_tile_of (aCons (sFrz (sVar 3)) (aCons (sFrz (sVar 4)) (aNil))))) [3, 4] (zipL (ns.map D.int) (ns.map D.int).tail) [some (.fro U), some (.fro (lineD ns)), none, none, none] = .ok ((tilesP ns).map tileD, [some (.fro U), some (.fro (lineD ns)), none, none, none]) := by
    rw [zip_pairs, tilesP_zip]
    have := compL1 (tg := gTup (gCons (gN 3) (gCons (gN 4) (gNil)))) (el := sFrz (sCall 2 F_tile_of (aCons (sFrz (sVar 3)) (aCons (sFrz (sVar 4)) (aNil))))) (vs := [3, 4]) (τ := [some (.fro U), some (.fro (lineD ns)), none, none, none]) (g := fun d => match d with | .tup [.int i, .int j] => tileD (tileP i j) | d => d) ((List.zip ns ns.tail).map fun p => D.tup [.int p.1, .int p.2]) fun d hd => by
      obtain ⟨p, hp, rfl⟩ := List.mem_map.mp hd
      refine ⟨_, [some (.fro U), some (.fro (lineD ns)), none, some (.fro (.int p.1)), some (.fro (.int p.2))], rfl, ?_, rfl⟩
      simp [callT, tile_of_ok]
    rw [this, List.map_map, List.map_map]
    rfl
  have c3 : sCompL (gN 3) bYes (sOp2 dIn (sVar 3) (sVar 0)) [3] ((tilesP ns).map tileD) [some (.fro U), some (.fro (lineD ns)), some (.fro (.lst ((tilesP ns).map tileD))), none, none] = .ok (((tilesP ns).map tileD).map (fun _ => D.bl true), [some (.fro U), some (.fro (lineD ns)), some (.fro (.lst ((tilesP ns).map tileD))), none, none]) := by
    refine compL1 _ fun d hd => ?_
    obtain ⟨t, ht, rfl⟩ := List.mem_map.mp hd
    refine ⟨_, [some (.fro U), some (.fro (lineD ns)), some (.fro (.lst ((tilesP ns).map tileD))), some (.fro (tileD t)), none], rfl, ?_, rfl⟩
    have := dIn_tile (used_mem.mpr ht)
    rw [← hU] at this
    simp [this]
  have a3 : cAll [.lst (((tilesP ns).map tileD).map (fun _ => D.bl true))] = some (.fro (.bl true)) := cAll_true fun d hd => by
    obtain ⟨_, _, e⟩ := List.mem_map.mp hd
    exact e.symm
  have tl : (tilesP ns).length ≤ 16777216 := by
    rw [tilesP_len]
    omega
  have ls := lenSet_tiles (ts := tilesP ns) (by rw [tilesP_len]; omega)
  rw [dedupe_full.mpr h.nd] at ls
  have zl : (zipL (ns.map D.int) (ns.map D.int).tail).length ≤ 16777216 := by
    unfold zipL
    rw [List.length_zipWith, List.length_map]
    omega
  have nl : ns.length ≤ 16777216 := by omega
  have i1 : ¬ ((ns.length : Int) < 1) := by omega
  have i2 : ¬ (13 < (ns.length : Int)) := by omega
  unfold F_fits_line g_fits_line
  rw [← hU]
  simp [fnS_eq, callT, is_tuple_of_ok, c1, nl, i1, i2, -List.map_map, -List.all_map, all_wholeB h.pip, cut_tail, c2, ls, zl, -List.map_tail, c3, a3, tl]
theorem used_tiles {ns : List Int} (h : LineOk ns) : ∀ t ∈ usedP ns, TileOk t := fun t ht => tilesP_ok h.pip t (used_mem.mp ht)
theorem is_line_ok {ns : List Int} (h : LineOk ns) : F_is_line [.fro (.tup ((usedP ns).map tileD)), .fro (lineD ns)] = .ok (.fro (.bl true), [.fro (.tup ((usedP ns).map tileD)), .fro (lineD ns)]) := by
  have hf := h.few
  have n1 := need_tiles_ok (ts := usedP ns) (by rw [used_len]; omega) (used_tiles h) (used_strict h)
  have n2 := fits_line_ok h
  obtain ⟨U, hU⟩ : ∃ U, U = D.tup ((usedP ns).map tileD) := ⟨_, rfl⟩
  rw [← hU] at n1 n2 ⊢
  unfold F_is_line g_is_line
  simp [fnS_eq, callT, n1, n2]
/-! ### texts -/
def S (l : List Nat) : Str := ⟨l.toArray⟩
theorem S_app (l m : List Nat) : S l ++ S m = S (l ++ m) := by
  show Str.mk (l.toArray ++ m.toArray) = Str.mk (l ++ m).toArray
  rw [List.append_toArray]
theorem S_len (l : List Nat) : (S l).length = l.length := rfl
def cp (n : Int) : Nat := 48 + n.toNat
theorem pip_cases {n : Int} (h : 0 ≤ n ∧ n ≤ 6) : n = 0 ∨ n = 1 ∨ n = 2 ∨ n = 3 ∨ n = 4 ∨ n = 5 ∨ n = 6 := by omega
theorem cStr_pip {n : Int} (h : 0 ≤ n ∧ n ≤ 6) : cStr [.int n] = some (.fro (.str (S [cp n]))) := by
  have t : Str.ofString (toString n) = S [cp n] := by
    rcases pip_cases h with e | e | e | e | e | e | e <;> subst e <;> decide +kernel
  have k : decide (n.natAbs.log2 < 1920) = true := by
    rcases pip_cases h with e | e | e | e | e | e | e <;> subst e <;> decide
  have e : cStr [.int n] = if decide (n.natAbs.log2 < 1920) = true then some (.fro (.str (Str.ofString (toString n)))) else none := rfl
  rw [e, if_pos k, t]
end F.L
set_option Elab.async false
set_option linter.all false
set_option maxRecDepth 100000
set_option maxHeartbeats 4000000
/-! plain law of k50: texts of lines (own work) -/
namespace F.L
open PySem L2 F

theorem S_nil : ("" : Str) = S [] := by decide +kernel
theorem S_eq : ("=" : Str) = S [61] := by decide +kernel
theorem join_digits : ∀ ns : List Int, Str.join "" (ns.map fun n => S [cp n]) = S (ns.map cp)
  | [] => rfl
  | [n] => rfl
  | n :: m :: r => by
    have ih := join_digits (m :: r)
    show S [cp n] ++ ("" : Str) ++ Str.join "" ((m :: r).map fun n => S [cp n]) = _
    rw [ih, S_nil, S_app, S_app]
    rfl
theorem mJoin_ok (ns : List Int) (hl : ns.length ≤ 1000) : mJoin (.str "") [.lst ((ns.map fun n => S [cp n]).map D.str)] = some (.fro (.str (S (ns.map cp)))) := by
  have e : mJoin (.str "") [.lst ((ns.map fun n => S [cp n]).map D.str)] = (txts ((ns.map fun n => S [cp n]).map D.str)).bind fun ys => if joinOk "" ys = true then some (.fro (.str (Txt.join "" ys))) else none := rfl
  have l1 : ∀ ns : List Int, (((ns.map fun n => S [cp n]).map (·.length)).sum) = ns.length := fun ns => by
    induction ns with
    | nil => rfl
    | cons n ns ih =>
      rw [List.map_cons, List.map_cons, List.sum_cons, ih, S_len, List.length_cons]
      simp
      omega
  have ok : joinOk "" (ns.map fun n => S [cp n]) = true := by
    unfold joinOk
    rw [l1]
    have z : ("" : Str).length = 0 := by decide +kernel
    rw [z]
    refine decide_eq_true ?_
    omega
  rw [e, txts_of]
  show (if joinOk "" _ = true then _ else _) = _
  rw [if_pos ok, TL.join_eq, join_digits]
theorem print_line_ok {ns : List Int} (h : LineOk ns) : F_print_line [.fro (lineD ns)] = .ok (.fro (.str (S (ns.map cp))), [.fro (lineD ns)]) := by
  have hf := h.few
  have c1 : sCompL (gN 1) bYes (sCB cStr (aCons (sVar 1) (aNil))) [1] (ns.map D.int) [some (.fro (lineD ns)), none] = .ok ((ns.map fun n => S [cp n]).map D.str, [some (.fro (lineD ns)), none]) := by
    rw [compL1 (g := fun d => match d with | .int n => D.str (S [cp n]) | d => d) _ fun d hd => ?_]
    · rw [List.map_map, List.map_map]
      rfl
    · obtain ⟨n, hn, rfl⟩ := List.mem_map.mp hd
      refine ⟨_, [some (.fro (lineD ns)), some (.fro (.int n))], rfl, ?_, rfl⟩
      simp [cStr_pip (h.pip n hn)]
  have nl : ns.length ≤ 16777216 := by omega
  have mt : D.mt (.str "") = some "str" := rfl
  unfold F_print_line g_print_line
  simp [fnS_eq, callT, need_any_ok h, c1, nl, -List.map_map, sBM, mt, mJoin_ok ns (by omega)]
/-! ### counting -/
def fac (p : Int × Int) : Int := if p.1 = p.2 then 2 else 1
def prodP (ps : List (Int × Int)) : Int := ps.foldl (fun v p => v * fac p) 1
abbrev pairD (p : Int × Int) : D := .tup [.int p.1, .int p.2]
theorem split_map {α β : Type} {f : α → β} : ∀ {xs : List α} {pre : List β} {d : β} {post : List β}, xs.map f = pre ++ d :: post → ∃ ps p qs, xs = ps ++ p :: qs ∧ pre = ps.map f ∧ d = f p
  | [], pre, d, post, h => by cases pre <;> cases h
  | x :: xs, [], d, post, h => by
    rw [List.map_cons, List.nil_append] at h
    cases h
    exact ⟨[], x, xs, rfl, rfl, rfl⟩
  | x :: xs, y :: pre, d, post, h => by
    rw [List.map_cons, List.cons_append] at h
    injection h with h1 h2
    obtain ⟨ps, p, qs, e1, e2, e3⟩ := split_map h2
    exact ⟨x :: ps, p, qs, by rw [e1]; rfl, by rw [List.map_cons, h1, e2], e3⟩
theorem count_ok {ns : List Int} (h : LineOk ns) : F_count_line_texts [.fro (lineD ns)] = .ok (.fro (.int (prodP (List.zip ns ns.tail))), [.fro (lineD ns)]) := by
  have hf := h.few
  let ps := List.zip ns ns.tail
  have lp := for_all (tg := gTup (gCons (gN 2) (gCons (gN 3) (gNil)))) (bd := sSet 1 (sOp2 dMul (sVar 1) (sIf (bV (sOp2 dEq (sVar 2) (sVar 3))) (sC (.int 2)) (sC (.int 1))))) (ks := [0, 2, 3]) (all := ps.map pairD) (τ := [none, some (.fro (.int 1)), none, none])
    (I := fun pre τ => ∃ qs : List (Int × Int), pre = qs.map pairD ∧ τ = [none, some (.fro (.int (prodP qs))), none, none]) ⟨[], rfl, rfl⟩ fun pre d post τ e ⟨qs, e1, e2⟩ => by
      obtain ⟨ps', p, qs', f1, f2, f3⟩ := split_map e
      subst e2 f3
      have e3 : qs.map pairD = ps'.map pairD := e1.symm.trans f2
      refine ⟨_, [none, some (.fro (.int (prodP qs * fac p))), some (.fro (.int p.1)), some (.fro (.int p.2))], rfl, .inl ?_, qs ++ [p], by rw [e1, List.map_append]; rfl, ?_⟩
      · have m2 : dMul (.int (prodP qs)) (.int 2) = some (.fro (.int (prodP qs * 2))) := dMul_int (.inr (by omega))
        have m1 : dMul (.int (prodP qs)) (.int 1) = some (.fro (.int (prodP qs * 1))) := dMul_int (.inr (by omega))
        by_cases hp : p.1 = p.2
        · simp [hp, m2, fac]
        · have hq : (p.1 == p.2) = false := beq_false_of_ne hp
          simp only [Int.mul_one] at m1
          simp [hp, hq, m1, fac]
      · unfold prodP
        rw [List.foldl_append]
        rfl
  obtain ⟨τ', l1, qs, l2, l3⟩ := lp
  have eq : qs = ps := by
    have inj : ∀ (a b : List (Int × Int)), a.map pairD = b.map pairD → a = b := by
      intro a
      induction a with
      | nil =>
        intro b hb
        cases b with
        | nil => rfl
        | cons y b => cases hb
      | cons x a ih =>
        intro b hb
        cases b with
        | nil => cases hb
        | cons y b =>
          rw [List.map_cons, List.map_cons] at hb
          injection hb with h1 h2
          obtain ⟨x1, x2⟩ := x
          obtain ⟨y1, y2⟩ := y
          have h1' : D.tup [.int x1, .int x2] = D.tup [.int y1, .int y2] := h1
          injection h1' with h1'
          injection h1' with q1 q2
          injection q2 with q2 _
          injection q1 with q1
          injection q2 with q2
          rw [q1, q2, ih b h2]
    exact (inj _ _ l2).symm
  subst l3
  rw [eq] at l1
  have zp : zipL (ns.map D.int) (ns.map D.int).tail = ps.map pairD := zip_pairs ns
  have nl : ns.length ≤ 16777216 := by omega
  unfold F_count_line_texts g_count_line_texts
  simp [fnS_eq, callT, need_any_ok h, cut_tail, -List.map_tail, zp]
  rw [l1]
  simp
  rfl
end F.L
set_option Elab.async false
set_option linter.all false
set_option maxRecDepth 100000
set_option maxHeartbeats 4000000
/-! plain law of k50: reading, its parts (own work) -/
namespace F.L
open PySem L2 F

abbrev rdD (x : Str) (k : Int) : D := .ins "Reading" [("text", .str x), ("at", .int k)]
theorem ne1 : (("at" : Str) == ("text" : Str)) = false := by decide +kernel
theorem ne2 : (("here" : Str) == ("text" : Str)) = false := by decide +kernel
theorem ne3 : (("here" : Str) == ("at" : Str)) = false := by decide +kernel
theorem ne4 : (("one_of" : Str) == ("text" : Str)) = false := by decide +kernel
theorem ne5 : (("one_of" : Str) == ("at" : Str)) = false := by decide +kernel
theorem ne6 : (("line" : Str) == ("text" : Str)) = false := by decide +kernel
theorem ne7 : (("line" : Str) == ("at" : Str)) = false := by decide +kernel
theorem ne8 : ¬ (("text" : Str) = ("at" : Str)) := by decide +kernel
theorem fld_text (x : Str) (k : Int) : fldOf "Reading" "text" (rdD x k) = some (.str x) := by
  unfold fldOf
  simp [List.lookup]
theorem fld_at (x : Str) (k : Int) : fldOf "Reading" "at" (rdD x k) = some (.int k) := by
  unfold fldOf
  simp [List.lookup, ne1]
theorem ins_here (x : Str) (k : Int) : isIns "Reading" "here" (rdD x k) = true := by
  unfold isIns
  simp [List.lookup, ne2, ne3]
theorem ins_one (x : Str) (k : Int) : isIns "Reading" "one_of" (rdD x k) = true := by
  unfold isIns
  simp [List.lookup, ne4, ne5]
theorem ins_line (x : Str) (k : Int) : isIns "Reading" "line" (rdD x k) = true := by
  unfold isIns
  simp [List.lookup, ne6, ne7]
theorem init_ok (x : Str) : F_Reading___init__ [.own true (.ins "Reading" []), .fro (.str x)] = .ok (.fro .non, [.own true (rdD x 0), .fro (.str x)]) := by
  unfold F_Reading___init__ g_Reading___init__
  simp [fnS_eq, putD, ne8]
theorem cutS_one (l : List Nat) (k : Nat) : cutS (S l) (some (k : Int)) (some ((k : Int) + 1)) = S ((l.drop k).take 1) := by
  unfold cutS
  have e : ((k : Int) + 1) = ((k + 1 : Nat) : Int) := by omega
  rw [e, HT.sIx_nat, HT.sIx_nat]
  show Str.mk ((((l.toArray).toList.drop (min k l.length)).take (min (k + 1) l.length - min k l.length)).toArray) = _
  congr 2
  by_cases h : k < l.length
  · rw [Nat.min_eq_left (by omega), Nat.min_eq_left (by omega)]
    have : k + 1 - k = 1 := by omega
    rw [this]
  · rw [List.drop_eq_nil_of_le (by simp; omega), List.drop_eq_nil_of_le (by omega)]
    simp
theorem dSl_str {z : Str} (h : z.length ≤ 16777216) (lo hi : Option Int) : dSl (.str z) lo hi = some (.fro (.str (cutS z lo hi))) := if_pos (decide_eq_true h)
theorem here_ok (l : List Nat) (k : Nat) (hl : l.length ≤ 1000) : F_Reading_here [.own true (rdD (S l) (k : Int))] = .ok (.fro (.str (S ((l.drop k).take 1))), [.own true (rdD (S l) (k : Int))]) := by
  have e := dSl_str (z := S l) (by rw [S_len]; omega) (some (k : Int)) (some ((k : Int) + 1))
  rw [cutS_one] at e
  unfold F_Reading_here g_Reading_here
  simp [fnS_eq, fld_text, fld_at, e]
theorem S_inj {l m : List Nat} (h : S l = S m) : l = m := by
  have := congrArg (fun s => s.cps.toList) h
  simpa [S] using this
theorem dNotIn_ok {x : D} {ds : List D} (ok : inOk x ds = true) : dNotIn x (.lst ds) = some (.fro (.bl (!inAny x ds))) := if_pos ok
theorem dIn_ok {x : D} {ds : List D} (ok : inOk x ds = true) : dIn x (.lst ds) = some (.fro (.bl (inAny x ds))) := if_pos ok
theorem strOk_S {l : List Nat} (h : ∀ c ∈ l, c < 1000) : PyData.strOk (S l) = true := by
  unfold PyData.strOk S
  rw [List.all_toArray]
  exact List.all_eq_true.mpr fun c hc => decide_eq_true (by have := h c hc; omega)
/-- one sign taken -/
theorem one_of_ok {l : List Nat} {k c : Nat} {signs : List Nat} (hl : l.length ≤ 1000) (hk : l[k]? = some c) (hc : c ∈ signs) (hs : ∀ c ∈ signs, c < 1000) :
    F_Reading_one_of [.own true (rdD (S l) (k : Int)), .fro (.lst (signs.map fun c => D.str (S [c])))] = .ok (.fro (.str (S [c])), [.own true (rdD (S l) ((k : Int) + 1)), .fro (.lst (signs.map fun c => D.str (S [c])))]) := by
  have e1 : (l.drop k).take 1 = [c] := by
    obtain ⟨h, e⟩ := List.getElem?_eq_some_iff.mp hk
    rw [List.drop_eq_getElem_cons h, e]
    rfl
  have e2 := here_ok l k hl
  rw [e1] at e2
  have e3 : (S [c] == ("" : Str)) = false := by
    rw [S_nil]
    refine beq_false_of_ne fun z => ?_
    cases S_inj z
  have ok : inOk (.str (S [c])) (signs.map fun c => D.str (S [c])) = true := by
    unfold inOk
    have a : (signs.map fun c => D.str (S [c])).all (fun y => D.okd dd y) = true := List.all_eq_true.mpr fun d hd => by
      obtain ⟨u, _, rfl⟩ := List.mem_map.mp hd
      exact okd_str _ _
    have b : D.noss (signs.map fun c => D.str (S [c])) = true := noss_of fun d hd => by
      obtain ⟨u, hu, rfl⟩ := List.mem_map.mp hd
      rw [nos_str]
      exact strOk_S fun x hx => by
        rw [List.mem_singleton.mp hx]
        exact hs u hu
    rw [a, b, okd_str, nos_str, strOk_S fun x hx => by
      rw [List.mem_singleton.mp hx]
      exact hs c hc]
    rfl
  have an : inAny (.str (S [c])) (signs.map fun c => D.str (S [c])) = true := by
    unfold inAny
    refine List.any_eq_true.mpr ⟨.str (S [c]), List.mem_map.mpr ⟨c, hc, rfl⟩, ?_⟩
    rw [eqv_str]
    exact beq_self_eq_true _
  have e4 := dNotIn_ok ok
  rw [an] at e4
  unfold F_Reading_one_of g_Reading_one_of
  simp [fnS_eq, callT, ins_here, e2, e3, e4, fld_at, putD, ne8]
theorem rng07 : rngL 0 7 = [D.int 0, .int 1, .int 2, .int 3, .int 4, .int 5, .int 6] := rfl
def digs : List Nat := [48, 49, 50, 51, 52, 53, 54]
theorem halves_ok : F_halves_from [.fro (.int 0), .fro (.int 6)] = .ok (.tmp (.lst (digs.map fun c => D.str (S [c]))), [.fro (.int 0), .fro (.int 6)]) := by
  have c1 : sCompL (gN 2) bYes (sCB cStr (aCons (sVar 2) (aNil))) [2] (rngL 0 7) [some (.fro (.int 0)), some (.fro (.int 6)), none] = .ok ((rngL 0 7).map (fun d => match d with | .int n => D.str (S [cp n]) | d => d), [some (.fro (.int 0)), some (.fro (.int 6)), none]) := by
    refine compL1 _ fun d hd => ?_
    obtain ⟨i, rfl, h1, h2⟩ := mem_rngL hd
    refine ⟨_, [some (.fro (.int 0)), some (.fro (.int 6)), some (.fro (.int i))], rfl, ?_, rfl⟩
    simp [cStr_pip (n := i) ⟨h1, by omega⟩]
  have e : (rngL 0 7).map (fun d => match d with | .int n => D.str (S [cp n]) | d => d) = digs.map fun c => D.str (S [c]) := rfl
  rw [e] at c1
  have l7 : (rngL 0 7).length = 7 := rfl
  unfold F_halves_from g_halves_from
  simp [fnS_eq, c1, l7, -List.map_cons]
end F.L
set_option Elab.async false
set_option linter.all false
set_option maxRecDepth 100000
set_option maxHeartbeats 4000000
/-! plain law of k50: reading a line (own work) -/
namespace F.L
open PySem L2 F

/-- what may stand behind the half i -/
def TxR : Int → List Nat → List Int → Prop
  | _, [], [] => True
  | i, x :: m, j :: r => (x = cp j ∨ (x = 61 ∧ i = j)) ∧ TxR j m r
  | _, _, _ => False
theorem TxR_len : ∀ {i : Int} {m : List Nat} {r : List Int}, TxR i m r → m.length = r.length
  | _, [], [], _ => rfl
  | _, _ :: _, _ :: _, h => by rw [List.length_cons, List.length_cons, TxR_len h.2]
  | _, [], _ :: _, h => h.elim
  | _, _ :: _, [], h => h.elim
theorem tilesP_pre : ∀ (xs ys : List Int), ∃ t, tilesP (xs ++ ys) = tilesP xs ++ t
  | [], ys => ⟨tilesP ys, rfl⟩
  | [a], ys => ⟨tilesP (a :: ys), rfl⟩
  | a :: b :: r, ys => by
    obtain ⟨t, e⟩ := tilesP_pre (b :: r) ys
    refine ⟨t, ?_⟩
    show tilesP (a :: b :: (r ++ ys)) = _
    rw [tilesP, tilesP]
    show _ :: tilesP ((b :: r) ++ ys) = _
    rw [e]
    rfl
theorem LineOk.pre {xs ys : List Int} (h : LineOk (xs ++ ys)) (n : xs ≠ []) : LineOk xs := by
  obtain ⟨t, e⟩ := tilesP_pre xs ys
  refine ⟨n, ?_, fun x hx => h.pip x (List.mem_append_left _ hx), ?_⟩
  · have := h.few
    rw [List.length_append] at this
    omega
  · have := h.nd
    rw [e] at this
    exact (List.nodup_append.mp this).1
theorem cInt_dig {n : Int} (h : 0 ≤ n ∧ n ≤ 6) : cInt [.str (S [cp n])] = some (.fro (.int n)) := by
  have t : PySem.intText? (S [cp n]) = some n := by
    rcases pip_cases h with e | e | e | e | e | e | e <;> subst e <;> decide +kernel
  have e : cInt [.str (S [cp n])] = if decide ((S [cp n]).length ≤ 640) = true then (PySem.intText? (S [cp n])).map fun n => .fro (.int n) else none := rfl
  have k : decide ((S [cp n]).length ≤ 640) = true := rfl
  rw [e, if_pos k, t]
  rfl
theorem cp_lt {n : Int} (h : 0 ≤ n ∧ n ≤ 6) : cp n < 1000 := by
  unfold cp
  omega
theorem cp_dig {n : Int} (h : 0 ≤ n ∧ n ≤ 6) : cp n ∈ digs := by
  rcases pip_cases h with e | e | e | e | e | e | e <;> subst e <;> decide
/-- the halves that may come next -/
def goodP (ns : List Int) : List Int := [0, 1, 2, 3, 4, 5, 6].filter fun h => anyB (ns ++ [h])
theorem goodP_pip {ns : List Int} {n : Int} (h : n ∈ goodP ns) : 0 ≤ n ∧ n ≤ 6 := by
  have := (List.mem_filter.mp h).1
  simp at this
  omega
def signsP (ns : List Int) (last : Int) : List Nat := (goodP ns).map cp ++ (if last ∈ goodP ns then [61] else [])
theorem good_comp {ns : List Int} (hl : ns.length ≤ 13) (R : D) : sCompL (gN 4) (bV (sCall 1 F_fits_any (aCons (sFrz (sOp2 dAdd (sVar 1) (sTup (aCons (sFrz (sVar 4)) (aNil))))) (aNil)))) (sFrz (sVar 4)) [4] (rngL 0 7) [some (.own true R), some (.fro (lineD ns)), none, none, none] =
    .ok ((goodP ns).map D.int, [some (.own true R), some (.fro (lineD ns)), none, none, none]) := by
  have := compL (tg := gN 4) (c := bV (sCall 1 F_fits_any (aCons (sFrz (sOp2 dAdd (sVar 1) (sTup (aCons (sFrz (sVar 4)) (aNil))))) (aNil)))) (el := sFrz (sVar 4)) (vs := [4]) (τ := [some (.own true R), some (.fro (lineD ns)), none, none, none]) (p := fun d => match d with | .int h => anyB (ns ++ [h]) | _ => false) (g := id) (rngL 0 7) fun d hd => by
    obtain ⟨i, rfl, h1, h2⟩ := mem_rngL hd
    refine ⟨_, [some (.own true R), some (.fro (lineD ns)), none, none, some (.fro (.int i))], rfl, ?_, fun _ => rfl, fun _ => ⟨[some (.own true R), some (.fro (lineD ns)), none, none, some (.fro (.int i))], ?_, rfl⟩⟩
    · have a : dAdd (lineD ns) (.tup [.int i]) = some (.fro (lineD (ns ++ [i]))) := by
        rw [show (D.tup [D.int i]) = .tup ([i].map D.int) from rfl, dAdd_tup (by simp; omega), ← List.map_append]
      have f := fits_any_ok (ns ++ [i]) (by rw [List.length_append, List.length_singleton]; omega)
      simp [a, callT, f]
    · simp
  rw [this]
  congr 2
  rw [rng07]
  unfold goodP
  rw [List.map_id, show [D.int 0, .int 1, .int 2, .int 3, .int 4, .int 5, .int 6] = ([0, 1, 2, 3, 4, 5, 6] : List Int).map D.int from rfl, List.filter_map]
  rfl
theorem lineD_app (ns : List Int) (n : Int) (hl : ns.length ≤ 100) : dAdd (lineD ns) (.tup [.int n]) = some (.fro (lineD (ns ++ [n]))) := by
  rw [show (D.tup [D.int n]) = .tup ([n].map D.int) from rfl, dAdd_tup (by simp; omega), ← List.map_append]
theorem last_at (ns : List Int) (n : Int) : atI ((ns ++ [n]).map D.int) (-1) = some (.int n) := by
  rw [List.map_append]
  exact atI_last
theorem dIn_good (ns : List Int) (n : Int) : dIn (.int n) (.lst ((goodP ns).map D.int)) = some (.fro (.bl (decide (n ∈ goodP ns)))) := by
  have ok : inOk (.int n) ((goodP ns).map D.int) = true := by
    unfold inOk
    rw [okd_int, okd_ints dd, nos_int, noss_ints]
    rfl
  rw [dIn_ok ok]
  congr 3
  unfold inAny
  rw [List.any_map]
  by_cases h : n ∈ goodP ns
  · rw [decide_eq_true h]
    exact List.any_eq_true.mpr ⟨n, h, by show D.eqv (.int n) (.int n) = true; rw [eqv_int]; exact beq_self_eq_true n⟩
  · rw [decide_eq_false h]
    refine Bool.eq_false_iff.mpr fun z => ?_
    obtain ⟨m, hm, e⟩ := List.any_eq_true.mp z
    have e' : D.eqv (.int m) (.int n) = true := e
    rw [eqv_int] at e'
    rw [beq_iff_eq.mp e'] at hm
    exact h hm
abbrev condL : T → R (Bool × T) := bV (sOp2 dNe (sMeth "Reading" "here" 1 F_Reading_here (sVar 0) (aNil)) (sC (.str "")))
abbrev bodyL : FS := sSeq (sSet 2 (sComp (iRng1 (aCons (sOp2 dAdd (sC (.int 6)) (sC (.int 1))) (aNil))) (gN 4) (bV (sCall 1 F_fits_any (aCons (sFrz (sOp2 dAdd (sVar 1) (sTup (aCons (sFrz (sVar 4)) (aNil))))) (aNil)))) (sFrz (sVar 4)) [4])) (sSeq (sSet 3 (sMeth "Reading" "one_of" 2 F_Reading_one_of (sVar 0) (aCons (sFrz (sOp2 dAdd (sComp (iSeq (sVar 2)) (gN 4) (bYes) (sCB cStr (aCons (sVar 4) (aNil))) [4]) (sIf (bV (sOp2 dIn (sOp2 dIx (sVar 1) (sOp1 dNeg (sC (.int 1)))) (sVar 2))) (sLst (aCons (sC (.str "=")) (aNil))) (sLst (aNil))))) (aNil)))) (sSet 1 (sOp2 dAdd (sVar 1) (sTup (aCons (sIf (bV (sOp2 dEq (sVar 3) (sC (.str "=")))) (sOp2 dIx (sVar 1) (sOp1 dNeg (sC (.int 1)))) (sCB cInt (aCons (sVar 3) (aNil)))) (aNil))))))
theorem body_step {ds : List Int} {last n : Int} {l : List Nat} {k c : Nat} (hl : l.length ≤ 1000) (hk : l[k]? = some c) (hc : c = cp n ∨ (c = 61 ∧ last = n)) (h : LineOk (ds ++ [last] ++ [n])) :
    ∃ τ2, bodyL [some (.own true (rdD (S l) (k : Int))), some (.fro (lineD (ds ++ [last]))), none, none, none] = .ok (.nx τ2) ∧ kill [2, 3, 4] τ2 = [some (.own true (rdD (S l) ((k : Int) + 1))), some (.fro (lineD (ds ++ [last] ++ [n]))), none, none, none] := by
  have hf := h.few
  rw [List.length_append, List.length_singleton] at hf
  obtain ⟨R, hR⟩ : ∃ R, R = rdD (S l) (k : Int) := ⟨_, rfl⟩
  obtain ⟨ns, hns⟩ : ∃ ns, ns = ds ++ [last] := ⟨_, rfl⟩
  rw [← hns] at h hf
  have pn : 0 ≤ n ∧ n ≤ 6 := h.pip n (by simp)
  have mem : n ∈ goodP ns := by
    refine List.mem_filter.mpr ⟨?_, anyB_ok h⟩
    rcases pip_cases pn with e | e | e | e | e | e | e <;> subst e <;> decide
  have g := good_comp (ns := ns) (by omega) R
  have c2 : sCompL (gN 4) bYes (sCB cStr (aCons (sVar 4) (aNil))) [4] ((goodP ns).map D.int) [some (.own true R), some (.fro (lineD ns)), some (.fro (.lst ((goodP ns).map D.int))), none, none] = .ok (((goodP ns).map cp).map (fun c => D.str (S [c])), [some (.own true R), some (.fro (lineD ns)), some (.fro (.lst ((goodP ns).map D.int))), none, none]) := by
    rw [compL1 (g := fun d => match d with | .int n => D.str (S [cp n]) | d => d) _ fun d hd => ?_]
    · rw [List.map_map, List.map_map]
      rfl
    · obtain ⟨m, hm, rfl⟩ := List.mem_map.mp hd
      refine ⟨_, [some (.own true R), some (.fro (lineD ns)), some (.fro (.lst ((goodP ns).map D.int))), none, some (.fro (.int m))], rfl, ?_, rfl⟩
      simp [cStr_pip (goodP_pip hm)]
  have gl : (goodP ns).length ≤ 7 := List.length_filter_le _ _
  have la : atI ((ns).map D.int) (-1) = some (.int last) := by
    rw [hns]
    exact last_at ds last
  have sg : ∀ c ∈ signsP ns last, c < 1000 := fun c hc => by
    unfold signsP at hc
    rcases List.mem_append.mp hc with hc | hc
    · obtain ⟨m, hm, rfl⟩ := List.mem_map.mp hc
      exact cp_lt (goodP_pip hm)
    · split at hc
      · rw [List.mem_singleton.mp hc]
        omega
      · cases hc
  have ms : c ∈ signsP ns last := by
    unfold signsP
    rcases hc with hc | ⟨hc, e⟩
    · exact List.mem_append_left _ (List.mem_map.mpr ⟨n, mem, hc.symm⟩)
    · rw [e, if_pos mem, hc]
      exact List.mem_append_right _ (by simp)
  have oo := one_of_ok (signs := signsP ns last) hl hk ms sg
  have sgD : ∀ (b : List Nat), dAdd (.lst (((goodP ns).map cp).map (fun c => D.str (S [c])))) (.lst (b.map fun c => D.str (S [c]))) = if b.length ≤ 1 then some (.tmp (.lst (((goodP ns).map cp ++ b).map fun c => D.str (S [c])))) else dAdd (.lst (((goodP ns).map cp).map (fun c => D.str (S [c])))) (.lst (b.map fun c => D.str (S [c]))) := fun b => by
    split
    · rw [dAdd_lst (by simp; omega), ← List.map_append]
    · rfl
  have s0 := sgD []
  have s1 := sgD [61]
  simp only [List.length_nil, List.length_singleton, Nat.zero_le, Nat.le_refl, if_true, List.map_nil, List.map_cons, List.append_nil] at s0 s1
  rw [← S_eq] at s1
  have inn := dIn_good ns last
  have nl : (goodP ns).length ≤ 16777216 := by omega
  have add := lineD_app ns n (by omega)
  rw [← hR] at oo ⊢
  rw [← hns]
  have hi : isIns "Reading" "one_of" R = true := by
    rw [hR]
    exact ins_one _ _
  have hm : D.mu R = true := by
    rw [hR]
    rfl
  have neq : c = cp n → (S [c] == ("=" : Str)) = false := fun e => by
    rw [S_eq]
    refine beq_false_of_ne fun z => ?_
    have := S_inj z
    rw [e] at this
    have q : cp n = 61 := List.head_eq_of_cons_eq this
    unfold cp at q
    omega
  have yeq : c = 61 → (S [c] == ("=" : Str)) = true := fun e => by
    rw [e, S_eq]
    exact beq_self_eq_true _
  refine ⟨[some (.own true (rdD (S l) ((k : Int) + 1))), some (.fro (lineD (ns ++ [n]))), some (.fro (.lst ((goodP ns).map D.int))), some (.fro (.str (S [c]))), none], ?_, rfl⟩
  have l7 : (rngL 0 7).length = 7 := rfl
  by_cases hg : last ∈ goodP ns
  · have sp : signsP ns last = (goodP ns).map cp ++ [61] := by
      unfold signsP
      rw [if_pos hg]
    rw [sp] at oo
    rw [decide_eq_true hg] at inn
    rcases hc with hc | ⟨hc, e⟩
    · have ci := cInt_dig pn
      rw [← hc] at ci
      have q := neq hc
      simp [callT, l7, g, c2, la, inn, s1, oo, hi, hm, q, ci, add, nl, -List.map_map, -List.map_append]
    · have q := yeq hc
      subst e
      simp [callT, l7, g, c2, la, inn, s1, oo, hi, hm, q, add, nl, -List.map_map, -List.map_append]
  · have sp : signsP ns last = (goodP ns).map cp := by
      unfold signsP
      rw [if_neg hg, List.append_nil]
    rw [sp] at oo
    rw [decide_eq_false hg] at inn
    rcases hc with hc | ⟨hc, e⟩
    · have ci := cInt_dig pn
      rw [← hc] at ci
      have q := neq hc
      simp [callT, l7, g, c2, la, inn, s0, oo, hi, hm, q, ci, add, nl, -List.map_map, -List.map_append]
    · exact absurd (by rw [e]; exact mem) hg
end F.L
set_option Elab.async false
set_option linter.all false
set_option maxRecDepth 100000
set_option maxHeartbeats 4000000
/-! plain law of k50: a line read back (own work) -/
namespace F.L
open PySem L2 F

theorem cond_yes {l : List Nat} {k c : Nat} {x : Option Sl} (hl : l.length ≤ 1000) (hk : l[k]? = some c) : condL [some (.own true (rdD (S l) (k : Int))), x, none, none, none] = .ok (true, [some (.own true (rdD (S l) (k : Int))), x, none, none, none]) := by
  have e1 : (l.drop k).take 1 = [c] := by
    obtain ⟨h, e⟩ := List.getElem?_eq_some_iff.mp hk
    rw [List.drop_eq_getElem_cons h, e]
    rfl
  have e2 := here_ok l k hl
  rw [e1] at e2
  have e3 : (S [c] == ("" : Str)) = false := by
    rw [S_nil]
    refine beq_false_of_ne fun z => ?_
    cases S_inj z
  simp [callT, ins_here, e2, e3]
theorem cond_no {l : List Nat} {x : Option Sl} (hl : l.length ≤ 1000) : condL [some (.own true (rdD (S l) (l.length : Int))), x, none, none, none] = .ok (false, [some (.own true (rdD (S l) (l.length : Int))), x, none, none, none]) := by
  have e1 : (l.drop l.length).take 1 = [] := by
    rw [List.drop_length]
    rfl
  have e2 := here_ok l l.length hl
  rw [e1, ← S_nil] at e2
  simp [callT, ins_here, e2]
theorem loop_ok : ∀ (rest : List Int) (m : List Nat) (ds : List Int) (last : Int) (td : List Nat) (fuel : Nat), TxR last m rest → LineOk (ds ++ [last] ++ rest) → rest.length < fuel → (td ++ m).length ≤ 1000 →
    sWhileN condL bodyL [2, 3, 4] fuel [some (.own true (rdD (S (td ++ m)) (td.length : Int))), some (.fro (lineD (ds ++ [last]))), none, none, none] = .ok (.nx [some (.own true (rdD (S (td ++ m)) ((td ++ m).length : Int))), some (.fro (lineD (ds ++ [last] ++ rest))), none, none, none])
  | [], [], ds, last, td, fuel + 1, _, _, _, hl => by
    have c := cond_no (l := td ++ []) (x := some (.fro (lineD (ds ++ [last])))) hl
    have e : ((td ++ []).length : Int) = (td.length : Int) := by rw [List.append_nil]
    rw [e] at c
    show (condL _).bind _ = _
    rw [c, bind_ok, if_neg Bool.false_ne_true, e, List.append_nil, List.append_nil]
  | n :: rest, x :: m, ds, last, td, fuel + 1, ht, h, hf, hl => by
    have hk : (td ++ x :: m)[td.length]? = some x := by
      rw [List.getElem?_append_right (Nat.le_refl _), Nat.sub_self]
      rfl
    have c := cond_yes (x := some (.fro (lineD (ds ++ [last])))) hl hk
    have hp : LineOk (ds ++ [last] ++ [n]) := LineOk.pre (ys := rest) (by rw [List.append_assoc]; exact h) (by simp)
    obtain ⟨τ2, b1, b2⟩ := body_step hl hk ht.1 hp
    have ih := loop_ok rest m (ds ++ [last]) n (td ++ [x]) fuel ht.2 (by rw [List.append_assoc]; exact h) (by rw [List.length_cons] at hf; omega) (by rw [List.append_assoc]; exact hl)
    have e1 : td ++ [x] ++ m = td ++ x :: m := by rw [List.append_assoc]; rfl
    have e2 : (((td ++ [x]).length : Nat) : Int) = (td.length : Int) + 1 := by
      rw [List.length_append, List.length_singleton]
      omega
    rw [e1, e2] at ih
    show (condL _).bind _ = _
    rw [c, bind_ok, if_pos rfl]
    show (bodyL _).bind _ = _
    rw [b1, bind_ok]
    show sWhileN condL bodyL [2, 3, 4] fuel (kill [2, 3, 4] τ2) = _
    rw [b2, ih]
    congr 5
    rw [List.append_assoc (ds ++ [last]) [n] rest]
    rfl
  | [], _ :: _, _, _, _, _, ht, _, _, _ => ht.elim
  | _ :: _, [], _, _, _, _, ht, _, _, _ => ht.elim
  | [], [], _, _, _, 0, _, _, hf, _ => by simp at hf
  | _ :: _, _ :: _, _, _, _, 0, _, _, hf, _ => by simp at hf
theorem line_ok {n : Int} {rest : List Int} {m : List Nat} (ht : TxR n m rest) (h : LineOk (n :: rest)) : F_Reading_line [.own true (rdD (S (cp n :: m)) 0)] = .ok (.fro (lineD (n :: rest)), [.own true (rdD (S (cp n :: m)) ((cp n :: m).length : Int))]) := by
  have hf := h.few
  have lm := TxR_len ht
  rw [List.length_cons] at hf
  have hl : (cp n :: m).length ≤ 1000 := by
    rw [List.length_cons]
    omega
  have pn : 0 ≤ n ∧ n ≤ 6 := h.pip n (by simp)
  have oo := one_of_ok (l := cp n :: m) (k := 0) (c := cp n) (signs := digs) hl rfl (cp_dig pn) (by decide)
  have lp := loop_ok rest m [] n [cp n] 1000 ht h (by omega) hl
  have e1 : ((0 : Nat) : Int) = 0 := rfl
  have e2 : (([cp n] : List Nat).length : Int) = 1 := rfl
  have e3 : [cp n] ++ m = cp n :: m := rfl
  rw [e1] at oo
  rw [e2, e3] at lp
  simp only [List.nil_append, Int.zero_add] at lp oo
  have ci := cInt_dig pn
  have sk : kill [2, 3, 4] [some (Sl.own true (rdD (S (cp n :: m)) 1)), some (.fro (lineD [n])), none, none, none] = [some (Sl.own true (rdD (S (cp n :: m)) 1)), some (.fro (lineD [n])), none, none, none] := rfl
  unfold F_Reading_line g_Reading_line
  rw [fnS_eq]
  simp only [e_Seq]
  have first : (sSet 1 (sTup (aCons (sCB cInt (aCons (sMeth "Reading" "one_of" 2 F_Reading_one_of (sVar 0) (aCons (sFrz (sCall 2 F_halves_from (aCons (sC (.int 0)) (aCons (sC (.int 6)) (aNil))))) (aNil))) (aNil))) (aNil)))) (ft [Sl.own true (rdD (S (cp n :: m)) 0)] ++ List.replicate (5 - [Sl.own true (rdD (S (cp n :: m)) 0)].length) none) = .ok (.nx [some (.own true (rdD (S (cp n :: m)) 1)), some (.fro (lineD [n])), none, none, none]) := by
    simp [callT, ins_one, halves_ok, oo, ci]
  rw [first, bind_ok, thenS_nx, e_Seq]
  show ((sWhileN condL bodyL [2, 3, 4] 1000 (kill [2, 3, 4] _)).bind _).bind _ = _
  rw [sk, lp, bind_ok]
  simp
theorem need_text_ok (x : Str) (h : x.length ≤ 1000) : F_need_text [.fro (.str x)] = .ok (.fro .non, [.fro (.str x)]) := by
  have e : cLen [.str x] = some (.fro (.int x.length)) := if_pos (decide_eq_true (by omega))
  have i : ¬ ((20000 : Int) < (x.length : Int)) := by omega
  unfold F_need_text g_need_text
  simp [fnS_eq, e, i]
theorem read_ok {n : Int} {rest : List Int} {m : List Nat} (ht : TxR n m rest) (h : LineOk (n :: rest)) : F_read_line [.fro (.str (S (cp n :: m)))] = .ok (.fro (lineD (n :: rest)), [.fro (.str (S (cp n :: m)))]) := by
  have hf := h.few
  have lm := TxR_len ht
  rw [List.length_cons] at hf
  have nt := need_text_ok (S (cp n :: m)) (by rw [S_len, List.length_cons]; omega)
  have lo := line_ok ht h
  obtain ⟨x, hx⟩ : ∃ x, x = S (cp n :: m) := ⟨_, rfl⟩
  rw [← hx] at nt lo ⊢
  have io := init_ok x
  unfold F_read_line g_read_line
  simp [fnS_eq, callT, nt, io, ins_line, lo]
theorem told_ok {n : Int} {rest : List Int} {m : List Nat} (ht : TxR n m rest) (h : LineOk (n :: rest)) : F_tiles_told [.fro (.str (S (cp n :: m)))] = .ok (.fro (.tup ((usedP (n :: rest)).map tileD)), [.fro (.str (S (cp n :: m)))]) := by
  have hf := h.few
  have lm := TxR_len ht
  rw [List.length_cons] at hf
  have nt := need_text_ok (S (cp n :: m)) (by rw [S_len, List.length_cons]; omega)
  have lo := line_ok ht h
  obtain ⟨x, hx⟩ : ∃ x, x = S (cp n :: m) := ⟨_, rfl⟩
  obtain ⟨ns, hns⟩ : ∃ ns, ns = n :: rest := ⟨_, rfl⟩
  rw [← hx] at nt lo ⊢
  rw [← hns] at lo h ⊢
  have io := init_ok x
  have c2 : sCompL (gTup (gCons (gN 2) (gCons (gN 3) (gNil)))) bYes (sFrz (sCall 2 F_tile_of (aCons (sFrz (sVar 2)) (aCons (sFrz (sVar 3)) (aNil))))) [2, 3] (zipL (ns.map D.int) (ns.map D.int).tail) [some (.fro (.str x)), some (.fro (lineD ns)), none, none] = .ok ((tilesP ns).map tileD, [some (.fro (.str x)), some (.fro (lineD ns)), none, none]) := by
    rw [zip_pairs, tilesP_zip]
    have := compL1 (tg := gTup (gCons (gN 2) (gCons (gN 3) (gNil)))) (el := sFrz (sCall 2 F_tile_of (aCons (sFrz (sVar 2)) (aCons (sFrz (sVar 3)) (aNil))))) (vs := [2, 3]) (τ := [some (.fro (.str x)), some (.fro (lineD ns)), none, none]) (g := fun d => match d with | .tup [.int i, .int j] => tileD (tileP i j) | d => d) ((List.zip ns ns.tail).map fun p => D.tup [.int p.1, .int p.2]) fun d hd => by
      obtain ⟨p, hp, rfl⟩ := List.mem_map.mp hd
      refine ⟨_, [some (.fro (.str x)), some (.fro (lineD ns)), some (.fro (.int p.1)), some (.fro (.int p.2))], rfl, ?_, rfl⟩
      simp [callT, tile_of_ok]
    rw [this, List.map_map, List.map_map]
    rfl
  have zl : (zipL (ns.map D.int) (ns.map D.int).tail).length ≤ 16777216 := by
    unfold zipL
    rw [List.length_zipWith, List.length_map, hns, List.length_cons]
    omega
  have so : sortOk ((tilesP ns).map tileD) = true := by
    have ok := tilesP_ok h.pip
    unfold sortOk ordOk
    have a1 : ((tilesP ns).map tileD).all (fun x => D.okd dd x && (match x with | .non => false | _ => true)) = true := List.all_eq_true.mpr fun d hd => by
      obtain ⟨t, _, rfl⟩ := List.mem_map.mp hd
      show (D.okd dd (tileD t) && true) = true
      rw [show D.okd dd (tileD t) = true from okd_tile t]
      rfl
    have a2 : (((tilesP ns).map tileD).all fun x => ((tilesP ns).map tileD).all fun y => D.alk x y) = true := List.all_eq_true.mpr fun d hd => List.all_eq_true.mpr fun e he => by
      obtain ⟨t, ht, rfl⟩ := List.mem_map.mp hd
      obtain ⟨u, hu, rfl⟩ := List.mem_map.mp he
      exact alk_tile (ok t ht) (ok u hu)
    have a3 : ((tilesP ns).map tileD).all (fun x => match x with | .tup (_ :: _) => true | _ => false) = true := List.all_eq_true.mpr fun d hd => by
      obtain ⟨t, ht, rfl⟩ := List.mem_map.mp hd
      obtain ⟨a, b, rfl, _⟩ := ok t ht
      rfl
    exact (Bool.and_eq_true _ _).mpr ⟨(Bool.and_eq_true _ _).mpr ⟨a1, a2⟩, (Bool.or_eq_true _ _).mpr (.inl a3)⟩
  have cs : cSorted [.lst ((tilesP ns).map tileD)] = some (.tmp (.lst ((usedP ns).map tileD))) := by
    have e : cSorted [.lst ((tilesP ns).map tileD)] = if sortOk ((tilesP ns).map tileD) = true then some (.tmp (.lst (D.sort ((tilesP ns).map tileD)))) else none := rfl
    rw [e, if_pos so, used_sort]
  unfold F_tiles_told g_tiles_told
  simp [fnS_eq, callT, nt, io, ins_line, lo, cut_tail, -List.map_tail, zl, c2, cs, -List.map_map]
end F.L
set_option Elab.async false
set_option linter.all false
set_option maxRecDepth 100000
set_option maxHeartbeats 4000000
/-! plain law of k50: the drawn line (own work) -/
namespace F.L
open PySem L2 F

theorem tilesP_snoc : ∀ (ds : List Int) (last h : Int), tilesP (ds ++ [last] ++ [h]) = tilesP (ds ++ [last]) ++ [tileP last h]
  | [], last, h => rfl
  | [a], last, h => rfl
  | a :: b :: r, last, h => by
    have ih := tilesP_snoc (b :: r) last h
    show tileP a b :: tilesP ((b :: r) ++ [last] ++ [h]) = (tileP a b :: tilesP ((b :: r) ++ [last])) ++ [tileP last h]
    rw [ih]
    rfl
theorem dNotIn_tile (t : List Int) (us : List (List Int)) : dNotIn (tileD t) (.lst (us.map tileD)) = some (.fro (.bl (!decide (t ∈ us)))) := by
  have ok : inOk (tileD t) (us.map tileD) = true := by
    unfold inOk
    rw [show D.okd dd (tileD t) = true from okd_tile t, nos_tile, noss_of fun d hd => by
      obtain ⟨u, _, rfl⟩ := List.mem_map.mp hd
      exact nos_tile u]
    have : (us.map tileD).all (fun y => D.okd dd y) = true := List.all_eq_true.mpr fun d hd => by
      obtain ⟨u, _, rfl⟩ := List.mem_map.mp hd
      exact okd_tile u
    rw [this]
    rfl
  rw [dNotIn_ok ok]
  congr 4
  unfold inAny
  rw [List.any_map]
  by_cases h : t ∈ us
  · rw [decide_eq_true h]
    exact List.any_eq_true.mpr ⟨t, h, by show D.eqv (tileD t) (tileD t) = true; rw [eqv_tile]; exact decide_eq_true rfl⟩
  · rw [decide_eq_false h]
    refine Bool.eq_false_iff.mpr fun z => ?_
    obtain ⟨m, hm, e⟩ := List.any_eq_true.mp z
    have e' : D.eqv (tileD m) (tileD t) = true := e
    rw [eqv_tile] at e'
    rw [of_decide_eq_true e'] at hm
    exact h hm
abbrev bodyD : FS := (sSeq (sSet 5 (sCall 2 F__law_some (aCons (sVar 0) (aCons (sFrz (sLst (aCons (sOp2 dIx (sVar 2) (sOp1 dNeg (sC (.int 1)))) (aCons (sFrz (sCall 2 F__law_roll (aCons (sVar 0) (aCons (sC (.int 7)) (aNil))))) (aCons (sFrz (sCall 2 F__law_roll (aCons (sVar 0) (aCons (sC (.int 3)) (aNil))))) (aNil)))))) (aNil))))) (sSeq (sSet 6 (sTup (aCons (sCB cMin (aCons (sOp2 dIx (sVar 2) (sOp1 dNeg (sC (.int 1)))) (aCons (sVar 5) (aNil)))) (aCons (sCB cMax (aCons (sOp2 dIx (sVar 2) (sOp1 dNeg (sC (.int 1)))) (aCons (sVar 5) (aNil)))) (aNil))))) (sIfS (bV (sOp2 dNotIn (sVar 6) (sVar 3))) (sSeq (sDrop (sMw wAppend (sVar 3) (aCons (sFrz (sVar 6)) (aNil)))) (sSet 2 (sOp2 dAdd (sVar 2) (sTup (aCons (sFrz (sVar 5)) (aNil)))))) (sSkip))))
/-- the state between two steps -/
def StD (k : Nat) (τ : T) : Prop := ∃ (a b : Int) (ds : List Int) (last : Int), CupOk a b ∧ (ds ++ [last]).length ≤ k + 1 ∧ pips (ds ++ [last]) ∧ (tilesP (ds ++ [last])).Nodup ∧
  τ = [some (.own true (cupD a b)), none, some (.fro (lineD (ds ++ [last]))), some (.own false (.lst ((tilesP (ds ++ [last])).map tileD))), none, none, none]
def mwU (op : List D → List D → Option (List D × D)) (q : List Hd × T) (j : Nat) : Option (Option Sl) → R (Hd × T)
  | some (some (.own b (.lst d))) => (ofO (allFro q.1)).bind fun ds => (ofO (op d ds)).bind fun r => .ok (.fro r.2, q.2.set j (some (.own b (.lst r.1))))
  | _ => .stuck
def mwT (op : List D → List D → Option (List D × D)) (fs : FA) : Hd × T → R (Hd × T)
  | (.slot j, τ) => (chk (match τ[j]? with
      | some (some (.own _ (.lst _))) => true
      | _ => false)).bind fun _ => (fs τ).bind fun q => mwU op q j q.2[j]?
  | _ => .stuck
theorem e_Mw {op : List D → List D → Option (List D × D)} {f : FE} {fs : FA} {τ : T} : sMw op f fs τ = (f τ).bind (mwT op fs) := by
  unfold sMw
  congr 1
  funext p
  obtain ⟨h, τ'⟩ := p
  cases h with
  | slot j =>
    show _ = (chk _).bind _
    congr 1
  | _ => rfl
theorem step_ok {k : Nat} {τ : T} {x : D} (hk : k < 12) (s : StD k τ) : ∃ τ1 τ2, gN 4 x τ = .ok τ1 ∧ bodyD τ1 = .ok (.nx τ2) ∧ StD (k + 1) (kill [1, 4, 5, 6] τ2) := by
  obtain ⟨a, b, ds, last, c, hl, pp, nd, rfl⟩ := s
  obtain ⟨r1, a1, b1, e1, c1, p1, q1⟩ := roll_ok (m := 7) c (by omega) (by omega)
  obtain ⟨r2, a2, b2, e2, c2, p2, q2⟩ := roll_ok (m := 3) c1 (by omega) (by omega)
  obtain ⟨_, h, a3, b3, e3, c3, _, hm⟩ := some_ok (ds := [.int last, .int r1, .int r2]) c2 (by simp) (by simp)
  have pl : 0 ≤ last ∧ last ≤ 6 := pp last (by simp)
  obtain ⟨n, rfl, pn⟩ : ∃ n : Int, h = .int n ∧ 0 ≤ n ∧ n ≤ 6 := by
    rcases List.mem_cons.mp hm with e | hm
    · exact ⟨last, e, pl⟩
    · rcases List.mem_cons.mp hm with e | hm
      · exact ⟨r1, e, p1, by omega⟩
      · rw [List.mem_singleton] at hm
        exact ⟨r2, hm, p2, by omega⟩
  have la : atI ((ds ++ [last]).map D.int) (-1) = some (.int last) := last_at ds last
  have ni := dNotIn_tile (tileP last n) (tilesP (ds ++ [last]))
  have td : D.tup [.int (if n < last then n else last), .int (if n > last then n else last)] = tileD (tileP last n) := rfl
  have add := lineD_app (ds ++ [last]) n (by omega)
  have tl := tilesP_len (ds ++ [last])
  refine ⟨_, ?_, rfl, ?_, ?_⟩
  · exact if tileP last n ∈ tilesP (ds ++ [last]) then [some (.own true (cupD a3 b3)), none, some (.fro (lineD (ds ++ [last]))), some (.own false (.lst ((tilesP (ds ++ [last])).map tileD))), some (.fro x), some (.fro (.int n)), some (.fro (tileD (tileP last n)))]
      else [some (.own true (cupD a3 b3)), none, some (.fro (lineD (ds ++ [last] ++ [n]))), some (.own false (.lst ((tilesP (ds ++ [last])).map tileD ++ [tileD (tileP last n)]))), some (.fro x), some (.fro (.int n)), some (.fro (tileD (tileP last n)))]
  · by_cases hin : tileP last n ∈ tilesP (ds ++ [last])
    · rw [if_pos hin]
      rw [decide_eq_true hin] at ni
      simp [callT, la, e1, e2, e3, td, ni, -List.map_append]
    · rw [if_neg hin]
      rw [decide_eq_false hin] at ni
      have wa : wAppend ((tilesP (ds ++ [last])).map tileD) [tileD (tileP last n)] = some ((tilesP (ds ++ [last])).map tileD ++ [tileD (tileP last n)], .non) := if_pos (decide_eq_true (by rw [List.length_map, tl]; omega))
      simp [callT, la, e1, e2, e3, td, ni, e_Mw, mwT, mwU, wa, add, -List.map_append]
  · by_cases hin : tileP last n ∈ tilesP (ds ++ [last])
    · rw [if_pos hin]
      exact ⟨a3, b3, ds, last, c3, by omega, pp, nd, rfl⟩
    · rw [if_neg hin]
      refine ⟨a3, b3, ds ++ [last], n, c3, by rw [List.length_append, List.length_singleton]; omega, fun y hy => ?_, ?_, ?_⟩
      · rcases List.mem_append.mp hy with hy | hy
        · exact pp y hy
        · rw [List.mem_singleton.mp hy]
          exact pn
      · rw [tilesP_snoc]
        refine List.nodup_append.mpr ⟨nd, by simp, fun x hx y hy => ?_⟩
        rw [List.mem_singleton.mp hy]
        exact fun z => hin (z ▸ hx)
      · rw [tilesP_snoc, List.map_append (f := tileD)]
        rfl
end F.L
set_option Elab.async false
set_option linter.all false
set_option maxRecDepth 100000
set_option maxHeartbeats 4000000
/-! plain law of k50: the drawn line, all its texts (own work) -/
namespace F.L
open PySem L2 F

theorem sorted_tiles {ns : List Int} (p : pips ns) : cSorted [.lst ((tilesP ns).map tileD)] = some (.tmp (.lst ((usedP ns).map tileD))) := by
  have ok := tilesP_ok p
  have so : sortOk ((tilesP ns).map tileD) = true := by
    unfold sortOk ordOk
    have a1 : ((tilesP ns).map tileD).all (fun x => D.okd dd x && (match x with | .non => false | _ => true)) = true := List.all_eq_true.mpr fun d hd => by
      obtain ⟨t, _, rfl⟩ := List.mem_map.mp hd
      show (D.okd dd (tileD t) && true) = true
      rw [show D.okd dd (tileD t) = true from okd_tile t]
      rfl
    have a2 : (((tilesP ns).map tileD).all fun x => ((tilesP ns).map tileD).all fun y => D.alk x y) = true := List.all_eq_true.mpr fun d hd => List.all_eq_true.mpr fun e he => by
      obtain ⟨t, ht, rfl⟩ := List.mem_map.mp hd
      obtain ⟨u, hu, rfl⟩ := List.mem_map.mp he
      exact alk_tile (ok t ht) (ok u hu)
    have a3 : ((tilesP ns).map tileD).all (fun x => match x with | .tup (_ :: _) => true | _ => false) = true := List.all_eq_true.mpr fun d hd => by
      obtain ⟨t, ht, rfl⟩ := List.mem_map.mp hd
      obtain ⟨a, b, rfl, _⟩ := ok t ht
      rfl
    exact (Bool.and_eq_true _ _).mpr ⟨(Bool.and_eq_true _ _).mpr ⟨a1, a2⟩, (Bool.or_eq_true _ _).mpr (.inl a3)⟩
  have e : cSorted [.lst ((tilesP ns).map tileD)] = if sortOk ((tilesP ns).map tileD) = true then some (.tmp (.lst (D.sort ((tilesP ns).map tileD)))) else none := rfl
  rw [e, if_pos so, used_sort]
theorem drawn_ok {a b : Int} (c : CupOk a b) : ∃ (a' b' : Int) (ns : List Int), F__law_line [.own true (cupD a b), .fro (.int 13)] = .ok (.fro (.tup [lineD ns, .tup ((usedP ns).map tileD)]), [.own true (cupD a' b'), .fro (.int 13)]) ∧ CupOk a' b' ∧ LineOk ns := by
  obtain ⟨r, a1, b1, e1, c1, p1, q1⟩ := roll_ok (m := 7) c (by omega) (by omega)
  obtain ⟨k, a2, b2, e2, c2, p2, q2⟩ := roll_ok (m := 13) c1 (by omega) (by omega)
  have l0 : (rngL 0 k.toNat).length = k.toNat := length_rngL 0 _
  obtain ⟨τ', f1, f2⟩ := for_all (tg := gN 4) (bd := bodyD) (ks := [1, 4, 5, 6]) (all := rngL 0 k.toNat) (I := fun pre τ => StD pre.length τ) (τ := [some (.own true (cupD a2 b2)), none, some (.fro (lineD [r])), some (.own false (.lst [])), none, none, none])
    ⟨a2, b2, [], r, c2, by simp, fun y hy => by rw [List.mem_singleton.mp hy]; omega, List.nodup_nil, rfl⟩ fun pre d post τ e s => by
      have hk : pre.length < 12 := by
        have := congrArg List.length e
        rw [l0, List.length_append, List.length_cons] at this
        omega
      obtain ⟨τ1, τ2, g1, g2, g3⟩ := step_ok (x := d) hk s
      exact ⟨τ1, τ2, g1, .inl g2, by rw [List.length_append, List.length_singleton]; exact g3⟩
  obtain ⟨a3, b3, ds, last, c3, hl, pp, nd, rfl⟩ := f2
  rw [l0] at hl
  have ok : LineOk (ds ++ [last]) := ⟨by simp, by omega, pp, nd⟩
  have st := sorted_tiles pp
  refine ⟨a3, b3, ds ++ [last], ?_, c3, ok⟩
  have i2 : k < 4611686018427387904 := by omega
  have i1 : -4611686018427387904 ≤ k := by omega
  unfold F__law_line g__law_line
  simp only [e_Seq, fnS_eq]
  have first : sPar [2, 3] (aCons (sTup (aCons (sFrz (sCall 2 F__law_roll (aCons (sVar 0) (aCons (sC (.int 7)) (aNil))))) (aNil))) (aCons (sLst (aNil)) (aNil))) (ft [Sl.own true (cupD a b), Sl.fro (.int 13)] ++ List.replicate (7 - [Sl.own true (cupD a b), Sl.fro (.int 13)].length) none) = .ok (.nx [some (.own true (cupD a1 b1)), some (.fro (.int 13)), some (.fro (lineD [r])), some (.own false (.lst [])), none, none, none]) := by
    simp [callT, e1]
  rw [first, bind_ok, thenS_nx]
  have second : iRng1 (aCons (sCall 2 F__law_roll (aCons (sVar 0) (aCons (sFrz (sVar 1)) (aNil)))) (aNil)) [some (.own true (cupD a1 b1)), some (.fro (.int 13)), some (.fro (lineD [r])), some (.own false (.lst [])), none, none, none] = .ok (rngL 0 k.toNat, [some (.own true (cupD a2 b2)), some (.fro (.int 13)), some (.fro (lineD [r])), some (.own false (.lst [])), none, none, none]) := by
    simp [callT, e2, i1, i2]
  rw [e_Seq, e_For, second, bind_ok]
  have third : kill [1, 4, 5, 6] [some (Sl.own true (cupD a2 b2)), some (.fro (.int 13)), some (.fro (lineD [r])), some (.own false (.lst [])), none, none, none] = [some (Sl.own true (cupD a2 b2)), none, some (.fro (lineD [r])), some (.own false (.lst [])), none, none, none] := rfl
  show ((sForL (gN 4) bodyD [1, 4, 5, 6] (rngL 0 k.toNat) (kill [1, 4, 5, 6] _)).bind _).bind _ = _
  rw [third, f1, bind_ok]
  simp [st, -List.map_append]
/-! ### all texts -/
abbrev strD (l : List Nat) : D := .str (S l)
def grow (e : List (List Nat)) (p : Int × Int) : List (List Nat) := e.map (fun l => l ++ [cp p.2]) ++ (if p.1 = p.2 then e.map (fun l => l ++ [61]) else [])
def evF (e : List (List Nat)) (ps : List (Int × Int)) : List (List Nat) := ps.foldl grow e
theorem grow_len (e : List (List Nat)) (p : Int × Int) : ((grow e p).length : Int) = (e.length : Int) * fac p := by
  unfold grow fac
  rw [List.length_append, List.length_map]
  split
  · rw [List.length_map]
    omega
  · rw [List.length_nil]
    omega
theorem evF_len : ∀ (ps : List (Int × Int)) (e : List (List Nat)) (v : Int), (e.length : Int) = v → ((evF e ps).length : Int) = ps.foldl (fun v p => v * fac p) v
  | [], e, v, h => h
  | p :: ps, e, v, h => evF_len ps (grow e p) (v * fac p) (by rw [grow_len, h])
theorem evF_mem : ∀ (r : List Int) (i : Int) (e : List (List Nat)) (l : List Nat), l ∈ evF e (List.zip (i :: r) r) → ∃ l0 ∈ e, ∃ m, l = l0 ++ m ∧ TxR i m r
  | [], i, e, l, h => ⟨l, h, [], by rw [List.append_nil], trivial⟩
  | j :: r, i, e, l, h => by
    have h' : l ∈ evF (grow e (i, j)) (List.zip (j :: r) r) := h
    obtain ⟨l1, hl1, m, rfl, hm⟩ := evF_mem r j (grow e (i, j)) l h'
    unfold grow at hl1
    rcases List.mem_append.mp hl1 with q | q
    · obtain ⟨l0, h0, rfl⟩ := List.mem_map.mp q
      exact ⟨l0, h0, cp j :: m, by rw [List.append_assoc]; rfl, .inl rfl, hm⟩
    · split at q
      · rename_i hij
        obtain ⟨l0, h0, rfl⟩ := List.mem_map.mp q
        exact ⟨l0, h0, 61 :: m, by rw [List.append_assoc]; rfl, .inr ⟨rfl, hij⟩, hm⟩
      · cases q
theorem evF_head : ∀ (r : List Int) (i : Int) (l : List Nat) (e : List (List Nat)), ∃ t, evF (l :: e) (List.zip (i :: r) r) = (l ++ r.map cp) :: t
  | [], i, l, e => ⟨e, by rw [List.map_nil, List.append_nil]; rfl⟩
  | j :: r, i, l, e => by
    obtain ⟨t, h⟩ := evF_head r j (l ++ [cp j]) (e.map (fun l => l ++ [cp j]) ++ (if i = j then (l :: e).map (fun l => l ++ [61]) else []))
    refine ⟨t, ?_⟩
    show evF (grow (l :: e) (i, j)) (List.zip (j :: r) r) = _
    have : grow (l :: e) (i, j) = (l ++ [cp j]) :: (e.map (fun l => l ++ [cp j]) ++ (if i = j then (l :: e).map (fun l => l ++ [61]) else [])) := rfl
    rw [this, h, List.append_assoc]
    rfl
theorem TxR_notlt : ∀ {i : Int} {m : List Nat} {r : List Int}, TxR i m r → pips r → ¬ m < r.map cp
  | _, [], [], _, _, h => by cases h
  | i, x :: m, j :: r, ⟨hx, ht⟩, p, h => by
    rw [List.map_cons, List.cons_lt_cons_iff] at h
    have pj := p j (by simp)
    rcases h with h | ⟨h1, h2⟩
    · rcases hx with e | ⟨e, _⟩
      · omega
      · unfold cp at h
        omega
    · exact TxR_notlt ht (fun y hy => p y (List.mem_cons_of_mem _ hy)) h2
  | _, [], _ :: _, h, _, _ => h.elim
  | _, _ :: _, [], h, _, _ => h.elim
theorem minL_first {d : D} : ∀ {ds : List D}, (∀ y ∈ ds, D.lt y d = false) → D.minL d ds = d
  | [], _ => rfl
  | y :: ds, h => by
    unfold D.minL
    rw [List.foldl_cons, h y List.mem_cons_self, if_neg Bool.false_ne_true]
    exact minL_first fun z hz => h z (List.mem_cons_of_mem _ hz)
end F.L
set_option Elab.async false
set_option linter.all false
set_option maxRecDepth 100000
set_option maxHeartbeats 4000000
/-! plain law of k50: one turn (own work) -/
namespace F.L
open PySem L2 F

abbrev bodyE : FS := (sSeq (sSet 6 (sComp (iSeq (sVar 3)) (gN 8) (bYes) (sFrz (sOp2 dAdd (sVar 8) (sCB cStr (aCons (sVar 5) (aNil))))) [8])) (sSet 3 (sOp2 dAdd (sVar 6) (sIf (bV (sOp2 dEq (sVar 4) (sVar 5))) (sComp (iSeq (sVar 3)) (gN 8) (bYes) (sFrz (sOp2 dAdd (sVar 8) (sC (.str "=")))) [8]) (sLst (aNil))))))
theorem add_S {l m : List Nat} (h : l.length + m.length ≤ 1000) : dAdd (strD l) (strD m) = some (.fro (strD (l ++ m))) := by
  rw [dAdd_str (by rw [S_len, S_len]; omega), S_app]
theorem comp_dig {e : List (List Nat)} {j : Int} (pj : 0 ≤ j ∧ j ≤ 6) (hl : ∀ l ∈ e, l.length ≤ 20) (c0 c1 c2 c3 c4 x6 x7 : Option Sl) :
    sCompL (gN 8) bYes (sFrz (sOp2 dAdd (sVar 8) (sCB cStr (aCons (sVar 5) (aNil))))) [8] (e.map strD) [c0, c1, c2, c3, c4, some (.fro (.int j)), x6, x7, none] = .ok ((e.map fun l => l ++ [cp j]).map strD, [c0, c1, c2, c3, c4, some (.fro (.int j)), x6, x7, none]) := by
  have := compL1 (tg := gN 8) (el := sFrz (sOp2 dAdd (sVar 8) (sCB cStr (aCons (sVar 5) (aNil))))) (vs := [8]) (τ := [c0, c1, c2, c3, c4, some (.fro (.int j)), x6, x7, none]) (g := fun d => match d with | .str x => .str (x ++ S [cp j]) | d => d) (e.map strD) fun d hd => by
    obtain ⟨l, h, rfl⟩ := List.mem_map.mp hd
    refine ⟨_, [c0, c1, c2, c3, c4, some (.fro (.int j)), x6, x7, some (.fro (strD l))], rfl, ?_, rfl⟩
    have a := add_S (l := l) (m := [cp j]) (by have := hl l h; simp; omega)
    simp [cStr_pip pj, a, S_app]
  rw [this, List.map_map, List.map_map]
  congr 2
  refine List.map_congr_left fun l h => ?_
  show D.str (S l ++ S [cp j]) = D.str (S (l ++ [cp j]))
  rw [S_app]
theorem comp_eq {e : List (List Nat)} (hl : ∀ l ∈ e, l.length ≤ 20) (c0 c1 c2 c3 c4 c5 x6 x7 : Option Sl) :
    sCompL (gN 8) bYes (sFrz (sOp2 dAdd (sVar 8) (sC (.str "=")))) [8] (e.map strD) [c0, c1, c2, c3, c4, c5, x6, x7, none] = .ok ((e.map fun l => l ++ [61]).map strD, [c0, c1, c2, c3, c4, c5, x6, x7, none]) := by
  have := compL1 (tg := gN 8) (el := sFrz (sOp2 dAdd (sVar 8) (sC (.str "=")))) (vs := [8]) (τ := [c0, c1, c2, c3, c4, c5, x6, x7, none]) (g := fun d => match d with | .str x => .str (x ++ S [61]) | d => d) (e.map strD) fun d hd => by
    obtain ⟨l, h, rfl⟩ := List.mem_map.mp hd
    refine ⟨_, [c0, c1, c2, c3, c4, c5, x6, x7, some (.fro (strD l))], rfl, ?_, rfl⟩
    have a : dAdd (.str (S l)) (.str (S [61])) = some (.fro (.str (S (l ++ [61])))) := add_S (l := l) (m := [61]) (by have := hl l h; simp; omega)
    rw [← S_eq] at a
    have q : (S l ++ ("=" : Str)) = S (l ++ [61]) := by rw [S_eq, S_app]
    simp [a, S_app, q]
  rw [this, List.map_map, List.map_map]
  congr 2
  refine List.map_congr_left fun l h => ?_
  show D.str (S l ++ S [61]) = D.str (S (l ++ [61]))
  rw [S_app]
theorem every_step {e : List (List Nat)} {i j : Int} (pj : 0 ≤ j ∧ j ≤ 6) (hl : ∀ l ∈ e, l.length ≤ 20) (he : e.length ≤ 100000) (c0 c1 c2 : Option Sl) :
    ∃ τ2, bodyE [c0, c1, c2, some (.own false (.lst (e.map strD))), some (.fro (.int i)), some (.fro (.int j)), none, none, none] = .ok (.nx τ2) ∧ kill [4, 5, 6, 7, 8] τ2 = [c0, c1, c2, some (.own false (.lst ((grow e (i, j)).map strD))), none, none, none, none, none] := by
  have q1 := comp_dig pj hl c0 c1 c2 (some (.fro (.lst (e.map strD)))) (some (.fro (.int i))) none none
  have q2 := comp_eq hl c0 c1 c2 (some (.fro (.lst (e.map strD)))) (some (.fro (.int i))) (some (.fro (.int j))) (some (.own false (.lst ((e.map fun l => l ++ [cp j]).map strD)))) none
  have l1 : e.length ≤ 16777216 := by omega
  refine ⟨[c0, c1, c2, some (.own false (.lst ((grow e (i, j)).map strD))), some (.fro (.int i)), some (.fro (.int j)), some (.own false (.lst ((e.map fun l => l ++ [cp j]).map strD))), none, none], ?_, rfl⟩
  by_cases h : i = j
  · have g : (grow e (i, j)).map strD = ((e.map fun l => l ++ [cp j]).map strD) ++ ((e.map fun l => l ++ [61]).map strD) := by
      unfold grow
      rw [if_pos h, List.map_append]
    have a : dAdd (.lst ((e.map fun l => l ++ [cp j]).map strD)) (.lst ((e.map fun l => l ++ [61]).map strD)) = some (.tmp (.lst ((grow e (i, j)).map strD))) := by
      rw [dAdd_lst (by simp; omega), g]
    subst h
    simp [q1, q2, l1, a, -List.map_map]
  · have g : (grow e (i, j)).map strD = ((e.map fun l => l ++ [cp j]).map strD) := by
      unfold grow
      rw [if_neg h, List.append_nil]
    have a : dAdd (.lst ((e.map fun l => l ++ [cp j]).map strD)) (.lst []) = some (.tmp (.lst ((grow e (i, j)).map strD))) := by
      rw [dAdd_lst (by simp; omega), g, List.append_nil]
    have hb : (i == j) = false := beq_false_of_ne h
    simp [q1, l1, a, hb, h, -List.map_map]
theorem grow_small {e : List (List Nat)} {p : Int × Int} {k : Nat} (h1 : ∀ l ∈ e, l.length ≤ k) (h2 : e.length ≤ 2 ^ m) : (∀ l ∈ grow e p, l.length ≤ k + 1) ∧ (grow e p).length ≤ 2 ^ (m + 1) := by
  refine ⟨fun l hl => ?_, ?_⟩
  · unfold grow at hl
    rcases List.mem_append.mp hl with q | q
    · obtain ⟨l0, h0, rfl⟩ := List.mem_map.mp q
      have := h1 l0 h0
      rw [List.length_append, List.length_singleton]
      omega
    · split at q
      · obtain ⟨l0, h0, rfl⟩ := List.mem_map.mp q
        have := h1 l0 h0
        rw [List.length_append, List.length_singleton]
        omega
      · cases q
  · unfold grow
    rw [List.length_append, List.length_map, Nat.pow_succ]
    split
    · rw [List.length_map]
      omega
    · rw [List.length_nil]
      omega
theorem pairD_inj : ∀ (a b : List (Int × Int)), a.map pairD = b.map pairD → a = b := by
  intro a
  induction a with
  | nil =>
    intro b hb
    cases b with
    | nil => rfl
    | cons y b => cases hb
  | cons x a ih =>
    intro b hb
    cases b with
    | nil => cases hb
    | cons y b =>
      rw [List.map_cons, List.map_cons] at hb
      injection hb with h1 h2
      obtain ⟨x1, x2⟩ := x
      obtain ⟨y1, y2⟩ := y
      have h1' : D.tup [.int x1, .int x2] = D.tup [.int y1, .int y2] := h1
      injection h1' with h1'
      injection h1' with q1 q2
      injection q2 with q2 _
      injection q1 with q1
      injection q2 with q2
      rw [q1, q2, ih b h2]
/-- the loop that makes all texts -/
theorem every_loop {n : Int} {rest : List Int} (h : LineOk (n :: rest)) (c0 c1 c2 : Option Sl) :
    sForL (gTup (gCons (gN 4) (gCons (gN 5) (gNil)))) bodyE [4, 5, 6, 7, 8] ((List.zip (n :: rest) rest).map pairD) [c0, c1, c2, some (.own false (.lst [strD [cp n]])), none, none, none, none, none] =
      .ok (.nx [c0, c1, c2, some (.own false (.lst ((evF [[cp n]] (List.zip (n :: rest) rest)).map strD))), none, none, none, none, none]) ∧ (evF [[cp n]] (List.zip (n :: rest) rest)).length ≤ 4096 := by
  have hf := h.few
  rw [List.length_cons] at hf
  have zl : (List.zip (n :: rest) rest).length ≤ 12 := by
    rw [List.length_zip, List.length_cons]
    omega
  obtain ⟨τ', f1, qs, g1, g2, g3, g4⟩ := for_all (tg := gTup (gCons (gN 4) (gCons (gN 5) (gNil)))) (bd := bodyE) (ks := [4, 5, 6, 7, 8]) (all := (List.zip (n :: rest) rest).map pairD) (τ := [c0, c1, c2, some (.own false (.lst [strD [cp n]])), none, none, none, none, none])
    (I := fun pre τ => ∃ qs : List (Int × Int), pre = qs.map pairD ∧ τ = [c0, c1, c2, some (.own false (.lst ((evF [[cp n]] qs).map strD))), none, none, none, none, none] ∧ (∀ l ∈ evF [[cp n]] qs, l.length ≤ qs.length + 1) ∧ (evF [[cp n]] qs).length ≤ 2 ^ qs.length)
    ⟨[], rfl, rfl, fun l hl => by rw [List.mem_singleton.mp hl]; exact Nat.le_refl _, Nat.le_refl _⟩ fun pre d post τ e ⟨qs, e1, e2, e3, e4⟩ => by
      obtain ⟨ps', p, qs', f1, f2, f3⟩ := split_map e
      subst e2 f3
      have eq : qs = ps' := pairD_inj _ _ (e1.symm.trans f2)
      subst eq
      have ql : qs.length < 12 := by
        have := congrArg List.length f1
        rw [List.length_append, List.length_cons] at this
        omega
      have pm : p.2 ∈ n :: rest := by
        have : p ∈ List.zip (n :: rest) rest := by rw [f1]; simp
        exact List.mem_cons_of_mem _ (List.of_mem_zip this).2
      have p12 : 2 ^ qs.length ≤ 2 ^ 12 := Nat.pow_le_pow_right (by decide) (by omega)
      obtain ⟨τ2, b1, b2⟩ := every_step (e := evF [[cp n]] qs) (i := p.1) (j := p.2) (h.pip _ pm) (fun l hl => by have := e3 l hl; omega) (by omega) c0 c1 c2
      obtain ⟨s1, s2⟩ := grow_small (p := p) e3 e4
      have ef : evF [[cp n]] (qs ++ [p]) = grow (evF [[cp n]] qs) p := by
        unfold evF
        rw [List.foldl_append]
        rfl
      refine ⟨_, τ2, rfl, .inl b1, qs ++ [p], by rw [e1, List.map_append]; rfl, ?_, ?_, ?_⟩
      · rw [b2, ef]
      · rw [ef, List.length_append, List.length_singleton]
        exact s1
      · rw [ef, List.length_append, List.length_singleton]
        exact s2
  have eq : qs = List.zip (n :: rest) rest := (pairD_inj _ _ g1).symm
  subst eq
  rw [g2] at f1
  have p12 : 2 ^ (List.zip (n :: rest) rest).length ≤ 2 ^ 12 := Nat.pow_le_pow_right (by decide) zl
  exact ⟨f1, by omega⟩
end F.L
set_option Elab.async false
set_option linter.all false
set_option maxRecDepth 100000
set_option maxHeartbeats 4000000
/-! plain law of k50: a turn is right (own work) -/
namespace F.L
open PySem L2 F

theorem okd_pair {a b : D} (h1 : D.okd 11 a = true) (h2 : D.okd 11 b = true) : D.okd 12 (.tup [a, b]) = true := by
  show [a, b].all (D.okd 11) = true
  rw [List.all_cons, List.all_cons, h1, h2]
  rfl
theorem rok_ints {ns : List Int} (p : pips ns) : D.roks (ns.map D.int) = true := roks_of fun d hd => by
  obtain ⟨n, hn, rfl⟩ := List.mem_map.mp hd
  exact rok_small (by have := p n hn; omega)
theorem sws_ints (ns : List Int) : D.sws (ns.map D.int) ≤ ns.length * 1923 := by
  have := sws_le (ds := ns.map D.int) (k := 1921) fun d hd => by
    obtain ⟨n, hn, rfl⟩ := List.mem_map.mp hd
    exact Nat.le_refl _
  rw [List.length_map] at this
  exact this
theorem tile_pips {t : List Int} (h : TileOk t) : pips t ∧ t.length = 2 := by
  obtain ⟨x, y, rfl, a, b, c⟩ := h
  refine ⟨fun n hn => ?_, rfl⟩
  rcases List.mem_cons.mp hn with e | hn
  · omega
  · rw [List.mem_singleton] at hn
    omega
theorem repr1 {l : List Nat} {v : Int} (h1 : l.length ≤ 100) (h2 : ∀ c ∈ l, c < 1000) (h3 : v.natAbs < 1000000) : ∃ r, cRepr [.tup [strD l, .int v]] = some (.fro (.str r)) := by
  refine ⟨_, cRepr_tup (okd_pair (okd_str _ _) (okd_int _ _)) ?_ ?_⟩
  · have a : D.rok (strD l) = true := by
      show (S l).cps.toList.all (fun c => decide (c < 4294967296)) = true
      refine List.all_eq_true.mpr fun c hc => decide_eq_true ?_
      have : c ∈ l := by simpa [S] using hc
      have := h2 c this
      omega
    rw [D.roks, D.roks, D.roks, a, rok_small (by omega)]
    rfl
  · have a : D.sw (strD l) = 10 * l.length + 2 := rfl
    have b : D.sw (.int v) = 1921 := rfl
    rw [D.sws, D.sws, D.sws, a, b]
    omega
theorem repr2 {ns : List Int} (h : LineOk ns) : ∃ r, cRepr [.tup [lineD ns, .tup ((usedP ns).map tileD)]] = some (.fro (.str r)) := by
  have hf := h.few
  have ul := used_len ns
  have ut := used_tiles h
  refine ⟨_, cRepr_tup (okd_pair (okd_ints 10 ns) ?_) ?_ ?_⟩
  · show ((usedP ns).map tileD).all (D.okd 10) = true
    refine List.all_eq_true.mpr fun d hd => ?_
    obtain ⟨t, _, rfl⟩ := List.mem_map.mp hd
    exact okd_ints 9 t
  · have a : D.rok (lineD ns) = true := rok_ints h.pip
    have b : D.rok (.tup ((usedP ns).map tileD)) = true := roks_of fun d hd => by
      obtain ⟨t, ht, rfl⟩ := List.mem_map.mp hd
      exact rok_ints (tile_pips (ut t ht)).1
    rw [D.roks, D.roks, D.roks, a, b]
    rfl
  · have a : D.sw (lineD ns) ≤ 13 * 1923 + 3 := by
      show D.sws (ns.map D.int) + 3 ≤ _
      have := sws_ints ns
      have : ns.length * 1923 ≤ 13 * 1923 := Nat.mul_le_mul_right _ hf
      omega
    have b : D.sw (.tup ((usedP ns).map tileD)) ≤ 12 * 3851 + 3 := by
      show D.sws ((usedP ns).map tileD) + 3 ≤ _
      have := sws_le (ds := (usedP ns).map tileD) (k := 3849) fun d hd => by
        obtain ⟨t, ht, rfl⟩ := List.mem_map.mp hd
        show D.sws (t.map D.int) + 3 ≤ _
        have := sws_ints t
        rw [(tile_pips (ut t ht)).2] at this
        omega
      rw [List.length_map, ul] at this
      have : (ns.length - 1) * 3851 ≤ 12 * 3851 := Nat.mul_le_mul_right _ (by omega)
      omega
    rw [D.sws, D.sws, D.sws]
    omega
theorem min_ok {n : Int} {rest : List Int} (h : LineOk (n :: rest)) : cMin [.lst ((evF [[cp n]] (List.zip (n :: rest) rest)).map strD)] = some (.fro (strD ((n :: rest).map cp))) := by
  obtain ⟨t, e⟩ := evF_head rest n [cp n] []
  have mem : ∀ l ∈ evF [[cp n]] (List.zip (n :: rest) rest), ∃ m, l = cp n :: m ∧ TxR n m rest := fun l hl => by
    obtain ⟨l0, h0, m, rfl, hm⟩ := evF_mem rest n _ l hl
    rw [List.mem_singleton] at h0
    rw [h0]
    exact ⟨m, rfl, hm⟩
  rw [e] at mem ⊢
  have ok : ordOk (strD ([cp n] ++ rest.map cp) :: t.map strD) = true := by
    unfold ordOk
    refine (Bool.and_eq_true _ _).mpr ⟨List.all_eq_true.mpr fun d hd => ?_, List.all_eq_true.mpr fun d hd => List.all_eq_true.mpr fun f hf => ?_⟩
    · rcases List.mem_cons.mp hd with q | q
      · rw [q]
        rfl
      · obtain ⟨l, _, rfl⟩ := List.mem_map.mp q
        rfl
    · have isS : ∀ d ∈ strD ([cp n] ++ rest.map cp) :: t.map strD, ∃ x, d = .str x := fun d hd => by
        rcases List.mem_cons.mp hd with q | q
        · exact ⟨_, q⟩
        · obtain ⟨l, _, rfl⟩ := List.mem_map.mp q
          exact ⟨_, rfl⟩
      obtain ⟨x, rfl⟩ := isS d hd
      obtain ⟨y, rfl⟩ := isS f hf
      rfl
  have first : D.minL (strD ([cp n] ++ rest.map cp)) (t.map strD) = strD ([cp n] ++ rest.map cp) := minL_first fun y hy => by
    obtain ⟨l, hl, rfl⟩ := List.mem_map.mp hy
    obtain ⟨m, rfl, hm⟩ := mem l (List.mem_cons_of_mem _ hl)
    rw [lt_str]
    refine decide_eq_false fun z => ?_
    have z' : cp n :: m < cp n :: rest.map cp := z
    rw [List.cons_lt_cons_iff] at z'
    rcases z' with z' | ⟨_, z'⟩
    · omega
    · exact TxR_notlt hm (fun y hy => h.pip y (List.mem_cons_of_mem _ hy)) z'
  have c : cMin [.lst (strD ([cp n] ++ rest.map cp) :: t.map strD)] = if ordOk (strD ([cp n] ++ rest.map cp) :: t.map strD) = true then some (.fro (D.minL (strD ([cp n] ++ rest.map cp)) (t.map strD))) else none := rfl
  show cMin [.lst (strD ([cp n] ++ rest.map cp) :: t.map strD)] = _
  rw [c, if_pos ok, first]
  rfl
abbrev bodyF : FS := (sSeq (sSet 8 (sCall 2 F__law_some (aCons (sVar 0) (aCons (sFrz (sVar 3)) (aNil))))) (sIfS (bV (sOp2 dNe (sCB cRepr (aCons (sTup (aCons (sFrz (sCall 1 F_read_line (aCons (sFrz (sVar 8)) (aNil)))) (aCons (sFrz (sCall 1 F_tiles_told (aCons (sFrz (sVar 8)) (aNil)))) (aNil)))) (aNil))) (sCB cRepr (aCons (sTup (aCons (sFrz (sVar 1)) (aCons (sFrz (sVar 2)) (aNil)))) (aNil))))) (sRet (sC (.bl false))) (sSkip)))
theorem text_step {n : Int} {rest : List Int} (h : LineOk (n :: rest)) {a b : Int} (c : CupOk a b) {E : List (List Nat)} (hE : E = evF [[cp n]] (List.zip (n :: rest) rest)) (hl : E.length ≤ 4096) {s3 : Option Sl} (h3 : s3 = some (.own false (.lst (E.map strD))) ∨ s3 = some (.fro (.lst (E.map strD)))) (x : D) :
    ∃ (a' b' : Int) (τ2 : T), bodyF [some (.own true (cupD a b)), some (.fro (lineD (n :: rest))), some (.fro (.tup ((usedP (n :: rest)).map tileD))), s3, none, none, none, some (.fro x), none] = .ok (.nx τ2) ∧ CupOk a' b' ∧
      kill [4, 5, 6, 7, 8] τ2 = [some (.own true (cupD a' b')), some (.fro (lineD (n :: rest))), some (.fro (.tup ((usedP (n :: rest)).map tileD))), some (.fro (.lst (E.map strD))), none, none, none, none, none] := by
  have ne : E.map strD ≠ [] := by
    obtain ⟨t, e⟩ := evF_head rest n [cp n] []
    rw [hE, e]
    simp
  obtain ⟨_, d, a', b', e1, c1, _, hm⟩ := some_ok (ds := E.map strD) c ne (by rw [List.length_map]; omega)
  obtain ⟨l, hl2, rfl⟩ := List.mem_map.mp hm
  rw [hE] at hl2
  obtain ⟨l0, h0, m, rfl, ht⟩ := evF_mem rest n _ l hl2
  rw [List.mem_singleton] at h0
  subst h0
  have r1 := read_ok ht h
  have r2 := told_ok ht h
  obtain ⟨r, hr⟩ := repr2 h
  have sx : strD ([cp n] ++ m) = .str (S (cp n :: m)) := rfl
  rw [sx] at e1
  obtain ⟨x0, hx0⟩ : ∃ x0, x0 = S (cp n :: m) := ⟨_, rfl⟩
  obtain ⟨L, hL⟩ : ∃ L, L = lineD (n :: rest) := ⟨_, rfl⟩
  obtain ⟨U, hU⟩ : ∃ U, U = D.tup ((usedP (n :: rest)).map tileD) := ⟨_, rfl⟩
  obtain ⟨Ed, hEd⟩ : ∃ Ed, Ed = E.map strD := ⟨_, rfl⟩
  rw [← hx0] at r1 r2 e1
  rw [← hL] at r1 hr ⊢
  rw [← hU] at r2 hr ⊢
  rw [← hEd] at e1 h3 ⊢
  refine ⟨a', b', [some (.own true (cupD a' b')), some (.fro L), some (.fro U), some (.fro (.lst Ed)), none, none, none, some (.fro x), some (.fro (.str x0))], ?_, c1, rfl⟩
  rcases h3 with h3 | h3 <;> subst h3 <;> simp [callT, e1, r1, r2, hr]
end F.L
set_option Elab.async false
set_option linter.all false
set_option maxRecDepth 100000
set_option maxHeartbeats 4000000
/-! plain law of k50: a turn, whole (own work) -/
namespace F.L
open PySem L2 F

abbrev ifR : FS := (sIfS (bOr (bV (sOp2 dNe (sCB cRepr (aCons (sTup (aCons (sFrz (sCall 1 F_print_line (aCons (sFrz (sVar 1)) (aNil)))) (aCons (sFrz (sCall 1 F_count_line_texts (aCons (sFrz (sVar 1)) (aNil)))) (aNil)))) (aNil))) (sCB cRepr (aCons (sTup (aCons (sCB cMin (aCons (sVar 3) (aNil))) (aCons (sCB cLen (aCons (sVar 3) (aNil))) (aNil)))) (aNil))))) (bV (sOp2 dIsNot (sCall 2 F_is_line (aCons (sFrz (sVar 2)) (aCons (sFrz (sVar 1)) (aNil)))) (sC (.bl true))))) (sRet (sC (.bl false))) (sSkip))
theorem if_step {n : Int} {rest : List Int} (h : LineOk (n :: rest)) {E : List (List Nat)} (hE : E = evF [[cp n]] (List.zip (n :: rest) rest)) (hl : E.length ≤ 4096) (c0 : Option Sl) :
    ifR [c0, some (.fro (lineD (n :: rest))), some (.fro (.tup ((usedP (n :: rest)).map tileD))), some (.own false (.lst (E.map strD))), none, none, none, none, none] =
      .ok (.nx [c0, some (.fro (lineD (n :: rest))), some (.fro (.tup ((usedP (n :: rest)).map tileD))), some (.own false (.lst (E.map strD))), none, none, none, none, none]) := by
  have p1 := print_line_ok h
  have p2 := count_ok h
  have p3 := is_line_ok h
  have p4 := min_ok h
  have el : (E.length : Int) = prodP (List.zip (n :: rest) (n :: rest).tail) := by
    rw [hE]
    exact evF_len (List.zip (n :: rest) rest) [[cp n]] 1 rfl
  rw [← hE] at p4
  have hf := h.few
  obtain ⟨r, hr⟩ := repr1 (l := (n :: rest).map cp) (v := prodP (List.zip (n :: rest) (n :: rest).tail)) (by rw [List.length_map]; omega) (fun c hc => by
    obtain ⟨y, hy, rfl⟩ := List.mem_map.mp hc
    exact cp_lt (h.pip y hy)) (by rw [← el]; omega)
  obtain ⟨v, hv⟩ : ∃ v, v = prodP (List.zip (n :: rest) (n :: rest).tail) := ⟨_, rfl⟩
  rw [← hv] at p2 el hr
  obtain ⟨x, hx⟩ : ∃ x, x = S ((n :: rest).map cp) := ⟨_, rfl⟩
  obtain ⟨L, hL⟩ : ∃ L, L = lineD (n :: rest) := ⟨_, rfl⟩
  obtain ⟨U, hU⟩ : ∃ U, U = D.tup ((usedP (n :: rest)).map tileD) := ⟨_, rfl⟩
  obtain ⟨Ed, hEd⟩ : ∃ Ed, Ed = E.map strD := ⟨_, rfl⟩
  have hr' : cRepr [.tup [.str x, .int v]] = some (.fro (.str r)) := by
    rw [hx]
    exact hr
  have el' : (Ed.length : Int) = v := by
    rw [hEd, List.length_map]
    exact el
  have p4' : cMin [.lst Ed] = some (.fro (.str x)) := by
    rw [hEd, hx]
    exact p4
  rw [← hx] at p1
  rw [← hL] at p1 p2 p3 ⊢
  rw [← hU] at p3 ⊢
  rw [← hEd]
  have nt : dIsNot (.bl true) (.bl true) = some (.fro (.bl false)) := rfl
  simp [callT, p1, p2, p3, p4', el', hr', nt]
theorem right_ok {a b : Int} (c : CupOk a b) : ∃ a' b' : Int, F__law_right [.own true (cupD a b)] = .ok (.fro (.bl true), [.own true (cupD a' b')]) ∧ CupOk a' b' := by
  obtain ⟨a1, b1, ns, e1, c1, h⟩ := drawn_ok c
  obtain ⟨n, rest, rfl⟩ : ∃ n rest, ns = n :: rest := by
    cases ns with
    | nil => exact absurd rfl h.ne
    | cons n rest => exact ⟨n, rest, rfl⟩
  have hf := h.few
  have pn := h.pip n (by simp)
  obtain ⟨E, hE⟩ : ∃ E, E = evF [[cp n]] (List.zip (n :: rest) rest) := ⟨_, rfl⟩
  obtain ⟨l1, l2⟩ := every_loop h (some (.own true (cupD a1 b1))) (some (.fro (lineD (n :: rest)))) (some (.fro (.tup ((usedP (n :: rest)).map tileD))))
  rw [← hE] at l1 l2
  have i1 := if_step h hE l2 (some (.own true (cupD a1 b1)))
  obtain ⟨τ', f1, a2, b2, s3, c2, f2, f3⟩ := for_all (tg := gN 7) (bd := bodyF) (ks := [4, 5, 6, 7, 8]) (all := rngL 0 6) (τ := [some (.own true (cupD a1 b1)), some (.fro (lineD (n :: rest))), some (.fro (.tup ((usedP (n :: rest)).map tileD))), some (.own false (.lst (E.map strD))), none, none, none, none, none])
    (I := fun _ τ => ∃ (a b : Int) (s3 : Option Sl), CupOk a b ∧ τ = [some (.own true (cupD a b)), some (.fro (lineD (n :: rest))), some (.fro (.tup ((usedP (n :: rest)).map tileD))), s3, none, none, none, none, none] ∧ (s3 = some (.own false (.lst (E.map strD))) ∨ s3 = some (.fro (.lst (E.map strD)))))
    ⟨a1, b1, _, c1, rfl, .inl rfl⟩ fun pre d post τ _ ⟨a, b, s3, c, e2, e3⟩ => by
      subst e2
      obtain ⟨a', b', τ2, g1, g2, g3⟩ := text_step h c hE l2 e3 d
      exact ⟨_, τ2, rfl, .inl g1, a', b', _, g2, g3, .inr rfl⟩
  subst f2
  refine ⟨a2, b2, ?_, c2⟩
  have zp : zipL ((n :: rest).map D.int) ((n :: rest).map D.int).tail = (List.zip (n :: rest) rest).map pairD := zip_pairs (n :: rest)
  have cs := cStr_pip pn
  unfold F__law_right g__law_right
  simp only [e_Seq, fnS_eq]
  have s1 : sAsg (sFrz (sCall 2 F__law_line (aCons (sVar 0) (aCons (sC (.int 13)) (aNil))))) (gTup (gCons (gN 1) (gCons (gN 2) (gNil)))) (ft [Sl.own true (cupD a b)] ++ List.replicate (9 - [Sl.own true (cupD a b)].length) none) = .ok (.nx [some (.own true (cupD a1 b1)), some (.fro (lineD (n :: rest))), some (.fro (.tup ((usedP (n :: rest)).map tileD))), none, none, none, none, none, none]) := by
    simp [callT, e1, -List.map_cons]
  have s2 : sSet 3 (sLst (aCons (sCB cStr (aCons (sOp2 dIx (sVar 1) (sC (.int 0))) (aNil))) (aNil))) [some (.own true (cupD a1 b1)), some (.fro (lineD (n :: rest))), some (.fro (.tup ((usedP (n :: rest)).map tileD))), none, none, none, none, none, none] = .ok (.nx [some (.own true (cupD a1 b1)), some (.fro (lineD (n :: rest))), some (.fro (.tup ((usedP (n :: rest)).map tileD))), some (.own false (.lst [strD [cp n]])), none, none, none, none, none]) := by
    simp [cs]
  have s3' : iZip (aCons (sFrz (sVar 1)) (aCons (sFrz (sSl dSl (sVar 1) (oSome (sC (.int 1))) (oNone))) (aNil))) [some (.own true (cupD a1 b1)), some (.fro (lineD (n :: rest))), some (.fro (.tup ((usedP (n :: rest)).map tileD))), some (.own false (.lst [strD [cp n]])), none, none, none, none, none] = .ok ((List.zip (n :: rest) rest).map pairD, [some (.own true (cupD a1 b1)), some (.fro (lineD (n :: rest))), some (.fro (.tup ((usedP (n :: rest)).map tileD))), some (.own false (.lst [strD [cp n]])), none, none, none, none, none]) := by
    simp [cut_tail, -List.map_cons, -List.map_tail, zp]
  rw [s1, bind_ok, thenS_nx, e_Seq, s2, bind_ok, thenS_nx, e_Seq, e_For, s3', bind_ok]
  show (((sForL (gTup (gCons (gN 4) (gCons (gN 5) (gNil)))) bodyE [4, 5, 6, 7, 8] _ [some (.own true (cupD a1 b1)), some (.fro (lineD (n :: rest))), some (.fro (.tup ((usedP (n :: rest)).map tileD))), some (.own false (.lst [strD [cp n]])), none, none, none, none, none]).bind _).bind _) = _
  rw [l1, bind_ok, thenS_nx, e_Seq]
  show ((ifR _).bind _).bind _ = _
  rw [i1, bind_ok, thenS_nx, e_Seq, e_For]
  have s5 : iRng1 (aCons (sC (.int 6)) (aNil)) [some (.own true (cupD a1 b1)), some (.fro (lineD (n :: rest))), some (.fro (.tup ((usedP (n :: rest)).map tileD))), some (.own false (.lst (E.map strD))), none, none, none, none, none] = .ok (rngL 0 6, [some (.own true (cupD a1 b1)), some (.fro (lineD (n :: rest))), some (.fro (.tup ((usedP (n :: rest)).map tileD))), some (.own false (.lst (E.map strD))), none, none, none, none, none]) := by
    simp
  rw [s5, bind_ok]
  show (((sForL (gN 7) bodyF [4, 5, 6, 7, 8] (rngL 0 6) [some (.own true (cupD a1 b1)), some (.fro (lineD (n :: rest))), some (.fro (.tup ((usedP (n :: rest)).map tileD))), some (.own false (.lst (E.map strD))), none, none, none, none, none]).bind _).bind _) = _
  rw [f1, bind_ok]
  simp
end F.L
set_option Elab.async false
set_option linter.all false
set_option maxRecDepth 100000
set_option maxHeartbeats 4000000
/-! plain law of k50, whole (own work) -/
namespace F.L
open PySem L2 F

abbrev retL : FS := (sRet (sOp2 dEq (sTup (aCons (sFrz (sCall 1 F_count_line_texts (aCons (sFrz (sVar 3)) (aNil)))) (aCons (sFrz (sCall 1 F_read_line (aCons (sFrz (sVar 7)) (aNil)))) (aCons (sCB cLen (aCons (sCall 1 F_tiles_told (aCons (sFrz (sVar 7)) (aNil))) (aNil))) (aCons (sFrz (sCall 1 F_count_line_texts (aCons (sTup (aCons (sC (.int 5)) (aNil))) (aNil)))) (aCons (sFrz (sCall 1 F_tiles_told (aCons (sC (.str "5")) (aNil)))) (aNil))))))) (sTup (aCons (sFrz (sVar 5)) (aCons (sFrz (sVar 3)) (aCons (sOp2 dSub (sOp2 dMul (sC (.int 2)) (sVar 4)) (sC (.int 1))) (aCons (sC (.int 1)) (aCons (sTup (aNil)) (aNil)))))))))
theorem line5 : LineOk [5] := ⟨by simp, by simp, fun n hn => by rw [List.mem_singleton] at hn; omega, List.nodup_nil⟩
theorem S_5 : ("5" : Str) = S [cp 5] := by decide +kernel
theorem ret_ok {n : Int} {rest : List Int} {mm : List Nat} {k pw : Int} (h : LineOk (n :: rest)) (ht : TxR n mm rest) (hp : prodP (List.zip (n :: rest) (n :: rest).tail) = pw) (hl : ((n :: rest).length : Int) = 2 * k) (c0 c1 c2 c6 : Option Sl) :
    retL [c0, c1, c2, some (.fro (lineD (n :: rest))), some (.fro (.int k)), some (.fro (.int pw)), c6, some (.fro (.str (S (cp n :: mm))))] = .ok (.rt (.fro (.bl true)) [c0, c1, c2, some (.fro (lineD (n :: rest))), some (.fro (.int k)), some (.fro (.int pw)), c6, some (.fro (.str (S (cp n :: mm))))]) := by
  have q1 := count_ok h
  have q2 := read_ok ht h
  have q3 := told_ok ht h
  have q4 := count_ok line5
  have q5 := told_ok (n := 5) (rest := []) (m := []) trivial line5
  have u5 : usedP [5] = [] := List.eq_nil_of_length_eq_zero (used_len [5])
  rw [u5, ← S_5] at q5
  rw [hp] at q1
  have p5 : prodP (List.zip [5] ([5] : List Int).tail) = 1 := rfl
  rw [p5] at q4
  have hf := h.few
  have ul := used_len (n :: rest)
  have ln : (((usedP (n :: rest)).map tileD).length : Int) = 2 * k - 1 := by
    rw [List.length_map, ul]
    rw [List.length_cons] at hl ⊢
    omega
  have m2 : dMul (.int 2) (.int k) = some (.fro (.int (2 * k))) := dMul_int (.inl (by omega))
  have eqd : ∀ v : Int, dEq (.tup [.int pw, lineD (n :: rest), .int v, .int 1, .tup []]) (.tup [.int pw, lineD (n :: rest), .int v, .int 1, .tup []]) = some (.fro (.bl true)) := fun v => by
    have ok : eqOk2 (.tup [.int pw, lineD (n :: rest), .int v, .int 1, .tup []]) (.tup [.int pw, lineD (n :: rest), .int v, .int 1, .tup []]) = true := by
      have o : D.okd dd (.tup [.int pw, lineD (n :: rest), .int v, .int 1, .tup []]) = true := by
        show [D.int pw, lineD (n :: rest), .int v, .int 1, .tup []].all (D.okd 11) = true
        rw [List.all_cons, List.all_cons, show D.okd 11 (lineD (n :: rest)) = true from okd_ints 10 _]
        rfl
      have s : D.nos (.tup [.int pw, lineD (n :: rest), .int v, .int 1, .tup []]) = true := by
        rw [nos_tup, noss_cons, noss_cons, nos_tup, noss_ints]
        simp
      show (D.okd dd _ && D.okd dd _ && D.nos _ && D.nos _) = true
      rw [o, s]
      rfl
    have e : D.eqv (.tup [.int pw, lineD (n :: rest), .int v, .int 1, .tup []]) (.tup [.int pw, lineD (n :: rest), .int v, .int 1, .tup []]) = true := by
      rw [eqv_tup, eqvs_cons, eqvs_cons, eqv_tup, eqvs_ints]
      simp
    have d : ∀ a b : D, eqOk2 a b = true → dEq a b = some (.fro (.bl (D.eqv a b))) := fun a b z => if_pos z
    rw [d _ _ ok, e]
  obtain ⟨x, hx⟩ : ∃ x, x = S (cp n :: mm) := ⟨_, rfl⟩
  obtain ⟨L, hL⟩ : ∃ L, L = lineD (n :: rest) := ⟨_, rfl⟩
  obtain ⟨U, hU⟩ : ∃ U, U = (usedP (n :: rest)).map tileD := ⟨_, rfl⟩
  have i5 : lineD [5] = .tup [.int 5] := rfl
  have n5 : ([] : List (List Int)).map tileD = [] := rfl
  rw [i5] at q4
  rw [n5] at q5
  rw [← hx] at q2 q3 ⊢
  rw [← hL] at q1 q2 eqd ⊢
  rw [← hU] at q3 ln
  simp [callT, q1, q2, q3, q4, q5, ln, m2, eqd]
theorem turn_ok {a b : Int} (c : CupOk a b) (x : D) : ∃ (a' b' : Int) (τ2 : T), (sIfS (bNot (bV (sCall 1 F__law_right (aCons (sVar 1) (aNil))))) (sRet (sC (.bl false))) (sSkip)) [none, some (.own false (cupD a b)), some (.fro x), none, none, none, none, none] = .ok (.nx τ2) ∧ CupOk a' b' ∧ kill [0, 2, 3, 4, 5, 6, 7] τ2 = [none, some (.own false (cupD a' b')), none, none, none, none, none, none] := by
  obtain ⟨a', b', e, c'⟩ := right_ok c
  refine ⟨a', b', [none, some (.own false (cupD a' b')), some (.fro x), none, none, none, none, none], ?_, c', rfl⟩
  simp [callT, e]
abbrev bodyR : FS := (sPar [3, 5] (aCons (sOp2 dAdd (sVar 3) (sTup (aCons (sFrz (sVar 6)) (aCons (sFrz (sVar 6)) (aNil))))) (aCons (sOp2 dMul (sVar 5) (sC (.int 2))) (aNil))))
abbrev setT : FS := (sSet 7 (sBM "str" mJoin (sC (.str "")) (aCons (sComp (iRng1 (aCons (sVar 4) (aNil))) (gN 6) (bYes) (sFrz (sOp2 dAdd (sCB cStr (aCons (sVar 6) (aNil))) (sC (.str "=")))) [6]) (aNil))))
def rowN (k : Nat) : List Int := (List.range k).flatMap fun (i : Nat) => [(i : Int), (i : Int)]
def txtN (k : Nat) : List Nat := (List.range k).flatMap fun (i : Nat) => [48 + i, 61]
theorem row_loop (k : Nat) (hk : k ≤ 5) : sForL (gN 6) bodyR [0, 1, 2, 6, 7] (rngL 1 k) [none, none, none, some (.fro (.tup [.int 0, .int 0])), some (.fro (.int (k + 1 : Nat))), some (.fro (.int 2)), none, none] = .ok (.nx [none, none, none, some (.fro (lineD (rowN (k + 1)))), some (.fro (.int (k + 1 : Nat))), some (.fro (.int (2 ^ (k + 1)))), none, none]) := by
  have m : ∀ v : Int, dMul (.int v) (.int 2) = some (.fro (.int (v * 2))) := fun v => dMul_int (.inr (by omega))
  have a : ∀ xs : List D, xs.length ≤ 100 → ∀ y : D, dAdd (.tup xs) (.tup [y, y]) = some (.fro (.tup (xs ++ [y, y]))) := fun xs h y => dAdd_tup (by simp; omega)
  have cases : k = 0 ∨ k = 1 ∨ k = 2 ∨ k = 3 ∨ k = 4 ∨ k = 5 := by omega
  rcases cases with e | e | e | e | e | e <;> subst e
  · rfl
  all_goals
    simp [rngL, List.range_succ, sForL, a, m, rowN]
theorem join_S : ∀ ls : List (List Nat), Str.join "" (ls.map S) = S ls.flatten
  | [] => rfl
  | [l] => by
    show S l = S (l ++ [])
    rw [List.append_nil]
  | l :: m :: r => by
    have ih := join_S (m :: r)
    show S l ++ ("" : Str) ++ Str.join "" ((m :: r).map S) = _
    rw [ih, S_nil, S_app, S_app, List.append_nil]
    rfl
theorem mJoin_S (ls : List (List Nat)) (h : (ls.map List.length).sum ≤ 1000) : mJoin (.str "") [.lst (ls.map strD)] = some (.fro (.str (S ls.flatten))) := by
  have e0 : ls.map strD = (ls.map S).map D.str := by
    rw [List.map_map]
    rfl
  have e : mJoin (.str "") [.lst ((ls.map S).map D.str)] = (txts ((ls.map S).map D.str)).bind fun ys => if joinOk "" ys = true then some (.fro (.str (Txt.join "" ys))) else none := rfl
  have l1 : ((ls.map S).map (·.length)).sum = (ls.map List.length).sum := by
    rw [List.map_map]
    rfl
  have ok : joinOk "" (ls.map S) = true := by
    unfold joinOk
    have z : ("" : Str).length = 0 := by decide +kernel
    rw [l1, z]
    refine decide_eq_true ?_
    omega
  rw [e0, e, txts_of]
  show (if joinOk "" _ = true then _ else _) = _
  rw [if_pos ok, TL.join_eq, join_S]
theorem text_set (k : Nat) (kI : Int) (hkI : kI = (k : Int)) (h1 : 1 ≤ k) (hk : k ≤ 6) (c3 c5 : Option Sl) : setT [none, none, none, c3, some (.fro (.int kI)), c5, none, none] = .ok (.nx [none, none, none, c3, some (.fro (.int kI)), c5, none, some (.fro (.str (S (txtN k))))]) := by
  have c1 : sCompL (gN 6) bYes (sFrz (sOp2 dAdd (sCB cStr (aCons (sVar 6) (aNil))) (sC (.str "=")))) [6] (rngL 0 k) [none, none, none, c3, some (.fro (.int kI)), c5, none, none] = .ok ((rngL 0 k).map (fun d => match d with | .int i => strD [cp i, 61] | d => d), [none, none, none, c3, some (.fro (.int kI)), c5, none, none]) := by
    refine compL1 _ fun d hd => ?_
    obtain ⟨i, rfl, q1, q2⟩ := mem_rngL hd
    refine ⟨_, [none, none, none, c3, some (.fro (.int kI)), c5, some (.fro (.int i)), none], rfl, ?_, rfl⟩
    have a : dAdd (.str (S [cp i])) (.str (S [61])) = some (.fro (.str (S [cp i, 61]))) := add_S (l := [cp i]) (m := [61]) (by simp)
    rw [← S_eq] at a
    simp [cStr_pip (n := i) ⟨q1, by omega⟩, a]
  have jn : mJoin (.str "") [.lst ((rngL 0 k).map (fun d => match d with | .int i => strD [cp i, 61] | d => d))] = some (.fro (.str (S (txtN k)))) := by
    have e : (rngL 0 k).map (fun d => match d with | .int i => strD [cp i, 61] | d => d) = ((List.range k).map fun (i : Nat) => [48 + i, 61]).map strD := by
      unfold rngL
      rw [List.map_map, List.map_map]
      refine List.map_congr_left fun i hi => ?_
      show strD [cp (0 + (i : Int)), 61] = strD [48 + i, 61]
      unfold cp
      rw [Int.zero_add, Int.toNat_natCast]
    rw [e, mJoin_S _ (by
      have : ((List.range k).map fun (i : Nat) => [48 + i, 61]).map List.length = (List.range k).map fun _ => 2 := by
        rw [List.map_map]
        rfl
      rw [this, List.map_const', List.sum_replicate_nat]
      simp
      omega)]
    rfl
  have i1 : -4611686018427387904 ≤ kI := by omega
  have i2 : kI < 4611686018427387904 := by omega
  have hin : inI kI = true := by
    rw [inI_eq, decide_eq_true i1, decide_eq_true i2]
    rfl
  have l1 : (rngL 0 k).length ≤ 16777216 := by
    rw [length_rngL]
    omega
  have mt : D.mt (.str "") = some "str" := rfl
  have r1 : iRng1 (aCons (sVar 4) (aNil)) [none, none, none, c3, some (.fro (.int kI)), c5, none, none] = .ok (rngL 0 k, [none, none, none, c3, some (.fro (.int kI)), c5, none, none]) := by
    have hk2 : kI.toNat = k := by omega
    simp only [e_iRng1, e_aCons, sVar_eq, e_aNil, List.getElem?_cons_succ, List.getElem?_cons_zero, vw_fro, bind_ok, rg1_int, hin, chk_true, hk2]
  obtain ⟨R0, hR⟩ : ∃ R0, R0 = rngL 0 k := ⟨_, rfl⟩
  rw [← hR] at c1 l1 jn r1
  have r2 : sComp (iRng1 (aCons (sVar 4) (aNil))) (gN 6) (bYes) (sFrz (sOp2 dAdd (sCB cStr (aCons (sVar 6) (aNil))) (sC (.str "=")))) [6] [none, none, none, c3, some (.fro (.int kI)), c5, none, none] = .ok (.tmp (.lst (R0.map (fun d => match d with | .int i => strD [cp i, 61] | d => d))), [none, none, none, c3, some (.fro (.int kI)), c5, none, none]) := by
    rw [e_Comp, r1, bind_ok]
    simp only [sz_dec, decide_eq_true l1, chk_true, bind_ok]
    have kk : kill [6] [none, none, none, c3, some (Sl.fro (.int kI)), c5, none, none] = [none, none, none, c3, some (.fro (.int kI)), c5, none, none] := rfl
    rw [kk, c1, noex_ok, bind_ok]
  have r3 : sBM "str" mJoin (sC (.str "")) (aCons (sComp (iRng1 (aCons (sVar 4) (aNil))) (gN 6) (bYes) (sFrz (sOp2 dAdd (sCB cStr (aCons (sVar 6) (aNil))) (sC (.str "=")))) [6]) (aNil)) [none, none, none, c3, some (.fro (.int kI)), c5, none, none] = .ok (.fro (.str (S (txtN k))), [none, none, none, c3, some (.fro (.int kI)), c5, none, none]) := by
    generalize hx : (sComp (iRng1 (aCons (sVar 4) (aNil))) (gN 6) (bYes) (sFrz (sOp2 dAdd (sCB cStr (aCons (sVar 6) (aNil))) (sC (.str "=")))) [6]) = fx at r2
    generalize hy : R0.map (fun d => match d with | .int i => strD [cp i, 61] | d => d) = ys at r2 jn
    simp [sBM, mt, r2, jn]
  show sSet 7 _ _ = _
  rw [e_Set, r3]
  rfl
theorem fin_facts (k : Nat) (hk : k ≤ 5) : ∃ (rest : List Int) (mm : List Nat), rowN (k + 1) = 0 :: rest ∧ txtN (k + 1) = cp 0 :: mm ∧ LineOk (0 :: rest) ∧ TxR 0 mm rest ∧ prodP (List.zip ((0 : Int) :: rest) ((0 : Int) :: rest).tail) = 2 ^ (k + 1) ∧ (((0 : Int) :: rest).length : Int) = 2 * ((k + 1 : Nat) : Int) := by
  have cases : k = 0 ∨ k = 1 ∨ k = 2 ∨ k = 3 ∨ k = 4 ∨ k = 5 := by omega
  rcases cases with e | e | e | e | e | e <;> subst e
  · exact ⟨[0], [61], rfl, rfl, ⟨by simp, by decide, by unfold pips; decide, by decide⟩, by simp [TxR, cp], by decide, by decide⟩
  · exact ⟨[0, 1, 1], [61, 49, 61], rfl, rfl, ⟨by simp, by decide, by unfold pips; decide, by decide⟩, by simp [TxR, cp], by decide, by decide⟩
  · exact ⟨[0, 1, 1, 2, 2], [61, 49, 61, 50, 61], rfl, rfl, ⟨by simp, by decide, by unfold pips; decide, by decide⟩, by simp [TxR, cp], by decide, by decide⟩
  · exact ⟨[0, 1, 1, 2, 2, 3, 3], [61, 49, 61, 50, 61, 51, 61], rfl, rfl, ⟨by simp, by decide, by unfold pips; decide, by decide⟩, by simp [TxR, cp], by decide, by decide⟩
  · exact ⟨[0, 1, 1, 2, 2, 3, 3, 4, 4], [61, 49, 61, 50, 61, 51, 61, 52, 61], rfl, rfl, ⟨by simp, by decide, by unfold pips; decide, by decide⟩, by simp [TxR, cp], by decide, by decide⟩
  · exact ⟨[0, 1, 1, 2, 2, 3, 3, 4, 4, 5, 5], [61, 49, 61, 50, 61, 51, 61, 52, 61, 53, 61], rfl, rfl, ⟨by simp, by decide, by unfold pips; decide, by decide⟩, by simp [TxR, cp], by decide, by decide⟩
theorem law_good (zs : List Int) (h : zs.length ≤ 63) : ∃ os, F_law [.fro (.scr zs)] = .ok (.fro (.bl true), os) := by
  obtain ⟨a, b, e0, c0⟩ := cup_ok zs h
  obtain ⟨τ', f1, a1, b1, c1, f2⟩ := for_all (tg := gN 2) (bd := sIfS (bNot (bV (sCall 1 F__law_right (aCons (sVar 1) (aNil))))) (sRet (sC (.bl false))) (sSkip)) (ks := [0, 2, 3, 4, 5, 6, 7]) (all := rngL 0 10) (τ := [none, some (.own false (cupD a b)), none, none, none, none, none, none])
    (I := fun _ τ => ∃ a b : Int, CupOk a b ∧ τ = [none, some (.own false (cupD a b)), none, none, none, none, none, none]) ⟨a, b, c0, rfl⟩ fun pre d post τ _ ⟨a, b, c, e⟩ => by
      subst e
      obtain ⟨a', b', τ2, g1, g2, g3⟩ := turn_ok c d
      exact ⟨_, τ2, rfl, .inl g1, a', b', g2, g3⟩
  subst f2
  obtain ⟨r, a2, b2, e2, c2, p2, q2⟩ := roll_ok (m := 6) c1 (by omega) (by omega)
  obtain ⟨k, hk⟩ : ∃ k : Nat, r = (k : Int) := ⟨r.toNat, by omega⟩
  have k5 : k ≤ 5 := by omega
  obtain ⟨rest, mm, g1, g2, g3, g4, g5, g6⟩ := fin_facts k k5
  have hm : (1 : Int) + r = ((k + 1 : Nat) : Int) := by omega
  have s1 : sSet 1 (sCall 1 F__law_cup (aCons (sFrz (sVar 0)) (aNil))) [some (.fro (.scr zs)), none, none, none, none, none, none, none] = .ok (.nx [some (.fro (.scr zs)), some (.own false (cupD a b)), none, none, none, none, none, none]) := by
    simp [callT, e0]
  have s2 : iRng1 (aCons (sC (.int 10)) (aNil)) [some (.fro (.scr zs)), some (.own false (cupD a b)), none, none, none, none, none, none] = .ok (rngL 0 10, [some (.fro (.scr zs)), some (.own false (cupD a b)), none, none, none, none, none, none]) := by
    simp
  have s3 : sPar [3, 4, 5] (aCons (sTup (aCons (sC (.int 0)) (aCons (sC (.int 0)) (aNil)))) (aCons (sOp2 dAdd (sC (.int 1)) (sCall 2 F__law_roll (aCons (sVar 1) (aCons (sC (.int 6)) (aNil))))) (aCons (sC (.int 2)) (aNil)))) [none, some (.own false (cupD a1 b1)), none, none, none, none, none, none] =
      .ok (.nx [none, some (.own false (cupD a2 b2)), none, some (.fro (.tup [.int 0, .int 0])), some (.fro (.int (1 + r))), some (.fro (.int 2)), none, none]) := by
    simp [callT, e2]
  have i1 : -4611686018427387904 ≤ 1 + r := by omega
  have i2 : 1 + r < 4611686018427387904 := by omega
  have hin : inI (1 + r) = true := by
    rw [inI_eq, decide_eq_true i1, decide_eq_true i2]
    rfl
  have hin1 : inI 1 = true := by decide
  have tk : (1 + r - 1).toNat = k := by omega
  have s4 : iRng2 (aCons (sC (.int 1)) (aCons (sVar 4) (aNil))) [none, some (.own false (cupD a2 b2)), none, some (.fro (.tup [.int 0, .int 0])), some (.fro (.int (1 + r))), some (.fro (.int 2)), none, none] = .ok (rngL 1 k, [none, some (.own false (cupD a2 b2)), none, some (.fro (.tup [.int 0, .int 0])), some (.fro (.int (1 + r))), some (.fro (.int 2)), none, none]) := by
    simp only [e_iRng2, e_aCons, sVar_eq, e_C, e_aNil, List.getElem?_cons_succ, List.getElem?_cons_zero, vw_fro, bind_ok, rg2_int, hin, hin1, Bool.and_self, chk_true, tk]
  have s5 := row_loop k k5
  have s6 := text_set (k + 1) (1 + r) hm (by omega) (by omega) (some (.fro (lineD (rowN (k + 1))))) (some (.fro (.int (2 ^ (k + 1)))))
  rw [g2, g1] at s6
  rw [g1, ← hm] at s5
  have s7 := ret_ok (k := 1 + r) g3 g4 g5 (by rw [hm]; exact g6) none none none none
  refine ⟨[.fro (.scr zs)], ?_⟩
  unfold F_law g_law
  simp only [e_Seq, fnS_eq]
  show (((sSet 1 _ [some (.fro (.scr zs)), none, none, none, none, none, none, none]).bind _).bind _) = _
  rw [s1, bind_ok, thenS_nx, e_Seq, e_For, s2, bind_ok]
  show (((sForL (gN 2) _ [0, 2, 3, 4, 5, 6, 7] (rngL 0 10) [none, some (.own false (cupD a b)), none, none, none, none, none, none]).bind _).bind _) = _
  rw [f1, bind_ok, thenS_nx, e_Seq, s3, bind_ok, thenS_nx, e_Seq, e_For, s4, bind_ok]
  show (((sForL (gN 6) bodyR [0, 1, 2, 6, 7] (rngL 1 k) [none, none, none, some (.fro (.tup [.int 0, .int 0])), some (.fro (.int (1 + r))), some (.fro (.int 2)), none, none]).bind _).bind _) = _
  rw [s5, bind_ok, thenS_nx, e_Seq]
  show ((setT _).bind _).bind _ = _
  rw [s6, bind_ok, thenS_nx]
  show (retL _).bind _ = _
  rw [s7, bind_ok]
  simp
end F.L
set_option Elab.async false
set_option linter.all false
set_option maxRecDepth 100000
set_option maxHeartbeats 0
/-! the head of a law, printed by gen.py (own work) -/
namespace F.L
open PySem PySem.Spec PyProof.Rows L2 F
def hd__law_cup : He.DefD := ⟨("_law_cup", none), "_law_cup", "_law_cup", defArgs s__law_cup, defBody s__law_cup, defScope s__law_cup, [], []⟩
def hd__law_roll : He.DefD := ⟨("_law_roll", none), "_law_roll", "_law_roll", defArgs s__law_roll, defBody s__law_roll, defScope s__law_roll, [], []⟩
def hd__law_some : He.DefD := ⟨("_law_some", none), "_law_some", "_law_some", defArgs s__law_some, defBody s__law_some, defScope s__law_some, [], []⟩
def hd__law_line : He.DefD := ⟨("_law_line", none), "_law_line", "_law_line", defArgs s__law_line, defBody s__law_line, defScope s__law_line, [], []⟩
def hd_is_tuple_of : He.DefD := ⟨("is_tuple_of", none), "is_tuple_of", "is_tuple_of", defArgs s_is_tuple_of, defBody s_is_tuple_of, defScope s_is_tuple_of, [], []⟩
def hd_is_rising : He.DefD := ⟨("is_rising", none), "is_rising", "is_rising", defArgs s_is_rising, defBody s_is_rising, defScope s_is_rising, [], []⟩
def hd_is_whole : He.DefD := ⟨("is_whole", none), "is_whole", "is_whole", defArgs s_is_whole, defBody s_is_whole, defScope s_is_whole, [], []⟩
def hd_fits_tile : He.DefD := ⟨("fits_tile", none), "fits_tile", "fits_tile", defArgs s_fits_tile, defBody s_fits_tile, defScope s_fits_tile, [], []⟩
def hd_fits_tiles : He.DefD := ⟨("fits_tiles", none), "fits_tiles", "fits_tiles", defArgs s_fits_tiles, defBody s_fits_tiles, defScope s_fits_tiles, [], []⟩
def hd_need_tiles : He.DefD := ⟨("need_tiles", none), "need_tiles", "need_tiles", defArgs s_need_tiles, defBody s_need_tiles, defScope s_need_tiles, [], []⟩
def hd_tile_of : He.DefD := ⟨("tile_of", none), "tile_of", "tile_of", defArgs s_tile_of, defBody s_tile_of, defScope s_tile_of, [], []⟩
def hd_fits_line : He.DefD := ⟨("fits_line", none), "fits_line", "fits_line", defArgs s_fits_line, defBody s_fits_line, defScope s_fits_line, [], []⟩
def hd_is_line : He.DefD := ⟨("is_line", none), "is_line", "is_line", defArgs s_is_line, defBody s_is_line, defScope s_is_line, [], []⟩
def hd_fits_any : He.DefD := ⟨("fits_any", none), "fits_any", "fits_any", defArgs s_fits_any, defBody s_fits_any, defScope s_fits_any, [], []⟩
def hd_need_any : He.DefD := ⟨("need_any", none), "need_any", "need_any", defArgs s_need_any, defBody s_need_any, defScope s_need_any, [], []⟩
def hd_print_line : He.DefD := ⟨("print_line", none), "print_line", "print_line", defArgs s_print_line, defBody s_print_line, defScope s_print_line, [], []⟩
def hd_count_line_texts : He.DefD := ⟨("count_line_texts", none), "count_line_texts", "count_line_texts", defArgs s_count_line_texts, defBody s_count_line_texts, defScope s_count_line_texts, [], []⟩
def hd_need_text : He.DefD := ⟨("need_text", none), "need_text", "need_text", defArgs s_need_text, defBody s_need_text, defScope s_need_text, [], []⟩
def hd_Reading_here : He.DefD := ⟨("Reading", some "here"), "here", "Reading.here", defArgs s_Reading_here, defBody s_Reading_here, defScope s_Reading_here, [], []⟩
def hd_Reading_one_of : He.DefD := ⟨("Reading", some "one_of"), "one_of", "Reading.one_of", defArgs s_Reading_one_of, defBody s_Reading_one_of, defScope s_Reading_one_of, [], []⟩
def hd_halves_from : He.DefD := ⟨("halves_from", none), "halves_from", "halves_from", defArgs s_halves_from, defBody s_halves_from, defScope s_halves_from, [], []⟩
def hd_Reading_line : He.DefD := ⟨("Reading", some "line"), "line", "Reading.line", defArgs s_Reading_line, defBody s_Reading_line, defScope s_Reading_line, [], []⟩
def hd_Reading___init__ : He.DefD := ⟨("Reading", some "__init__"), "__init__", "Reading.__init__", defArgs s_Reading___init__, defBody s_Reading___init__, defScope s_Reading___init__, [], []⟩
def hd_read_line : He.DefD := ⟨("read_line", none), "read_line", "read_line", defArgs s_read_line, defBody s_read_line, defScope s_read_line, [], []⟩
def hd_tiles_told : He.DefD := ⟨("tiles_told", none), "tiles_told", "tiles_told", defArgs s_tiles_told, defBody s_tiles_told, defScope s_tiles_told, [], []⟩
def hd__law_right : He.DefD := ⟨("_law_right", none), "_law_right", "_law_right", defArgs s__law_right, defBody s__law_right, defScope s__law_right, [], []⟩
def hd_law : He.DefD := ⟨("law", none), "law", "law", defArgs s_law, defBody s_law, defScope s_law, [], []⟩
def fn : List He.DefD := [hd__law_cup, hd__law_roll, hd__law_some, hd__law_line, hd_is_tuple_of, hd_is_rising, hd_is_whole, hd_fits_tile, hd_fits_tiles, hd_need_tiles, hd_tile_of, hd_fits_line, hd_is_line, hd_fits_any, hd_need_any, hd_print_line, hd_count_line_texts, hd_need_text, hd_Reading_here, hd_Reading_one_of, hd_halves_from, hd_Reading_line, hd_Reading___init__, hd_read_line, hd_tiles_told, hd__law_right, hd_law]
def fa : List He.Fa := [.free "abs", .free "list", .free "int", .free "len", .free "range", .free "min", .free "max", .free "tuple", .free "sorted", .free "isinstance", .free "all", .free "zip", .free "bool", .free "set", .free "str", .free "repr", .int "PIPS" 6, .int "TILES" 12, .int "HALVES" 13, .int "SIGNS" 20000, .glo "_law_cup", .glo "_law_roll", .glo "_law_some", .glo "_law_line", .glo "is_tuple_of", .glo "is_rising", .glo "is_whole", .glo "fits_tile", .glo "fits_tiles", .glo "need_tiles", .glo "tile_of", .glo "fits_line", .glo "is_line", .glo "fits_any", .glo "need_any", .glo "print_line", .glo "count_line_texts", .glo "need_text", .glo "halves_from", .glo "read_line", .glo "tiles_told", .glo "_law_right", .glo "law", .glo "Reading", .cls "Reading", .noat "Reading" "text", .noat "Reading" "at", .meth "Reading" "here", .meth "Reading" "one_of", .meth "Reading" "line", .mkr "Reading"]
def lo0 : List Str := ["TileError", "InvalidTiles", "InvalidLine", "InvalidText", "BadText", "PIPS", "TILES", "is_whole", "is_tuple_of", "is_rising", "fits_tile", "fits_tiles", "need_tiles", "tile_of", "fits_line", "is_line", "SIGNS", "HALVES", "need_text", "fits_any", "need_any", "halves_from", "Reading", "print_line", "read_line", "count_line_texts", "tiles_told", "_law_cup", "_law_roll", "_law_some", "_law_line", "_law_right"]
def loose : List Str := lo0
abbrev Rr : PySem.W.OpenRow := PySem.W.OpenLaw.row PySem.Challenge.rw_dominohall_k50_whole_lines_as_texts
abbrev hook : PySem.W.Hook := He.hookD 5 fa fn
def obs (s : PySem.W.SharedT) : He.AlD := He.obsDG 5 fa fn (HandSHeadRun.getT s)
theorem obs_eq (s : PySem.W.SharedT) : obs s = hook.obs s.abs := He.obsDG_eq (HandSHeadRun.getT_eq s)
theorem run (w : World) : HandSHeadRun.RunEq Rr (PySem.W.view Rr.prog [36]) hook obs 6000 loose w := by
  intro os
  kernel_rfl
theorem facts {K : PySem.W.Frag} {h : Heap} {mg : Str → Option Value} (X : K.In h) (G : h.Ns mainGlobals mg) (c : He.SaysD fa fn K) : Fc K mg where
  b_abs := He.free_ok X G (c.fact 0 (f := .free "abs") rfl)
  b_list := He.free_ok X G (c.fact 1 (f := .free "list") rfl)
  b_int := He.free_ok X G (c.fact 2 (f := .free "int") rfl)
  b_len := He.free_ok X G (c.fact 3 (f := .free "len") rfl)
  b_range := He.free_ok X G (c.fact 4 (f := .free "range") rfl)
  b_min := He.free_ok X G (c.fact 5 (f := .free "min") rfl)
  b_max := He.free_ok X G (c.fact 6 (f := .free "max") rfl)
  b_tuple := He.free_ok X G (c.fact 7 (f := .free "tuple") rfl)
  b_sorted := He.free_ok X G (c.fact 8 (f := .free "sorted") rfl)
  b_isinstance := He.free_ok X G (c.fact 9 (f := .free "isinstance") rfl)
  b_all := He.free_ok X G (c.fact 10 (f := .free "all") rfl)
  b_zip := He.free_ok X G (c.fact 11 (f := .free "zip") rfl)
  b_bool := He.free_ok X G (c.fact 12 (f := .free "bool") rfl)
  b_set := He.free_ok X G (c.fact 13 (f := .free "set") rfl)
  b_str := He.free_ok X G (c.fact 14 (f := .free "str") rfl)
  b_repr := He.free_ok X G (c.fact 15 (f := .free "repr") rfl)
  i_PIPS := He.int_ok X G (c.fact 16 (f := .int "PIPS" 6) rfl)
  i_TILES := He.int_ok X G (c.fact 17 (f := .int "TILES" 12) rfl)
  i_HALVES := He.int_ok X G (c.fact 18 (f := .int "HALVES" 13) rfl)
  i_SIGNS := He.int_ok X G (c.fact 19 (f := .int "SIGNS" 20000) rfl)
  d__law_cup := let ⟨fd, h⟩ := c.def_ 0 (d := hd__law_cup) rfl; ⟨_, fd, He.glo_ok X G (c.fact 20 (f := .glo "_law_cup") rfl), h⟩
  d__law_roll := let ⟨fd, h⟩ := c.def_ 1 (d := hd__law_roll) rfl; ⟨_, fd, He.glo_ok X G (c.fact 21 (f := .glo "_law_roll") rfl), h⟩
  d__law_some := let ⟨fd, h⟩ := c.def_ 2 (d := hd__law_some) rfl; ⟨_, fd, He.glo_ok X G (c.fact 22 (f := .glo "_law_some") rfl), h⟩
  d__law_line := let ⟨fd, h⟩ := c.def_ 3 (d := hd__law_line) rfl; ⟨_, fd, He.glo_ok X G (c.fact 23 (f := .glo "_law_line") rfl), h⟩
  d_is_tuple_of := let ⟨fd, h⟩ := c.def_ 4 (d := hd_is_tuple_of) rfl; ⟨_, fd, He.glo_ok X G (c.fact 24 (f := .glo "is_tuple_of") rfl), h⟩
  d_is_rising := let ⟨fd, h⟩ := c.def_ 5 (d := hd_is_rising) rfl; ⟨_, fd, He.glo_ok X G (c.fact 25 (f := .glo "is_rising") rfl), h⟩
  d_is_whole := let ⟨fd, h⟩ := c.def_ 6 (d := hd_is_whole) rfl; ⟨_, fd, He.glo_ok X G (c.fact 26 (f := .glo "is_whole") rfl), h⟩
  d_fits_tile := let ⟨fd, h⟩ := c.def_ 7 (d := hd_fits_tile) rfl; ⟨_, fd, He.glo_ok X G (c.fact 27 (f := .glo "fits_tile") rfl), h⟩
  d_fits_tiles := let ⟨fd, h⟩ := c.def_ 8 (d := hd_fits_tiles) rfl; ⟨_, fd, He.glo_ok X G (c.fact 28 (f := .glo "fits_tiles") rfl), h⟩
  d_need_tiles := let ⟨fd, h⟩ := c.def_ 9 (d := hd_need_tiles) rfl; ⟨_, fd, He.glo_ok X G (c.fact 29 (f := .glo "need_tiles") rfl), h⟩
  d_tile_of := let ⟨fd, h⟩ := c.def_ 10 (d := hd_tile_of) rfl; ⟨_, fd, He.glo_ok X G (c.fact 30 (f := .glo "tile_of") rfl), h⟩
  d_fits_line := let ⟨fd, h⟩ := c.def_ 11 (d := hd_fits_line) rfl; ⟨_, fd, He.glo_ok X G (c.fact 31 (f := .glo "fits_line") rfl), h⟩
  d_is_line := let ⟨fd, h⟩ := c.def_ 12 (d := hd_is_line) rfl; ⟨_, fd, He.glo_ok X G (c.fact 32 (f := .glo "is_line") rfl), h⟩
  d_fits_any := let ⟨fd, h⟩ := c.def_ 13 (d := hd_fits_any) rfl; ⟨_, fd, He.glo_ok X G (c.fact 33 (f := .glo "fits_any") rfl), h⟩
  d_need_any := let ⟨fd, h⟩ := c.def_ 14 (d := hd_need_any) rfl; ⟨_, fd, He.glo_ok X G (c.fact 34 (f := .glo "need_any") rfl), h⟩
  d_print_line := let ⟨fd, h⟩ := c.def_ 15 (d := hd_print_line) rfl; ⟨_, fd, He.glo_ok X G (c.fact 35 (f := .glo "print_line") rfl), h⟩
  d_count_line_texts := let ⟨fd, h⟩ := c.def_ 16 (d := hd_count_line_texts) rfl; ⟨_, fd, He.glo_ok X G (c.fact 36 (f := .glo "count_line_texts") rfl), h⟩
  d_need_text := let ⟨fd, h⟩ := c.def_ 17 (d := hd_need_text) rfl; ⟨_, fd, He.glo_ok X G (c.fact 37 (f := .glo "need_text") rfl), h⟩
  d_halves_from := let ⟨fd, h⟩ := c.def_ 20 (d := hd_halves_from) rfl; ⟨_, fd, He.glo_ok X G (c.fact 38 (f := .glo "halves_from") rfl), h⟩
  d_read_line := let ⟨fd, h⟩ := c.def_ 23 (d := hd_read_line) rfl; ⟨_, fd, He.glo_ok X G (c.fact 39 (f := .glo "read_line") rfl), h⟩
  d_tiles_told := let ⟨fd, h⟩ := c.def_ 24 (d := hd_tiles_told) rfl; ⟨_, fd, He.glo_ok X G (c.fact 40 (f := .glo "tiles_told") rfl), h⟩
  d__law_right := let ⟨fd, h⟩ := c.def_ 25 (d := hd__law_right) rfl; ⟨_, fd, He.glo_ok X G (c.fact 41 (f := .glo "_law_right") rfl), h⟩
  d_law := let ⟨fd, h⟩ := c.def_ 26 (d := hd_law) rfl; ⟨_, fd, He.glo_ok X G (c.fact 42 (f := .glo "law") rfl), h⟩
  c_Reading := by
    refine ⟨_, He.glo_ok X G (c.fact 43 (f := .glo "Reading") rfl), He.cls_ok (c.fact 44 (f := .cls "Reading") rfl), ?_, ?_, ?_⟩
    · intro f hf
      simp only [List.mem_cons, List.not_mem_nil, or_false] at hf
      rcases hf with rfl | rfl
      · exact He.noat_ok (c.fact 45 (f := .noat "Reading" "text") rfl)
      · exact He.noat_ok (c.fact 46 (f := .noat "Reading" "at") rfl)
    · intro m hm
      simp only [List.mem_cons, List.not_mem_nil, or_false] at hm
      rcases hm with rfl | rfl | rfl
      · obtain ⟨fd, h⟩ := c.def_ 18 (d := hd_Reading_here) rfl
        exact ⟨_, fd, He.meth_ok (c.fact 47 (f := .meth "Reading" "here") rfl), h⟩
      · obtain ⟨fd, h⟩ := c.def_ 19 (d := hd_Reading_one_of) rfl
        exact ⟨_, fd, He.meth_ok (c.fact 48 (f := .meth "Reading" "one_of") rfl), h⟩
      · obtain ⟨fd, h⟩ := c.def_ 21 (d := hd_Reading_line) rfl
        exact ⟨_, fd, He.meth_ok (c.fact 49 (f := .meth "Reading" "line") rfl), h⟩
    · obtain ⟨fd, h⟩ := c.def_ 22 (d := hd_Reading___init__) rfl
      exact ⟨_, fd, He.mkr_ok (c.fact 50 (f := .mkr "Reading") rfl), h⟩
theorem law_ex {K : PySem.W.Frag} {h : Heap} {mg : Str → Option Value} {f : Addr} (X : K.In h) (G : h.Ns mainGlobals mg) (c : He.SaysD fa fn K) (hf : mg ("law" : Str) = some (.ref f)) : ∃ fd, FunD K "law" "law" (defArgs s_law) (defBody s_law) (defScope s_law) [] [] f fd := by
  obtain ⟨f2, fd, e, h⟩ := (facts X G c).d_law
  rw [hf] at e
  cases e
  exact ⟨fd, h⟩
end F.L
open PySem PySem.W PySem.Calls PyProof.Rows in
theorem PySem.Challenge.cw_dominohall_k50_whole_lines_as_texts_holds : PySem.Challenge.rw_dominohall_k50_whole_lines_as_texts.Holds := by
  w_on; o_law
  refine HandSHeadRun.head_any (r := F.L.Rr) (q := view F.L.Rr.prog [36]) (H := F.L.hook) (ob := F.L.obs) (M := 6000) (loose := F.L.loose) (d := HandSHeadRun.topDef F.L.Rr.prog 36) (kwd := []) F.L.obs_eq
    (by kernel_rfl) (fun s => by kernel_rfl) F.L.run (by kernel_rfl) (by kernel_rfl) (by kernel_rfl) (by rfl) (by first | assumption | decide +kernel) (by decide +kernel) ⟨rfl, rfl, rfl, rfl, rfl, by decide +kernel⟩ ?hw ?hc
  case hw => w_witness2
  case hc =>
    refine F.walk_g (l := PySem.Challenge.rw_dominohall_k50_whole_lines_as_texts) (n := 63) (k := 7) (x := "script") (CX := L2.CX0) rfl (by decide) (by kernel_rfl) ⟨rfl, by decide, by decide⟩ F.caller_guards ?F (fun _ _ _ _ z => z)
    intro w mg fa h Y G e0
    obtain ⟨K, inK, c⟩ := Y
    have e1 : mg ("law" : PySem.Str) = some (.ref fa) := by
      have e : (HandSHeadRun.topDef F.L.Rr.prog 36).name = ("law" : PySem.Str) := by kernel_rfl
      rw [← e]
      exact e0
    obtain ⟨fd, fD⟩ := F.L.law_ex inK G c e1
    have bnd := L2.FunD.bindsA (ps := ["script"]) fD fun _ _ _ _ _ _ us hl => match us, hl with | [_], _ => rfl
    exact ⟨K, fd, _, inK, fun s v => bnd s [v] rfl, F.law_prom (n := 63) F.L.law_good, fun base _ _ => F.L.law_g (F.L.facts inK G c) fD⟩
