import PyProof.Rows.All
import Wide.All
import OpenK.AllK
import Wide.FinOn
import HandS.ForMost
import HandS.ForExc
import HandS.Wide
import HandS.Gcd
import HandS.IsInst
import HandS.DictComp
import HandS.Deep
import HandS.Property
import HandS.Walk
import HandS.Style
import HandS.WideBits
import HandS.TryMany
import HandS.Defaults
import HandS.CallSlots
import KE.KSortedM
import HandS.TupAny
import HandS.ExcSuper
import PySem.Challenge.RW_heldbyturns_k84_arena_judge_words
set_option Elab.async false
set_option linter.all false
set_option maxRecDepth 100000
set_option maxHeartbeats 4000000
/-! T1 -/
/-! T1: data, what stands for data in the heap, the state, outcomes. -/
namespace T
open PySem PySem.Spec PyProof.Rows L2

/-- plain data, as Python's values hold it -/
inductive D where
  | non | bl (b : Bool) | int (i : Int) | str (x : Str)
  | lst (xs : List D) | tup (xs : List D) | dic (kvs : List (Key × D)) | ins (c : Nat) (fs : List (Str × D)) | scr (xs : List D)
instance : Inhabited D := ⟨.non⟩

/-- where the text's classes stand -/
structure Gm0 where
  K : PySem.W.Frag
  cl : Nat → Addr
  ec : Nat → Addr

mutual
inductive Rep (Γ : Gm0) (G : Hp) : V → D → Prop
  | non : Rep Γ G .non .non
  | bl (b : Bool) : Rep Γ G (.bl b) (.bl b)
  | int (i : Int) : Rep Γ G (.int i) (.int i)
  | str (x : Str) : Rep Γ G (.str x) (.str x)
  | lst {a : Addr} {vs : List V} {ds : List D} : G a = some (.lst vs) → vs.length ≤ sizeLine → Reps Γ G vs ds → Rep Γ G (.ref a) (.lst ds)
  | scr {a : Addr} {vs : List V} {ds : List D} : SqL Γ.K G a vs → vs.length ≤ sizeLine → Reps Γ G vs ds → Rep Γ G (.ref a) (.scr ds)
  | tup {a : Addr} {vs : List V} {ds : List D} : SqT Γ.K G a vs → vs.length ≤ sizeLine → Reps Γ G vs ds → Rep Γ G (.ref a) (.tup ds)
  | dic {a : Addr} {kvs : List (Key × V)} {ds : List (Key × D)} : G a = some (.dK kvs) → kvs.length ≤ sizeLine → kvs.map (·.1) = ds.map (·.1) → Reps Γ G (kvs.map (·.2)) (ds.map (·.2)) → Rep Γ G (.ref a) (.dic ds)
  | ins {a dx : Addr} {c : Nat} {fs : List (Str × V)} {ds : List (Str × D)} : G a = some (.ins (Γ.cl c) dx fs) → fs.map (·.1) = ds.map (·.1) → Reps Γ G (fs.map (·.2)) (ds.map (·.2)) → Rep Γ G (.ref a) (.ins c ds)
inductive Reps (Γ : Gm0) (G : Hp) : List V → List D → Prop
  | nil : Reps Γ G [] []
  | cons {v : V} {d : D} {vs : List V} {ds : List D} : Rep Γ G v d → Reps Γ G vs ds → Reps Γ G (v :: vs) (d :: ds)
end

/-- all of G stands in G' -/
def Sub (G G' : Hp) : Prop := ∀ a o, G a = some o → G' a = some o
/-- all of G stands in H, a dict perhaps locked -/
def Ext (G H : Hp) : Prop := ∀ a o, G a = some o → H a = some o ∨ ∃ (ob : Obj) (kvs : List (Key × V)), o = .dK kvs ∧ H a = some (.frz ob o)
theorem Sub.refl (G : Hp) : Sub G G := fun _ _ h => h
theorem Sub.trans {A B C : Hp} (h : Sub A B) (k : Sub B C) : Sub A C := fun a o e => k a o (h a o e)
theorem Sub.ext {A B C : Hp} (h : Sub A B) (k : Ext B C) : Ext A C := fun a o e => k a o (h a o e)
theorem Sub.new {G : Hp} {p : Addr} {o : HO} (h : G p = none) : Sub G (upd G p o) := fun a u e => by
  rw [upd_ne (ne_of_none e h)]; exact e
theorem Ext.free {G H : Hp} (x : Ext G H) {p : Addr} (h : H p = none) : G p = none := by
  cases e : G p with
  | none => rfl
  | some o =>
    rcases x p o e with q | ⟨_, _, _, q⟩ <;> (rw [h] at q; cases q)
/-- a thing of which G says nothing changes -/
theorem Ext.mut {G H : Hp} (x : Ext G H) {p : Addr} {o : HO} (h : G p = none) : Ext G (upd H p o) := fun a u e => by
  have ne := ne_of_none e h
  rcases x a u e with q | ⟨ob, kvs, r, q⟩
  · exact .inl (by rw [upd_ne ne]; exact q)
  · exact .inr ⟨ob, kvs, r, by rw [upd_ne ne]; exact q⟩
/-- laid in both -/
theorem Ext.both {G H : Hp} (x : Ext G H) {p : Addr} {o : HO} (h : H p = none) : Ext (upd G p o) (upd H p o) := fun a u e => by
  by_cases z : a = p
  · subst z; rw [upd_same] at e ⊢; exact .inl e
  · rw [upd_ne z] at e
    rcases x a u e with q | ⟨ob, kvs, r, q⟩
    · exact .inl (by rw [upd_ne z]; exact q)
    · exact .inr ⟨ob, kvs, r, by rw [upd_ne z]; exact q⟩
/-- told of from now on -/
theorem Ext.tell {G H : Hp} (x : Ext G H) {p : Addr} {o : HO} (h : H p = some o) : Ext (upd G p o) H := fun a u e => by
  by_cases z : a = p
  · subst z; rw [upd_same] at e; cases e; exact .inl h
  · rw [upd_ne z] at e; exact x a u e
theorem Ext.at {G H : Hp} (x : Ext G H) {p : Addr} {o : HO} (h : G p = some o) (n : ∀ kvs, o ≠ .dK kvs) : H p = some o := by
  rcases x p o h with q | ⟨_, kvs, r, _⟩
  · exact q
  · exact absurd r (n kvs)
theorem Ext.rd {G H : Hp} (x : Ext G H) {p : Addr} {o : HO} (h : Rd G p o) : Rd H p o := by
  rcases h with h | ⟨ob, h⟩
  · rcases x p o h with q | ⟨ob, _, _, q⟩
    · exact .inl q
    · exact .inr ⟨ob, q⟩
  · exact .inr ⟨ob, x.at h (fun _ z => nomatch z)⟩
theorem Ext.sl {K : PySem.W.Frag} {G H : Hp} (x : Ext G H) {a : Addr} {xs : List V} (h : SqL K G a xs) : SqL K H a xs := h.elim (fun h => .inl (x.rd h)) .inr
theorem Ext.st {K : PySem.W.Frag} {G H : Hp} (x : Ext G H) {a : Addr} {xs : List V} (h : SqT K G a xs) : SqT K H a xs := h.elim (fun h => .inl (x.rd h)) .inr
theorem Sub.toExt {G H : Hp} (x : Sub G H) : Ext G H := fun a o e => .inl (x a o e)

mutual
theorem Rep.mono {Γ : Gm0} {G G' : Hp} (e : Sub G G') : ∀ {v : V} {d : D}, Rep Γ G v d → Rep Γ G' v d
  | _, _, .non => .non
  | _, _, .bl b => .bl b
  | _, _, .int i => .int i
  | _, _, .str x => .str x
  | _, _, .lst h z r => .lst (e _ _ h) z (Reps.mono e r)
  | _, _, .scr h z r => .scr (e.toExt.sl h) z (Reps.mono e r)
  | _, _, .tup h z r => .tup (e.toExt.st h) z (Reps.mono e r)
  | _, _, .dic h z k r => .dic (e _ _ h) z k (Reps.mono e r)
  | _, _, .ins h k r => .ins (e _ _ h) k (Reps.mono e r)
theorem Reps.mono {Γ : Gm0} {G G' : Hp} (e : Sub G G') : ∀ {vs : List V} {ds : List D}, Reps Γ G vs ds → Reps Γ G' vs ds
  | _, _, .nil => .nil
  | _, _, .cons a b => .cons (Rep.mono e a) (Reps.mono e b)
end
section
variable {Γ : Gm0} {G : Hp}
theorem Reps.length {vs : List V} {ds : List D} (r : Reps Γ G vs ds) : vs.length = ds.length := by
  induction vs generalizing ds with
  | nil => cases r; rfl
  | cons v vs ih => cases r with | cons a b => simp [ih b]
theorem Reps.get : ∀ {vs : List V} {ds : List D} {i : Nat} {v : V}, Reps Γ G vs ds → vs[i]? = some v → ∃ d, ds[i]? = some d ∧ Rep Γ G v d
  | _, _, _, _, .nil, e => by simp at e
  | _, _, 0, _, .cons a _, e => by simp at e; subst e; exact ⟨_, rfl, a⟩
  | _, _, i + 1, _, .cons _ b, e => by
    obtain ⟨d, h1, h2⟩ := Reps.get b (i := i) (by simpa using e)
    exact ⟨d, by simpa using h1, h2⟩
theorem Reps.at : ∀ {vs : List V} {ds : List D} {i : Nat} {d : D}, Reps Γ G vs ds → ds[i]? = some d → ∃ v, vs[i]? = some v ∧ Rep Γ G v d
  | _, _, _, _, .nil, e => by simp at e
  | _, _, 0, _, .cons a _, e => by simp at e; subst e; exact ⟨_, rfl, a⟩
  | _, _, i + 1, _, .cons _ b, e => by
    obtain ⟨d, h1, h2⟩ := Reps.at b (i := i) (by simpa using e)
    exact ⟨d, by simpa using h1, h2⟩
theorem Reps.append : ∀ {vs us : List V} {ds es : List D}, Reps Γ G vs ds → Reps Γ G us es → Reps Γ G (vs ++ us) (ds ++ es)
  | _, _, _, _, .nil, r => r
  | _, _, _, _, .cons a b, r => .cons a (Reps.append b r)
theorem Reps.set {u : V} {e : D} (k : Rep Γ G u e) : ∀ {vs : List V} {ds : List D} (i : Nat), Reps Γ G vs ds → Reps Γ G (vs.set i u) (ds.set i e)
  | _, _, _, .nil => .nil
  | _, _, 0, .cons _ b => .cons k b
  | _, _, i + 1, .cons a b => .cons a (Reps.set k i b)
theorem Reps.take : ∀ {vs : List V} {ds : List D} (n : Nat), Reps Γ G vs ds → Reps Γ G (vs.take n) (ds.take n)
  | _, _, 0, _ => .nil
  | _, _, _ + 1, .nil => .nil
  | _, _, n + 1, .cons a b => .cons a (Reps.take n b)
theorem Reps.drop : ∀ {vs : List V} {ds : List D} (n : Nat), Reps Γ G vs ds → Reps Γ G (vs.drop n) (ds.drop n)
  | _, _, 0, r => r
  | _, _, _ + 1, .nil => .nil
  | _, _, n + 1, .cons _ b => Reps.drop n b
theorem Reps.reverse : ∀ {vs : List V} {ds : List D}, Reps Γ G vs ds → Reps Γ G vs.reverse ds.reverse
  | _, _, .nil => .nil
  | _, _, .cons a b => by
    rw [List.reverse_cons, List.reverse_cons]
    exact Reps.append (Reps.reverse b) (.cons a .nil)
theorem Reps.dropLast : ∀ {vs : List V} {ds : List D}, Reps Γ G vs ds → Reps Γ G vs.dropLast ds.dropLast
  | _, _, .nil => .nil
  | _, _, .cons _ .nil => .nil
  | _, _, .cons a (.cons b c) => .cons a (Reps.dropLast (.cons b c))
theorem Reps.replicate {v : V} {d : D} (k : Rep Γ G v d) : ∀ n : Nat, Reps Γ G (List.replicate n v) (List.replicate n d)
  | 0 => .nil
  | n + 1 => .cons k (Reps.replicate k n)
end

/-- an object that is one's own: it may change -/
inductive O where
  | lst (ds : List D) | dic (kvs : List (Key × D)) | ins (c : Nat) (fs : List (Str × D))
def O.toD : O → D
  | .lst ds => .lst ds
  | .dic kvs => .dic kvs
  | .ins c fs => .ins c fs
/-- what the slot of a name holds -/
inductive Sl where
  | no | dat (d : D) | own (io : Option Nat) (o : O) | exn (c : Nat) (fs : List (Str × D))
abbrev En := List Sl

inductive ORep (Γ : Gm0) (G H : Hp) (a : Addr) : O → Prop
  | lst {vs : List V} {ds : List D} : H a = some (.lst vs) → vs.length ≤ sizeLine → Reps Γ G vs ds → ORep Γ G H a (.lst ds)
  | dic {kvs : List (Key × V)} {ds : List (Key × D)} : H a = some (.dK kvs) → kvs.length ≤ sizeLine → kvs.map (·.1) = ds.map (·.1) → Reps Γ G (kvs.map (·.2)) (ds.map (·.2)) → ORep Γ G H a (.dic ds)
  | ins {dx : Addr} {c : Nat} {fs : List (Str × V)} {ds : List (Str × D)} : H a = some (.ins (Γ.cl c) dx fs) → fs.map (·.1) = ds.map (·.1) → Reps Γ G (fs.map (·.2)) (ds.map (·.2)) → ORep Γ G H a (.ins c ds)
section
variable {Γ : Gm0} {G G' H H' : Hp} {a : Addr} {o : O}
theorem ORep.there (r : ORep Γ G H a o) : ∃ u, H a = some u := by
  cases r with
  | lst h _ _ => exact ⟨_, h⟩
  | dic h _ _ _ => exact ⟨_, h⟩
  | ins h _ _ => exact ⟨_, h⟩
theorem ORep.mono (r : ORep Γ G H a o) (e : Sub G G') (h : ∀ u, H a = some u → H' a = some u) : ORep Γ G' H' a o := by
  cases r with
  | lst x z r => exact .lst (h _ x) z (r.mono e)
  | dic x z k r => exact .dic (h _ x) z k (r.mono e)
  | ins x k r => exact .ins (h _ x) k (r.mono e)
/-- the object is told of: from then on it is data -/
theorem ORep.tell (r : ORep Γ G H a o) (n : G a = none) : ∃ u, H a = some u ∧ Rep Γ (upd G a u) (.ref a) o.toD := by
  cases r with
  | lst x z r => exact ⟨_, x, .lst upd_same z (r.mono (Sub.new n))⟩
  | dic x z k r => exact ⟨_, x, .dic upd_same z k (r.mono (Sub.new n))⟩
  | ins x k r => exact ⟨_, x, .ins upd_same k (r.mono (Sub.new n))⟩
end

/-- a slot's address is one's own -/
def Ow (σ : L2.St) (env : En) (b : Addr) : Prop := ∃ (i : Nat) (k : Option Nat) (o : O), env[i]? = some (.own k o) ∧ σ[i]? = some (some (.ref b))
/-- the slots and the heap stand for env; io: the addresses of the objects that the caller has lent -/
structure St (Γ : Gm0) (io : List Addr) (G H : Hp) (σ : L2.St) (env : En) : Prop where
  ex : Ext G H
  len : σ.length = env.length
  dat : ∀ (i : Nat) (d : D), env[i]? = some (.dat d) → ∃ v, σ[i]? = some (some v) ∧ Rep Γ G v d
  own : ∀ (i : Nat) (k : Option Nat) (o : O), env[i]? = some (.own k o) → ∃ a, σ[i]? = some (some (.ref a)) ∧ G a = none ∧ ORep Γ G H a o ∧ ∀ j : Nat, k = some j → io[j]? = some a
  sep : ∀ (i j : Nat) (k k' : Option Nat) (o o' : O) (a : Addr), env[i]? = some (.own k o) → env[j]? = some (.own k' o') → σ[i]? = some (some (.ref a)) → σ[j]? = some (some (.ref a)) → i = j
/-- what a step may do -/
structure Mv (σ : L2.St) (env : En) (G H : Hp) (σ' : L2.St) (env' : En) (G' H' : Hp) : Prop where
  sub : Sub G G'
  keep : ∀ b o, H b = some o → ¬ Ow σ env b → H' b = some o ∧ (G b = none → G' b = none)
  ow : ∀ b, Ow σ' env' b → Ow σ env b ∨ H b = none
  there : ∀ b o, H b = some o → ∃ o', H' b = some o'
section
variable {Γ : Gm0} {io : List Addr} {G G' G1 G2 H H' H1 H2 : Hp} {σ σ' σ1 σ2 : L2.St} {env env' env1 env2 : En}
theorem Mv.refl (σ : L2.St) (env : En) (G H : Hp) : Mv σ env G H σ env G H := ⟨Sub.refl _, fun _ _ h _ => ⟨h, id⟩, fun _ h => .inl h, fun _ o h => ⟨o, h⟩⟩
theorem Mv.trans (a : Mv σ env G H σ1 env1 G1 H1) (b : Mv σ1 env1 G1 H1 σ2 env2 G2 H2) : Mv σ env G H σ2 env2 G2 H2 where
  sub := a.sub.trans b.sub
  keep := fun x o h n => by
    obtain ⟨h1, g1⟩ := a.keep x o h n
    have n1 : ¬ Ow σ1 env1 x := fun z => (a.ow x z).elim n fun q => by rw [h] at q; cases q
    obtain ⟨h2, g2⟩ := b.keep x o h1 n1
    exact ⟨h2, fun z => g2 (g1 z)⟩
  ow := fun x z => by
    rcases b.ow x z with q | q
    · exact a.ow x q
    · by_cases n : Ow σ env x
      · exact .inl n
      · cases e : H x with
        | none => exact .inr rfl
        | some o => rw [(a.keep x o e n).1] at q; cases q
  there := fun x o h => let ⟨o1, h1⟩ := a.there x o h; b.there x o1 h1
theorem upd_there {p : Addr} {o : HO} (b : Addr) (u : HO) (h : H b = some u) : ∃ u', upd H p o b = some u' := by
  by_cases z : b = p
  · exact ⟨o, by rw [z]; exact upd_same⟩
  · exact ⟨u, by rw [upd_ne z]; exact h⟩
/-- a new object is laid: told of, or not -/
theorem Mv.laid {p : Addr} {o : HO} (h : H p = none) : Mv σ env G H σ env G (upd H p o) :=
  ⟨Sub.refl _, fun b u e _ => ⟨by rw [upd_ne (ne_of_none e h)]; exact e, id⟩, fun _ z => .inl z, upd_there⟩
theorem Mv.both {p : Addr} {o : HO} (x : Ext G H) (h : H p = none) : Mv σ env G H σ env (upd G p o) (upd H p o) :=
  ⟨Sub.new (x.free h), fun b u e _ => by
    have ne := ne_of_none e h
    exact ⟨by rw [upd_ne ne]; exact e, fun z => by rw [upd_ne ne]; exact z⟩, fun _ z => .inl z, upd_there⟩
theorem St.laid {p : Addr} {o : HO} (s : St Γ io G H σ env) (h : H p = none) : St Γ io G (upd H p o) σ env where
  ex := s.ex.mut (s.ex.free h)
  len := s.len
  dat := s.dat
  own := fun i k u e => by
    obtain ⟨a, h1, h2, h3, h4⟩ := s.own i k u e
    exact ⟨a, h1, h2, h3.mono (Sub.refl _) fun w q => by rw [upd_ne (ne_of_none q h)]; exact q, h4⟩
  sep := s.sep
theorem St.both {p : Addr} {o : HO} (s : St Γ io G H σ env) (h : H p = none) : St Γ io (upd G p o) (upd H p o) σ env where
  ex := s.ex.both h
  len := s.len
  dat := fun i d e => by
    obtain ⟨v, h1, h2⟩ := s.dat i d e
    exact ⟨v, h1, h2.mono (Sub.new (s.ex.free h))⟩
  own := fun i k u e => by
    obtain ⟨a, h1, h2, h3, h4⟩ := s.own i k u e
    obtain ⟨w, hw⟩ := h3.there
    have ne := ne_of_none hw h
    exact ⟨a, h1, by rw [upd_ne ne]; exact h2, h3.mono (Sub.new (s.ex.free h)) fun w q => by rw [upd_ne (ne_of_none q h)]; exact q, h4⟩
  sep := s.sep
/-- an object that is no slot's own is told of -/
theorem St.tell {p : Addr} {o : HO} (s : St Γ io G H σ env) (h : H p = some o) (n : G p = none) (no : ¬ Ow σ env p) : St Γ io (upd G p o) H σ env where
  ex := s.ex.tell h
  len := s.len
  dat := fun i d e => by
    obtain ⟨v, h1, h2⟩ := s.dat i d e
    exact ⟨v, h1, h2.mono (Sub.new n)⟩
  own := fun i k u e => by
    obtain ⟨a, h1, h2, h3, h4⟩ := s.own i k u e
    have ne : a ≠ p := fun z => no ⟨i, k, u, e, by rw [← z]; exact h1⟩
    exact ⟨a, h1, by rw [upd_ne ne]; exact h2, h3.mono (Sub.new n) fun w q => q, h4⟩
  sep := s.sep
end

section
variable {Γ : Gm0} {io : List Addr} {G G' H H' : Hp} {σ σ' : L2.St} {env env' : En}
/-- a new object of the step is told of -/
theorem Mv.tell {a : Addr} {u : HO} (m : Mv σ env G H σ' env' G' H') (ha : H a = none) (n : G' a = none) : Mv σ env G H σ' env' (upd G' a u) H' :=
  ⟨m.sub.trans (Sub.new n), fun b o e z => by
    obtain ⟨h1, h2⟩ := m.keep b o e z
    exact ⟨h1, fun q => by rw [upd_ne (ne_of_none e ha)]; exact h2 q⟩, m.ow, m.there⟩
/-- what is new behind a step is new -/
theorem Mv.back (m : Mv σ env G H σ' env' G' H') {a : Addr} (h : H' a = none) : H a = none := by
  cases e : H a with
  | none => rfl
  | some o =>
    obtain ⟨o', q⟩ := m.there a o e
    rw [h] at q; cases q
end
/-! ### outcomes -/
inductive R (α : Type) where
  | ok (a : α) (e : En) | exc (c : Nat) (fs : List (Str × D)) (e : En) | bad
def R.bind {α β : Type} : R α → (α → En → R β) → R β
  | .ok a e, k => k a e
  | .exc c fs e, _ => .exc c fs e
  | .bad, _ => .bad
@[simp] theorem R.bind_ok {α β : Type} (a : α) (e : En) (k : α → En → R β) : R.bind (.ok a e) k = k a e := rfl
@[simp] theorem R.bind_exc {α β : Type} (c : Nat) (fs : List (Str × D)) (e : En) (k : α → En → R β) : R.bind (.exc c fs e) k = .exc c fs e := rfl
@[simp] theorem R.bind_bad {α β : Type} (k : α → En → R β) : R.bind .bad k = .bad := rfl

/-- an exception's own dict -/
def XRep (Γ : Gm0) (G H : Hp) (dx : Addr) (fs : List (Str × D)) : Prop := ∃ vfs : List (Str × V), H dx = some (.xd vfs) ∧ vfs.map (·.1) = fs.map (·.1) ∧ Reps Γ G (vfs.map (·.2)) (fs.map (·.2))
def Out (Γ : Gm0) (io : List Addr) (W : WX) (σ : L2.St) (env : En) (G H : Hp) {α : Type} (r : R α) (Q : α → En → Hp → Hp → Prop) : Prop :=
  match r with
  | .ok a e => ∀ G' H', St Γ io G' H' σ e → Mv σ env G H σ e G' H' → Q a e G' H'
  | .exc c fs e => ∀ G' H' dx, St Γ io G' H' σ e → Mv σ env G H σ e G' H' → XRep Γ G' H' dx fs → W (.ref (Γ.ec c)) (some dx) σ H'
  | .bad => False
section
variable {Γ : Gm0} {io : List Addr} {W : WX} {σ : L2.St} {env : En} {G H : Hp} {α β : Type}
theorem Out.step {x : R α} {k : α → En → R β} {Q : β → En → Hp → Hp → Prop} (h : Out Γ io W σ env G H (x.bind k) Q) :
    Out Γ io W σ env G H x fun a e1 G1 H1 => Out Γ io W σ e1 G1 H1 (k a e1) Q := by
  cases x with
  | ok a e =>
    intro G1 H1 s1 m1
    have h' : Out Γ io W σ env G H (k a e) Q := h
    cases q : k a e with
    | ok b e2 => rw [q] at h'; exact fun G2 H2 s2 m2 => h' G2 H2 s2 (m1.trans m2)
    | exc c fs e2 => rw [q] at h'; exact fun G2 H2 dx s2 m2 => h' G2 H2 dx s2 (m1.trans m2)
    | bad => rw [q] at h'; exact h'.elim
  | exc c fs e => exact h
  | bad => exact h.elim
theorem Out.mono {x : R α} {Q Q' : α → En → Hp → Hp → Prop} (h : Out Γ io W σ env G H x Q) (k : ∀ a e G' H', St Γ io G' H' σ e → Mv σ env G H σ e G' H' → Q a e G' H' → Q' a e G' H') : Out Γ io W σ env G H x Q' := by
  cases x with
  | ok a e => exact fun G' H' s m => k a e G' H' s m (h G' H' s m)
  | exc c fs e => exact h
  | bad => exact h
end

/-! ### what an expression, a test, an argument list are worth -/
def SE (Γ : Gm0) (W : WX) (t : TE) (f : En → R D) : Prop := ∀ io G H σ env, St Γ io G H σ env → ∀ Q : VK, Out Γ io W σ env G H (f env) (fun d _ G' H' => ∀ v, Rep Γ G' v d → Q v H') → t σ H Q
def ST (Γ : Gm0) (W : WX) (t : TT) (f : En → R Bool) : Prop := ∀ io G H σ env, St Γ io G H σ env → ∀ Q : Bool → Hp → Prop, Out Γ io W σ env G H (f env) (fun b _ _ H' => Q b H') → t σ H Q
/-- a new object, no one's -/
def SF (Γ : Gm0) (W : WX) (t : TE) (f : En → R O) : Prop := ∀ io G H σ env, St Γ io G H σ env → ∀ Q : VK, Out Γ io W σ env G H (f env) (fun o e G' H' => ∀ a, H a = none → G' a = none → ¬ Ow σ e a → ORep Γ G' H' a o → Q (.ref a) H') → t σ H Q
/-- an argument: data, or a slot's own object, lent -/
inductive Ar where
  | d (d : D) | s (i : Nat)
inductive ARep (Γ : Gm0) (G : Hp) (σ : L2.St) : V → Ar → Prop
  | d {v : V} {d : D} : Rep Γ G v d → ARep Γ G σ v (.d d)
  | s {v : V} {i : Nat} : σ[i]? = some (some v) → ARep Γ G σ v (.s i)
inductive AReps (Γ : Gm0) (G : Hp) (σ : L2.St) : List V → List Ar → Prop
  | nil : AReps Γ G σ [] []
  | cons {v : V} {a : Ar} {vs : List V} {as : List Ar} : ARep Γ G σ v a → AReps Γ G σ vs as → AReps Γ G σ (v :: vs) (a :: as)
theorem AReps.mono {Γ : Gm0} {G G' : Hp} {σ : L2.St} (e : Sub G G') : ∀ {vs : List V} {as : List Ar}, AReps Γ G σ vs as → AReps Γ G' σ vs as
  | _, _, .nil => .nil
  | _, _, .cons (.d r) b => .cons (.d (r.mono e)) (AReps.mono e b)
  | _, _, .cons (.s r) b => .cons (.s r) (AReps.mono e b)
def SA (Γ : Gm0) (W : WX) (t : TA) (f : En → R (List Ar)) : Prop := ∀ io G H σ env, St Γ io G H σ env → ∀ Q : List V → Hp → Prop, Out Γ io W σ env G H (f env) (fun as _ G' H' => ∀ vs, AReps Γ G' σ vs as → Q vs H') → t σ H Q

/-! ### statements -/
inductive Fl where
  | nx | bk | ct | rt (d : D) | ro (o : O)
def OutS (Γ : Gm0) (io : List Addr) (W : WX) (σ : L2.St) (env : En) (G H : Hp) (r : R Fl) (D : Ends) : Prop :=
  match r with
  | .ok .nx e => ∀ σ' G' H', St Γ io G' H' σ' e → Mv σ env G H σ' e G' H' → D.nx σ' H'
  | .ok .bk e => ∀ σ' G' H', St Γ io G' H' σ' e → Mv σ env G H σ' e G' H' → D.bk σ' H'
  | .ok .ct e => ∀ σ' G' H', St Γ io G' H' σ' e → Mv σ env G H σ' e G' H' → D.ct σ' H'
  | .ok (.rt d) e => ∀ σ' G' H' v, St Γ io G' H' σ' e → Mv σ env G H σ' e G' H' → Rep Γ G' v d → D.rt v H'
  | .ok (.ro o) e => ∀ σ' G' H' a, St Γ io G' H' σ' e → Mv σ env G H σ' e G' H' → (∃ i : Nat, e[i]? = some (.own none o) ∧ σ'[i]? = some (some (.ref a))) → D.rt (.ref a) H'
  | .exc c fs e => ∀ σ' G' H' dx, St Γ io G' H' σ' e → Mv σ env G H σ' e G' H' → XRep Γ G' H' dx fs → W (.ref (Γ.ec c)) (some dx) σ' H'
  | .bad => False
def SS (Γ : Gm0) (W : WX) (t : TS) (f : En → R Fl) : Prop := ∀ io G H σ env, St Γ io G H σ env → ∀ D : Ends, OutS Γ io W σ env G H (f env) D → t D σ H
section
variable {Γ : Gm0} {io : List Addr} {W : WX} {σ σ1 : L2.St} {env env1 : En} {G H G1 H1 : Hp}
/-- later on the same is wanted -/
theorem OutS.shift {r : R Fl} {D : Ends} (h : OutS Γ io W σ env G H r D) (m : Mv σ env G H σ1 env1 G1 H1) : OutS Γ io W σ1 env1 G1 H1 r D := by
  cases r with
  | ok f e =>
    cases f with
    | nx => exact fun σ' G' H' s q => h σ' G' H' s (m.trans q)
    | bk => exact fun σ' G' H' s q => h σ' G' H' s (m.trans q)
    | ct => exact fun σ' G' H' s q => h σ' G' H' s (m.trans q)
    | rt d => exact fun σ' G' H' v s q r => h σ' G' H' v s (m.trans q) r
    | ro o => exact fun σ' G' H' a s q n => h σ' G' H' a s (m.trans q) n
  | exc c fs e => exact fun σ' G' H' dx s q => h σ' G' H' dx s (m.trans q)
  | bad => exact h
end
end T

/-! T2 -/
/-! T2: defs as functions on data; expressions and statements that bear what they are worth. -/
namespace T
open PySem PySem.Spec PyProof.Rows L2

/-! ### a def's worth -/
inductive A where
  | d (d : D) | o (o : O)
inductive Res where
  | ok (d : D) (os : List O) | fr (o : O) (os : List O) | exc (c : Nat) (fs : List (Str × D)) (os : List O) | bad
def initGo : Nat → List A → En
  | _, [] => []
  | j, .d d :: as => .dat d :: initGo j as
  | j, .o o :: as => .own (some j) o :: initGo (j + 1) as
def initEnv (as : List A) (n : Nat) : En := initGo 0 as ++ List.replicate (n - as.length) .no
def outs : Nat → List A → En → Option (List O)
  | _, [], _ => some []
  | j, .d _ :: as, _ :: e => outs j as e
  | j, .o _ :: as, .own (some j') o :: e => if j' = j then (outs (j + 1) as e).map (o :: ·) else none
  | _, _, _ => none
def fin (as : List A) (e : En) (k : List O → Res) : Res := match outs 0 as e with
  | some os => k os
  | none => .bad
def runDef (np n : Nat) (b : En → R Fl) (as : List A) : Res :=
  if as.length = np then match b (initEnv as n) with
    | .ok .nx e => fin as e (.ok .non)
    | .ok (.rt d) e => fin as e (.ok d)
    | .ok (.ro o) e => fin as e (.fr o)
    | .ok .bk _ => .bad
    | .ok .ct _ => .bad
    | .exc c fs e => fin as e (.exc c fs)
    | .bad => .bad
  else .bad

inductive AAs (Γ : Gm0) (G H : Hp) : List V → List A → List Addr → Prop
  | nil : AAs Γ G H [] [] []
  | d {v : V} {d : D} {vs : List V} {as : List A} {io : List Addr} : Rep Γ G v d → AAs Γ G H vs as io → AAs Γ G H (v :: vs) (.d d :: as) io
  | o {a : Addr} {o : O} {vs : List V} {as : List A} {io : List Addr} : G a = none → ORep Γ G H a o → AAs Γ G H vs as io → AAs Γ G H (.ref a :: vs) (.o o :: as) (a :: io)
inductive OsRep (Γ : Gm0) (G H : Hp) : List Addr → List O → Prop
  | nil : OsRep Γ G H [] []
  | cons {a : Addr} {o : O} {io : List Addr} {os : List O} : G a = none → ORep Γ G H a o → OsRep Γ G H io os → OsRep Γ G H (a :: io) (o :: os)
structure Fin (io : List Addr) (G H G' H' : Hp) : Prop where
  sub : Sub G G'
  ex : Ext G' H'
  keep : ∀ b o, H b = some o → b ∉ io → H' b = some o ∧ (G b = none → G' b = none)
def PostF (Γ : Gm0) (io : List Addr) (G H : Hp) (r : Res) (Q : VK) (E : XK) : Prop :=
  match r with
  | .ok d os => ∀ v G' H', Fin io G H G' H' → OsRep Γ G' H' io os → Rep Γ G' v d → Q v H'
  | .fr o os => ∀ a G' H', Fin io G H G' H' → OsRep Γ G' H' io os → H a = none → a ∉ io → G' a = none → ORep Γ G' H' a o → Q (.ref a) H'
  | .exc c fs os => ∀ dx G' H', Fin io G H G' H' → OsRep Γ G' H' io os → XRep Γ G' H' dx fs → E (.ref (Γ.ec c)) (some dx) H'
  | .bad => False
/-- what is promised of a def that is worth F -/
def spF (Γ : Gm0) (F : List A → Res) : Sp := fun vs H Q E => ∃ (G : Hp) (as : List A) (io : List Addr), Ext G H ∧ io.Nodup ∧ AAs Γ G H vs as io ∧ PostF Γ io G H (F as) Q E

section
variable {Γ : Gm0} {G H G' H' : Hp}
theorem AAs.length {vs : List V} {as : List A} {io : List Addr} (r : AAs Γ G H vs as io) : vs.length = as.length := by
  induction r with
  | nil => rfl
  | d _ _ ih => simp [ih]
  | o _ _ _ ih => simp [ih]
theorem initGo_length : ∀ (j : Nat) (as : List A), (initGo j as).length = as.length
  | _, [] => rfl
  | j, .d d :: as => by simp [initGo, initGo_length j as]
  | j, .o o :: as => by simp [initGo, initGo_length (j + 1) as]
theorem AAs.dat {vs : List V} {as : List A} {io : List Addr} (r : AAs Γ G H vs as io) : ∀ {j i : Nat} {d : D}, (initGo j as)[i]? = some (.dat d) → ∃ v, vs[i]? = some v ∧ Rep Γ G v d := by
  induction r with
  | nil => intro j i d e; simp [initGo] at e
  | d h r ih =>
    intro j i d e
    cases i with
    | zero => simp [initGo] at e; subst e; exact ⟨_, rfl, h⟩
    | succ i => simp [initGo] at e; simpa using ih e
  | o n h r ih =>
    intro j i d e
    cases i with
    | zero => simp [initGo] at e
    | succ i => simp [initGo] at e; simpa using ih e
theorem AAs.own {vs : List V} {as : List A} {io : List Addr} (r : AAs Γ G H vs as io) : ∀ {j i : Nat} {k : Option Nat} {o : O}, (initGo j as)[i]? = some (.own k o) →
    ∃ a m, vs[i]? = some (.ref a) ∧ G a = none ∧ ORep Γ G H a o ∧ k = some (j + m) ∧ io[m]? = some a := by
  induction r with
  | nil => intro j i k o e; simp [initGo] at e
  | d h r ih =>
    intro j i k o e
    cases i with
    | zero => simp [initGo] at e
    | succ i =>
      simp [initGo] at e
      obtain ⟨a, m, h1, h2⟩ := ih e
      exact ⟨a, m, by simpa using h1, h2⟩
  | o n h r ih =>
    intro j i k o e
    cases i with
    | zero => simp [initGo] at e; obtain ⟨rfl, rfl⟩ := e; exact ⟨_, 0, rfl, n, h, rfl, rfl⟩
    | succ i =>
      simp [initGo] at e
      obtain ⟨a, m, h1, h2, h3, h4, h5⟩ := ih e
      exact ⟨a, m + 1, by simpa using h1, h2, h3, by rw [h4]; congr 1; omega, by simpa using h5⟩
theorem getElem?_start {N : List Str} {vs : List V} {i : Nat} {x : V} (h : (start N vs)[i]? = some (some x)) : vs[i]? = some x := by
  unfold L2.start at h
  rw [List.getElem?_append] at h
  split at h
  · rw [List.getElem?_map] at h
    cases e : vs[i]? with
    | none => rw [e] at h; simp at h
    | some y => rw [e] at h; simpa using h
  · rw [List.getElem?_replicate] at h
    split at h <;> simp at h
theorem start_get {N : List Str} {vs : List V} {i : Nat} {x : V} (h : vs[i]? = some x) : (start N vs)[i]? = some (some x) := by
  unfold L2.start
  have hl := (List.getElem?_eq_some_iff.mp h).1
  rw [List.getElem?_append_left (by simpa using hl), List.getElem?_map, h]; rfl
theorem initEnv_get {as : List A} {n i : Nat} {s : Sl} (h : (initEnv as n)[i]? = some s) : (initGo 0 as)[i]? = some s ∨ s = .no := by
  unfold initEnv at h
  rw [List.getElem?_append] at h
  split at h
  · exact .inl h
  · rw [List.getElem?_replicate] at h
    split at h <;> simp at h
    exact .inr h.symm
theorem St.init {N : List Str} {vs : List V} {as : List A} {io : List Addr} {n : Nat} (x : Ext G H) (nd : io.Nodup) (r : AAs Γ G H vs as io) (hn : N.length = n) (hl : as.length ≤ n) : St Γ io G H (start N vs) (initEnv as n) where
  ex := x
  len := by
    unfold L2.start initEnv
    rw [List.length_append, List.length_append, List.length_map, List.length_replicate, List.length_replicate, initGo_length, r.length]
    omega
  dat := fun i d e => by
    rcases initEnv_get e with e | e
    · obtain ⟨v, h1, h2⟩ := r.dat e
      exact ⟨v, start_get h1, h2⟩
    · cases e
  own := fun i k o e => by
    rcases initEnv_get e with e | e
    · obtain ⟨a, m, h1, h2, h3, h4, h5⟩ := r.own e
      refine ⟨a, start_get h1, h2, h3, fun j hj => ?_⟩
      rw [h4] at hj
      cases hj
      simpa using h5
    · cases e
  sep := fun i j k k' o o' a e1 e2 s1 s2 => by
    rcases initEnv_get e1 with e1 | e1
    · rcases initEnv_get e2 with e2 | e2
      · -- the same address, so the same place in io, so the same slot
        have key : ∀ (jj : Nat) {vs : List V} {as : List A} {io : List Addr}, io.Nodup → AAs Γ G H vs as io → ∀ {i j : Nat} {k k' : Option Nat} {o o' : O}, (initGo jj as)[i]? = some (.own k o) → (initGo jj as)[j]? = some (.own k' o') → vs[i]? = some (.ref a) → vs[j]? = some (.ref a) → i = j := by
          intro jj vs as io nd r
          induction r generalizing jj with
          | nil => intro i j k k' o o' e; simp [initGo] at e
          | d h r ih =>
            intro i j k k' o o' e e' q q'
            cases i with
            | zero => simp [initGo] at e
            | succ i =>
              cases j with
              | zero => simp [initGo] at e'
              | succ j => simp [initGo] at e e'; rw [ih jj nd e e' (by simpa using q) (by simpa using q')]
          | o n h r ih =>
            intro i j k k' o o' e e' q q'
            obtain ⟨n1, n2⟩ := List.nodup_cons.mp nd
            cases i with
            | zero =>
              cases j with
              | zero => rfl
              | succ j =>
                simp [initGo] at e e' q q'
                subst q
                obtain ⟨a', m, h1, _, _, _, h5⟩ := r.own e'
                rw [q'] at h1; cases h1
                exact absurd (List.mem_of_getElem? h5) n1
            | succ i =>
              cases j with
              | zero =>
                simp [initGo] at e e' q q'
                subst q'
                obtain ⟨a', m, h1, _, _, _, h5⟩ := r.own e
                rw [q] at h1; cases h1
                exact absurd (List.mem_of_getElem? h5) n1
              | succ j => simp [initGo] at e e'; rw [ih (jj + 1) n2 e e' (by simpa using q) (by simpa using q')]
        exact key 0 nd r e1 e2 (getElem?_start s1) (getElem?_start s2)
      · cases e2
    · cases e1
theorem Ow.init {N : List Str} {vs : List V} {as : List A} {io : List Addr} {n : Nat} (r : AAs Γ G H vs as io) {b : Addr} (h : Ow (start N vs) (initEnv as n) b) : b ∈ io := by
  obtain ⟨i, k, o, e, s⟩ := h
  rcases initEnv_get e with e | e
  · obtain ⟨a, m, h1, h2, h3, h4, h5⟩ := r.own e
    have q := getElem?_start s
    rw [h1] at q; cases q
    exact List.mem_of_getElem? h5
  · cases e
/-- what a def hands back of the lent objects -/
theorem OsRep.of {σ : L2.St} {env : En} {io : List Addr} (s : St Γ io G' H' σ env) {vs : List V} {as : List A} {io2 : List Addr} (r : AAs Γ G H vs as io2) :
    ∀ {j : Nat} {p : Nat} {os : List O}, (∀ m, io[j + m]? = io2[m]?) → outs j as (env.drop p) = some os → OsRep Γ G' H' io2 os ∧ ∀ a ∈ io2, ∃ (i m : Nat) (o : O), env[i]? = some (.own (some m) o) ∧ io[m]? = some a := by
  induction r with
  | nil => intro j p os _ h; simp [outs] at h; subst h; exact ⟨.nil, fun a ha => by simp at ha⟩
  | d h r ih =>
    intro j p os hj h
    cases e : env.drop p with
    | nil => rw [e] at h; simp [outs] at h
    | cons x y =>
      rw [e] at h
      have e2 : env.drop (p + 1) = y := by rw [← List.drop_drop, e]; rfl
      simp only [outs] at h
      rw [← e2] at h
      exact ih hj h
  | @o a o vs as io2 n h r ih =>
    intro j p os hj h
    cases e : env.drop p with
    | nil => rw [e] at h; simp [outs] at h
    | cons x y =>
      rw [e] at h
      have e2 : env.drop (p + 1) = y := by rw [← List.drop_drop, e]; rfl
      cases x with
      | own k o' =>
        cases k with
        | none => simp [outs] at h
        | some j' =>
          simp only [outs] at h
          split at h
          · rename_i ej
            subst ej
            cases q : outs (j' + 1) as y with
            | none => rw [q] at h; simp at h
            | some os' =>
              rw [q] at h
              simp at h
              subst h
              have hp : env[p]? = some (.own (some j') o') := by
                have := congrArg List.head? e
                rw [List.head?_drop] at this
                simpa using this
              obtain ⟨a', s1, s2, s3, s4⟩ := s.own p _ _ hp
              have s5 := s4 j' rfl
              have s6 := hj 0
              simp at s6
              rw [s5] at s6
              cases s6
              rw [← e2] at q
              obtain ⟨i1, i2⟩ := ih (j := j' + 1) (fun m => by have := hj (m + 1); simpa [Nat.add_assoc, Nat.add_comm 1 m] using this) q
              refine ⟨.cons s2 s3 i1, fun b hb => ?_⟩
              rcases List.mem_cons.mp hb with z | z
              · subst z; exact ⟨p, j', o', hp, s5⟩
              · exact i2 b z
          · cases h
      | no => simp [outs] at h
      | dat d => simp [outs] at h
      | exn c fs => simp [outs] at h
end
theorem fin_yes {as : List A} {e : En} {k : List O → Res} {os : List O} (h : outs 0 as e = some os) : fin as e k = k os := by unfold fin; rw [h]
theorem fin_no {as : List A} {e : En} {k : List O → Res} (h : outs 0 as e = none) : fin as e k = .bad := by unfold fin; rw [h]
/-- THE RULE of a def's body -/
theorem run_ok {Γ : Gm0} {N : List Str} {np n : Nat} {b : En → R Fl} {t : TS} {vs : List V} {H : Hp} {Q : VK} {E : XK} (hn : N.length = n) (hp : np ≤ n) (S : SS Γ (fun cls d _ H' => E cls d H') t b) (h : spF Γ (runDef np n b) vs H Q E) :
    t { nx := fun _ H' => Q .non H', rt := Q } (start N vs) H := by
  obtain ⟨G, as, io, x, nd, r, p⟩ := h
  unfold runDef at p
  split at p
  · rename_i hl
    have s0 := St.init (N := N) (n := n) x nd r hn (by omega)
    have keep : ∀ {σ' : L2.St} {e : En} {G' H' : Hp}, Mv (start N vs) (initEnv as n) G H σ' e G' H' → ∀ b o, H b = some o → b ∉ io → H' b = some o ∧ (G b = none → G' b = none) := fun m b o hb nb => m.keep b o hb fun z => nb (Ow.init r z)
    have fi : ∀ {σ' : L2.St} {e : En} {G' H' : Hp}, St Γ io G' H' σ' e → Mv (start N vs) (initEnv as n) G H σ' e G' H' → Fin io G H G' H' := fun s m => ⟨m.sub, s.ex, keep m⟩
    have os_of : ∀ {σ' : L2.St} {e : En} {G' H' : Hp} {os : List O}, St Γ io G' H' σ' e → outs 0 as e = some os → OsRep Γ G' H' io os ∧ ∀ a ∈ io, ∃ (i m : Nat) (o : O), e[i]? = some (.own (some m) o) ∧ io[m]? = some a := fun s q =>
      OsRep.of s r (j := 0) (p := 0) (fun m => by rw [Nat.zero_add]) (by simpa using q)
    refine S io G H _ _ s0 _ ?_
    cases q : b (initEnv as n) with
    | bad => rw [q] at p; exact p.elim
    | exc c fs e =>
      rw [q] at p
      dsimp only at p
      cases ho : outs 0 as e with
      | none => rw [fin_no ho] at p; exact p.elim
      | some os =>
        rw [fin_yes ho] at p
        exact fun σ' G' H' dx s m xr => p dx G' H' (fi s m) (os_of s ho).1 xr
    | ok f e =>
      rw [q] at p
      cases f with
      | bk => exact p.elim
      | ct => exact p.elim
      | nx =>
        simp only at p
        cases ho : outs 0 as e with
        | none => rw [fin_no ho] at p; exact p.elim
        | some os =>
          rw [fin_yes ho] at p
          exact fun σ' G' H' s m => p .non G' H' (fi s m) (os_of s ho).1 .non
      | rt d =>
        simp only at p
        cases ho : outs 0 as e with
        | none => rw [fin_no ho] at p; exact p.elim
        | some os =>
          rw [fin_yes ho] at p
          exact fun σ' G' H' v s m rv => p v G' H' (fi s m) (os_of s ho).1 rv
      | ro o =>
        simp only at p
        cases ho : outs 0 as e with
        | none => rw [fin_no ho] at p; exact p.elim
        | some os =>
          rw [fin_yes ho] at p
          intro σ' G' H' a s m ⟨i, e1, e2⟩
          obtain ⟨a', o1, o2, o3, o4⟩ := s.own i _ _ e1
          rw [e2] at o1; cases o1
          obtain ⟨p1, p2⟩ := os_of s ho
          have ni : a ∉ io := fun ha => by
            obtain ⟨i', m', o', e3, e4⟩ := p2 a ha
            obtain ⟨a2, o1', _, _, o4'⟩ := s.own i' _ _ e3
            have e5 := o4' m' rfl
            rw [e4] at e5; cases e5
            have := s.sep i i' _ _ _ _ a e1 e3 e2 o1'
            subst this
            rw [e1] at e3; cases e3
          refine p a G' H' (fi s m) p1 ?_ ni o2 o3
          rcases m.ow a ⟨i, _, _, e1, e2⟩ with z | z
          · exact absurd (Ow.init r z) ni
          · exact z
  · exact p.elim
end T

/-! T3 -/
/-! T3: expressions that bear what they are worth. -/
namespace T
open PySem PySem.Spec PyProof.Rows L2

/-- what of the text a law uses: classes, attributes, the order of the exception classes, constants -/
structure Tab where
  ncl : Nat
  att : List (Nat × Str)
  sub : Nat → Nat → Option Bool
  gls : List (Str × D)
structure Gm (τ : Tab) extends Gm0 where
  cls : ∀ c, c < τ.ncl → Cls K (cl c)
  noat : ∀ p ∈ τ.att, NoAttr K (cl p.1) p.2
  exm : ∀ c c' b, τ.sub c c' = some b → PySem.W.exmOne K (.ref (ec c)) (.ref (ec c')) = some b
  gv : Str → V
  glo : ∀ p ∈ τ.gls, ∀ G : Hp, Rep toGm0 G (gv p.1) p.2

structure EX (τ : Tab) where
  te : Gm τ → WX → TE
  ev : En → R D
  ok : ∀ (Γ : Gm τ) (W : WX), SE Γ.toGm0 W (te Γ W) ev
structure TX (τ : Tab) where
  tt : Gm τ → WX → TT
  ev : En → R Bool
  ok : ∀ (Γ : Gm τ) (W : WX), ST Γ.toGm0 W (tt Γ W) ev
structure FX (τ : Tab) where
  te : Gm τ → WX → TE
  ev : En → R O
  ok : ∀ (Γ : Gm τ) (W : WX), SF Γ.toGm0 W (te Γ W) ev
structure AX (τ : Tab) where
  ta : Gm τ → WX → TA
  ev : En → R (List Ar)
  ok : ∀ (Γ : Gm τ) (W : WX), SA Γ.toGm0 W (ta Γ W) ev

variable {τ : Tab}
section
variable {Γ : Gm0} {io : List Addr} {G G' H H' : Hp} {σ : L2.St} {env : En} {W : WX}
theorem St.mono (s : St Γ io G H σ env) : True := trivial
/-- the step that is none -/
theorem Out.here {α : Type} {a : α} {Q : α → En → Hp → Hp → Prop} (h : Out Γ io W σ env G H (.ok a env) Q) (s : St Γ io G H σ env) : Q a env G H := h G H s (Mv.refl _ _ _ _)
/-- a slot's own object is told of -/
theorem St.freeze {i : Nat} {o : O} (s : St Γ io G H σ env) (e : env[i]? = some (.own none o)) :
    ∃ a u, σ[i]? = some (some (.ref a)) ∧ St Γ io (upd G a u) H σ (env.set i (.dat o.toD)) ∧ Mv σ env G H σ (env.set i (.dat o.toD)) (upd G a u) H ∧ Rep Γ (upd G a u) (.ref a) o.toD := by
  obtain ⟨a, h1, h2, h3, h4⟩ := s.own i _ _ e
  obtain ⟨u, hu, rep⟩ := h3.tell h2
  have hi : i < env.length := (List.getElem?_eq_some_iff.mp e).1
  have get : ∀ {j : Nat} {x : Sl}, (env.set i (.dat o.toD))[j]? = some x → (j = i ∧ x = .dat o.toD) ∨ (j ≠ i ∧ env[j]? = some x) := fun {j x} q => by
    by_cases z : i = j
    · subst z; rw [List.getElem?_set_self hi] at q; exact .inl ⟨rfl, (Option.some.inj q).symm⟩
    · rw [List.getElem?_set_ne z] at q; exact .inr ⟨Ne.symm z, q⟩
  refine ⟨a, u, h1, ⟨s.ex.tell hu, by simpa using s.len, fun j d q => ?_, fun j k o' q => ?_, fun j j' k k' o1 o2 b q q' t t' => ?_⟩, ⟨Sub.new h2, fun b w hb n => ⟨hb, fun z => ?_⟩, fun b hb => ?_, fun _ o z => ⟨o, z⟩⟩, rep⟩
  · rcases get q with ⟨z, w⟩ | ⟨_, w⟩
    · subst z; cases w; exact ⟨_, h1, rep⟩
    · obtain ⟨v, g1, g2⟩ := s.dat j d w
      exact ⟨v, g1, g2.mono (Sub.new h2)⟩
  · rcases get q with ⟨_, w⟩ | ⟨nj, w⟩
    · cases w
    · obtain ⟨b, g1, g2, g3, g4⟩ := s.own j k o' w
      have ne : b ≠ a := fun z => nj (s.sep j i _ _ _ _ b w e g1 (by rw [z]; exact h1))
      exact ⟨b, g1, by rw [upd_ne ne]; exact g2, g3.mono (Sub.new h2) fun _ x => x, g4⟩
  · rcases get q with ⟨_, w⟩ | ⟨_, w⟩
    · cases w
    · rcases get q' with ⟨_, w'⟩ | ⟨_, w'⟩
      · cases w'
      · exact s.sep j j' _ _ _ _ b w w' t t'
  · have ne : b ≠ a := fun q => n ⟨i, _, _, e, by rw [q]; exact h1⟩
    rw [upd_ne ne]; exact z
  · obtain ⟨j, k, o', q, t⟩ := hb
    rcases get q with ⟨_, w⟩ | ⟨_, w⟩
    · cases w
    · exact .inl ⟨j, k, o', w, t⟩
end

/-! ### names, constants -/
/-- a name: data; or an own object, which is data from now on -/
def evVar (i : Nat) (env : En) : R D := match env[i]? with
  | some (.dat d) => .ok d env
  | some (.own none o) => .ok o.toD (env.set i (.dat o.toD))
  | _ => .bad
def EX.var (i : Nat) : EX τ where
  te := fun _ _ => tVar i
  ev := evVar i
  ok := fun Γ W io G H σ env s Q h => by
    unfold evVar at h
    split at h
    · rename_i d e
      obtain ⟨v, h1, h2⟩ := s.dat i d e
      exact ⟨v, h1, h.here s v h2⟩
    · rename_i o e
      obtain ⟨a, u, h1, h2, h3, h4⟩ := s.freeze e
      exact ⟨_, h1, h _ _ h2 h3 _ h4⟩
    · exact h.elim
def EX.non : EX τ := ⟨fun _ _ => tC .non, fun env => .ok .non env, fun _ _ _ _ _ _ _ s _ h => h.here s _ .non⟩
def EX.bl (b : Bool) : EX τ := ⟨fun _ _ => tC (.bl b), fun env => .ok (.bl b) env, fun _ _ _ _ _ _ _ s _ h => h.here s _ (.bl b)⟩
def EX.int (i : Int) : EX τ := ⟨fun _ _ => tC (.int i), fun env => .ok (.int i) env, fun _ _ _ _ _ _ _ s _ h => h.here s _ (.int i)⟩
def EX.str (x : Str) : EX τ := ⟨fun _ _ => tC (.str x), fun env => .ok (.str x) env, fun _ _ _ _ _ _ _ s _ h => h.here s _ (.str x)⟩
/-- a constant of the module -/
def lookG (τ : Tab) (x : Str) : Option D := (τ.gls.find? fun p => p.1 == x).map (·.2)
def EX.glob (x : Str) : EX τ where
  te := fun Γ _ => tC (Γ.gv x)
  ev := fun env => match lookG τ x with
    | some d => .ok d env
    | none => .bad
  ok := fun Γ W io G H σ env s Q h => by
    cases e : lookG τ x with
    | none => rw [e] at h; exact h.elim
    | some d =>
      rw [e] at h
      unfold lookG at e
      cases q : τ.gls.find? fun p => p.1 == x with
      | none => rw [q] at e; cases e
      | some p =>
        rw [q] at e
        cases e
        have hp := List.mem_of_find?_eq_some q
        have hx : p.1 = x := by simpa using List.find?_some q
        exact h.here s _ (by rw [← hx]; exact Γ.glo p hp G)

/-! ### operations on values -/
/-- an operation by values: r keeps to f -/
def Keeps2 (r : Gm τ → R2) (f : D → D → Option D) : Prop := ∀ (Γ : Gm τ) (io : List Addr) (G H : Hp) (σ : L2.St) (env : En) (x y : V) (d e z : D), St Γ.toGm0 io G H σ env → Rep Γ.toGm0 G x d → Rep Γ.toGm0 G y e → f d e = some z →
  ∀ Q : VK, (∀ v G' H', St Γ.toGm0 io G' H' σ env → Mv σ env G H σ env G' H' → Rep Γ.toGm0 G' v z → Q v H') → r Γ x y H Q
def R.of {α : Type} (o : Option α) (env : En) : R α := match o with
  | some a => .ok a env
  | none => .bad
@[simp] theorem R.of_some {α : Type} (a : α) (env : En) : R.of (some a) env = .ok a env := rfl
@[simp] theorem R.of_none {α : Type} (env : En) : (R.of none env : R α) = .bad := rfl
def ev2 (f : D → D → Option D) (a b : En → R D) (env : En) : R D := (a env).bind fun d e1 => (b e1).bind fun e e2 => R.of (f d e) e2
theorem se_op2 {r : Gm τ → R2} {f : D → D → Option D} (k : Keeps2 r f) (a b : EX τ) (Γ : Gm τ) (W : WX) : SE Γ.toGm0 W (tOp (r Γ) (a.te Γ W) (b.te Γ W)) (ev2 f a.ev b.ev) := by
  intro io G H σ env s Q h
  refine a.ok Γ W io G H σ env s _ ((Out.step h).mono fun d e1 G1 H1 s1 m1 h1 x rx => ?_)
  refine b.ok Γ W io G1 H1 σ e1 s1 _ ((Out.step h1).mono fun e e2 G2 H2 s2 m2 h2 y ry => ?_)
  cases q : f d e with
  | none => rw [q] at h2; exact h2.elim
  | some z =>
    rw [q] at h2
    exact k Γ io G2 H2 σ e2 x y d e z s2 (rx.mono m2.sub) ry q Q fun v G3 H3 s3 m3 rv => h2 G3 H3 s3 m3 v rv
def EX.op2 (r : Gm τ → R2) (f : D → D → Option D) (k : Keeps2 r f) (a b : EX τ) : EX τ := ⟨fun Γ W => tOp (r Γ) (a.te Γ W) (b.te Γ W), ev2 f a.ev b.ev, se_op2 k a b⟩
def Keeps1 (r : Gm τ → V → Hp → VK → Prop) (f : D → Option D) : Prop := ∀ (Γ : Gm τ) (io : List Addr) (G H : Hp) (σ : L2.St) (env : En) (x : V) (d z : D), St Γ.toGm0 io G H σ env → Rep Γ.toGm0 G x d → f d = some z →
  ∀ Q : VK, (∀ v G' H', St Γ.toGm0 io G' H' σ env → Mv σ env G H σ env G' H' → Rep Γ.toGm0 G' v z → Q v H') → r Γ x H Q
def ev1 (f : D → Option D) (a : En → R D) (env : En) : R D := (a env).bind fun d e1 => R.of (f d) e1
def EX.op1 (r : Gm τ → V → Hp → VK → Prop) (f : D → Option D) (k : Keeps1 r f) (a : EX τ) : EX τ where
  te := fun Γ W => tUn (r Γ) (a.te Γ W)
  ev := ev1 f a.ev
  ok := fun Γ W io G H σ env s Q h => by
    refine a.ok Γ W io G H σ env s _ ((Out.step h).mono fun d e1 G1 H1 s1 m1 h1 x rx => ?_)
    cases q : f d with
    | none => rw [q] at h1; exact h1.elim
    | some z =>
      rw [q] at h1
      exact k Γ io G1 H1 σ e1 x d z s1 rx q Q fun v G2 H2 s2 m2 rv => h1 G2 H2 s2 m2 v rv

/-! #### ints -/
def fI (g : Int → Int → Int) (c : Int → Int → Bool) : D → D → Option D
  | .int i, .int j => if c i j then some (.int (g i j)) else none
  | _, _ => none
def fIB (g : Int → Int → Bool) : D → D → Option D
  | .int i, .int j => some (.bl (g i j))
  | _, _ => none
theorem k_I0 {g : Int → Int → Int} : Keeps2 (τ := τ) (fun _ => rI0 fun i j => .int (g i j)) (fI g fun _ _ => true) := by
  intro Γ io G H σ env x y d e z s rx ry h Q q
  cases rx <;> cases ry <;> simp [fI] at h
  subst h
  exact ⟨_, _, rfl, rfl, q _ _ _ s (Mv.refl _ _ _ _) (.int _)⟩
theorem k_I {C : Int → Int → Prop} {g : Int → Int → Int} {c : Int → Int → Bool} (hc : ∀ i j, c i j = true → C i j) : Keeps2 (τ := τ) (fun _ => rI C fun i j => .int (g i j)) (fI g c) := by
  intro Γ io G H σ env x y d e z s rx ry h Q q
  cases rx <;> cases ry <;> simp [fI] at h
  obtain ⟨h1, h2⟩ := h
  subst h2
  exact ⟨_, _, rfl, rfl, hc _ _ h1, q _ _ _ s (Mv.refl _ _ _ _) (.int _)⟩
theorem k_IB {g : Int → Int → Bool} : Keeps2 (τ := τ) (fun _ => rI0 fun i j => .bl (g i j)) (fIB g) := by
  intro Γ io G H σ env x y d e z s rx ry h Q q
  cases rx <;> cases ry <;> simp [fIB] at h
  subst h
  exact ⟨_, _, rfl, rfl, q _ _ _ s (Mv.refl _ _ _ _) (.bl _)⟩
def mulC (i j : Int) : Bool := decide (i.natAbs.log2 + j.natAbs.log2 < 1000000)
def divC (_ j : Int) : Bool := decide (0 < j) && decide (j.natAbs.log2 < 9000)
def modC (_ j : Int) : Bool := decide (0 < j)
def powC (i j : Int) : Bool := decide (0 ≤ j) && decide (j ≤ 1000000) && decide (i.natAbs < 2 ^ 64)
def EX.sub (a b : EX τ) : EX τ := EX.op2 (fun _ => rI0 fun i j => .int (i - j)) _ k_I0 a b
def EX.mul (a b : EX τ) : EX τ := EX.op2 (fun _ => rI CMulW fun i j => .int (i * j)) (fI (fun i j => i * j) mulC) (k_I fun i j h => by simpa [mulC, CMulW] using h) a b
def EX.fdiv (a b : EX τ) : EX τ := EX.op2 (fun _ => rI CDivW fun i j => .int (i / j)) (fI (fun i j => i / j) divC) (k_I fun i j h => by simpa [divC, CDivW] using h) a b
def EX.mod (a b : EX τ) : EX τ := EX.op2 (fun _ => rI (fun _ j => 0 < j) fun i j => .int (i % j)) (fI (fun i j => i % j) modC) (k_I fun i j h => by simpa [modC] using h) a b
def EX.pow (a b : EX τ) : EX τ := EX.op2 (fun _ => rI CPow fun i j => .int (i ^ j.toNat)) (fI (fun i j => i ^ j.toNat) powC) (k_I fun i j h => by
  simp only [powC, Bool.and_eq_true, decide_eq_true_eq] at h
  exact ⟨h.1.1, h.1.2, h.2⟩) a b
def EX.lt (a b : EX τ) : EX τ := EX.op2 (fun _ => rI0 fun i j => .bl (decide (i < j))) _ k_IB a b
def EX.le (a b : EX τ) : EX τ := EX.op2 (fun _ => rI0 fun i j => .bl (decide (i ≤ j))) _ k_IB a b
def EX.gt (a b : EX τ) : EX τ := EX.op2 (fun _ => rI0 fun i j => .bl (decide (j < i))) _ k_IB a b
def EX.ge (a b : EX τ) : EX τ := EX.op2 (fun _ => rI0 fun i j => .bl (decide (j ≤ i))) _ k_IB a b
def fNeg : D → Option D
  | .int i => some (.int (-i))
  | _ => none
def EX.neg (a : EX τ) : EX τ := EX.op1 (fun _ => rU fun i => .int (-i)) fNeg (by
  intro Γ io G H σ env x d z s rx h Q q
  cases rx <;> simp [fNeg] at h
  subst h
  exact ⟨_, rfl, q _ _ _ s (Mv.refl _ _ _ _) (.int _)⟩) a

/-! #### a + b of ints, texts, lists, tuples -/
def rAddA (K : PySem.W.Frag) : R2 := fun x y H Q => rI0 (fun i j => .int (i + j)) x y H Q ∨ (∃ i j, x = .str i ∧ y = .str j ∧ i.length + j.length ≤ sizeLine ∧ Q (.str (i ++ j)) H) ∨
  rCat x y H Q ∨ rCatT K x y H Q
def capd (n : Nat) : Bool := decide (n ≤ 16000000)
theorem capd_ok {n : Nat} (h : capd n = true) : n ≤ sizeLine := by
  have := of_decide_eq_true h
  rw [sizeLine_eq]; omega
theorem capd_lt {n : Nat} (h : capd n = true) : n < sizeLine := by
  have := of_decide_eq_true h
  rw [sizeLine_eq]; omega
end T

/-! T4 -/
/-! T4: sums, comparisons, tests, arguments, displays, calls. -/
namespace T
open PySem PySem.Spec PyProof.Rows L2
variable {τ : Tab}

theorem op_addA {X : Cx} : OpR X (binaryOp .Add) (rAddA X.K) := op_add.or (op_add_str.or (op_cat.or op_catT))
def fAdd : D → D → Option D
  | .int i, .int j => some (.int (i + j))
  | .str x, .str y => if capd (x.length + y.length) then some (.str (x ++ y)) else none
  | .lst xs, .lst ys => if capd (xs.length + ys.length) then some (.lst (xs ++ ys)) else none
  | .tup (x :: xs), .tup [] => some (.tup (x :: xs))
  | .tup (x :: xs), .tup (y :: ys) => if capd ((x :: xs).length + (y :: ys).length) then some (.tup (x :: xs ++ y :: ys)) else none
  | _, _ => none
theorem k_add : Keeps2 (τ := τ) (fun Γ => rAddA Γ.K) fAdd := by
  intro Γ io G H σ env x y d e z s rx ry h Q q
  cases rx with
  | int i =>
    cases ry with
    | int j => simp [fAdd] at h; subst h; exact .inl ⟨_, _, rfl, rfl, q _ _ _ s (Mv.refl _ _ _ _) (.int _)⟩
    | _ => simp [fAdd] at h
  | str i =>
    cases ry with
    | str j =>
      simp [fAdd] at h
      obtain ⟨h1, h2⟩ := h
      subst h2
      exact .inr (.inl ⟨_, _, rfl, rfl, capd_ok h1, q _ _ _ s (Mv.refl _ _ _ _) (.str _)⟩)
    | _ => simp [fAdd] at h
  | @lst a vs ds ha za ra =>
    cases ry with
    | @lst b us es hb zb rb =>
      simp [fAdd] at h
      obtain ⟨h1, h2⟩ := h
      subst h2
      have hl : vs.length + us.length ≤ sizeLine := by rw [ra.length, rb.length]; exact capd_ok h1
      refine .inr (.inr (.inl ⟨a, b, vs, us, rfl, rfl, s.ex.at ha (fun _ z => nomatch z), s.ex.at hb (fun _ z => nomatch z), hl, fun p hp => ?_⟩))
      exact q _ _ _ (s.both hp) (Mv.both s.ex hp) (.lst upd_same (by rw [List.length_append]; exact hl) ((ra.append rb).mono (Sub.new (s.ex.free hp))))
    | _ => simp [fAdd] at h
  | @tup a vs ds ha za ra =>
    cases ry with
    | @tup b us es hb zb rb =>
      cases ra with
      | nil => cases rb <;> simp [fAdd] at h
      | @cons v d vs ds r1 r2 =>
        cases rb with
        | nil =>
          simp [fAdd] at h
          subst h
          exact .inr (.inr (.inr ⟨a, b, _, _, rfl, rfl, s.ex.st ha, s.ex.st hb, by simp, by simpa using za, fun _ => q _ _ _ s (Mv.refl _ _ _ _) (.tup ha za (.cons r1 r2)), fun z => absurd rfl z⟩))
        | @cons u e us es r3 r4 =>
          simp only [fAdd] at h
          split at h
          · rename_i h1
            cases h
            have l1 := r2.length
            have l2 := r4.length
            have hl : (v :: vs).length + (u :: us).length ≤ sizeLine := by
              have := capd_ok h1
              simp only [List.length_cons] at this ⊢
              omega
            refine .inr (.inr (.inr ⟨a, b, _, _, rfl, rfl, s.ex.st ha, s.ex.st hb, by simp, hl, fun z => by simp at z, fun _ p hp => ?_⟩))
            exact q _ _ _ (s.both hp) (Mv.both s.ex hp) (.tup (.inl (.inl upd_same)) (by rw [List.length_append]; exact hl) (((Reps.cons r1 r2).append (.cons r3 r4)).mono (Sub.new (s.ex.free hp))))
          · cases h
    | _ => simp [fAdd] at h
  | _ => simp [fAdd] at h
def EX.add (a b : EX τ) : EX τ := EX.op2 (fun Γ => rAddA Γ.K) fAdd k_add a b

/-! ### == of data -/
mutual
def D.py : D → PyData
  | .non => .none
  | .bl b => .bool b
  | .int i => .int i
  | .str x => .str x
  | .lst xs => .list (pyL xs)
  | .tup xs => .tuple (pyL xs)
  | .dic _ => .dict []
  | .ins _ _ => .dict []
  | .scr _ => .dict []
def pyL : List D → List PyData
  | [] => []
  | d :: ds => d.py :: pyL ds
end
theorem pyL_map : ∀ ds : List D, pyL ds = ds.map D.py
  | [] => rfl
  | d :: ds => by rw [pyL, pyL_map ds]; rfl
mutual
theorem Rep.dp {Γ : Gm0} {G H : Hp} (x : Ext G H) : ∀ (d : D) {v : V}, Rep Γ G v d → d.py.canLay0 = true → Dp Γ.K H v d.py
  | .non, _, r, _ => by cases r; exact .non
  | .bl b, _, r, _ => by cases r; exact .bl b
  | .int i, _, r, _ => by cases r; exact .int i
  | .str z, _, r, _ => by cases r; exact .str z
  | .lst ds, _, r, c => by
    cases r with
    | lst h z r =>
      simp only [D.py, PyData.canLay0] at c
      exact .lst (.inl (.inl (x.at h (fun _ z => nomatch z)))) (Reps.dp x ds r c)
  | .tup ds, _, r, c => by
    cases r with
    | tup h z r =>
      simp only [D.py, PyData.canLay0] at c
      exact .tup (x.st h) (Reps.dp x ds r c)
  | .dic _, _, _, c => by simp [D.py, PyData.canLay0] at c
  | .ins _ _, _, _, c => by simp [D.py, PyData.canLay0] at c
  | .scr _, _, _, c => by simp [D.py, PyData.canLay0] at c
theorem Reps.dp {Γ : Gm0} {G H : Hp} (x : Ext G H) : ∀ (ds : List D) {vs : List V}, Reps Γ G vs ds → PyData.canLayAll0 (pyL ds) = true → DpAll Γ.K H vs (pyL ds)
  | [], _, r, _ => by cases r; exact .nil
  | d :: ds, _, r, c => by
    cases r with
    | cons a b =>
      simp only [pyL, PyData.canLayAll0, Bool.and_eq_true] at c
      exact .cons (Rep.dp x d a c.1) (Reps.dp x ds b c.2)
end
def D.plain (d : D) : Bool := SeqAt.shaped d.py
def D.eqv (d e : D) : Bool := PyData.eqv d.py e.py
def fEq (d e : D) : Option D := if d.plain && e.plain then some (.bl (d.eqv e)) else none
def fNe (d e : D) : Option D := if d.plain && e.plain then some (.bl (!d.eqv e)) else none
theorem k_eq : Keeps2 (τ := τ) (fun Γ => rEqD Γ.K) fEq := by
  intro Γ io G H σ env x y d e z s rx ry h Q q
  simp only [fEq] at h
  split at h
  · rename_i c
    cases h
    rw [Bool.and_eq_true] at c
    exact ⟨_, _, rx.dp s.ex d (SeqAt.canLay_of_shaped c.1), ry.dp s.ex e (SeqAt.canLay_of_shaped c.2), c.1, c.2, q _ _ _ s (Mv.refl _ _ _ _) (.bl _)⟩
  · cases h
theorem k_ne : Keeps2 (τ := τ) (fun Γ => rNeD Γ.K) fNe := by
  intro Γ io G H σ env x y d e z s rx ry h Q q
  simp only [fNe] at h
  split at h
  · rename_i c
    cases h
    rw [Bool.and_eq_true] at c
    exact ⟨_, _, rx.dp s.ex d (SeqAt.canLay_of_shaped c.1), ry.dp s.ex e (SeqAt.canLay_of_shaped c.2), c.1, c.2, q _ _ _ s (Mv.refl _ _ _ _) (.bl _)⟩
  · cases h
def EX.eq (a b : EX τ) : EX τ := EX.op2 (fun Γ => rEqD Γ.K) fEq k_eq a b
def EX.ne (a b : EX τ) : EX τ := EX.op2 (fun Γ => rNeD Γ.K) fNe k_ne a b
def D.isNon : D → Bool
  | .non => true
  | _ => false
theorem Rep.non_iff {Γ : Gm0} {G : Hp} {v : V} {d : D} (r : Rep Γ G v d) : decide (v = .non) = d.isNon := by
  cases r <;> simp [D.isNon]
def rIsN : R2 := fun x y H Q => y = .non ∧ Q (.bl (decide (x = .non))) H
def rNotN : R2 := fun x y H Q => y = .non ∧ Q (.bl (!decide (x = .non))) H
def fIsN (d e : D) : Option D := if e.isNon then some (.bl d.isNon) else none
def fNotN (d e : D) : Option D := if e.isNon then some (.bl (!d.isNon)) else none
theorem k_isN : Keeps2 (τ := τ) (fun _ => rIsN) fIsN := by
  intro Γ io G H σ env x y d e z s rx ry h Q q
  unfold fIsN at h
  split at h
  · rename_i c
    cases h
    have hy : y = .non := by cases ry <;> simp_all [D.isNon]
    refine ⟨hy, ?_⟩
    rw [rx.non_iff]
    exact q _ _ _ s (Mv.refl _ _ _ _) (.bl _)
  · cases h
theorem k_notN : Keeps2 (τ := τ) (fun _ => rNotN) fNotN := by
  intro Γ io G H σ env x y d e z s rx ry h Q q
  unfold fNotN at h
  split at h
  · rename_i c
    cases h
    have hy : y = .non := by cases ry <;> simp_all [D.isNon]
    refine ⟨hy, ?_⟩
    rw [rx.non_iff]
    exact q _ _ _ s (Mv.refl _ _ _ _) (.bl _)
  · cases h
/-- a is None, a is not None (b: None) -/
def EX.isN (a b : EX τ) : EX τ := EX.op2 (fun _ => rIsN) fIsN k_isN a b
def EX.notN (a b : EX τ) : EX τ := EX.op2 (fun _ => rNotN) fNotN k_notN a b

/-! ### x in a list or tuple of flat things -/
def D.flat : D → Bool
  | .non => true
  | .bl _ => true
  | .int _ => true
  | .str _ => true
  | _ => false
def D.eqF : D → D → Bool
  | .non, .non => true
  | .bl a, .bl b => a == b
  | .bl a, .int j => (if a then 1 else 0) == j
  | .int i, .bl b => i == (if b then 1 else 0)
  | .int i, .int j => i == j
  | .str x, .str y => x == y
  | _, _ => false
def inF (d : D) (ds : List D) : Bool := ds.any fun e => e.eqF d
theorem Rep.flat {Γ : Gm0} {G : Hp} {v : V} {d : D} (r : Rep Γ G v d) (h : d.flat = true) : flatV v = true := by
  cases r <;> first | rfl | (simp [D.flat] at h)
theorem Reps.flat {Γ : Gm0} {G : Hp} : ∀ {vs : List V} {ds : List D}, Reps Γ G vs ds → ds.all D.flat = true → vs.all flatV = true
  | _, _, .nil, _ => rfl
  | _, _, .cons a b, h => by
    rw [List.all_cons, Bool.and_eq_true] at h ⊢
    exact ⟨a.flat h.1, Reps.flat b h.2⟩
theorem eqF_is {Γ : Gm0} {G : Hp} {v u : V} {d e : D} (r : Rep Γ G v d) (q : Rep Γ G u e) (h : d.flat = true) (h' : e.flat = true) : eqV v u = d.eqF e := by
  cases r <;> first | (simp [D.flat] at h; done) | (cases q <;> first | (simp [D.flat] at h'; done) | rfl)
theorem inF_is {Γ : Gm0} {G : Hp} {v : V} {d : D} (r : Rep Γ G v d) (h : d.flat = true) : ∀ {vs : List V} {ds : List D}, Reps Γ G vs ds → ds.all D.flat = true → inV v vs = inF d ds
  | _, _, .nil, _ => rfl
  | _, _, .cons a b, h' => by
    rw [List.all_cons, Bool.and_eq_true] at h'
    have ih := inF_is r h b h'.2
    show (eqV _ v || inV v _) = (D.eqF _ d || inF d _)
    rw [eqF_is a r h'.1 h, ih]
def D.seq? : D → Option (List D)
  | .lst ds => some ds
  | .tup ds => some ds
  | .scr ds => some ds
  | _ => none
theorem Rep.seq {Γ : Gm0} {G H : Hp} (x : Ext G H) {v : V} {d : D} {ds : List D} (r : Rep Γ G v d) (h : d.seq? = some ds) : ∃ a vs, v = .ref a ∧ (SqL Γ.K H a vs ∨ SqT Γ.K H a vs) ∧ vs.length ≤ sizeLine ∧ Reps Γ G vs ds := by
  cases r with
  | @lst a vs ds' e z r => simp only [D.seq?, Option.some.injEq] at h; subst h; exact ⟨a, vs, rfl, .inl (.inl (.inl (x.at e (fun _ z => nomatch z)))), z, r⟩
  | @scr a vs ds' e z r => simp only [D.seq?, Option.some.injEq] at h; subst h; exact ⟨a, vs, rfl, .inl (x.sl e), z, r⟩
  | @tup a vs ds' e z r => simp only [D.seq?, Option.some.injEq] at h; subst h; exact ⟨a, vs, rfl, .inr (x.st e), z, r⟩
  | _ => simp [D.seq?] at h
def fIn (neg : Bool) (d e : D) : Option D := match e.seq? with
  | some ds => if d.flat && ds.all D.flat then some (.bl (if neg then !inF d ds else inF d ds)) else none
  | none => none
theorem k_in (neg : Bool) : Keeps2 (τ := τ) (fun Γ => rIn Γ.K neg) (fIn neg) := by
  intro Γ io G H σ env x y d e z s rx ry h Q q
  simp only [fIn] at h
  split at h
  · rename_i ds hs
    split at h
    · rename_i c
      cases h
      rw [Bool.and_eq_true] at c
      obtain ⟨a, vs, rfl, hq, hz, r⟩ := ry.seq s.ex hs
      refine ⟨a, vs, rfl, hq, rx.flat c.1, r.flat c.2, ?_⟩
      rw [inF_is rx c.1 r c.2]
      exact q _ _ _ s (Mv.refl _ _ _ _) (.bl _)
    · cases h
  · cases h
def EX.isin (a b : EX τ) : EX τ := EX.op2 (fun Γ => rIn Γ.K false) (fIn false) (k_in false) a b
def EX.notin (a b : EX τ) : EX τ := EX.op2 (fun Γ => rIn Γ.K true) (fIn true) (k_in true) a b
def fIx (d e : D) : Option D := match e with
  | .int i => match d.seq? with
    | some ds => atI ds i
    | none => none
  | _ => none
theorem Reps.atI {Γ : Gm0} {G : Hp} {vs : List V} {ds : List D} {i : Int} {d : D} (r : Reps Γ G vs ds) (h : L2.atI ds i = some d) : ∃ v, L2.atI vs i = some v ∧ Rep Γ G v d := by
  unfold L2.atI at h ⊢
  rw [r.length]
  cases e : ixN ds.length i with
  | none => rw [e] at h; cases h
  | some j =>
    rw [e] at h
    exact r.at h
theorem k_ix : Keeps2 (τ := τ) (fun Γ => rIx Γ.K) fIx := by
  intro Γ io G H σ env x y d e z s rx ry h Q q
  unfold fIx at h
  split at h
  · rename_i i
    cases ry
    split at h
    · rename_i ds hs
      obtain ⟨a, vs, rfl, hq, hz, r⟩ := rx.seq s.ex hs
      obtain ⟨v, h1, h2⟩ := r.atI h
      rcases hq with hq | hq
      · exact .inl ⟨a, vs, _, v, rfl, rfl, hq, h1, q _ _ _ s (Mv.refl _ _ _ _) h2⟩
      · exact .inr (.inl ⟨a, vs, _, v, rfl, rfl, hq, h1, q _ _ _ s (Mv.refl _ _ _ _) h2⟩)
    · cases h
  · cases h
def EX.idx (a b : EX τ) : EX τ := EX.op2 (fun Γ => rIx Γ.K) fIx k_ix a b

/-! ### and, or, not, if as values -/
def asB : D → Option Bool
  | .bl b => some b
  | _ => none
theorem Rep.asB {Γ : Gm0} {G : Hp} {v : V} {d : D} {b : Bool} (r : Rep Γ G v d) (h : asB d = some b) : v = .bl b := by
  cases r <;> simp [T.asB] at h
  subst h; rfl
def EX.andV (a b : EX τ) : EX τ where
  te := fun Γ W => tAndV (a.te Γ W) (b.te Γ W)
  ev := fun env => (a.ev env).bind fun d e1 => (R.of (asB d) e1).bind fun c e2 => if c then b.ev e2 else .ok (.bl false) e2
  ok := fun Γ W io G H σ env s Q h => by
    refine a.ok Γ W io G H σ env s _ ((Out.step h).mono fun d e1 G1 H1 s1 m1 h1 x rx => ?_)
    cases q : asB d with
    | none => rw [q] at h1; exact h1.elim
    | some c =>
      rw [q] at h1
      simp only [R.of_some, R.bind_ok] at h1
      refine ⟨c, rx.asB q, ?_⟩
      cases c with
      | true => exact b.ok Γ W io G1 H1 σ e1 s1 _ (by simpa using h1)
      | false => 
        rw [if_neg Bool.false_ne_true] at h1
        exact h1.here s1 _ (.bl false)
def EX.orV (a b : EX τ) : EX τ where
  te := fun Γ W => tOrV (a.te Γ W) (b.te Γ W)
  ev := fun env => (a.ev env).bind fun d e1 => (R.of (asB d) e1).bind fun c e2 => if c then .ok (.bl true) e2 else b.ev e2
  ok := fun Γ W io G H σ env s Q h => by
    refine a.ok Γ W io G H σ env s _ ((Out.step h).mono fun d e1 G1 H1 s1 m1 h1 x rx => ?_)
    cases q : asB d with
    | none => rw [q] at h1; exact h1.elim
    | some c =>
      rw [q] at h1
      simp only [R.of_some, R.bind_ok] at h1
      refine ⟨c, rx.asB q, ?_⟩
      cases c with
      | false => exact b.ok Γ W io G1 H1 σ e1 s1 _ (by simpa using h1)
      | true => 
        rw [if_pos rfl] at h1
        exact h1.here s1 _ (.bl true)
def EX.notV (a : EX τ) : EX τ where
  te := fun Γ W => tNotV (a.te Γ W)
  ev := fun env => (a.ev env).bind fun d e1 => (R.of (asB d) e1).bind fun c e2 => .ok (.bl (!c)) e2
  ok := fun Γ W io G H σ env s Q h => by
    refine a.ok Γ W io G H σ env s _ ((Out.step h).mono fun d e1 G1 H1 s1 m1 h1 x rx => ?_)
    cases q : asB d with
    | none => rw [q] at h1; exact h1.elim
    | some c =>
      rw [q] at h1
      simp only [R.of_some, R.bind_ok] at h1
      exact ⟨c, rx.asB q, h1.here s1 _ (.bl _)⟩

/-! ### tests -/
def TX.ofE (a : EX τ) : TX τ where
  tt := fun Γ W => tTest (a.te Γ W)
  ev := fun env => (a.ev env).bind fun d e1 => R.of (asB d) e1
  ok := fun Γ W io G H σ env s Q h => by
    refine a.ok Γ W io G H σ env s _ ((Out.step h).mono fun d e1 G1 H1 s1 m1 h1 x rx => ?_)
    cases q : asB d with
    | none => rw [q] at h1; exact h1.elim
    | some c =>
      rw [q] at h1
      exact ⟨c, rx.asB q, h1.here s1⟩
def TX.and (a b : TX τ) : TX τ where
  tt := fun Γ W => tAnd (a.tt Γ W) (b.tt Γ W)
  ev := fun env => (a.ev env).bind fun c e1 => if c then b.ev e1 else .ok false e1
  ok := fun Γ W io G H σ env s Q h => by
    refine a.ok Γ W io G H σ env s _ ((Out.step h).mono fun c e1 G1 H1 s1 m1 h1 => ?_)
    cases c with
    | true => exact b.ok Γ W io G1 H1 σ e1 s1 _ (by simpa using h1)
    | false => 
      rw [if_neg Bool.false_ne_true] at h1
      exact h1.here s1
def TX.or (a b : TX τ) : TX τ where
  tt := fun Γ W => tOr (a.tt Γ W) (b.tt Γ W)
  ev := fun env => (a.ev env).bind fun c e1 => if c then .ok true e1 else b.ev e1
  ok := fun Γ W io G H σ env s Q h => by
    refine a.ok Γ W io G H σ env s _ ((Out.step h).mono fun c e1 G1 H1 s1 m1 h1 => ?_)
    cases c with
    | false => exact b.ok Γ W io G1 H1 σ e1 s1 _ (by simpa using h1)
    | true => 
      rw [if_pos rfl] at h1
      exact h1.here s1
def TX.not (a : TX τ) : TX τ where
  tt := fun Γ W => tNot (a.tt Γ W)
  ev := fun env => (a.ev env).bind fun c e1 => .ok (!c) e1
  ok := fun Γ W io G H σ env s Q h => by
    refine a.ok Γ W io G H σ env s _ ((Out.step h).mono fun c e1 G1 H1 s1 m1 h1 => ?_)
    exact h1.here s1
def TX.yes : TX τ := ⟨fun _ _ => tYes, fun env => .ok true env, fun _ _ _ _ _ _ _ s _ h => h.here s⟩
def EX.ife (t : TX τ) (a b : EX τ) : EX τ where
  te := fun Γ W => tIf (t.tt Γ W) (a.te Γ W) (b.te Γ W)
  ev := fun env => (t.ev env).bind fun c e1 => if c then a.ev e1 else b.ev e1
  ok := fun Γ W io G H σ env s Q h => by
    refine t.ok Γ W io G H σ env s _ ((Out.step h).mono fun c e1 G1 H1 s1 m1 h1 => ?_)
    cases c with
    | true => exact a.ok Γ W io G1 H1 σ e1 s1 _ (by simpa using h1)
    | false => exact b.ok Γ W io G1 H1 σ e1 s1 _ (by simpa using h1)
end T

/-! T5 -/
/-! T5: argument lists, displays, calls of defs and of built-ins. -/
namespace T
open PySem PySem.Spec PyProof.Rows L2
variable {τ : Tab}

def AX.nil : AX τ := ⟨fun _ _ => tNil, fun env => .ok [] env, fun _ _ _ _ _ _ _ s _ h => h.here s _ .nil⟩
def AX.cons (a : EX τ) (r : AX τ) : AX τ where
  ta := fun Γ W => tCons (a.te Γ W) (r.ta Γ W)
  ev := fun env => (a.ev env).bind fun d e1 => (r.ev e1).bind fun as e2 => .ok (.d d :: as) e2
  ok := fun Γ W io G H σ env s Q h => by
    refine a.ok Γ W io G H σ env s _ ((Out.step h).mono fun d e1 G1 H1 s1 m1 h1 x rx => ?_)
    refine r.ok Γ W io G1 H1 σ e1 s1 _ ((Out.step h1).mono fun as e2 G2 H2 s2 m2 h2 vs rs => ?_)
    exact h2.here s2 _ (.cons (.d (rx.mono m2.sub)) rs)
def isOwn (env : En) (i : Nat) : Bool := match env[i]? with
  | some (.own _ _) => true
  | _ => false
theorem isOwn_at {env : En} {i : Nat} (h : isOwn env i = true) : ∃ k o, env[i]? = some (.own k o) := by
  unfold isOwn at h
  split at h
  · exact ⟨_, _, by assumption⟩
  · cases h
/-- an own object of the i-th slot is lent -/
def AX.lend (i : Nat) (r : AX τ) : AX τ where
  ta := fun Γ W => tCons (tVar i) (r.ta Γ W)
  ev := fun env => if isOwn env i then (r.ev env).bind fun as e2 => .ok (.s i :: as) e2 else .bad
  ok := fun Γ W io G H σ env s Q h => by
    dsimp only at h
    split at h
    · rename_i c
      obtain ⟨k, o, e⟩ := isOwn_at c
      obtain ⟨a, h1, _⟩ := s.own i k o e
      refine ⟨_, h1, r.ok Γ W io G H σ env s _ ((Out.step h).mono fun as e2 G2 H2 s2 m2 h2 vs rs => ?_)⟩
      exact h2.here s2 _ (.cons (.s h1) rs)
    · exact h.elim
def allD : List Ar → Option (List D)
  | [] => some []
  | .d d :: r => (allD r).map (d :: ·)
  | .s _ :: _ => none
theorem AReps.all {Γ : Gm0} {G : Hp} {σ : L2.St} : ∀ {vs : List V} {as : List Ar} {ds : List D}, AReps Γ G σ vs as → allD as = some ds → Reps Γ G vs ds
  | _, _, _, .nil, h => by simp [allD] at h; subst h; exact .nil
  | _, _, _, .cons (.d a) b, h => by
    simp only [allD] at h
    cases e : allD _ with
    | none => rw [e] at h; cases h
    | some es => rw [e] at h; cases h; exact .cons a (AReps.all b e)
  | _, _, _, .cons (.s _) _, h => by simp [allD] at h
/-- an operation on a list of arguments, by values -/
def KeepsN (r : Gm τ → List V → Hp → VK → Prop) (f : List D → Option D) : Prop := ∀ (Γ : Gm τ) (io : List Addr) (G H : Hp) (σ : L2.St) (env : En) (vs : List V) (ds : List D) (z : D), St Γ.toGm0 io G H σ env → Reps Γ.toGm0 G vs ds → f ds = some z →
  ∀ Q : VK, (∀ v G' H', St Γ.toGm0 io G' H' σ env → Mv σ env G H σ env G' H' → Rep Γ.toGm0 G' v z → Q v H') → r Γ vs H Q
def evN (f : List D → Option D) (a : En → R (List Ar)) (env : En) : R D := (a env).bind fun as e1 => (R.of (allD as) e1).bind fun ds e2 => R.of (f ds) e2
/-- a built-in is called -/
def EX.bi (r : Gm τ → List V → Hp → VK → Prop) (f : List D → Option D) (k : KeepsN r f) (a : AX τ) : EX τ where
  te := fun Γ W => tCB (r Γ) (a.ta Γ W)
  ev := evN f a.ev
  ok := fun Γ W io G H σ env s Q h => by
    refine a.ok Γ W io G H σ env s _ ((Out.step h).mono fun as e1 G1 H1 s1 m1 h1 vs rs => ?_)
    cases q : allD as with
    | none => rw [q] at h1; exact h1.elim
    | some ds =>
      rw [q] at h1
      simp only [R.of_some, R.bind_ok] at h1
      cases q2 : f ds with
      | none => rw [q2] at h1; exact h1.elim
      | some z =>
        rw [q2] at h1
        exact k Γ io G1 H1 σ e1 vs ds z s1 (rs.all q) q2 Q fun v G2 H2 s2 m2 rv => h1 G2 H2 s2 m2 v rv
/-! ### displays -/
def fTup (ds : List D) : Option D := if capd ds.length then some (.tup ds) else none
def EX.tup (a : AX τ) : EX τ where
  te := fun Γ W => tTup (a.ta Γ W)
  ev := evN fTup a.ev
  ok := fun Γ W io G H σ env s Q h => by
    refine a.ok Γ W io G H σ env s _ ((Out.step h).mono fun as e1 G1 H1 s1 m1 h1 vs rs => ?_)
    cases q : allD as with
    | none => rw [q] at h1; exact h1.elim
    | some ds =>
      rw [q] at h1
      simp only [R.of_some, R.bind_ok, fTup] at h1
      split at h1
      · rename_i c
        have r := rs.all q
        have hz : vs.length ≤ sizeLine := by rw [r.length]; exact capd_ok c
        exact ⟨hz, fun p hp => h1 _ _ (s1.both hp) (Mv.both s1.ex hp) _ (.tup (.inl (.inl upd_same)) hz (r.mono (Sub.new (s1.ex.free hp))))⟩
      · exact h1.elim
/-- a new list, of one's own -/
def evL (a : En → R (List Ar)) (env : En) : R O := (a env).bind fun as e1 => (R.of (allD as) e1).bind fun ds e2 => if capd ds.length then .ok (.lst ds) e2 else .bad
def FX.lst (a : AX τ) : FX τ where
  te := fun Γ W => tLst (a.ta Γ W)
  ev := evL a.ev
  ok := fun Γ W io G H σ env s Q h => by
    refine a.ok Γ W io G H σ env s _ ((Out.step h).mono fun as e1 G1 H1 s1 m1 h1 vs rs => ?_)
    cases q : allD as with
    | none => rw [q] at h1; exact h1.elim
    | some ds =>
      rw [q] at h1
      simp only [R.of_some, R.bind_ok] at h1
      split at h1
      · rename_i c
        have r := rs.all q
        have hz : vs.length ≤ sizeLine := by rw [r.length]; exact capd_ok c
        refine ⟨hz, fun p hp => h1 _ _ (s1.laid hp) (Mv.laid hp) p (m1.back hp) (s1.ex.free hp) (fun ⟨i, k, o, e, t⟩ => ?_) (.lst upd_same hz r)⟩
        obtain ⟨a, g1, _, g3, _⟩ := s1.own i k o e
        rw [t] at g1; cases g1
        obtain ⟨u, hu⟩ := g3.there
        rw [hp] at hu; cases hu
      · exact h1.elim
/-- .. that is data at once -/
def evF (f : En → R O) (env : En) : R D := (f env).bind fun o e => .ok o.toD e
def EX.ofF (f : FX τ) : EX τ where
  te := f.te
  ev := evF f.ev
  ok := fun Γ W io G H σ env s Q h => by
    refine f.ok Γ W io G H σ env s _ ?_
    unfold evF at h
    cases q : f.ev env with
    | bad => rw [q] at h; exact h
    | exc c fs e => rw [q] at h; exact h
    | ok o e =>
      rw [q] at h
      intro G1 H1 s1 m1 a ha ga no rep
      obtain ⟨u, hu, r⟩ := rep.tell ga
      exact h _ _ (s1.tell hu ga no) (m1.tell ha ga) _ r

/-! ### calls of the text's own defs -/
def toA : List Ar → En → Option (List A)
  | [], _ => some []
  | .d d :: r, env => (toA r env).map (.d d :: ·)
  | .s i :: r, env => match env[i]? with
    | some (.own _ o) => (toA r env).map (.o o :: ·)
    | _ => none
def putO : List Ar → List O → En → Option En
  | [], [], env => some env
  | .d _ :: r, os, env => putO r os env
  | .s i :: r, o :: os, env => match env[i]? with
    | some (.own k _) => putO r os (env.set i (.own k o))
    | _ => none
  | _, _, _ => none
def slotsOf : List Ar → List Nat
  | [] => []
  | .d _ :: r => slotsOf r
  | .s i :: r => i :: slotsOf r
inductive Lent (σ : L2.St) (env : En) : List Ar → List Addr → Prop
  | nil : Lent σ env [] []
  | d {d : D} {as : List Ar} {io : List Addr} : Lent σ env as io → Lent σ env (.d d :: as) io
  | s {i : Nat} {k : Option Nat} {o : O} {a : Addr} {as : List Ar} {io : List Addr} : env[i]? = some (.own k o) → σ[i]? = some (some (.ref a)) → Lent σ env as io → Lent σ env (.s i :: as) (a :: io)
section
variable {Γ : Gm0} {io0 io : List Addr} {G G' H H' : Hp} {σ : L2.St} {env env2 : En}
theorem lent_of (s : St Γ io0 G H σ env) : ∀ {vs : List V} {ars : List Ar} {as : List A}, AReps Γ G σ vs ars → toA ars env = some as → ∃ io, Lent σ env ars io ∧ AAs Γ G H vs as io
  | _, _, _, .nil, h => by simp [toA] at h; subst h; exact ⟨[], .nil, .nil⟩
  | _, _, _, .cons (.d r) b, h => by
    simp only [toA] at h
    cases e : toA _ env with
    | none => rw [e] at h; cases h
    | some as' =>
      rw [e] at h; cases h
      obtain ⟨io, h1, h2⟩ := lent_of s b e
      exact ⟨io, .d h1, .d r h2⟩
  | _, _, _, @AReps.cons _ _ _ v (.s i) _ _ (.s r) b, h => by
    simp only [toA] at h
    split at h
    · rename_i k o e0
      cases e : toA _ env with
      | none => rw [e] at h; cases h
      | some as' =>
        rw [e] at h; cases h
        obtain ⟨io, h1, h2⟩ := lent_of s b e
        obtain ⟨a, g1, g2, g3, _⟩ := s.own i k o e0
        rw [r] at g1; cases g1
        exact ⟨a :: io, .s e0 r h1, .o g2 g3 h2⟩
    · cases h
theorem Lent.mem {ars : List Ar} (l : Lent σ env ars io) {a : Addr} (h : a ∈ io) : ∃ (i : Nat) (k : Option Nat) (o : O), i ∈ slotsOf ars ∧ env[i]? = some (.own k o) ∧ σ[i]? = some (some (.ref a)) := by
  induction l with
  | nil => simp at h
  | d _ ih => exact ih h
  | @s i k o b as io e1 e2 _ ih =>
    rcases List.mem_cons.mp h with z | z
    · subst z; exact ⟨i, k, o, by simp [slotsOf], e1, e2⟩
    · obtain ⟨j, k', o', h1, h2⟩ := ih z
      exact ⟨j, k', o', by simp [slotsOf, h1], h2⟩
theorem Lent.nodup (s : St Γ io0 G H σ env) {ars : List Ar} (l : Lent σ env ars io) (n : (slotsOf ars).Nodup) : io.Nodup := by
  induction l with
  | nil => exact List.nodup_nil
  | d _ ih => exact ih n
  | @s i k o b as io e1 e2 l ih =>
    simp only [slotsOf, List.nodup_cons] at n
    refine List.nodup_cons.mpr ⟨fun h => ?_, ih n.2⟩
    obtain ⟨j, k', o', h1, h2, h3⟩ := l.mem h
    have := s.sep i j _ _ _ _ b e1 h2 e2 h3
    subst this
    exact n.1 h1
theorem Lent.set {ars : List Ar} (l : Lent σ env ars io) {i : Nat} {x : Sl} (n : i ∉ slotsOf ars) : Lent σ (env.set i x) ars io := by
  induction l with
  | nil => exact .nil
  | d _ ih => exact .d (ih n)
  | @s j k o b as io e1 e2 _ ih =>
    simp only [slotsOf, List.mem_cons, not_or] at n
    exact .s (by rw [List.getElem?_set_ne n.1]; exact e1) e2 (ih n.2)
theorem put_at : ∀ {ars : List Ar} {os : List O} {env env2 : En} {io : List Addr}, Lent σ env ars io → (slotsOf ars).Nodup → putO ars os env = some env2 → OsRep Γ G' H' io os →
    env2.length = env.length ∧ ∀ (i : Nat) (x : Sl), env2[i]? = some x → (i ∉ slotsOf ars ∧ env[i]? = some x) ∨
      ∃ (k : Option Nat) (o o' : O) (a : Addr), i ∈ slotsOf ars ∧ env[i]? = some (.own k o) ∧ x = .own k o' ∧ σ[i]? = some (some (.ref a)) ∧ a ∈ io ∧ G' a = none ∧ ORep Γ G' H' a o'
  | [], os, env, env2, _, l, _, h, r => by
    cases os with
    | nil => simp [putO] at h; subst h; exact ⟨rfl, fun i x e => .inl ⟨by simp [slotsOf], e⟩⟩
    | cons _ _ => simp [putO] at h
  | .d d :: ars, os, env, env2, _, .d l, n, h, r => by
    simp only [putO] at h
    exact put_at (ars := ars) l n h r
  | .s i :: ars, os, env, env2, _, @Lent.s _ _ _ k o a _ io e1 e2 l, n, h, r => by
    cases r with
    | @cons _ o1 _ os' g1 g2 r =>
      simp only [putO, e1] at h
      simp only [slotsOf, List.nodup_cons] at n
      obtain ⟨h1, h2⟩ := put_at (l.set (x := .own k o1) n.1) n.2 h r
      have hi : i < env.length := (List.getElem?_eq_some_iff.mp e1).1
      refine ⟨by simpa using h1, fun j x e => ?_⟩
      rcases h2 j x e with ⟨q1, q2⟩ | ⟨k', o2, o3, b, q1, q2, q3, q4, q5, q6, q7⟩
      · by_cases z : i = j
        · subst z
          rw [List.getElem?_set_self hi] at q2
          exact .inr ⟨k, o, o1, a, by simp [slotsOf], e1, (Option.some.inj q2).symm, e2, by simp, g1, g2⟩
        · rw [List.getElem?_set_ne z] at q2
          exact .inl ⟨by simp only [slotsOf, List.mem_cons, not_or]; exact ⟨fun w => z w.symm, q1⟩, q2⟩
      · have z : i ≠ j := fun w => n.1 (by rw [w]; exact q1)
        rw [List.getElem?_set_ne z] at q2
        exact .inr ⟨k', o2, o3, b, by simp [slotsOf, q1], q2, q3, q4, by simp [q5], q6, q7⟩
theorem OsRep.there {os : List O} (r : OsRep Γ G' H' io os) {a : Addr} (h : a ∈ io) : ∃ u, H' a = some u := by
  induction r with
  | nil => simp at h
  | cons _ g _ ih =>
    rcases List.mem_cons.mp h with z | z
    · subst z; exact g.there
    · exact ih z
/-- behind a call -/
theorem St.after (s : St Γ io0 G H σ env) {ars : List Ar} {os : List O} (l : Lent σ env ars io) (n : (slotsOf ars).Nodup) (h : putO ars os env = some env2) (f : Fin io G H G' H') (r : OsRep Γ G' H' io os) :
    St Γ io0 G' H' σ env2 ∧ Mv σ env G H σ env2 G' H' := by
  obtain ⟨hl, hx⟩ := put_at l n h r
  have old : ∀ {i : Nat} {k : Option Nat} {o : O}, env2[i]? = some (.own k o) → ∃ o', env[i]? = some (.own k o') := fun {i k o} e => by
    rcases hx i _ e with ⟨_, q⟩ | ⟨k', o1, o2, a, _, q2, q3, _⟩
    · exact ⟨_, q⟩
    · cases q3; exact ⟨_, q2⟩
  have ioOw : ∀ a ∈ io, Ow σ env a := fun a ha => by
    obtain ⟨i, k, o, _, e1, e2⟩ := l.mem ha
    exact ⟨i, k, o, e1, e2⟩
  refine ⟨⟨f.ex, by rw [hl]; exact s.len, fun i d e => ?_, fun i k o e => ?_, fun i j k k' o o' a e e' t t' => ?_⟩, ⟨f.sub, fun b o e no => f.keep b o e fun z => no (ioOw b z), fun b ⟨i, k, o, e, t⟩ => ?_, fun b o e => ?_⟩⟩
  · rcases hx i _ e with ⟨_, q⟩ | ⟨k', o1, o2, a, _, _, q3, _⟩
    · obtain ⟨v, g1, g2⟩ := s.dat i d q
      exact ⟨v, g1, g2.mono f.sub⟩
    · cases q3
  · rcases hx i _ e with ⟨ni, q⟩ | ⟨k', o1, o2, a, q1, q2, q3, q4, q5, q6, q7⟩
    · obtain ⟨a, g1, g2, g3, g4⟩ := s.own i k o q
      have na : a ∉ io := fun z => by
        obtain ⟨j, k', o', h1, h2, h3⟩ := l.mem z
        have := s.sep i j _ _ _ _ a q h2 g1 h3
        subst this
        exact ni h1
      obtain ⟨u, hu⟩ := g3.there
      refine ⟨a, g1, (f.keep a u hu na).2 g2, g3.mono f.sub fun w hw => (f.keep a w hw na).1, g4⟩
    · cases q3
      obtain ⟨a', g1, g2, g3, g4⟩ := s.own i k o1 q2
      rw [q4] at g1; cases g1
      exact ⟨a, q4, q6, q7, g4⟩
  · obtain ⟨o1, q1⟩ := old e
    obtain ⟨o2, q2⟩ := old e'
    exact s.sep i j _ _ _ _ a q1 q2 t t'
  · obtain ⟨o1, q1⟩ := old e
    exact .inl ⟨i, k, o1, q1, t⟩
  · by_cases z : b ∈ io
    · exact r.there z
    · exact ⟨o, (f.keep b o e z).1⟩
end
def evCall (F : List A → Res) (a : En → R (List Ar)) (env : En) : R D := (a env).bind fun ars e1 =>
  if (slotsOf ars).Nodup then match toA ars e1 with
    | some as => match F as with
      | .ok d os => match putO ars os e1 with
        | some e2 => .ok d e2
        | none => .bad
      | .fr o os => match putO ars os e1 with
        | some e2 => .ok o.toD e2
        | none => .bad
      | .exc c fs os => match putO ars os e1 with
        | some e2 => .exc c fs e2
        | none => .bad
      | .bad => .bad
    | none => .bad
  else .bad
/-- f(..), f worth F -/
def EX.call (F : List A → Res) (a : AX τ) : EX τ where
  te := fun Γ W => tCallS (spF Γ.toGm0 F) (WE W) (a.ta Γ W)
  ev := evCall F a.ev
  ok := fun Γ W io G H σ env s Q h => by
    refine a.ok Γ W io G H σ env s _ ((Out.step h).mono fun ars e1 G1 H1 s1 m1 h1 vs rs => ?_)
    split at h1
    · rename_i nd
      split at h1
      · rename_i as ha
        obtain ⟨io1, l, aa⟩ := lent_of s1 rs ha
        refine ⟨G1, as, io1, s1.ex, l.nodup s1 nd, aa, ?_⟩
        split at h1
        · rename_i d os hF
          rw [hF]
          split at h1
          · rename_i e2 hp
            intro v G2 H2 f r rv
            obtain ⟨s2, m2⟩ := s1.after l nd hp f r
            exact h1 G2 H2 s2 m2 v rv
          · exact h1.elim
        · rename_i o os hF
          rw [hF]
          split at h1
          · rename_i e2 hp
            intro b G2 H2 f r hb nb gb rb
            obtain ⟨s2, m2⟩ := s1.after l nd hp f r
            obtain ⟨u, hu, rep⟩ := rb.tell gb
            have no : ¬ Ow σ e2 b := fun z => by
              rcases m2.ow b z with ⟨i, k, o', q1, q2⟩ | q
              · obtain ⟨a', g1, _, g3, _⟩ := s1.own i k o' q1
                rw [q2] at g1; cases g1
                obtain ⟨w, hw⟩ := g3.there
                rw [hb] at hw; cases hw
              · obtain ⟨i, k, o', q1, q2⟩ := z
                obtain ⟨a', g1, g2, _, _⟩ := s2.own i k o' q1
                rw [q2] at g1; cases g1
                obtain ⟨hl, hx⟩ := put_at l nd hp r
                rcases hx i _ q1 with ⟨_, z1⟩ | ⟨k', o1, o2, a2, _, z2, _, z4, z5, _⟩
                · obtain ⟨a3, y1, _, y3, _⟩ := s1.own i k o' z1
                  rw [q2] at y1; cases y1
                  obtain ⟨w, hw⟩ := y3.there
                  rw [hb] at hw; cases hw
                · rw [q2] at z4; cases z4
                  exact nb z5
            exact h1 _ _ (s2.tell hu gb no) (m2.tell hb gb) _ rep
          · exact h1.elim
        · rename_i c fs os hF
          rw [hF]
          split at h1
          · rename_i e2 hp
            intro dx G2 H2 f r xr
            obtain ⟨s2, m2⟩ := s1.after l nd hp f r
            exact h1 G2 H2 dx s2 m2 xr
          · exact h1.elim
        · exact h1.elim
      · exact h1.elim
    · exact h1.elim
end T

/-! T6 -/
/-! T6: more expressions: chains, fresh results, dicts, attributes, slices, built-ins. -/
namespace T
open PySem PySem.Spec PyProof.Rows L2
variable {τ : Tab}

theorem Out.shift {Γ : Gm0} {io : List Addr} {W : WX} {σ : L2.St} {env env1 : En} {G H G1 H1 : Hp} {α : Type} {r : R α} {Q : α → En → Hp → Hp → Prop} (h : Out Γ io W σ env G H r Q) (m : Mv σ env G H σ env1 G1 H1) : Out Γ io W σ env1 G1 H1 r Q := by
  cases r with
  | ok a e => exact fun G' H' s q => h G' H' s (m.trans q)
  | exc c fs e => exact fun G' H' dx s q => h G' H' dx s (m.trans q)
  | bad => exact h
def evChain (f f' : D → D → Option D) (a b c : En → R D) (env : En) : R D := (a env).bind fun x e1 => (b e1).bind fun y e2 => (R.of ((f x y).bind asB) e2).bind fun k e3 =>
  if k then (c e3).bind fun z e4 => R.of (f' y z) e4 else .ok (.bl false) e3
def EX.chain (r r' : Gm τ → R2) (f f' : D → D → Option D) (k : Keeps2 r f) (k' : Keeps2 r' f') (a b c : EX τ) : EX τ where
  te := fun Γ W => tChain (r Γ) (r' Γ) (a.te Γ W) (b.te Γ W) (c.te Γ W)
  ev := evChain f f' a.ev b.ev c.ev
  ok := fun Γ W io G H σ env s Q h => by
    refine a.ok Γ W io G H σ env s _ ((Out.step h).mono fun d e1 G1 H1 s1 m1 h1 x rx => ?_)
    refine b.ok Γ W io G1 H1 σ e1 s1 _ ((Out.step h1).mono fun e e2 G2 H2 s2 m2 h2 y ry => ?_)
    cases q : f d e with
    | none => rw [q] at h2; exact h2.elim
    | some z =>
      rw [q] at h2
      cases q2 : asB z with
      | none => rw [Option.bind_some, q2] at h2; exact h2.elim
      | some c' =>
        rw [Option.bind_some, q2] at h2
        simp only [R.of_some, R.bind_ok] at h2
        refine k Γ io G2 H2 σ e2 x y d e z s2 (rx.mono m2.sub) ry q _ fun v G3 H3 s3 m3 rv => ⟨c', rv.asB q2, ?_⟩
        have h3 := h2.shift m3
        cases c' with
        | true =>
          rw [if_pos rfl] at h3 ⊢
          refine c.ok Γ W io G3 H3 σ e2 s3 _ ((Out.step h3).mono fun w e4 G4 H4 s4 m4 h4 u ru => ?_)
          cases q3 : f' e w with
          | none => rw [q3] at h4; exact h4.elim
          | some z2 =>
            rw [q3] at h4
            exact k' Γ io G4 H4 σ e4 y u e w z2 s4 (ry.mono (m3.sub.trans m4.sub)) ru q3 Q fun v G5 H5 s5 m5 rv => h4 G5 H5 s5 m5 v rv
        | false =>
          rw [if_neg Bool.false_ne_true] at h3 ⊢
          exact h3.here s3 _ (.bl false)
def EX.leLt (a b c : EX τ) : EX τ := EX.chain (fun _ => rI0 fun i j => .bl (decide (i ≤ j))) (fun _ => rI0 fun i j => .bl (decide (i < j))) _ _ k_IB k_IB a b c
def EX.leLe (a b c : EX τ) : EX τ := EX.chain (fun _ => rI0 fun i j => .bl (decide (i ≤ j))) (fun _ => rI0 fun i j => .bl (decide (i ≤ j))) _ _ k_IB k_IB a b c

/-! ### a def's fresh object -/
def evCallF (F : List A → Res) (a : En → R (List Ar)) (env : En) : R O := (a env).bind fun ars e1 =>
  if (slotsOf ars).Nodup then match toA ars e1 with
    | some as => match F as with
      | .fr o os => match putO ars os e1 with
        | some e2 => .ok o e2
        | none => .bad
      | .exc c fs os => match putO ars os e1 with
        | some e2 => .exc c fs e2
        | none => .bad
      | _ => .bad
    | none => .bad
  else .bad
theorem Out.stepBack {Γ : Gm0} {io : List Addr} {W : WX} {σ : L2.St} {env : En} {G H : Hp} {α β : Type} {x : R α} {k : α → En → R β} {Q : β → En → Hp → Hp → Prop} (h : Out Γ io W σ env G H (x.bind k) Q) :
    Out Γ io W σ env G H x fun a e1 G1 H1 => Out Γ io W σ e1 G1 H1 (k a e1) fun b e2 G2 H2 => Mv σ env G H σ e1 G1 H1 → Mv σ e1 G1 H1 σ e2 G2 H2 → Q b e2 G2 H2 := by
  refine (Out.step h).mono fun a e1 G1 H1 s1 m1 h1 => ?_
  cases q : k a e1 with
  | ok b e2 => rw [q] at h1; exact fun G2 H2 s2 m2 _ _ => h1 G2 H2 s2 m2
  | exc c fs e2 => rw [q] at h1; exact h1
  | bad => rw [q] at h1; exact h1
def FX.call (F : List A → Res) (a : AX τ) : FX τ where
  te := fun Γ W => tCallS (spF Γ.toGm0 F) (WE W) (a.ta Γ W)
  ev := evCallF F a.ev
  ok := fun Γ W io G H σ env s Q h => by
    refine a.ok Γ W io G H σ env s _ ((Out.step h).mono fun ars e1 G1 H1 s1 m1 h1 vs rs => ?_)
    split at h1
    · rename_i nd
      split at h1
      · rename_i as ha
        obtain ⟨io1, l, aa⟩ := lent_of s1 rs ha
        refine ⟨G1, as, io1, s1.ex, l.nodup s1 nd, aa, ?_⟩
        split at h1
        · rename_i o os hF
          rw [hF]
          split at h1
          · rename_i e2 hp
            intro b G2 H2 f r hb nb gb rb
            obtain ⟨s2, m2⟩ := s1.after l nd hp f r
            refine h1 _ _ s2 m2 b (m1.back hb) gb (fun z => ?_) rb
            obtain ⟨i, k, o', q1, q2⟩ := z
            obtain ⟨hl, hx⟩ := put_at l nd hp r
            rcases hx i _ q1 with ⟨_, z1⟩ | ⟨k', o1, o2, a2, _, z2, _, z4, z5, _⟩
            · obtain ⟨a3, y1, _, y3, _⟩ := s1.own i k o' z1
              rw [q2] at y1; cases y1
              obtain ⟨w, hw⟩ := y3.there
              rw [hb] at hw; cases hw
            · rw [q2] at z4; cases z4
              exact nb z5
          · exact h1.elim
        · rename_i c fs os hF
          rw [hF]
          split at h1
          · rename_i e2 hp
            intro dx G2 H2 f r xr
            obtain ⟨s2, m2⟩ := s1.after l nd hp f r
            exact h1 G2 H2 dx s2 m2 xr
          · exact h1.elim
        · exact h1.elim
      · exact h1.elim
    · exact h1.elim

/-! ### dicts with keys that are ints and texts -/
def keyD : D → Option Key
  | .int i => some (.inl i)
  | .str x => some (.inr x)
  | _ => none
theorem Rep.key {Γ : Gm0} {G : Hp} {v : V} {d : D} {k : Key} (r : Rep Γ G v d) (h : keyD d = some k) : v = kV k := by
  cases r <;> simp [keyD] at h <;> subst h <;> rfl
def lookD (kvs : List (Key × D)) (k : Key) : Option D := (kvs.find? fun kv => decide (kv.1 = k)).map (·.2)
def putD (kvs : List (Key × D)) (k : Key) (d : D) : List (Key × D) :=
  if (kvs.any fun kv => decide (kv.1 = k)) = true then kvs.map (fun kv => if kv.1 = k then (kv.1, d) else kv) else kvs ++ [(k, d)]
theorem look_rel {Γ : Gm0} {G : Hp} (k : Key) : ∀ {kvs : List (Key × V)} {ds : List (Key × D)}, kvs.map (·.1) = ds.map (·.1) → Reps Γ G (kvs.map (·.2)) (ds.map (·.2)) →
    (∀ d, lookD ds k = some d → ∃ v, valV kvs k = some v ∧ Rep Γ G v d) ∧ (lookD ds k = none → valV kvs k = none)
  | [], [], _, _ => ⟨fun d h => by simp [lookD] at h, fun _ => rfl⟩
  | [], _ :: _, h, _ => by simp at h
  | _ :: _, [], h, _ => by simp at h
  | (a, v) :: kvs, (b, d) :: ds, h, r => by
    simp only [List.map_cons, List.cons.injEq] at h
    obtain ⟨rfl, h⟩ := h
    cases r with
    | cons r1 r2 =>
      obtain ⟨i1, i2⟩ := look_rel k h r2
      by_cases e : a = k
      · subst e
        refine ⟨fun d' hd => ⟨v, valV_pos rfl, ?_⟩, fun hd => ?_⟩
        · simp [lookD] at hd; subst hd; exact r1
        · simp [lookD] at hd
      · have e1 : valV ((a, v) :: kvs) k = valV kvs k := valV_neg e
        have e2 : lookD ((a, d) :: ds) k = lookD ds k := by simp [lookD, e]
        rw [e1, e2]
        exact ⟨i1, i2⟩
theorem put_rel {Γ : Gm0} {G : Hp} (k : Key) {u : V} {e : D} (ru : Rep Γ G u e) {kvs : List (Key × V)} {ds : List (Key × D)} (h : kvs.map (·.1) = ds.map (·.1)) (r : Reps Γ G (kvs.map (·.2)) (ds.map (·.2))) :
    (putK kvs k u).map (·.1) = (putD ds k e).map (·.1) ∧ Reps Γ G ((putK kvs k u).map (·.2)) ((putD ds k e).map (·.2)) := by
  have hany : (kvs.any fun kv => decide (kv.1 = k)) = (ds.any fun kv => decide (kv.1 = k)) := by
    have q : ∀ {α β : Type} {l : List (Key × α)} {l' : List (Key × β)}, l.map (·.1) = l'.map (·.1) → (l.any fun kv => decide (kv.1 = k)) = (l'.any fun kv => decide (kv.1 = k)) := by
      intro α β l l' hh
      have e1 : ∀ {γ : Type} (l : List (Key × γ)), (l.any fun kv => decide (kv.1 = k)) = ((l.map (·.1)).any fun x => decide (x = k)) := fun l => by rw [List.any_map]; rfl
      rw [e1, e1, hh]
    exact q h
  unfold putK putD
  rw [hany]
  split
  · have go : ∀ {kvs : List (Key × V)} {ds : List (Key × D)}, kvs.map (·.1) = ds.map (·.1) → Reps Γ G (kvs.map (·.2)) (ds.map (·.2)) →
        (kvs.map (fun kv => if kv.1 = k then (kv.1, u) else kv)).map (·.1) = (ds.map (fun kv => if kv.1 = k then (kv.1, e) else kv)).map (·.1) ∧
        Reps Γ G ((kvs.map (fun kv => if kv.1 = k then (kv.1, u) else kv)).map (·.2)) ((ds.map (fun kv => if kv.1 = k then (kv.1, e) else kv)).map (·.2)) := by
      intro kvs
      induction kvs with
      | nil =>
        intro ds h r
        cases ds with
        | nil => exact ⟨rfl, .nil⟩
        | cons _ _ => simp at h
      | cons p kvs ih =>
        intro ds h r
        cases ds with
        | nil => simp at h
        | cons p' ds =>
          simp only [List.map_cons, List.cons.injEq] at h
          cases r with
          | cons r1 r2 =>
            obtain ⟨i1, i2⟩ := ih h.2 r2
            obtain ⟨a, v⟩ := p
            obtain ⟨b, d⟩ := p'
            obtain rfl : a = b := h.1
            by_cases z : a = k
            · simp only [List.map_cons, z, if_true]
              exact ⟨by rw [i1], .cons ru i2⟩
            · simp only [List.map_cons, z, if_false]
              exact ⟨by rw [i1], .cons r1 i2⟩
    exact go h r
  · rw [List.map_append, List.map_append, List.map_append, List.map_append, h]
    exact ⟨rfl, r.append (.cons ru .nil)⟩
theorem Rep.dget {Γ : Gm0} {G H : Hp} (x : Ext G H) {v y : V} {kvs : List (Key × D)} {k : Key} (r : Rep Γ G v (.dic kvs)) (hy : y = kV k) :
    ∃ a, v = .ref a ∧ (∀ d, lookD kvs k = some d → ∃ u, DGet H a y (some u) ∧ Rep Γ G u d) ∧ (lookD kvs k = none → DGet H a y none) := by
  cases r with
  | @dic a vs _ ha _ hk rr =>
    obtain ⟨h1, h2⟩ := look_rel k hk rr
    have rd : Rd H a (.dK vs) := by
      rcases x a _ ha with q | ⟨ob, kv, e, q⟩
      · exact .inl q
      · exact .inr ⟨ob, q⟩
    refine ⟨a, rfl, fun d hd => ?_, fun hd => .inl ⟨vs, k, rd, hy, (h2 hd).symm⟩⟩
    obtain ⟨u, g1, g2⟩ := h1 d hd
    exact ⟨u, .inl ⟨vs, k, rd, hy, g1.symm⟩, g2⟩
/-- d[k] of a dict that is data -/
def fDget (d k : D) : Option D := match d, keyD k with
  | .dic kvs, some k => lookD kvs k
  | _, _ => none
def EX.dget (a b : EX τ) : EX τ where
  te := fun Γ W => tDGet (a.te Γ W) (b.te Γ W)
  ev := ev2 fDget a.ev b.ev
  ok := fun Γ W io G H σ env s Q h => by
    refine a.ok Γ W io G H σ env s _ ((Out.step h).mono fun d e1 G1 H1 s1 m1 h1 x rx => ?_)
    refine b.ok Γ W io G1 H1 σ e1 s1 _ ((Out.step h1).mono fun e e2 G2 H2 s2 m2 h2 y ry => ?_)
    unfold fDget at h2
    split at h2
    · rename_i kvs k hk
      obtain ⟨a', rfl, g1, _⟩ := (rx.mono m2.sub).dget s2.ex (ry.key hk)
      cases q : lookD kvs k with
      | none => rw [q] at h2; exact h2.elim
      | some z =>
        rw [q] at h2
        obtain ⟨u, g2, g3⟩ := g1 z q
        exact ⟨a', u, rfl, g2, h2.here s2 _ g3⟩
    · exact h2.elim
/-- k in d, k not in d -/
def fDin (neg : Bool) (k d : D) : Option D := match d, keyD k with
  | .dic kvs, some k => some (.bl (if neg then !(lookD kvs k).isSome else (lookD kvs k).isSome))
  | _, _ => none
theorem din_ok (neg : Bool) (a b : EX τ) (Γ : Gm τ) (W : WX) : SE Γ.toGm0 W (fun σ H Q => a.te Γ W σ H fun y H1 => b.te Γ W σ H1 fun x H2 => ∃ a o, x = .ref a ∧ DGet H2 a y o ∧ Q (.bl (if neg then !o.isSome else o.isSome)) H2) (ev2 (fDin neg) a.ev b.ev) := by
  intro io G H σ env s Q h
  refine a.ok Γ W io G H σ env s _ ((Out.step h).mono fun d e1 G1 H1 s1 m1 h1 x rx => ?_)
  refine b.ok Γ W io G1 H1 σ e1 s1 _ ((Out.step h1).mono fun e e2 G2 H2 s2 m2 h2 y ry => ?_)
  unfold fDin at h2
  split at h2
  · rename_i kvs k hk
    obtain ⟨a', rfl, g1, g2⟩ := ry.dget s2.ex ((rx.mono m2.sub).key hk)
    cases q : lookD kvs k with
    | none => rw [q] at h2; exact ⟨a', none, rfl, g2 q, h2.here s2 _ (.bl _)⟩
    | some z =>
      rw [q] at h2
      obtain ⟨u, g3, _⟩ := g1 z q
      exact ⟨a', some u, rfl, g3, h2.here s2 _ (.bl _)⟩
  · exact h2.elim
def EX.din (a b : EX τ) : EX τ := ⟨fun Γ W => tDIn (a.te Γ W) (b.te Γ W), ev2 (fDin false) a.ev b.ev, fun Γ W io G H σ env s Q h => by
  have := din_ok false a b Γ W io G H σ env s Q h
  exact this⟩
def EX.dnin (a b : EX τ) : EX τ := ⟨fun Γ W => tDNotIn (a.te Γ W) (b.te Γ W), ev2 (fDin true) a.ev b.ev, fun Γ W io G H σ env s Q h => by
  have := din_ok true a b Γ W io G H σ env s Q h
  exact this⟩
def FX.dnew : FX τ where
  te := fun _ _ => tDNewK
  ev := fun env => .ok (.dic []) env
  ok := fun Γ W io G H σ env s Q h => fun p hp => h G _ (s.laid hp) (Mv.laid hp) p hp (s.ex.free hp) (fun ⟨i, k, o, e, t⟩ => by
    obtain ⟨a, g1, _, g3, _⟩ := s.own i k o e
    rw [t] at g1; cases g1
    obtain ⟨u, hu⟩ := g3.there
    rw [hp] at hu; cases hu) (.dic upd_same (Nat.zero_le _) rfl .nil)
/-- the own dict of slot i: k in it, k not in it -/
def ownDic (env : En) (i : Nat) : Option (List (Key × D)) := match env[i]? with
  | some (.own _ (.dic kvs)) => some kvs
  | some (.dat (.dic kvs)) => some kvs
  | _ => none
theorem ownDic_get {Γ : Gm0} {io : List Addr} {G H : Hp} {σ : L2.St} {env : En} (s : St Γ io G H σ env) {i : Nat} {kvs : List (Key × D)} (h : ownDic env i = some kvs) {y : V} {k : Key} (hy : y = kV k) :
    ∃ a, σ[i]? = some (some (.ref a)) ∧ (∀ d, lookD kvs k = some d → ∃ u, DGet H a y (some u) ∧ Rep Γ G u d) ∧ (lookD kvs k = none → DGet H a y none) := by
  unfold ownDic at h
  split at h
  · rename_i q kv e
    cases h
    obtain ⟨a, g1, g2, g3, _⟩ := s.own i _ _ e
    refine ⟨a, g1, ?_⟩
    cases g3 with
    | @dic vs _ ha _ hk rr =>
      obtain ⟨h1, h2⟩ := look_rel k hk rr
      refine ⟨fun d hd => ?_, fun hd => .inl ⟨vs, k, .inl ha, hy, (h2 hd).symm⟩⟩
      obtain ⟨u, g1, g2⟩ := h1 d hd
      exact ⟨u, .inl ⟨vs, k, .inl ha, hy, g1.symm⟩, g2⟩
  · rename_i kv e
    cases h
    obtain ⟨v, g1, g2⟩ := s.dat i _ e
    obtain ⟨a, rfl, h1, h2⟩ := g2.dget s.ex hy
    exact ⟨a, g1, h1, h2⟩
  · cases h
def evDinO (neg : Bool) (a : En → R D) (i : Nat) (env : En) : R D := (a env).bind fun d e1 => match ownDic e1 i, keyD d with
  | some kvs, some k => .ok (.bl (if neg then !(lookD kvs k).isSome else (lookD kvs k).isSome)) e1
  | _, _ => .bad
theorem dinO_ok (neg : Bool) (a : EX τ) (i : Nat) (Γ : Gm τ) (W : WX) : SE Γ.toGm0 W (fun σ H Q => a.te Γ W σ H fun y H1 => tVar i σ H1 fun x H2 => ∃ a o, x = .ref a ∧ DGet H2 a y o ∧ Q (.bl (if neg then !o.isSome else o.isSome)) H2) (evDinO neg a.ev i) := by
  intro io G H σ env s Q h
  refine a.ok Γ W io G H σ env s _ ((Out.step h).mono fun d e1 G1 H1 s1 m1 h1 x rx => ?_)
  split at h1
  · rename_i kvs k ho hk
    obtain ⟨a', g0, g1, g2⟩ := ownDic_get s1 ho (rx.key hk)
    refine ⟨_, g0, a', ?_⟩
    cases q : lookD kvs k with
    | none => rw [q] at h1; exact ⟨none, rfl, g2 q, h1.here s1 _ (.bl _)⟩
    | some z =>
      rw [q] at h1
      obtain ⟨u, g3, _⟩ := g1 z q
      exact ⟨some u, rfl, g3, h1.here s1 _ (.bl _)⟩
  · exact h1.elim
def EX.dinO (a : EX τ) (i : Nat) : EX τ := ⟨fun Γ W => tDIn (a.te Γ W) (tVar i), evDinO false a.ev i, fun Γ W io G H σ env s Q h => by
  have := dinO_ok false a i Γ W io G H σ env s Q h
  exact this⟩
def EX.dninO (a : EX τ) (i : Nat) : EX τ := ⟨fun Γ W => tDNotIn (a.te Γ W) (tVar i), evDinO true a.ev i, fun Γ W io G H σ env s Q h => by
  have := dinO_ok true a i Γ W io G H σ env s Q h
  exact this⟩
/-- d[k], d the own dict of slot i -/
def EX.dgetO (i : Nat) (b : EX τ) : EX τ where
  te := fun Γ W => tDGet (tVar i) (b.te Γ W)
  ev := fun env => match ownDic env i with
    | some _ => (b.ev env).bind fun d e1 => match ownDic e1 i, keyD d with
      | some kvs, some k => R.of (lookD kvs k) e1
      | _, _ => .bad
    | none => .bad
  ok := fun Γ W io G H σ env s Q h => by
    dsimp only at h
    split at h
    · rename_i kvs0 h0
      obtain ⟨a0, g00, _⟩ := ownDic_get s h0 (y := kV (.inl 0)) rfl
      refine ⟨_, g00, b.ok Γ W io G H σ env s _ ((Out.step h).mono fun d e1 G1 H1 s1 m1 h1 y ry => ?_)⟩
      split at h1
      · rename_i kvs k ho hk
        obtain ⟨a', g0, g1, g2⟩ := ownDic_get s1 ho (ry.key hk)
        rw [g00] at g0; cases g0
        cases q : lookD kvs k with
        | none => rw [q] at h1; exact h1.elim
        | some z =>
          rw [q] at h1
          obtain ⟨u, g3, g4⟩ := g1 z q
          exact ⟨a0, u, rfl, g3, h1.here s1 _ g4⟩
      · exact h1.elim
    · exact h.elim

/-! ### attributes -/
def lookF (fs : List (Str × D)) (f : Str) : Option D := (fs.find? fun p => p.1 == f).map (·.2)
theorem lookF_rel {Γ : Gm0} {G : Hp} (f : Str) : ∀ {vs : List (Str × V)} {ds : List (Str × D)}, vs.map (·.1) = ds.map (·.1) → Reps Γ G (vs.map (·.2)) (ds.map (·.2)) → ∀ d, lookF ds f = some d → ∃ v, vs.lookup f = some v ∧ Rep Γ G v d
  | [], [], _, _, d, h => by simp [lookF] at h
  | [], _ :: _, h, _, _, _ => by simp at h
  | _ :: _, [], h, _, _, _ => by simp at h
  | (a, v) :: vs, (b, e) :: ds, h, r, d, hd => by
    simp only [List.map_cons, List.cons.injEq] at h
    obtain ⟨rfl, h⟩ := h
    cases r with
    | cons r1 r2 =>
      by_cases z : a = f
      · subst z
        simp [lookF] at hd
        subst hd
        exact ⟨v, by simp [List.lookup], r1⟩
      · have e2 : lookF ((a, e) :: ds) f = lookF ds f := by
          have : (a == f) = false := by simpa using z
          simp [lookF, this]
        rw [e2] at hd
        obtain ⟨u, g1, g2⟩ := lookF_rel f h r2 d hd
        have : (f == a) = false := by simpa using Ne.symm z
        exact ⟨u, by simp [List.lookup, this, g1], g2⟩
def attOk (τ : Tab) (c : Nat) (f : Str) : Bool := decide (c < τ.ncl) && τ.att.any fun p => p.1 == c && p.2 == f
theorem attOk_at {c : Nat} {f : Str} (h : attOk τ c f = true) : c < τ.ncl ∧ (c, f) ∈ τ.att := by
  simp only [attOk, Bool.and_eq_true, decide_eq_true_eq, List.any_eq_true, beq_iff_eq] at h
  obtain ⟨h1, p, h2, h3, h4⟩ := h
  exact ⟨h1, by rw [← h3, ← h4]; exact h2⟩
/-- e.f of an instance that is data -/
def fFld (τ : Tab) (f : Str) : D → Option D
  | .ins c fs => if attOk τ c f then lookF fs f else none
  | _ => none
def EX.fld (f : Str) (a : EX τ) : EX τ where
  te := fun Γ W => tFld Γ.K (a.te Γ W) f
  ev := ev1 (fFld τ f) a.ev
  ok := fun Γ W io G H σ env s Q h => by
    refine a.ok Γ W io G H σ env s _ ((Out.step h).mono fun d e1 G1 H1 s1 m1 h1 x rx => ?_)
    cases q : fFld τ f d with
    | none => rw [q] at h1; exact h1.elim
    | some z =>
      rw [q] at h1
      unfold fFld at q
      split at q
      · rename_i c fs
        split at q
        · rename_i ha
          obtain ⟨hc, hm⟩ := attOk_at ha
          cases rx with
          | @ins a' dx _ vs _ he hk r =>
            obtain ⟨v, g1, g2⟩ := lookF_rel f hk r z q
            exact ⟨a', Γ.cl c, dx, vs, v, rfl, s1.ex.at he (fun _ z => nomatch z), Γ.cls c hc, Γ.noat _ hm, g1, h1.here s1 _ g2⟩
        · cases q
      · cases q
end T

/-! T7 -/
/-! T7: statements, loops. -/
namespace T
open PySem PySem.Spec PyProof.Rows L2
variable {τ : Tab}

structure SX (τ : Tab) where
  te : Gm τ → WX → TS
  ev : En → R Fl
  ok : ∀ (Γ : Gm τ) (W : WX), SS Γ.toGm0 W (te Γ W) ev

section
variable {Γ : Gm0} {io : List Addr} {W : WX} {G G' H H' : Hp} {σ : L2.St} {env : En}
theorem OutS.step {α : Type} {x : R α} {k : α → En → R Fl} {D : Ends} (h : OutS Γ io W σ env G H (x.bind k) D) : Out Γ io W σ env G H x fun a e1 G1 H1 => OutS Γ io W σ e1 G1 H1 (k a e1) D := by
  cases x with
  | ok a e => exact fun G1 H1 s1 m1 => OutS.shift (show OutS Γ io W σ env G H (k a e) D from h) m1
  | exc c fs e => exact fun G' H' dx s m xr => h σ G' H' dx s m xr
  | bad => exact h.elim
/-- data may be stored there -/
def canSet (env : En) (i : Nat) : Bool := match env[i]? with
  | some (.own (some _) _) => false
  | some _ => true
  | none => false
theorem set_get {env : En} {i j : Nat} {x y : Sl} (hi : i < env.length) (h : (env.set i x)[j]? = some y) : (j = i ∧ y = x) ∨ (j ≠ i ∧ env[j]? = some y) := by
  by_cases z : i = j
  · subst z; rw [List.getElem?_set_self hi] at h; exact .inl ⟨rfl, (Option.some.inj h).symm⟩
  · rw [List.getElem?_set_ne z] at h; exact .inr ⟨Ne.symm z, h⟩
theorem canSet_lt {i : Nat} (h : canSet env i = true) : i < env.length := by
  unfold canSet at h
  cases e : env[i]? with
  | none => rw [e] at h; cases h
  | some x => exact (List.getElem?_eq_some_iff.mp e).1
theorem St.set (s : St Γ io G H σ env) {i : Nat} {v : V} {d : D} (h : canSet env i = true) (r : Rep Γ G v d) : St Γ io G H (σ.set i (some v)) (env.set i (.dat d)) ∧ Mv σ env G H (σ.set i (some v)) (env.set i (.dat d)) G H := by
  have hi := canSet_lt h
  have hσ : i < σ.length := by rw [s.len]; exact hi
  have keep : ∀ {j : Nat}, j ≠ i → (σ.set i (some v))[j]? = σ[j]? := fun n => List.getElem?_set_ne (Ne.symm n)
  refine ⟨⟨s.ex, by simpa using s.len, fun j e q => ?_, fun j k o q => ?_, fun j j' k k' o o' a q q' t t' => ?_⟩, ⟨Sub.refl _, fun b o e _ => ⟨e, id⟩, fun b ⟨j, k, o, q, t⟩ => ?_, fun b o e => ⟨o, e⟩⟩⟩
  · rcases set_get hi q with ⟨z, w⟩ | ⟨z, w⟩
    · subst z; cases w; exact ⟨v, by rw [List.getElem?_set_self hσ], r⟩
    · rw [keep z]; exact s.dat j e w
  · rcases set_get hi q with ⟨z, w⟩ | ⟨z, w⟩
    · cases w
    · rw [keep z]; exact s.own j k o w
  · rcases set_get hi q with ⟨z, w⟩ | ⟨z, w⟩
    · cases w
    · rcases set_get hi q' with ⟨z', w'⟩ | ⟨z', w'⟩
      · cases w'
      · rw [keep z] at t; rw [keep z'] at t'; exact s.sep j j' _ _ _ _ a w w' t t'
  · rcases set_get hi q with ⟨z, w⟩ | ⟨z, w⟩
    · cases w
    · rw [keep z] at t; exact .inl ⟨j, k, o, w, t⟩
/-- a new object becomes a slot's own -/
theorem St.setOwn (s : St Γ io G H σ env) {i : Nat} {a : Addr} {o : O} (h : canSet env i = true) (ga : G a = none) (no : ¬ Ow σ env a) (r : ORep Γ G H a o) :
    St Γ io G H (σ.set i (some (.ref a))) (env.set i (.own none o)) := by
  have hi := canSet_lt h
  have hσ : i < σ.length := by rw [s.len]; exact hi
  have keep : ∀ {j : Nat}, j ≠ i → (σ.set i (some (.ref a)))[j]? = σ[j]? := fun n => List.getElem?_set_ne (Ne.symm n)
  refine ⟨s.ex, by simpa using s.len, fun j e q => ?_, fun j k o' q => ?_, fun j j' k k' o o' b q q' t t' => ?_⟩
  · rcases set_get hi q with ⟨z, w⟩ | ⟨z, w⟩
    · cases w
    · rw [keep z]; exact s.dat j e w
  · rcases set_get hi q with ⟨z, w⟩ | ⟨z, w⟩
    · subst z; cases w; exact ⟨a, by rw [List.getElem?_set_self hσ], ga, r, fun j hj => by cases hj⟩
    · rw [keep z]; exact s.own j k o' w
  · rcases set_get hi q with ⟨z, w⟩ | ⟨z, w⟩
    · rcases set_get hi q' with ⟨z', w'⟩ | ⟨z', w'⟩
      · rw [z, z']
      · subst z
        rw [List.getElem?_set_self hσ] at t; cases t
        rw [keep z'] at t'
        exact absurd ⟨j', _, _, w', t'⟩ no
    · rcases set_get hi q' with ⟨z', w'⟩ | ⟨z', w'⟩
      · subst z'
        rw [List.getElem?_set_self hσ] at t'; cases t'
        rw [keep z] at t
        exact absurd ⟨j, _, _, w, t⟩ no
      · rw [keep z] at t; rw [keep z'] at t'; exact s.sep j j' _ _ _ _ b w w' t t'
theorem Mv.setOwn {G1 H1 : Hp} {env1 : En} (m : Mv σ env G H σ env1 G1 H1) {i : Nat} {a : Addr} {o : O} (h : canSet env1 i = true) (s1 : St Γ io G1 H1 σ env1) (ha : H a = none) : Mv σ env G H (σ.set i (some (.ref a))) (env1.set i (.own none o)) G1 H1 := by
  have hi := canSet_lt h
  refine ⟨m.sub, m.keep, fun b ⟨j, k, o, q, t⟩ => ?_, m.there⟩
  rcases set_get hi q with ⟨z, w⟩ | ⟨z, w⟩
  · subst z
    rw [List.getElem?_set_self (by rw [s1.len]; exact hi)] at t; cases t
    exact .inr ha
  · rw [List.getElem?_set_ne (Ne.symm z)] at t
    exact m.ow b ⟨j, k, o, w, t⟩
/-- an own object changes -/
theorem St.write (s : St Γ io G H σ env) {i : Nat} {k : Option Nat} {o o' : O} {a : Addr} {u : HO} (e : env[i]? = some (.own k o)) (ea : σ[i]? = some (some (.ref a))) (r : ORep Γ G (upd H a u) a o') :
    St Γ io G (upd H a u) σ (env.set i (.own k o')) ∧ Mv σ env G H σ (env.set i (.own k o')) G (upd H a u) := by
  have hi : i < env.length := (List.getElem?_eq_some_iff.mp e).1
  obtain ⟨a', g1, g2, g3, g4⟩ := s.own i k o e
  rw [ea] at g1; cases g1
  refine ⟨⟨s.ex.mut g2, by simpa using s.len, fun j d q => ?_, fun j k2 o2 q => ?_, fun j j' k1 k2 o1 o2 b q q' t t' => ?_⟩, ⟨Sub.refl _, fun b w hb no => ?_, fun b ⟨j, k2, o2, q, t⟩ => ?_, upd_there⟩⟩
  · rcases set_get hi q with ⟨z, w⟩ | ⟨z, w⟩
    · cases w
    · exact s.dat j d w
  · rcases set_get hi q with ⟨z, w⟩ | ⟨z, w⟩
    · subst z; cases w; exact ⟨a, ea, g2, r, g4⟩
    · obtain ⟨b, h1, h2, h3, h4⟩ := s.own j k2 o2 w
      have ne : b ≠ a := fun y => z (s.sep j i _ _ _ _ b w e h1 (by rw [y]; exact ea))
      refine ⟨b, h1, h2, h3.mono (Sub.refl _) fun x hx => by rw [upd_ne ne]; exact hx, h4⟩
  · have f : ∀ {j : Nat} {kk : Option Nat} {oo : O}, (env.set i (.own k o'))[j]? = some (.own kk oo) → ∃ k' o', env[j]? = some (.own k' o') := fun {j kk oo} q => by
      rcases set_get hi q with ⟨z, w⟩ | ⟨z, w⟩
      · subst z; exact ⟨_, _, e⟩
      · exact ⟨_, _, w⟩
    obtain ⟨_, _, w⟩ := f q
    obtain ⟨_, _, w'⟩ := f q'
    exact s.sep j j' _ _ _ _ b w w' t t'
  · have ne : b ≠ a := fun y => no ⟨i, k, o, e, by rw [y]; exact ea⟩
    exact ⟨by rw [upd_ne ne]; exact hb, id⟩
  · rcases set_get hi q with ⟨z, w⟩ | ⟨z, w⟩
    · subst z; exact .inl ⟨j, k, o, e, t⟩
    · exact .inl ⟨j, k2, o2, w, t⟩
end
/-! ### simple statements -/
def SX.nx : SX τ := ⟨fun _ _ => tNext, fun env => .ok .nx env, fun _ _ _ _ _ _ _ s _ h => h _ _ _ s (Mv.refl _ _ _ _)⟩
def SX.brk : SX τ := ⟨fun _ _ => tBreak, fun env => .ok .bk env, fun _ _ _ _ _ _ _ s _ h => h _ _ _ s (Mv.refl _ _ _ _)⟩
def SX.cnt : SX τ := ⟨fun _ _ => tCont, fun env => .ok .ct env, fun _ _ _ _ _ _ _ s _ h => h _ _ _ s (Mv.refl _ _ _ _)⟩
def evSeq (a b : En → R Fl) (env : En) : R Fl := match a env with
  | .ok .nx e => b e
  | r => r
def SX.seq (a b : SX τ) : SX τ where
  te := fun Γ W => tSeq (a.te Γ W) (b.te Γ W)
  ev := evSeq a.ev b.ev
  ok := fun Γ W io G H σ env s D h => by
    refine a.ok Γ W io G H σ env s _ ?_
    unfold evSeq at h
    cases q : a.ev env with
    | bad => rw [q] at h; exact h
    | exc c fs e => rw [q] at h; exact h
    | ok f e =>
      rw [q] at h
      cases f with
      | nx => exact fun σ' G' H' s' m => b.ok Γ W io G' H' σ' e s' D (h.shift m)
      | bk => exact h
      | ct => exact h
      | rt d => exact h
      | ro o => exact h
def SX.asg (i : Nat) (e : EX τ) : SX τ where
  te := fun Γ W => tAsg (e.te Γ W) (gName i)
  ev := fun env => (e.ev env).bind fun d e1 => if canSet e1 i then .ok .nx (e1.set i (.dat d)) else .bad
  ok := fun Γ W io G H σ env s D h => by
    refine e.ok Γ W io G H σ env s _ (h.step.mono fun d e1 G1 H1 s1 m1 h1 v rv => ?_)
    split at h1
    · rename_i c
      obtain ⟨s2, m2⟩ := s1.set c rv
      exact h1 _ _ _ s2 m2
    · exact h1.elim
def SX.asgF (i : Nat) (f : FX τ) : SX τ where
  te := fun Γ W => tAsg (f.te Γ W) (gName i)
  ev := fun env => (f.ev env).bind fun o e1 => if canSet e1 i then .ok .nx (e1.set i (.own none o)) else .bad
  ok := fun Γ W io G H σ env s D h => by
    refine f.ok Γ W io G H σ env s _ ?_
    dsimp only at h
    cases q : f.ev env with
    | bad => rw [q] at h; exact h
    | exc c fs e => rw [q] at h; exact fun G' H' dx s m xr => h σ G' H' dx s m xr
    | ok o e1 =>
      rw [q] at h
      simp only [R.bind_ok] at h
      split at h
      · rename_i c
        exact fun G1 H1 s1 m1 a ha ga no rep => h _ _ _ (s1.setOwn c ga no rep) (m1.setOwn c s1 ha)
      · exact h.elim
def SX.ite (t : TX τ) (a b : SX τ) : SX τ where
  te := fun Γ W => tIfS (t.tt Γ W) (a.te Γ W) (b.te Γ W)
  ev := fun env => (t.ev env).bind fun c e1 => if c then a.ev e1 else b.ev e1
  ok := fun Γ W io G H σ env s D h => by
    refine t.ok Γ W io G H σ env s _ (h.step.mono fun c e1 G1 H1 s1 m1 h1 => ?_)
    cases c with
    | true => rw [if_pos rfl] at h1 ⊢; exact a.ok Γ W io G1 H1 σ e1 s1 D h1
    | false => rw [if_neg Bool.false_ne_true] at h1 ⊢; exact b.ok Γ W io G1 H1 σ e1 s1 D h1
def SX.ret (e : EX τ) : SX τ where
  te := fun Γ W => tRet (e.te Γ W)
  ev := fun env => (e.ev env).bind fun d e1 => .ok (.rt d) e1
  ok := fun Γ W io G H σ env s D h => by
    refine e.ok Γ W io G H σ env s _ (h.step.mono fun d e1 G1 H1 s1 m1 h1 v rv => ?_)
    exact h1 _ _ _ v s1 (Mv.refl _ _ _ _) rv
def SX.retN : SX τ := ⟨fun _ _ => tRetN, fun env => .ok (.rt .non) env, fun _ _ _ _ _ _ _ s _ h => h _ _ _ _ s (Mv.refl _ _ _ _) .non⟩
/-- return x, x an own object -/
def SX.retO (i : Nat) : SX τ where
  te := fun _ _ => tRet (tVar i)
  ev := fun env => match env[i]? with
    | some (.own none o) => .ok (.ro o) env
    | _ => .bad
  ok := fun Γ W io G H σ env s D h => by
    dsimp only at h
    split at h
    · rename_i o e
      obtain ⟨a, g1, g2, g3, g4⟩ := s.own i _ _ e
      exact ⟨_, g1, h _ _ _ a s (Mv.refl _ _ _ _) ⟨i, e, g1⟩⟩
    · exact h.elim
def SX.expr (e : EX τ) : SX τ where
  te := fun Γ W => tDrop (e.te Γ W)
  ev := fun env => (e.ev env).bind fun _ e1 => .ok .nx e1
  ok := fun Γ W io G H σ env s D h => by
    refine e.ok Γ W io G H σ env s _ (h.step.mono fun d e1 G1 H1 s1 m1 h1 v rv => ?_)
    exact h1 _ _ _ s1 (Mv.refl _ _ _ _)

/-! ### an own list -/
def ownLst (env : En) (i : Nat) : Option (List D) := match env[i]? with
  | some (.own _ (.lst ds)) => some ds
  | _ => none
def setLst (env : En) (i : Nat) (ds : List D) : En := match env[i]? with
  | some (.own k _) => env.set i (.own k (.lst ds))
  | _ => env
theorem ownLst_at {env : En} {i : Nat} {ds : List D} (h : ownLst env i = some ds) : ∃ k, env[i]? = some (.own k (.lst ds)) := by
  unfold ownLst at h
  split at h
  · cases h; exact ⟨_, by assumption⟩
  · cases h
theorem setLst_at {env : En} {i : Nat} {k : Option Nat} {o : O} {ds : List D} (h : env[i]? = some (.own k o)) : setLst env i ds = env.set i (.own k (.lst ds)) := by
  unfold setLst; rw [h]
def SX.app (i : Nat) (e : EX τ) : SX τ where
  te := fun Γ W => tDrop (tBM Γ.K "list" rAppend (tVar i) (tCons (e.te Γ W) tNil))
  ev := fun env => if (ownLst env i).isSome then (e.ev env).bind fun d e1 => match ownLst e1 i with
      | some ds => if capd ds.length then .ok .nx (setLst e1 i (ds ++ [d])) else .bad
      | none => .bad
    else .bad
  ok := fun Γ W io G H σ env s D h => by
    dsimp only at h
    split at h
    · rename_i c
      cases q0 : ownLst env i with
      | none => rw [q0] at c; cases c
      | some ds0 =>
        obtain ⟨k0, e0⟩ := ownLst_at q0
        obtain ⟨a, g1, g2, g3, g4⟩ := s.own i _ _ e0
        cases g3 with
        | @lst vs0 _ hvs0 _ _ =>
          refine ⟨_, g1, .inl ⟨rfl, vs0, .inl (.inl hvs0)⟩, e.ok Γ W io G H σ env s _ (h.step.mono fun d e1 G1 H1 s1 m1 h1 v rv => ?_)⟩
          split at h1
          · rename_i ds q1
            split at h1
            · rename_i cap
              obtain ⟨k1, e1'⟩ := ownLst_at q1
              obtain ⟨a', y1, y2, y3, y4⟩ := s1.own i _ _ e1'
              rw [g1] at y1; cases y1
              cases y3 with
              | @lst vs _ hvs hz hr =>
                have hl : vs.length < sizeLine := by rw [hr.length]; exact capd_lt cap
                refine ⟨a, vs, v, rfl, rfl, hvs, hl, ?_⟩
                rw [setLst_at e1'] at h1
                obtain ⟨s2, m2⟩ := s1.write (o' := .lst (ds ++ [d])) (u := .lst (vs ++ [v])) e1' g1 (.lst upd_same (by rw [List.length_append]; exact hl) (hr.append (.cons rv .nil)))
                exact h1 _ _ _ s2 m2
            · exact h1.elim
          · exact h1.elim
    · exact h.elim
def SX.rev (i : Nat) : SX τ where
  te := fun Γ W => tDrop (tBM0 Γ.K "list" rReverse (tVar i))
  ev := fun env => match ownLst env i with
    | some ds => .ok .nx (setLst env i ds.reverse)
    | none => .bad
  ok := fun Γ W io G H σ env s D h => by
    dsimp only at h
    split at h
    · rename_i ds q0
      obtain ⟨k0, e0⟩ := ownLst_at q0
      obtain ⟨a, g1, g2, g3, g4⟩ := s.own i _ _ e0
      cases g3 with
      | @lst vs _ hvs hz hr =>
        refine ⟨_, g1, .inl ⟨rfl, vs, .inl (.inl hvs)⟩, a, vs, rfl, rfl, hvs, ?_⟩
        rw [setLst_at e0] at h
        obtain ⟨s2, m2⟩ := s.write (o' := .lst ds.reverse) (u := .lst vs.reverse) e0 g1 (.lst upd_same (by rw [List.length_reverse]; exact hz) hr.reverse)
        exact h _ _ _ s2 m2
    · exact h.elim
/-- xs.pop(), as a value -/
def EX.pop (i : Nat) : EX τ where
  te := fun Γ W => tBM0 Γ.K "list" rPop (tVar i)
  ev := fun env => match ownLst env i with
    | some ds => match ds[ds.length - 1]? with
      | some d => .ok d (setLst env i ds.dropLast)
      | none => .bad
    | none => .bad
  ok := fun Γ W io G H σ env s Q h => by
    dsimp only at h
    split at h
    · rename_i ds q0
      split at h
      · rename_i d hd
        obtain ⟨k0, e0⟩ := ownLst_at q0
        obtain ⟨a, g1, g2, g3, g4⟩ := s.own i _ _ e0
        cases g3 with
        | @lst vs _ hvs hz hr =>
          obtain ⟨v, hv, rv⟩ := hr.at hd
          rw [← hr.length] at hv
          refine ⟨_, g1, .inl ⟨rfl, vs, .inl (.inl hvs)⟩, a, vs, v, rfl, rfl, hvs, hv, ?_⟩
          rw [setLst_at e0] at h
          obtain ⟨s2, m2⟩ := s.write (o' := .lst ds.dropLast) (u := .lst vs.dropLast) e0 g1 (.lst upd_same (by rw [List.length_dropLast]; omega) hr.dropLast)
          exact h _ _ s2 m2 _ rv
      · exact h.elim
    · exact h.elim
/-- xs[j] = v -/
def SX.setL (i : Nat) (j v : EX τ) : SX τ where
  te := fun Γ W => tAsg (v.te Γ W) (gSub (tVar i) (j.te Γ W) rSetL)
  ev := fun env => (v.ev env).bind fun d e1 => if (ownLst e1 i).isSome then (j.ev e1).bind fun x e2 => match ownLst e2 i, x with
      | some ds, .int n => match ixN ds.length n with
        | some p => .ok .nx (setLst e2 i (ds.set p d))
        | none => .bad
      | _, _ => .bad
    else .bad
  ok := fun Γ W io G H σ env s D h => by
    refine v.ok Γ W io G H σ env s _ (h.step.mono fun d e1 G1 H1 s1 m1 h1 y ry => ?_)
    split at h1
    · rename_i c
      cases q0 : ownLst e1 i with
      | none => rw [q0] at c; cases c
      | some ds0 =>
        obtain ⟨k0, e0⟩ := ownLst_at q0
        obtain ⟨a, g1, g2, g3, g4⟩ := s1.own i _ _ e0
        refine ⟨_, g1, j.ok Γ W io G1 H1 σ e1 s1 _ (h1.step.mono fun x e2 G2 H2 s2 m2 h2 w rw' => ?_)⟩
        split at h2
        · rename_i ds n q1
          cases rw'
          split at h2
          · rename_i p hp
            obtain ⟨k1, e1'⟩ := ownLst_at q1
            obtain ⟨a', y1, y2, y3, y4⟩ := s2.own i _ _ e1'
            rw [g1] at y1; cases y1
            cases y3 with
            | @lst vs _ hvs hz hr =>
              refine ⟨a, vs, n, p, rfl, rfl, hvs, by rw [hr.length]; exact hp, ?_⟩
              rw [setLst_at e1'] at h2
              obtain ⟨s3, m3⟩ := s2.write (o' := .lst (ds.set p d)) (u := .lst (vs.set p y)) e1' g1 (.lst upd_same (by rw [List.length_set]; exact hz) (Reps.set (ry.mono m2.sub) p hr))
              exact h2 _ _ _ s3 m3
          · exact h2.elim
        · exact h2.elim
    · exact h1.elim
/-- len(xs), xs[j], x in xs of an own list (or of data) -/
def peek (env : En) (i : Nat) : Option (List D) := match env[i]? with
  | some (.own _ (.lst ds)) => some ds
  | some (.dat d) => d.seq?
  | _ => none
theorem peek_at {Γ : Gm0} {io : List Addr} {G H : Hp} {σ : L2.St} {env : En} (s : St Γ io G H σ env) {i : Nat} {ds : List D} (h : peek env i = some ds) :
    ∃ a vs, σ[i]? = some (some (.ref a)) ∧ (SqL Γ.K H a vs ∨ SqT Γ.K H a vs) ∧ vs.length ≤ sizeLine ∧ Reps Γ G vs ds := by
  unfold peek at h
  split at h
  · rename_i k ds' e
    cases h
    obtain ⟨a, g1, g2, g3, g4⟩ := s.own i _ _ e
    cases g3 with
    | @lst vs _ hvs hz hr => exact ⟨a, vs, g1, .inl (.inl (.inl hvs)), hz, hr⟩
  · rename_i d e
    obtain ⟨v, g1, g2⟩ := s.dat i d e
    obtain ⟨a, vs, rfl, h1, h2, h3⟩ := g2.seq s.ex h
    exact ⟨a, vs, g1, h1, h2, h3⟩
  · cases h
def EX.idxO (i : Nat) (j : EX τ) : EX τ where
  te := fun Γ W => tOp (rIx Γ.K) (tVar i) (j.te Γ W)
  ev := fun env => if (peek env i).isSome then (j.ev env).bind fun x e1 => match peek e1 i, x with
      | some ds, .int n => R.of (atI ds n) e1
      | _, _ => .bad
    else .bad
  ok := fun Γ W io G H σ env s Q h => by
    dsimp only at h
    split at h
    · rename_i c
      cases q0 : peek env i with
      | none => rw [q0] at c; cases c
      | some ds0 =>
        obtain ⟨a, vs0, g1, _⟩ := peek_at s q0
        refine ⟨_, g1, j.ok Γ W io G H σ env s _ ((Out.step h).mono fun x e1 G1 H1 s1 m1 h1 y ry => ?_)⟩
        split at h1
        · rename_i ds n q1
          cases ry
          obtain ⟨a', vs, y1, y2, _, y4⟩ := peek_at s1 q1
          rw [g1] at y1; cases y1
          cases q : L2.atI ds n with
          | none => rw [q] at h1; exact h1.elim
          | some z =>
            rw [q] at h1
            obtain ⟨v, z1, z2⟩ := y4.atI q
            rcases y2 with y2 | y2
            · exact .inl ⟨a, vs, n, v, rfl, rfl, y2, z1, h1.here s1 _ z2⟩
            · exact .inr (.inl ⟨a, vs, n, v, rfl, rfl, y2, z1, h1.here s1 _ z2⟩)
        · exact h1.elim
    · exact h.elim
def rLenA (K : PySem.W.Frag) : List V → Hp → VK → Prop := fun xs H Q => ∃ x n, xs = [x] ∧ LenV K x H n ∧ Q (.int n) H
def EX.lenO (i : Nat) : EX τ where
  te := fun Γ W => tCB (rLenA Γ.K) (tCons (tVar i) tNil)
  ev := fun env => match peek env i with
    | some ds => .ok (.int ds.length) env
    | none => .bad
  ok := fun Γ W io G H σ env s Q h => by
    dsimp only at h
    split at h
    · rename_i ds q0
      obtain ⟨a, vs, g1, g2, _, g4⟩ := peek_at s q0
      refine ⟨_, g1, _, ds.length, rfl, ?_, h.here s _ (.int _)⟩
      rw [← g4.length]
      exact g2.elim (fun z => .inl ⟨vs, z, rfl⟩) fun z => .inr ⟨vs, z, rfl⟩
    · exact h.elim
def EX.inO (neg : Bool) (x : EX τ) (i : Nat) : EX τ where
  te := fun Γ W => tOp (rIn Γ.K neg) (x.te Γ W) (tVar i)
  ev := fun env => (x.ev env).bind fun d e1 => match peek e1 i with
    | some ds => if d.flat && ds.all D.flat then .ok (.bl (if neg then !inF d ds else inF d ds)) e1 else .bad
    | none => .bad
  ok := fun Γ W io G H σ env s Q h => by
    refine x.ok Γ W io G H σ env s _ ((Out.step h).mono fun d e1 G1 H1 s1 m1 h1 v rv => ?_)
    split at h1
    · rename_i ds q0
      split at h1
      · rename_i c
        rw [Bool.and_eq_true] at c
        obtain ⟨a, vs, g1, g2, _, g4⟩ := peek_at s1 q0
        refine ⟨_, g1, a, vs, rfl, g2, rv.flat c.1, g4.flat c.2, ?_⟩
        rw [inF_is rv c.1 g4 c.2]
        exact h1.here s1 _ (.bl _)
      · exact h1.elim
    · exact h1.elim

/-! ### an own dict; an own instance -/
def SX.dput (i : Nat) (k v : EX τ) : SX τ where
  te := fun Γ W => sDPut (tVar i) (k.te Γ W) (v.te Γ W)
  ev := fun env => (v.ev env).bind fun d e1 => (match e1[i]? with
    | some (.own _ (.dic _)) => (k.ev e1).bind fun x e2 => match e2[i]?, keyD x with
      | some (.own io (.dic kvs)), some key => if capd kvs.length then .ok .nx (e2.set i (.own io (.dic (putD kvs key d)))) else .bad
      | _, _ => .bad
    | _ => .bad)
  ok := fun Γ W io G H σ env s D h => by
    refine v.ok Γ W io G H σ env s _ (h.step.mono fun d e1 G1 H1 s1 m1 h1 y ry => ?_)
    split at h1
    · rename_i k0 kv0 e0
      obtain ⟨a, g1, g2, g3, g4⟩ := s1.own i _ _ e0
      refine ⟨_, g1, k.ok Γ W io G1 H1 σ e1 s1 _ (h1.step.mono fun x e2 G2 H2 s2 m2 h2 w rw' => ?_)⟩
      split at h2
      · rename_i k1 kvs key e1' hk
        split at h2
        · rename_i cap
          obtain ⟨a', y1, y2, y3, y4⟩ := s2.own i _ _ e1'
          rw [g1] at y1; cases y1
          cases y3 with
          | @dic vs _ hvs hz hkk hr =>
            have hlen : vs.length = kvs.length := by simpa using congrArg List.length hkk
            have hl : vs.length < sizeLine := by rw [hlen]; exact capd_lt cap
            obtain ⟨p1, p2⟩ := put_rel key (ry.mono m2.sub) hkk hr
            refine ⟨a, _, rfl, .inl ⟨vs, key, hvs, rw'.key hk, hl, rfl⟩, ?_⟩
            obtain ⟨s3, m3⟩ := s2.write (o' := .dic (putD kvs key d)) (u := .dK (putK vs key y)) e1' g1 (.dic upd_same (by
              unfold putK
              split
              · rw [List.length_map]; omega
              · rw [List.length_append]; exact hl) p1 p2)
            exact h2 _ _ _ s3 m3
        · exact h2.elim
      · exact h2.elim
    · exact h1.elim
def putFd (f : Str) (v : D) : List (Str × D) → List (Str × D)
  | [] => [(f, v)]
  | (g, x) :: r => if g = f then (g, v) :: r else (g, x) :: putFd f v r
theorem putFd_rel {Γ : Gm0} {G : Hp} (f : Str) {u : V} {e : D} (ru : Rep Γ G u e) : ∀ {vs : List (Str × V)} {ds : List (Str × D)}, vs.map (·.1) = ds.map (·.1) → Reps Γ G (vs.map (·.2)) (ds.map (·.2)) →
    (putF f u vs).map (·.1) = (putFd f e ds).map (·.1) ∧ Reps Γ G ((putF f u vs).map (·.2)) ((putFd f e ds).map (·.2))
  | [], [], _, _ => ⟨rfl, .cons ru .nil⟩
  | [], _ :: _, h, _ => by simp at h
  | _ :: _, [], h, _ => by simp at h
  | (a, v) :: vs, (b, d) :: ds, h, r => by
    simp only [List.map_cons, List.cons.injEq] at h
    obtain ⟨rfl, h⟩ := h
    cases r with
    | cons r1 r2 =>
      by_cases z : a = f
      · simp only [putF, putFd, z, if_true, List.map_cons]
        exact ⟨by rw [h], .cons ru r2⟩
      · obtain ⟨i1, i2⟩ := putFd_rel f ru h r2
        simp only [putF, putFd, z, if_false, List.map_cons]
        exact ⟨by rw [i1], .cons r1 i2⟩
/-- self.f = e, self the own instance of slot i -/
def SX.fset (i : Nat) (f : Str) (e : EX τ) : SX τ where
  te := fun Γ W => sFld Γ.K (tVar i) (e.te Γ W) f
  ev := fun env => (e.ev env).bind fun d e1 => match e1[i]? with
    | some (.own k (.ins c fs)) => if attOk τ c f && decide (fs.length < 1000) then .ok .nx (e1.set i (.own k (.ins c (putFd f d fs)))) else .bad
    | _ => .bad
  ok := fun Γ W io G H σ env s D h => by
    refine e.ok Γ W io G H σ env s _ (h.step.mono fun d e1 G1 H1 s1 m1 h1 y ry => ?_)
    split at h1
    · rename_i k c fs e0
      split at h1
      · rename_i hc
        rw [Bool.and_eq_true, decide_eq_true_eq] at hc
        obtain ⟨hc1, hm⟩ := attOk_at hc.1
        obtain ⟨a, g1, g2, g3, g4⟩ := s1.own i _ _ e0
        cases g3 with
        | @ins dx _ vs _ hvs hk hr =>
          have hlen : vs.length = fs.length := by simpa using congrArg List.length hk
          refine ⟨_, g1, a, Γ.cl c, dx, vs, rfl, hvs, Γ.cls c hc1, Γ.noat _ hm, by rw [hlen]; exact hc.2, ?_⟩
          obtain ⟨p1, p2⟩ := putFd_rel f ry hk hr
          obtain ⟨s3, m3⟩ := s1.write (o' := .ins c (putFd f d fs)) (u := .ins (Γ.cl c) dx (putF f y vs)) e0 g1 (.ins upd_same p1 p2)
          exact h1 _ _ _ s3 m3
      · exact h1.elim
    · exact h1.elim
end T

/-! T8 -/
/-! T8: targets, what loops walk, for, while, comprehensions. -/
namespace T
open PySem PySem.Spec PyProof.Rows L2
variable {τ : Tab}

/-! ### targets -/
structure GX (τ : Tab) where
  tg : Gm τ → TG
  ev : D → En → Option En
  sl : List Nat
  ok : ∀ (Γ : Gm τ) io G H σ env v d e2, St Γ.toGm0 io G H σ env → Rep Γ.toGm0 G v d → ev d env = some e2 →
    ∀ Q : L2.St → Hp → Prop, (∀ σ2, St Γ.toGm0 io G H σ2 e2 → Mv σ env G H σ2 e2 G H → (∀ vs : List Nat, (∀ j ∈ sl, j ∈ vs) → wipe σ2 vs = wipe σ vs) → Q σ2 H) → tg Γ v σ H Q
structure GXs (τ : Tab) where
  tgs : Gm τ → TGs
  ev : List D → En → Option En
  sl : List Nat
  ok : ∀ (Γ : Gm τ) io G H σ env vs ds e2, St Γ.toGm0 io G H σ env → Reps Γ.toGm0 G vs ds → ev ds env = some e2 →
    ∀ Q : L2.St → Hp → Prop, (∀ σ2, St Γ.toGm0 io G H σ2 e2 → Mv σ env G H σ2 e2 G H → (∀ ws : List Nat, (∀ j ∈ sl, j ∈ ws) → wipe σ2 ws = wipe σ ws) → Q σ2 H) → tgs Γ vs σ H Q
theorem wipe_set {x : Option V} {i : Nat} : ∀ {σ : L2.St} {vs : List Nat}, i ∈ vs → wipe (σ.set i x) vs = wipe σ vs
  | σ, [], h => by simp at h
  | σ, v :: vs, h => by
    show (wipe (σ.set i x) vs).set v none = (wipe σ vs).set v none
    by_cases z : i ∈ vs
    · rw [wipe_set z]
    · have e : i = v := by
        rcases List.mem_cons.mp h with q | q
        · exact q
        · exact absurd q z
      subst e
      apply List.ext_getElem?
      intro n
      have hl : (wipe (σ.set i x) vs).length = (wipe σ vs).length := by rw [wipe_length, wipe_length, List.length_set]
      by_cases hn : i = n
      · subst hn
        rw [List.getElem?_set, List.getElem?_set, hl, if_pos rfl, if_pos rfl]
      · rw [List.getElem?_set_ne hn, List.getElem?_set_ne hn]
        by_cases hv : n ∈ vs
        · have go : ∀ {ws : List Nat} {σ : L2.St}, n ∈ ws → (wipe σ ws)[n]? = if n < σ.length then some none else none := by
            intro ws
            induction ws with
            | nil => intro σ h; simp at h
            | cons w ws ih =>
              intro σ h
              show ((wipe σ ws).set w none)[n]? = _
              by_cases e : w = n
              · subst e
                rw [List.getElem?_set, wipe_length, if_pos rfl]
              · rw [List.getElem?_set_ne e]
                exact ih (by rcases List.mem_cons.mp h with q | q; exact absurd q.symm e; exact q)
          rw [go hv, go hv, List.length_set]
        · rw [wipe_out hv, wipe_out hv, List.getElem?_set_ne hn]
def GX.name (i : Nat) : GX τ where
  tg := fun _ => gName i
  ev := fun d env => if canSet env i then some (env.set i (.dat d)) else none
  sl := [i]
  ok := fun Γ io G H σ env v d e2 s r h Q q => by
    split at h
    · rename_i c
      cases h
      obtain ⟨s2, m2⟩ := s.set c r
      exact q _ s2 m2 fun vs hv => wipe_set (hv i (by simp))
    · cases h
def GXs.nil : GXs τ where
  tgs := fun _ => gNil
  ev := fun ds env => match ds with
    | [] => some env
    | _ => none
  sl := []
  ok := fun Γ io G H σ env vs ds e2 s r h Q q => by
    cases r with
    | nil => cases h; exact ⟨rfl, q σ s (Mv.refl _ _ _ _) fun _ _ => rfl⟩
    | cons _ _ => cases h
def GXs.cons (g : GX τ) (r : GXs τ) : GXs τ where
  tgs := fun Γ => gCons (g.tg Γ) (r.tgs Γ)
  ev := fun ds env => match ds with
    | d :: ds => (g.ev d env).bind fun e1 => r.ev ds e1
    | [] => none
  sl := g.sl ++ r.sl
  ok := fun Γ io G H σ env vs ds e2 s rr h Q q => by
    cases rr with
    | nil => cases h
    | @cons v d vs ds r1 r2 =>
      dsimp only at h
      cases e : g.ev d env with
      | none => rw [e] at h; cases h
      | some e1 =>
        rw [e] at h
        refine ⟨v, vs, rfl, g.ok Γ io G H σ env v d e1 s r1 e _ fun σ1 s1 m1 w1 => ?_⟩
        refine r.ok Γ io G H σ1 e1 vs ds e2 s1 r2 h Q fun σ2 s2 m2 w2 => ?_
        exact q σ2 s2 (m1.trans m2) fun ws hw => (w2 ws fun j hj => hw j (by simp [hj])).trans (w1 ws fun j hj => hw j (by simp [hj]))
def tupD (n : Nat) : D → Option (List D)
  | .tup ds => if ds.length = n then some ds else none
  | _ => none
theorem tupD_at {n : Nat} {d : D} {ds : List D} (h : tupD n d = some ds) : d = .tup ds ∧ ds.length = n := by
  unfold tupD at h
  split at h
  · split at h
    · rename_i hl; cases h; exact ⟨rfl, hl⟩
    · cases h
  · cases h
/-- a, b, .. = a tuple -/
def GX.tup (n : Nat) (g : GXs τ) : GX τ where
  tg := fun Γ => gTup Γ.K n (g.tgs Γ)
  ev := fun d env => (tupD n d).bind fun ds => g.ev ds env
  sl := g.sl
  ok := fun Γ io G H σ env v d e2 s r h Q q => by
    cases e : tupD n d with
    | none => rw [e] at h; cases h
    | some ds =>
      rw [e] at h
      obtain ⟨hd, hl⟩ := tupD_at e
      subst hd
      cases r with
      | @tup a vs _ hs hz rr => exact ⟨a, vs, rfl, s.ex.st hs, by rw [rr.length]; exact hl, g.ok Γ io G H σ env vs ds e2 s rr h Q q⟩
/-- targets = e -/
def SX.asgG (g : GX τ) (e : EX τ) : SX τ where
  te := fun Γ W => tAsg (e.te Γ W) (g.tg Γ)
  ev := fun env => (e.ev env).bind fun d e1 => match g.ev d e1 with
    | some e2 => .ok .nx e2
    | none => .bad
  ok := fun Γ W io G H σ env s D h => by
    refine e.ok Γ W io G H σ env s _ (h.step.mono fun d e1 G1 H1 s1 m1 h1 v rv => ?_)
    split at h1
    · rename_i e2 he
      exact g.ok Γ io G1 H1 σ e1 v d e2 s1 rv he _ fun σ2 s2 m2 _ => h1 _ _ _ s2 m2
    · exact h1.elim

/-! ### what is walked -/
/-- what J walks from the state (σ, env, G, H) on, as long as chk holds between the turns -/
structure Wk (Γ : Gm0) (io : List Addr) (σ : L2.St) (env : En) (G H : Hp) (chk : En → Bool) (J : It) (ds : List D) : Prop where
  go : ∀ i σ' e' G' H', i < ds.length → St Γ io G' H' σ' e' → Mv σ env G H σ' e' G' H' → chk e' = true → J.go i H'
  stop : ∀ σ' e' G' H', St Γ io G' H' σ' e' → Mv σ env G H σ' e' G' H' → chk e' = true → J.stop ds.length H'
  yld : ∀ i σ' e' G' H' x H2 d, ds[i]? = some d → St Γ io G' H' σ' e' → Mv σ env G H σ' e' G' H' → chk e' = true → J.yld i H' x H2 → (H2 = H' ∧ Rep Γ G' x d) ∨
    ∃ (T : Addr) (vs : List V) (es : List D), x = .ref T ∧ H' T = none ∧ H2 = upd H' T (.tup vs) ∧ vs.length ≤ sizeLine ∧ d = .tup es ∧ Reps Γ G' vs es
/-- by what stands told -/
theorem Wk.plain {Γ : Gm0} {io : List Addr} {σ : L2.St} {env : En} {G H : Hp} {J : It} {ds : List D}
    (go : ∀ i H, i < ds.length → Ext G H → J.go i H) (stop : ∀ H, Ext G H → J.stop ds.length H)
    (yld : ∀ i H x H' d, ds[i]? = some d → Ext G H → J.yld i H x H' → (H' = H ∧ Rep Γ G x d) ∨
      ∃ (T : Addr) (vs : List V) (es : List D), x = .ref T ∧ H T = none ∧ H' = upd H T (.tup vs) ∧ vs.length ≤ sizeLine ∧ d = .tup es ∧ Reps Γ G vs es) : Wk Γ io σ env G H (fun _ => true) J ds where
  go := fun i σ' e' G' H' hi s m _ => go i H' hi (m.sub.ext s.ex)
  stop := fun σ' e' G' H' s m _ => stop H' (m.sub.ext s.ex)
  yld := fun i σ' e' G' H' x H2 d hd s m _ y => by
    rcases yld i H' x H2 d hd (m.sub.ext s.ex) y with ⟨h1, h2⟩ | ⟨T', vs, es, h1, h2, h3, h4, h5, h6⟩
    · exact .inl ⟨h1, h2.mono m.sub⟩
    · exact .inr ⟨T', vs, es, h1, h2, h3, h4, h5, h6.mono m.sub⟩
structure IX (τ : Tab) where
  wi : Gm τ → WX → TI
  ev : En → R (List D)
  chk : En → En → Bool := fun _ _ => true
  ok : ∀ (Γ : Gm τ) (W : WX) io G H σ env, St Γ.toGm0 io G H σ env → ∀ Rr : It → Hp → Prop, Out Γ.toGm0 io W σ env G H (ev env) (fun ds e1 G' H' => ∀ J, Wk Γ.toGm0 io σ e1 G' H' (chk e1) J ds → Rr J H') → wi Γ W σ H Rr
/-- a list, a tuple -/
def iSeq (K : PySem.W.Frag) (tl : TE) : TI := fun σ H R => tl σ H fun x H1 => ∃ a, x = .ref a ∧ ((∃ xs, SqL K H1 a xs ∧ R (Itl K a) H1) ∨ ∃ xs, SqT K H1 a xs ∧ R (Itt K a) H1)
theorem pi_seq {X : Cx} {tg l : Expr} {tl : TE} (hl : PE X l tl) : PI X tg l (iSeq X.K tl) := by
  refine ⟨fun pins s σ H R I h => ?_⟩
  refine thn (hl.run pins s σ H _ I h) fun v s1 ⟨x, H1, I1, r1, q1⟩ => ?_
  obtain ⟨a, rfl, q⟩ := q1
  cases r1
  have fp : ∀ b ∈ [s1.heap.objs.size], FpOk X pins H1 b := fun b hb => by
    rw [List.mem_singleton] at hb
    subst hb
    exact I1.fpOk (Nat.le_refl _) (I1.hok.fresh (Nat.le_refl _))
  rcases q with ⟨xs, hq, q⟩ | ⟨xs, hq, q⟩
  · obtain ⟨its, rv, p, hz⟩ := I1.list hq
    exact wpAny_pyIter_list p.isList ⟨s1.heap.objs.size, [s1.heap.objs.size], _, Itl X.K a, H1, rfl, I1.kept (t' := s1.toks) fun b o e => Heap.get?_push_of_some _ e, turn_list a _, ⟨_, Heap.get?_push_size _ rfl, rfl, rfl⟩, fp, q⟩
  · obtain ⟨its, rv, p, hz⟩ := I1.tuple hq
    exact wpAny_pyIter_tuple (show s1.heap.IsTuple a its.toArray from p) ⟨s1.heap.objs.size, [s1.heap.objs.size], _, Itt X.K a, H1, rfl, I1.kept (t' := s1.toks) fun b o e => Heap.get?_push_of_some _ e, turn_tuple a _, ⟨_, Heap.get?_push_size _ rfl, rfl, rfl⟩, fp, q⟩
def IX.seq (e : EX τ) : IX τ where
  wi := fun Γ W => iSeq Γ.K (e.te Γ W)
  ev := fun env => (e.ev env).bind fun d e1 => R.of d.seq? e1
  ok := fun Γ W io G H σ env s Rr h => by
    refine e.ok Γ W io G H σ env s _ ((Out.step h).mono fun d e1 G1 H1 s1 m1 h1 v rv => ?_)
    cases q : d.seq? with
    | none => rw [q] at h1; exact h1.elim
    | some ds =>
      rw [q] at h1
      have h2 := h1.here s1
      -- what G1 says of it
      have hg : ∃ a vs, v = .ref a ∧ (SqL Γ.K G1 a vs ∨ SqT Γ.K G1 a vs) ∧ Reps Γ.toGm0 G1 vs ds := by
        obtain ⟨a, vs, g1, g2, _, g4⟩ := rv.seq (Sub.refl G1).toExt q
        exact ⟨a, vs, g1, g2, g4⟩
      obtain ⟨a, vs, rfl, g2, g3⟩ := hg
      have hl := g3.length
      refine ⟨a, rfl, ?_⟩
      rcases g2 with g2 | g2
      · refine .inl ⟨vs, s1.ex.sl g2, h2 _ (Wk.plain (fun i H hi x => ⟨vs, vs[i]'(by omega), x.sl g2, by simp⟩) (fun H x => ⟨vs, x.sl g2, by omega⟩) fun i H x H' d' hd x' y => ?_)⟩
        obtain ⟨y1, y2⟩ := y
        obtain ⟨u, z1, z2⟩ := g3.at hd
        have := y2 vs (x'.sl g2)
        rw [z1] at this; cases this
        exact .inl ⟨y1, z2⟩
      · refine .inr ⟨vs, s1.ex.st g2, h2 _ (Wk.plain (fun i H hi x => ⟨vs, vs[i]'(by omega), x.st g2, by simp⟩) (fun H x => ⟨vs, x.st g2, by omega⟩) fun i H x H' d' hd x' y => ?_)⟩
        obtain ⟨y1, y2⟩ := y
        obtain ⟨u, z1, z2⟩ := g3.at hd
        have := y2 vs (x'.st g2)
        rw [z1] at this; cases this
        exact .inl ⟨y1, z2⟩
def rangeD (lo : Int) (n : Nat) : List D := (List.range n).map fun (i : Nat) => D.int (lo + (i : Int))
theorem wk_range {Γ : Gm0} {io : List Addr} {σ : L2.St} {env : En} {G H : Hp} {lo : Int} {n : Nat} : Wk Γ io σ env G H (fun _ => true) (Itr lo n) (rangeD lo n) :=
  Wk.plain (fun i H hi _ => by
      show i < n
      simpa [rangeD] using hi) (fun H _ => by
      show n ≤ _
      simp [rangeD]) fun i H x H' d hd _ y => by
    obtain ⟨y1, y2⟩ := y
    unfold rangeD at hd
    rw [List.getElem?_map] at hd
    cases e : (List.range n)[i]? with
    | none => rw [e] at hd; cases hd
    | some j =>
      rw [e] at hd
      obtain ⟨hj, ej⟩ := List.getElem?_eq_some_iff.mp e
      simp at ej
      subst ej
      cases hd
      exact .inl ⟨y1, by rw [y2]; exact .int _⟩
def smallI (j : Int) : Bool := decide (-(2 ^ 62) ≤ j) && decide (j < 2 ^ 62)
theorem smallI_ok {j : Int} (h : smallI j = true) : -(2 ^ 62) ≤ j ∧ j < 2 ^ 62 := by simpa [smallI] using h
def rng1 : List D → Option (List D)
  | [.int j] => if smallI j then some (rangeD 0 j.toNat) else none
  | _ => none
def rng2 : List D → Option (List D)
  | [.int i, .int j] => if smallI i && smallI j then some (rangeD i (j - i).toNat) else none
  | _ => none
def IX.range1 (a : AX τ) : IX τ where
  wi := fun Γ W => iRng1 (a.ta Γ W)
  ev := fun env => (a.ev env).bind fun as e1 => R.of ((allD as).bind rng1) e1
  ok := fun Γ W io G H σ env s Rr h => by
    refine a.ok Γ W io G H σ env s _ ((Out.step h).mono fun as e1 G1 H1 s1 m1 h1 vs rs => ?_)
    cases q : allD as with
    | none => rw [q] at h1; exact h1.elim
    | some ds =>
      rw [q] at h1
      have r := rs.all q
      cases q2 : rng1 ds with
      | none => rw [Option.bind_some, q2] at h1; exact h1.elim
      | some es =>
        rw [Option.bind_some, q2] at h1
        unfold rng1 at q2
        split at q2
        · rename_i j
          split at q2
          · rename_i c
            cases q2
            obtain ⟨c1, c2⟩ := smallI_ok c
            cases r with
            | cons r1 r2 =>
              cases r1; cases r2
              exact ⟨j, rfl, c1, c2, h1.here s1 _ wk_range⟩
          · cases q2
        · cases q2
def IX.range2 (a : AX τ) : IX τ where
  wi := fun Γ W => iRng2 (a.ta Γ W)
  ev := fun env => (a.ev env).bind fun as e1 => R.of ((allD as).bind rng2) e1
  ok := fun Γ W io G H σ env s Rr h => by
    refine a.ok Γ W io G H σ env s _ ((Out.step h).mono fun as e1 G1 H1 s1 m1 h1 vs rs => ?_)
    cases q : allD as with
    | none => rw [q] at h1; exact h1.elim
    | some ds =>
      rw [q] at h1
      have r := rs.all q
      cases q2 : rng2 ds with
      | none => rw [Option.bind_some, q2] at h1; exact h1.elim
      | some es =>
        rw [Option.bind_some, q2] at h1
        unfold rng2 at q2
        split at q2
        · rename_i i j
          split at q2
          · rename_i c
            cases q2
            rw [Bool.and_eq_true] at c
            obtain ⟨c1, c2⟩ := smallI_ok c.1
            obtain ⟨c3, c4⟩ := smallI_ok c.2
            cases r with
            | cons r1 r2 =>
              cases r1
              cases r2 with
              | cons r3 r4 =>
                cases r3; cases r4
                exact ⟨i, j, rfl, ⟨c1, c2, c3, c4⟩, h1.here s1 _ wk_range⟩
          · cases q2
        · cases q2
/-- enumerate(list) -/
def enumD (ds : List D) : List D := (List.range ds.length).map fun (i : Nat) => D.tup [.int (i : Int), ds.getD i .non]
def lstD : D → Option (List D)
  | .lst ds => some ds
  | .scr ds => some ds
  | _ => none
def enum1 : List D → Option (List D)
  | [d] => (lstD d).map enumD
  | _ => none
theorem Rep.lstD {Γ : Gm0} {G : Hp} {v : V} {d : D} {ds : List D} (r : Rep Γ G v d) (h : T.lstD d = some ds) : ∃ a vs, v = .ref a ∧ SqL Γ.K G a vs ∧ Reps Γ G vs ds := by
  cases r with
  | @lst a vs ds' e z r => simp only [T.lstD, Option.some.injEq] at h; subst h; exact ⟨a, vs, rfl, .inl (.inl e), r⟩
  | @scr a vs ds' e z r => simp only [T.lstD, Option.some.injEq] at h; subst h; exact ⟨a, vs, rfl, e, r⟩
  | _ => simp [T.lstD] at h
def IX.enum (a : AX τ) : IX τ where
  wi := fun Γ W => iEnum Γ.K (a.ta Γ W)
  ev := fun env => (a.ev env).bind fun as e1 => R.of ((allD as).bind enum1) e1
  ok := fun Γ W io G H σ env s Rr h => by
    refine a.ok Γ W io G H σ env s _ ((Out.step h).mono fun as e1 G1 H1 s1 m1 h1 vs rs => ?_)
    cases q : allD as with
    | none => rw [q] at h1; exact h1.elim
    | some ds =>
      rw [q] at h1
      have r := rs.all q
      cases q2 : enum1 ds with
      | none => rw [Option.bind_some, q2] at h1; exact h1.elim
      | some es =>
        rw [Option.bind_some, q2] at h1
        unfold enum1 at q2
        split at q2
        · rename_i d
          cases q3 : T.lstD d with
          | none => rw [q3] at q2; cases q2
          | some xs =>
            rw [q3] at q2
            cases q2
            cases r with
            | cons r1 r2 =>
              cases r2
              obtain ⟨p, us, rfl, g2, g3⟩ := r1.lstD q3
              have hl := g3.length
              refine ⟨p, us, rfl, s1.ex.sl g2, h1.here s1 _ (Wk.plain (fun i H hi x => ?_) (fun H x => ?_) fun i H x H' d' hd x' y => ?_)⟩
              · have hi' : i < xs.length := by simpa [enumD] using hi
                exact ⟨us, us[i]'(by omega), x.sl g2, by simp⟩
              · exact ⟨us, x.sl g2, by simp [enumD]; omega⟩
              · obtain ⟨T', u, h1', h2', h3', h4'⟩ := y
                have hi : i < xs.length := by
                  have := (List.getElem?_eq_some_iff.mp hd).1
                  simpa [enumD] using this
                obtain ⟨w, z1, z2⟩ := g3.at (List.getElem?_eq_getElem hi)
                have := h4' us (x'.sl g2)
                rw [z1] at this; cases this
                have hd' : d' = .tup [.int (i : Int), xs[i]] := by
                  unfold enumD at hd
                  rw [List.getElem?_map, List.getElem?_range hi] at hd
                  simp [hi] at hd
                  exact hd.symm
                exact .inr ⟨T', _, _, h1', h2', h3', by show 2 ≤ sizeLine; decide, hd', .cons (.int _) (.cons z2 .nil)⟩
        · cases q2

/-! ### for -/
def runFor (chk : En → Bool) (g : D → En → Option En) (b : En → R Fl) : List D → En → R Fl
  | [], env => if chk env then .ok .nx env else .bad
  | d :: ds, env => if chk env then (match g d env with
    | none => .bad
    | some e1 => match b e1 with
      | .ok .nx e => runFor chk g b ds e
      | .ok .ct e => runFor chk g b ds e
      | .ok .bk e => .ok .nx e
      | r => r) else .bad
theorem for_ok (g : GX τ) (b : SX τ) (Γ : Gm τ) (W : WX) {chk : En → Bool} {io : List Addr} {G H : Hp} {σ : L2.St} {env : En} {ds : List D} {D : Ends} {J : It} (s : St Γ.toGm0 io G H σ env) (w : Wk Γ.toGm0 io σ env G H chk J ds)
    (h : OutS Γ.toGm0 io W σ env G H (runFor chk g.ev b.ev ds env) D) :
    ∃ Wf : Nat → Nat → L2.St → Hp → Prop, (∃ m, Wf 0 m σ H) ∧ ∀ i m σ H, Wf i m σ H →
      (J.stop i H ∧ D.nx σ H) ∨ (J.go i H ∧ ∃ N : L2.St → Hp → Prop, (∀ σ' H', N σ' H' → ∃ m', m' < m ∧ Wf (i + 1) m' σ' H') ∧ ∀ x H', J.yld i H x H' → g.tg Γ x σ H' fun σ2 H2 => b.te Γ W { D with nx := N, ct := N, bk := D.nx } σ2 H2) := by
  refine ⟨fun i m σ' H' => m = ds.length - i ∧ i ≤ ds.length ∧ ∃ G' e', St Γ.toGm0 io G' H' σ' e' ∧ Mv σ env G H σ' e' G' H' ∧ OutS Γ.toGm0 io W σ' e' G' H' (runFor chk g.ev b.ev (ds.drop i) e') D, ⟨_, rfl, Nat.zero_le _, G, env, s, Mv.refl _ _ _ _, by simpa using h⟩, ?_⟩
  rintro i m σ' H' ⟨rfl, hi, G', e', s', mm, h'⟩
  by_cases hlt : i < ds.length
  · have hd : ds.drop i = ds[i] :: ds.drop (i + 1) := by rw [List.drop_eq_getElem_cons hlt]
    rw [hd] at h'
    simp only [runFor] at h'
    split at h'
    · rename_i hc
      refine .inr ⟨w.go i σ' e' G' H' hlt s' mm hc, fun σ2 H2 => i + 1 ≤ ds.length ∧ ∃ G2 e2, St Γ.toGm0 io G2 H2 σ2 e2 ∧ Mv σ env G H σ2 e2 G2 H2 ∧ OutS Γ.toGm0 io W σ2 e2 G2 H2 (runFor chk g.ev b.ev (ds.drop (i + 1)) e2) D, fun σ2 H2 q => ⟨ds.length - (i + 1), by omega, rfl, q.1, q.2⟩, fun x H2 y => ?_⟩
      obtain ⟨G2, s2, m2, rx⟩ : ∃ G2, St Γ.toGm0 io G2 H2 σ' e' ∧ Mv σ' e' G' H' σ' e' G2 H2 ∧ Rep Γ.toGm0 G2 x ds[i] := by
        rcases w.yld i σ' e' G' H' x H2 ds[i] (List.getElem?_eq_getElem hlt) s' mm hc y with ⟨z1, z2⟩ | ⟨T', vs, es, z1, z2, z3, z4, z5, z6⟩
        · rw [z1]; exact ⟨G', s', Mv.refl _ _ _ _, z2⟩
        · rw [z3, z1, z5]
          exact ⟨_, s'.both z2, Mv.both s'.ex z2, .tup (.inl (.inl upd_same)) z4 (z6.mono (Sub.new (s'.ex.free z2)))⟩
      cases q1 : g.ev ds[i] e' with
      | none => rw [q1] at h'; exact h'.elim
      | some e1 =>
        rw [q1] at h'
        refine g.ok Γ io G2 H2 σ' e' x ds[i] e1 s2 rx q1 _ fun σ3 s3 m3 _ => ?_
        refine b.ok Γ W io G2 H2 σ3 e1 s3 _ ?_
        have m23 := m2.trans m3
        have mm3 := mm.trans m23
        dsimp only at h'
        cases q2 : b.ev e1 with
        | bad => rw [q2] at h'; exact h'.elim
        | exc c fs e => rw [q2] at h'; exact h'.shift m23
        | ok f e =>
          rw [q2] at h'
          cases f with
          | nx => exact fun σ4 G4 H4 s4 m4 => ⟨hlt, G4, e, s4, mm3.trans m4, OutS.shift h' (m23.trans m4)⟩
          | ct => exact fun σ4 G4 H4 s4 m4 => ⟨hlt, G4, e, s4, mm3.trans m4, OutS.shift h' (m23.trans m4)⟩
          | bk => exact fun σ4 G4 H4 s4 m4 => h' σ4 G4 H4 s4 (m23.trans m4)
          | rt d => exact fun σ4 G4 H4 v s4 m4 rv => h' σ4 G4 H4 v s4 (m23.trans m4) rv
          | ro o => exact fun σ4 G4 H4 a s4 m4 e4 => h' σ4 G4 H4 a s4 (m23.trans m4) e4
    · exact h'.elim
  · have e : i = ds.length := by omega
    subst e
    rw [List.drop_length] at h'
    simp only [runFor] at h'
    split at h'
    · rename_i hc
      exact .inl ⟨w.stop σ' e' G' H' s' mm hc, h' σ' G' H' s' (Mv.refl _ _ _ _)⟩
    · exact h'.elim
def SX.forE (it : IX τ) (g : GX τ) (b : SX τ) : SX τ where
  te := fun Γ W => tFor (it.wi Γ W) (g.tg Γ) (b.te Γ W)
  ev := fun env => (it.ev env).bind fun ds e1 => runFor (it.chk e1) g.ev b.ev ds e1
  ok := fun Γ W io G H σ env s D h => it.ok Γ W io G H σ env s _ (h.step.mono fun ds e1 G1 H1 s1 m1 h1 J w => for_ok g b Γ W s1 w h1)

/-! ### while: at most n turns -/
def runWhile (c : En → R Bool) (b : En → R Fl) : Nat → En → R Fl
  | 0, _ => .bad
  | n + 1, env => (c env).bind fun k e1 => if k then (match b e1 with
      | .ok .nx e => runWhile c b n e
      | .ok .ct e => runWhile c b n e
      | .ok .bk e => .ok .nx e
      | r => r) else .ok .nx e1
def SX.whileE (n : Nat) (c : TX τ) (b : SX τ) : SX τ where
  te := fun Γ W => tWhile (c.tt Γ W) (b.te Γ W)
  ev := runWhile c.ev b.ev n
  ok := fun Γ W io G H σ env s D h => by
    refine ⟨fun m σ' H' => ∃ G' e', St Γ.toGm0 io G' H' σ' e' ∧ OutS Γ.toGm0 io W σ' e' G' H' (runWhile c.ev b.ev m e') D, ⟨n, G, env, s, h⟩, ?_⟩
    rintro m σ' H' ⟨G', e', s', h'⟩
    cases m with
    | zero => exact h'.elim
    | succ m =>
      simp only [runWhile] at h'
      refine c.ok Γ W io G' H' σ' e' s' _ (h'.step.mono fun k e1 G1 H1 s1 m1 h1 => ?_)
      cases k with
      | false => rw [if_neg Bool.false_ne_true] at h1 ⊢; exact h1 _ _ _ s1 (Mv.refl _ _ _ _)
      | true =>
        rw [if_pos rfl] at h1 ⊢
        refine ⟨fun σ2 H2 => ∃ G2 e2, St Γ.toGm0 io G2 H2 σ2 e2 ∧ OutS Γ.toGm0 io W σ2 e2 G2 H2 (runWhile c.ev b.ev m e2) D, fun σ2 H2 q => ⟨m, Nat.lt_succ_self m, q⟩, b.ok Γ W io G1 H1 σ' e1 s1 _ ?_⟩
        cases q2 : b.ev e1 with
        | bad => rw [q2] at h1; exact h1.elim
        | exc c fs e => rw [q2] at h1; exact h1
        | ok f e =>
          rw [q2] at h1
          cases f with
          | nx => exact fun σ4 G4 H4 s4 m4 => ⟨G4, e, s4, OutS.shift h1 m4⟩
          | ct => exact fun σ4 G4 H4 s4 m4 => ⟨G4, e, s4, OutS.shift h1 m4⟩
          | bk => exact fun σ4 G4 H4 s4 m4 => h1 σ4 G4 H4 s4 m4
          | rt d => exact h1
          | ro o => exact h1
end T

/-! T9 -/
/-! T9: comprehensions. -/
namespace T
open PySem PySem.Spec PyProof.Rows L2
variable {τ : Tab}

def wipeE (env : En) : List Nat → En
  | [] => env
  | v :: vs => (wipeE env vs).set v .no
def restE (e1 e2 : En) : List Nat → En
  | [] => e2
  | v :: vs => (restE e1 e2 vs).set v (e1.getD v .no)
def okV (env : En) (v : Nat) : Bool := match env[v]? with
  | some (.own _ _) => false
  | some (.exn _ _) => false
  | some _ => true
  | none => false
def okVs (env : En) (vs : List Nat) : Bool := vs.all (okV env)
section
variable {Γ : Gm0} {io : List Addr} {G G' G1 H H' H1 : Hp} {σ : L2.St} {env e1 e2 : En} {vs : List Nat}
theorem wipeE_length (env : En) : ∀ vs : List Nat, (wipeE env vs).length = env.length
  | [] => rfl
  | v :: vs => by unfold wipeE; rw [List.length_set, wipeE_length env vs]
theorem restE_length (e1 e2 : En) : ∀ vs : List Nat, (restE e1 e2 vs).length = e2.length
  | [] => rfl
  | v :: vs => by unfold restE; rw [List.length_set, restE_length e1 e2 vs]
theorem wipeE_out {i : Nat} : ∀ {vs : List Nat}, i ∉ vs → (wipeE env vs)[i]? = env[i]?
  | [], _ => rfl
  | v :: vs, h => by
    simp only [List.mem_cons, not_or] at h
    unfold wipeE
    rw [List.getElem?_set_ne (Ne.symm h.1), wipeE_out h.2]
theorem wipeE_in {i : Nat} {x : Sl} : ∀ {vs : List Nat}, i ∈ vs → (wipeE env vs)[i]? = some x → x = .no
  | v :: vs, h, e => by
    unfold wipeE at e
    by_cases z : v = i
    · subst z
      rw [List.getElem?_set] at e
      simp only [if_true] at e
      split at e
      · exact (Option.some.inj e).symm
      · cases e
    · rw [List.getElem?_set_ne z] at e
      exact wipeE_in (by rcases List.mem_cons.mp h with q | q; exact absurd q.symm z; exact q) e
theorem restE_out {i : Nat} : ∀ {vs : List Nat}, i ∉ vs → (restE e1 e2 vs)[i]? = e2[i]?
  | [], _ => rfl
  | v :: vs, h => by
    simp only [List.mem_cons, not_or] at h
    unfold restE
    rw [List.getElem?_set_ne (Ne.symm h.1), restE_out h.2]
theorem restE_in {i : Nat} {x : Sl} : ∀ {vs : List Nat}, i ∈ vs → (restE e1 e2 vs)[i]? = some x → x = e1.getD i .no
  | v :: vs, h, e => by
    unfold restE at e
    by_cases z : v = i
    · subst z
      rw [List.getElem?_set] at e
      simp only [if_true] at e
      split at e
      · exact (Option.some.inj e).symm
      · cases e
    · rw [List.getElem?_set_ne z] at e
      exact restE_in (by rcases List.mem_cons.mp h with q | q; exact absurd q.symm z; exact q) e
theorem okVs_at (h : okVs env vs = true) {i : Nat} (hi : i ∈ vs) : ∀ k o, env.getD i .no ≠ .own k o := by
  intro k o e
  have := List.all_eq_true.mp h i hi
  unfold okV at this
  rw [List.getD_eq_getElem?_getD] at e
  cases q : env[i]? with
  | none => rw [q] at this; cases this
  | some x =>
    rw [q] at this e
    simp at e
    subst e
    cases this
theorem wipe_ow (h : okVs env vs = true) {b : Addr} (o : Ow σ env b) : Ow (wipe σ vs) (wipeE env vs) b := by
  obtain ⟨i, k, u, e, t⟩ := o
  have ni : i ∉ vs := fun hi => okVs_at h hi k u (by rw [List.getD_eq_getElem?_getD, e]; rfl)
  exact ⟨i, k, u, by rw [wipeE_out ni]; exact e, by rw [wipe_out ni]; exact t⟩
theorem ow_wipe {b : Addr} (o : Ow (wipe σ vs) (wipeE env vs) b) : Ow σ env b := by
  obtain ⟨i, k, u, e, t⟩ := o
  have ni : i ∉ vs := fun hi => by cases wipeE_in hi e
  rw [wipeE_out ni] at e
  rw [wipe_out ni] at t
  exact ⟨i, k, u, e, t⟩
theorem St.wipe (s : St Γ io G H σ env) : St Γ io G H (L2.wipe σ vs) (wipeE env vs) where
  ex := s.ex
  len := by rw [wipe_length, wipeE_length]; exact s.len
  dat := fun i d e => by
    have ni : i ∉ vs := fun hi => by cases wipeE_in hi e
    rw [wipeE_out ni] at e
    rw [wipe_out ni]
    exact s.dat i d e
  own := fun i k o e => by
    have ni : i ∉ vs := fun hi => by cases wipeE_in hi e
    rw [wipeE_out ni] at e
    rw [wipe_out ni]
    exact s.own i k o e
  sep := fun i j k k' o o' a e e' t t' => by
    have ni : i ∉ vs := fun hi => by cases wipeE_in hi e
    have nj : j ∉ vs := fun hi => by cases wipeE_in hi e'
    rw [wipeE_out ni] at e; rw [wipeE_out nj] at e'
    rw [wipe_out ni] at t; rw [wipe_out nj] at t'
    exact s.sep i j _ _ _ _ a e e' t t'
theorem St.unwipe (s1 : St Γ io G1 H1 σ e1) (s : St Γ io G' H' (L2.wipe σ vs) e2) (sub : Sub G1 G') (h : okVs e1 vs = true) : St Γ io G' H' σ (restE e1 e2 vs) where
  ex := s.ex
  len := by have := s.len; rw [wipe_length] at this; rw [restE_length]; exact this
  dat := fun i d e => by
    by_cases hi : i ∈ vs
    · have q := restE_in hi e
      rw [List.getD_eq_getElem?_getD] at q
      cases q1 : e1[i]? with
      | none => rw [q1] at q; cases q
      | some x =>
        rw [q1] at q
        simp at q
        subst q
        obtain ⟨v, g1, g2⟩ := s1.dat i d q1
        exact ⟨v, g1, g2.mono sub⟩
    · rw [restE_out hi] at e
      obtain ⟨v, g1, g2⟩ := s.dat i d e
      rw [wipe_out hi] at g1
      exact ⟨v, g1, g2⟩
  own := fun i k o e => by
    have ni : i ∉ vs := fun hi => okVs_at h hi k o (restE_in hi e).symm
    rw [restE_out ni] at e
    obtain ⟨a, g1, g2⟩ := s.own i k o e
    rw [wipe_out ni] at g1
    exact ⟨a, g1, g2⟩
  sep := fun i j k k' o o' a e e' t t' => by
    have ni : i ∉ vs := fun hi => okVs_at h hi k o (restE_in hi e).symm
    have nj : j ∉ vs := fun hi => okVs_at h hi k' o' (restE_in hi e').symm
    rw [restE_out ni] at e; rw [restE_out nj] at e'
    exact s.sep i j _ _ _ _ a e e' (by rw [wipe_out ni]; exact t) (by rw [wipe_out nj]; exact t')
theorem Mv.unwipe (m : Mv (L2.wipe σ vs) (wipeE e1 vs) G H (L2.wipe σ vs) e2 G' H') (h : okVs e1 vs = true) : Mv σ e1 G H σ (restE e1 e2 vs) G' H' :=
  ⟨m.sub, fun b o e n => m.keep b o e fun z => n (ow_wipe z), fun b ⟨i, k, o, e, t⟩ => by
    have ni : i ∉ vs := fun hi => okVs_at h hi k o (restE_in hi e).symm
    rw [restE_out ni] at e
    rcases m.ow b ⟨i, k, o, e, by rw [wipe_out ni]; exact t⟩ with z | z
    · exact .inl (ow_wipe z)
    · exact .inr z, m.there⟩
theorem wipe_wipe : ∀ {ws : List Nat}, (∀ j ∈ ws, j ∈ vs) → L2.wipe (L2.wipe σ vs) ws = L2.wipe σ vs
  | [], _ => rfl
  | w :: ws, h => by
    show (L2.wipe (L2.wipe σ vs) ws).set w none = L2.wipe σ vs
    rw [wipe_wipe fun j hj => h j (by simp [hj])]
    have hw := h w (by simp)
    apply List.ext_getElem?
    intro n
    by_cases z : w = n
    · subst z
      rw [List.getElem?_set]
      simp only [if_true]
      split
      · rename_i hl
        cases q : (L2.wipe σ vs)[w]? with
        | none => have := List.getElem?_eq_none_iff.mp q; omega
        | some x =>
          cases x with
          | none => rfl
          | some y => exact absurd hw (wipe_some q).2
      · rename_i hl
        exact (List.getElem?_eq_none_iff.mpr (by omega)).symm
    · rw [List.getElem?_set_ne z]
/-- behind a turn: the slots are forgotten again -/
theorem St.rewipe {σ2 : L2.St} (s : St Γ io G H σ2 env) (h : L2.wipe σ2 vs = L2.wipe σ vs) : St Γ io G H (L2.wipe σ vs) (wipeE env vs) := by
  rw [← h]; exact s.wipe
end
theorem Mv.noOw {G G' H H' : Hp} {σ σ' : L2.St} {env env' : En} {b : Addr} {o : HO} (m : Mv σ env G H σ' env' G' H') (n : ¬ Ow σ env b) (h : H b = some o) : ¬ Ow σ' env' b := fun z => by
  rcases m.ow b z with q | q
  · exact n q
  · rw [h] at q; cases q
/-- no exception leaves a comprehension -/
abbrev W0 : WX := fun _ _ _ _ => False

def runLc (chk : En → Bool) (g : D → En → Option En) (t : En → R Bool) (f : En → R D) (vs : List Nat) : List D → En → List D → R (List D)
  | [], env, acc => if chk env then .ok acc env else .bad
  | d :: ds, env, acc => if chk env then (match g d env with
    | none => .bad
    | some e1 => match t e1 with
      | .ok false e2 => runLc chk g t f vs ds (wipeE e2 vs) acc
      | .ok true e2 => (match f e2 with
        | .ok z e3 => if capd acc.length then runLc chk g t f vs ds (wipeE e3 vs) (acc ++ [z]) else .bad
        | _ => .bad)
      | _ => .bad) else .bad
def evLc (it : En → R (List D)) (chk : En → En → Bool) (g : D → En → Option En) (t : En → R Bool) (f : En → R D) (vs : List Nat) (env : En) : R O := (it env).bind fun ds e1 =>
  if okVs e1 vs then (match runLc (fun e => chk e1 (restE e1 e vs)) g t f vs ds (wipeE e1 vs) [] with
    | .ok acc e2 => .ok (.lst acc) (restE e1 e2 vs)
    | _ => .bad) else .bad
theorem lc_ok {chk : En → Bool} (g : GX τ) (t : TX τ) (f : EX τ) (vs : List Nat) (hg : ∀ j ∈ g.sl, j ∈ vs) (Γ : Gm τ) {io : List Addr} {G H : Hp} {σ : L2.St} {e1 eF : En} {ds accF : List D} {J : It} {Dl : Addr} {Qd : Hp → Prop}
    (s : St Γ.toGm0 io G H σ e1) (w : Wk Γ.toGm0 io σ e1 G H chk J ds) (hD : H Dl = none) (hv : okVs e1 vs = true) (hr : runLc (fun e => chk (restE e1 e vs)) g.ev t.ev f.ev vs ds (wipeE e1 vs) [] = .ok accF eF)
    (hq : ∀ G' H' av, St Γ.toGm0 io G' H' (wipe σ vs) eF → Mv (wipe σ vs) (wipeE e1 vs) G H (wipe σ vs) eF G' H' → ¬ Ow (wipe σ vs) eF Dl → H' Dl = some (.lst av) → G' Dl = none → av.length ≤ sizeLine → Reps Γ.toGm0 G' av accF → Qd H') :
    ∃ Wf : Nat → Nat → Hp → Prop, (∃ m, Wf 0 m (upd H Dl (.lst []))) ∧ ∀ i m H, Wf i m H →
      (J.stop i H ∧ Qd H) ∨ (J.go i H ∧ ∃ Nx : Hp → Prop, (∀ H', Nx H' → ∃ m', m' < m ∧ Wf (i + 1) m' H') ∧ ∀ x H', J.yld i H x H' → g.tg Γ x (wipe σ vs) H' fun σ2 H2 => wipe σ2 vs = wipe σ vs ∧ t.tt Γ W0 σ2 H2 fun b H3 =>
        if b = true then f.te Γ W0 σ2 H3 fun y H4 => ∃ acc, H4 Dl = some (.lst acc) ∧ acc.length < sizeLine ∧ Nx (upd H4 Dl (.lst (acc ++ [y]))) else Nx H3) := by
  let P : Nat → Hp → Prop := fun i Hc => i ≤ ds.length ∧ ∃ Gc ec av acc, St Γ.toGm0 io Gc Hc (wipe σ vs) ec ∧ Mv (wipe σ vs) (wipeE e1 vs) G H (wipe σ vs) ec Gc Hc ∧ ¬ Ow (wipe σ vs) ec Dl ∧ Hc Dl = some (.lst av) ∧ Gc Dl = none ∧ av.length ≤ sizeLine ∧
    Reps Γ.toGm0 Gc av acc ∧ runLc (fun e => chk (restE e1 e vs)) g.ev t.ev f.ev vs (ds.drop i) ec acc = .ok accF eF
  have n0 : ¬ Ow (wipe σ vs) (wipeE e1 vs) Dl := fun ⟨i, k, o, q1, q2⟩ => by
    obtain ⟨a, g1, g2, g3, _⟩ := (s.wipe (vs := vs)).own i k o q1
    rw [q2] at g1; cases g1
    obtain ⟨u, hu⟩ := g3.there
    rw [hD] at hu; cases hu
  refine ⟨fun i m Hc => m = ds.length - i ∧ P i Hc, ⟨ds.length, rfl, Nat.zero_le _, G, wipeE e1 vs, [], [], (s.wipe).laid hD, Mv.laid hD, n0, upd_same, s.ex.free hD, Nat.zero_le _, .nil, by simpa using hr⟩, ?_⟩
  rintro i m Hc ⟨rfl, hi, Gc, ec, av, acc, sc, mc, nc, hav, gD, hz, ra, hrun⟩
  by_cases hlt : i < ds.length
  · have hd : ds.drop i = ds[i] :: ds.drop (i + 1) := by rw [List.drop_eq_getElem_cons hlt]
    rw [hd] at hrun
    simp only [runLc] at hrun
    split at hrun
    rotate_left
    · cases hrun
    rename_i hc
    have sU := s.unwipe sc mc.sub hv
    have mU := mc.unwipe hv
    refine .inr ⟨w.go i σ _ Gc Hc hlt sU mU hc, fun H2 => P (i + 1) H2, fun H2 q => ⟨ds.length - (i + 1), by omega, rfl, q⟩, fun x H2 y => ?_⟩
    obtain ⟨G2, s2, m2, rx, h2D, g2D⟩ : ∃ G2, St Γ.toGm0 io G2 H2 (wipe σ vs) ec ∧ Mv (wipe σ vs) ec Gc Hc (wipe σ vs) ec G2 H2 ∧ Rep Γ.toGm0 G2 x ds[i] ∧ H2 Dl = some (.lst av) ∧ G2 Dl = none := by
      rcases w.yld i σ _ Gc Hc x H2 ds[i] (List.getElem?_eq_getElem hlt) sU mU hc y with ⟨z1, z2⟩ | ⟨T', us, es, z1, z2, z3, z4, z5, z6⟩
      · rw [z1]; exact ⟨Gc, sc, Mv.refl _ _ _ _, z2, hav, gD⟩
      · rw [z3, z1, z5]
        have ne := ne_of_none hav z2
        exact ⟨_, sc.both z2, Mv.both sc.ex z2, .tup (.inl (.inl upd_same)) z4 (z6.mono (Sub.new (sc.ex.free z2))), by rw [upd_ne ne]; exact hav, by rw [upd_ne ne]; exact gD⟩
    have mc2 := mc.trans m2
    have ra2 := ra.mono m2.sub
    cases q1 : g.ev ds[i] ec with
    | none => rw [q1] at hrun; cases hrun
    | some e3 =>
      rw [q1] at hrun
      dsimp only at hrun
      refine g.ok Γ io G2 H2 (wipe σ vs) ec x ds[i] e3 s2 rx q1 _ fun σ3 s3 m3 w3 => ?_
      have hw : wipe σ3 vs = wipe σ vs := (w3 vs hg).trans (wipe_wipe fun j hj => hj)
      refine ⟨hw, t.ok Γ W0 io G2 H2 σ3 e3 s3 _ ?_⟩
      have mc3 := mc2.trans m3
      have n3 := m3.noOw (m2.noOw nc hav) h2D
      cases q2 : t.ev e3 with
      | bad => rw [q2] at hrun; cases hrun
      | exc c fs e => rw [q2] at hrun; cases hrun
      | ok b e4 =>
        rw [q2] at hrun
        intro G4 H4 s4 m4
        have mc4 := mc3.trans m4
        obtain ⟨h4D, g4D⟩ := m4.keep Dl _ h2D n3
        have ra4 := ra2.mono m4.sub
        have n4 := m4.noOw n3 h2D
        -- back to the wiped slots
        have back : ∀ {G5 H5 : Hp} {e5 : En}, St Γ.toGm0 io G5 H5 σ3 e5 → Mv (wipe σ vs) (wipeE e1 vs) G H σ3 e5 G5 H5 → ¬ Ow σ3 e5 Dl → St Γ.toGm0 io G5 H5 (wipe σ vs) (wipeE e5 vs) ∧ Mv (wipe σ vs) (wipeE e1 vs) G H (wipe σ vs) (wipeE e5 vs) G5 H5 ∧ ¬ Ow (wipe σ vs) (wipeE e5 vs) Dl := fun {G5 H5 e5} s5 m5 n5 =>
          ⟨s5.rewipe hw, ⟨m5.sub, m5.keep, fun b z => m5.ow b (by rw [← hw] at z; exact ow_wipe z), m5.there⟩, fun z => n5 (by rw [← hw] at z; exact ow_wipe z)⟩
        cases b with
        | false =>
          rw [if_neg Bool.false_ne_true]
          obtain ⟨s5, m5, n5⟩ := back s4 mc4 n4
          exact ⟨hlt, G4, wipeE e4 vs, av, acc, s5, m5, n5, h4D, g4D g2D, hz, ra4, hrun⟩
        | true =>
          rw [if_pos rfl]
          dsimp only at hrun
          refine f.ok Γ W0 io G4 H4 σ3 e4 s4 _ ?_
          cases q3 : f.ev e4 with
          | bad => rw [q3] at hrun; cases hrun
          | exc c fs e => rw [q3] at hrun; cases hrun
          | ok z e5 =>
            rw [q3] at hrun
            dsimp only at hrun
            split at hrun
            · rename_i cap
              intro G5 H5 s5 m5 y' ry
              obtain ⟨h5D, g5D⟩ := m5.keep Dl _ h4D n4
              have mc5 := mc4.trans m5
              have ra5 := ra4.mono m5.sub
              have hl : av.length < sizeLine := by rw [ra5.length]; exact capd_lt cap
              refine ⟨av, h5D, hl, ?_⟩
              obtain ⟨s6, m6, no6⟩ := back s5 mc5 (m5.noOw n4 h4D)
              have gD5 := g5D (g4D g2D)
              refine ⟨hlt, G5, wipeE e5 vs, av ++ [y'], acc ++ [z], ?_, ?_, no6, upd_same, gD5, by rw [List.length_append]; exact hl, ra5.append (.cons ry .nil), hrun⟩
              · exact ⟨s6.ex.mut gD5, s6.len, s6.dat, fun j k o e => by
                  obtain ⟨a, g1, g2, g3, g4⟩ := s6.own j k o e
                  have ne : a ≠ Dl := fun q => no6 ⟨j, k, o, e, by rw [← q]; exact g1⟩
                  exact ⟨a, g1, g2, g3.mono (Sub.refl _) fun u hu => by rw [upd_ne ne]; exact hu, g4⟩, s6.sep⟩
              · refine ⟨m6.sub, fun b o e n => ?_, m6.ow, fun b o e => ?_⟩
                · obtain ⟨k1, k2⟩ := m6.keep b o e n
                  have zb := ne_of_none e hD
                  exact ⟨by rw [upd_ne zb]; exact k1, k2⟩
                · obtain ⟨o', h'⟩ := m6.there b o e
                  exact upd_there b o' h'
            · cases hrun
  · have e : i = ds.length := by omega
    subst e
    rw [List.drop_length] at hrun
    simp only [runLc] at hrun
    split at hrun
    rotate_left
    · cases hrun
    rename_i hc
    cases hrun
    exact .inl ⟨w.stop σ _ Gc Hc (s.unwipe sc mc.sub hv) (mc.unwipe hv) hc, hq Gc Hc av sc mc nc hav gD hz ra⟩
/-- [f for g in it if t]; vs: the comprehension's own names -/
def FX.lc (it : IX τ) (g : GX τ) (t : TX τ) (f : EX τ) (vs : List Nat) (hg : ∀ j ∈ g.sl, j ∈ vs := by decide) : FX τ where
  te := fun Γ W => tLc (it.wi Γ W) (g.tg Γ) (t.tt Γ W0) (f.te Γ W0) vs
  ev := evLc it.ev it.chk g.ev t.ev f.ev vs
  ok := fun Γ W io G H σ env s Q h => by
    refine it.ok Γ W io G H σ env s _ ((Out.stepBack h).mono fun ds e1 G1 H1 s1 m1 h1 J w Dl hD => ?_)
    split at h1
    · rename_i hv
      split at h1
      · rename_i acc e2 hr
        refine lc_ok g t f vs hg Γ s1 w hD hv hr fun G' H' av s' m' no hav gD hz ra => ?_
        have s2 := s1.unwipe s' m'.sub hv
        have m2 := m'.unwipe hv
        exact h1 G' H' s2 m2 m1 m2 Dl (m1.back hD) gD (fun ⟨i, k, o, e, t⟩ => by
          have ni : i ∉ vs := fun hi => okVs_at hv hi k o (restE_in hi e).symm
          rw [restE_out ni] at e
          exact no ⟨i, k, o, e, by rw [wipe_out ni]; exact t⟩) (.lst hav hz ra)
      · exact h1.elim
    · exact h1.elim
end T

/-! T10 -/
/-! T10: dict comprehensions; classes; raise, try. -/
namespace T
open PySem PySem.Spec PyProof.Rows L2
variable {τ : Tab}

def runDc (chk : En → Bool) (g : D → En → Option En) (t : En → R Bool) (fk f : En → R D) (vs : List Nat) : List D → En → List (Key × D) → R (List (Key × D))
  | [], env, acc => if chk env then .ok acc env else .bad
  | d :: ds, env, acc => if chk env then (match g d env with
    | none => .bad
    | some e1 => match t e1 with
      | .ok false e2 => runDc chk g t fk f vs ds (wipeE e2 vs) acc
      | .ok true e2 => (match fk e2 with
        | .ok kd e45 => (match f e45 with
          | .ok z e3 => (match keyD kd with
            | some key => if capd acc.length then runDc chk g t fk f vs ds (wipeE e3 vs) (putD acc key z) else .bad
            | none => .bad)
          | _ => .bad)
        | _ => .bad)
      | _ => .bad) else .bad
theorem dc_ok {chk : En → Bool} (g : GX τ) (t : TX τ) (fk f : EX τ) (vs : List Nat) (hg : ∀ j ∈ g.sl, j ∈ vs) (Γ : Gm τ) {io : List Addr} {G H : Hp} {σ : L2.St} {e1 eF : En} {ds : List D} {accF : List (Key × D)} {J : It} {Dl : Addr} {Qd : Hp → Prop}
    (s : St Γ.toGm0 io G H σ e1) (w : Wk Γ.toGm0 io σ e1 G H chk J ds) (hD : H Dl = none) (hv : okVs e1 vs = true) (hr : runDc (fun e => chk (restE e1 e vs)) g.ev t.ev fk.ev f.ev vs ds (wipeE e1 vs) [] = .ok accF eF)
    (hq : ∀ G' H' av, St Γ.toGm0 io G' H' (wipe σ vs) eF → Mv (wipe σ vs) (wipeE e1 vs) G H (wipe σ vs) eF G' H' → ¬ Ow (wipe σ vs) eF Dl → H' Dl = some (.dK av) → G' Dl = none → av.length ≤ sizeLine → av.map (·.1) = accF.map (·.1) → Reps Γ.toGm0 G' (av.map (·.2)) (accF.map (·.2)) → Qd H') :
    ∃ Wf : Nat → Nat → Hp → Prop, (∃ m, Wf 0 m (upd H Dl (.dK []))) ∧ ∀ i m H, Wf i m H →
      (J.stop i H ∧ Qd H) ∨ (J.go i H ∧ ∃ Nx : Hp → Prop, (∀ H', Nx H' → ∃ m', m' < m ∧ Wf (i + 1) m' H') ∧ ∀ x H', J.yld i H x H' → g.tg Γ x (wipe σ vs) H' fun σ2 H2 => wipe σ2 vs = wipe σ vs ∧ t.tt Γ W0 σ2 H2 fun b H3 =>
        if b = true then fk.te Γ W0 σ2 H3 fun y H4 => f.te Γ W0 σ2 H4 fun z H5 => ∃ kvs k, y = kV k ∧ H5 Dl = some (.dK kvs) ∧ kvs.length < sizeLine ∧ Nx (upd H5 Dl (.dK (putK kvs k z))) else Nx H3) := by
  let P : Nat → Hp → Prop := fun i Hc => i ≤ ds.length ∧ ∃ Gc ec av acc, St Γ.toGm0 io Gc Hc (wipe σ vs) ec ∧ Mv (wipe σ vs) (wipeE e1 vs) G H (wipe σ vs) ec Gc Hc ∧ ¬ Ow (wipe σ vs) ec Dl ∧ Hc Dl = some (.dK av) ∧ Gc Dl = none ∧ av.length ≤ sizeLine ∧ av.map (·.1) = acc.map (·.1) ∧
    Reps Γ.toGm0 Gc (av.map (·.2)) (acc.map (·.2)) ∧ runDc (fun e => chk (restE e1 e vs)) g.ev t.ev fk.ev f.ev vs (ds.drop i) ec acc = .ok accF eF
  have n0 : ¬ Ow (wipe σ vs) (wipeE e1 vs) Dl := fun ⟨i, k, o, q1, q2⟩ => by
    obtain ⟨a, g1, g2, g3, _⟩ := (s.wipe (vs := vs)).own i k o q1
    rw [q2] at g1; cases g1
    obtain ⟨u, hu⟩ := g3.there
    rw [hD] at hu; cases hu
  refine ⟨fun i m Hc => m = ds.length - i ∧ P i Hc, ⟨ds.length, rfl, Nat.zero_le _, G, wipeE e1 vs, [], [], (s.wipe).laid hD, Mv.laid hD, n0, upd_same, s.ex.free hD, Nat.zero_le _, rfl, .nil, by simpa using hr⟩, ?_⟩
  rintro i m Hc ⟨rfl, hi, Gc, ec, av, acc, sc, mc, nc, hav, gD, hz, ka, ra, hrun⟩
  by_cases hlt : i < ds.length
  · have hd : ds.drop i = ds[i] :: ds.drop (i + 1) := by rw [List.drop_eq_getElem_cons hlt]
    rw [hd] at hrun
    simp only [runDc] at hrun
    split at hrun
    rotate_left
    · cases hrun
    rename_i hc
    have sU := s.unwipe sc mc.sub hv
    have mU := mc.unwipe hv
    refine .inr ⟨w.go i σ _ Gc Hc hlt sU mU hc, fun H2 => P (i + 1) H2, fun H2 q => ⟨ds.length - (i + 1), by omega, rfl, q⟩, fun x H2 y => ?_⟩
    obtain ⟨G2, s2, m2, rx, h2D, g2D⟩ : ∃ G2, St Γ.toGm0 io G2 H2 (wipe σ vs) ec ∧ Mv (wipe σ vs) ec Gc Hc (wipe σ vs) ec G2 H2 ∧ Rep Γ.toGm0 G2 x ds[i] ∧ H2 Dl = some (.dK av) ∧ G2 Dl = none := by
      rcases w.yld i σ _ Gc Hc x H2 ds[i] (List.getElem?_eq_getElem hlt) sU mU hc y with ⟨z1, z2⟩ | ⟨T', us, es, z1, z2, z3, z4, z5, z6⟩
      · rw [z1]; exact ⟨Gc, sc, Mv.refl _ _ _ _, z2, hav, gD⟩
      · rw [z3, z1, z5]
        have ne := ne_of_none hav z2
        exact ⟨_, sc.both z2, Mv.both sc.ex z2, .tup (.inl (.inl upd_same)) z4 (z6.mono (Sub.new (sc.ex.free z2))), by rw [upd_ne ne]; exact hav, by rw [upd_ne ne]; exact gD⟩
    have mc2 := mc.trans m2
    have ra2 := ra.mono m2.sub
    cases q1 : g.ev ds[i] ec with
    | none => rw [q1] at hrun; cases hrun
    | some e3 =>
      rw [q1] at hrun
      dsimp only at hrun
      refine g.ok Γ io G2 H2 (wipe σ vs) ec x ds[i] e3 s2 rx q1 _ fun σ3 s3 m3 w3 => ?_
      have hw : wipe σ3 vs = wipe σ vs := (w3 vs hg).trans (wipe_wipe fun j hj => hj)
      refine ⟨hw, t.ok Γ W0 io G2 H2 σ3 e3 s3 _ ?_⟩
      have mc3 := mc2.trans m3
      have n3 := m3.noOw (m2.noOw nc hav) h2D
      cases q2 : t.ev e3 with
      | bad => rw [q2] at hrun; cases hrun
      | exc c fs e => rw [q2] at hrun; cases hrun
      | ok b e4 =>
        rw [q2] at hrun
        intro G4 H4 s4 m4
        have mc4 := mc3.trans m4
        obtain ⟨h4D, g4D⟩ := m4.keep Dl _ h2D n3
        have ra4 := ra2.mono m4.sub
        have n4 := m4.noOw n3 h2D
        -- back to the wiped slots
        have back : ∀ {G5 H5 : Hp} {e5 : En}, St Γ.toGm0 io G5 H5 σ3 e5 → Mv (wipe σ vs) (wipeE e1 vs) G H σ3 e5 G5 H5 → ¬ Ow σ3 e5 Dl → St Γ.toGm0 io G5 H5 (wipe σ vs) (wipeE e5 vs) ∧ Mv (wipe σ vs) (wipeE e1 vs) G H (wipe σ vs) (wipeE e5 vs) G5 H5 ∧ ¬ Ow (wipe σ vs) (wipeE e5 vs) Dl := fun {G5 H5 e5} s5 m5 n5 =>
          ⟨s5.rewipe hw, ⟨m5.sub, m5.keep, fun b z => m5.ow b (by rw [← hw] at z; exact ow_wipe z), m5.there⟩, fun z => n5 (by rw [← hw] at z; exact ow_wipe z)⟩
        cases b with
        | false =>
          rw [if_neg Bool.false_ne_true]
          obtain ⟨s5, m5, n5⟩ := back s4 mc4 n4
          exact ⟨hlt, G4, wipeE e4 vs, av, acc, s5, m5, n5, h4D, g4D g2D, hz, ka, ra4, hrun⟩
        | true =>
          rw [if_pos rfl]
          dsimp only at hrun
          refine fk.ok Γ W0 io G4 H4 σ3 e4 s4 _ ?_
          cases q3 : fk.ev e4 with
          | bad => rw [q3] at hrun; cases hrun
          | exc c fs e => rw [q3] at hrun; cases hrun
          | ok kd e45 =>
          rw [q3] at hrun
          dsimp only at hrun
          intro G45 H45 s45 m45 yk rk
          obtain ⟨h45D, g45D⟩ := m45.keep Dl _ h4D n4
          have n45 := m45.noOw n4 h4D
          have mc45 := mc4.trans m45
          refine f.ok Γ W0 io G45 H45 σ3 e45 s45 _ ?_
          cases q4 : f.ev e45 with
          | bad => rw [q4] at hrun; cases hrun
          | exc c fs e => rw [q4] at hrun; cases hrun
          | ok z e5 =>
            rw [q4] at hrun
            dsimp only at hrun
            cases qk : keyD kd with
            | none => rw [qk] at hrun; cases hrun
            | some key =>
            rw [qk] at hrun
            dsimp only at hrun
            split at hrun
            · rename_i cap
              intro G5 H5 s5 m5 y' ry
              obtain ⟨h5D, g5D⟩ := m5.keep Dl _ h45D n45
              have mc5 := mc45.trans m5
              have ra5 := (ra4.mono m45.sub).mono m5.sub
              have hlen : av.length = acc.length := by simpa using congrArg List.length ka
              have hl : av.length < sizeLine := by rw [hlen]; exact capd_lt cap
              refine ⟨av, key, rk.key qk, h5D, hl, ?_⟩
              obtain ⟨s6, m6, no6⟩ := back s5 mc5 (m5.noOw n45 h45D)
              have gD5 := g5D (g45D (g4D g2D))
              obtain ⟨p1, p2⟩ := put_rel key ry ka ra5
              refine ⟨hlt, G5, wipeE e5 vs, putK av key y', putD acc key z, ?_, ?_, no6, upd_same, gD5, by
                unfold putK
                split
                · rw [List.length_map]; omega
                · rw [List.length_append]; exact hl, p1, p2, hrun⟩
              · exact ⟨s6.ex.mut gD5, s6.len, s6.dat, fun j k o e => by
                  obtain ⟨a, g1, g2, g3, g4⟩ := s6.own j k o e
                  have ne : a ≠ Dl := fun q => no6 ⟨j, k, o, e, by rw [← q]; exact g1⟩
                  exact ⟨a, g1, g2, g3.mono (Sub.refl _) fun u hu => by rw [upd_ne ne]; exact hu, g4⟩, s6.sep⟩
              · refine ⟨m6.sub, fun b o e n => ?_, m6.ow, fun b o e => ?_⟩
                · obtain ⟨k1, k2⟩ := m6.keep b o e n
                  have zb := ne_of_none e hD
                  exact ⟨by rw [upd_ne zb]; exact k1, k2⟩
                · obtain ⟨o', h'⟩ := m6.there b o e
                  exact upd_there b o' h'
            · cases hrun
  · have e : i = ds.length := by omega
    subst e
    rw [List.drop_length] at hrun
    simp only [runDc] at hrun
    split at hrun
    rotate_left
    · cases hrun
    rename_i hc
    cases hrun
    exact .inl ⟨w.stop σ _ Gc Hc (s.unwipe sc mc.sub hv) (mc.unwipe hv) hc, hq Gc Hc av sc mc nc hav gD hz ka ra⟩

/-! ### over the keys of a dict that a slot holds -/
def tLockOr (t : TE) : TE := fun σ H Q => tLockE t σ H Q ∨ t σ H Q
theorem pe_lockOr {X : Cx} {e : Expr} {t : TE} (h : PE X e t) : PE X e (tLockOr t) :=
  ⟨fun pins s σ H Q I hw => hw.elim ((pe_lock h).run pins s σ H Q I) (h.run pins s σ H Q I)⟩
def datDic (env : En) (i : Nat) : Option (List (Key × D)) := match env[i]? with
  | some (.dat (.dic kvs)) => some kvs
  | _ => none
theorem datDic_at {env : En} {i : Nat} {kvs : List (Key × D)} (h : datDic env i = some kvs) : env[i]? = some (.dat (.dic kvs)) := by
  unfold datDic at h
  split at h
  · cases h; assumption
  · cases h
def keyOf : Key → D
  | .inl i => .int i
  | .inr x => .str x
theorem wk_keys {Γ : Gm0} {io : List Addr} {σ : L2.St} {env : En} {G H : Hp} {a : Addr} {ob : Obj} {vs : List (Key × V)} {kvs : List (Key × D)} (h : H a = some (.frz ob (.dK vs))) (no : ¬ Ow σ env a) (hk : vs.map (·.1) = kvs.map (·.1)) :
    Wk Γ io σ env G H (fun _ => true) (Itk a ob vs) (kvs.map fun p => keyOf p.1) := by
  have hl : vs.length = kvs.length := by simpa using congrArg List.length hk
  refine ⟨fun i σ' e' G' H' hi s m _ => ⟨(m.keep a _ h no).1, by simpa [hl] using hi⟩, fun σ' e' G' H' s m _ => ⟨(m.keep a _ h no).1, by simp [hl]⟩, fun i σ' e' G' H' x H2 d hd s m _ y => ?_⟩
  obtain ⟨y1, k, v, y2, y3⟩ := y
  refine .inl ⟨y1, ?_⟩
  rw [List.getElem?_map] at hd
  cases q : kvs[i]? with
  | none => rw [q] at hd; cases hd
  | some p =>
    rw [q] at hd
    cases hd
    have e1 : (vs.map (·.1))[i]? = some k := by rw [List.getElem?_map, y2]; rfl
    rw [hk, List.getElem?_map, q] at e1
    have e2 : p.1 = k := Option.some.inj e1
    rw [y3, ← e2]
    obtain ⟨key, dv⟩ := p
    cases key with
    | inl i => exact Rep.int i
    | inr x => exact Rep.str x
/-- {fk: f for g in d if t}, d the dict of slot i -/
def FX.dcK (i : Nat) (g : GX τ) (t : TX τ) (fk f : EX τ) (vs : List Nat) (hg : ∀ j ∈ g.sl, j ∈ vs := by decide) : FX τ where
  te := fun Γ W => tLockOr (tDc (iKeys (tVar i)) (g.tg Γ) (t.tt Γ W0) (fk.te Γ W0) (f.te Γ W0) vs)
  ev := fun env => match datDic env i with
    | some kvs => if okVs env vs then (match runDc (fun _ => true) g.ev t.ev fk.ev f.ev vs (kvs.map fun p => keyOf p.1) (wipeE env vs) [] with
      | .ok acc e2 => .ok (.dic acc) (restE env e2 vs)
      | _ => .bad) else .bad
    | none => .bad
  ok := fun Γ W io G H σ env s Q h => by
    dsimp only at h
    split at h
    rotate_left
    · exact h.elim
    rename_i kvs hd
    split at h
    rotate_left
    · exact h.elim
    rename_i hv
    split at h
    rotate_left
    · exact h.elim
    rename_i acc e2 hr
    obtain ⟨v, g1, g2⟩ := s.dat i _ (datDic_at hd)
    cases g2 with
    | @dic a us _ ha hz hk rr =>
    have no : ¬ Ow σ env a := fun ⟨j, k, o, q1, q2⟩ => by
      obtain ⟨b, w1, w2, _⟩ := s.own j k o q1
      rw [q2] at w1; cases w1
      rw [ha] at w2; cases w2
    -- what is had behind the run, over the locked dict
    have core : ∀ (H0 : Hp) (ob : Obj), St Γ.toGm0 io G H0 σ env → H0 a = some (.frz ob (.dK us)) → ∀ Q' : VK, (∀ G' H' Dl, St Γ.toGm0 io G' H' σ (restE env e2 vs) → Mv σ env G H0 σ (restE env e2 vs) G' H' → H0 Dl = none → G' Dl = none → ¬ Ow σ (restE env e2 vs) Dl → ORep Γ.toGm0 G' H' Dl (.dic acc) → Q' (.ref Dl) H') →
        tDc (iKeys (tVar i)) (g.tg Γ) (t.tt Γ W0) (fk.te Γ W0) (f.te Γ W0) vs σ H0 Q' := by
      intro H0 ob s0 h0 Q' hQ
      refine ⟨_, g1, a, ob, rfl, .inl ⟨us, h0, fun Dl hD => ?_⟩⟩
      refine dc_ok g t fk f vs hg Γ s0 (wk_keys h0 no hk) hD hv hr fun G' H' av s' m' no' hav gD hz' ka ra => ?_
      exact hQ G' H' Dl (s0.unwipe s' m'.sub hv) (m'.unwipe hv) hD gD (fun ⟨j, k, o, e, t⟩ => by
        have ni : j ∉ vs := fun hi => okVs_at hv hi k o (restE_in hi e).symm
        rw [restE_out ni] at e
        exact no' ⟨j, k, o, e, by rw [wipe_out ni]; exact t⟩) (.dic hav hz' ka ra)
    rcases s.ex a _ ha with q | ⟨ob, kv, _, q⟩
    · -- it is not locked yet
      refine .inl ⟨a, _, q, trivial, fun od => ?_⟩
      have s0 : St Γ.toGm0 io G (upd H a (.frz od (.dK us))) σ env := by
        refine ⟨fun b o e => ?_, s.len, s.dat, fun j k o e => ?_, s.sep⟩
        · by_cases z : b = a
          · subst z; rw [ha] at e; cases e; exact .inr ⟨od, us, rfl, upd_same⟩
          · rcases s.ex b o e with w | ⟨ob, kv, w1, w2⟩
            · exact .inl (by rw [upd_ne z]; exact w)
            · exact .inr ⟨ob, kv, w1, by rw [upd_ne z]; exact w2⟩
        · obtain ⟨b, w1, w2, w3, w4⟩ := s.own j k o e
          have ne : b ≠ a := fun z => no ⟨j, k, o, e, by rw [← z]; exact w1⟩
          exact ⟨b, w1, w2, w3.mono (Sub.refl _) fun u hu => by rw [upd_ne ne]; exact hu, w4⟩
      refine core _ od s0 upd_same _ fun G' H' Dl s' m' hD gD no' rep => ?_
      obtain ⟨k1, k2⟩ := m'.keep a _ upd_same no
      refine ⟨k1, ?_⟩
      have neD : Dl ≠ a := fun z => by rw [z, upd_same] at hD; cases hD
      have ga' : G' a = some (.dK us) := m'.sub a _ ha
      have noa : ¬ Ow σ (restE env e2 vs) a := m'.noOw no upd_same
      have s2 : St Γ.toGm0 io G' (upd H' a (.dK us)) σ (restE env e2 vs) := by
        refine ⟨fun b o e => ?_, s'.len, s'.dat, fun j k o e => ?_, s'.sep⟩
        · by_cases z : b = a
          · subst z; rw [ga'] at e; cases e; exact .inl upd_same
          · rcases s'.ex b o e with w | ⟨ob, kv, w1, w2⟩
            · exact .inl (by rw [upd_ne z]; exact w)
            · exact .inr ⟨ob, kv, w1, by rw [upd_ne z]; exact w2⟩
        · obtain ⟨b, w1, w2, w3, w4⟩ := s'.own j k o e
          have ne : b ≠ a := fun z => noa ⟨j, k, o, e, by rw [← z]; exact w1⟩
          exact ⟨b, w1, w2, w3.mono (Sub.refl _) fun u hu => by rw [upd_ne ne]; exact hu, w4⟩
      have m2 : Mv σ env G H σ (restE env e2 vs) G' (upd H' a (.dK us)) := by
        refine ⟨m'.sub, fun b o e n => ?_, fun b z => ?_, fun b o e => ?_⟩
        · by_cases z : b = a
          · subst z; rw [q] at e; cases e; exact ⟨upd_same, fun w => by rw [ha] at w; cases w⟩
          · obtain ⟨w1, w2⟩ := m'.keep b o (by rw [upd_ne z]; exact e) n
            exact ⟨by rw [upd_ne z]; exact w1, w2⟩
        · rcases m'.ow b z with w | w
          · exact .inl w
          · by_cases y : b = a
            · subst y; rw [upd_same] at w; cases w
            · rw [upd_ne y] at w; exact .inr w
        · by_cases z : b = a
          · subst z; exact ⟨_, upd_same⟩
          · obtain ⟨o', w⟩ := m'.there b o (by rw [upd_ne z]; exact e)
            exact ⟨o', by rw [upd_ne z]; exact w⟩
      exact h G' _ s2 m2 Dl (by rw [upd_ne neD] at hD; exact hD) gD no' (rep.mono (Sub.refl _) fun u hu => by rw [upd_ne neD]; exact hu)
    · refine .inr (core H ob s (by rename_i e0; cases e0; exact q) _ fun G' H' Dl s' m' hD gD no' rep => h G' H' s' m' Dl hD gD no' rep)
end T

/-! T11 -/
/-! T11: raise, try, instances, properties, built-ins, slices. -/
namespace T
open PySem PySem.Spec PyProof.Rows L2
variable {τ : Tab}

/-! ### raise C(..): an own error with the fields names -/
def tRaiseN (cls : Value) (names : List Str) (ta : TA) (W : WX) : TS := fun D σ H => ta σ H fun vs H1 => vs.length = names.length ∧ ∀ d, H1 d = none → W cls (some d) σ (upd H1 d (.xd (names.zip vs)))
theorem zip_fst {α β : Type} : ∀ {l : List α} {m : List β}, m.length = l.length → (l.zip m).map (·.1) = l
  | [], [], _ => rfl
  | [], _ :: _, h => by simp at h
  | _ :: _, [], h => by simp at h
  | a :: l, b :: m, h => by simp only [List.zip_cons_cons, List.map_cons]; rw [zip_fst (by simpa using h)]
theorem zip_snd {α β : Type} : ∀ {l : List α} {m : List β}, m.length = l.length → (l.zip m).map (·.2) = m
  | [], [], _ => rfl
  | [], _ :: _, h => by simp at h
  | _ :: _, [], h => by simp at h
  | a :: l, b :: m, h => by simp only [List.zip_cons_cons, List.map_cons]; rw [zip_snd (by simpa using h)]
def SX.raise (c : Nat) (names : List Str) (a : AX τ) : SX τ where
  te := fun Γ W => tRaiseN (.ref (Γ.ec c)) names (a.ta Γ W) W
  ev := fun env => (a.ev env).bind fun as e1 => match allD as with
    | some ds => if ds.length = names.length then .exc c (names.zip ds) e1 else .bad
    | none => .bad
  ok := fun Γ W io G H σ env s D h => by
    refine a.ok Γ W io G H σ env s _ (h.step.mono fun as e1 G1 H1 s1 m1 h1 vs rs => ?_)
    split at h1
    · rename_i ds q
      split at h1
      · rename_i hl
        have r := rs.all q
        have hl' : vs.length = names.length := by rw [r.length]; exact hl
        refine ⟨hl', fun d hd => h1 _ _ _ d (s1.laid hd) (Mv.laid hd) ⟨_, upd_same, ?_, ?_⟩⟩
        · rw [zip_fst hl', zip_fst hl]
        · rw [zip_snd hl', zip_snd hl]; exact r
      · exact h1.elim
    · exact h1.elim

/-! ### try: .. except C as n: x = [.., n.f, ..] -/
inductive XI where
  | non | str (x : Str) | int (i : Int) | fld (f : Str)
def tByF (Pc : Prop) (i : Nat) (a : Addr) (d : Option Addr) (f : Str) : TE := fun σ H Q => tVar i σ H fun x H1 => x = .ref a ∧ Pc ∧ ∃ (dd : Addr) (vfs : List (Str × V)) (v : V), d = some dd ∧ H1 dd = some (.xd vfs) ∧ vfs.lookup f = some v ∧ Q v H1
def xiTE (Pc : Prop) (i : Nat) (a : Addr) (d : Option Addr) : XI → TE
  | .non => tC .non
  | .str x => tC (.str x)
  | .int j => tC (.int j)
  | .fld f => tByF Pc i a d f
def xiTA (Pc : Prop) (i : Nat) (a : Addr) (d : Option Addr) : List XI → TA
  | [] => tNil
  | x :: r => tCons (xiTE Pc i a d x) (xiTA Pc i a d r)
def xiD (fs : List (Str × D)) : XI → Option D
  | .non => some .non
  | .str x => some (.str x)
  | .int j => some (.int j)
  | .fld f => lookF fs f
def xiDs (fs : List (Str × D)) : List XI → Option (List D)
  | [] => some []
  | x :: r => match xiD fs x, xiDs fs r with
    | some d, some ds => some (d :: ds)
    | _, _ => none
section
variable {Γ : Gm0} {io : List Addr} {G H : Hp} {σ : L2.St} {env : En}
theorem xi_ok {Pc : Prop} (pc : Pc) {i : Nat} {a dx : Addr} {fs : List (Str × D)} (ha : σ[i]? = some (some (.ref a))) (x : XRep Γ G H dx fs) (t : XI) {z : D} (h : xiD fs t = some z) (Q : VK) (q : ∀ v, Rep Γ G v z → Q v H) : xiTE Pc i a (some dx) t σ H Q := by
  cases t with
  | non => cases h; exact q _ .non
  | str y => cases h; exact q _ (.str y)
  | int j => cases h; exact q _ (.int j)
  | fld f =>
    obtain ⟨vfs, h1, h2, h3⟩ := x
    obtain ⟨v, g1, g2⟩ := lookF_rel f h2 h3 z h
    exact ⟨_, ha, rfl, pc, dx, vfs, v, rfl, h1, g1, q v g2⟩
theorem xis_ok {Pc : Prop} (pc : Pc) {i : Nat} {a dx : Addr} {fs : List (Str × D)} (ha : σ[i]? = some (some (.ref a))) (x : XRep Γ G H dx fs) : ∀ (l : List XI) {zs : List D}, xiDs fs l = some zs → ∀ Q : List V → Hp → Prop, (∀ vs, Reps Γ G vs zs → Q vs H) → xiTA Pc i a (some dx) l σ H Q
  | [], zs, h, Q, q => by simp [xiDs] at h; subst h; exact q _ .nil
  | t :: l, zs, h, Q, q => by
    simp only [xiDs] at h
    split at h
    · rename_i d ds h1 h2
      cases h
      exact xi_ok pc ha x t h1 _ fun v rv => xis_ok pc ha x l h2 _ fun vs rs => q _ (.cons rv rs)
    · cases h
end
/-- a clause's suite: slot j gets a list (or a tuple) of the items; i: the error's name -/
structure HX (τ : Tab) where
  ts : Gm τ → Nat → Prop → Addr → Option Addr → TS
  ev : List (Str × D) → En → Option En
  ok : ∀ (Γ : Gm τ) io G H σ env (i : Nat) (Pc : Prop) a dx fs e2, Pc → St Γ.toGm0 io G H σ env → σ[i]? = some (some (.ref a)) → XRep Γ.toGm0 G H dx fs → ev fs env = some e2 →
    ∀ D : Ends, (∀ σ' G' H', St Γ.toGm0 io G' H' σ' e2 → Mv σ env G H σ' e2 G' H' → D.nx σ' H') → ts Γ i Pc a (some dx) D σ H
def HX.lst (j : Nat) (l : List XI) : HX τ where
  ts := fun Γ i Pc a d => tAsg (tLst (xiTA Pc i a d l)) (gName j)
  ev := fun fs env => match xiDs fs l with
    | some zs => if canSet env j && capd zs.length then some (env.set j (.dat (.lst zs))) else none
    | none => none
  ok := fun Γ io G H σ env i Pc a dx fs e2 pc s ha x h D q => by
    split at h
    · rename_i zs hz
      split at h
      · rename_i c
        cases h
        rw [Bool.and_eq_true] at c
        refine xis_ok pc ha x l hz _ fun vs rs => ?_
        have hl : vs.length ≤ sizeLine := by rw [rs.length]; exact capd_ok c.2
        refine ⟨hl, fun p hp => ?_⟩
        have s1 := s.both (o := .lst vs) hp
        obtain ⟨s2, m2⟩ := s1.set (d := .lst zs) c.1 (.lst upd_same hl (rs.mono (Sub.new (s.ex.free hp))))
        exact q _ _ _ s2 ((Mv.both s.ex hp).trans m2)
      · cases h
    · cases h
def HX.tup (j : Nat) (l : List XI) : HX τ where
  ts := fun Γ i Pc a d => tAsg (tTup (xiTA Pc i a d l)) (gName j)
  ev := fun fs env => match xiDs fs l with
    | some zs => if canSet env j && capd zs.length then some (env.set j (.dat (.tup zs))) else none
    | none => none
  ok := fun Γ io G H σ env i Pc a dx fs e2 pc s ha x h D q => by
    split at h
    · rename_i zs hz
      split at h
      · rename_i c
        cases h
        rw [Bool.and_eq_true] at c
        refine xis_ok pc ha x l hz _ fun vs rs => ?_
        have hl : vs.length ≤ sizeLine := by rw [rs.length]; exact capd_ok c.2
        refine ⟨hl, fun p hp => ?_⟩
        have s1 := s.both (o := .tup vs) hp
        obtain ⟨s2, m2⟩ := s1.set (d := .tup zs) c.1 (.tup (.inl (.inl upd_same)) hl (rs.mono (Sub.new (s.ex.free hp))))
        exact q _ _ _ s2 ((Mv.both s.ex hp).trans m2)
      · cases h
    · cases h
/-- a slot is forgotten -/
theorem St.forget {Γ : Gm0} {io : List Addr} {G H : Hp} {σ : L2.St} {env : En} (s : St Γ io G H σ env) {i : Nat} {x : Option V} (h : okV env i = true) : St Γ io G H (σ.set i x) (env.set i .no) ∧ Mv σ env G H (σ.set i x) (env.set i .no) G H := by
  have hi : i < env.length := by
    unfold okV at h
    cases e : env[i]? with
    | none => rw [e] at h; cases h
    | some x => exact (List.getElem?_eq_some_iff.mp e).1
  have keep : ∀ {j : Nat}, j ≠ i → (σ.set i x)[j]? = σ[j]? := fun n => List.getElem?_set_ne (Ne.symm n)
  refine ⟨⟨s.ex, by simpa using s.len, fun j e q => ?_, fun j k o q => ?_, fun j j' k k' o o' a q q' t t' => ?_⟩, ⟨Sub.refl _, fun b o e _ => ⟨e, id⟩, fun b ⟨j, k, o, q, t⟩ => ?_, fun b o e => ⟨o, e⟩⟩⟩
  · rcases set_get hi q with ⟨z, w⟩ | ⟨z, w⟩
    · cases w
    · rw [keep z]; exact s.dat j e w
  · rcases set_get hi q with ⟨z, w⟩ | ⟨z, w⟩
    · cases w
    · rw [keep z]; exact s.own j k o w
  · rcases set_get hi q with ⟨z, w⟩ | ⟨z, w⟩
    · cases w
    · rcases set_get hi q' with ⟨z', w'⟩ | ⟨z', w'⟩
      · cases w'
      · rw [keep z] at t; rw [keep z'] at t'; exact s.sep j j' _ _ _ _ a w w' t t'
  · rcases set_get hi q with ⟨z, w⟩ | ⟨z, w⟩
    · cases w
    · rw [keep z] at t; exact .inl ⟨j, k, o, w, t⟩
def evTry (τ : Tab) (b : En → R Fl) (c i : Nat) (h : List (Str × D) → En → Option En) (env : En) : R Fl := match b env with
  | .exc c' fs e => match τ.sub c' c with
    | some true => if okV e i then (match h fs (e.set i .no) with
      | some e2 => if okV e2 i then .ok .nx (e2.set i .no) else .bad
      | none => .bad) else .bad
    | some false => .exc c' fs e
    | none => .bad
  | r => r
def SX.try1 (b : SX τ) (c i : Nat) (hx : HX τ) : SX τ where
  te := fun Γ W => fun D σ H => b.te Γ (wAs Γ.K (.ref (Γ.ec c)) i (fun a cls d => hx.ts Γ i (∃ c', cls = .ref (Γ.ec c') ∧ τ.sub c' c = some true) a d) W D) D σ H
  ev := evTry τ b.ev c i hx.ev
  ok := fun Γ W io G H σ env s D h => by
    refine b.ok Γ _ io G H σ env s D ?_
    unfold evTry at h
    cases q : b.ev env with
    | bad => rw [q] at h; exact h
    | ok f e =>
      rw [q] at h
      cases f <;> exact h
    | exc c' fs e =>
      rw [q] at h
      dsimp only at h
      intro σ' G' H' dx s' m' xr
      split at h
      · rename_i hs
        refine ⟨true, Γ.exm c' c true hs, fun _ a na => ?_, fun z => by cases z⟩
        split at h
        · rename_i hi
          split at h
          · rename_i e2 he
            split at h
            · rename_i hi2
              obtain ⟨s1, m1⟩ := s'.forget (x := some (.ref a)) hi
              have hlt : i < σ'.length := by
                unfold okV at hi
                cases w : e[i]? with
                | none => rw [w] at hi; cases hi
                | some x => rw [s'.len]; exact (List.getElem?_eq_some_iff.mp w).1
              refine hx.ok Γ io G' H' _ _ i _ a dx fs e2 ⟨c', rfl, hs⟩ s1 (by rw [List.getElem?_set_self hlt]) xr he _ fun σ2 G2 H2 s2 m2 => ?_
              obtain ⟨s3, m3⟩ := s2.forget (x := none) hi2
              exact h _ _ _ s3 (m'.trans (m1.trans (m2.trans m3)))
            · exact h.elim
          · exact h.elim
        · exact h.elim
      · rename_i hs
        exact ⟨false, Γ.exm c' c false hs, fun z => Bool.noConfusion z, fun _ => h σ' G' H' dx s' m' xr⟩
      · exact h.elim

/-! ### C(..): a new instance -/
def tMakeN (sp : Sp) (C : Addr) (ta : TA) (W : WX) : TE := fun σ H Q => ta σ H fun vs H1 => ∀ x dx, H1 x = none → H1 dx = none → dx ≠ x →
  sp (.ref x :: vs) (upd (upd H1 dx (.own x)) x (.ins C dx [])) (fun v H2 => v = .non ∧ Q (.ref x) H2) (fun cls d H2 => W cls d σ H2)
theorem Reps.aas {Γ : Gm0} {G H : Hp} : ∀ {vs : List V} {ds : List D}, Reps Γ G vs ds → AAs Γ G H vs (ds.map .d) []
  | _, _, .nil => .nil
  | _, _, .cons a b => .d a (Reps.aas b)
theorem St.fin {Γ : Gm0} {io L : List Addr} {G H G' H' : Hp} {σ : L2.St} {env : En} (s : St Γ io G H σ env) (f : Fin L G H G' H') (no : ∀ a ∈ L, ¬ Ow σ env a) : St Γ io G' H' σ env :=
  ⟨f.ex, s.len, fun i d e => by
    obtain ⟨v, g1, g2⟩ := s.dat i d e
    exact ⟨v, g1, g2.mono f.sub⟩, fun i k o e => by
    obtain ⟨a, g1, g2, g3, g4⟩ := s.own i k o e
    have na : a ∉ L := fun z => no a z ⟨i, k, o, e, g1⟩
    obtain ⟨u, hu⟩ := g3.there
    exact ⟨a, g1, (f.keep a u hu na).2 g2, g3.mono f.sub fun w hw => (f.keep a w hw na).1, g4⟩, s.sep⟩
def evMake (c : Nat) (F : List A → Res) (a : En → R (List Ar)) (env : En) : R O := (a env).bind fun ars e1 => match allD ars with
  | some ds => match F (.o (.ins c []) :: ds.map .d) with
    | .ok .non [o] => .ok o e1
    | .exc c' fs [_] => .exc c' fs e1
    | _ => .bad
  | none => .bad
def FX.make (c : Nat) (F : List A → Res) (a : AX τ) : FX τ where
  te := fun Γ W => tMakeN (spF Γ.toGm0 F) (Γ.cl c) (a.ta Γ W) W
  ev := evMake c F a.ev
  ok := fun Γ W io G H σ env s Q h => by
    refine a.ok Γ W io G H σ env s _ ((Out.stepBack h).mono fun ars e1 G1 H1 s1 m1 h1 vs rs x dx hx hdx ne => ?_)
    split at h1
    rotate_left
    · exact h1.elim
    rename_i ds q
    have r := rs.all q
    have hx' : upd H1 dx (.own x) x = none := by rw [upd_ne (Ne.symm ne)]; exact hx
    have s2 := (s1.laid (o := .own x) hdx).laid (o := .ins (Γ.cl c) dx []) hx'
    have noX : ¬ Ow σ e1 x := fun ⟨i, k, o, e, t⟩ => by
      obtain ⟨a, g1, _, g3, _⟩ := s1.own i k o e
      rw [t] at g1; cases g1
      obtain ⟨u, hu⟩ := g3.there
      rw [hx] at hu; cases hu
    have gx := s1.ex.free hx
    refine ⟨G1, .o (.ins c []) :: ds.map .d, [x], s2.ex, by simp, .o gx (.ins upd_same rfl .nil) r.aas, ?_⟩
    have mv : ∀ {G' H' : Hp} {o : O}, Fin [x] G1 (upd (upd H1 dx (.own x)) x (.ins (Γ.cl c) dx [])) G' H' → ORep Γ.toGm0 G' H' x o → Mv σ e1 G1 H1 σ e1 G' H' := fun {G' H' o} f rep => by
      refine ⟨f.sub, fun b o e n => ?_, fun b z => .inl z, fun b o e => ?_⟩
      · have n1 := ne_of_none e hx
        have n2 := ne_of_none e hdx
        exact f.keep b o (by rw [upd_ne n1, upd_ne n2]; exact e) (by simpa using n1)
      · by_cases z : b = x
        · subst z; exact rep.there
        · have n2 := ne_of_none e hdx
          exact ⟨o, (f.keep b o (by rw [upd_ne z, upd_ne n2]; exact e) (by simpa using z)).1⟩
    split at h1
    · rename_i o hF
      rw [hF]
      intro v G' H' f os rv
      cases rv
      cases os with
      | cons g1 g2 _ =>
        refine ⟨rfl, ?_⟩
        have m2 := mv f g2
        exact h1 G' H' (s2.fin f (by simpa using noX)) m2 m1 m2 x (m1.back hx) g1 noX g2
    · rename_i c' fs o hF
      rw [hF]
      intro d G' H' f os xr
      cases os with
      | cons g1 g2 _ => exact h1 G' H' d (s2.fin f (by simpa using noX)) (mv f g2) xr
    · exact h1.elim
/-- e.f, a property worth F -/
def fProp (c : Nat) (F : List A → Res) : D → Option D
  | .ins c' fs => if c' = c then (match F [.d (.ins c' fs)] with
    | .ok z [] => some z
    | _ => none) else none
  | _ => none
def EX.prop (c : Nat) (F : List A → Res) (e : EX τ) : EX τ where
  te := fun Γ W => tProp (Γ.cl c) (spF Γ.toGm0 F) [] E0 (e.te Γ W)
  ev := ev1 (fProp c F) e.ev
  ok := fun Γ W io G H σ env s Q h => by
    refine e.ok Γ W io G H σ env s _ ((Out.step h).mono fun d e1 G1 H1 s1 m1 h1 x rx => ?_)
    unfold fProp at h1
    split at h1
    · rename_i c' fs
      split at h1
      · rename_i hc
        subst hc
        split at h1
        · rename_i z hF
          cases rx with
          | @ins a dx _ vs _ he hk r =>
            refine ⟨a, dx, vs, rfl, s1.ex.at he (fun _ z => nomatch z), G1, _, [], s1.ex, List.nodup_nil, .d (.ins he hk r) .nil, ?_⟩
            rw [hF]
            intro v G' H' f os rv
            have m2 : Mv σ e1 G1 H1 σ e1 G' H' := ⟨f.sub, fun b o e _ => f.keep b o e (by simp), fun _ z => .inl z, fun b o e => ⟨o, (f.keep b o e (by simp)).1⟩⟩
            exact h1 G' H' (s1.fin f (by simp)) m2 v rv
        · exact h1.elim
      · exact h1.elim
    · exact h1.elim

/-! ### built-ins -/
theorem k_pure {r : Gm τ → List V → Hp → VK → Prop} {f : List D → Option D} (k : ∀ (Γ : Gm τ) (G H : Hp) (vs : List V) (ds : List D) (z : D), Ext G H → Reps Γ.toGm0 G vs ds → f ds = some z → ∀ Q : VK, (∀ v, Rep Γ.toGm0 G v z → Q v H) → r Γ vs H Q) : KeepsN r f :=
  fun Γ io G H σ env vs ds z s rs h Q q => k Γ G H vs ds z s.ex rs h Q fun v rv => q v G H s (Mv.refl _ _ _ _) rv
def fLen : List D → Option D
  | [.str x] => if capd x.length then some (.int x.length) else none
  | [d] => d.seq?.map fun ds => .int ds.length
  | _ => none
def EX.len (a : AX τ) : EX τ := EX.bi (fun Γ => rLenA Γ.K) fLen (k_pure fun Γ G H vs ds z x rs h Q q => by
  unfold fLen at h
  split at h
  · rename_i y
    split at h
    · rename_i c
      cases h
      cases rs with
      | cons r1 r2 => cases r1; cases r2; exact ⟨_, _, rfl, ⟨capd_ok c, rfl⟩, q _ (.int _)⟩
    · cases h
  · rename_i d _
    cases rs with
    | cons r1 r2 =>
      cases r2
      cases e : d.seq? with
      | none => rw [e] at h; cases h
      | some es =>
        rw [e] at h; cases h
        obtain ⟨a, vs, rfl, h1, h2, h3⟩ := r1.seq x e
        refine ⟨_, es.length, rfl, ?_, q _ (.int _)⟩
        rw [← h3.length]
        exact h1.elim (fun z => .inl ⟨vs, z, rfl⟩) fun z => .inr ⟨vs, z, rfl⟩
  · cases h) a
def rAbs : List V → Hp → VK → Prop := fun xs H Q => ∃ i, xs = [.int i] ∧ Q (.int (if i < 0 then -i else i)) H
def fAbs : List D → Option D
  | [.int i] => some (.int (if i < 0 then -i else i))
  | _ => none
def EX.abs (a : AX τ) : EX τ := EX.bi (fun _ => rAbs) fAbs (k_pure fun Γ G H vs ds z x rs h Q q => by
  unfold fAbs at h
  split at h
  · cases h
    cases rs with
    | cons r1 r2 => cases r1; cases r2; exact ⟨_, rfl, q _ (.int _)⟩
  · cases h) a
def rInt1 : List V → Hp → VK → Prop := fun xs H Q => (∃ i, xs = [.int i] ∧ Q (.int i) H) ∨ ∃ k, xs = [.bl k] ∧ Q (.int (if k then 1 else 0)) H
def fInt1 : List D → Option D
  | [.int i] => some (.int i)
  | [.bl k] => some (.int (if k then 1 else 0))
  | _ => none
def EX.int1 (a : AX τ) : EX τ := EX.bi (fun _ => rInt1) fInt1 (k_pure fun Γ G H vs ds z x rs h Q q => by
  unfold fInt1 at h
  split at h
  · cases h
    cases rs with
    | cons r1 r2 => cases r1; cases r2; exact .inl ⟨_, rfl, q _ (.int _)⟩
  · cases h
    cases rs with
    | cons r1 r2 => cases r1; cases r2; exact .inr ⟨_, rfl, q _ (.int _)⟩
  · cases h) a
def rMin2 : List V → Hp → VK → Prop := fun xs H Q => ∃ i j, xs = [.int i, .int j] ∧ Q (.int (if j < i then j else i)) H
def rMax2 : List V → Hp → VK → Prop := fun xs H Q => ∃ i j, xs = [.int i, .int j] ∧ Q (.int (if j > i then j else i)) H
def fMin2 : List D → Option D
  | [.int i, .int j] => some (.int (if j < i then j else i))
  | _ => none
def fMax2 : List D → Option D
  | [.int i, .int j] => some (.int (if j > i then j else i))
  | _ => none
def EX.min2 (a : AX τ) : EX τ := EX.bi (fun _ => rMin2) fMin2 (k_pure fun Γ G H vs ds z x rs h Q q => by
  unfold fMin2 at h
  split at h
  · cases h
    cases rs with
    | cons r1 r2 => cases r1; cases r2 with
      | cons r3 r4 => cases r3; cases r4; exact ⟨_, _, rfl, q _ (.int _)⟩
  · cases h) a
def EX.max2 (a : AX τ) : EX τ := EX.bi (fun _ => rMax2) fMax2 (k_pure fun Γ G H vs ds z x rs h Q q => by
  unfold fMax2 at h
  split at h
  · cases h
    cases rs with
    | cons r1 r2 => cases r1; cases r2 with
      | cons r3 r4 => cases r3; cases r4; exact ⟨_, _, rfl, q _ (.int _)⟩
  · cases h) a
def fGcd : List D → Option D
  | [.int i, .int j] => some (.int ((Nat.gcd i.natAbs j.natAbs : Nat) : Int))
  | _ => none
def EX.gcd (a : AX τ) : EX τ := EX.bi (fun _ => rGcd) fGcd (k_pure fun Γ G H vs ds z x rs h Q q => by
  unfold fGcd at h
  split at h
  · cases h
    cases rs with
    | cons r1 r2 => cases r1; cases r2 with
      | cons r3 r4 => cases r3; cases r4; exact ⟨_, _, rfl, q _ (.int _)⟩
  · cases h) a
def allB : List D → Option (List Bool)
  | [] => some []
  | .bl b :: ds => (allB ds).map (b :: ·)
  | _ :: _ => none
theorem Reps.allB {Γ : Gm0} {G : Hp} : ∀ {vs : List V} {ds : List D} {bs : List Bool}, Reps Γ G vs ds → T.allB ds = some bs → vs = bs.map V.bl
  | _, _, _, .nil, h => by simp [T.allB] at h; subst h; rfl
  | _, _, _, .cons a b, h => by
    cases a with
    | bl b' =>
      simp only [T.allB] at h
      cases q : T.allB _ with
      | none => rw [q] at h; cases h
      | some bs' =>
        rw [q] at h; cases h
        rw [Reps.allB b q]; rfl
    | _ => simp [T.allB] at h
def fAny : List D → Option D
  | [d] => ((lstD d).bind allB).map fun bs => .bl (bs.any id)
  | _ => none
def fAll : List D → Option D
  | [d] => ((lstD d).bind allB).map fun bs => .bl (bs.all id)
  | _ => none
def EX.any (a : AX τ) : EX τ := EX.bi (fun Γ => rAny Γ.K) fAny (k_pure fun Γ G H vs ds z x rs h Q q => by
  unfold fAny at h
  split at h
  · rename_i d
    cases rs with
    | cons r1 r2 =>
      cases r2
      cases e : T.lstD d with
      | none => rw [e] at h; cases h
      | some es =>
        rw [e, Option.bind_some] at h
        cases e2 : T.allB es with
        | none => rw [e2] at h; cases h
        | some bs =>
          rw [e2] at h; cases h
          obtain ⟨a, us, rfl, g1, g2⟩ := r1.lstD e
          rw [g2.allB e2] at g1
          exact ⟨a, bs, rfl, x.sl g1, q _ (.bl _)⟩
  · cases h) a
def EX.all (a : AX τ) : EX τ := EX.bi (fun Γ => rAll Γ.K) fAll (k_pure fun Γ G H vs ds z x rs h Q q => by
  unfold fAll at h
  split at h
  · rename_i d
    cases rs with
    | cons r1 r2 =>
      cases r2
      cases e : T.lstD d with
      | none => rw [e] at h; cases h
      | some es =>
        rw [e, Option.bind_some] at h
        cases e2 : T.allB es with
        | none => rw [e2] at h; cases h
        | some bs =>
          rw [e2] at h; cases h
          obtain ⟨a, us, rfl, g1, g2⟩ := r1.lstD e
          rw [g2.allB e2] at g1
          exact ⟨a, bs, rfl, x.sl g1, q _ (.bl _)⟩
  · cases h) a
/-- tuple(xs) -/
def rTupOf (K : PySem.W.Frag) : List V → Hp → VK → Prop := fun xs H Q => ∃ p ys, xs = [.ref p] ∧ ((SqL K H p ys ∧ ∀ l, H l = none → Q (.ref l) (upd H l (.tup ys))) ∨ (SqT K H p ys ∧ Q (.ref p) H))
def fTupOf : List D → Option D
  | [.lst ds] => some (.tup ds)
  | [.scr ds] => some (.tup ds)
  | [.tup ds] => some (.tup ds)
  | _ => none
def EX.tupOf (a : AX τ) : EX τ := EX.bi (fun Γ => rTupOf Γ.K) fTupOf (by
  intro Γ io G H σ env vs ds z s rs h Q q
  unfold fTupOf at h
  have go : ∀ (a : Addr) (us : List V) (es : List D), SqL Γ.K G a us → us.length ≤ sizeLine → Reps Γ.toGm0 G us es → z = .tup es → rTupOf Γ.K [.ref a] H Q := fun a us es h1 h2 h3 e => by
    subst e
    exact ⟨a, us, rfl, .inl ⟨s.ex.sl h1, fun l hl => q _ _ _ (s.both hl) (Mv.both s.ex hl) (.tup (.inl (.inl upd_same)) h2 (h3.mono (Sub.new (s.ex.free hl))))⟩⟩
  split at h
  · cases h
    cases rs with
    | cons r1 r2 => cases r2; cases r1 with
      | lst e z r => exact go _ _ _ (.inl (.inl e)) z r rfl
  · cases h
    cases rs with
    | cons r1 r2 => cases r2; cases r1 with
      | scr e z r => exact go _ _ _ e z r rfl
  · cases h
    cases rs with
    | cons r1 r2 => cases r2; cases r1 with
      | tup e z r => exact ⟨_, _, rfl, .inr ⟨s.ex.st e, q _ _ _ s (Mv.refl _ _ _ _) (.tup e z r)⟩⟩
  · cases h) a
/-- list(xs): a new list -/
def rLstOf (K : PySem.W.Frag) : List V → Hp → VK → Prop := fun xs H Q => ∃ p ys, xs = [.ref p] ∧ (SqL K H p ys ∨ SqT K H p ys) ∧ ∀ l, H l = none → Q (.ref l) (upd H l (.lst ys))
def seq1 : List D → Option (List D)
  | [d] => d.seq?
  | _ => none
def FX.lstOf (a : AX τ) : FX τ where
  te := fun Γ W => tCB (rLstOf Γ.K) (a.ta Γ W)
  ev := fun env => (a.ev env).bind fun as e1 => match (allD as).bind seq1 with
    | some ds => .ok (.lst ds) e1
    | none => .bad
  ok := fun Γ W io G H σ env s Q h => by
    refine a.ok Γ W io G H σ env s _ ((Out.step h).mono fun as e1 G1 H1 s1 m1 h1 vs rs => ?_)
    split at h1
    · rename_i ds q
      cases q1 : allD as with
      | none => rw [q1] at q; cases q
      | some xs =>
        rw [q1, Option.bind_some] at q
        have r := rs.all q1
        unfold seq1 at q
        split at q
        · cases r with
          | cons r1 r2 =>
            cases r2
            obtain ⟨p, us, rfl, g1, g2, g3⟩ := r1.seq s1.ex q
            refine ⟨p, us, rfl, g1, fun l hl => h1 _ _ (s1.laid hl) (Mv.laid hl) l (m1.back hl) (s1.ex.free hl) (fun ⟨i, k, o, e, t⟩ => ?_) (.lst upd_same g2 g3)⟩
            obtain ⟨a, y1, _, y3, _⟩ := s1.own i k o e
            rw [t] at y1; cases y1
            obtain ⟨u, hu⟩ := y3.there
            rw [hl] at hu; cases hu
        · cases q
    · exact h1.elim
end T

/-! T12 -/
/-! T12: slices, isinstance, sorted of a dict, bit_length, truth. -/
namespace T
open PySem PySem.Spec PyProof.Rows L2
variable {τ : Tab}

structure OX (τ : Tab) where
  to : Gm τ → WX → TO
  ev : En → R (Option Int)
  ok : ∀ (Γ : Gm τ) (W : WX) io G H σ env, St Γ.toGm0 io G H σ env → ∀ Q : Option Int → Hp → Prop, Out Γ.toGm0 io W σ env G H (ev env) (fun o _ _ H' => Q o H') → to Γ W σ H Q
def OX.no : OX τ := ⟨fun _ _ => tNoPart, fun env => .ok none env, fun _ _ _ _ _ _ _ s _ h => h.here s⟩
def asI : D → Option Int
  | .int i => some i
  | _ => none
def OX.at (e : EX τ) : OX τ where
  to := fun Γ W => tPart (e.te Γ W)
  ev := fun env => (e.ev env).bind fun d e1 => (R.of (asI d) e1).bind fun i e2 => .ok (some i) e2
  ok := fun Γ W io G H σ env s Q h => by
    refine e.ok Γ W io G H σ env s _ ((Out.step h).mono fun d e1 G1 H1 s1 m1 h1 x rx => ?_)
    cases rx with
    | int i => exact ⟨i, rfl, h1.here s1⟩
    | _ => exact h1.elim
def cutD {α : Type} (xs : List α) (lo hi : Option Int) : List α := (xs.drop (HT.sIx xs.length 0 lo)).take (HT.sIx xs.length xs.length hi - HT.sIx xs.length 0 lo)
theorem Reps.cut {Γ : Gm0} {G : Hp} {vs : List V} {ds : List D} (r : Reps Γ G vs ds) (lo hi : Option Int) : Reps Γ G (cutV vs lo hi) (cutD ds lo hi) := by
  have h : cutV vs lo hi = cutD vs lo hi := rfl
  rw [h]
  unfold cutD
  rw [r.length]
  exact (r.drop _).take _
/-- xs[lo:hi], a new list -/
def evSl (a : En → R D) (lo hi : En → R (Option Int)) (env : En) : R O := (a env).bind fun d e1 => (lo e1).bind fun l e2 => (hi e2).bind fun u e3 => match lstD d with
  | some ds => .ok (.lst (cutD ds l u)) e3
  | none => .bad
def FX.slice (a : EX τ) (lo hi : OX τ) : FX τ where
  te := fun Γ W => tSl (rSlL Γ.K) (a.te Γ W) (lo.to Γ W) (hi.to Γ W)
  ev := evSl a.ev lo.ev hi.ev
  ok := fun Γ W io G H σ env s Q h => by
    refine a.ok Γ W io G H σ env s _ ((Out.step h).mono fun d e1 G1 H1 s1 m1 h1 x rx => ?_)
    refine lo.ok Γ W io G1 H1 σ e1 s1 _ ((Out.step h1).mono fun l e2 G2 H2 s2 m2 h2 => ?_)
    refine hi.ok Γ W io G2 H2 σ e2 s2 _ ((Out.step h2).mono fun u e3 G3 H3 s3 m3 h3 => ?_)
    cases q : lstD d with
    | none => rw [q] at h3; exact h3.elim
    | some ds =>
      rw [q] at h3
      have rx3 := (rx.mono m2.sub).mono m3.sub
      obtain ⟨p, us, rfl, g1, g2⟩ := rx3.lstD q
      have hz : us.length ≤ sizeLine := by
        cases rx3 with
        | lst e z r => rcases g1 with (g1 | ⟨_, g1⟩) | ⟨o, its, n, h1, _, _, _, h4, h5⟩
                       · rw [e] at g1; cases g1; exact z
                       · rw [e] at g1; cases g1
                       · rw [h5.length]; simpa using h4
        | @scr _ vs' _ e z r => rw [g2.length]; simp only [lstD, Option.some.injEq] at q; subst q; rw [← r.length]; exact z
        | _ => simp [lstD] at q
      refine ⟨p, us, rfl, s3.ex.sl g1, fun l' hl => h3 _ _ (s3.laid hl) (Mv.laid hl) l' ?_ (s3.ex.free hl) (fun ⟨i, k, o, e, t⟩ => ?_) (.lst upd_same (Nat.le_trans (cutV_length us l u) hz) (g2.cut l u))⟩
      · exact m1.back (m2.back (m3.back hl))
      · obtain ⟨b, y1, _, y3, _⟩ := s3.own i k o e
        rw [t] at y1; cases y1
        obtain ⟨w, hw⟩ := y3.there
        rw [hl] at hw; cases hw

/-! ### isinstance -/
def tyName : D → Option String
  | .non => some "NoneType"
  | .bl _ => some "bool"
  | .int _ => some "int"
  | .str _ => some "str"
  | .lst _ => some "list"
  | .scr _ => some "list"
  | .tup _ => some "tuple"
  | .dic _ => some "dict"
  | .ins _ _ => none
theorem Rep.tyX {Γ : Gm0} {G H : Hp} (x : Ext G H) {v : V} {d : D} {n : String} (r : Rep Γ G v d) (h : tyName d = some n) : TyX Γ.K H v (.type n) := by
  cases r with
  | non => cases h; exact .base .non
  | bl b => cases h; exact .base (.bl b)
  | int i => cases h; exact .base (.int i)
  | str z => cases h; exact .base (.str z)
  | lst e z r => cases h; exact .base (.lst (x.at e (fun _ z => nomatch z)))
  | scr e z r =>
    cases h
    rcases x.sl e with (e | ⟨o, e⟩) | ⟨o, its, m, e, c, _⟩
    · exact .base (.lst e)
    · exact .base (.frz e)
    · exact .kList e c
  | tup e z r =>
    cases h
    rcases x.st e with (e | ⟨o, e⟩) | ⟨o, its, m, e, c, _⟩
    · exact .base (.tup e)
    · exact .fTuple e
    · exact .kTuple e c
  | dic e z k r =>
    cases h
    rcases x _ _ e with e | ⟨ob, kv, q, e⟩
    · exact .base (.dK e)
    · cases q; exact .fDict e
  | ins e k r => cases h
/-- what isinstance says, the type's name being n -/
def isTy (ty n : String) : Bool := n == ty || (n == "bool" && ty == "int")
def tyKnown : List String := ["int", "bool", "str", "list", "tuple"]
theorem kit_known : ∀ ty ∈ tyKnown, ∀ n ∈ ["NoneType", "bool", "int", "str", "list", "tuple", "dict"], kitB n ty = some (isTy ty n) := by decide +kernel
theorem tyName_in {d : D} {n : String} (h : tyName d = some n) : n ∈ ["NoneType", "bool", "int", "str", "list", "tuple", "dict"] := by
  cases d <;> simp [tyName] at h <;> subst h <;> decide
def fIsi (ty : String) (d : D) : Option D := if tyKnown.contains ty then (tyName d).map fun n => .bl (isTy ty n) else none
def EX.isi (ty : String) (e : EX τ) : EX τ where
  te := fun Γ W => tCB (rIsi Γ.K) (tCons (e.te Γ W) (tCons (tC (.ty ty)) tNil))
  ev := ev1 (fIsi ty) e.ev
  ok := fun Γ W io G H σ env s Q h => by
    refine e.ok Γ W io G H σ env s _ ((Out.step h).mono fun d e1 G1 H1 s1 m1 h1 x rx => ?_)
    unfold fIsi at h1
    split at h1
    · rename_i hk
      cases q : tyName d with
      | none => rw [q] at h1; exact h1.elim
      | some n =>
        rw [q] at h1
        exact ⟨x, .ty ty, _, _, _, rfl, .ty ty, rx.tyX s1.ex q, kit_ty (kit_known ty (by simpa using hk) n (tyName_in q)), h1.here s1 _ (.bl _)⟩
    · exact h1.elim
def fIsi2 (t1 t2 : String) (d : D) : Option D := if tyKnown.contains t1 && tyKnown.contains t2 then (tyName d).map fun n => .bl (isTy t1 n || isTy t2 n) else none
def EX.isi2 (t1 t2 : String) (e : EX τ) : EX τ where
  te := fun Γ W => tCB (rIsiT Γ.K) (tCons (e.te Γ W) (tCons (tTup (tCons (tC (.ty t1)) (tCons (tC (.ty t2)) tNil))) tNil))
  ev := ev1 (fIsi2 t1 t2) e.ev
  ok := fun Γ W io G H σ env s Q h => by
    refine e.ok Γ W io G H σ env s _ ((Out.step h).mono fun d e1 G1 H1 s1 m1 h1 x rx => ?_)
    unfold fIsi2 at h1
    split at h1
    · rename_i hk
      rw [Bool.and_eq_true] at hk
      cases q : tyName d with
      | none => rw [q] at h1; exact h1.elim
      | some n =>
        rw [q] at h1
        refine ⟨by show 2 ≤ sizeLine; decide, fun p hp => ⟨x, p, [.ty t1, .ty t2], .type n, [.type t1, .type t2], _, rfl, upd_same, .cons (.ty t1) (.cons (.ty t2) .nil), ?_, ?_, h1 _ _ (s1.laid hp) (Mv.laid hp) _ (.bl _)⟩⟩
        · exact rx.tyX (s1.laid hp).ex q
        · refine kitAny_cons (kit_ty (kit_known t1 (by simpa using hk.1) n (tyName_in q))) (fun z => ?_) (fun z => by rw [z]; rfl)
          rw [z, Bool.false_or]
          exact kitAny_cons (kit_ty (kit_known t2 (by simpa using hk.2) n (tyName_in q))) (fun z => by rw [z]; exact kitAny_nil) (fun z => z)
    · exact h1.elim

/-! ### sorted(d), keys ints -/
def intKeys : List Key → Option (List Int)
  | [] => some []
  | .inl i :: r => (intKeys r).map (i :: ·)
  | .inr _ :: _ => none
theorem intKeys_at : ∀ {l : List Key} {ks : List Int}, intKeys l = some ks → l = ks.map Sum.inl
  | [], ks, h => by simp [intKeys] at h; subst h; rfl
  | .inl i :: r, ks, h => by
    simp only [intKeys] at h
    cases q : intKeys r with
    | none => rw [q] at h; cases h
    | some ks' => rw [q] at h; cases h; rw [intKeys_at q]; rfl
  | .inr _ :: _, ks, h => by simp [intKeys] at h
def rSortDI : List V → Hp → VK → Prop := fun xs H Q => ∃ (a : Addr) (kvs : List (Key × V)) (ks : List Int), xs = [.ref a] ∧ Rd H a (.dK kvs) ∧ kvs.map (·.1) = ks.map Sum.inl ∧ ks.length < 64 ∧
    ∀ (ys : List Int) (p : Addr), ys.Perm ks → ys.Pairwise (· ≤ ·) → H p = none → Q (.ref p) (upd H p (.lst (ys.map V.int)))
def sortI (ks : List Int) : List Int := ks.mergeSort fun a b => decide (a ≤ b)
theorem sortI_perm (ks : List Int) : (sortI ks).Perm ks := List.mergeSort_perm _ _
theorem sortI_sorted (ks : List Int) : (sortI ks).Pairwise (· ≤ ·) := by
  have := List.pairwise_mergeSort (le := fun a b : Int => decide (a ≤ b)) (fun a b c h1 h2 => by simp at *; omega) (fun a b => by simp; omega) ks
  exact this.imp fun h => by simpa using h
def sortDI : List D → Option (List D)
  | [.dic kvs] => match intKeys (kvs.map (·.1)) with
    | some ks => if ks.length < 64 then some ((sortI ks).map .int) else none
    | none => none
  | _ => none
def FX.sortD (a : AX τ) : FX τ where
  te := fun Γ W => tCB rSortDI (a.ta Γ W)
  ev := fun env => (a.ev env).bind fun as e1 => match (allD as).bind sortDI with
    | some ds => .ok (.lst ds) e1
    | none => .bad
  ok := fun Γ W io G H σ env s Q h => by
    refine a.ok Γ W io G H σ env s _ ((Out.step h).mono fun as e1 G1 H1 s1 m1 h1 vs rs => ?_)
    split at h1
    · rename_i ds q
      cases q1 : allD as with
      | none => rw [q1] at q; cases q
      | some xs =>
        rw [q1, Option.bind_some] at q
        have r := rs.all q1
        unfold sortDI at q
        split at q
        · rename_i kvs
          split at q
          · rename_i ks hks
            split at q
            · rename_i h64
              cases q
              cases r with
              | cons r1 r2 =>
                cases r2
                cases r1 with
                | @dic p us _ ha hz hk rr =>
                  have rd : Rd H1 p (.dK us) := by
                    rcases s1.ex p _ ha with w | ⟨ob, kv, _, w⟩
                    · exact .inl w
                    · exact .inr ⟨ob, w⟩
                  refine ⟨p, us, ks, rfl, rd, by rw [hk]; exact intKeys_at hks, h64, fun ys l hp hs hl => ?_⟩
                  have ey : ys = sortI ks := PySem.W.ksm_same (hp.trans (sortI_perm ks).symm) hs (sortI_sorted ks)
                  subst ey
                  have hlen : ((sortI ks).map V.int).length ≤ sizeLine := by
                    rw [List.length_map, (sortI_perm ks).length_eq, sizeLine_eq]; omega
                  have rr2 : ∀ l : List Int, Reps Γ.toGm0 G1 (l.map V.int) (l.map D.int) := fun l => by
                    induction l with
                    | nil => exact .nil
                    | cons a l ih => exact .cons (.int a) ih
                  refine h1 _ _ (s1.laid hl) (Mv.laid hl) l (m1.back hl) (s1.ex.free hl) (fun ⟨i, k, o, e, t⟩ => ?_) (.lst upd_same hlen (rr2 _))
                  obtain ⟨b, y1, _, y3, _⟩ := s1.own i k o e
                  rw [t] at y1; cases y1
                  obtain ⟨w, hw⟩ := y3.there
                  rw [hl] at hw; cases hw
            · cases q
          · cases q
        · cases q
    · exact h1.elim
def fBits : D → Option D
  | .int i => some (.int (Builtin.Int.intBits i : Nat))
  | _ => none
def EX.bits (e : EX τ) : EX τ where
  te := fun Γ W => tBits (e.te Γ W)
  ev := ev1 fBits e.ev
  ok := fun Γ W io G H σ env s Q h => by
    refine e.ok Γ W io G H σ env s _ ((Out.step h).mono fun d e1 G1 H1 s1 m1 h1 x rx => ?_)
    cases rx with
    | int i => exact ⟨i, rfl, h1.here s1 _ (.int _)⟩
    | _ => exact h1.elim
end T

/-! X1 -/
/-! X1: errors of classes of one's own: class B(Exception), class C(B) with an __init__ that stores its arguments. -/
namespace PySem
namespace XC
open PySem.W PySem.Calls PyProof.Rows PySem.HandSPX
abbrev tailX : List Value := [.type "Exception", .type "BaseException", .type "object"]
/-- the order of looks of C: C, B, Exception .. -/
abbrev mroX (C B : Addr) : List Value := .ref C :: .ref B :: tailX
theorem mroX_has (C B : Addr) (X : String) : (mroX C B).contains (.type X) = tailX.contains (.type X) := by
  rw [List.contains_cons, List.contains_cons]; rfl
theorem mroX_bm (B : Addr) (X : String) : (Value.ref B :: tailX).contains (.type X) = tailX.contains (.type X) := by
  rw [List.contains_cons]; rfl
section
open Builtin Builtin.ObjectAttr
variable {prog : Program} {w : World} {A : Around} {R : Result → Shared → Prop} {hp : Heap} {g : Array GenState} {d : Drawn} {t : Nat} {os : OsState} {K : W.Frag} {name : Str} {tk : Tok} {v : Value} {x C B : Addr} {cd : ClassData}
/-- object.__setattr__ of such an error comes to the store in its own dict -/
theorem store_way {ox : Obj} {od : Option Obj} (X : K.In hp) (I : W.InstAt hp x ox C od) (hcd : W.clsIn K C = some cd) (hm : cd.mro = mroX C B) (ha : W.findIn K (.ref C) name = some none)
    (hq : wpAny (model prog w) A.in1 (storeInOwnDict (.ref x) (.ref C) (.str name tk) name v false)
      (fun fin s' => match fin with | .done f => R (.ok f) s' | .again c' => c'.quiet = true ∧ codeAny (model prog w) A c' R s') (fun e s' => R (.error e) s') ⟨hp, g, d, t, os⟩) :
    codeAny (model prog w) A (.call (.builtin "object.__setattr__") ⟨[.ref x, .str name tk, v], []⟩) R ⟨hp, g, d, t, os⟩ := by
  have look : W.Looks (model prog w) hp (mroOf (.ref C)) cd.mro := (W.looks_clsIn X hcd).andThen .now
  have isObj : W.mroIn K C (.type "object") = some true := by
    unfold W.mroIn
    rw [hcd, Option.bind_some, hm, if_neg (show ¬ (List.isEmpty (mroX C B) = true) from Bool.false_ne_true), mroX_has]
    rfl
  have inst : W.Looks (model prog w) hp (isInstance (.ref x) (.type "object")) true := I.type.andThen (W.looks_mroIn X isObj)
  have pass : refuseLoop (.ref x) "__setattr__" cd.mro = pure () := by
    rw [hm, refuseLoop_ref, refuseLoop_ref]
    exact F.store_Exception.passes _
  have noTaker : W.Looks (model prog w) hp (storeTaker? none) none := .now
  have S := F.store_object
  refine codeAny_call_builtin S.slot.plain S.entry (@W.check_slot (model prog w) _ _ ⟨hp, g, d, t, os⟩ "object.__setattr__" "object" "__setattr__" (.ref x) [.str name tk, v] [] _ S.kind S.split inst (S.args (.ref x) (.str name tk) v) ?_)
  rw [W.osa_eq, refuse_eq]
  refine wpAny_bind (wpAny_bind (I.type.at (wpAny_bind (look.at ?_))))
  rw [pass]
  exact wpAny_pure (wpAny_bind (I.type.at (wpAny_bind ((W.looks_findIn X ha).at (wpAny_bind (noTaker.at hq))))))
/-- the first field: the error gets its dict -/
theorem store_first {fv : Array Value} (X : K.In hp) (hx : hp.get? x = some { cls := .ref C, data := .fields fv }) (hcd : W.clsIn K C = some cd) (hm : cd.mro = mroX C B) (hh : cd.hasDict = true) (ha : W.findIn K (.ref C) name = some none)
    (hq : ∀ h' tk' dx, (∀ b o, b ≠ x → hp.get? b = some o → h'.get? b = some o) → hp.objs.size ≤ dx → dx ≠ x → h'.get? x = some { cls := .ref C, dict := some dx, data := .fields fv } →
      h'.Ns1 dx (fun y => if y = name then some v else none) → R (.ok (.ret .none)) ⟨h', g, d, tk', os⟩) :
    codeAny (model prog w) A (.call (.builtin "object.__setattr__") ⟨[.ref x, .str name tk, v], []⟩) R ⟨hp, g, d, t, os⟩ := by
  have far : x ≠ hp.objs.size := Nat.ne_of_lt (Heap.lt_size hx)
  have kept : (hp.push { cls := .type "dict", data := .dict #[] }).get? x = some { cls := .ref C, data := .fields fv } := Heap.get?_push_of_some _ hx
  refine store_way X (ox := { cls := .ref C, data := .fields fv }) (od := none) ⟨hx, rfl, rfl, trivial⟩ hcd hm ha ?_
  have look : W.Looks (model prog w) hp (classData C) cd := W.looks_clsIn X hcd
  obtain ⟨z1, z2, z3, z4, z5, hd, z7, z8, z9, z10, z11⟩ := cd
  dsimp only at hh
  subst hh
  unfold storeInOwnDict ownDictForStores
  repeat (first | with_reducible refine HandSPX.store_in_new ?_ ?_ | with_reducible refine wpAny_loadPart_at hx ?_ | with_reducible refine look.at ?_ | wp_step)
  · exact ⟨_, #[], _, (Heap.get?_update_ne _ _ _ _ far.symm).trans (Heap.get?_push_at rfl rfl), rfl, fun e he => absurd he (by simp), fun _ => rfl⟩
  · intro h' tk' ns same
    refine hq h' tk' hp.objs.size (fun b o hb ho => ?_) (Nat.le_refl _) far.symm ((same.2 x far).trans (Heap.get?_update_self _ kept rfl)) ns
    exact (same.2 b (Nat.ne_of_lt (Heap.lt_size ho))).trans ((Heap.get?_update_ne _ _ _ _ hb).trans (Heap.get?_push_of_some _ ho))
/-- a further field -/
theorem store_next {dx : Addr} {fv : Array Value} {m0 : Str → Option Value} {nl : List Str} (X : K.In hp) (hx : hp.get? x = some { cls := .ref C, dict := some dx, data := .fields fv }) (hns : hp.Ns1 dx m0) (hw : Within m0 nl) (hz : nl.length ≤ 1000)
    (hcd : W.clsIn K C = some cd) (hm : cd.mro = mroX C B) (hh : cd.hasDict = true) (ha : W.findIn K (.ref C) name = some none)
    (hq : ∀ h' tk', (∀ b o, b ≠ dx → hp.get? b = some o → h'.get? b = some o) → h'.Ns1 dx (fun y => if y = name then some v else m0 y) → R (.ok (.ret .none)) ⟨h', g, d, tk', os⟩) :
    codeAny (model prog w) A (.call (.builtin "object.__setattr__") ⟨[.ref x, .str name tk, v], []⟩) R ⟨hp, g, d, t, os⟩ := by
  obtain ⟨oD, _, _, at_, _, _⟩ := hns.count hw
  refine store_way X (ox := { cls := .ref C, dict := some dx, data := .fields fv }) (od := some oD) ⟨hx, rfl, rfl, at_⟩ hcd hm ha ?_
  have look : W.Looks (model prog w) hp (classData C) cd := W.looks_clsIn X hcd
  obtain ⟨z1, z2, z3, z4, z5, hd, z7, z8, z9, z10, z11⟩ := cd
  dsimp only at hh
  subst hh
  unfold storeInOwnDict ownDictForStores
  repeat (first | with_reducible refine PySem.ESX.store_in_old hns hw hz ?_ | with_reducible refine wpAny_loadPart_at hx ?_ | with_reducible refine look.at ?_ | wp_step)
  intro h' tk' ns same
  exact hq h' tk' (fun b o hb ho => (same.2 b hb).trans ho) ns
end
end XC
end PySem

/-! T13 -/
/-! T13: the rules of the hand layer, said of the worth-bearing terms. -/
namespace T
open PySem PySem.Spec PyProof.Rows L2
variable {τ : Tab}

/-- a def of the text that is worth F -/
structure FN (P : Program) (w : World) (Γ : Gm0) (mg : Str → Option Value) (base : Heap) (x : Str) (ps : List Str) (k : Nat) (F : List A → Res) : Prop where
  ex : ∃ f fd, mg x = some (.ref f) ∧ PySem.W.keepIn Γ.K (.ref f) = true ∧ Binds Γ.K fd ps [] ∧ FnOk P w Γ.K mg base (L2.CX P w) k f fd ps (spF Γ F)
/-- where a body stands -/
structure Cok (Γ : Gm τ) (W : WX) (k : Nat) (X : Cx) : Prop where
  K : X.K = Γ.K
  tk : Takes X W
  calm : X.calm = true
  room : Room k X.A
  pass : PassesOwn (model X.prog X.w) X.A X.env X.xe
  nd : X.N.Nodup
section
variable {Γ : Gm τ} {W : WX} {k : Nat} {X : Cx} {pos : Pos} {a b c : Expr} {A B C : EX τ}
theorem Cok.hu (o : Cok Γ W k X) : X.A.units + 1 < cLine := hu_of o.room
theorem Cok.blk (o : Cok Γ W k X) {s : Shared} {H : Hp} {scope : Scope} {cenv : Env} {fp : List Addr} : Cok Γ W0 k (X.blk s H scope cenv fp) := ⟨o.K, takes0, o.calm, o.room, PassesOwn.never, o.nd⟩
theorem Cok.tr (o : Cok Γ W k X) {W' : WX} {pn : List (Addr × Obj)} {xe : Value → Shared → Prop} (tk : Takes (X.tr pn xe) W') (p : PassesOwn (model X.prog X.w) X.A X.env xe) : Cok Γ W' k (X.tr pn xe) := ⟨o.K, tk, o.calm, o.room, p, o.nd⟩

theorem q_var (i : Nat) {x : Str} (hN : X.N[i]? = some x := by rfl) (hv : Vis X.env.scope x := by first | exact Or.inl rfl | exact Or.inr (Or.inl rfl) | exact Or.inr (Or.inr rfl)) (hd : (x == ("__debug__" : Str)) = false := by decide)
    (hcd : (x == ("__classdict__" : Str)) = false := by decide) : PE X (.Name x pos) ((EX.var (τ := τ) i).te Γ W) := pe_var hN hv hd hcd
theorem q_non {j} : PE X (.Constant .none j pos) ((EX.non (τ := τ)).te Γ W) := pe_non
theorem q_bl {v j} : PE X (.Constant (.bool v) j pos) ((EX.bl (τ := τ) v).te Γ W) := pe_bl
theorem q_int {v j} : PE X (.Constant (.int v) j pos) ((EX.int (τ := τ) v).te Γ W) := pe_int
theorem q_str {v j} : PE X (.Constant (.str v) j pos) ((EX.str (τ := τ) v).te Γ W) := pe_str
theorem q_glob {x : Str} {u : Value} (hm : X.mg x = some u) (r : RelV (Γ.gv x) u) (hg : Gl X x := by rfl) (hd : (x == ("__debug__" : Str)) = false := by decide) : PE X (.Name x pos) ((EX.glob (τ := τ) x).te Γ W) := pe_glob hg hm r hd
theorem q_add (o : Cok Γ W k X) (ha : PE X a (A.te Γ W)) (hb : PE X b (B.te Γ W)) : PE X (.BinOp a .Add b pos) ((EX.add A B).te Γ W) := pe_op (r := rAddA Γ.K) (by rw [← o.K]; exact op_addA) ha hb
theorem q_sub (ha : PE X a (A.te Γ W)) (hb : PE X b (B.te Γ W)) : PE X (.BinOp a .Sub b pos) ((EX.sub A B).te Γ W) := pe_op op_sub ha hb
theorem q_mul (ha : PE X a (A.te Γ W)) (hb : PE X b (B.te Γ W)) : PE X (.BinOp a .Mult b pos) ((EX.mul A B).te Γ W) := pe_op op_mulW ha hb
theorem q_fdiv (ha : PE X a (A.te Γ W)) (hb : PE X b (B.te Γ W)) : PE X (.BinOp a .FloorDiv b pos) ((EX.fdiv A B).te Γ W) := pe_op op_fdivW ha hb
theorem q_mod (ha : PE X a (A.te Γ W)) (hb : PE X b (B.te Γ W)) : PE X (.BinOp a .Mod b pos) ((EX.mod A B).te Γ W) := pe_op op_mod ha hb
theorem q_pow (ha : PE X a (A.te Γ W)) (hb : PE X b (B.te Γ W)) : PE X (.BinOp a .Pow b pos) ((EX.pow A B).te Γ W) := pe_op op_pow ha hb
theorem q_neg (ha : PE X a (A.te Γ W)) : PE X (.UnaryOp .USub a pos) ((EX.neg A).te Γ W) := pe_un (r := rU fun i => .int (-i)) un_neg ha
theorem q_lt (ha : PE X a (A.te Γ W)) (hb : PE X b (B.te Γ W)) : PE X (.Compare a [.Lt] [b] pos) ((EX.lt A B).te Γ W) := pe_cmpR op_lt ha hb (nomark _)
theorem q_le (ha : PE X a (A.te Γ W)) (hb : PE X b (B.te Γ W)) : PE X (.Compare a [.LtE] [b] pos) ((EX.le A B).te Γ W) := pe_cmpR op_le ha hb (nomark _)
theorem q_gt (ha : PE X a (A.te Γ W)) (hb : PE X b (B.te Γ W)) : PE X (.Compare a [.Gt] [b] pos) ((EX.gt A B).te Γ W) := pe_cmpR op_gt ha hb (nomark _)
theorem q_ge (ha : PE X a (A.te Γ W)) (hb : PE X b (B.te Γ W)) : PE X (.Compare a [.GtE] [b] pos) ((EX.ge A B).te Γ W) := pe_cmpR op_ge ha hb (nomark _)
theorem q_eq (o : Cok Γ W k X) (ha : PE X a (A.te Γ W)) (hb : PE X b (B.te Γ W)) : PE X (.Compare a [.Eq] [b] pos) ((EX.eq A B).te Γ W) := pe_cmpR (r := rEqD Γ.K) (by rw [← o.K]; exact op_eqD o.room.units) ha hb (nomark _)
theorem q_ne (o : Cok Γ W k X) (ha : PE X a (A.te Γ W)) (hb : PE X b (B.te Γ W)) : PE X (.Compare a [.NotEq] [b] pos) ((EX.ne A B).te Γ W) := pe_cmpR (r := rNeD Γ.K) (by rw [← o.K]; exact op_neD o.room.units) ha hb (nomark _)
theorem q_isN (ha : PE X a (A.te Γ W)) (hb : PE X b (B.te Γ W)) : PE X (.Compare a [.Is] [b] pos) ((EX.isN A B).te Γ W) := pe_cmpR (r := rIsN) op_isN ha hb (nomark _)
theorem q_notN (ha : PE X a (A.te Γ W)) (hb : PE X b (B.te Γ W)) : PE X (.Compare a [.IsNot] [b] pos) ((EX.notN A B).te Γ W) := pe_cmpR (r := rNotN) op_notN ha hb (nomark _)
theorem q_isin (o : Cok Γ W k X) (ha : PE X a (A.te Γ W)) (hb : PE X b (B.te Γ W)) (hm : behindInMarks .In b = false := by with_unfolding_all rfl) : PE X (.Compare a [.In] [b] pos) ((EX.isin A B).te Γ W) := pe_cmpR (r := rIn Γ.K false) (by rw [← o.K]; exact op_in_seq) ha hb hm
theorem q_notin (o : Cok Γ W k X) (ha : PE X a (A.te Γ W)) (hb : PE X b (B.te Γ W)) (hm : behindInMarks .NotIn b = false := by with_unfolding_all rfl) : PE X (.Compare a [.NotIn] [b] pos) ((EX.notin A B).te Γ W) := pe_cmpR (r := rIn Γ.K true) (by rw [← o.K]; exact op_notIn_seq) ha hb hm
theorem q_inO (o : Cok Γ W k X) {i : Nat} (ha : PE X a (A.te Γ W)) (hb : PE X b (tVar i)) (hm : behindInMarks .In b = false := by with_unfolding_all rfl) : PE X (.Compare a [.In] [b] pos) ((EX.inO false A i).te Γ W) := pe_cmpR (r := rIn Γ.K false) (by rw [← o.K]; exact op_in_seq) ha hb hm
theorem q_ninO (o : Cok Γ W k X) {i : Nat} (ha : PE X a (A.te Γ W)) (hb : PE X b (tVar i)) (hm : behindInMarks .NotIn b = false := by with_unfolding_all rfl) : PE X (.Compare a [.NotIn] [b] pos) ((EX.inO true A i).te Γ W) := pe_cmpR (r := rIn Γ.K true) (by rw [← o.K]; exact op_notIn_seq) ha hb hm
theorem q_din (o : Cok Γ W k X) (ha : PE X a (A.te Γ W)) (hb : PE X b (B.te Γ W)) (hm : behindInMarks .In b = false := by with_unfolding_all rfl) : PE X (.Compare a [.In] [b] pos) ((EX.din A B).te Γ W) := pe_cmp (pc_din o.hu ha hb) hm
theorem q_dnin (o : Cok Γ W k X) (ha : PE X a (A.te Γ W)) (hb : PE X b (B.te Γ W)) (hm : behindInMarks .NotIn b = false := by with_unfolding_all rfl) : PE X (.Compare a [.NotIn] [b] pos) ((EX.dnin A B).te Γ W) := pe_cmp (pc_dnotin o.hu ha hb) hm
theorem q_dinO (o : Cok Γ W k X) {i : Nat} (ha : PE X a (A.te Γ W)) (hb : PE X b (tVar i)) (hm : behindInMarks .In b = false := by with_unfolding_all rfl) : PE X (.Compare a [.In] [b] pos) ((EX.dinO A i).te Γ W) := pe_cmp (pc_din o.hu ha hb) hm
theorem q_dninO (o : Cok Γ W k X) {i : Nat} (ha : PE X a (A.te Γ W)) (hb : PE X b (tVar i)) (hm : behindInMarks .NotIn b = false := by with_unfolding_all rfl) : PE X (.Compare a [.NotIn] [b] pos) ((EX.dninO A i).te Γ W) := pe_cmp (pc_dnotin o.hu ha hb) hm
theorem q_leLt (ha : PE X a (A.te Γ W)) (hb : PE X b (B.te Γ W)) (hc : PE X c (C.te Γ W)) (hm : lastMarks [.LtE, .Lt] [b, c] = false := by with_unfolding_all rfl) : PE X (.Compare a [.LtE, .Lt] [b, c] pos) ((EX.leLt A B C).te Γ W) := pe_chain op_le op_lt ha hb hc hm
theorem q_leLe (ha : PE X a (A.te Γ W)) (hb : PE X b (B.te Γ W)) (hc : PE X c (C.te Γ W)) (hm : lastMarks [.LtE, .LtE] [b, c] = false := by with_unfolding_all rfl) : PE X (.Compare a [.LtE, .LtE] [b, c] pos) ((EX.leLe A B C).te Γ W) := pe_chain op_le op_le ha hb hc hm
theorem q_idx (o : Cok Γ W k X) (ha : PE X a (A.te Γ W)) (hb : PE X b (B.te Γ W)) (hs : PlainIx b := by exact fun _ _ => rfl) : PE X (.Subscript a b pos) ((EX.idx A B).te Γ W) := pe_ix (r := rIx Γ.K) (by rw [← o.K]; exact ix_seq) ha hb hs
theorem q_idxO (o : Cok Γ W k X) {i : Nat} (ha : PE X a (tVar i)) (hb : PE X b (B.te Γ W)) (hs : PlainIx b := by exact fun _ _ => rfl) : PE X (.Subscript a b pos) ((EX.idxO i B).te Γ W) := pe_ix (r := rIx Γ.K) (by rw [← o.K]; exact ix_seq) ha hb hs
theorem q_dget (o : Cok Γ W k X) (ha : PE X a (A.te Γ W)) (hb : PE X b (B.te Γ W)) (hs : NoSl b := by exact fun _ _ => rfl) : PE X (.Subscript a b pos) ((EX.dget A B).te Γ W) := pe_dget o.hu ha hb hs
theorem q_dgetO (o : Cok Γ W k X) {i : Nat} (ha : PE X a (tVar i)) (hb : PE X b (B.te Γ W)) (hs : NoSl b := by exact fun _ _ => rfl) : PE X (.Subscript a b pos) ((EX.dgetO i B).te Γ W) := pe_dget o.hu ha hb hs
theorem q_and1 (ha : PE X a (A.te Γ W)) : PE X (.BoolOp .And [a] pos) (A.te Γ W) := pe_one ha
theorem q_or1 (ha : PE X a (A.te Γ W)) : PE X (.BoolOp .Or [a] pos) (A.te Γ W) := pe_one ha
theorem q_and {rest : List Expr} (ha : PE X a (A.te Γ W)) (hb : PE X (.BoolOp .And (b :: rest) pos) (B.te Γ W)) : PE X (.BoolOp .And (a :: b :: rest) pos) ((EX.andV A B).te Γ W) := pe_and ha hb
theorem q_or {rest : List Expr} (ha : PE X a (A.te Γ W)) (hb : PE X (.BoolOp .Or (b :: rest) pos) (B.te Γ W)) : PE X (.BoolOp .Or (a :: b :: rest) pos) ((EX.orV A B).te Γ W) := pe_or ha hb
theorem q_not (ha : PE X a (A.te Γ W)) : PE X (.UnaryOp .Not a pos) ((EX.notV A).te Γ W) := pe_not ha
theorem q_ife {T1 : TX τ} (hc : PT X c (T1.tt Γ W)) (ha : PE X a (A.te Γ W)) (hb : PE X b (B.te Γ W)) : PE X (.IfExp c a b pos) ((EX.ife T1 A B).te Γ W) := pe_ifExp hc ha hb
/-! tests -/
theorem q_tst (h : PE X a (A.te Γ W)) (he : ∀ whole, isTrue a X.env whole = (do let v ← whole; standAt a.pos; holding [v] (truthy v)) := by intro _; rfl) : PT X a ((TX.ofE A).tt Γ W) := pt_val h he
variable {T1 T2 : TX τ} {rest : List Expr}
theorem q_tand1 (ha : PT X a (T1.tt Γ W)) : PW X (.BoolOp .And [a] pos) (T1.tt Γ W) := pw_and1 ha
theorem q_tor1 (ha : PT X a (T1.tt Γ W)) : PW X (.BoolOp .Or [a] pos) (T1.tt Γ W) := pw_or1 ha
theorem q_tand (ha : PT X a (T1.tt Γ W)) (hb : PW X (.BoolOp .And (b :: rest) pos) (T2.tt Γ W)) : PW X (.BoolOp .And (a :: b :: rest) pos) ((TX.and T1 T2).tt Γ W) := pw_and ha hb
theorem q_tor (ha : PT X a (T1.tt Γ W)) (hb : PW X (.BoolOp .Or (b :: rest) pos) (T2.tt Γ W)) : PW X (.BoolOp .Or (a :: b :: rest) pos) ((TX.or T1 T2).tt Γ W) := pw_or ha hb
theorem q_tnot (ha : PT X a (T1.tt Γ W)) : PT X (.UnaryOp .Not a pos) ((TX.not T1).tt Γ W) := pt_not ha
/-! comparisons as tests -/
theorem q_tlt (ha : PE X a (A.te Γ W)) (hb : PE X b (B.te Γ W)) : PT X (.Compare a [.Lt] [b] pos) ((TX.ofE (EX.lt A B)).tt Γ W) := pt_cmpR op_lt ha hb (nomark _)
theorem q_tle (ha : PE X a (A.te Γ W)) (hb : PE X b (B.te Γ W)) : PT X (.Compare a [.LtE] [b] pos) ((TX.ofE (EX.le A B)).tt Γ W) := pt_cmpR op_le ha hb (nomark _)
theorem q_tgt (ha : PE X a (A.te Γ W)) (hb : PE X b (B.te Γ W)) : PT X (.Compare a [.Gt] [b] pos) ((TX.ofE (EX.gt A B)).tt Γ W) := pt_cmpR op_gt ha hb (nomark _)
theorem q_tge (ha : PE X a (A.te Γ W)) (hb : PE X b (B.te Γ W)) : PT X (.Compare a [.GtE] [b] pos) ((TX.ofE (EX.ge A B)).tt Γ W) := pt_cmpR op_ge ha hb (nomark _)
theorem q_teq (o : Cok Γ W k X) (ha : PE X a (A.te Γ W)) (hb : PE X b (B.te Γ W)) : PT X (.Compare a [.Eq] [b] pos) ((TX.ofE (EX.eq A B)).tt Γ W) := pt_cmpR (r := rEqD Γ.K) (by rw [← o.K]; exact op_eqD o.room.units) ha hb (nomark _)
theorem q_tne (o : Cok Γ W k X) (ha : PE X a (A.te Γ W)) (hb : PE X b (B.te Γ W)) : PT X (.Compare a [.NotEq] [b] pos) ((TX.ofE (EX.ne A B)).tt Γ W) := pt_cmpR (r := rNeD Γ.K) (by rw [← o.K]; exact op_neD o.room.units) ha hb (nomark _)
theorem q_tisN (ha : PE X a (A.te Γ W)) (hb : PE X b (B.te Γ W)) : PT X (.Compare a [.Is] [b] pos) ((TX.ofE (EX.isN A B)).tt Γ W) := pt_cmpR (r := rIsN) op_isN ha hb (nomark _)
theorem q_tnotN (ha : PE X a (A.te Γ W)) (hb : PE X b (B.te Γ W)) : PT X (.Compare a [.IsNot] [b] pos) ((TX.ofE (EX.notN A B)).tt Γ W) := pt_cmpR (r := rNotN) op_notN ha hb (nomark _)
theorem q_tisin (o : Cok Γ W k X) (ha : PE X a (A.te Γ W)) (hb : PE X b (B.te Γ W)) (hm : behindInMarks .In b = false := by with_unfolding_all rfl) : PT X (.Compare a [.In] [b] pos) ((TX.ofE (EX.isin A B)).tt Γ W) := pt_cmpR (r := rIn Γ.K false) (by rw [← o.K]; exact op_in_seq) ha hb hm
theorem q_tnotin (o : Cok Γ W k X) (ha : PE X a (A.te Γ W)) (hb : PE X b (B.te Γ W)) (hm : behindInMarks .NotIn b = false := by with_unfolding_all rfl) : PT X (.Compare a [.NotIn] [b] pos) ((TX.ofE (EX.notin A B)).tt Γ W) := pt_cmpR (r := rIn Γ.K true) (by rw [← o.K]; exact op_notIn_seq) ha hb hm
theorem q_tinO (o : Cok Γ W k X) {i : Nat} (ha : PE X a (A.te Γ W)) (hb : PE X b (tVar i)) (hm : behindInMarks .In b = false := by with_unfolding_all rfl) : PT X (.Compare a [.In] [b] pos) ((TX.ofE (EX.inO false A i)).tt Γ W) := pt_cmpR (r := rIn Γ.K false) (by rw [← o.K]; exact op_in_seq) ha hb hm
theorem q_tninO (o : Cok Γ W k X) {i : Nat} (ha : PE X a (A.te Γ W)) (hb : PE X b (tVar i)) (hm : behindInMarks .NotIn b = false := by with_unfolding_all rfl) : PT X (.Compare a [.NotIn] [b] pos) ((TX.ofE (EX.inO true A i)).tt Γ W) := pt_cmpR (r := rIn Γ.K true) (by rw [← o.K]; exact op_notIn_seq) ha hb hm
theorem q_tdin (o : Cok Γ W k X) (ha : PE X a (A.te Γ W)) (hb : PE X b (B.te Γ W)) (hm : behindInMarks .In b = false := by with_unfolding_all rfl) : PT X (.Compare a [.In] [b] pos) ((TX.ofE (EX.din A B)).tt Γ W) := pt_cmp (pc_din o.hu ha hb) hm
theorem q_tdnin (o : Cok Γ W k X) (ha : PE X a (A.te Γ W)) (hb : PE X b (B.te Γ W)) (hm : behindInMarks .NotIn b = false := by with_unfolding_all rfl) : PT X (.Compare a [.NotIn] [b] pos) ((TX.ofE (EX.dnin A B)).tt Γ W) := pt_cmp (pc_dnotin o.hu ha hb) hm
theorem q_tdinO (o : Cok Γ W k X) {i : Nat} (ha : PE X a (A.te Γ W)) (hb : PE X b (tVar i)) (hm : behindInMarks .In b = false := by with_unfolding_all rfl) : PT X (.Compare a [.In] [b] pos) ((TX.ofE (EX.dinO A i)).tt Γ W) := pt_cmp (pc_din o.hu ha hb) hm
theorem q_tdninO (o : Cok Γ W k X) {i : Nat} (ha : PE X a (A.te Γ W)) (hb : PE X b (tVar i)) (hm : behindInMarks .NotIn b = false := by with_unfolding_all rfl) : PT X (.Compare a [.NotIn] [b] pos) ((TX.ofE (EX.dninO A i)).tt Γ W) := pt_cmp (pc_dnotin o.hu ha hb) hm
theorem q_tleLt (ha : PE X a (A.te Γ W)) (hb : PE X b (B.te Γ W)) (hc : PE X c (C.te Γ W)) (hm : lastMarks [.LtE, .Lt] [b, c] = false := by with_unfolding_all rfl) : PT X (.Compare a [.LtE, .Lt] [b, c] pos) ((TX.ofE (EX.leLt A B C)).tt Γ W) := pt_chain op_le op_lt ha hb hc hm
theorem q_tleLe (ha : PE X a (A.te Γ W)) (hb : PE X b (B.te Γ W)) (hc : PE X c (C.te Γ W)) (hm : lastMarks [.LtE, .LtE] [b, c] = false := by with_unfolding_all rfl) : PT X (.Compare a [.LtE, .LtE] [b, c] pos) ((TX.ofE (EX.leLe A B C)).tt Γ W) := pt_chain op_le op_le ha hb hc hm
/-! arguments -/
variable {es : List Expr} {M : AX τ}
theorem q_nil : PA X [] ((AX.nil (τ := τ)).ta Γ W) := pa_nil
theorem q_cons (ha : PE X a (A.te Γ W)) (hr : PA X es (M.ta Γ W)) (hs : starEach (a :: es) X.env = (false, eval a X.env) :: starEach es X.env := by rfl) : PA X (a :: es) ((AX.cons A M).ta Γ W) := pa_cons ha hr hs
theorem q_lend {i : Nat} (ha : PE X a (tVar i)) (hr : PA X es (M.ta Γ W)) (hs : starEach (a :: es) X.env = (false, eval a X.env) :: starEach es X.env := by rfl) : PA X (a :: es) ((AX.lend i M).ta Γ W) := pa_cons ha hr hs
theorem q_tup {x1} (h : PA X es (M.ta Γ W)) : PE X (.Tuple es x1 pos) ((EX.tup M).te Γ W) := pe_tup h
theorem q_lst (h : PA X es (M.ta Γ W)) : PE X (.List es pos) ((FX.lst M).te Γ W) := pe_lst h
theorem q_ofF {F : FX τ} (h : PE X a (F.te Γ W)) : PE X a ((EX.ofF F).te Γ W) := h
theorem q_dnew : PE X (.Dict [] [] pos) ((FX.dnew (τ := τ)).te Γ W) := pe_dnewK
/-! calls -/
theorem q_call {x : Str} {ps : List Str} {k' : Nat} {F : List T.A → Res} {p : Pos} (o : Cok Γ W k X) (G : FN X.prog X.w Γ.toGm0 X.mg X.base x ps k' F) (hk : k' ≤ k) (ha : PA X (a :: es) (M.ta Γ W)) (hg : Gl X x := by rfl) (hdb : (x == ("__debug__" : Str)) = false := by decide)
    (he : starEach (a :: es) X.env = (false, eval a X.env) :: starEach es X.env := by rfl) (hpl : (backTo pos (starEach es X.env)).any (·.1) = false := by rfl) : PE X (.Call (.Name x p) (a :: es) [] pos) ((EX.call F M).te Γ W) := by
  obtain ⟨f, fd, h1, h2, h3, h4⟩ := G.ex
  rw [← o.K] at h2 h3 h4
  exact pe_callS h4 (o.room.mono hk) hg h1 h2 h3 (fun σ => passAt o.tk σ) ha hdb he hpl
theorem q_callF {x : Str} {ps : List Str} {k' : Nat} {F : List T.A → Res} {p : Pos} (o : Cok Γ W k X) (G : FN X.prog X.w Γ.toGm0 X.mg X.base x ps k' F) (hk : k' ≤ k) (ha : PA X (a :: es) (M.ta Γ W)) (hg : Gl X x := by rfl) (hdb : (x == ("__debug__" : Str)) = false := by decide)
    (he : starEach (a :: es) X.env = (false, eval a X.env) :: starEach es X.env := by rfl) (hpl : (backTo pos (starEach es X.env)).any (·.1) = false := by rfl) : PE X (.Call (.Name x p) (a :: es) [] pos) ((FX.call F M).te Γ W) := by
  obtain ⟨f, fd, h1, h2, h3, h4⟩ := G.ex
  rw [← o.K] at h2 h3 h4
  exact pe_callS h4 (o.room.mono hk) hg h1 h2 h3 (fun σ => passAt o.tk σ) ha hdb he hpl
/-- C(..): where a class of the text stands -/
structure MkN (P : Program) (w : World) (Γ : Gm0) (mg : Str → Option Value) (base : Heap) (x : Str) (c : Nat) (ps : List Str) (k : Nat) (F : List T.A → Res) : Prop where
  cls_at : mg x = some (.ref (Γ.cl c))
  ex : ∃ f fd, Mk Γ.K (Γ.cl c) f ∧ Binds Γ.K fd ps [] ∧ FnOk P w Γ.K mg base (L2.CX P w) k f fd ps (spF Γ F)
theorem q_make {x : Str} {ps : List Str} {k' n : Nat} {F : List T.A → Res} {p : Pos} (o : Cok Γ W k X) (G : MkN X.prog X.w Γ.toGm0 X.mg X.base x n ps k' F) (hk : k' + 1 ≤ k) (ha : PA X (a :: es) (M.ta Γ W)) (hg : Gl X x := by rfl) (hdb : (x == ("__debug__" : Str)) = false := by decide)
    (he : starEach (a :: es) X.env = (false, eval a X.env) :: starEach es X.env := by rfl) (hpl : (backTo pos (starEach es X.env)).any (·.1) = false := by rfl) : PE X (.Call (.Name x p) (a :: es) [] pos) ((FX.make n F M).te Γ W) := by
  obtain ⟨f, fd, mk, hb, fo⟩ := G.ex
  rw [← o.K] at mk hb fo
  refine ⟨fun pins s σ H Q I h => ?_⟩
  refine wpAny_Call_Name_kw (ld_glob I hg G.cls_at ?_ hdb)
  refine PySem.W.callWith_K (h₀ := X.base) I.ok.mod.kin mk.kp (thn (ha.run pos pins s σ H _ I h) fun us s1 ⟨vs, H1, I1, r, q⟩ => ⟨I1.kIn, ?_⟩) he hpl
  have q1 := q (s1.heap.objs.size + 1) s1.heap.objs.size (I1.hok.fresh (Nat.le_succ _)) (I1.hok.fresh (Nat.le_refl _)) (Nat.ne_of_lt (Nat.lt_succ_self _))
  have I2 := Inv.made (C := Γ.cl n) I1
  have r2 : Vals (V.ref (s1.heap.objs.size + 1) :: vs) (Value.ref (s1.heap.objs.size + 1) :: us) := .cons rfl r
  have hl : (Value.ref (s1.heap.objs.size + 1) :: us).length = ps.length := by
    have e := r2.length
    rw [fo.len _ _ _ _ q1] at e
    exact e.symm
  have b := hb _ (Value.ref (s1.heap.objs.size + 1) :: us) I2.kIn (by rw [List.append_nil]; exact hl)
  rw [List.append_nil] at b
  have room : Room (k' + 1) X.A := o.room.mono hk
  refine wpAny_call (make_map (f := f) I1.kIn mk.makes mk.init (beq_iff_eq.mp mk.fn) (codeAny_mono (fo.run _ X.stack _ _ ⟨Value.ref (s1.heap.objs.size + 1) :: us, []⟩ _ _ _ _ (room.make (Γ.cl n) us []) (I2.env0.make (Γ.cl n) us []) b r2 q1) fun r s' hq' => ?_))
  cases r with
  | error e => exact passAt o.tk σ pins _ _ e s' I2 hq'
  | ok fl =>
    cases fl with
    | ret u =>
      obtain ⟨v, H', I3, rv, ev, q3⟩ := I2.after hq'
      subst ev
      exact ⟨rv, ⟨V.ref (s1.heap.objs.size + 1), H', I3, rfl, q3⟩⟩
    | next => exact False.elim hq'
    | brk => exact False.elim hq'
    | cont => exact False.elim hq'
/-- e.f -/
theorem q_fld {f : Str} (o : Cok Γ W k X) (ha : PE X a (A.te Γ W)) (hb : attributeBase a f X.env (eval a X.env) = eval a X.env := by rfl) : PE X (.Attribute a f pos) ((EX.fld f A).te Γ W) := by
  have h := pe_fld (f := f) (pos := pos) ha hb
  rw [o.K] at h
  exact h
structure PrN (P : Program) (w : World) (Γ : Gm0) (mg : Str → Option Value) (base : Heap) (f : Str) (c : Nat) (k : Nat) (F : List T.A → Res) : Prop where
  ex : ∃ p g fd, Cls Γ.K (Γ.cl c) ∧ PropOf Γ.K (Γ.cl c) f p g ∧ Binds Γ.K fd ["self"] [] ∧ FnOk P w Γ.K mg base (L2.CX P w) k g fd ["self"] (spF Γ F)
theorem q_prop {f : Str} {k' n : Nat} {F : List T.A → Res} (o : Cok Γ W k X) (G : PrN X.prog X.w Γ.toGm0 X.mg X.base f n k' F) (hk : k' + 1 ≤ k) (ha : PE X a (A.te Γ W)) (hb : attributeBase a f X.env (eval a X.env) = eval a X.env := by rfl) : PE X (.Attribute a f pos) ((EX.prop n F A).te Γ W) := by
  obtain ⟨p, g, fd, h1, h2, h3, h4⟩ := G.ex
  rw [← o.K] at h1 h2 h3 h4
  exact pe_prop ha h1 h2 h4 (o.room.mono hk) h3 .nil passL hb
end

/-- the built-ins' names that the text leaves alone -/
structure Blt (mg : Str → Option Value) : Prop where
  len : mg "len" = none
  range : mg "range" = none
  isinstance : mg "isinstance" = none
  enumerate : mg "enumerate" = none
  tuple : mg "tuple" = none
  list : mg "list" = none
  int : mg "int" = none
  bool : mg "bool" = none
  str : mg "str" = none
  abs : mg "abs" = none
  min : mg "min" = none
  max : mg "max" = none
  any : mg "any" = none
  all : mg "all" = none
  sorted : mg "sorted" = none
  reversed : mg "reversed" = none
  sum : mg "sum" = none
  zip : mg "zip" = none
  set : mg "set" = none
section
variable {Γ : Gm τ} {W : WX} {k : Nat} {X : Cx} {pos p : Pos} {a : Expr} {es : List Expr} {A : EX τ} {M : AX τ}
theorem q_len (o : Cok Γ W k X) (B : Blt X.mg) (ha : PA X [a] (M.ta Γ W)) (hg : Gl X "len" := by rfl) (he : starEach (a :: []) X.env = (false, eval a X.env) :: starEach [] X.env := by rfl) (hpl : (backTo pos (starEach ([] : List Expr) X.env)).any (·.1) = false := by rfl) : PE X (.Call (.Name "len" p) [a] [] pos) ((EX.len M).te Γ W) :=
  pe_callB (r := rLenA Γ.K) (by rw [← o.K]; exact call_len) hg B.len PySem.boot_len ha (he := he) (hpl := hpl)
theorem q_lenO (o : Cok Γ W k X) (B : Blt X.mg) {i : Nat} (ha : PE X a (tVar i)) (hg : Gl X "len" := by rfl) (hs : starEach [a] X.env = (false, eval a X.env) :: starEach [] X.env := by rfl) (hpl : (backTo pos (starEach ([] : List Expr) X.env)).any (·.1) = false := by rfl) : PE X (.Call (.Name "len" p) [a] [] pos) ((EX.lenO (τ := τ) i).te Γ W) :=
  pe_callB (r := rLenA Γ.K) (by rw [← o.K]; exact call_len) hg B.len PySem.boot_len (pa_cons ha pa_nil hs) (he := hs) (hpl := hpl)
theorem q_abs (B : Blt X.mg) (ha : PA X [a] (M.ta Γ W)) (hg : Gl X "abs" := by rfl) (he : starEach (a :: ([] : List Expr)) X.env = (false, eval a X.env) :: starEach ([] : List Expr) X.env := by rfl) (hpl : (backTo pos (starEach ([] : List Expr) X.env)).any (·.1) = false := by rfl) : PE X (.Call (.Name "abs" p) [a] [] pos) ((EX.abs M).te Γ W) := pe_callB (r := rAbs) call_abs hg B.abs (by decide +kernel) ha (he := he) (hpl := hpl)
theorem q_int1 (B : Blt X.mg) (ha : PA X [a] (M.ta Γ W)) (hg : Gl X "int" := by rfl) (he : starEach (a :: ([] : List Expr)) X.env = (false, eval a X.env) :: starEach ([] : List Expr) X.env := by rfl) (hpl : (backTo pos (starEach ([] : List Expr) X.env)).any (·.1) = false := by rfl) : PE X (.Call (.Name "int" p) [a] [] pos) ((EX.int1 M).te Γ W) := pe_callTy (r := rInt1) call_int1 hg B.int (by decide +kernel) ha (he := he) (hpl := hpl)
theorem q_min2 {b : Expr} (o : Cok Γ W k X) (B : Blt X.mg) (ha : PA X [a, b] (M.ta Γ W)) (hg : Gl X "min" := by rfl) (he : starEach (a :: [b]) X.env = (false, eval a X.env) :: starEach [b] X.env := by rfl) (hpl : (backTo pos (starEach [b] X.env)).any (·.1) = false := by rfl) : PE X (.Call (.Name "min" p) [a, b] [] pos) ((EX.min2 M).te Γ W) := pe_callB (r := rMin2) (call_min2 o.calm) hg B.min (by decide +kernel) ha (he := he) (hpl := hpl)
theorem q_max2 {b : Expr} (o : Cok Γ W k X) (B : Blt X.mg) (ha : PA X [a, b] (M.ta Γ W)) (hg : Gl X "max" := by rfl) (he : starEach (a :: [b]) X.env = (false, eval a X.env) :: starEach [b] X.env := by rfl) (hpl : (backTo pos (starEach [b] X.env)).any (·.1) = false := by rfl) : PE X (.Call (.Name "max" p) [a, b] [] pos) ((EX.max2 M).te Γ W) := pe_callB (r := rMax2) (call_max2 o.calm) hg B.max (by decide +kernel) ha (he := he) (hpl := hpl)
theorem q_gcd {b : Expr} (hm : X.mg "gcd" = some (.builtin "math.gcd")) (ha : PA X [a, b] (M.ta Γ W)) (hg : Gl X "gcd" := by rfl) (he : starEach (a :: [b]) X.env = (false, eval a X.env) :: starEach [b] X.env := by rfl) (hpl : (backTo pos (starEach [b] X.env)).any (·.1) = false := by rfl) : PE X (.Call (.Name "gcd" p) [a, b] [] pos) ((EX.gcd M).te Γ W) := pe_callBfun (r := rGcd) cr_gcd hg hm ha (he := he) (hpl := hpl)
theorem q_any (o : Cok Γ W k X) (B : Blt X.mg) (ha : PA X [a] (M.ta Γ W)) (hg : Gl X "any" := by rfl) (he : starEach (a :: ([] : List Expr)) X.env = (false, eval a X.env) :: starEach ([] : List Expr) X.env := by rfl) (hpl : (backTo pos (starEach ([] : List Expr) X.env)).any (·.1) = false := by rfl) : PE X (.Call (.Name "any" p) [a] [] pos) ((EX.any M).te Γ W) := pe_callB (r := rAny Γ.K) (by rw [← o.K]; exact cr_any o.calm) hg B.any (by decide +kernel) ha (he := he) (hpl := hpl)
theorem q_all (o : Cok Γ W k X) (B : Blt X.mg) (ha : PA X [a] (M.ta Γ W)) (hg : Gl X "all" := by rfl) (he : starEach (a :: ([] : List Expr)) X.env = (false, eval a X.env) :: starEach ([] : List Expr) X.env := by rfl) (hpl : (backTo pos (starEach ([] : List Expr) X.env)).any (·.1) = false := by rfl) : PE X (.Call (.Name "all" p) [a] [] pos) ((EX.all M).te Γ W) := pe_callB (r := rAll Γ.K) (by rw [← o.K]; exact cr_all o.calm) hg B.all (by decide +kernel) ha (he := he) (hpl := hpl)
theorem q_tupOf (o : Cok Γ W k X) (B : Blt X.mg) (ha : PA X [a] (M.ta Γ W)) (hg : Gl X "tuple" := by rfl) (he : starEach (a :: ([] : List Expr)) X.env = (false, eval a X.env) :: starEach ([] : List Expr) X.env := by rfl) (hpl : (backTo pos (starEach ([] : List Expr) X.env)).any (·.1) = false := by rfl) : PE X (.Call (.Name "tuple" p) [a] [] pos) ((EX.tupOf M).te Γ W) := pe_callTy (r := rTupOf Γ.K) (by rw [← o.K]; exact call_tuple_of) hg B.tuple (by decide +kernel) ha (he := he) (hpl := hpl)
theorem q_lstOf (o : Cok Γ W k X) (B : Blt X.mg) (ha : PA X [a] (M.ta Γ W)) (hg : Gl X "list" := by rfl) (he : starEach (a :: ([] : List Expr)) X.env = (false, eval a X.env) :: starEach ([] : List Expr) X.env := by rfl) (hpl : (backTo pos (starEach ([] : List Expr) X.env)).any (·.1) = false := by rfl) : PE X (.Call (.Name "list" p) [a] [] pos) ((FX.lstOf M).te Γ W) := pe_callTy (r := rLstOf Γ.K) (by rw [← o.K]; exact call_list_of) hg B.list (by decide +kernel) ha (he := he) (hpl := hpl)
theorem q_sortD (o : Cok Γ W k X) (B : Blt X.mg) (ha : PA X [a] (M.ta Γ W)) (hg : Gl X "sorted" := by rfl) (he : starEach (a :: ([] : List Expr)) X.env = (false, eval a X.env) :: starEach ([] : List Expr) X.env := by rfl) (hpl : (backTo pos (starEach ([] : List Expr) X.env)).any (·.1) = false := by rfl) : PE X (.Call (.Name "sorted" p) [a] [] pos) ((FX.sortD M).te Γ W) := pe_callB (r := rSortDI) (call_sortedDI o.calm) hg B.sorted (by decide +kernel) ha (he := he) (hpl := hpl)
/-- a built-in class as a value -/
theorem q_ty {x : Str} {n : String} (hm : X.mg x = none) (hv : bootBuiltins x = some (.type n)) (hg : Gl X x := by rfl) (hn : x ≠ "__name__" := by decide) (hd : (x == ("__debug__" : Str)) = false := by decide) : PE X (.Name x pos) (tC (.ty n)) := pe_bltn hg hm hv rfl hn hd
theorem q_isi {b : Expr} {ty : String} (o : Cok Γ W k X) (B : Blt X.mg) (ha : PE X a (A.te Γ W)) (hb : PE X b (tC (.ty ty))) (hg : Gl X "isinstance" := by rfl) (h1 : starEach [a, b] X.env = (false, eval a X.env) :: starEach [b] X.env := by rfl) (h2 : starEach [b] X.env = (false, eval b X.env) :: starEach [] X.env := by rfl)
    (hpl : (backTo pos (starEach [b] X.env)).any (·.1) = false := by rfl) : PE X (.Call (.Name "isinstance" p) [a, b] [] pos) ((EX.isi ty A).te Γ W) := pe_callB (r := rIsi Γ.K) (by rw [← o.K]; exact call_isi) hg B.isinstance (by decide +kernel) (pa_cons ha (pa_cons hb pa_nil h2) h1) (he := h1) (hpl := hpl)
theorem q_isi2 {b c : Expr} {x1} {t1 t2 : String} {pt : Pos} (o : Cok Γ W k X) (B : Blt X.mg) (ha : PE X a (A.te Γ W)) (hb : PE X b (tC (.ty t1))) (hc : PE X c (tC (.ty t2))) (hg : Gl X "isinstance" := by rfl)
    (h1 : starEach [a, .Tuple [b, c] x1 pt] X.env = (false, eval a X.env) :: starEach [.Tuple [b, c] x1 pt] X.env := by rfl) (h2 : starEach [.Tuple [b, c] x1 pt] X.env = (false, eval (.Tuple [b, c] x1 pt) X.env) :: starEach [] X.env := by rfl)
    (h3 : starEach [b, c] X.env = (false, eval b X.env) :: starEach [c] X.env := by rfl) (h4 : starEach [c] X.env = (false, eval c X.env) :: starEach [] X.env := by rfl) (hpl : (backTo pos (starEach [.Tuple [b, c] x1 pt] X.env)).any (·.1) = false := by rfl) :
    PE X (.Call (.Name "isinstance" p) [a, .Tuple [b, c] x1 pt] [] pos) ((EX.isi2 t1 t2 A).te Γ W) := pe_callB (r := rIsiT Γ.K) (by rw [← o.K]; exact call_isiT) hg B.isinstance (by decide +kernel) (pa_cons ha (pa_cons (pe_tup (pa_cons hb (pa_cons hc pa_nil h4) h3)) pa_nil h2) h1) (he := h1) (hpl := hpl)
theorem q_bits {apos : Pos} (ha : PE X a (A.te Γ W)) (hbase : attributeBase a "bit_length" X.env (eval a X.env) = eval a X.env := by rfl) (hline : (apos.endLine == pos.line) = true := by rfl) : PE X (.Call (.Attribute a "bit_length" apos) [] [] pos) ((EX.bits A).te Γ W) := pe_bits ha hbase hline
theorem q_pop {apos : Pos} {i : Nat} (o : Cok Γ W k X) (ha : PE X a (tVar i)) (hbase : attributeBase a "pop" X.env (eval a X.env) = eval a X.env := by rfl) (hline : (apos.endLine == pos.line) = true := by rfl) : PE X (.Call (.Attribute a "pop" apos) [] [] pos) ((EX.pop (τ := τ) i).te Γ W) := by
  have h := pe_bm0 (name := "pop") (apos := apos) (cpos := pos) PySem.F.plainAttrs_list PySem.F.slot_list_pop PySem.F.type_list_pop mt_pop ha hbase hline
  rw [o.K] at h
  exact h
/-! parts of a slice -/
variable {e : Option Expr} {O1 O2 : OX τ}
theorem q_no : PO X none ((OX.no (τ := τ)).to Γ W) := po_none
theorem q_at (h : PE X a (A.te Γ W)) : PO X (some a) ((OX.at A).to Γ W) := po_some h
theorem q_slice {lo hi : Option Expr} {p2 : Pos} (o : Cok Γ W k X) (ha : PE X a (A.te Γ W)) (hl : PO X lo (O1.to Γ W)) (hu : PO X hi (O2.to Γ W)) : PE X (.Subscript a (.Slice lo hi none p2) pos) ((FX.slice A O1 O2).te Γ W) := pe_slice (r := rSlL Γ.K) (by rw [← o.K]; exact sl_list) ha hl hu
end
end T

/-! T14 -/
/-! T14: statements, targets, iteration, comprehensions, try; a def's body. -/
namespace T
open PySem PySem.Spec PyProof.Rows L2
variable {τ : Tab}
section
variable {Γ : Gm τ} {W : WX} {k : Nat} {X : Cx} {pos : Pos} {a b c : Expr} {A B C : EX τ} {es : List Expr} {M : AX τ}
/-! targets -/
theorem g_name {i : Nat} {x : Str} (o : Cok Γ W k X) (hi : X.N[i]? = some x := by rfl) (hx : Loc X.env.scope x := by first | exact Or.inl rfl | exact Or.inr rfl) (hf : X.fn x = true ∨ X.env.scope.names.lookup x = some .local := by first | exact .inl rfl | exact .inr rfl) : PG X (.Name x pos) ((GX.name (τ := τ) i).tg Γ) := pg_name o.nd hi hx hf
theorem g_nil : PGs X [] ((GXs.nil (τ := τ)).tgs Γ) := pgs_nil
theorem g_cons {G : GX τ} {R : GXs τ} (h1 : PG X a (G.tg Γ)) (h2 : PGs X es (R.tgs Γ)) (hs : (assignEach (a :: es) X.env).map (·.2) = assign a X.env :: (assignEach es X.env).map (·.2) := by rfl) : PGs X (a :: es) ((GXs.cons G R).tgs Γ) := pgs_cons h1 h2 hs
theorem g_tup {R : GXs τ} {n j : Nat} (o : Cok Γ W k X) (h : PGs X es (R.tgs Γ)) (hn : (assignEach es X.env).length = n := by rfl) (hst : (assignEach es X.env).findIdx? (·.1) = none := by rfl) : PG X (.Tuple es j pos) ((GX.tup n R).tg Γ) := by
  have z := pg_tup (k := j) (pos := pos) o.calm h hn hst
  rw [o.K] at z; exact z
/-! what is walked -/
theorem i_seq {tg : Expr} (o : Cok Γ W k X) (h : PE X a (A.te Γ W)) : PI X tg a ((IX.seq A).wi Γ W) := by
  have z := pi_seq (tg := tg) h
  rw [o.K] at z; exact z
theorem i_range1 {tg : Expr} {p : Pos} (Bl : Blt X.mg) (ha : PA X [a] (M.ta Γ W)) (hg : Gl X "range" := by rfl) (hs : starEach [a] X.env = [(false, eval a X.env)] := by rfl) : PI X tg (.Call (.Name "range" p) [a] [] pos) ((IX.range1 M).wi Γ W) := pi_range1 hg Bl.range ha hs
theorem i_range2 {tg : Expr} {p : Pos} (Bl : Blt X.mg) (ha : PA X [a, b] (M.ta Γ W)) (hg : Gl X "range" := by rfl) (hs : starEach [a, b] X.env = [(false, eval a X.env), (false, eval b X.env)] := by rfl) (hs2 : starEach [b] X.env = [(false, eval b X.env)] := by rfl) : PI X tg (.Call (.Name "range" p) [a, b] [] pos) ((IX.range2 M).wi Γ W) := pi_range2 hg Bl.range ha hs hs2
/-! tests of a comprehension -/
theorem t_nil : PTs X [] ((TX.yes (τ := τ)).tt Γ W) := pts_nil
theorem t_one {T1 : TX τ} (h : PT X c (T1.tt Γ W)) : PTs X [c] (T1.tt Γ W) := pts_one h
end
section
variable {Γ : Gm τ} {W : WX} {k : Nat} {X : Cx} {pos : Pos} {a b c : Expr} {A B C : EX τ} {es : List Expr} {M : AX τ} {st : Stmt} {rest sa sb : List Stmt} {S1 S2 : SX τ}
/-! statements -/
theorem q_snil : PSs X [] ((SX.nx (τ := τ)).te Γ W) := pss_nil
theorem q_scons (h1 : PS X st (S1.te Γ W)) (h2 : PSs X rest (S2.te Γ W)) : PSs X (st :: rest) ((SX.seq S1 S2).te Γ W) := pss_cons (t := S1.te Γ W) (u := S2.te Γ W) h1 h2
theorem q_sone (h1 : PS X st (S1.te Γ W)) : PSs X [st] (S1.te Γ W) := pss_one h1
theorem q_pass : PS X (.Pass pos) ((SX.nx (τ := τ)).te Γ W) := ps_pass
theorem q_brk : PS X (.Break pos) ((SX.brk (τ := τ)).te Γ W) := ps_break
theorem q_cnt : PS X (.Continue pos) ((SX.cnt (τ := τ)).te Γ W) := ps_continue
theorem q_asg {i : Nat} {x : Str} {px : Pos} (o : Cok Γ W k X) (h : PE X a (A.te Γ W)) (hi : X.N[i]? = some x := by rfl) (hx : Loc X.env.scope x := by first | exact Or.inl rfl | exact Or.inr rfl) (hs : swapsWith a (some (.Name x px)) pos.line X.env = pure false := by rfl)
    (hf : X.fn x = true ∨ X.env.scope.names.lookup x = some .local := by first | exact .inl rfl | exact .inr rfl) : PS X (.Assign [.Name x px] a pos) ((SX.asg i A).te Γ W) := ps_set o.nd hi hx h hs hf
theorem q_asgF {i : Nat} {x : Str} {px : Pos} {F : FX τ} (o : Cok Γ W k X) (h : PE X a (F.te Γ W)) (hi : X.N[i]? = some x := by rfl) (hx : Loc X.env.scope x := by first | exact Or.inl rfl | exact Or.inr rfl) (hs : swapsWith a (some (.Name x px)) pos.line X.env = pure false := by rfl)
    (hf : X.fn x = true ∨ X.env.scope.names.lookup x = some .local := by first | exact .inl rfl | exact .inr rfl) : PS X (.Assign [.Name x px] a pos) ((SX.asgF i F).te Γ W) := ps_set o.nd hi hx h hs hf
theorem q_asgG {tg : Expr} {G : GX τ} (h : PE X a (A.te Γ W)) (hg : PG X tg (G.tg Γ)) (hs : swapsWithSole [tg] a pos.line X.env = pure false := by rfl) (hw : swappedStores [tg] a X.env = pure none := by rfl)
    (h1 : (assignEach [tg] X.env).map (·.2) = [assign tg X.env] := by rfl) : PS X (.Assign [tg] a pos) ((SX.asgG G A).te Γ W) := ps_asg h hg hs hw h1
theorem q_if {T1 : TX τ} (hc : PT X c (T1.tt Γ W)) (h1 : PSs X sa (S1.te Γ W)) (h2 : PSs X sb (S2.te Γ W)) : PS X (.If c sa sb pos) ((SX.ite T1 S1 S2).te Γ W) := ps_if hc h1 h2
theorem q_ret (h : PE X a (A.te Γ W)) : PS X (.Return (some a) pos) ((SX.ret A).te Γ W) := ps_ret h
theorem q_retN : PS X (.Return none pos) ((SX.retN (τ := τ)).te Γ W) := ps_retN
theorem q_retO {i : Nat} (h : PE X a (tVar i)) : PS X (.Return (some a) pos) ((SX.retO (τ := τ) i).te Γ W) := ps_ret h
theorem q_expr (h : PE X a (A.te Γ W)) (hs : swapsWith a none pos.line X.env = pure false := by rfl) : PS X (.Expr a pos) ((SX.expr A).te Γ W) := ps_expr h hs
theorem q_app {i : Nat} {apos cpos : Pos} (o : Cok Γ W k X) (ha : PE X a (tVar i)) (hb : PE X b (A.te Γ W)) (hbase : attributeBase a "append" X.env (eval a X.env) = eval a X.env := by rfl)
    (hfew : ((backTo cpos (starEach [b] X.env)).all (fun x => !x.1) && (backToKw cpos (keywordEach [] X.env)).all (fun x => x.1.isSome) && decide ([b].length + ([] : List Keyword).length + (if ([] : List Keyword).isEmpty then 0 else 1) < 30)) = true := by rfl)
    (hline : (apos.endLine == cpos.line) = true := by rfl) (hs : starEach [b] X.env = (false, eval b X.env) :: starEach [] X.env := by rfl) (hpl : (backTo cpos (starEach ([] : List Expr) X.env)).any (·.1) = false := by rfl) (hsw : swapsWith (.Call (.Attribute a "append" apos) [b] [] cpos) none pos.line X.env = pure false := by rfl) :
    PS X (.Expr (.Call (.Attribute a "append" apos) [b] [] cpos) pos) ((SX.app i A).te Γ W) := by
  have h := pe_bm (name := "append") (apos := apos) (cpos := cpos) PySem.F.plainAttrs_list PySem.F.slot_list_append PySem.F.type_list_append mt_append ha (pa_cons hb pa_nil hs) hbase hfew hline hs hpl
  rw [o.K] at h
  exact ps_expr h hsw
theorem q_rev {i : Nat} {apos cpos : Pos} (o : Cok Γ W k X) (ha : PE X a (tVar i)) (hbase : attributeBase a "reverse" X.env (eval a X.env) = eval a X.env := by rfl) (hline : (apos.endLine == cpos.line) = true := by rfl)
    (hsw : swapsWith (.Call (.Attribute a "reverse" apos) [] [] cpos) none pos.line X.env = pure false := by rfl) : PS X (.Expr (.Call (.Attribute a "reverse" apos) [] [] cpos) pos) ((SX.rev (τ := τ) i).te Γ W) := by
  have h := pe_bm0 (name := "reverse") (apos := apos) (cpos := cpos) PySem.F.plainAttrs_list PySem.F.slot_list_reverse PySem.F.type_list_reverse mt_reverse ha hbase hline
  rw [o.K] at h
  exact ps_expr h hsw
theorem q_setL {i : Nat} {p2 : Pos} (ha : PE X a (tVar i)) (hj : PE X b (A.te Γ W)) (hv : PE X c (B.te Γ W))
    (has : ∀ v, assign (.Subscript a b p2) X.env v = (do
      let ov ← holding [v] (eval a X.env)
      let iv ← holding [v, ov] (eval b X.env)
      standAt p2
      holding [v, ov, iv] (setItem ov iv v)
      release [v, ov, iv] []) := by intro _; rfl)
    (hs : swapsWithSole [.Subscript a b p2] c pos.line X.env = pure false := by rfl) (hw : swappedStores [.Subscript a b p2] c X.env = pure none := by rfl)
    (h1 : (assignEach [.Subscript a b p2] X.env).map (·.2) = [assign (.Subscript a b p2) X.env] := by rfl) : PS X (.Assign [.Subscript a b p2] c pos) ((SX.setL i A B).te Γ W) := ps_asg hv (pg_sub ha hj set_list has) hs hw h1
theorem q_dput {i : Nat} {p2 : Pos} (o : Cok Γ W k X) (ha : PE X a (tVar i)) (hj : PE X b (A.te Γ W)) (hv : PE X c (B.te Γ W)) (hs : swapsWith c (some (.Subscript a b p2)) pos.line X.env = pure false := by rfl) :
    PS X (.Assign [.Subscript a b p2] c pos) ((SX.dput i A B).te Γ W) := ps_dput o.hu ha hj hv hs
theorem q_fset {i : Nat} {f : Str} {p2 : Pos} (o : Cok Γ W k X) (ha : PE X a (tVar i)) (hv : PE X c (A.te Γ W)) (hs : swapsWith c (some (.Attribute a f p2)) pos.line X.env = pure false := by rfl) : PS X (.Assign [.Attribute a f p2] c pos) ((SX.fset i f A).te Γ W) := by
  have h := ps_fld (f := f) (pos := pos) (pos' := p2) ha hv hs
  rw [o.K] at h; exact h
theorem q_for {tg it : Expr} {I : IX τ} {G : GX τ} (o : Cok Γ W k X) (hi : PI X tg it (I.wi Γ W)) (hg : PG X tg (G.tg Γ)) (hb : PSs X sa (S1.te Γ W)) (hs : ∀ x, foldedSetIterable it X.env x = pure x := by intro _; rfl) : PS X (.For tg it sa [] pos) ((SX.forE I G S1).te Γ W) := ps_for o.pass o.calm hi hg hb hs
theorem q_while {n : Nat} {T1 : TX τ} (o : Cok Γ W k X) (hc : PT X c (T1.tt Γ W)) (hb : PSs X sa (S1.te Γ W)) : PS X (.While c sa [] pos) ((SX.whileE n T1 S1).te Γ W) := ps_while o.pass hc hb
theorem q_raise {n : Nat} {names : List Str} (o : Cok Γ W k X) (h : PMk X a (fun σ H Q => M.ta Γ W σ H fun vs H1 => vs.length = names.length ∧ ∀ d, H1 d = none → Q (.ref (Γ.ec n)) (some d) (upd H1 d (.xd (names.zip vs))))) : PS X (.Raise (some a) none pos) ((SX.raise n names M).te Γ W) := ps_raise o.calm o.tk h
/-! comprehensions -/
theorem q_lc {elt tg it : Expr} {ifs : List Expr} {scope : Scope} {I : IX τ} {G : GX τ} {T1 : TX τ} {F : EX τ} {own : List (Str × Nat)} {vs : List Nat} (o : Cok Γ W k X) (hi : PI X tg it (I.wi Γ W)) (hsl : ∀ j ∈ G.sl, j ∈ vs)
    (h : ∀ (s : Shared) (H : Hp) (C : Addr) (cl : List (Str × Addr)) (fp : List Addr), Cok Γ W0 k (X.blk s H scope (compEnvC scope cl C X.env) fp) → PG (X.blk s H scope (compEnvC scope cl C X.env) fp) tg (G.tg Γ) ∧ PTs (X.blk s H scope (compEnvC scope cl C X.env) fp) ifs (T1.tt Γ W0) ∧ PE (X.blk s H scope (compEnvC scope cl C X.env) fp) elt (F.te Γ W0))
    (ok : blkC X.N X.env.scope scope own = true := by decide +kernel) (hv : own.map (·.2) = vs := by rfl) (hs : ∀ x, foldedSetIterable it X.env x = pure x := by intro _; rfl) : PE X (.ListComp elt [⟨tg, it, ifs, 0⟩] scope pos) ((FX.lc I G T1 F vs hsl).te Γ W) := by
  subst hv
  exact pe_lc o.calm o.nd hi (blkOk_by ok) (fun s H C cl fp => (h s H C cl fp o.blk).1) (fun s H C cl fp => (h s H C cl fp o.blk).2.1) (fun s H C cl fp => (h s H C cl fp o.blk).2.2) hs
/-- name = [..] on one line -/
theorem q_asgLc {elt tg it : Expr} {ifs : List Expr} {scope : Scope} {I : IX τ} {G : GX τ} {T1 : TX τ} {F : EX τ} {own : List (Str × Nat)} {vs : List Nat} {i : Nat} {y : Str} {py pos2 : Pos} (o : Cok Γ W k X) (hi : PI X tg it (I.wi Γ W)) (hsl : ∀ j ∈ G.sl, j ∈ vs)
    (h : ∀ (s : Shared) (H : Hp) (C : Addr) (cl : List (Str × Addr)) (fp : List Addr), Cok Γ W0 k (X.blk s H scope (compEnvC scope cl C X.env) fp) → PG (X.blk s H scope (compEnvC scope cl C X.env) fp) tg (G.tg Γ) ∧ PTs (X.blk s H scope (compEnvC scope cl C X.env) fp) ifs (T1.tt Γ W0) ∧ PE (X.blk s H scope (compEnvC scope cl C X.env) fp) elt (F.te Γ W0))
    (ok : blkC X.N X.env.scope scope own = true := by decide +kernel) (hv : own.map (·.2) = vs := by rfl) (hs : ∀ x, foldedSetIterable it X.env x = pure x := by intro _; rfl) (hy : X.N[i]? = some y := by rfl) (hyl : X.env.scope.names.lookup y = some .local := by rfl)
    (hsw : swapsWith (.ListComp elt [⟨tg, it, ifs, 0⟩] scope pos) (some (.Name y py)) pos2.line X.env = pure true := by exact sw_true rfl rfl rfl (by decide +kernel)) : PS X (.Assign [.Name y py] (.ListComp elt [⟨tg, it, ifs, 0⟩] scope pos) pos2) ((SX.asgF i (FX.lc I G T1 F vs hsl)).te Γ W) := by
  subst hv
  exact ps_setLc o.calm o.nd hy hyl hsw hi (blkOk_by ok) (fun s H C cl fp => (h s H C cl fp o.blk).1) (fun s H C cl fp => (h s H C cl fp o.blk).2.1) (fun s H C cl fp => (h s H C cl fp o.blk).2.2) hs
/-- {k: v for t in d} -/
theorem q_dcK {kx vx tg it : Expr} {ifs : List Expr} {scope : Scope} {G : GX τ} {T1 : TX τ} {FK F : EX τ} {own : List (Str × Nat)} {vs : List Nat} {i : Nat} (o : Cok Γ W k X) (hi : PE X it (tVar i)) (hsl : ∀ j ∈ G.sl, j ∈ vs)
    (h : ∀ (s : Shared) (H : Hp) (C : Addr) (cl : List (Str × Addr)) (fp : List Addr), Cok Γ W0 k (X.blk s H scope (compEnvC scope cl C X.env) fp) → PG (X.blk s H scope (compEnvC scope cl C X.env) fp) tg (G.tg Γ) ∧ PTs (X.blk s H scope (compEnvC scope cl C X.env) fp) ifs (T1.tt Γ W0) ∧ PE (X.blk s H scope (compEnvC scope cl C X.env) fp) kx (FK.te Γ W0) ∧ PE (X.blk s H scope (compEnvC scope cl C X.env) fp) vx (F.te Γ W0))
    (ok : blkC X.N X.env.scope scope own = true := by decide +kernel) (hv : own.map (·.2) = vs := by rfl) (hs : ∀ x, foldedSetIterable it X.env x = pure x := by intro _; rfl) : PE X (.DictComp kx vx [⟨tg, it, ifs, 0⟩] scope pos) ((FX.dcK i G T1 FK F vs hsl).te Γ W) := by
  subst hv
  exact pe_lockOr (pe_dc o.calm o.nd (pi_keys hi) (blkOk_by ok) (fun s H C cl fp => (h s H C cl fp o.blk).1) (fun s H C cl fp => (h s H C cl fp o.blk).2.1) (fun s H C cl fp => (h s H C cl fp o.blk).2.2.1) (fun s H C cl fp => (h s H C cl fp o.blk).2.2.2) hs)
end
/-! ### try: .. except C as n: x = [..] -/
structure XFld (K : PySem.W.Frag) (C : Addr) (f : Str) : Prop where
  ga : PySem.W.findIn K (.ref C) "__getattribute__" = some (some (.builtin "BaseException.__getattribute__"))
  gg : PySem.W.findIn K (.ref C) "__getattr__" = some none
  exC : PySem.W.subIn K (.ref C) (.type "BaseException") = some true
  hdC : PySem.W.hasDictIn K C = true
  no : PySem.W.findIn K (.ref C) f = some none
section
variable {Γ : Gm τ} {W : WX} {k : Nat} {X : Cx} {pos : Pos} {i c : Nat} {a : Addr} {oe : Obj} {cls : Value} {d : Option Addr} {pn : List (Addr × Obj)} {e : Expr} {es : List Expr}
theorem x_fld {f : Str} (hT : ∀ c', τ.sub c' c = some true → XFld X.K (Γ.ec c') f) (hz : Zc cls d oe) (hf : ∃ vs, oe.data = .fields vs) (he : PE (X.suite a ((a, oe) :: pn)) e (tVar i)) (hb : attributeBase e f X.env (eval e X.env) = eval e X.env := by rfl) :
    PE (X.suite a ((a, oe) :: pn)) (.Attribute e f pos) (xiTE (∃ c', cls = .ref (Γ.ec c') ∧ τ.sub c' c = some true) i a d (.fld f)) := by
  refine ⟨fun pins s σ H Q I h => ?_⟩
  have h : tByF (∃ c', cls = .ref (Γ.ec c') ∧ τ.sub c' c = some true) i a d f σ H Q := h
  refine attr_of hb (thn (he.run pins s σ H _ I h) fun u s1 hh => ?_)
  obtain ⟨x, H1, I1, rx, ex, ⟨c', ec, hs⟩, dd, vfs, v, ed, ea, l, q⟩ := hh
  have T := hT c' hs
  subst ex
  obtain rfl : u = Value.ref a := rx
  subst ec
  subst ed
  obtain ⟨ha, _⟩ := I1.pin (a, oe) (List.mem_append_left _ List.mem_cons_self)
  obtain ⟨vs, hd⟩ := hf
  have hx : ObjOk X.prog X.w H1 s1.heap dd (.xd vfs) := I1.hok dd _ ea
  obtain ⟨mA, hns, hr⟩ := hx
  obtain ⟨od, ho, hl⟩ := lookIn_ns hns
  obtain ⟨u, hu, ru⟩ := RelO.some_of (v := v) (o := mA f) (by rw [← l]; exact hr f)
  have J : PySem.W.InstAt s1.heap a oe (Γ.ec c') (some od) := ⟨ha, hz.1, by unfold PySem.W.notCls; rw [hd] <;> rfl, by rw [hz.2]; exact ho⟩
  exact HandSPX.exc_get I1.kIn J T.ga T.gg T.exC (PySem.W.findObj_own T.hdC T.no rfl (by rw [hl, hu])) (handed_of ru) ⟨v, H1, I1.tok _, ru, q⟩
theorem x_str {y : Str} {Pc : Prop} {j} : PE X (.Constant (.str y) j pos) (xiTE Pc i a d (.str y)) := pe_str
theorem x_int {y : Int} {Pc : Prop} {j} : PE X (.Constant (.int y) j pos) (xiTE Pc i a d (.int y)) := pe_int
theorem x_non {Pc : Prop} {j} : PE X (.Constant .none j pos) (xiTE Pc i a d .non) := pe_non
theorem x_nil {Pc : Prop} : PA X [] (xiTA Pc i a d []) := pa_nil
theorem x_cons {Pc : Prop} {x : XI} {r : List XI} (ha : PE X e (xiTE Pc i a d x)) (hr : PA X es (xiTA Pc i a d r)) (hs : starEach (e :: es) X.env = (false, eval e X.env) :: starEach es X.env := by rfl) : PA X (e :: es) (xiTA Pc i a d (x :: r)) := pa_cons ha hr hs
theorem x_lst {Pc : Prop} {j : Nat} {y : Str} {py p2 : Pos} {r : List XI} (hN : X.N.Nodup) (h : PA X es (xiTA Pc i a d r)) (hi : X.N[j]? = some y := by rfl) (hx : Loc X.env.scope y := by first | exact Or.inl rfl | exact Or.inr rfl) (hs : swapsWith (.List es p2) (some (.Name y py)) pos.line X.env = pure false := by rfl)
    (hf : X.fn y = true ∨ X.env.scope.names.lookup y = some .local := by first | exact .inl rfl | exact .inr rfl) : PS X (.Assign [.Name y py] (.List es p2) pos) ((HX.lst (τ := τ) j r).ts Γ i Pc a d) := ps_set hN hi hx (pe_lst h) hs hf
theorem x_tup {Pc : Prop} {j : Nat} {y : Str} {py p2 : Pos} {r : List XI} {x1} (hN : X.N.Nodup) (h : PA X es (xiTA Pc i a d r)) (hi : X.N[j]? = some y := by rfl) (hx : Loc X.env.scope y := by first | exact Or.inl rfl | exact Or.inr rfl) (hs : swapsWith (.Tuple es x1 p2) (some (.Name y py)) pos.line X.env = pure false := by rfl)
    (hf : X.fn y = true ∨ X.env.scope.names.lookup y = some .local := by first | exact .inl rfl | exact .inr rfl) : PS X (.Assign [.Name y py] (.Tuple es x1 p2) pos) ((HX.tup (τ := τ) j r).ts Γ i Pc a d) := ps_set hN hi hx (pe_tup h) hs hf
theorem q_try {body : List Stmt} {st : Stmt} {x n : Str} {np pos' : Pos} {B : SX τ} {hx : HX τ} (o : Cok Γ W k X) (hb : ∀ (W' : WX) (pn : List (Addr × Obj)) (xe : Value → Shared → Prop), Cok Γ W' k (X.tr pn xe) → PSs (X.tr pn xe) body (B.te Γ W'))
    (hsu : ∀ (a : Addr) (oe : Obj) (cls : Value) (d : Option Addr) (pn : List (Addr × Obj)), Zc cls d oe → (∃ vs, oe.data = .fields vs) → PS (X.suite a ((a, oe) :: pn)) st (hx.ts Γ i (∃ c', cls = .ref (Γ.ec c') ∧ τ.sub c' c = some true) a d))
    (hc : Names X x (.ref (Γ.ec c))) (hi : X.N[i]? = some n := by rfl) (hs : X.stack = X.env :: X.outer := by rfl) (hf : X.env.frame = some X.env.locals := by rfl) (hln : X.env.kindOf n = some .local := by rfl) :
    PS X (.Try body [.ExceptHandler (some (.Name x np)) (some n) [st] pos'] [] [] pos) ((SX.try1 B c i hx).te Γ W) := by
  have h := ps_try_as (np := np) (pos := pos) (pos' := pos') (tb := fun W' => B.te Γ W') (ts := fun a cls d => hx.ts Γ i (∃ c', cls = .ref (Γ.ec c') ∧ τ.sub c' c = some true) a d) hs hf o.nd hi hln hc o.tk (fun W' pn xe tk p => hb W' pn xe (o.tr tk p)) (fun a oe cls d pn hz hf => pss_one (hsu a oe cls d pn hz hf))
  rw [o.K] at h
  exact h
end
/-! ### a def -/
theorem mk_fn {P : Program} {w : World} {Γ : Gm τ} {mg : Str → Option Value} {base : Heap} {k : Nat} {x qual : Str} {st : Stmt} {f : Addr} {fd : FuncData} {N ps : List Str} {np n : Nat} {B : SX τ} (F : Fun Γ.K x qual st f fd) (S : FnScope N ps (defScope st)) (hn : N.length = n) (hp : np ≤ n) (hps : ps.length = np)
    (h : ∀ (cdv : Value) (A : Around) (outer : List Env) (s : Shared) (H : Hp) (E : XK), Cok Γ (fun cls d _ H' => E cls d H') k (cxOf (L2.CX P w) P w Γ.K mg base N qual (defScope st) f cdv A outer s H E) →
      PSs (cxOf (L2.CX P w) P w Γ.K mg base N qual (defScope st) f cdv A outer s H E) (defBody st) (B.te Γ (fun cls d _ H' => E cls d H'))) :
    FnOk P w Γ.K mg base (L2.CX P w) (k + 1) f fd ps (spF Γ.toGm0 (runDef np n B.ev)) := by
  refine F.okX S (fun vs H Q E h => ?_) (fun cdv A outer s H vs Q E hr hsp => ⟨B.te Γ (fun cls d _ H => E cls d H), ?_, run_ok hn hp (B.ok Γ _) hsp⟩)
  · rw [hps]
    obtain ⟨G, as, io, x, nd, r, p⟩ := h
    unfold runDef at p
    split at p
    · rename_i hl
      exact r.length.trans hl
    · exact p.elim
  · exact h cdv A outer s H E ⟨rfl, takes_of rfl rfl rfl rfl, rfl, hr, passes_of rfl, S.nd⟩
/-- a def of the module, met by its name -/
theorem mk_FN {P : Program} {w : World} {Γ : Gm τ} {mg : Str → Option Value} {base : Heap} {k : Nat} {x : Str} {st : Stmt} {f : Addr} {fd : FuncData} {ps : List Str} {F : List A → Res} (Fu : Fun Γ.K x x st f fd) (hm : mg x = some (.ref f)) (b : Binds Γ.K fd ps [])
    (h : FnOk P w Γ.K mg base (L2.CX P w) k f fd ps (spF Γ.toGm0 F)) : FN P w Γ.toGm0 mg base x ps k F := ⟨f, fd, hm, Fu.kp, b, h⟩
end T

/-! T15 -/
/-! T15: unpacking lists and tuples alike, displays of constant dicts, own lists from sums. -/
namespace T
open PySem PySem.Spec PyProof.Rows L2
variable {τ : Tab}
/-- a, b, .. = a list or a tuple -/
def gSq (K : PySem.W.Frag) (n : Nat) (t : TGs) : TG := fun v σ H Q => gTup K n t v σ H Q ∨ gLst K n t v σ H Q
theorem pg_sq {X : Cx} {pos : Pos} {es : List Expr} {k : Nat} {t : TGs} {n : Nat} (hc : X.calm = true) (h : PGs X es t)
    (hn : (assignEach es X.env).length = n := by rfl) (hst : (assignEach es X.env).findIdx? (·.1) = none := by rfl) : PG X (.Tuple es k pos) (gSq X.K n t) :=
  ⟨fun pins s σ H v u Q I r q => q.elim ((pg_tup hc h hn hst).run pins s σ H v u Q I r) ((pg_lst hc h hn hst).run pins s σ H v u Q I r)⟩
def seqD (n : Nat) (d : D) : Option (List D) := match d.seq? with
  | some ds => if ds.length = n then some ds else none
  | none => none
def GX.sq (n : Nat) (g : GXs τ) : GX τ where
  tg := fun Γ => gSq Γ.K n (g.tgs Γ)
  ev := fun d env => (seqD n d).bind fun ds => g.ev ds env
  sl := g.sl
  ok := fun Γ io G H σ env v d e2 s r h Q q => by
    cases e : seqD n d with
    | none => rw [e] at h; cases h
    | some ds =>
      rw [e, Option.bind_some] at h
      unfold seqD at e
      split at e
      · rename_i ds' hd
        split at e
        · rename_i hl
          cases e
          obtain ⟨a, vs, rfl, h1, h2, h3⟩ := r.seq s.ex hd
          have hl' : vs.length = n := by rw [h3.length]; exact hl
          rcases h1 with h1 | h1
          · exact .inr ⟨a, vs, rfl, h1, hl', g.ok Γ io G H σ env vs ds e2 s h3 h Q q⟩
          · exact .inl ⟨a, vs, rfl, h1, hl', g.ok Γ io G H σ env vs ds e2 s h3 h Q q⟩
        · cases e
      · cases e
/-- {k: v, ..}, all constants -/
def tcK (k : Key) : TE := match k with
  | .inl i => tC (.int i)
  | .inr x => tC (.str x)
theorem tcK_ok (k : Key) {σ : L2.St} {H : Hp} {Q : VK} (h : Q (kV k) H) : tcK k σ H Q := by cases k <;> exact h
theorem pairs_con : ∀ (kvs : List (Key × Key)) {σ : L2.St} {H : Hp} {Q : List (V × V) → Hp → Prop}, Q (kvs.map fun p => (kV p.1, kV p.2)) H → tPairs (kvs.map fun p => (tcK p.1, tcK p.2)) σ H Q
  | [], _, _, _, h => h
  | (k, v) :: r, σ, H, Q, h => tcK_ok k (tcK_ok v (pairs_con r h))
def FX.dcon (kvs : List (Key × Key)) (hm : ∀ f : Key → V, mergeK [] (kvs.map fun p => (p.1, f p.2)) = kvs.map fun p => (p.1, f p.2)) (h15 : kvs.length ≤ 15) : FX τ where
  te := fun _ _ => tDisp (kvs.map fun p => (tcK p.1, tcK p.2))
  ev := fun env => .ok (.dic (kvs.map fun p => (p.1, keyOf p.2))) env
  ok := fun Γ W io G H σ env s Q h => fun p hp => by
    refine pairs_con kvs ⟨upd_same, kvs.map fun p => (p.1, kV p.2), by rw [List.map_map]; rfl, by simpa using h15, ?_⟩
    rw [hm, upd_upd]
    refine h G _ (s.laid hp) (Mv.laid hp) p hp (s.ex.free hp) (fun ⟨i, k, o, e, t⟩ => by
      obtain ⟨a, g1, _, g3, _⟩ := s.own i k o e
      rw [t] at g1; cases g1
      obtain ⟨u, hu⟩ := g3.there
      rw [hp] at hu; cases hu) (.dic upd_same (by rw [List.length_map, sizeLine_eq]; omega) (by rw [List.map_map, List.map_map]; rfl) ?_)
    rw [List.map_map, List.map_map]
    clear hm h15 h
    induction kvs with
    | nil => exact .nil
    | cons x r ih => 
      refine .cons ?_ ih
      show Rep Γ.toGm0 G (kV x.2) (keyOf x.2)
      cases x.2 with
      | inl i => exact Rep.int i
      | inr x => exact Rep.str x
theorem q_dcon {X : Cx} {pos : Pos} {Γ : Gm τ} {W : WX} {kvs : List (Key × Key)} {keys : List (Option Expr)} {values : List Expr} {hm h15} (h : PPs X pos keys values (kvs.map fun p => (tcK p.1, tcK p.2))) (hall : keys.all (·.isSome) = true := by rfl) (hl : keys.length = values.length := by rfl) (h0 : keys ≠ [] := by simp)
    (h2 : keys.length ≤ 15 := by decide) : PE X (.Dict keys values pos) ((FX.dcon (τ := τ) kvs hm h15).te Γ W) := pe_disp h hall hl h0 h2
/-- xs + ys, a list of one's own -/
def FX.addL (a b : EX τ) : FX τ where
  te := fun Γ W => tOp (rAddA Γ.K) (a.te Γ W) (b.te Γ W)
  ev := fun env => (a.ev env).bind fun x e1 => (b.ev e1).bind fun y e2 => match x, y with
    | .lst xs, .lst ys => if capd (xs.length + ys.length) then .ok (.lst (xs ++ ys)) e2 else .bad
    | _, _ => .bad
  ok := fun Γ W io G H σ env s Q h => by
    refine a.ok Γ W io G H σ env s _ ((Out.step h).mono fun d e1 G1 H1 s1 m1 h1 x rx => ?_)
    refine b.ok Γ W io G1 H1 σ e1 s1 _ ((Out.step h1).mono fun e e2 G2 H2 s2 m2 h2 y ry => ?_)
    have rx := rx.mono m2.sub
    split at h2
    · rename_i xs ys
      split at h2
      · rename_i c
        cases rx with
        | @lst a vs _ ha za ra =>
          cases ry with
          | @lst b us _ hb zb rb =>
            have hl : vs.length + us.length ≤ sizeLine := by rw [ra.length, rb.length]; exact capd_ok c
            refine .inr (.inr (.inl ⟨a, b, vs, us, rfl, rfl, s2.ex.at ha (fun _ z => nomatch z), s2.ex.at hb (fun _ z => nomatch z), hl, fun p hp => ?_⟩))
            refine h2 G2 _ (s2.laid hp) (Mv.laid hp) p (m1.back (m2.back hp)) (s2.ex.free hp) (fun ⟨i, k, o, e, t⟩ => ?_) (.lst upd_same (by rw [List.length_append]; exact hl) (ra.append rb))
            obtain ⟨a, y1, _, y3, _⟩ := s2.own i k o e
            rw [t] at y1; cases y1
            obtain ⟨u, hu⟩ := y3.there
            rw [hp] at hu; cases hu
      · exact h2.elim
    · exact h2.elim
/-- name = {k: v for ..} on one line, the name a local -/
theorem ps_setDc {X : Cx} {i : Nat} {y : Str} {py : Pos} {kx vx tg iter : Expr} {ifs : List Expr} {scope : Scope} {own : List (Str × Nat)} {pos spos : Pos} {wi : TI} {g : TG} {tt : TT} {tk tv : TE} (hc : X.calm = true) (hN : X.N.Nodup) (hy : X.N[i]? = some y) (hyl : X.env.scope.names.lookup y = some .local)
    (hsw : swapsWith (.DictComp kx vx [⟨tg, iter, ifs, 0⟩] scope pos) (some (.Name y py)) spos.line X.env = pure true) (hi : PI X tg iter wi) (ok : BlkOk X.N X.env.scope scope own)
    (hg : ∀ (s : Shared) (H : Hp) (C : Addr) (cl : List (Str × Addr)) (fp : List Addr), PG (X.blk s H scope (compEnvC scope cl C X.env) fp) tg g) (ht : ∀ (s : Shared) (H : Hp) (C : Addr) (cl : List (Str × Addr)) (fp : List Addr), PTs (X.blk s H scope (compEnvC scope cl C X.env) fp) ifs tt)
    (hk : ∀ (s : Shared) (H : Hp) (C : Addr) (cl : List (Str × Addr)) (fp : List Addr), PE (X.blk s H scope (compEnvC scope cl C X.env) fp) kx tk)
    (he : ∀ (s : Shared) (H : Hp) (C : Addr) (cl : List (Str × Addr)) (fp : List Addr), PE (X.blk s H scope (compEnvC scope cl C X.env) fp) vx tv) (hs : ∀ x, foldedSetIterable iter X.env x = pure x) :
    PS X (.Assign [.Name y py] (.DictComp kx vx [⟨tg, iter, ifs, 0⟩] scope pos) spos) (tAsg (tDc wi g tt tk tv (own.map (·.2))) (gName i)) := by
  refine ⟨fun pins s σ H D I h => ?_⟩
  rw [exec_Assign_Name_used _ _ _ _ hsw]
  refine wpAny_bind (wpAny_standAt (wpAny_bind ?_))
  show wpAny _ X.A (do let _ ← comprehension (.DictComp kx vx [⟨tg, iter, ifs, 0⟩] scope pos) scope X.env (firstIterPos [⟨tg, iter, ifs, 0⟩] pos) newDict false (eval iter X.env) (some (assign (.Name y py) X.env))) _ _ s
  have h : tDc wi g tt tk tv (own.map (·.2)) σ H (fun x H1 => gName i x σ H1 D.nx) := h
  refine wpAny_bind (thn (dc_core (Qf := fun _ s' => SP X pins D .next s') hc hN I hi ok hg ht hk he hs h fun L C s' m H' I' q hn f => ?_) fun _ s' hq => wpAny_pure (wpAny_pure hq))
  show wpAny _ _ (assign (.Name y py) X.env (.ref L)) _ _ _
  refine wpAny_assign_Name (store_ok2 (v := V.ref L) I' hN hy (.inl hyl) rfl (fun s2 I2 ⟨a, sb, ha⟩ => ?_) (.inr hyl))
  obtain ⟨f0, f1, f2, f3, f4, f5⟩ := f
  have haC : C ≠ a := by
    rcases ha with z | z
    · rw [z]; exact f1
    · exact fun e => f4 y a z e.symm
  refine ⟨m, hn.sameBut sb haC, fun h3 sb3 => ?_⟩
  exact ⟨_, H', I2.turned (t' := s2.toks) (fun b o hb e => (sb3.2 b hb).trans e) f0 f1 f3 f4 f5, q⟩
theorem ps_setLock {X : Cx} {st : Stmt} {t : TE} {i : Nat} (h : PS X st (tAsg t (gName i))) : PS X st (tAsg (tLockOr t) (gName i)) :=
  ⟨fun pins s σ H D I q => q.elim (fun hl => (ps_lock h).run pins s σ H D I hl) (fun hl => h.run pins s σ H D I hl)⟩
theorem sw_trueD {kx vx : Expr} {gs : List Comprehension} {scope : Scope} {pos py : Pos} {y : Str} {l : Nat} {env : Env} (hk : env.scope.kind = .function) (hy : env.scope.names.lookup y = some .local) (hl : (py.line == pos.line) = true)
    (ha : (scope.names.any fun (n, k) => n == y && (k == .local || k == .cell)) = false) : swapsWith (.DictComp kx vx gs scope pos) (some (.Name y py)) l env = pure true := by
  have ky : env.kindOf y = some .local := hy
  have hb : env.blockKind = .function := by unfold Env.blockKind; rw [hk]; rfl
  unfold swapsWith
  simp only [hb, ky, ha, Expr.pos, hl]
  rfl
theorem q_asgDcK {Γ : Gm τ} {W : WX} {k : Nat} {X : Cx} {pos : Pos} {kx vx tg it : Expr} {ifs : List Expr} {scope : Scope} {G : GX τ} {T1 : TX τ} {FK F : EX τ} {own : List (Str × Nat)} {vs : List Nat} {i j : Nat} {y : Str} {py pos2 : Pos} (o : Cok Γ W k X) (hi : PE X it (tVar i)) (hsl : ∀ j ∈ G.sl, j ∈ vs)
    (h : ∀ (s : Shared) (H : Hp) (C : Addr) (cl : List (Str × Addr)) (fp : List Addr), Cok Γ W0 k (X.blk s H scope (compEnvC scope cl C X.env) fp) → PG (X.blk s H scope (compEnvC scope cl C X.env) fp) tg (G.tg Γ) ∧ PTs (X.blk s H scope (compEnvC scope cl C X.env) fp) ifs (T1.tt Γ W0) ∧ PE (X.blk s H scope (compEnvC scope cl C X.env) fp) kx (FK.te Γ W0) ∧ PE (X.blk s H scope (compEnvC scope cl C X.env) fp) vx (F.te Γ W0))
    (ok : blkC X.N X.env.scope scope own = true := by decide +kernel) (hv : own.map (·.2) = vs := by rfl) (hs : ∀ x, foldedSetIterable it X.env x = pure x := by intro _; rfl) (hy : X.N[j]? = some y := by rfl) (hyl : X.env.scope.names.lookup y = some .local := by rfl)
    (hsw : swapsWith (.DictComp kx vx [⟨tg, it, ifs, 0⟩] scope pos) (some (.Name y py)) pos2.line X.env = pure true := by exact sw_trueD rfl rfl rfl (by decide +kernel)) : PS X (.Assign [.Name y py] (.DictComp kx vx [⟨tg, it, ifs, 0⟩] scope pos) pos2) ((SX.asgF j (FX.dcK i G T1 FK F vs hsl)).te Γ W) := by
  subst hv
  exact ps_setLock (ps_setDc o.calm o.nd hy hyl hsw (pi_keys hi) (blkOk_by ok) (fun s H C cl fp => (h s H C cl fp o.blk).1) (fun s H C cl fp => (h s H C cl fp o.blk).2.1) (fun s H C cl fp => (h s H C cl fp o.blk).2.2.1) (fun s H C cl fp => (h s H C cl fp o.blk).2.2.2) hs)
section
variable {Γ : Gm τ} {W : WX} {k : Nat} {X : Cx} {pos : Pos} {a b : Expr} {A B : EX τ} {es : List Expr}
theorem q_addL (o : Cok Γ W k X) (ha : PE X a (A.te Γ W)) (hb : PE X b (B.te Γ W)) : PE X (.BinOp a .Add b pos) ((FX.addL A B).te Γ W) := pe_op (r := rAddA Γ.K) (by rw [← o.K]; exact op_addA) ha hb
theorem g_sq {R : GXs τ} {n j : Nat} (o : Cok Γ W k X) (h : PGs X es (R.tgs Γ)) (hn : (assignEach es X.env).length = n := by rfl) (hst : (assignEach es X.env).findIdx? (·.1) = none := by rfl) : PG X (.Tuple es j pos) ((GX.sq n R).tg Γ) := by
  have z := pg_sq (k := j) (pos := pos) o.calm h hn hst
  rw [o.K] at z; exact z
theorem i_enum {M : AX τ} {e : Expr} {p tpos : Pos} {elts : List Expr} {kk : Nat} (o : Cok Γ W k X) (Bl : Blt X.mg) (ha : PA X [e] (M.ta Γ W)) (hg : Gl X "enumerate" := by rfl) (hs : starEach [e] X.env = [(false, eval e X.env)] := by rfl) : PI X (.Tuple elts kk tpos) (.Call (.Name "enumerate" p) [e] [] pos) ((IX.enum M).wi Γ W) := by
  have z := pi_enum (elts := elts) (kk := kk) (tpos := tpos) (p := p) (pos := pos) hg Bl.enumerate ha hs
  rw [o.K] at z; exact z
theorem q_tbool {e : Expr} {T1 : TX τ} (h : PW X e (T1.tt Γ W)) : PT X e (T1.tt Γ W) := h.pt
end
end T

/-! X2 -/
namespace PySem
namespace XBadNumber
open PySem.W PySem.Calls PyProof.Rows PySem.HandSPX PySem.XC
def iA (p0 p1 : Pos) : Arguments := { posonlyargs := [], args := [{ arg := "self", annotation := none, pos := p0 }, { arg := "what", annotation := none, pos := p1 }], vararg := none, kwonlyargs := [], kw_defaults := [], kwarg := none, defaults := [] }
def iB (q00 q01 q02 q03 : Pos) : List Stmt := [.Assign [.Attribute (.Name "self" q00) "what" q01] (.Name "what" q02) q03]
def iS : Scope := { kind := .function, names := [(PySem.Str.ofString "self", .local), (PySem.Str.ofString "what", .local)], isGenerator := false, isCoroutine := false, more := [] }
structure Txt (K : Frag) (mg : Str → Option Value) (C fI B : Addr) : Prop where
  gC : mg "BadNumber" = some (.ref C)
  cls : ∃ nm q N bs sn sub ab col dd k0 k1 k2 k3 k5, K.lookup C = some (excClassObj nm q C N bs (.ref B :: tailX) true sn sub ab col dd k0 k1 k2 k3 k5 "Exception.__new__")
  sa : findIn K (.ref C) "__setattr__" = some (some (.builtin "object.__setattr__"))
  iC : findIn K (.ref C) "__init__" = some (some (.ref fI))
  tC : typeIn K (.ref fI) = some (.type "function")
  kC : keepIn K (.ref C) = true
  exC : subIn K (.ref C) (.type "BaseException") = some true
  tyC : typeIn K (.ref C) = some (.type "type")
  no0 : findIn K (.ref C) "what" = some none
  fn : ∃ (oc : Value) (od : Option Addr) (doc pm : Value) (an : Option Addr) (cdv ct : Value) (osl : Array (Option Value)) (p0 p1 q00 q01 q02 q03 : Pos),
    K.lookup fI = some ⟨oc, od, .func (fnOf "__init__" "BadNumber.__init__" (iA p0 p1) (iB q00 q01 q02 q03) iS .none .none doc pm an cdv ct), osl⟩ ∧ codeIn K cdv "BadNumber.__init__" = true
theorem size_ok (v0 : Value) : [v0].length ≤ sizeLine := by
  rw [sizeLine_eq]
  exact (by decide : 1 ≤ 16777216)
theorem ld {M : Model} {s : Shared} {name : Str} {scope : Scope} {L a : Addr} {cd : Value} {m : Str → Option Value} {x : Str} {pos : Pos} {v : Value} {Q : Value → Shared → Prop} {A : Around} {E : Value → Shared → Prop} (hn : s.heap.Ns L m) (hv : m x = some v) (h : Q v s)
    (hk : scope.kind = .function := by rfl) (hl : (envOfC name scope L a cd).kindOf x = some .local := by rfl) (hd : (x == ("__debug__" : Str)) = false := by decide) :
    wpAny M A (eval (.Name x pos) (envOfC name scope L a cd)) Q E s := wpAny_Name (wpAny_loadName_local hk hl hn hv h) hd
/-- a made error: its own dict holds the arguments -/
structure Made (h h' : Heap) (e C d : Addr) (v0 : Value) : Prop where
  keep : ∀ b o, h.get? b = some o → h'.get? b = some o
  new : h.objs.size ≤ e
  obj : ∃ oe fv, h'.get? e = some oe ∧ oe.cls = .ref C ∧ oe.dict = some d ∧ oe.data = .fields fv ∧ fv[1]? = some .none
  dbig : h.objs.size ≤ d
  dne : d ≠ e
  ns : h'.Ns1 d (fun y => if y = "what" then some v0 else none)
section
variable {prog : Program} {w : World} {A : Around} {E : Value → Shared → Prop} {R : Result → Shared → Prop} {s : Shared} {K : Frag} {mg : Str → Option Value} {C fI B : Addr}
theorem made (T : Txt K mg C fI B) {v0 : Value} (X : K.In s.heap) (hlim : s.heap.NoLimit) (hroom : A.depth + 1 < recursionLimit)
    (hq : ∀ h' tk e d, Made s.heap h' e C d v0 → R (.ok (.ret (.ref e))) { s with heap := h', toks := tk }) :
    codeAny (model prog w) A (.call (.ref C) ⟨[v0], []⟩) R s := by
  obtain ⟨nm, q, N, bs, sn, sub, ab, col, dd, k0, k1, k2, k3, k5, hC⟩ := T.cls
  obtain ⟨oc, od, doc, pm, an, cdv, ct, osl, p0, p1, q00, q01, q02, q03, ho, hcd⟩ := T.fn
  obtain ⟨hp, g, dr, tk, os⟩ := s
  have old : ∀ b o, hp.get? b = some o → ((hp.push (kdv_tup [v0])).push (excO C hp.objs.size)).get? b = some o := fun b o e => Heap.get?_push_of_some _ (Heap.get?_push_of_some _ e)
  have at_ : ((hp.push (kdv_tup [v0])).push (excO C hp.objs.size)).get? (hp.objs.size + 1) = some (excO C hp.objs.size) := by heap_get
  have hcl : clsIn K C = some { name := nm, bases := bs, mro := mroX C B, ns := N, qualname := q, hasDict := true, slotNames := sn, subclasses := sub, abstract := ab, collection := col, hasDel := false } := by unfold clsIn; rw [hC] <;> rfl
  refine call_own F.excBase_Exception (mroX_bm B) (X _ _ hC) (looks_findIn X T.iC) (fun self => bind_fn X self T.tC) (size_ok v0) ?_
  have X0 : K.In ((hp.push (kdv_tup [v0])).push (excO C hp.objs.size)) := X.keeps old
  refine Att.call_fn (s := ⟨(hp.push (kdv_tup [v0])).push (excO C hp.objs.size), g, dr, tk, os⟩) (binds := [("self", .ref (hp.objs.size + 1)), ("what", v0)]) X0 (hlim.keeps old) ho hcd (show A.depth + 1 < recursionLimit from hroom) (BindsTo.of_eq (by first | rfl | with_unfolding_all rfl)) (by first | rfl | decide | with_unfolding_all rfl) (fun s₁ IC => ?_) rfl rfl rfl
  obtain ⟨h₁, tk₁, rfl⟩ := IC.toInCall.same
  have kp : ∀ b o, ((hp.push (kdv_tup [v0])).push (excO C hp.objs.size)).get? b = some o → h₁.get? b = some o := IC.toInCall.keep
  have hn := IC.toInCall.ns
  have X1 : K.In h₁ := X0.keeps kp
  have hx1 := kp _ _ at_
  have big : ((hp.push (kdv_tup [v0])).push (excO C hp.objs.size)).objs.size = hp.objs.size + 1 + 1 := by rw [Heap.size_push, Heap.size_push]
  have notK : ∀ b o, K.lookup b = some o → b ≠ hp.objs.size + 1 := fun b o e z => by
    have := Heap.lt_size (X _ _ e)
    rw [z] at this
    exact absurd (Nat.lt_of_succ_lt this) (Nat.lt_irrefl _)
  have lt1 : hp.objs.size + 1 + 1 < h₁.objs.size := by rw [← big]; exact hn.lt
  show wpAny _ _ (execs _ _) _ _ _
  refine wpAny_execs_cons (plainObj_wpAny_Assign_Attribute ?_)
  refine ld (v := v0) hn (by first | rfl | with_unfolding_all rfl | kernel_rfl) (ld (v := .ref (hp.objs.size + 1)) hn (by first | rfl | with_unfolding_all rfl | kernel_rfl) ?_)
  refine set_plain X1 (ox := excO C hp.objs.size) (od := none) ⟨hx1, rfl, rfl, trivial⟩ T.sa ?_
  refine store_first X1 hx1 hcl rfl rfl T.no0 (fun h2 tk2 dx k2' dn dne hx2 hn2 => ?_)
  show wpAny _ _ (execs _ _) _ _ _
  have keep : ∀ b o, hp.get? b = some o → h2.get? b = some o := fun b o e => k2' b o (Nat.ne_of_lt (Nat.lt_succ_of_lt (Heap.lt_size e))) (kp b o (old b o e))
  have objE := hx2
  exact wpAny_execs_nil ⟨rfl, hq h2 tk2 (hp.objs.size + 1) dx ⟨keep, Nat.le_succ _, ⟨_, _, objE, rfl, rfl, rfl, rfl⟩, (have dn1 : h₁.objs.size ≤ dx := dn; show hp.objs.size ≤ dx by omega), dne, hn2⟩⟩
end
end XBadNumber
end PySem
namespace L2
open PySem PySem.Spec PyProof.Rows
theorem relO_BadNumber {w0 : V} {v0 : Value} (r0 : RelV w0 v0) (y : Str) : RelO (List.lookup y [(("what" : Str), w0)]) (if y = "what" then some v0 else none) := by
  by_cases h0 : y = "what"
  · subst h0; rw [if_pos rfl]; simp only [List.lookup, beq_self_eq_true]; exact r0
  · rw [if_neg h0]
    have b0 : (y == ("what" : Str)) = false := by simpa using h0
    simp only [List.lookup, b0]; trivial
section
variable {X : Cx} {C fI B : Addr}
theorem pmk_BadNumber {e0 : Expr} {ta : TA} {p pos : Pos} {k : Nat} (T : PySem.XBadNumber.Txt X.K X.mg C fI B) (hr : Room (k + 1) X.A) (ha : PA X [e0] ta) (hg : Gl X "BadNumber" := by rfl)
    (he : starEach (e0 :: []) X.env = (false, eval e0 X.env) :: starEach [] X.env := by rfl) (hpl : (backTo pos (starEach [] X.env)).any (·.1) = false := by rfl) :
    PMk X (.Call (.Name "BadNumber" p) [e0] [] pos) (fun σ H Q => ta σ H fun vs H1 => vs.length = 1 ∧ ∀ d, H1 d = none → Q (.ref C) (some d) (upd H1 d (.xd ((["what"] : List Str).zip vs)))) := by
  intro pins s σ H Q I h
  refine wpAny_Call_Name_kw (ld_glob I hg T.gC ?_)
  refine PySem.W.callWith_K (h₀ := X.base) I.ok.mod.kin T.kC (thn (ha.run pos pins s σ H _ I h) fun us s1 hh => ?_) he hpl
  obtain ⟨vs, H1, I1, r1, hl, q1⟩ := hh
  obtain ⟨w0, rfl⟩ : ∃ w0 : V, vs = [w0] := by
    match vs, hl with
    | [w0], _ => exact ⟨w0, rfl⟩
  obtain ⟨u0, rfl, r0⟩ : ∃ u0 : Value, us = [u0] ∧ RelV w0 u0 := by
    obtain ⟨u, e, r⟩ := vals1 r1
    exact ⟨u, e, r⟩
  refine ⟨I1.kIn, ?_⟩
  show wpAny _ _ (call (.ref C) [u0]) _ _ _
  have hlim := I1.nolimit
  obtain ⟨hp, g, dr, tk, os⟩ := s1
  refine wpAny_call (PySem.XBadNumber.made T I1.kIn hlim (by have := hr.dp; omega) fun h' tk' e d M => ?_)
  show MkP X pins σ Q (.ref e) ⟨h', g, dr, tk', os⟩
  obtain ⟨oe, fv, hoe, hc, hd, hdat, h1⟩ := M.obj
  have hns := M.ns
  obtain ⟨G', g1, g2⟩ := restrict h' fun b => decide (b ≠ e)
  have gk : ∀ b, b ≠ e → G'.get? b = h'.get? b := fun b hb => g1 b (decide_eq_true hb)
  have ge : G'.get? e = none := g2 e (by simp)
  have old : ∀ b o, hp.get? b = some o → G'.get? b = some o := fun b o q => (gk b (Nat.ne_of_lt (Nat.lt_of_lt_of_le (Heap.lt_size q) M.new))).trans (M.keep b o q)
  have ob : ObjOk X.prog X.w (upd H1 d (.xd [(("what" : Str), w0)])) G' d (.xd [(("what" : Str), w0)]) :=
    ⟨_, hns.at (fun o q => (gk d M.dne).trans q), fun f => relO_BadNumber r0 f⟩
  have J : Inv X pins σ (upd H1 d (.xd [(("what" : Str), w0)])) ⟨G', g, dr, tk', os⟩ := I1.laid (t' := tk') old M.dbig ob
  refine ⟨e, oe, fv, ⟨G', g, dr, tk', os⟩, _, .ref C, some d, rfl, J, fun b o q => ?_, ge, hoe, ⟨hc, hd⟩, hdat, h1, ?_, rfl, I1.bare, raises_own T.exC T.tyC, q1 d (I1.hok.fresh M.dbig)⟩
  · by_cases hb : b = e
    · have q' : G'.get? b = some o := q
      rw [hb, ge] at q'; cases q'
    · exact (gk b hb).symm.trans q
  · rw [upd_ne (Ne.symm M.dne)]
    exact I1.hok.fresh M.new
end
end L2
namespace PySem
namespace XBadArena
open PySem.W PySem.Calls PyProof.Rows PySem.HandSPX PySem.XC
def iA (p0 p1 p2 : Pos) : Arguments := { posonlyargs := [], args := [{ arg := "self", annotation := none, pos := p0 }, { arg := "state", annotation := none, pos := p1 }, { arg := "what", annotation := none, pos := p2 }], vararg := none, kwonlyargs := [], kw_defaults := [], kwarg := none, defaults := [] }
def iB (q00 q01 q02 q03 q10 q11 q12 q13 : Pos) : List Stmt := [.Assign [.Attribute (.Name "self" q00) "state" q01] (.Name "state" q02) q03, .Assign [.Attribute (.Name "self" q10) "what" q11] (.Name "what" q12) q13]
def iS : Scope := { kind := .function, names := [(PySem.Str.ofString "self", .local), (PySem.Str.ofString "state", .local), (PySem.Str.ofString "what", .local)], isGenerator := false, isCoroutine := false, more := [] }
structure Txt (K : Frag) (mg : Str → Option Value) (C fI B : Addr) : Prop where
  gC : mg "BadArena" = some (.ref C)
  cls : ∃ nm q N bs sn sub ab col dd k0 k1 k2 k3 k5, K.lookup C = some (excClassObj nm q C N bs (.ref B :: tailX) true sn sub ab col dd k0 k1 k2 k3 k5 "Exception.__new__")
  sa : findIn K (.ref C) "__setattr__" = some (some (.builtin "object.__setattr__"))
  iC : findIn K (.ref C) "__init__" = some (some (.ref fI))
  tC : typeIn K (.ref fI) = some (.type "function")
  kC : keepIn K (.ref C) = true
  exC : subIn K (.ref C) (.type "BaseException") = some true
  tyC : typeIn K (.ref C) = some (.type "type")
  no0 : findIn K (.ref C) "state" = some none
  no1 : findIn K (.ref C) "what" = some none
  fn : ∃ (oc : Value) (od : Option Addr) (doc pm : Value) (an : Option Addr) (cdv ct : Value) (osl : Array (Option Value)) (p0 p1 p2 q00 q01 q02 q03 q10 q11 q12 q13 : Pos),
    K.lookup fI = some ⟨oc, od, .func (fnOf "__init__" "BadArena.__init__" (iA p0 p1 p2) (iB q00 q01 q02 q03 q10 q11 q12 q13) iS .none .none doc pm an cdv ct), osl⟩ ∧ codeIn K cdv "BadArena.__init__" = true
theorem size_ok (v0 v1 : Value) : [v0, v1].length ≤ sizeLine := by
  rw [sizeLine_eq]
  exact (by decide : 2 ≤ 16777216)
theorem ld {M : Model} {s : Shared} {name : Str} {scope : Scope} {L a : Addr} {cd : Value} {m : Str → Option Value} {x : Str} {pos : Pos} {v : Value} {Q : Value → Shared → Prop} {A : Around} {E : Value → Shared → Prop} (hn : s.heap.Ns L m) (hv : m x = some v) (h : Q v s)
    (hk : scope.kind = .function := by rfl) (hl : (envOfC name scope L a cd).kindOf x = some .local := by rfl) (hd : (x == ("__debug__" : Str)) = false := by decide) :
    wpAny M A (eval (.Name x pos) (envOfC name scope L a cd)) Q E s := wpAny_Name (wpAny_loadName_local hk hl hn hv h) hd
/-- a made error: its own dict holds the arguments -/
structure Made (h h' : Heap) (e C d : Addr) (v0 v1 : Value) : Prop where
  keep : ∀ b o, h.get? b = some o → h'.get? b = some o
  new : h.objs.size ≤ e
  obj : ∃ oe fv, h'.get? e = some oe ∧ oe.cls = .ref C ∧ oe.dict = some d ∧ oe.data = .fields fv ∧ fv[1]? = some .none
  dbig : h.objs.size ≤ d
  dne : d ≠ e
  ns : h'.Ns1 d (fun y => if y = "what" then some v1 else if y = "state" then some v0 else none)
section
variable {prog : Program} {w : World} {A : Around} {E : Value → Shared → Prop} {R : Result → Shared → Prop} {s : Shared} {K : Frag} {mg : Str → Option Value} {C fI B : Addr}
theorem made (T : Txt K mg C fI B) {v0 v1 : Value} (X : K.In s.heap) (hlim : s.heap.NoLimit) (hroom : A.depth + 1 < recursionLimit)
    (hq : ∀ h' tk e d, Made s.heap h' e C d v0 v1 → R (.ok (.ret (.ref e))) { s with heap := h', toks := tk }) :
    codeAny (model prog w) A (.call (.ref C) ⟨[v0, v1], []⟩) R s := by
  obtain ⟨nm, q, N, bs, sn, sub, ab, col, dd, k0, k1, k2, k3, k5, hC⟩ := T.cls
  obtain ⟨oc, od, doc, pm, an, cdv, ct, osl, p0, p1, p2, q00, q01, q02, q03, q10, q11, q12, q13, ho, hcd⟩ := T.fn
  obtain ⟨hp, g, dr, tk, os⟩ := s
  have old : ∀ b o, hp.get? b = some o → ((hp.push (kdv_tup [v0, v1])).push (excO C hp.objs.size)).get? b = some o := fun b o e => Heap.get?_push_of_some _ (Heap.get?_push_of_some _ e)
  have at_ : ((hp.push (kdv_tup [v0, v1])).push (excO C hp.objs.size)).get? (hp.objs.size + 1) = some (excO C hp.objs.size) := by heap_get
  have hcl : clsIn K C = some { name := nm, bases := bs, mro := mroX C B, ns := N, qualname := q, hasDict := true, slotNames := sn, subclasses := sub, abstract := ab, collection := col, hasDel := false } := by unfold clsIn; rw [hC] <;> rfl
  refine call_own F.excBase_Exception (mroX_bm B) (X _ _ hC) (looks_findIn X T.iC) (fun self => bind_fn X self T.tC) (size_ok v0 v1) ?_
  have X0 : K.In ((hp.push (kdv_tup [v0, v1])).push (excO C hp.objs.size)) := X.keeps old
  refine Att.call_fn (s := ⟨(hp.push (kdv_tup [v0, v1])).push (excO C hp.objs.size), g, dr, tk, os⟩) (binds := [("self", .ref (hp.objs.size + 1)), ("state", v0), ("what", v1)]) X0 (hlim.keeps old) ho hcd (show A.depth + 1 < recursionLimit from hroom) (BindsTo.of_eq (by first | rfl | with_unfolding_all rfl)) (by first | rfl | decide | with_unfolding_all rfl) (fun s₁ IC => ?_) rfl rfl rfl
  obtain ⟨h₁, tk₁, rfl⟩ := IC.toInCall.same
  have kp : ∀ b o, ((hp.push (kdv_tup [v0, v1])).push (excO C hp.objs.size)).get? b = some o → h₁.get? b = some o := IC.toInCall.keep
  have hn := IC.toInCall.ns
  have X1 : K.In h₁ := X0.keeps kp
  have hx1 := kp _ _ at_
  have big : ((hp.push (kdv_tup [v0, v1])).push (excO C hp.objs.size)).objs.size = hp.objs.size + 1 + 1 := by rw [Heap.size_push, Heap.size_push]
  have notK : ∀ b o, K.lookup b = some o → b ≠ hp.objs.size + 1 := fun b o e z => by
    have := Heap.lt_size (X _ _ e)
    rw [z] at this
    exact absurd (Nat.lt_of_succ_lt this) (Nat.lt_irrefl _)
  have lt1 : hp.objs.size + 1 + 1 < h₁.objs.size := by rw [← big]; exact hn.lt
  show wpAny _ _ (execs _ _) _ _ _
  refine wpAny_execs_cons (plainObj_wpAny_Assign_Attribute ?_)
  refine ld (v := v0) hn (by first | rfl | with_unfolding_all rfl | kernel_rfl) (ld (v := .ref (hp.objs.size + 1)) hn (by first | rfl | with_unfolding_all rfl | kernel_rfl) ?_)
  refine set_plain X1 (ox := excO C hp.objs.size) (od := none) ⟨hx1, rfl, rfl, trivial⟩ T.sa ?_
  refine store_first X1 hx1 hcl rfl rfl T.no0 (fun h2 tk2 dx k2' dn dne hx2 hn2 => ?_)
  have hnL : h2.Ns _ _ := hn.at fun o e => k2' _ o (Nat.ne_of_gt (by
    show hp.objs.size + 1 < ((hp.push (kdv_tup [v0, v1])).push (excO C hp.objs.size)).objs.size
    rw [big]; exact Nat.lt_succ_self _)) e
  have X2 : K.In h2 := fun b o e => k2' b o (notK b o e) (X1 b o e)
  have frame2 := hn.lt
  show wpAny _ _ (execs _ _) _ _ _
  refine wpAny_execs_cons (plainObj_wpAny_Assign_Attribute ?_)
  refine ld (v := v1) hnL (by first | rfl | with_unfolding_all rfl | kernel_rfl) (ld (v := .ref (hp.objs.size + 1)) hnL (by first | rfl | with_unfolding_all rfl | kernel_rfl) ?_)
  obtain ⟨oD, esD, epD, hoD, _⟩ := id hn2
  refine set_plain X2 (ox := { cls := .ref C, dict := some dx, data := .fields #[.ref hp.objs.size, .none, .none, .none, .bool false, .none] }) (od := some oD) ⟨hx2, rfl, rfl, hoD⟩ T.sa ?_
  refine store_next X2 hx2 hn2 (nl := ["state"]) (fun y hy => by
    have hy2 : (if y = "state" then some v0 else none) ≠ none := hy
    split at hy2
    · rename_i e; simp [e]
    · exact absurd rfl hy2) (by decide) hcl rfl rfl T.no1 (fun h3 tk3 k3' hn3 => ?_)
  show wpAny _ _ (execs _ _) _ _ _
  have keep : ∀ b o, hp.get? b = some o → h3.get? b = some o := fun b o e => k3' b o (Nat.ne_of_lt (Nat.lt_of_lt_of_le (Nat.lt_of_lt_of_le (Heap.lt_size e) (Nat.le_of_lt (Nat.lt_of_lt_of_le (Nat.lt_succ_of_lt (Nat.lt_succ_self _)) (Nat.le_of_lt lt1)))) dn)) (k2' b o (Nat.ne_of_lt (Nat.lt_succ_of_lt (Heap.lt_size e))) (kp b o (old b o e)))
  have objE := k3' _ _ (Ne.symm dne) hx2
  exact wpAny_execs_nil ⟨rfl, hq h3 tk3 (hp.objs.size + 1) dx ⟨keep, Nat.le_succ _, ⟨_, _, objE, rfl, rfl, rfl, rfl⟩, (have dn1 : h₁.objs.size ≤ dx := dn; show hp.objs.size ≤ dx by omega), dne, hn3⟩⟩
end
end XBadArena
end PySem
namespace L2
open PySem PySem.Spec PyProof.Rows
theorem relO_BadArena {w0 w1 : V} {v0 v1 : Value} (r0 : RelV w0 v0) (r1 : RelV w1 v1) (y : Str) : RelO (List.lookup y [(("state" : Str), w0), (("what" : Str), w1)]) (if y = "what" then some v1 else if y = "state" then some v0 else none) := by
  by_cases h0 : y = "state"
  · have h1 : y ≠ "what" := by rw [h0]; decide
    rw [if_neg h1, if_pos h0, h0]; simp only [List.lookup, beq_self_eq_true]; exact r0
  · have b0 : (y == ("state" : Str)) = false := by simpa using h0
    by_cases h1 : y = "what"
    · rw [if_pos h1]
      have b1 : (y == ("what" : Str)) = true := by simpa using h1
      simp only [List.lookup, b0, b1]; exact r1
    · rw [if_neg h1, if_neg h0]
      have b1 : (y == ("what" : Str)) = false := by simpa using h1
      simp only [List.lookup, b0, b1]; trivial
section
variable {X : Cx} {C fI B : Addr}
theorem pmk_BadArena {e0 e1 : Expr} {ta : TA} {p pos : Pos} {k : Nat} (T : PySem.XBadArena.Txt X.K X.mg C fI B) (hr : Room (k + 1) X.A) (ha : PA X [e0, e1] ta) (hg : Gl X "BadArena" := by rfl)
    (he : starEach (e0 :: [e1]) X.env = (false, eval e0 X.env) :: starEach [e1] X.env := by rfl) (hpl : (backTo pos (starEach [e1] X.env)).any (·.1) = false := by rfl) :
    PMk X (.Call (.Name "BadArena" p) [e0, e1] [] pos) (fun σ H Q => ta σ H fun vs H1 => vs.length = 2 ∧ ∀ d, H1 d = none → Q (.ref C) (some d) (upd H1 d (.xd ((["state", "what"] : List Str).zip vs)))) := by
  intro pins s σ H Q I h
  refine wpAny_Call_Name_kw (ld_glob I hg T.gC ?_)
  refine PySem.W.callWith_K (h₀ := X.base) I.ok.mod.kin T.kC (thn (ha.run pos pins s σ H _ I h) fun us s1 hh => ?_) he hpl
  obtain ⟨vs, H1, I1, r1, hl, q1⟩ := hh
  obtain ⟨w0, w1, rfl⟩ : ∃ w0 w1 : V, vs = [w0, w1] := by
    match vs, hl with
    | [w0, w1], _ => exact ⟨w0, w1, rfl⟩
  obtain ⟨u0, u1, rfl, r0, r1⟩ : ∃ u0 u1 : Value, us = [u0, u1] ∧ RelV w0 u0 ∧ RelV w1 u1 := by
    obtain ⟨u, u', e, r, r'⟩ := vals2 r1
    exact ⟨u, u', e, r, r'⟩
  refine ⟨I1.kIn, ?_⟩
  show wpAny _ _ (call (.ref C) [u0, u1]) _ _ _
  have hlim := I1.nolimit
  obtain ⟨hp, g, dr, tk, os⟩ := s1
  refine wpAny_call (PySem.XBadArena.made T I1.kIn hlim (by have := hr.dp; omega) fun h' tk' e d M => ?_)
  show MkP X pins σ Q (.ref e) ⟨h', g, dr, tk', os⟩
  obtain ⟨oe, fv, hoe, hc, hd, hdat, h1⟩ := M.obj
  have hns := M.ns
  obtain ⟨G', g1, g2⟩ := restrict h' fun b => decide (b ≠ e)
  have gk : ∀ b, b ≠ e → G'.get? b = h'.get? b := fun b hb => g1 b (decide_eq_true hb)
  have ge : G'.get? e = none := g2 e (by simp)
  have old : ∀ b o, hp.get? b = some o → G'.get? b = some o := fun b o q => (gk b (Nat.ne_of_lt (Nat.lt_of_lt_of_le (Heap.lt_size q) M.new))).trans (M.keep b o q)
  have ob : ObjOk X.prog X.w (upd H1 d (.xd [(("state" : Str), w0), (("what" : Str), w1)])) G' d (.xd [(("state" : Str), w0), (("what" : Str), w1)]) :=
    ⟨_, hns.at (fun o q => (gk d M.dne).trans q), fun f => relO_BadArena r0 r1 f⟩
  have J : Inv X pins σ (upd H1 d (.xd [(("state" : Str), w0), (("what" : Str), w1)])) ⟨G', g, dr, tk', os⟩ := I1.laid (t' := tk') old M.dbig ob
  refine ⟨e, oe, fv, ⟨G', g, dr, tk', os⟩, _, .ref C, some d, rfl, J, fun b o q => ?_, ge, hoe, ⟨hc, hd⟩, hdat, h1, ?_, rfl, I1.bare, raises_own T.exC T.tyC, q1 d (I1.hok.fresh M.dbig)⟩
  · by_cases hb : b = e
    · have q' : G'.get? b = some o := q
      rw [hb, ge] at q'; cases q'
    · exact (gk b hb).symm.trans q
  · rw [upd_ne (Ne.symm M.dne)]
    exact I1.hok.fresh M.new
end
end L2

/-! S84 -/
namespace K84
open PySem T L2
def tau : Tab where
  ncl := 1
  att := [(0, "states")]
  sub := fun a b => match a, b with
    | 1, 1 => some true
    | 2, 2 => some true
    | _, _ => none
  gls := [("STATE_KINDS", .tup [.str "end", .str "max", .str "min", .str "mean"])]
theorem tau_sub {c c' : Nat} {b : Bool} (h : tau.sub c c' = some b) : (c = 1 ∧ c' = 1 ∧ b = true) ∨ (c = 2 ∧ c' = 2 ∧ b = true) := by
  unfold tau at h
  dsimp only at h
  split at h <;> simp_all
theorem tau_at {c c' : Nat} (h : tau.sub c' c = some true) (hc : c ∈ [1, 2]) : c' = c := by
  rcases tau_sub h with ⟨rfl, rfl, _⟩ | ⟨rfl, rfl, _⟩ <;> rfl
def dc_turned_round_0 : List (Key × Key) := [((Sum.inr "max" : Key), (Sum.inr "min" : Key)), ((Sum.inr "min" : Key), (Sum.inr "max" : Key)), ((Sum.inr "mean" : Key), (Sum.inr "mean" : Key))]
theorem hm_dc_turned_round_0 : ∀ f : Key → V, mergeK [] (dc_turned_round_0.map fun p => (p.1, f p.2)) = dc_turned_round_0.map fun p => (p.1, f p.2) := by intro f; rfl
def b_is_whole : SX tau := SX.ret (EX.andV (EX.isi "int" (EX.var 0)) (EX.notV (EX.isi "bool" (EX.var 0))))
def sem_is_whole : List A → Res := runDef 1 1 b_is_whole.ev
def b_whole : SX tau := SX.seq (SX.ite (TX.or (TX.not (TX.ofE (EX.call sem_is_whole (AX.cons (EX.var 0) (AX.nil))))) (TX.ofE (EX.lt (EX.var 0) (EX.var 1)))) (SX.raise 1 ["what"] (AX.cons (EX.var 2) (AX.nil))) (SX.nx))
  (SX.ret (EX.var 0))
def sem_whole : List A → Res := runDef 3 3 b_whole.ev
def b_is_list : SX tau := SX.ret (EX.isi2 "list" "tuple" (EX.var 0))
def sem_is_list : List A → Res := runDef 1 1 b_is_list.ev
def b_is_ratio : SX tau := SX.seq (SX.ite (TX.or (TX.not (TX.ofE (EX.call sem_is_list (AX.cons (EX.var 0) (AX.nil))))) (TX.ofE (EX.ne (EX.len (AX.cons (EX.var 0) (AX.nil))) (EX.int 2)))) (SX.ret (EX.bl false)) (SX.nx))
  (SX.ret (EX.andV (EX.call sem_is_whole (AX.cons (EX.idx (EX.var 0) (EX.int 0)) (AX.nil))) (EX.andV (EX.call sem_is_whole (AX.cons (EX.idx (EX.var 0) (EX.int 1)) (AX.nil))) (EX.ge (EX.idx (EX.var 0) (EX.int 1)) (EX.int 1)))))
def sem_is_ratio : List A → Res := runDef 1 1 b_is_ratio.ev
def b_reduced : SX tau := SX.seq (SX.asg 2 (EX.gcd (AX.cons (EX.var 0) (AX.cons (EX.var 1) (AX.nil)))))
  (SX.ret (EX.tup (AX.cons (EX.fdiv (EX.var 0) (EX.var 2)) (AX.cons (EX.fdiv (EX.var 1) (EX.var 2)) (AX.nil)))))
def sem_reduced : List A → Res := runDef 2 3 b_reduced.ev
def b_ratio_in : SX tau := SX.seq (SX.ite (TX.not (TX.ofE (EX.call sem_is_ratio (AX.cons (EX.var 0) (AX.nil))))) (SX.raise 1 ["what"] (AX.cons (EX.str "ratio") (AX.nil))) (SX.nx))
  (SX.ret (EX.call sem_reduced (AX.cons (EX.idx (EX.var 0) (EX.int 0)) (AX.cons (EX.idx (EX.var 0) (EX.int 1)) (AX.nil)))))
def sem_ratio_in : List A → Res := runDef 1 1 b_ratio_in.ev
def b_plus : SX tau := SX.seq (SX.asgG (GX.sq 2 (GXs.cons (GX.name 2) (GXs.cons (GX.name 3) (GXs.nil)))) (EX.call sem_ratio_in (AX.cons (EX.var 0) (AX.nil))))
  (SX.seq (SX.asgG (GX.sq 2 (GXs.cons (GX.name 4) (GXs.cons (GX.name 5) (GXs.nil)))) (EX.call sem_ratio_in (AX.cons (EX.var 1) (AX.nil))))
  (SX.ret (EX.call sem_reduced (AX.cons (EX.add (EX.mul (EX.var 2) (EX.var 5)) (EX.mul (EX.var 4) (EX.var 3))) (AX.cons (EX.mul (EX.var 3) (EX.var 5)) (AX.nil))))))
def sem_plus : List A → Res := runDef 2 6 b_plus.ev
def b_minus : SX tau := SX.seq (SX.asgG (GX.sq 2 (GXs.cons (GX.name 2) (GXs.cons (GX.name 3) (GXs.nil)))) (EX.call sem_ratio_in (AX.cons (EX.var 0) (AX.nil))))
  (SX.seq (SX.asgG (GX.sq 2 (GXs.cons (GX.name 4) (GXs.cons (GX.name 5) (GXs.nil)))) (EX.call sem_ratio_in (AX.cons (EX.var 1) (AX.nil))))
  (SX.ret (EX.call sem_reduced (AX.cons (EX.sub (EX.mul (EX.var 2) (EX.var 5)) (EX.mul (EX.var 4) (EX.var 3))) (AX.cons (EX.mul (EX.var 3) (EX.var 5)) (AX.nil))))))
def sem_minus : List A → Res := runDef 2 6 b_minus.ev
def b_at_most : SX tau := SX.seq (SX.asgG (GX.sq 2 (GXs.cons (GX.name 2) (GXs.cons (GX.name 3) (GXs.nil)))) (EX.call sem_ratio_in (AX.cons (EX.var 0) (AX.nil))))
  (SX.seq (SX.asgG (GX.sq 2 (GXs.cons (GX.name 4) (GXs.cons (GX.name 5) (GXs.nil)))) (EX.call sem_ratio_in (AX.cons (EX.var 1) (AX.nil))))
  (SX.ret (EX.le (EX.mul (EX.var 2) (EX.var 5)) (EX.mul (EX.var 4) (EX.var 3)))))
def sem_at_most : List A → Res := runDef 2 6 b_at_most.ev
def b_mean_of : SX tau := SX.seq (SX.ite (TX.or (TX.not (TX.ofE (EX.call sem_is_list (AX.cons (EX.var 0) (AX.nil))))) (TX.ofE (EX.eq (EX.len (AX.cons (EX.var 0) (AX.nil))) (EX.int 0)))) (SX.raise 1 ["what"] (AX.cons (EX.str "pairs") (AX.nil))) (SX.nx))
  (SX.seq (SX.asg 1 (EX.tup (AX.cons (EX.int 0) (AX.cons (EX.int 1) (AX.nil)))))
  (SX.seq (SX.asg 2 (EX.int 0))
  (SX.seq (SX.forE (IX.seq (EX.var 0)) (GX.name 3) (SX.seq (SX.ite (TX.or (TX.not (TX.ofE (EX.call sem_is_list (AX.cons (EX.var 3) (AX.nil))))) (TX.ofE (EX.ne (EX.len (AX.cons (EX.var 3) (AX.nil))) (EX.int 2)))) (SX.raise 1 ["what"] (AX.cons (EX.str "pairs") (AX.nil))) (SX.nx))
  (SX.seq (SX.asg 4 (EX.call sem_whole (AX.cons (EX.idx (EX.var 3) (EX.int 0)) (AX.cons (EX.int 1) (AX.cons (EX.str "weight") (AX.nil))))))
  (SX.seq (SX.asgG (GX.sq 2 (GXs.cons (GX.name 5) (GXs.cons (GX.name 6) (GXs.nil)))) (EX.call sem_ratio_in (AX.cons (EX.idx (EX.var 3) (EX.int 1)) (AX.nil))))
  (SX.seq (SX.asg 1 (EX.call sem_plus (AX.cons (EX.var 1) (AX.cons (EX.tup (AX.cons (EX.mul (EX.var 4) (EX.var 5)) (AX.cons (EX.var 6) (AX.nil)))) (AX.nil)))))
  (SX.asg 2 (EX.add (EX.var 2) (EX.var 4))))))))
  (SX.ret (EX.call sem_reduced (AX.cons (EX.idx (EX.var 1) (EX.int 0)) (AX.cons (EX.mul (EX.idx (EX.var 1) (EX.int 1)) (EX.var 2)) (AX.nil))))))))
def sem_mean_of : List A → Res := runDef 1 7 b_mean_of.ev
def b_has_state_form : SX tau := SX.seq (SX.ite (TX.or (TX.not (TX.ofE (EX.call sem_is_list (AX.cons (EX.var 0) (AX.nil))))) (TX.ofE (EX.ne (EX.len (AX.cons (EX.var 0) (AX.nil))) (EX.int 2)))) (SX.ret (EX.bl false)) (SX.nx))
  (SX.seq (SX.asgG (GX.sq 2 (GXs.cons (GX.name 1) (GXs.cons (GX.name 2) (GXs.nil)))) (EX.var 0))
  (SX.seq (SX.ite (TX.or (TX.not (TX.ofE (EX.isi "str" (EX.var 1)))) (TX.ofE (EX.notin (EX.var 1) (EX.glob "STATE_KINDS")))) (SX.ret (EX.bl false)) (SX.nx))
  (SX.seq (SX.ite (TX.ofE (EX.eq (EX.var 1) (EX.str "end"))) (SX.ret (EX.bl true)) (SX.nx))
  (SX.seq (SX.ite (TX.not (TX.ofE (EX.call sem_is_list (AX.cons (EX.var 2) (AX.nil))))) (SX.ret (EX.bl false)) (SX.nx))
  (SX.ret (EX.orV (EX.ne (EX.var 1) (EX.str "mean")) (EX.all (AX.cons (EX.ofF (FX.lc (IX.seq (EX.var 2)) (GX.name 3) (TX.yes) (EX.andV (EX.call sem_is_list (AX.cons (EX.var 3) (AX.nil))) (EX.eq (EX.len (AX.cons (EX.var 3) (AX.nil))) (EX.int 2))) [3] (by decide))) (AX.nil)))))))))
def sem_has_state_form : List A → Res := runDef 1 4 b_has_state_form.ev
def b_state_fault : SX tau := SX.seq (SX.ite (TX.not (TX.ofE (EX.call sem_has_state_form (AX.cons (EX.var 0) (AX.nil))))) (SX.ret (EX.str "form")) (SX.nx))
  (SX.seq (SX.asgG (GX.sq 2 (GXs.cons (GX.name 4) (GXs.cons (GX.name 5) (GXs.nil)))) (EX.var 0))
  (SX.seq (SX.ite (TX.ofE (EX.eq (EX.var 4) (EX.str "end"))) (SX.ret (EX.ife (TX.ofE (EX.call sem_is_ratio (AX.cons (EX.var 5) (AX.nil)))) (EX.non) (EX.str "ratio"))) (SX.nx))
  (SX.seq (SX.ite (TX.ofE (EX.eq (EX.len (AX.cons (EX.var 5) (AX.nil))) (EX.int 0))) (SX.ret (EX.str "empty")) (SX.nx))
  (SX.seq (SX.forE (IX.seq (EX.ife (TX.ofE (EX.eq (EX.var 4) (EX.str "mean"))) (EX.ofF (FX.lc (IX.seq (EX.var 5)) (GX.name 6) (TX.yes) (EX.idx (EX.var 6) (EX.int 1)) [6] (by decide))) (EX.ofF (FX.lstOf (AX.cons (EX.var 5) (AX.nil)))))) (GX.name 3) (SX.ite (TX.or (TX.not (TX.ofE (EX.call sem_is_whole (AX.cons (EX.var 3) (AX.nil))))) (TX.or (TX.ofE (EX.le (EX.var 3) (EX.var 1))) (TX.ofE (EX.ge (EX.var 3) (EX.var 2))))) (SX.ret (EX.str "follower")) (SX.nx)))
  (SX.seq (SX.ite (TX.ofE (EX.eq (EX.var 4) (EX.str "mean"))) (SX.forE (IX.seq (EX.var 5)) (GX.name 6) (SX.ite (TX.or (TX.not (TX.ofE (EX.call sem_is_whole (AX.cons (EX.idx (EX.var 6) (EX.int 0)) (AX.nil))))) (TX.ofE (EX.lt (EX.idx (EX.var 6) (EX.int 0)) (EX.int 1)))) (SX.ret (EX.str "weight")) (SX.nx))) (SX.nx))
  (SX.ret EX.non))))))
def sem_state_fault : List A → Res := runDef 3 7 b_state_fault.ev
def b_kept_state : SX tau := SX.seq (SX.asgG (GX.sq 2 (GXs.cons (GX.name 1) (GXs.cons (GX.name 2) (GXs.nil)))) (EX.var 0))
  (SX.seq (SX.ite (TX.ofE (EX.eq (EX.var 1) (EX.str "end"))) (SX.ret (EX.tup (AX.cons (EX.var 1) (AX.cons (EX.call sem_ratio_in (AX.cons (EX.var 2) (AX.nil))) (AX.nil))))) (SX.nx))
  (SX.seq (SX.ite (TX.ofE (EX.eq (EX.var 1) (EX.str "mean"))) (SX.ret (EX.tup (AX.cons (EX.var 1) (AX.cons (EX.tupOf (AX.cons (EX.ofF (FX.lc (IX.seq (EX.var 2)) (GX.name 3) (TX.yes) (EX.tupOf (AX.cons (EX.var 3) (AX.nil))) [3] (by decide))) (AX.nil))) (AX.nil))))) (SX.nx))
  (SX.ret (EX.tup (AX.cons (EX.var 1) (AX.cons (EX.tupOf (AX.cons (EX.var 2) (AX.nil))) (AX.nil)))))))
def sem_kept_state : List A → Res := runDef 1 4 b_kept_state.ev
def b_Arena_init : SX tau := SX.seq (SX.ite (TX.or (TX.not (TX.ofE (EX.call sem_is_list (AX.cons (EX.var 1) (AX.nil))))) (TX.ofE (EX.eq (EX.len (AX.cons (EX.var 1) (AX.nil))) (EX.int 0)))) (SX.raise 2 ["state", "what"] (AX.cons (EX.neg (EX.int 1)) (AX.cons (EX.str "form") (AX.nil)))) (SX.nx))
  (SX.seq (SX.forE (IX.enum (AX.cons (EX.var 1) (AX.nil))) (GX.sq 2 (GXs.cons (GX.name 2) (GXs.cons (GX.name 3) (GXs.nil)))) (SX.seq (SX.asg 4 (EX.call sem_state_fault (AX.cons (EX.var 3) (AX.cons (EX.var 2) (AX.cons (EX.len (AX.cons (EX.var 1) (AX.nil))) (AX.nil))))))
  (SX.ite (TX.ofE (EX.notN (EX.var 4) (EX.non))) (SX.raise 2 ["state", "what"] (AX.cons (EX.var 2) (AX.cons (EX.var 4) (AX.nil)))) (SX.nx))))
  (SX.fset 0 "states" (EX.tupOf (AX.cons (EX.ofF (FX.lc (IX.seq (EX.var 1)) (GX.name 3) (TX.yes) (EX.call sem_kept_state (AX.cons (EX.var 3) (AX.nil))) [3] (by decide))) (AX.nil)))))
def sem_Arena_init : List A → Res := runDef 2 5 b_Arena_init.ev
def b_Arena_many : SX tau := SX.ret (EX.len (AX.cons (EX.fld "states" (EX.var 0)) (AX.nil)))
def sem_Arena_many : List A → Res := runDef 1 1 b_Arena_many.ev
def b_turned_round : SX tau := SX.seq (SX.asg 1 (EX.ofF (FX.dcon dc_turned_round_0 hm_dc_turned_round_0 (by decide))))
  (SX.seq (SX.asgF 2 (FX.lst (AX.nil)))
  (SX.seq (SX.forE (IX.seq (EX.fld "states" (EX.var 0))) (GX.sq 2 (GXs.cons (GX.name 3) (GXs.cons (GX.name 4) (GXs.nil)))) (SX.ite (TX.ofE (EX.eq (EX.var 3) (EX.str "end"))) (SX.app 2 (EX.tup (AX.cons (EX.var 3) (AX.cons (EX.call sem_minus (AX.cons (EX.tup (AX.cons (EX.int 0) (AX.cons (EX.int 1) (AX.nil)))) (AX.cons (EX.var 4) (AX.nil)))) (AX.nil))))) (SX.app 2 (EX.tup (AX.cons (EX.dget (EX.var 1) (EX.var 3)) (AX.cons (EX.var 4) (AX.nil)))))))
  (SX.ret (EX.ofF (FX.make 0 sem_Arena_init (AX.cons (EX.var 2) (AX.nil)))))))
def sem_turned_round : List A → Res := runDef 1 5 b_turned_round.ev
def b_paper_numbers : SX tau := SX.seq (SX.ite (TX.not (TX.ofE (EX.call sem_is_list (AX.cons (EX.var 1) (AX.nil))))) (SX.ret EX.non) (SX.nx))
  (SX.seq (SX.asgF 2 (FX.dnew))
  (SX.seq (SX.forE (IX.seq (EX.var 1)) (GX.name 3) (SX.seq (SX.ite (TX.or (TX.not (TX.ofE (EX.call sem_is_list (AX.cons (EX.var 3) (AX.nil))))) (TX.or (TX.ofE (EX.ne (EX.len (AX.cons (EX.var 3) (AX.nil))) (EX.int 2))) (TX.not (TX.ofE (EX.call sem_is_whole (AX.cons (EX.idx (EX.var 3) (EX.int 0)) (AX.nil))))))) (SX.ret EX.non) (SX.nx))
  (SX.seq (SX.asg 4 (EX.idx (EX.var 3) (EX.int 0)))
  (SX.seq (SX.ite (TX.or (TX.ofE (EX.lt (EX.var 4) (EX.int 0))) (TX.or (TX.ofE (EX.ge (EX.var 4) (EX.prop 0 sem_Arena_many (EX.var 0)))) (TX.or (TX.ofE (EX.dinO (EX.var 4) 2)) (TX.not (TX.ofE (EX.call sem_is_ratio (AX.cons (EX.idx (EX.var 3) (EX.int 1)) (AX.nil)))))))) (SX.ret EX.non) (SX.nx))
  (SX.dput 2 (EX.var 4) (EX.call sem_ratio_in (AX.cons (EX.idx (EX.var 3) (EX.int 1)) (AX.nil))))))))
  (SX.ret (EX.var 2))))
def sem_paper_numbers : List A → Res := runDef 2 5 b_paper_numbers.ev
def b_stands_low : SX tau := SX.seq (SX.asgG (GX.sq 2 (GXs.cons (GX.name 3) (GXs.cons (GX.name 4) (GXs.nil)))) (EX.var 0))
  (SX.seq (SX.ite (TX.ofE (EX.eq (EX.var 3) (EX.str "end"))) (SX.ret (EX.call sem_at_most (AX.cons (EX.var 1) (AX.cons (EX.var 4) (AX.nil))))) (SX.nx))
  (SX.seq (SX.ite (TX.ofE (EX.eq (EX.var 3) (EX.str "max"))) (SX.ret (EX.any (AX.cons (EX.ofF (FX.lc (IX.seq (EX.var 4)) (GX.name 5) (TX.ofE (EX.din (EX.var 5) (EX.var 2))) (EX.call sem_at_most (AX.cons (EX.var 1) (AX.cons (EX.dget (EX.var 2) (EX.var 5)) (AX.nil)))) [5] (by decide))) (AX.nil)))) (SX.nx))
  (SX.seq (SX.ite (TX.ofE (EX.eq (EX.var 3) (EX.str "min"))) (SX.ret (EX.all (AX.cons (EX.ofF (FX.lc (IX.seq (EX.var 4)) (GX.name 5) (TX.yes) (EX.andV (EX.din (EX.var 5) (EX.var 2)) (EX.call sem_at_most (AX.cons (EX.var 1) (AX.cons (EX.dget (EX.var 2) (EX.var 5)) (AX.nil))))) [5] (by decide))) (AX.nil)))) (SX.nx))
  (SX.seq (SX.ite (TX.not (TX.ofE (EX.all (AX.cons (EX.ofF (FX.lc (IX.seq (EX.var 4)) (GX.sq 2 (GXs.cons (GX.name 6) (GXs.cons (GX.name 5) (GXs.nil)))) (TX.yes) (EX.din (EX.var 5) (EX.var 2)) [6, 5] (by decide))) (AX.nil))))) (SX.ret (EX.bl false)) (SX.nx))
  (SX.ret (EX.call sem_at_most (AX.cons (EX.var 1) (AX.cons (EX.call sem_mean_of (AX.cons (EX.ofF (FX.lc (IX.seq (EX.var 4)) (GX.sq 2 (GXs.cons (GX.name 7) (GXs.cons (GX.name 5) (GXs.nil)))) (TX.yes) (EX.tup (AX.cons (EX.var 7) (AX.cons (EX.dget (EX.var 2) (EX.var 5)) (AX.nil)))) [7, 5] (by decide))) (AX.nil))) (AX.nil)))))))))
def sem_stands_low : List A → Res := runDef 3 8 b_stands_low.ev
def b_first_fallen : SX tau := SX.seq (SX.forE (IX.seq (EX.ofF (FX.sortD (AX.cons (EX.var 1) (AX.nil))))) (GX.name 2) (SX.ite (TX.not (TX.ofE (EX.call sem_stands_low (AX.cons (EX.idx (EX.fld "states" (EX.var 0)) (EX.var 2)) (AX.cons (EX.dget (EX.var 1) (EX.var 2)) (AX.cons (EX.var 1) (AX.nil))))))) (SX.ret (EX.var 2)) (SX.nx)))
  (SX.ret EX.non)
def sem_first_fallen : List A → Res := runDef 2 3 b_first_fallen.ev
def b_judge_low : SX tau := SX.seq (SX.asg 3 (EX.call sem_ratio_in (AX.cons (EX.var 2) (AX.nil))))
  (SX.seq (SX.asg 4 (EX.call sem_paper_numbers (AX.cons (EX.var 0) (AX.cons (EX.var 1) (AX.nil)))))
  (SX.seq (SX.ite (TX.ofE (EX.isN (EX.var 4) (EX.non))) (SX.ret (EX.str "form")) (SX.nx))
  (SX.seq (SX.ite (TX.ofE (EX.dnin (EX.int 0) (EX.var 4))) (SX.ret (EX.str "first")) (SX.nx))
  (SX.seq (SX.asg 5 (EX.call sem_first_fallen (AX.cons (EX.var 0) (AX.cons (EX.var 4) (AX.nil)))))
  (SX.seq (SX.ite (TX.ofE (EX.notN (EX.var 5) (EX.non))) (SX.ret (EX.idx (EX.idx (EX.fld "states" (EX.var 0)) (EX.var 5)) (EX.int 0))) (SX.nx))
  (SX.seq (SX.ite (TX.not (TX.ofE (EX.call sem_at_most (AX.cons (EX.var 3) (AX.cons (EX.dget (EX.var 4) (EX.int 0)) (AX.nil)))))) (SX.ret (EX.str "number")) (SX.nx))
  (SX.ret (EX.str "right"))))))))
def sem_judge_low : List A → Res := runDef 3 6 b_judge_low.ev
def b_judge_high : SX tau := SX.seq (SX.asg 3 (EX.call sem_ratio_in (AX.cons (EX.var 2) (AX.nil))))
  (SX.seq (SX.asg 4 (EX.call sem_paper_numbers (AX.cons (EX.var 0) (AX.cons (EX.var 1) (AX.nil)))))
  (SX.seq (SX.ite (TX.ofE (EX.isN (EX.var 4) (EX.non))) (SX.ret (EX.str "form")) (SX.nx))
  (SX.seq (SX.ite (TX.ofE (EX.dnin (EX.int 0) (EX.var 4))) (SX.ret (EX.str "first")) (SX.nx))
  (SX.seq (SX.asgF 5 (FX.dcK 4 (GX.name 7) (TX.yes) (EX.var 7) (EX.call sem_minus (AX.cons (EX.tup (AX.cons (EX.int 0) (AX.cons (EX.int 1) (AX.nil)))) (AX.cons (EX.dget (EX.var 4) (EX.var 7)) (AX.nil)))) [7] (by decide)))
  (SX.seq (SX.asg 6 (EX.call sem_first_fallen (AX.cons (EX.call sem_turned_round (AX.cons (EX.var 0) (AX.nil))) (AX.cons (EX.var 5) (AX.nil)))))
  (SX.seq (SX.ite (TX.ofE (EX.notN (EX.var 6) (EX.non))) (SX.ret (EX.idx (EX.idx (EX.fld "states" (EX.var 0)) (EX.var 6)) (EX.int 0))) (SX.nx))
  (SX.seq (SX.ite (TX.not (TX.ofE (EX.call sem_at_most (AX.cons (EX.dget (EX.var 4) (EX.int 0)) (AX.cons (EX.var 3) (AX.nil)))))) (SX.ret (EX.str "number")) (SX.nx))
  (SX.ret (EX.str "right")))))))))
def sem_judge_high : List A → Res := runDef 3 8 b_judge_high.ev
def b__law_draws : SX tau := SX.seq (SX.asgF 1 (FX.lst (AX.nil)))
  (SX.seq (SX.forE (IX.range1 (AX.cons (EX.min2 (AX.cons (EX.len (AX.cons (EX.var 0) (AX.nil))) (AX.cons (EX.int 63) (AX.nil)))) (AX.nil))) (GX.name 2) (SX.seq (SX.asg 3 (EX.int1 (AX.cons (EX.idx (EX.var 0) (EX.var 2)) (AX.nil))))
  (SX.seq (SX.ite (TX.ofE (EX.lt (EX.var 3) (EX.int 0))) (SX.asg 3 (EX.sub (EX.int 1) (EX.var 3))) (SX.nx))
  (SX.seq (SX.asg 3 (EX.mod (EX.int1 (AX.cons (EX.var 3) (AX.nil))) (EX.int 700000000000)))
  (SX.forE (IX.range1 (AX.cons (EX.int 11) (AX.nil))) (GX.name 4) (SX.ite (TX.or (TX.ofE (EX.eq (EX.var 4) (EX.int 0))) (TX.ofE (EX.gt (EX.var 3) (EX.int 0)))) (SX.seq (SX.app 1 (EX.mod (EX.int1 (AX.cons (EX.var 3) (AX.nil))) (EX.int 12)))
  (SX.asg 3 (EX.fdiv (EX.int1 (AX.cons (EX.var 3) (AX.nil))) (EX.int 12)))) (SX.nx)))))))
  (SX.seq (SX.rev 1)
  (SX.retO 1)))
def sem__law_draws : List A → Res := runDef 1 5 b__law_draws.ev
def b__law_take : SX tau := SX.seq (SX.ite (TX.ofE (EX.eq (EX.lenO 0) (EX.int 0))) (SX.ret (EX.int 0)) (SX.nx))
  (SX.ret (EX.mod (EX.int1 (AX.cons (EX.pop 0) (AX.nil))) (EX.var 1)))
def sem__law_take : List A → Res := runDef 2 2 b__law_take.ev
def b__law_pick : SX tau := SX.ret (EX.idx (EX.var 1) (EX.call sem__law_take (AX.lend 0 (AX.cons (EX.len (AX.cons (EX.var 1) (AX.nil))) (AX.nil)))))
def sem__law_pick : List A → Res := runDef 2 2 b__law_pick.ev
def b__law_whole : SX tau := SX.ret (EX.andV (EX.isi "int" (EX.var 0)) (EX.notV (EX.isi "bool" (EX.var 0))))
def sem__law_whole : List A → Res := runDef 1 1 b__law_whole.ev
def b__law_drawn_ratio : SX tau := SX.ret (EX.call sem__law_pick (AX.lend 0 (AX.cons (EX.ofF (FX.lst (AX.cons (EX.tup (AX.cons (EX.int 3) (AX.cons (EX.int 1) (AX.nil)))) (AX.cons (EX.tup (AX.cons (EX.int 0) (AX.cons (EX.int 1) (AX.nil)))) (AX.cons (EX.tup (AX.cons (EX.neg (EX.int 1)) (AX.cons (EX.int 2) (AX.nil)))) (AX.cons (EX.tup (AX.cons (EX.int 2) (AX.cons (EX.int 4) (AX.nil)))) (AX.cons (EX.tup (AX.cons (EX.int 5) (AX.cons (EX.int 7) (AX.nil)))) (AX.cons (EX.tup (AX.cons (EX.pow (EX.int 10) (EX.int 12)) (AX.cons (EX.int 1) (AX.nil)))) (AX.cons (EX.tup (AX.cons (EX.neg (EX.int 8)) (AX.cons (EX.int 2) (AX.nil)))) (AX.cons (EX.tup (AX.cons (EX.int 1) (AX.cons (EX.int 3) (AX.nil)))) (AX.nil))))))))))) (AX.nil))))
def sem__law_drawn_ratio : List A → Res := runDef 1 1 b__law_drawn_ratio.ev
def b__law_drawn_states : SX tau := SX.seq (SX.asg 1 (EX.call sem__law_pick (AX.lend 0 (AX.cons (EX.ofF (FX.lst (AX.cons (EX.int 5) (AX.cons (EX.int 4) (AX.cons (EX.int 3) (AX.cons (EX.int 6) (AX.cons (EX.int 2) (AX.cons (EX.int 1) (AX.cons (EX.int 7) (AX.cons (EX.int 8) (AX.nil))))))))))) (AX.nil)))))
  (SX.seq (SX.asgF 2 (FX.lst (AX.nil)))
  (SX.seq (SX.forE (IX.range1 (AX.cons (EX.sub (EX.var 1) (EX.int 1)) (AX.nil))) (GX.name 3) (SX.seq (SX.asg 4 (EX.call sem__law_pick (AX.lend 0 (AX.cons (EX.ofF (FX.lst (AX.cons (EX.idx (EX.ofF (FX.lst (AX.cons (EX.str "max") (AX.cons (EX.str "min") (AX.cons (EX.str "mean") (AX.nil)))))) (EX.mod (EX.var 3) (EX.int 3))) (AX.cons (EX.str "min") (AX.cons (EX.str "mean") (AX.cons (EX.str "max") (AX.cons (EX.str "end") (AX.nil)))))))) (AX.nil)))))
  (SX.seq (SX.asg 5 (EX.sub (EX.sub (EX.var 1) (EX.int 1)) (EX.var 3)))
  (SX.seq (SX.asgF 6 (FX.lc (IX.range1 (AX.cons (EX.call sem__law_pick (AX.lend 0 (AX.cons (EX.ofF (FX.lst (AX.cons (EX.int 2) (AX.cons (EX.int 1) (AX.cons (EX.int 3) (AX.nil)))))) (AX.nil)))) (AX.nil))) (GX.name 7) (TX.yes) (EX.add (EX.add (EX.var 3) (EX.int 1)) (EX.mod (EX.add (EX.var 7) (EX.call sem__law_take (AX.lend 0 (AX.cons (EX.var 5) (AX.nil))))) (EX.var 5))) [7] (by decide)))
  (SX.ite (TX.ofE (EX.eq (EX.var 4) (EX.str "end"))) (SX.app 2 (EX.tup (AX.cons (EX.str "end") (AX.cons (EX.call sem__law_drawn_ratio (AX.lend 0 (AX.nil))) (AX.nil))))) (SX.ite (TX.ofE (EX.eq (EX.var 4) (EX.str "mean"))) (SX.app 2 (EX.tup (AX.cons (EX.str "mean") (AX.cons (EX.ofF (FX.lc (IX.seq (EX.var 6)) (GX.name 8) (TX.yes) (EX.tup (AX.cons (EX.call sem__law_pick (AX.lend 0 (AX.cons (EX.ofF (FX.lst (AX.cons (EX.int 1) (AX.cons (EX.int 2) (AX.cons (EX.int 3) (AX.cons (EX.int 1) (AX.cons (EX.int 5) (AX.cons (EX.int 100) (AX.nil))))))))) (AX.nil)))) (AX.cons (EX.var 8) (AX.nil)))) [8] (by decide))) (AX.nil))))) (SX.app 2 (EX.tup (AX.cons (EX.var 4) (AX.cons (EX.var 6) (AX.nil)))))))))))
  (SX.ret (EX.add (EX.var 2) (EX.ofF (FX.lst (AX.cons (EX.tup (AX.cons (EX.str "end") (AX.cons (EX.call sem__law_drawn_ratio (AX.lend 0 (AX.nil))) (AX.nil)))) (AX.nil))))))))
def sem__law_drawn_states : List A → Res := runDef 1 9 b__law_drawn_states.ev
def b__law_least_terms : SX tau := SX.seq (SX.asg 2 (EX.abs (AX.cons (EX.var 0) (AX.nil))))
  (SX.seq (SX.asg 3 (EX.var 1))
  (SX.seq (SX.forE (IX.range1 (AX.cons (EX.add (EX.mul (EX.int 2) (EX.bits (EX.var 1))) (EX.int 10)) (AX.nil))) (GX.name 4) (SX.ite (TX.ofE (EX.gt (EX.var 3) (EX.int 0))) (SX.seq (SX.asg 5 (EX.mod (EX.int1 (AX.cons (EX.var 2) (AX.nil))) (EX.var 3)))
  (SX.seq (SX.asg 2 (EX.var 3))
  (SX.asg 3 (EX.var 5)))) (SX.nx)))
  (SX.ret (EX.tup (AX.cons (EX.fdiv (EX.var 0) (EX.var 2)) (AX.cons (EX.fdiv (EX.var 1) (EX.var 2)) (AX.nil)))))))
def sem__law_least_terms : List A → Res := runDef 2 6 b__law_least_terms.ev
def b__law_plus : SX tau := SX.ret (EX.call sem__law_least_terms (AX.cons (EX.add (EX.mul (EX.idx (EX.var 0) (EX.int 0)) (EX.idx (EX.var 1) (EX.int 1))) (EX.mul (EX.idx (EX.var 1) (EX.int 0)) (EX.idx (EX.var 0) (EX.int 1)))) (AX.cons (EX.mul (EX.idx (EX.var 0) (EX.int 1)) (EX.idx (EX.var 1) (EX.int 1))) (AX.nil))))
def sem__law_plus : List A → Res := runDef 2 2 b__law_plus.ev
def b__law_at_most : SX tau := SX.ret (EX.le (EX.mul (EX.idx (EX.var 0) (EX.int 0)) (EX.idx (EX.var 1) (EX.int 1))) (EX.mul (EX.idx (EX.var 1) (EX.int 0)) (EX.idx (EX.var 0) (EX.int 1))))
def sem__law_at_most : List A → Res := runDef 2 2 b__law_at_most.ev
def b__law_mean : SX tau := SX.seq (SX.asg 1 (EX.tup (AX.cons (EX.int 0) (AX.cons (EX.int 1) (AX.nil)))))
  (SX.seq (SX.asg 2 (EX.int 0))
  (SX.seq (SX.forE (IX.seq (EX.var 0)) (GX.name 3) (SX.seq (SX.asg 1 (EX.call sem__law_plus (AX.cons (EX.var 1) (AX.cons (EX.tup (AX.cons (EX.mul (EX.idx (EX.var 3) (EX.int 0)) (EX.idx (EX.idx (EX.var 3) (EX.int 1)) (EX.int 0))) (AX.cons (EX.idx (EX.idx (EX.var 3) (EX.int 1)) (EX.int 1)) (AX.nil)))) (AX.nil)))))
  (SX.asg 2 (EX.add (EX.var 2) (EX.idx (EX.var 3) (EX.int 0))))))
  (SX.ret (EX.call sem__law_least_terms (AX.cons (EX.idx (EX.var 1) (EX.int 0)) (AX.cons (EX.mul (EX.idx (EX.var 1) (EX.int 1)) (EX.var 2)) (AX.nil)))))))
def sem__law_mean : List A → Res := runDef 1 4 b__law_mean.ev
def b__law_values : SX tau := SX.seq (SX.asgF 1 (FX.lc (IX.seq (EX.var 0)) (GX.name 6) (TX.yes) (EX.tup (AX.cons (EX.int 0) (AX.cons (EX.int 1) (AX.nil)))) [6] (by decide)))
  (SX.seq (SX.forE (IX.range1 (AX.cons (EX.len (AX.cons (EX.var 0) (AX.nil))) (AX.nil))) (GX.name 2) (SX.seq (SX.asg 3 (EX.sub (EX.sub (EX.len (AX.cons (EX.var 0) (AX.nil))) (EX.int 1)) (EX.var 2)))
  (SX.seq (SX.asg 4 (EX.idx (EX.idx (EX.var 0) (EX.var 3)) (EX.int 0)))
  (SX.seq (SX.asg 5 (EX.idx (EX.idx (EX.var 0) (EX.var 3)) (EX.int 1)))
  (SX.ite (TX.ofE (EX.eq (EX.var 4) (EX.str "end"))) (SX.setL 1 (EX.var 3) (EX.call sem__law_least_terms (AX.cons (EX.idx (EX.var 5) (EX.int 0)) (AX.cons (EX.idx (EX.var 5) (EX.int 1)) (AX.nil))))) (SX.ite (TX.ofE (EX.eq (EX.var 4) (EX.str "mean"))) (SX.setL 1 (EX.var 3) (EX.call sem__law_mean (AX.cons (EX.ofF (FX.lc (IX.seq (EX.var 5)) (GX.name 8) (TX.yes) (EX.tup (AX.cons (EX.idx (EX.var 8) (EX.int 0)) (AX.cons (EX.idxO 1 (EX.idx (EX.var 8) (EX.int 1))) (AX.nil)))) [8] (by decide))) (AX.nil)))) (SX.seq (SX.setL 1 (EX.var 3) (EX.idxO 1 (EX.idx (EX.var 5) (EX.int 0))))
  (SX.forE (IX.seq (EX.var 5)) (GX.name 7) (SX.ite (TX.ofE (EX.eq (EX.call sem__law_at_most (AX.cons (EX.idxO 1 (EX.var 7)) (AX.cons (EX.idxO 1 (EX.var 3)) (AX.nil)))) (EX.eq (EX.var 4) (EX.str "min")))) (SX.setL 1 (EX.var 3) (EX.idxO 1 (EX.var 7))) (SX.nx))))))))))
  (SX.ret (EX.var 1)))
def sem__law_values : List A → Res := runDef 1 9 b__law_values.ev
def b__law_is_ratio : SX tau := SX.seq (SX.ite (TX.or (TX.not (TX.ofE (EX.isi2 "list" "tuple" (EX.var 0)))) (TX.ofE (EX.ne (EX.len (AX.cons (EX.var 0) (AX.nil))) (EX.int 2)))) (SX.ret (EX.bl false)) (SX.nx))
  (SX.ret (EX.andV (EX.call sem__law_whole (AX.cons (EX.idx (EX.var 0) (EX.int 0)) (AX.nil))) (EX.andV (EX.call sem__law_whole (AX.cons (EX.idx (EX.var 0) (EX.int 1)) (AX.nil))) (EX.ge (EX.idx (EX.var 0) (EX.int 1)) (EX.int 1)))))
def sem__law_is_ratio : List A → Res := runDef 1 1 b__law_is_ratio.ev
def b__law_less : SX tau := SX.seq (SX.ite (TX.ofE (EX.var 0)) (SX.ret (EX.call sem__law_at_most (AX.cons (EX.var 1) (AX.cons (EX.var 2) (AX.nil))))) (SX.nx))
  (SX.ret (EX.call sem__law_at_most (AX.cons (EX.var 2) (AX.cons (EX.var 1) (AX.nil)))))
def sem__law_less : List A → Res := runDef 3 3 b__law_less.ev
def b__law_keeps : SX tau := SX.seq (SX.asg 4 (EX.idx (EX.idx (EX.var 0) (EX.var 2)) (EX.int 0)))
  (SX.seq (SX.asg 5 (EX.idx (EX.idx (EX.var 0) (EX.var 2)) (EX.int 1)))
  (SX.seq (SX.asg 6 (EX.idx (EX.var 1) (EX.var 2)))
  (SX.seq (SX.ite (TX.ofE (EX.eq (EX.var 4) (EX.str "end"))) (SX.ret (EX.call sem__law_less (AX.cons (EX.var 3) (AX.cons (EX.var 6) (AX.cons (EX.var 5) (AX.nil)))))) (SX.nx))
  (SX.seq (SX.ite (TX.ofE (EX.eq (EX.var 4) (EX.str "mean"))) (SX.seq (SX.ite (TX.ofE (EX.gt (EX.len (AX.cons (EX.ofF (FX.lc (IX.seq (EX.var 5)) (GX.name 9) (TX.ofE (EX.isN (EX.idx (EX.var 1) (EX.idx (EX.var 9) (EX.int 1))) (EX.non))) (EX.var 9) [9] (by decide))) (AX.nil))) (EX.int 0))) (SX.ret (EX.bl false)) (SX.nx))
  (SX.ret (EX.call sem__law_less (AX.cons (EX.var 3) (AX.cons (EX.var 6) (AX.cons (EX.call sem__law_mean (AX.cons (EX.ofF (FX.lc (IX.seq (EX.var 5)) (GX.name 9) (TX.yes) (EX.tup (AX.cons (EX.idx (EX.var 9) (EX.int 0)) (AX.cons (EX.idx (EX.var 1) (EX.idx (EX.var 9) (EX.int 1))) (AX.nil)))) [9] (by decide))) (AX.nil))) (AX.nil))))))) (SX.nx))
  (SX.seq (SX.asgF 7 (FX.lc (IX.seq (EX.var 5)) (GX.name 8) (TX.and (TX.ofE (EX.notN (EX.idx (EX.var 1) (EX.var 8)) (EX.non))) (TX.ofE (EX.call sem__law_less (AX.cons (EX.var 3) (AX.cons (EX.var 6) (AX.cons (EX.idx (EX.var 1) (EX.var 8)) (AX.nil))))))) (EX.var 8) [8] (by decide)))
  (SX.seq (SX.ite (TX.ofE (EX.eq (EX.eq (EX.var 4) (EX.str "max")) (EX.var 3))) (SX.ret (EX.gt (EX.len (AX.cons (EX.var 7) (AX.nil))) (EX.int 0))) (SX.nx))
  (SX.ret (EX.eq (EX.len (AX.cons (EX.var 7) (AX.nil))) (EX.len (AX.cons (EX.var 5) (AX.nil)))))))))))
def sem__law_keeps : List A → Res := runDef 4 10 b__law_keeps.ev
def b__law_word : SX tau := SX.seq (SX.ite (TX.not (TX.ofE (EX.isi2 "list" "tuple" (EX.var 1)))) (SX.ret (EX.str "form")) (SX.nx))
  (SX.seq (SX.asgF 4 (FX.lc (IX.seq (EX.var 0)) (GX.name 7) (TX.yes) (EX.non) [7] (by decide)))
  (SX.seq (SX.forE (IX.seq (EX.var 1)) (GX.name 5) (SX.seq (SX.ite (TX.or (TX.not (TX.ofE (EX.isi2 "list" "tuple" (EX.var 5)))) (TX.or (TX.ofE (EX.ne (EX.len (AX.cons (EX.var 5) (AX.nil))) (EX.int 2))) (TX.or (TX.not (TX.ofE (EX.call sem__law_whole (AX.cons (EX.idx (EX.var 5) (EX.int 0)) (AX.nil))))) (TX.not (TX.ofE (EX.call sem__law_is_ratio (AX.cons (EX.idx (EX.var 5) (EX.int 1)) (AX.nil)))))))) (SX.ret (EX.str "form")) (SX.nx))
  (SX.seq (SX.ite (TX.or (TX.ofE (EX.lt (EX.idx (EX.var 5) (EX.int 0)) (EX.int 0))) (TX.or (TX.ofE (EX.ge (EX.idx (EX.var 5) (EX.int 0)) (EX.len (AX.cons (EX.var 0) (AX.nil))))) (TX.ofE (EX.notN (EX.idxO 4 (EX.idx (EX.var 5) (EX.int 0))) (EX.non))))) (SX.ret (EX.str "form")) (SX.nx))
  (SX.setL 4 (EX.idx (EX.var 5) (EX.int 0)) (EX.idx (EX.var 5) (EX.int 1))))))
  (SX.seq (SX.ite (TX.ofE (EX.isN (EX.idxO 4 (EX.int 0)) (EX.non))) (SX.ret (EX.str "first")) (SX.nx))
  (SX.seq (SX.forE (IX.range1 (AX.cons (EX.len (AX.cons (EX.var 0) (AX.nil))) (AX.nil))) (GX.name 6) (SX.ite (TX.and (TX.ofE (EX.notN (EX.idxO 4 (EX.var 6)) (EX.non))) (TX.not (TX.ofE (EX.call sem__law_keeps (AX.cons (EX.var 0) (AX.cons (EX.var 4) (AX.cons (EX.var 6) (AX.cons (EX.var 3) (AX.nil))))))))) (SX.ret (EX.idx (EX.idx (EX.var 0) (EX.var 6)) (EX.int 0))) (SX.nx)))
  (SX.ret (EX.ife (TX.ofE (EX.call sem__law_less (AX.cons (EX.var 3) (AX.cons (EX.var 2) (AX.cons (EX.idxO 4 (EX.int 0)) (AX.nil)))))) (EX.str "right") (EX.str "number")))))))
def sem__law_word : List A → Res := runDef 4 8 b__law_word.ev
def b__law_judged : SX tau := SX.seq (SX.asg 4 (EX.str "nothing"))
  (SX.seq (SX.try1 (SX.ite (TX.ofE (EX.var 3)) (SX.asg 4 (EX.call sem_judge_low (AX.cons (EX.var 0) (AX.cons (EX.var 1) (AX.cons (EX.var 2) (AX.nil)))))) (SX.asg 4 (EX.call sem_judge_high (AX.cons (EX.var 0) (AX.cons (EX.var 1) (AX.cons (EX.var 2) (AX.nil))))))) 1 5 (HX.lst 4 [.str "number", .fld "what"]))
  (SX.ret (EX.var 4)))
def sem__law_judged : List A → Res := runDef 4 6 b__law_judged.ev
def b__law_moved : SX tau := SX.ret (EX.call sem__law_plus (AX.cons (EX.var 0) (AX.cons (EX.tup (AX.cons (EX.ife (TX.ofE (EX.var 1)) (EX.idx (EX.var 2) (EX.int 0)) (EX.sub (EX.int 0) (EX.idx (EX.var 2) (EX.int 0)))) (AX.cons (EX.idx (EX.var 2) (EX.int 1)) (AX.nil)))) (AX.nil))))
def sem__law_moved : List A → Res := runDef 3 3 b__law_moved.ev
def b__law_papers : SX tau := SX.seq (SX.asg 4 (EX.len (AX.cons (EX.var 1) (AX.nil))))
  (SX.seq (SX.asgF 5 (FX.lc (IX.range1 (AX.cons (EX.var 4) (AX.nil))) (GX.name 10) (TX.yes) (EX.tup (AX.cons (EX.var 10) (AX.cons (EX.idx (EX.var 2) (EX.var 10)) (AX.nil)))) [10] (by decide)))
  (SX.seq (SX.asgF 6 (FX.lc (IX.range1 (AX.cons (EX.var 4) (AX.nil))) (GX.name 10) (TX.yes) (EX.ofF (FX.lst (AX.cons (EX.var 10) (AX.cons (EX.ofF (FX.lst (AX.cons (EX.mul (EX.idx (EX.idx (EX.var 2) (EX.var 10)) (EX.int 0)) (EX.int 3)) (AX.cons (EX.mul (EX.idx (EX.idx (EX.var 2) (EX.var 10)) (EX.int 1)) (EX.int 3)) (AX.nil))))) (AX.nil))))) [10] (by decide)))
  (SX.seq (SX.rev 6)
  (SX.seq (SX.asgF 7 (FX.lc (IX.range1 (AX.cons (EX.var 4) (AX.nil))) (GX.name 10) (TX.yes) (EX.tup (AX.cons (EX.var 10) (AX.cons (EX.call sem__law_moved (AX.cons (EX.idx (EX.var 2) (EX.var 10)) (AX.cons (EX.notV (EX.var 3)) (AX.cons (EX.tup (AX.cons (EX.int 5) (AX.cons (EX.int 2) (AX.nil)))) (AX.nil))))) (AX.nil)))) [10] (by decide)))
  (SX.seq (SX.asgF 8 (FX.lst (AX.cons (EX.var 5) (AX.cons (EX.var 6) (AX.cons (EX.var 7) (AX.cons (EX.ofF (FX.lst (AX.nil))) (AX.cons (EX.non) (AX.cons (EX.int 7) (AX.cons (EX.add (EX.var 5) (EX.ofF (FX.lst (AX.cons (EX.idx (EX.var 5) (EX.sub (EX.var 4) (EX.int 1))) (AX.nil))))) (AX.cons (EX.ofF (FX.slice (EX.var 5) (OX.at (EX.int 1)) (OX.no))) (AX.cons (EX.add (EX.var 5) (EX.ofF (FX.lst (AX.cons (EX.tup (AX.cons (EX.var 4) (AX.cons (EX.tup (AX.cons (EX.int 1) (AX.cons (EX.int 1) (AX.nil)))) (AX.nil)))) (AX.nil))))) (AX.nil))))))))))))
  (SX.seq (SX.asgF 8 (FX.addL (EX.var 8) (EX.ofF (FX.lst (AX.cons (EX.add (EX.ofF (FX.slice (EX.var 5) (OX.at (EX.int 1)) (OX.no))) (EX.ofF (FX.lst (AX.cons (EX.tup (AX.cons (EX.int 0) (AX.cons (EX.tup (AX.cons (EX.int 1) (AX.cons (EX.int 0) (AX.nil)))) (AX.nil)))) (AX.nil))))) (AX.cons (EX.add (EX.ofF (FX.slice (EX.var 5) (OX.at (EX.int 1)) (OX.no))) (EX.ofF (FX.lst (AX.cons (EX.tup (AX.cons (EX.int 0) (AX.cons (EX.int 1) (AX.nil)))) (AX.nil))))) (AX.cons (EX.add (EX.ofF (FX.slice (EX.var 5) (OX.at (EX.int 1)) (OX.no))) (EX.ofF (FX.lst (AX.cons (EX.tup (AX.cons (EX.int 0) (AX.cons (EX.tup (AX.cons (EX.int 1) (AX.cons (EX.bl true) (AX.nil)))) (AX.nil)))) (AX.nil))))) (AX.cons (EX.add (EX.ofF (FX.slice (EX.var 5) (OX.at (EX.int 1)) (OX.no))) (EX.ofF (FX.lst (AX.cons (EX.tup (AX.cons (EX.int 0) (AX.nil))) (AX.nil))))) (AX.nil)))))))))
  (SX.seq (SX.asgF 8 (FX.addL (EX.var 8) (EX.ofF (FX.lst (AX.cons (EX.add (EX.ofF (FX.slice (EX.var 5) (OX.at (EX.int 1)) (OX.no))) (EX.ofF (FX.lst (AX.cons (EX.tup (AX.cons (EX.bl false) (AX.cons (EX.idx (EX.var 2) (EX.int 0)) (AX.nil)))) (AX.nil))))) (AX.cons (EX.add (EX.var 5) (EX.ofF (FX.lst (AX.cons (EX.tup (AX.cons (EX.neg (EX.int 1)) (AX.cons (EX.tup (AX.cons (EX.int 1) (AX.cons (EX.int 1) (AX.nil)))) (AX.nil)))) (AX.nil))))) (AX.cons (EX.add (EX.ofF (FX.slice (EX.var 5) (OX.at (EX.int 1)) (OX.no))) (EX.ofF (FX.lst (AX.cons (EX.tup (AX.cons (EX.str "0") (AX.cons (EX.idx (EX.var 2) (EX.int 0)) (AX.nil)))) (AX.nil))))) (AX.cons (EX.add (EX.var 5) (EX.ofF (FX.lst (AX.cons (EX.non) (AX.nil))))) (AX.nil)))))))))
  (SX.seq (SX.asg 9 (EX.call sem__law_pick (AX.lend 0 (AX.cons (EX.ofF (FX.lst (AX.cons (EX.tup (AX.cons (EX.int 1) (AX.cons (EX.int 1) (AX.nil)))) (AX.cons (EX.tup (AX.cons (EX.int 1) (AX.cons (EX.int 1000) (AX.nil)))) (AX.cons (EX.tup (AX.cons (EX.pow (EX.int 10) (EX.int 12)) (AX.cons (EX.int 3) (AX.nil)))) (AX.nil)))))) (AX.nil)))))
  (SX.seq (SX.forE (IX.range1 (AX.cons (EX.var 4) (AX.nil))) (GX.name 10) (SX.seq (SX.app 8 (EX.add (EX.ofF (FX.slice (EX.var 5) (OX.no) (OX.at (EX.var 10)))) (EX.ofF (FX.slice (EX.var 5) (OX.at (EX.add (EX.var 10) (EX.int 1))) (OX.no)))))
  (SX.seq (SX.app 8 (EX.add (EX.add (EX.ofF (FX.slice (EX.var 5) (OX.no) (OX.at (EX.var 10)))) (EX.ofF (FX.lst (AX.cons (EX.tup (AX.cons (EX.var 10) (AX.cons (EX.call sem__law_moved (AX.cons (EX.idx (EX.var 2) (EX.var 10)) (AX.cons (EX.var 3) (AX.cons (EX.var 9) (AX.nil))))) (AX.nil)))) (AX.nil))))) (EX.ofF (FX.slice (EX.var 5) (OX.at (EX.add (EX.var 10) (EX.int 1))) (OX.no)))))
  (SX.app 8 (EX.add (EX.add (EX.ofF (FX.slice (EX.var 5) (OX.no) (OX.at (EX.var 10)))) (EX.ofF (FX.lst (AX.cons (EX.tup (AX.cons (EX.var 10) (AX.cons (EX.call sem__law_moved (AX.cons (EX.idx (EX.var 2) (EX.var 10)) (AX.cons (EX.notV (EX.var 3)) (AX.cons (EX.var 9) (AX.nil))))) (AX.nil)))) (AX.nil))))) (EX.ofF (FX.slice (EX.var 5) (OX.at (EX.add (EX.var 10) (EX.int 1))) (OX.no))))))))
  (SX.seq (SX.asg 11 (EX.ofF (FX.lst (AX.cons (EX.int 0) (AX.nil)))))
  (SX.seq (SX.forE (IX.range1 (AX.cons (EX.var 4) (AX.nil))) (GX.name 10) (SX.ite (TX.and (TX.ofE (EX.isin (EX.var 10) (EX.var 11))) (TX.ofE (EX.isin (EX.idx (EX.idx (EX.var 1) (EX.var 10)) (EX.int 0)) (EX.tup (AX.cons (EX.str "max") (AX.cons (EX.str "min") (AX.nil))))))) (SX.seq (SX.asg 12 (EX.ofF (FX.lstOf (AX.cons (EX.idx (EX.idx (EX.var 1) (EX.var 10)) (EX.int 1)) (AX.nil)))))
  (SX.seq (SX.ite (TX.ofE (EX.eq (EX.eq (EX.idx (EX.idx (EX.var 1) (EX.var 10)) (EX.int 0)) (EX.str "max")) (EX.var 3))) (SX.asg 12 (EX.ofF (FX.slice (EX.ofF (FX.lc (IX.seq (EX.var 12)) (GX.name 13) (TX.ofE (EX.eq (EX.idx (EX.var 2) (EX.var 13)) (EX.idx (EX.var 2) (EX.var 10)))) (EX.var 13) [13] (by decide))) (OX.no) (OX.at (EX.int 1))))) (SX.nx))
  (SX.asg 11 (EX.add (EX.var 11) (EX.var 12))))) (SX.ite (TX.and (TX.ofE (EX.isin (EX.var 10) (EX.var 11))) (TX.ofE (EX.eq (EX.idx (EX.idx (EX.var 1) (EX.var 10)) (EX.int 0)) (EX.str "mean")))) (SX.asg 11 (EX.add (EX.var 11) (EX.ofF (FX.lc (IX.seq (EX.idx (EX.idx (EX.var 1) (EX.var 10)) (EX.int 1))) (GX.name 14) (TX.yes) (EX.idx (EX.var 14) (EX.int 1)) [14] (by decide))))) (SX.nx))))
  (SX.seq (SX.app 8 (EX.ofF (FX.lc (IX.range1 (AX.cons (EX.var 4) (AX.nil))) (GX.name 10) (TX.ofE (EX.isin (EX.var 10) (EX.var 11))) (EX.tup (AX.cons (EX.var 10) (AX.cons (EX.idx (EX.var 2) (EX.var 10)) (AX.nil)))) [10] (by decide))))
  (SX.ret (EX.var 8))))))))))))))
def sem__law_papers : List A → Res := runDef 4 15 b__law_papers.ev
def b__law_side_right : SX tau := SX.seq (SX.asg 5 (EX.tup (AX.cons (EX.mul (EX.idx (EX.idx (EX.var 3) (EX.int 0)) (EX.int 0)) (EX.int 2)) (AX.cons (EX.mul (EX.idx (EX.idx (EX.var 3) (EX.int 0)) (EX.int 1)) (EX.int 2)) (AX.nil)))))
  (SX.seq (SX.asg 6 (EX.call sem__law_moved (AX.cons (EX.idx (EX.var 3) (EX.int 0)) (AX.cons (EX.var 4) (AX.cons (EX.tup (AX.cons (EX.int 1) (AX.cons (EX.int 1000) (AX.nil)))) (AX.nil))))))
  (SX.seq (SX.forE (IX.seq (EX.call sem__law_papers (AX.lend 0 (AX.cons (EX.var 2) (AX.cons (EX.var 3) (AX.cons (EX.var 4) (AX.nil))))))) (GX.name 7) (SX.forE (IX.seq (EX.ofF (FX.lst (AX.cons (EX.var 5) (AX.cons (EX.ofF (FX.lstOf (AX.cons (EX.var 6) (AX.nil)))) (AX.nil)))))) (GX.name 8) (SX.seq (SX.asg 10 (EX.call sem__law_word (AX.cons (EX.var 2) (AX.cons (EX.var 7) (AX.cons (EX.var 8) (AX.cons (EX.var 4) (AX.nil)))))))
  (SX.seq (SX.asg 11 (EX.call sem__law_judged (AX.cons (EX.var 1) (AX.cons (EX.var 7) (AX.cons (EX.var 8) (AX.cons (EX.var 4) (AX.nil)))))))
  (SX.ite (TX.or (TX.not (TX.ofE (EX.isi "str" (EX.var 11)))) (TX.ofE (EX.ne (EX.var 11) (EX.var 10)))) (SX.ret (EX.bl false)) (SX.nx))))))
  (SX.seq (SX.forE (IX.seq (EX.ofF (FX.lst (AX.cons (EX.non) (AX.cons (EX.int 3) (AX.cons (EX.tup (AX.cons (EX.int 1) (AX.nil))) (AX.cons (EX.tup (AX.cons (EX.int 1) (AX.cons (EX.int 0) (AX.nil)))) (AX.cons (EX.tup (AX.cons (EX.bl true) (AX.cons (EX.int 1) (AX.nil)))) (AX.cons (EX.tup (AX.cons (EX.int 1) (AX.cons (EX.str "1") (AX.nil)))) (AX.cons (EX.tup (AX.cons (EX.int 1) (AX.cons (EX.int 2) (AX.cons (EX.int 3) (AX.nil))))) (AX.nil))))))))))) (GX.name 8) (SX.ite (TX.ofE (EX.ne (EX.call sem__law_judged (AX.cons (EX.var 1) (AX.cons (EX.non) (AX.cons (EX.var 8) (AX.cons (EX.var 4) (AX.nil)))))) (EX.ofF (FX.lst (AX.cons (EX.str "number") (AX.cons (EX.str "ratio") (AX.nil))))))) (SX.ret (EX.bl false)) (SX.nx)))
  (SX.seq (SX.asgF 9 (FX.lc (IX.range1 (AX.cons (EX.len (AX.cons (EX.var 2) (AX.nil))) (AX.nil))) (GX.name 12) (TX.yes) (EX.tup (AX.cons (EX.var 12) (AX.cons (EX.idx (EX.var 3) (EX.var 12)) (AX.nil)))) [12] (by decide)))
  (SX.ret (EX.andV (EX.eq (EX.call sem__law_judged (AX.cons (EX.var 1) (AX.cons (EX.var 9) (AX.cons (EX.var 5) (AX.cons (EX.var 4) (AX.nil)))))) (EX.str "right")) (EX.eq (EX.call sem__law_judged (AX.cons (EX.var 1) (AX.cons (EX.var 9) (AX.cons (EX.var 6) (AX.cons (EX.var 4) (AX.nil)))))) (EX.str "number"))))))))
def sem__law_side_right : List A → Res := runDef 5 13 b__law_side_right.ev
def b__law_state_word : SX tau := SX.seq (SX.ite (TX.or (TX.not (TX.ofE (EX.isi2 "list" "tuple" (EX.var 0)))) (TX.or (TX.ofE (EX.ne (EX.len (AX.cons (EX.var 0) (AX.nil))) (EX.int 2))) (TX.ofE (EX.notin (EX.idx (EX.var 0) (EX.int 0)) (EX.ofF (FX.lst (AX.cons (EX.str "end") (AX.cons (EX.str "max") (AX.cons (EX.str "min") (AX.cons (EX.str "mean") (AX.nil))))))))))) (SX.ret (EX.str "form")) (SX.nx))
  (SX.seq (SX.ite (TX.ofE (EX.eq (EX.idx (EX.var 0) (EX.int 0)) (EX.str "end"))) (SX.ret (EX.ife (TX.ofE (EX.call sem__law_is_ratio (AX.cons (EX.idx (EX.var 0) (EX.int 1)) (AX.nil)))) (EX.non) (EX.str "ratio"))) (SX.nx))
  (SX.seq (SX.ite (TX.not (TX.ofE (EX.isi2 "list" "tuple" (EX.idx (EX.var 0) (EX.int 1))))) (SX.ret (EX.str "form")) (SX.nx))
  (SX.seq (SX.ite (TX.and (TX.ofE (EX.eq (EX.idx (EX.var 0) (EX.int 0)) (EX.str "mean"))) (TX.ofE (EX.gt (EX.len (AX.cons (EX.ofF (FX.lc (IX.seq (EX.idx (EX.var 0) (EX.int 1))) (GX.name 6) (TX.or (TX.not (TX.ofE (EX.isi2 "list" "tuple" (EX.var 6)))) (TX.ofE (EX.ne (EX.len (AX.cons (EX.var 6) (AX.nil))) (EX.int 2)))) (EX.var 6) [6] (by decide))) (AX.nil))) (EX.int 0)))) (SX.ret (EX.str "form")) (SX.nx))
  (SX.seq (SX.asg 3 (EX.ife (TX.ofE (EX.eq (EX.idx (EX.var 0) (EX.int 0)) (EX.str "mean"))) (EX.ofF (FX.lc (IX.seq (EX.idx (EX.var 0) (EX.int 1))) (GX.name 5) (TX.yes) (EX.idx (EX.var 5) (EX.int 1)) [5] (by decide))) (EX.ofF (FX.lstOf (AX.cons (EX.idx (EX.var 0) (EX.int 1)) (AX.nil))))))
  (SX.seq (SX.ite (TX.ofE (EX.eq (EX.len (AX.cons (EX.var 3) (AX.nil))) (EX.int 0))) (SX.ret (EX.str "empty")) (SX.nx))
  (SX.seq (SX.forE (IX.seq (EX.var 3)) (GX.name 4) (SX.ite (TX.or (TX.not (TX.ofE (EX.call sem__law_whole (AX.cons (EX.var 4) (AX.nil))))) (TX.or (TX.ofE (EX.le (EX.var 4) (EX.var 1))) (TX.ofE (EX.ge (EX.var 4) (EX.var 2))))) (SX.ret (EX.str "follower")) (SX.nx)))
  (SX.seq (SX.ite (TX.and (TX.ofE (EX.eq (EX.idx (EX.var 0) (EX.int 0)) (EX.str "mean"))) (TX.ofE (EX.gt (EX.len (AX.cons (EX.ofF (FX.lc (IX.seq (EX.idx (EX.var 0) (EX.int 1))) (GX.name 6) (TX.or (TX.not (TX.ofE (EX.call sem__law_whole (AX.cons (EX.idx (EX.var 6) (EX.int 0)) (AX.nil))))) (TX.ofE (EX.lt (EX.idx (EX.var 6) (EX.int 0)) (EX.int 1)))) (EX.var 6) [6] (by decide))) (AX.nil))) (EX.int 0)))) (SX.ret (EX.str "weight")) (SX.nx))
  (SX.ret EX.non))))))))
def sem__law_state_word : List A → Res := runDef 3 7 b__law_state_word.ev
def b__law_refused : SX tau := SX.seq (SX.asg 1 (EX.ofF (FX.lst (AX.cons (EX.str "nothing") (AX.nil)))))
  (SX.seq (SX.try1 (SX.expr (EX.ofF (FX.make 0 sem_Arena_init (AX.cons (EX.var 0) (AX.nil))))) 2 2 (HX.lst 1 [.fld "state", .fld "what"]))
  (SX.ret (EX.var 1)))
def sem__law_refused : List A → Res := runDef 1 3 b__law_refused.ev
def b__law_wrong_states_right : SX tau := SX.seq (SX.asg 2 (EX.len (AX.cons (EX.var 1) (AX.nil))))
  (SX.seq (SX.asg 3 (EX.call sem__law_take (AX.lend 0 (AX.cons (EX.var 2) (AX.nil)))))
  (SX.seq (SX.asg 4 (EX.sub (EX.var 2) (EX.int 1)))
  (SX.seq (SX.asg 5 (EX.ofF (FX.lst (AX.cons (EX.non) (AX.cons (EX.tup (AX.cons (EX.str "end") (AX.nil))) (AX.cons (EX.tup (AX.cons (EX.str "odd") (AX.cons (EX.tup (AX.cons (EX.int 1) (AX.cons (EX.int 1) (AX.nil)))) (AX.nil)))) (AX.cons (EX.tup (AX.cons (EX.int 3) (AX.cons (EX.ofF (FX.lst (AX.cons (EX.var 4) (AX.nil)))) (AX.nil)))) (AX.cons (EX.tup (AX.cons (EX.str "max") (AX.cons (EX.int 3) (AX.nil)))) (AX.cons (EX.tup (AX.cons (EX.str "mean") (AX.cons (EX.ofF (FX.lst (AX.cons (EX.var 4) (AX.nil)))) (AX.nil)))) (AX.cons (EX.tup (AX.cons (EX.str "mean") (AX.cons (EX.ofF (FX.lst (AX.cons (EX.tup (AX.cons (EX.int 1) (AX.cons (EX.var 4) (AX.cons (EX.int 1) (AX.nil))))) (AX.nil)))) (AX.nil)))) (AX.cons (EX.tup (AX.cons (EX.str "min") (AX.cons (EX.non) (AX.nil)))) (AX.nil))))))))))))
  (SX.seq (SX.asg 5 (EX.add (EX.var 5) (EX.ofF (FX.lst (AX.cons (EX.tup (AX.cons (EX.str "end") (AX.cons (EX.tup (AX.cons (EX.int 1) (AX.cons (EX.int 0) (AX.nil)))) (AX.nil)))) (AX.cons (EX.tup (AX.cons (EX.str "end") (AX.cons (EX.int 3) (AX.nil)))) (AX.cons (EX.tup (AX.cons (EX.str "end") (AX.cons (EX.tup (AX.cons (EX.int 1) (AX.cons (EX.bl true) (AX.nil)))) (AX.nil)))) (AX.cons (EX.ofF (FX.lst (AX.cons (EX.str "end") (AX.cons (EX.ofF (FX.lst (AX.cons (EX.int 1) (AX.cons (EX.neg (EX.int 2)) (AX.nil))))) (AX.nil))))) (AX.cons (EX.tup (AX.cons (EX.str "max") (AX.cons (EX.ofF (FX.lst (AX.nil))) (AX.nil)))) (AX.cons (EX.tup (AX.cons (EX.str "mean") (AX.cons (EX.ofF (FX.lst (AX.nil))) (AX.nil)))) (AX.cons (EX.ofF (FX.lst (AX.cons (EX.str "min") (AX.cons (EX.tup (AX.nil)) (AX.nil))))) (AX.nil))))))))))))
  (SX.seq (SX.asg 5 (EX.add (EX.var 5) (EX.ofF (FX.lst (AX.cons (EX.tup (AX.cons (EX.str "min") (AX.cons (EX.ofF (FX.lst (AX.cons (EX.var 3) (AX.nil)))) (AX.nil)))) (AX.cons (EX.tup (AX.cons (EX.str "max") (AX.cons (EX.ofF (FX.lst (AX.cons (EX.var 2) (AX.nil)))) (AX.nil)))) (AX.cons (EX.tup (AX.cons (EX.str "min") (AX.cons (EX.ofF (FX.lst (AX.cons (EX.var 4) (AX.cons (EX.bl true) (AX.nil))))) (AX.nil)))) (AX.cons (EX.tup (AX.cons (EX.str "max") (AX.cons (EX.ofF (FX.lst (AX.cons (EX.non) (AX.nil)))) (AX.nil)))) (AX.cons (EX.tup (AX.cons (EX.str "mean") (AX.cons (EX.ofF (FX.lst (AX.cons (EX.tup (AX.cons (EX.int 1) (AX.cons (EX.var 4) (AX.nil)))) (AX.cons (EX.tup (AX.cons (EX.int 2) (AX.cons (EX.var 3) (AX.nil)))) (AX.nil))))) (AX.nil)))) (AX.nil))))))))))
  (SX.seq (SX.asg 5 (EX.add (EX.var 5) (EX.ofF (FX.lst (AX.cons (EX.tup (AX.cons (EX.str "mean") (AX.cons (EX.ofF (FX.lst (AX.cons (EX.tup (AX.cons (EX.int 0) (AX.cons (EX.var 4) (AX.nil)))) (AX.nil)))) (AX.nil)))) (AX.cons (EX.tup (AX.cons (EX.str "mean") (AX.cons (EX.ofF (FX.lst (AX.cons (EX.tup (AX.cons (EX.bl true) (AX.cons (EX.var 4) (AX.nil)))) (AX.cons (EX.tup (AX.cons (EX.int 1) (AX.cons (EX.var 4) (AX.nil)))) (AX.nil))))) (AX.nil)))) (AX.cons (EX.tup (AX.cons (EX.str "mean") (AX.cons (EX.ofF (FX.lst (AX.cons (EX.tup (AX.cons (EX.int 0) (AX.cons (EX.var 2) (AX.nil)))) (AX.nil)))) (AX.nil)))) (AX.cons (EX.tup (AX.cons (EX.str "mean") (AX.cons (EX.ofF (FX.lst (AX.cons (EX.ofF (FX.lst (AX.cons (EX.int 1) (AX.cons (EX.var 4) (AX.nil))))) (AX.cons (EX.ofF (FX.lst (AX.cons (EX.neg (EX.int 1)) (AX.cons (EX.var 4) (AX.nil))))) (AX.nil))))) (AX.nil)))) (AX.nil)))))))))
  (SX.seq (SX.forE (IX.seq (EX.var 5)) (GX.name 6) (SX.seq (SX.asg 7 (EX.call sem__law_state_word (AX.cons (EX.var 6) (AX.cons (EX.var 3) (AX.cons (EX.var 2) (AX.nil))))))
  (SX.seq (SX.asg 8 (EX.add (EX.add (EX.ofF (FX.slice (EX.var 1) (OX.no) (OX.at (EX.var 3)))) (EX.ofF (FX.lst (AX.cons (EX.var 6) (AX.nil))))) (EX.ofF (FX.slice (EX.var 1) (OX.at (EX.add (EX.var 3) (EX.int 1))) (OX.no)))))
  (SX.seq (SX.ite (TX.or (TX.ofE (EX.isN (EX.var 7) (EX.non))) (TX.ofE (EX.ne (EX.call sem__law_refused (AX.cons (EX.var 8) (AX.nil))) (EX.ofF (FX.lst (AX.cons (EX.var 3) (AX.cons (EX.var 7) (AX.nil)))))))) (SX.ret (EX.bl false)) (SX.nx))
  (SX.ite (TX.and (TX.ofE (EX.lt (EX.var 3) (EX.var 4))) (TX.ofE (EX.ne (EX.call sem__law_refused (AX.cons (EX.add (EX.ofF (FX.slice (EX.var 8) (OX.no) (OX.at (EX.var 4)))) (EX.ofF (FX.lst (AX.cons (EX.tup (AX.cons (EX.str "end") (AX.cons (EX.int 0) (AX.nil)))) (AX.nil))))) (AX.nil))) (EX.ofF (FX.lst (AX.cons (EX.var 3) (AX.cons (EX.var 7) (AX.nil)))))))) (SX.ret (EX.bl false)) (SX.nx))))))
  (SX.seq (SX.forE (IX.seq (EX.ofF (FX.lst (AX.cons (EX.non) (AX.cons (EX.ofF (FX.lst (AX.nil))) (AX.cons (EX.tup (AX.nil)) (AX.cons (EX.int 3) (AX.nil)))))))) (GX.name 6) (SX.ite (TX.ofE (EX.ne (EX.call sem__law_refused (AX.cons (EX.var 6) (AX.nil))) (EX.ofF (FX.lst (AX.cons (EX.neg (EX.int 1)) (AX.cons (EX.str "form") (AX.nil))))))) (SX.ret (EX.bl false)) (SX.nx)))
  (SX.ret (EX.bl true))))))))))
def sem__law_wrong_states_right : List A → Res := runDef 2 9 b__law_wrong_states_right.ev
def b_law : SX tau := SX.seq (SX.asgF 1 (FX.call sem__law_draws (AX.cons (EX.var 0) (AX.nil))))
  (SX.seq (SX.asg 2 (EX.call sem__law_drawn_states (AX.lend 1 (AX.nil))))
  (SX.seq (SX.asg 3 (EX.ofF (FX.make 0 sem_Arena_init (AX.cons (EX.ofF (FX.lc (IX.seq (EX.var 2)) (GX.name 6) (TX.yes) (EX.ofF (FX.lstOf (AX.cons (EX.var 6) (AX.nil)))) [6] (by decide))) (AX.nil)))))
  (SX.seq (SX.asg 4 (EX.call sem__law_values (AX.cons (EX.var 2) (AX.nil))))
  (SX.seq (SX.asgF 5 (FX.lst (AX.nil)))
  (SX.seq (SX.forE (IX.seq (EX.var 2)) (GX.name 6) (SX.seq (SX.asg 7 (EX.ife (TX.ofE (EX.ne (EX.idx (EX.var 6) (EX.int 0)) (EX.str "end"))) (EX.tupOf (AX.cons (EX.idx (EX.var 6) (EX.int 1)) (AX.nil))) (EX.call sem__law_least_terms (AX.cons (EX.idx (EX.idx (EX.var 6) (EX.int 1)) (EX.int 0)) (AX.cons (EX.idx (EX.idx (EX.var 6) (EX.int 1)) (EX.int 1)) (AX.nil))))))
  (SX.app 5 (EX.tup (AX.cons (EX.idx (EX.var 6) (EX.int 0)) (AX.cons (EX.var 7) (AX.nil)))))))
  (SX.seq (SX.ite (TX.or (TX.not (TX.ofE (EX.isi "tuple" (EX.fld "states" (EX.var 3))))) (TX.or (TX.ofE (EX.ne (EX.fld "states" (EX.var 3)) (EX.tupOf (AX.cons (EX.var 5) (AX.nil))))) (TX.ofE (EX.ne (EX.prop 0 sem_Arena_many (EX.var 3)) (EX.len (AX.cons (EX.var 2) (AX.nil))))))) (SX.ret (EX.bl false)) (SX.nx))
  (SX.seq (SX.ite (TX.not (TX.ofE (EX.call sem__law_side_right (AX.lend 1 (AX.cons (EX.var 3) (AX.cons (EX.var 2) (AX.cons (EX.var 4) (AX.cons (EX.bl true) (AX.nil))))))))) (SX.ret (EX.bl false)) (SX.nx))
  (SX.seq (SX.ite (TX.not (TX.ofE (EX.call sem__law_side_right (AX.lend 1 (AX.cons (EX.var 3) (AX.cons (EX.var 2) (AX.cons (EX.var 4) (AX.cons (EX.bl false) (AX.nil))))))))) (SX.ret (EX.bl false)) (SX.nx))
  (SX.ret (EX.andV (EX.call sem__law_wrong_states_right (AX.lend 1 (AX.cons (EX.var 2) (AX.nil)))) (EX.eq (EX.fld "states" (EX.var 3)) (EX.tupOf (AX.cons (EX.var 5) (AX.nil))))))))))))))
def sem_law : List A → Res := runDef 1 8 b_law.ev
end K84

/-! T16 -/
/-! T16: reading the terms step by step: each term's ev as a combinator over the parts' ev, the rest unapplied. -/
namespace T
open PySem L2
variable {τ : Tab}
theorem nrfl {p : Prop} (h : p) : p := h

def op2S (f : D → D → Option D) (x : D) : R D → R D
  | .ok y e => R.of (f x y) e
  | .exc c fs e => .exc c fs e
  | .bad => .bad
def op2R (f : D → D → Option D) (b : En → R D) : R D → R D
  | .ok x e => op2S f x (b e)
  | .exc c fs e => .exc c fs e
  | .bad => .bad
theorem op2_eq (f : D → D → Option D) (a b : En → R D) (env : En) : ev2 f a b env = op2R f b (a env) := by
  unfold ev2
  cases a env with
  | ok x e => 
    show (b e).bind _ = op2S f x (b e)
    cases b e <;> rfl
  | exc c fs e => rfl
  | bad => rfl
@[simp] theorem op2S_ok (f : D → D → Option D) (x y : D) (e : En) : op2S f x (.ok y e) = R.of (f x y) e := nrfl rfl
@[simp] theorem op2S_exc (f : D → D → Option D) (x : D) (c : Nat) (fs : List (Str × D)) (e : En) : op2S f x (.exc c fs e) = .exc c fs e := nrfl rfl
@[simp] theorem op2R_ok (f : D → D → Option D) (b : En → R D) (x : D) (e : En) : op2R f b (.ok x e) = op2S f x (b e) := nrfl rfl
@[simp] theorem op2R_exc (f : D → D → Option D) (b : En → R D) (c : Nat) (fs : List (Str × D)) (e : En) : op2R f b (.exc c fs e) = .exc c fs e := nrfl rfl
@[simp] theorem of_some {α : Type} (x : α) (e : En) : R.of (some x) e = .ok x e := nrfl rfl
@[simp] theorem of_none {α : Type} (e : En) : (R.of none e : R α) = .bad := nrfl rfl
def op1R (f : D → Option D) : R D → R D
  | .ok x e => R.of (f x) e
  | .exc c fs e => .exc c fs e
  | .bad => .bad
theorem op1_eq (f : D → Option D) (a : En → R D) (env : En) : ev1 f a env = op1R f (a env) := by
  unfold ev1; cases a env <;> rfl
@[simp] theorem op1R_ok (f : D → Option D) (x : D) (e : En) : op1R f (.ok x e) = R.of (f x) e := nrfl rfl
@[simp] theorem op1R_exc (f : D → Option D) (c : Nat) (fs : List (Str × D)) (e : En) : op1R f (.exc c fs e) = .exc c fs e := nrfl rfl

theorem e_add (a b : EX τ) (env : En) : (EX.add a b).ev env = op2R (fAdd) b.ev (a.ev env) := op2_eq _ _ _ _
theorem e_sub (a b : EX τ) (env : En) : (EX.sub a b).ev env = op2R (fI (fun i j => i - j) fun _ _ => true) b.ev (a.ev env) := op2_eq _ _ _ _
theorem e_mul (a b : EX τ) (env : En) : (EX.mul a b).ev env = op2R (fI (fun i j => i * j) mulC) b.ev (a.ev env) := op2_eq _ _ _ _
theorem e_fdiv (a b : EX τ) (env : En) : (EX.fdiv a b).ev env = op2R (fI (fun i j => i / j) divC) b.ev (a.ev env) := op2_eq _ _ _ _
theorem e_mod (a b : EX τ) (env : En) : (EX.mod a b).ev env = op2R (fI (fun i j => i % j) modC) b.ev (a.ev env) := op2_eq _ _ _ _
theorem e_pow (a b : EX τ) (env : En) : (EX.pow a b).ev env = op2R (fI (fun i j => i ^ j.toNat) powC) b.ev (a.ev env) := op2_eq _ _ _ _
theorem e_lt (a b : EX τ) (env : En) : (EX.lt a b).ev env = op2R (fIB fun i j => decide (i < j)) b.ev (a.ev env) := op2_eq _ _ _ _
theorem e_le (a b : EX τ) (env : En) : (EX.le a b).ev env = op2R (fIB fun i j => decide (i ≤ j)) b.ev (a.ev env) := op2_eq _ _ _ _
theorem e_gt (a b : EX τ) (env : En) : (EX.gt a b).ev env = op2R (fIB fun i j => decide (j < i)) b.ev (a.ev env) := op2_eq _ _ _ _
theorem e_ge (a b : EX τ) (env : En) : (EX.ge a b).ev env = op2R (fIB fun i j => decide (j ≤ i)) b.ev (a.ev env) := op2_eq _ _ _ _
theorem e_eq (a b : EX τ) (env : En) : (EX.eq a b).ev env = op2R (fEq) b.ev (a.ev env) := op2_eq _ _ _ _
theorem e_ne (a b : EX τ) (env : En) : (EX.ne a b).ev env = op2R (fNe) b.ev (a.ev env) := op2_eq _ _ _ _
theorem e_isN (a b : EX τ) (env : En) : (EX.isN a b).ev env = op2R (fIsN) b.ev (a.ev env) := op2_eq _ _ _ _
theorem e_notN (a b : EX τ) (env : En) : (EX.notN a b).ev env = op2R (fNotN) b.ev (a.ev env) := op2_eq _ _ _ _
theorem e_isin (a b : EX τ) (env : En) : (EX.isin a b).ev env = op2R (fIn false) b.ev (a.ev env) := op2_eq _ _ _ _
theorem e_notin (a b : EX τ) (env : En) : (EX.notin a b).ev env = op2R (fIn true) b.ev (a.ev env) := op2_eq _ _ _ _
theorem e_idx (a b : EX τ) (env : En) : (EX.idx a b).ev env = op2R (fIx) b.ev (a.ev env) := op2_eq _ _ _ _
theorem e_dget (a b : EX τ) (env : En) : (EX.dget a b).ev env = op2R (fDget) b.ev (a.ev env) := op2_eq _ _ _ _
theorem e_din (a b : EX τ) (env : En) : (EX.din a b).ev env = op2R (fDin false) b.ev (a.ev env) := op2_eq _ _ _ _
theorem e_dnin (a b : EX τ) (env : En) : (EX.dnin a b).ev env = op2R (fDin true) b.ev (a.ev env) := op2_eq _ _ _ _
theorem e_neg  (a : EX τ) (env : En) : (EX.neg  a).ev env = op1R (fNeg) (a.ev env) := op1_eq _ _ _
theorem e_isi (t : String) (a : EX τ) (env : En) : (EX.isi t a).ev env = op1R (fIsi t) (a.ev env) := op1_eq _ _ _
theorem e_isi2 (t u : String) (a : EX τ) (env : En) : (EX.isi2 t u a).ev env = op1R (fIsi2 t u) (a.ev env) := op1_eq _ _ _
theorem e_fld (t : Str) (a : EX τ) (env : En) : (EX.fld t a).ev env = op1R (fFld τ t) (a.ev env) := op1_eq _ _ _
theorem e_bits  (a : EX τ) (env : En) : (EX.bits  a).ev env = op1R (fBits) (a.ev env) := op1_eq _ _ _
theorem e_prop (c : Nat) (F : List A → Res) (a : EX τ) (env : En) : (EX.prop c F a).ev env = op1R (fProp c F) (a.ev env) := op1_eq _ _ _
def varR (env : En) (i : Nat) : Option Sl → R D
  | some (.dat d) => .ok d env
  | some (.own none o) => .ok o.toD (env.set i (.dat o.toD))
  | _ => .bad
theorem e_var (i : Nat) (env : En) : (EX.var (τ := τ) i).ev env = varR env i env[i]? := by show evVar i env = _; unfold evVar varR; rfl
theorem varR_dat (env : En) (i : Nat) (d : D) : varR env i (some (.dat d)) = .ok d env := nrfl rfl
theorem varR_own (env : En) (i : Nat) (o : O) : varR env i (some (.own none o)) = .ok o.toD (env.set i (.dat o.toD)) := nrfl rfl
theorem toD_lst (l : List D) : (O.lst l).toD = .lst l := nrfl rfl
theorem toD_dic (l : List (Key × D)) : (O.dic l).toD = .dic l := nrfl rfl
theorem toD_ins (c : Nat) (l : List (Str × D)) : (O.ins c l).toD = .ins c l := nrfl rfl
theorem e_non  (env : En) : (EX.non (τ := τ) ).ev env = .ok (.non) env := nrfl rfl
theorem e_bl (v : Bool) (env : En) : (EX.bl (τ := τ) v).ev env = .ok (.bl v) env := nrfl rfl
theorem e_int (v : Int) (env : En) : (EX.int (τ := τ) v).ev env = .ok (.int v) env := nrfl rfl
theorem e_str (v : Str) (env : En) : (EX.str (τ := τ) v).ev env = .ok (.str v) env := nrfl rfl
def globR (env : En) : Option D → R D
  | some d => .ok d env
  | none => .bad
theorem e_glob (x : Str) (env : En) : (EX.glob (τ := τ) x).ev env = globR env (lookG τ x) := by show (match lookG τ x with | some d => R.ok d env | none => .bad) = _; unfold globR; rfl
theorem globR_some (env : En) (d : D) : globR env (some d) = .ok d env := nrfl rfl
def andR (b : En → R D) : R D → R D
  | .ok (.bl c) e => if c then b e else .ok (.bl false) e
  | .ok _ e => .bad
  | .exc c fs e => .exc c fs e
  | .bad => .bad
def orR (b : En → R D) : R D → R D
  | .ok (.bl c) e => if c then .ok (.bl true) e else b e
  | .ok _ e => .bad
  | .exc c fs e => .exc c fs e
  | .bad => .bad
def notR : R D → R D
  | .ok (.bl c) e => .ok (.bl (!c)) e
  | .ok _ e => .bad
  | .exc c fs e => .exc c fs e
  | .bad => .bad
def tstR : R D → R Bool
  | .ok (.bl c) e => .ok c e
  | .ok _ e => .bad
  | .exc c fs e => .exc c fs e
  | .bad => .bad
def tandR (b : En → R Bool) : R Bool → R Bool
  | .ok c e => if c then b e else .ok false e
  | .exc c fs e => .exc c fs e
  | .bad => .bad
def torR (b : En → R Bool) : R Bool → R Bool
  | .ok c e => if c then .ok true e else b e
  | .exc c fs e => .exc c fs e
  | .bad => .bad
def tnotR : R Bool → R Bool
  | .ok c e => .ok (!c) e
  | .exc c fs e => .exc c fs e
  | .bad => .bad
def iteR {α : Type} (a b : En → R α) : R Bool → R α
  | .ok c e => if c then a e else b e
  | .exc c fs e => .exc c fs e
  | .bad => .bad
theorem e_and (a b : EX τ) (env : En) : (EX.andV a b).ev env = andR b.ev (a.ev env) := by show (_ : R _).bind _ = _; cases a.ev env with | ok d e => (first | rfl | (cases d <;> rfl)) | exc c fs e => rfl | bad => rfl
theorem e_or (a b : EX τ) (env : En) : (EX.orV a b).ev env = orR b.ev (a.ev env) := by show (_ : R _).bind _ = _; cases a.ev env with | ok d e => (first | rfl | (cases d <;> rfl)) | exc c fs e => rfl | bad => rfl
theorem e_not (a : EX τ) (env : En) : (EX.notV a).ev env = notR (a.ev env) := by show (_ : R _).bind _ = _; cases a.ev env with | ok d e => (first | rfl | (cases d <;> rfl)) | exc c fs e => rfl | bad => rfl
theorem t_ofE (a : EX τ) (env : En) : (TX.ofE a).ev env = tstR (a.ev env) := by show (_ : R _).bind _ = _; cases a.ev env with | ok d e => (first | rfl | (cases d <;> rfl)) | exc c fs e => rfl | bad => rfl
theorem t_and (a b : TX τ) (env : En) : (TX.and a b).ev env = tandR b.ev (a.ev env) := by show (_ : R _).bind _ = _; cases a.ev env with | ok d e => (first | rfl | (cases d <;> rfl)) | exc c fs e => rfl | bad => rfl
theorem t_or (a b : TX τ) (env : En) : (TX.or a b).ev env = torR b.ev (a.ev env) := by show (_ : R _).bind _ = _; cases a.ev env with | ok d e => (first | rfl | (cases d <;> rfl)) | exc c fs e => rfl | bad => rfl
theorem t_not (a : TX τ) (env : En) : (TX.not a).ev env = tnotR (a.ev env) := by show (_ : R _).bind _ = _; cases a.ev env with | ok d e => (first | rfl | (cases d <;> rfl)) | exc c fs e => rfl | bad => rfl
theorem t_yes (env : En) : (TX.yes (τ := τ)).ev env = .ok true env := nrfl rfl
theorem e_ife (t : TX τ) (a b : EX τ) (env : En) : (EX.ife t a b).ev env = iteR a.ev b.ev (t.ev env) := by show (_ : R _).bind _ = _; cases t.ev env with | ok d e => (first | rfl | (cases d <;> rfl)) | exc c fs e => rfl | bad => rfl
theorem s_ite (t : TX τ) (a b : SX τ) (env : En) : (SX.ite t a b).ev env = iteR a.ev b.ev (t.ev env) := by show (_ : R _).bind _ = _; cases t.ev env with | ok d e => (first | rfl | (cases d <;> rfl)) | exc c fs e => rfl | bad => rfl
theorem andR_ok (b : En → R D) (c : Bool) (e : En) : andR b (.ok (.bl c) e) = if c then b e else .ok (.bl false) e := nrfl rfl
theorem andR_exc (b : En → R D) (c : Nat) (fs : List (Str × D)) (e : En) : andR b (.exc c fs e) = .exc c fs e := nrfl rfl
theorem orR_ok (b : En → R D) (c : Bool) (e : En) : orR b (.ok (.bl c) e) = if c then .ok (.bl true) e else b e := nrfl rfl
theorem orR_exc (b : En → R D) (c : Nat) (fs : List (Str × D)) (e : En) : orR b (.exc c fs e) = .exc c fs e := nrfl rfl
theorem tandR_ok (b : En → R Bool) (c : Bool) (e : En) : tandR b (.ok c e) = if c then b e else .ok false e := nrfl rfl
theorem tandR_exc (b : En → R Bool) (c : Nat) (fs : List (Str × D)) (e : En) : tandR b (.exc c fs e) = .exc c fs e := nrfl rfl
theorem torR_ok (b : En → R Bool) (c : Bool) (e : En) : torR b (.ok c e) = if c then .ok true e else b e := nrfl rfl
theorem torR_exc (b : En → R Bool) (c : Nat) (fs : List (Str × D)) (e : En) : torR b (.exc c fs e) = .exc c fs e := nrfl rfl
theorem notR_ok (c : Bool) (e : En) : notR (.ok (.bl c) e) = .ok (.bl (!c)) e := nrfl rfl
theorem notR_exc (c : Nat) (fs : List (Str × D)) (e : En) : notR (.exc c fs e) = .exc c fs e := nrfl rfl
theorem tstR_ok (c : Bool) (e : En) : tstR (.ok (.bl c) e) = .ok c e := nrfl rfl
theorem tstR_exc (c : Nat) (fs : List (Str × D)) (e : En) : tstR (.exc c fs e) = .exc c fs e := nrfl rfl
theorem tnotR_ok (c : Bool) (e : En) : tnotR (.ok c e) = .ok (!c) e := nrfl rfl
theorem tnotR_exc (c : Nat) (fs : List (Str × D)) (e : En) : tnotR (.exc c fs e) = .exc c fs e := nrfl rfl
theorem iteR_ok {α : Type} (a b : En → R α) (c : Bool) (e : En) : iteR a b (.ok c e) = if c then a e else b e := nrfl rfl
theorem iteR_exc {α : Type} (a b : En → R α) (c : Nat) (fs : List (Str × D)) (e : En) : iteR a b (.exc c fs e) = .exc c fs e := nrfl rfl
def seqR (b : En → R Fl) : R Fl → R Fl
  | .ok .nx e => b e
  | r => r
theorem s_seq (a b : SX τ) (env : En) : (SX.seq a b).ev env = seqR b.ev (a.ev env) := by show evSeq a.ev b.ev env = _; unfold evSeq seqR; rfl
theorem seqR_nx (b : En → R Fl) (e : En) : seqR b (.ok .nx e) = b e := nrfl rfl
theorem seqR_bk (b : En → R Fl) (e : En) : seqR b (.ok .bk e) = .ok .bk e := nrfl rfl
theorem seqR_ct (b : En → R Fl) (e : En) : seqR b (.ok .ct e) = .ok .ct e := nrfl rfl
theorem seqR_rt (b : En → R Fl) (d : D) (e : En) : seqR b (.ok (.rt d) e) = .ok (.rt d) e := nrfl rfl
theorem seqR_ro (b : En → R Fl) (d : O) (e : En) : seqR b (.ok (.ro d) e) = .ok (.ro d) e := nrfl rfl
theorem seqR_exc (b : En → R Fl) (c : Nat) (fs : List (Str × D)) (e : En) : seqR b (.exc c fs e) = .exc c fs e := nrfl rfl
def asgR (i : Nat) : R D → R Fl
  | .ok d e => if canSet e i then .ok .nx (e.set i (.dat d)) else .bad
  | .exc c fs e => .exc c fs e
  | .bad => .bad
def asgFR (i : Nat) : R O → R Fl
  | .ok d e => if canSet e i then .ok .nx (e.set i (.own none d)) else .bad
  | .exc c fs e => .exc c fs e
  | .bad => .bad
def optNx : Option En → R Fl
  | some e => .ok .nx e
  | none => .bad
def asgGR (g : D → En → Option En) : R D → R Fl
  | .ok d e => optNx (g d e)
  | .exc c fs e => .exc c fs e
  | .bad => .bad
def retR : R D → R Fl
  | .ok d e => .ok (.rt d) e
  | .exc c fs e => .exc c fs e
  | .bad => .bad
def exprR : R D → R Fl
  | .ok _ e => .ok .nx e
  | .exc c fs e => .exc c fs e
  | .bad => .bad
def canS : Option Sl → Bool
  | some (.own (some _) _) => false
  | some _ => true
  | none => false
theorem s_asg (i : Nat) (a : EX τ) (env : En) : (SX.asg i a).ev env = asgR i (a.ev env) := by show (_ : R _).bind _ = _; cases a.ev env with | ok d e => rfl | exc c fs e => rfl | bad => rfl
theorem s_asgF (i : Nat) (a : FX τ) (env : En) : (SX.asgF i a).ev env = asgFR i (a.ev env) := by show (_ : R _).bind _ = _; cases a.ev env with | ok d e => rfl | exc c fs e => rfl | bad => rfl
theorem s_asgG (g : GX τ) (a : EX τ) (env : En) : (SX.asgG g a).ev env = asgGR g.ev (a.ev env) := by show (_ : R _).bind _ = _; cases a.ev env with | ok d e => (show (match g.ev d e with | some e2 => R.ok Fl.nx e2 | none => .bad) = optNx (g.ev d e); cases g.ev d e <;> rfl) | exc c fs e => rfl | bad => rfl
theorem s_ret (a : EX τ) (env : En) : (SX.ret a).ev env = retR (a.ev env) := by show (_ : R _).bind _ = _; cases a.ev env with | ok d e => rfl | exc c fs e => rfl | bad => rfl
theorem s_expr (a : EX τ) (env : En) : (SX.expr a).ev env = exprR (a.ev env) := by show (_ : R _).bind _ = _; cases a.ev env with | ok d e => rfl | exc c fs e => rfl | bad => rfl
theorem s_nx (env : En) : (SX.nx (τ := τ)).ev env = .ok .nx env := nrfl rfl
theorem s_brk (env : En) : (SX.brk (τ := τ)).ev env = .ok .bk env := nrfl rfl
theorem s_cnt (env : En) : (SX.cnt (τ := τ)).ev env = .ok .ct env := nrfl rfl
theorem s_retN (env : En) : (SX.retN (τ := τ)).ev env = .ok (.rt .non) env := nrfl rfl
theorem canSet_eq (env : En) (i : Nat) : canSet env i = canS env[i]? := by unfold canSet canS; rfl
theorem canS_dat (d : D) : canS (some (.dat d)) = true := nrfl rfl
theorem canS_no : canS (some .no) = true := nrfl rfl
theorem canS_own (o : O) : canS (some (.own none o)) = true := nrfl rfl
theorem asgR_ok (i : Nat) (d : D) (e : En) : asgR i (.ok d e) = if canSet e i then .ok .nx (e.set i (.dat d)) else .bad := nrfl rfl
theorem asgR_exc (i : Nat) (c : Nat) (fs : List (Str × D)) (e : En) : asgR i (.exc c fs e) = .exc c fs e := nrfl rfl
theorem asgFR_ok (i : Nat) (d : O) (e : En) : asgFR i (.ok d e) = if canSet e i then .ok .nx (e.set i (.own none d)) else .bad := nrfl rfl
theorem asgFR_exc (i : Nat) (c : Nat) (fs : List (Str × D)) (e : En) : asgFR i (.exc c fs e) = .exc c fs e := nrfl rfl
theorem asgGR_ok (g : D → En → Option En) (d : D) (e : En) : asgGR g (.ok d e) = optNx (g d e) := nrfl rfl
theorem asgGR_exc (g : D → En → Option En) (c : Nat) (fs : List (Str × D)) (e : En) : asgGR g (.exc c fs e) = .exc c fs e := nrfl rfl
theorem optNx_some (e : En) : optNx (some e) = .ok .nx e := nrfl rfl
theorem optNx_none : optNx none = .bad := nrfl rfl
theorem retR_ok (d : D) (e : En) : retR (.ok d e) = .ok (.rt d) e := nrfl rfl
theorem retR_exc (c : Nat) (fs : List (Str × D)) (e : En) : retR (.exc c fs e) = .exc c fs e := nrfl rfl
theorem exprR_ok (d : D) (e : En) : exprR (.ok d e) = .ok .nx e := nrfl rfl
theorem exprR_exc (c : Nat) (fs : List (Str × D)) (e : En) : exprR (.exc c fs e) = .exc c fs e := nrfl rfl
def retOR (env : En) : Option Sl → R Fl
  | some (.own none o) => .ok (.ro o) env
  | _ => .bad
theorem s_retO (i : Nat) (env : En) : (SX.retO (τ := τ) i).ev env = retOR env env[i]? := by show (match env[i]? with | some (.own none o) => R.ok (Fl.ro o) env | _ => .bad) = _; unfold retOR; rfl
theorem retOR_own (env : En) (o : O) : retOR env (some (.own none o)) = .ok (.ro o) env := nrfl rfl
def gseqR (k : List D → En → Option En) (ds : List D) : Option En → Option En
  | some e => k ds e
  | none => none
def gsqR (g : List D → En → Option En) (e : En) : Option (List D) → Option En
  | some ds => g ds e
  | none => none
theorem g_nm (i : Nat) (d : D) (env : En) : (GX.name (τ := τ) i).ev d env = if canSet env i then some (env.set i (.dat d)) else none := nrfl rfl
theorem g_sq_ (n : Nat) (g : GXs τ) (d : D) (env : En) : (GX.sq n g).ev d env = gsqR g.ev env (seqD n d) := by show (seqD n d).bind _ = _; cases seqD n d <;> rfl
theorem g_nil_ (env : En) : (GXs.nil (τ := τ)).ev [] env = some env := nrfl rfl
theorem g_cons_ (g : GX τ) (r : GXs τ) (d : D) (ds : List D) (env : En) : (GXs.cons g r).ev (d :: ds) env = gseqR r.ev ds (g.ev d env) := by show (g.ev d env).bind _ = _; cases g.ev d env <;> rfl
theorem gseqR_some (k : List D → En → Option En) (ds : List D) (e : En) : gseqR k ds (some e) = k ds e := nrfl rfl
theorem gsqR_some (g : List D → En → Option En) (e : En) (ds : List D) : gsqR g e (some ds) = g ds e := nrfl rfl
theorem gsqR_none (g : List D → En → Option En) (e : En) : gsqR g e none = none := nrfl rfl
def consS (d : D) : R (List Ar) → R (List Ar)
  | .ok as e => .ok (.d d :: as) e
  | .exc c fs e => .exc c fs e
  | .bad => .bad
def consR (r : En → R (List Ar)) : R D → R (List Ar)
  | .ok d e => consS d (r e)
  | .exc c fs e => .exc c fs e
  | .bad => .bad
def lendS (i : Nat) : R (List Ar) → R (List Ar)
  | .ok as e => .ok (.s i :: as) e
  | .exc c fs e => .exc c fs e
  | .bad => .bad
def isO : Option Sl → Bool
  | some (.own _ _) => true
  | _ => false
theorem a_nil (env : En) : (AX.nil (τ := τ)).ev env = .ok [] env := nrfl rfl
theorem a_cons (a : EX τ) (r : AX τ) (env : En) : (AX.cons a r).ev env = consR r.ev (a.ev env) := by show (a.ev env).bind _ = _; cases a.ev env with | ok d e => (show (r.ev e).bind _ = consS d (r.ev e); cases r.ev e <;> rfl) | exc c fs e => rfl | bad => rfl
theorem a_lend (i : Nat) (r : AX τ) (env : En) : (AX.lend i r).ev env = if isO env[i]? then lendS i (r.ev env) else .bad := by
  show (if isOwn env i then (r.ev env).bind _ else R.bad) = _
  rw [show isOwn env i = isO env[i]? from by unfold isOwn isO; rfl]
  split
  · cases r.ev env <;> rfl
  · rfl
theorem isO_own (k : Option Nat) (o : O) : isO (some (.own k o)) = true := nrfl rfl
theorem consR_ok (r : En → R (List Ar)) (d : D) (e : En) : consR r (.ok d e) = consS d (r e) := nrfl rfl
theorem consR_exc (r : En → R (List Ar)) (c : Nat) (fs : List (Str × D)) (e : En) : consR r (.exc c fs e) = .exc c fs e := nrfl rfl
theorem consS_ok (d : D) (as : List Ar) (e : En) : consS d (.ok as e) = .ok (.d d :: as) e := nrfl rfl
theorem consS_exc (d : D) (c : Nat) (fs : List (Str × D)) (e : En) : consS d (.exc c fs e) = .exc c fs e := nrfl rfl
theorem lendS_ok (i : Nat) (as : List Ar) (e : En) : lendS i (.ok as e) = .ok (.s i :: as) e := nrfl rfl
theorem lendS_exc (i : Nat) (c : Nat) (fs : List (Str × D)) (e : En) : lendS i (.exc c fs e) = .exc c fs e := nrfl rfl
theorem allD_nil : allD [] = some [] := nrfl rfl
theorem allD_d (d : D) (r : List Ar) : allD (.d d :: r) = (allD r).map (d :: ·) := nrfl rfl
def biS (f : List D → Option D) (e : En) : Option (List D) → R D
  | some ds => R.of (f ds) e
  | none => .bad
def biR (f : List D → Option D) : R (List Ar) → R D
  | .ok as e => biS f e (allD as)
  | .exc c fs e => .exc c fs e
  | .bad => .bad
theorem bi_eq (f : List D → Option D) (a : En → R (List Ar)) (env : En) : evN f a env = biR f (a env) := by
  unfold evN
  cases a env with
  | ok as e => show (R.of (allD as) e).bind _ = biS f e (allD as); cases allD as <;> rfl
  | exc c fs e => rfl
  | bad => rfl
def lstS (e : En) : Option (List D) → R O
  | some ds => if capd ds.length then .ok (.lst ds) e else .bad
  | none => .bad
def lstR : R (List Ar) → R O
  | .ok as e => lstS e (allD as)
  | .exc c fs e => .exc c fs e
  | .bad => .bad
def ofFR : R O → R D
  | .ok o e => .ok o.toD e
  | .exc c fs e => .exc c fs e
  | .bad => .bad
def optF (e : En) : Option (List D) → R O
  | some ds => .ok (.lst ds) e
  | none => .bad
def fopR (f : List D → Option (List D)) : R (List Ar) → R O
  | .ok as e => optF e ((allD as).bind f)
  | .exc c fs e => .exc c fs e
  | .bad => .bad
def raiseS (c : Nat) (names : List Str) (e : En) : Option (List D) → R Fl
  | some ds => if ds.length = names.length then .exc c (names.zip ds) e else .bad
  | none => .bad
def raiseR (c : Nat) (names : List Str) : R (List Ar) → R Fl
  | .ok as e => raiseS c names e (allD as)
  | .exc c fs e => .exc c fs e
  | .bad => .bad
theorem e_len (a : AX τ) (env : En) : (EX.len a).ev env = biR fLen (a.ev env) := bi_eq _ _ _
theorem e_abs (a : AX τ) (env : En) : (EX.abs a).ev env = biR fAbs (a.ev env) := bi_eq _ _ _
theorem e_int1 (a : AX τ) (env : En) : (EX.int1 a).ev env = biR fInt1 (a.ev env) := bi_eq _ _ _
theorem e_min2 (a : AX τ) (env : En) : (EX.min2 a).ev env = biR fMin2 (a.ev env) := bi_eq _ _ _
theorem e_max2 (a : AX τ) (env : En) : (EX.max2 a).ev env = biR fMax2 (a.ev env) := bi_eq _ _ _
theorem e_gcd (a : AX τ) (env : En) : (EX.gcd a).ev env = biR fGcd (a.ev env) := bi_eq _ _ _
theorem e_any (a : AX τ) (env : En) : (EX.any a).ev env = biR fAny (a.ev env) := bi_eq _ _ _
theorem e_all (a : AX τ) (env : En) : (EX.all a).ev env = biR fAll (a.ev env) := bi_eq _ _ _
theorem e_tupOf (a : AX τ) (env : En) : (EX.tupOf a).ev env = biR fTupOf (a.ev env) := bi_eq _ _ _
theorem e_tup (a : AX τ) (env : En) : (EX.tup a).ev env = biR fTup (a.ev env) := bi_eq _ _ _
theorem biR_ok (f : List D → Option D) (as : List Ar) (e : En) : biR f (.ok as e) = biS f e (allD as) := nrfl rfl
theorem biR_exc (f : List D → Option D) (c : Nat) (fs : List (Str × D)) (e : En) : biR f (.exc c fs e) = .exc c fs e := nrfl rfl
theorem biS_some (f : List D → Option D) (e : En) (ds : List D) : biS f e (some ds) = R.of (f ds) e := nrfl rfl
theorem f_lst (a : AX τ) (env : En) : (FX.lst a).ev env = lstR (a.ev env) := by show (a.ev env).bind _ = _; cases a.ev env with | ok as e => (show (R.of (allD as) e).bind _ = lstS e (allD as); cases allD as <;> rfl) | exc c fs e => rfl | bad => rfl
theorem lstR_ok (as : List Ar) (e : En) : lstR (.ok as e) = lstS e (allD as) := nrfl rfl
theorem lstR_exc (c : Nat) (fs : List (Str × D)) (e : En) : lstR (.exc c fs e) = .exc c fs e := nrfl rfl
theorem lstS_some (e : En) (ds : List D) : lstS e (some ds) = if capd ds.length then .ok (.lst ds) e else .bad := nrfl rfl
theorem e_ofF (f : FX τ) (env : En) : (EX.ofF f).ev env = ofFR (f.ev env) := by show (f.ev env).bind _ = _; cases f.ev env <;> rfl
theorem ofFR_ok (o : O) (e : En) : ofFR (.ok o e) = .ok o.toD e := nrfl rfl
theorem ofFR_exc (c : Nat) (fs : List (Str × D)) (e : En) : ofFR (.exc c fs e) = .exc c fs e := nrfl rfl
theorem f_lstOf (a : AX τ) (env : En) : (FX.lstOf a).ev env = fopR seq1 (a.ev env) := by show (a.ev env).bind _ = _; cases a.ev env with | ok as e => (show (match (allD as).bind seq1 with | some ds => R.ok (O.lst ds) e | none => .bad) = optF e ((allD as).bind seq1); cases (allD as).bind seq1 <;> rfl) | exc c fs e => rfl | bad => rfl
theorem f_sortD (a : AX τ) (env : En) : (FX.sortD a).ev env = fopR sortDI (a.ev env) := by show (a.ev env).bind _ = _; cases a.ev env with | ok as e => (show (match (allD as).bind sortDI with | some ds => R.ok (O.lst ds) e | none => .bad) = optF e ((allD as).bind sortDI); cases (allD as).bind sortDI <;> rfl) | exc c fs e => rfl | bad => rfl
theorem fopR_ok (f : List D → Option (List D)) (as : List Ar) (e : En) : fopR f (.ok as e) = optF e ((allD as).bind f) := nrfl rfl
theorem fopR_exc (f : List D → Option (List D)) (c : Nat) (fs : List (Str × D)) (e : En) : fopR f (.exc c fs e) = .exc c fs e := nrfl rfl
theorem optF_some (e : En) (ds : List D) : optF e (some ds) = .ok (.lst ds) e := nrfl rfl
theorem s_raise (c : Nat) (names : List Str) (a : AX τ) (env : En) : (SX.raise c names a).ev env = raiseR c names (a.ev env) := by show (a.ev env).bind _ = _; cases a.ev env with | ok as e => (show (match allD as with | some ds => if ds.length = names.length then R.exc c (names.zip ds) e else .bad | none => .bad) = raiseS c names e (allD as); cases allD as <;> rfl) | exc c fs e => rfl | bad => rfl
theorem raiseR_ok (c : Nat) (names : List Str) (as : List Ar) (e : En) : raiseR c names (.ok as e) = raiseS c names e (allD as) := nrfl rfl
theorem raiseS_some (c : Nat) (names : List Str) (e : En) (ds : List D) : raiseS c names e (some ds) = if ds.length = names.length then .exc c (names.zip ds) e else .bad := nrfl rfl
def putR {α : Type} (d : α) : Option En → R α
  | some e => .ok d e
  | none => .bad
def putX {α : Type} (c : Nat) (fs : List (Str × D)) : Option En → R α
  | some e => .exc c fs e
  | none => .bad
def callS (ars : List Ar) (e : En) : Res → R D
  | .ok d os => putR d (putO ars os e)
  | .fr o os => putR o.toD (putO ars os e)
  | .exc c fs os => putX c fs (putO ars os e)
  | .bad => .bad
def callA (F : List A → Res) (ars : List Ar) (e : En) : Option (List A) → R D
  | some as => callS ars e (F as)
  | none => .bad
def callR (F : List A → Res) : R (List Ar) → R D
  | .ok ars e => if (slotsOf ars).Nodup then callA F ars e (toA ars e) else .bad
  | .exc c fs e => .exc c fs e
  | .bad => .bad
def fcallS (ars : List Ar) (e : En) : Res → R O
  | .ok d os => .bad
  | .fr o os => putR o (putO ars os e)
  | .exc c fs os => putX c fs (putO ars os e)
  | .bad => .bad
def fcallA (F : List A → Res) (ars : List Ar) (e : En) : Option (List A) → R O
  | some as => fcallS ars e (F as)
  | none => .bad
def fcallR (F : List A → Res) : R (List Ar) → R O
  | .ok ars e => if (slotsOf ars).Nodup then fcallA F ars e (toA ars e) else .bad
  | .exc c fs e => .exc c fs e
  | .bad => .bad
def makeS (e : En) : Res → R O
  | .ok .non [o] => .ok o e
  | .exc c fs [_] => .exc c fs e
  | _ => .bad
def makeA (c : Nat) (F : List A → Res) (e : En) : Option (List D) → R O
  | some ds => makeS e (F (A.o (O.ins c []) :: ds.map A.d))
  | none => .bad
def makeR (c : Nat) (F : List A → Res) : R (List Ar) → R O
  | .ok ars e => makeA c F e (allD ars)
  | .exc c fs e => .exc c fs e
  | .bad => .bad
theorem e_call (F : List A → Res) (a : AX τ) (env : En) : (EX.call F a).ev env = callR F (a.ev env) := by
  show (a.ev env).bind _ = _
  cases a.ev env with
  | ok ars e =>
    show (if (slotsOf ars).Nodup then _ else _) = (if (slotsOf ars).Nodup then _ else _)
    split
    · cases toA ars e with
      | none => rfl
      | some as =>
        dsimp only [callA]
        cases F as with
        | ok d os => dsimp only [callS]; cases putO ars os e <;> rfl
        | fr o os => dsimp only [callS]; cases putO ars os e <;> rfl
        | exc c fs os => dsimp only [callS]; cases putO ars os e <;> rfl
        | bad => rfl
    · rfl
  | exc c fs e => rfl
  | bad => rfl
theorem f_call (F : List A → Res) (a : AX τ) (env : En) : (FX.call F a).ev env = fcallR F (a.ev env) := by
  show (a.ev env).bind _ = _
  cases a.ev env with
  | ok ars e =>
    show (if (slotsOf ars).Nodup then _ else _) = (if (slotsOf ars).Nodup then _ else _)
    split
    · cases toA ars e with
      | none => rfl
      | some as =>
        dsimp only [fcallA]
        cases F as with
        | ok d os => rfl
        | fr o os => dsimp only [fcallS]; cases putO ars os e <;> rfl
        | exc c fs os => dsimp only [fcallS]; cases putO ars os e <;> rfl
        | bad => rfl
    · rfl
  | exc c fs e => rfl
  | bad => rfl
theorem f_make (c : Nat) (F : List A → Res) (a : AX τ) (env : En) : (FX.make c F a).ev env = makeR c F (a.ev env) := by
  show (a.ev env).bind _ = _
  cases a.ev env with
  | ok ars e =>
    show (match allD ars with | some ds => _ | none => _) = makeA c F e (allD ars)
    cases allD ars with
    | none => rfl
    | some ds => rfl
  | exc c fs e => rfl
  | bad => rfl
theorem callR_ok (F : List A → Res) (ars : List Ar) (e : En) : callR F (.ok ars e) = if (slotsOf ars).Nodup then callA F ars e (toA ars e) else .bad := nrfl rfl
theorem callR_exc (F : List A → Res) (c : Nat) (fs : List (Str × D)) (e : En) : callR F (.exc c fs e) = .exc c fs e := nrfl rfl
theorem fcallR_ok (F : List A → Res) (ars : List Ar) (e : En) : fcallR F (.ok ars e) = if (slotsOf ars).Nodup then fcallA F ars e (toA ars e) else .bad := nrfl rfl
theorem callA_some (F : List A → Res) (ars : List Ar) (e : En) (as : List A) : callA F ars e (some as) = callS ars e (F as) := nrfl rfl
theorem fcallA_some (F : List A → Res) (ars : List Ar) (e : En) (as : List A) : fcallA F ars e (some as) = fcallS ars e (F as) := nrfl rfl
theorem callS_ok (ars : List Ar) (e : En) (d : D) (os : List O) : callS ars e (.ok d os) = putR d (putO ars os e) := nrfl rfl
theorem callS_fr (ars : List Ar) (e : En) (d : O) (os : List O) : callS ars e (.fr d os) = putR d.toD (putO ars os e) := nrfl rfl
theorem callS_exc (ars : List Ar) (e : En) (c : Nat) (fs : List (Str × D)) (os : List O) : callS ars e (.exc c fs os) = putX c fs (putO ars os e) := nrfl rfl
theorem fcallS_fr (ars : List Ar) (e : En) (d : O) (os : List O) : fcallS ars e (.fr d os) = putR d (putO ars os e) := nrfl rfl
theorem putR_some {α : Type} (d : α) (e : En) : putR d (some e) = .ok d e := nrfl rfl
theorem putX_some {α : Type} (c : Nat) (fs : List (Str × D)) (e : En) : (putX c fs (some e) : R α) = .exc c fs e := nrfl rfl
theorem makeR_ok (c : Nat) (F : List A → Res) (ars : List Ar) (e : En) : makeR c F (.ok ars e) = makeA c F e (allD ars) := nrfl rfl
theorem makeA_some (c : Nat) (F : List A → Res) (e : En) (ds : List D) : makeA c F e (some ds) = makeS e (F (A.o (O.ins c []) :: ds.map A.d)) := nrfl rfl
theorem makeS_ok (e : En) (o : O) : makeS e (.ok .non [o]) = .ok o e := nrfl rfl
theorem makeS_exc (e : En) (c : Nat) (fs : List (Str × D)) (o : O) : makeS e (.exc c fs [o]) = .exc c fs e := nrfl rfl
theorem toA_nil (e : En) : toA [] e = some [] := nrfl rfl
theorem toA_d (d : D) (r : List Ar) (e : En) : toA (.d d :: r) e = (toA r e).map (.d d :: ·) := nrfl rfl
def toAs (r : Option (List A)) : Option Sl → Option (List A)
  | some (.own _ o) => r.map (.o o :: ·)
  | _ => none
def putS (i : Nat) (o : O) (r : List Ar) (os : List O) (e : En) : Option Sl → Option En
  | some (.own k _) => putO r os (e.set i (.own k o))
  | _ => none
theorem toA_s (i : Nat) (r : List Ar) (e : En) : toA (.s i :: r) e = toAs (toA r e) e[i]? := by show (match e[i]? with | some (.own _ o) => (toA r e).map (A.o o :: ·) | _ => none) = _; unfold toAs; rfl
theorem toAs_own (r : Option (List A)) (k : Option Nat) (o : O) : toAs r (some (.own k o)) = r.map (A.o o :: ·) := nrfl rfl
theorem putO_nil (e : En) : putO [] [] e = some e := nrfl rfl
theorem putO_d (d : D) (r : List Ar) (os : List O) (e : En) : putO (.d d :: r) os e = putO r os e := nrfl rfl
theorem putO_s (i : Nat) (o : O) (r : List Ar) (os : List O) (e : En) : putO (.s i :: r) (o :: os) e = putS i o r os e e[i]? := by show (match e[i]? with | some (.own k _) => putO r os (e.set i (.own k o)) | _ => none) = _; unfold putS; rfl
theorem putS_own (i : Nat) (o : O) (r : List Ar) (os : List O) (e : En) (k : Option Nat) (o2 : O) : putS i o r os e (some (.own k o2)) = putO r os (e.set i (.own k o)) := nrfl rfl
theorem slots_nil : slotsOf [] = [] := nrfl rfl
theorem slots_d (d : D) (r : List Ar) : slotsOf (.d d :: r) = slotsOf r := nrfl rfl
theorem slots_s (i : Nat) (r : List Ar) : slotsOf (.s i :: r) = i :: slotsOf r := nrfl rfl
def finR (as : List A) : R Fl → Res
  | .ok .nx e => fin as e (.ok .non)
  | .ok (.rt d) e => fin as e (.ok d)
  | .ok (.ro o) e => fin as e (.fr o)
  | .ok .bk _ => .bad
  | .ok .ct _ => .bad
  | .exc c fs e => fin as e (.exc c fs)
  | .bad => .bad
def finO (k : List O → Res) : Option (List O) → Res
  | some os => k os
  | none => .bad
theorem def_eq (np n : Nat) (b : En → R Fl) (as : List A) : runDef np n b as = if as.length = np then finR as (b (initEnv as n)) else .bad := by unfold runDef finR; rfl
theorem finR_nx (as : List A) (e : En) : finR as (.ok .nx e) = finO (.ok .non) (outs 0 as e) := nrfl rfl
theorem finR_rt (as : List A) (d : D) (e : En) : finR as (.ok (.rt d) e) = finO (.ok d) (outs 0 as e) := nrfl rfl
theorem finR_ro (as : List A) (o : O) (e : En) : finR as (.ok (.ro o) e) = finO (.fr o) (outs 0 as e) := nrfl rfl
theorem finR_exc (as : List A) (c : Nat) (fs : List (Str × D)) (e : En) : finR as (.exc c fs e) = finO (.exc c fs) (outs 0 as e) := nrfl rfl
theorem finO_some (k : List O → Res) (os : List O) : finO k (some os) = k os := nrfl rfl
theorem outs_nil (j : Nat) (e : En) : outs j [] e = some [] := by cases e <;> rfl
theorem outs_d (j : Nat) (d : D) (as : List A) (x : Sl) (e : En) : outs j (.d d :: as) (x :: e) = outs j as e := nrfl rfl
theorem outs_o (j : Nat) (o o2 : O) (as : List A) (e : En) : outs j (.o o :: as) (.own (some j) o2 :: e) = (outs (j + 1) as e).map (o2 :: ·) := by show (if j = j then _ else _) = _; rw [if_pos rfl]
theorem init_eq (as : List A) (n : Nat) : initEnv as n = initGo 0 as ++ List.replicate (n - as.length) .no := nrfl rfl
theorem go_nil (j : Nat) : initGo j [] = [] := nrfl rfl
theorem go_d (j : Nat) (d : D) (as : List A) : initGo j (.d d :: as) = .dat d :: initGo j as := nrfl rfl
theorem go_o (j : Nat) (o : O) (as : List A) : initGo j (.o o :: as) = .own (some j) o :: initGo (j + 1) as := nrfl rfl
def forR (chk : En → En → Bool) (g : D → En → Option En) (b : En → R Fl) : R (List D) → R Fl
  | .ok ds e => runFor (chk e) g b ds e
  | .exc c fs e => .exc c fs e
  | .bad => .bad
def itSeqR : R D → R (List D)
  | .ok d e => R.of d.seq? e
  | .exc c fs e => .exc c fs e
  | .bad => .bad
def itArR (f : List D → Option (List D)) : R (List Ar) → R (List D)
  | .ok as e => R.of ((allD as).bind f) e
  | .exc c fs e => .exc c fs e
  | .bad => .bad
theorem s_for (it : IX τ) (g : GX τ) (b : SX τ) (env : En) : (SX.forE it g b).ev env = forR it.chk g.ev b.ev (it.ev env) := by show (it.ev env).bind _ = _; cases it.ev env <;> rfl
theorem forR_ok (chk : En → En → Bool) (g : D → En → Option En) (b : En → R Fl) (ds : List D) (e : En) : forR chk g b (.ok ds e) = runFor (chk e) g b ds e := nrfl rfl
theorem i_seq_ (a : EX τ) (env : En) : (IX.seq a).ev env = itSeqR (a.ev env) := by show (a.ev env).bind _ = _; cases a.ev env <;> rfl
theorem i_range1_ (a : AX τ) (env : En) : (IX.range1 a).ev env = itArR rng1 (a.ev env) := by show (a.ev env).bind _ = _; cases a.ev env <;> rfl
theorem chk_range1 (a : AX τ) : (IX.range1 a).chk = fun _ _ => true := nrfl rfl
theorem i_range2_ (a : AX τ) (env : En) : (IX.range2 a).ev env = itArR rng2 (a.ev env) := by show (a.ev env).bind _ = _; cases a.ev env <;> rfl
theorem chk_range2 (a : AX τ) : (IX.range2 a).chk = fun _ _ => true := nrfl rfl
theorem i_enum_ (a : AX τ) (env : En) : (IX.enum a).ev env = itArR enum1 (a.ev env) := by show (a.ev env).bind _ = _; cases a.ev env <;> rfl
theorem chk_enum (a : AX τ) : (IX.enum a).chk = fun _ _ => true := nrfl rfl
theorem chk_seq (a : EX τ) : (IX.seq a).chk = fun _ _ => true := nrfl rfl
theorem itSeqR_ok (d : D) (e : En) : itSeqR (.ok d e) = R.of d.seq? e := nrfl rfl
theorem itSeqR_exc (c : Nat) (fs : List (Str × D)) (e : En) : itSeqR (.exc c fs e) = .exc c fs e := nrfl rfl
theorem itArR_ok (f : List D → Option (List D)) (as : List Ar) (e : En) : itArR f (.ok as e) = R.of ((allD as).bind f) e := nrfl rfl
def fForK (g : D → En → Option En) (b : En → R Fl) (ds : List D) : R Fl → R Fl
  | .ok .nx e => runFor (fun _ => true) g b ds e
  | .ok .ct e => runFor (fun _ => true) g b ds e
  | .ok .bk e => .ok .nx e
  | r => r
def fForG (g : D → En → Option En) (b : En → R Fl) (ds : List D) : Option En → R Fl
  | some e => fForK g b ds (b e)
  | none => .bad
theorem for_nil (g : D → En → Option En) (b : En → R Fl) (e : En) : runFor (fun _ => true) g b [] e = .ok .nx e := by simp [runFor]
theorem for_cons (g : D → En → Option En) (b : En → R Fl) (d : D) (ds : List D) (e : En) : runFor (fun _ => true) g b (d :: ds) e = fForG g b ds (g d e) := by
  simp only [runFor, if_true]
  cases g d e with
  | none => rfl
  | some e1 =>
    dsimp only [fForG]
    cases b e1 with
    | ok f e2 => cases f <;> rfl
    | exc c fs e2 => rfl
    | bad => rfl
theorem fForG_some (g : D → En → Option En) (b : En → R Fl) (ds : List D) (e : En) : fForG g b ds (some e) = fForK g b ds (b e) := nrfl rfl
theorem fForK_nx (g : D → En → Option En) (b : En → R Fl) (ds : List D) (e : En) : fForK g b ds (.ok .nx e) = runFor (fun _ => true) g b ds e := nrfl rfl
theorem fForK_ct (g : D → En → Option En) (b : En → R Fl) (ds : List D) (e : En) : fForK g b ds (.ok .ct e) = runFor (fun _ => true) g b ds e := nrfl rfl
theorem fForK_bk (g : D → En → Option En) (b : En → R Fl) (ds : List D) (e : En) : fForK g b ds (.ok .bk e) = .ok .nx e := nrfl rfl
theorem fForK_rt (g : D → En → Option En) (b : En → R Fl) (ds : List D) (d : D) (e : En) : fForK g b ds (.ok (.rt d) e) = .ok (.rt d) e := nrfl rfl
theorem fForK_exc (g : D → En → Option En) (b : En → R Fl) (ds : List D) (c : Nat) (fs : List (Str × D)) (e : En) : fForK g b ds (.exc c fs e) = .exc c fs e := nrfl rfl
def lcF (e1 : En) (vs : List Nat) : R (List D) → R O
  | .ok acc e2 => .ok (.lst acc) (restE e1 e2 vs)
  | _ => .bad
def lcR (chk : En → En → Bool) (g : D → En → Option En) (t : En → R Bool) (f : En → R D) (vs : List Nat) : R (List D) → R O
  | .ok ds e1 => if okVs e1 vs then lcF e1 vs (runLc (fun e => chk e1 (restE e1 e vs)) g t f vs ds (wipeE e1 vs) []) else .bad
  | .exc c fs e => .exc c fs e
  | .bad => .bad
def okVS : Option Sl → Bool
  | some (.own _ _) => false
  | some (.exn _ _) => false
  | some _ => true
  | none => false
theorem runLc_map {g : D → En → Option En} {t : En → R Bool} {f : En → R D} {vs : List Nat} {env0 : En} {F : D → Option D} : ∀ (ds : List D) (acc : List D), (∀ d ∈ ds, ∃ e1, g d env0 = some e1 ∧ wipeE e1 vs = env0 ∧ ∃ c, t e1 = .ok c e1 ∧ (c = true → ∃ z, f e1 = .ok z e1 ∧ F d = some z) ∧ (c = false → F d = none)) →
    acc.length + ds.length ≤ 16000000 → runLc (fun _ => true) g t f vs ds env0 acc = .ok (acc ++ ds.filterMap F) env0
  | [], acc, _, _ => by simp [runLc]
  | d :: ds, acc, h, hl => by
    obtain ⟨e1, h1, h2, c, h3, h4, h5⟩ := h d (by simp)
    simp only [List.length_cons] at hl
    have ih := fun acc' hl' => runLc_map (F := F) ds acc' (fun x hx => h x (by simp [hx])) hl'
    cases c with
    | false =>
      simp only [runLc, if_true, h1, h3, h2]
      rw [ih acc (by omega), List.filterMap_cons, h5 rfl]
    | true =>
      obtain ⟨z, h6, h7⟩ := h4 rfl
      have cp : capd acc.length = true := by unfold capd; simp; omega
      simp only [runLc, if_true, h1, h3, h2, h6, cp]
      rw [ih (acc ++ [z]) (by simp; omega), List.filterMap_cons, h7]
      simp
theorem f_lc (it : IX τ) (g : GX τ) (t : TX τ) (f : EX τ) (vs : List Nat) (hg : ∀ j ∈ g.sl, j ∈ vs) (env : En) : (FX.lc it g t f vs hg).ev env = lcR it.chk g.ev t.ev f.ev vs (it.ev env) := by
  show (it.ev env).bind _ = _
  cases it.ev env with
  | ok ds e1 =>
    show (if okVs e1 vs then _ else R.bad) = (if okVs e1 vs then _ else R.bad)
    split
    · show (match runLc (fun e => it.chk e1 (restE e1 e vs)) g.ev t.ev f.ev vs ds (wipeE e1 vs) [] with | .ok acc e2 => R.ok (O.lst acc) (restE e1 e2 vs) | _ => .bad) = lcF e1 vs (runLc (fun e => it.chk e1 (restE e1 e vs)) g.ev t.ev f.ev vs ds (wipeE e1 vs) [])
      cases runLc (fun e => it.chk e1 (restE e1 e vs)) g.ev t.ev f.ev vs ds (wipeE e1 vs) [] <;> rfl
    · rfl
  | exc c fs e => rfl
  | bad => rfl
theorem lcR_ok (chk : En → En → Bool) (g : D → En → Option En) (t : En → R Bool) (f : En → R D) (vs : List Nat) (ds : List D) (e1 : En) : lcR chk g t f vs (.ok ds e1) = if okVs e1 vs then lcF e1 vs (runLc (fun e => chk e1 (restE e1 e vs)) g t f vs ds (wipeE e1 vs) []) else .bad := nrfl rfl
theorem lcF_ok (e1 e2 : En) (vs : List Nat) (acc : List D) : lcF e1 vs (.ok acc e2) = .ok (.lst acc) (restE e1 e2 vs) := nrfl rfl
theorem okVs_nil (e : En) : okVs e [] = true := nrfl rfl
theorem okVs_cons (e : En) (v : Nat) (vs : List Nat) : okVs e (v :: vs) = (okVS e[v]? && okVs e vs) := by unfold okVs; rw [List.all_cons]; congr 1
theorem okVS_no : okVS (some .no) = true := nrfl rfl
theorem okVS_dat (d : D) : okVS (some (.dat d)) = true := nrfl rfl
theorem wipe_nil (e : En) : wipeE e [] = e := nrfl rfl
theorem wipe_cons (e : En) (v : Nat) (vs : List Nat) : wipeE e (v :: vs) = (wipeE e vs).set v .no := nrfl rfl
theorem rest_nil (e1 e : En) : restE e1 e [] = e := nrfl rfl
theorem rest_cons (e1 e : En) (v : Nat) (vs : List Nat) : restE e1 e (v :: vs) = (restE e1 e vs).set v (e1.getD v .no) := nrfl rfl
def odS : Option Sl → Option (List (Key × D))
  | some (.own _ (.dic kvs)) => some kvs
  | some (.dat (.dic kvs)) => some kvs
  | _ => none
theorem od_eq (env : En) (i : Nat) : ownDic env i = odS env[i]? := by unfold ownDic odS; rfl
def dinP (neg : Bool) (d : D) (e : En) : Option (List (Key × D)) → R D
  | some kvs => R.of (fDin neg d (.dic kvs)) e
  | none => .bad
def dinK (neg : Bool) (i : Nat) : R D → R D
  | .ok d e => dinP neg d e (ownDic e i)
  | .exc c fs e => .exc c fs e
  | .bad => .bad
def dpQ (i : Nat) (io : Option Nat) (kvs : List (Key × D)) (d : D) (e : En) : Option Key → R Fl
  | some key => if capd kvs.length then .ok .nx (e.set i (.own io (.dic (putD kvs key d)))) else .bad
  | none => .bad
def dpS (i : Nat) (d : D) (x : D) (e : En) : Option Sl → R Fl
  | some (.own io (.dic kvs)) => dpQ i io kvs d e (keyD x)
  | _ => .bad
def dpK (i : Nat) (d : D) : R D → R Fl
  | .ok x e => dpS i d x e e[i]?
  | .exc c fs e => .exc c fs e
  | .bad => .bad
def isDc : Option Sl → Bool
  | some (.own _ (.dic _)) => true
  | _ => false
def dpV (i : Nat) (k : En → R D) : R D → R Fl
  | .ok d e => if isDc e[i]? then dpK i d (k e) else .bad
  | .exc c fs e => .exc c fs e
  | .bad => .bad
def fsS (τ : Tab) (i : Nat) (f : Str) (d : D) (e : En) : Option Sl → R Fl
  | some (.own k (.ins c fs)) => if attOk τ c f && decide (fs.length < 1000) then .ok .nx (e.set i (.own k (.ins c (putFd f d fs)))) else .bad
  | _ => .bad
def fsR (τ : Tab) (i : Nat) (f : Str) : R D → R Fl
  | .ok d e => fsS τ i f d e e[i]?
  | .exc c fs e => .exc c fs e
  | .bad => .bad
def tryH (i : Nat) (h : List (Str × D) → En → Option En) (fs : List (Str × D)) (e : En) : R Fl := if okV e i then (match h fs (e.set i .no) with
      | some e2 => if okV e2 i then .ok .nx (e2.set i .no) else .bad
      | none => .bad) else .bad
def tryS (i : Nat) (h : List (Str × D) → En → Option En) (c' : Nat) (fs : List (Str × D)) (e : En) : Option Bool → R Fl
  | some true => tryH i h fs e
  | some false => .exc c' fs e
  | none => .bad
def tryR (τ : Tab) (c i : Nat) (h : List (Str × D) → En → Option En) : R Fl → R Fl
  | .exc c' fs e => tryS i h c' fs e (τ.sub c' c)
  | r => r
theorem odS_own (k : Option Nat) (l : List (Key × D)) : odS (some (.own k (.dic l))) = some l := nrfl rfl
theorem odS_dat (l : List (Key × D)) : odS (some (.dat (.dic l))) = some l := nrfl rfl
theorem e_dinO (a : EX τ) (i : Nat) (env : En) : (EX.dinO a i).ev env = dinK false i (a.ev env) := by
  show (a.ev env).bind _ = _
  cases a.ev env with
  | ok d e =>
    show (match ownDic e i, keyD d with | some kvs, some k => _ | _, _ => _) = dinP false d e (ownDic e i)
    cases ownDic e i with
    | none => rfl
    | some kvs =>
      show (match some kvs, keyD d with | some kvs, some k => _ | _, _ => _) = R.of (fDin false d (.dic kvs)) e
      unfold fDin
      cases keyD d <;> rfl
  | exc c fs e => rfl
  | bad => rfl
theorem e_dninO (a : EX τ) (i : Nat) (env : En) : (EX.dninO a i).ev env = dinK true i (a.ev env) := by
  show (a.ev env).bind _ = _
  cases a.ev env with
  | ok d e =>
    show (match ownDic e i, keyD d with | some kvs, some k => _ | _, _ => _) = dinP true d e (ownDic e i)
    cases ownDic e i with
    | none => rfl
    | some kvs =>
      show (match some kvs, keyD d with | some kvs, some k => _ | _, _ => _) = R.of (fDin true d (.dic kvs)) e
      unfold fDin
      cases keyD d <;> rfl
  | exc c fs e => rfl
  | bad => rfl
theorem dinK_ok (neg : Bool) (i : Nat) (d : D) (e : En) : dinK neg i (.ok d e) = dinP neg d e (ownDic e i) := nrfl rfl
theorem dinP_some (neg : Bool) (d : D) (e : En) (kvs : List (Key × D)) : dinP neg d e (some kvs) = R.of (fDin neg d (.dic kvs)) e := nrfl rfl
theorem s_dput (i : Nat) (k v : EX τ) (env : En) : (SX.dput i k v).ev env = dpV i k.ev (v.ev env) := by
  show (v.ev env).bind _ = _
  cases v.ev env with
  | exc c fs e => rfl
  | bad => rfl
  | ok d e =>
    show (match e[i]? with | some (.own _ (.dic _)) => _ | _ => _) = (if isDc e[i]? then dpK i d (k.ev e) else .bad)
    rcases e[i]? with _ | x
    · rfl
    · cases x with
      | no => rfl
      | dat d => rfl
      | exn a b => rfl
      | own io o =>
        cases o with
        | lst l => rfl
        | ins c fs => rfl
        | dic kvs =>
          show (k.ev e).bind _ = (if true = true then dpK i d (k.ev e) else .bad)
          rw [if_pos rfl]
          cases k.ev e with
          | exc c fs e => rfl
          | bad => rfl
          | ok x e2 =>
            show (match e2[i]?, keyD x with | some (.own io (.dic kvs)), some key => _ | _, _ => _) = dpS i d x e2 e2[i]?
            rcases e2[i]? with _ | y
            · rfl
            · cases y with
              | no => rfl
              | dat d => rfl
              | exn a b => rfl
              | own io o =>
                cases o with
                | lst l => rfl
                | ins c fs => rfl
                | dic kvs => show _ = dpQ i io kvs d e2 (keyD x); cases keyD x <;> rfl
theorem dpV_ok (i : Nat) (k : En → R D) (d : D) (e : En) : dpV i k (.ok d e) = if isDc e[i]? then dpK i d (k e) else .bad := nrfl rfl
theorem dpV_exc (i : Nat) (k : En → R D) (c : Nat) (fs : List (Str × D)) (e : En) : dpV i k (.exc c fs e) = .exc c fs e := nrfl rfl
theorem isDc_dic (k : Option Nat) (l : List (Key × D)) : isDc (some (.own k (.dic l))) = true := nrfl rfl
theorem dpK_ok (i : Nat) (d x : D) (e : En) : dpK i d (.ok x e) = dpS i d x e e[i]? := nrfl rfl
theorem dpS_own (i : Nat) (d x : D) (e : En) (io : Option Nat) (l : List (Key × D)) : dpS i d x e (some (.own io (.dic l))) = dpQ i io l d e (keyD x) := nrfl rfl
theorem dpQ_some (i : Nat) (io : Option Nat) (kvs : List (Key × D)) (d : D) (e : En) (key : Key) : dpQ i io kvs d e (some key) = if capd kvs.length then .ok .nx (e.set i (.own io (.dic (putD kvs key d)))) else .bad := nrfl rfl
theorem s_fset (i : Nat) (f : Str) (a : EX τ) (env : En) : (SX.fset i f a).ev env = fsR τ i f (a.ev env) := by
  show (a.ev env).bind _ = _
  cases a.ev env with
  | exc c fs e => rfl
  | bad => rfl
  | ok d e => 
    show (match e[i]? with | some (.own k (.ins c fs)) => _ | _ => _) = fsS τ i f d e e[i]?
    rcases e[i]? with _ | x
    · rfl
    · cases x with
      | own io o => cases o <;> rfl
      | _ => rfl
theorem fsR_ok (τ : Tab) (i : Nat) (f : Str) (d : D) (e : En) : fsR τ i f (.ok d e) = fsS τ i f d e e[i]? := nrfl rfl
theorem fsR_exc (τ : Tab) (i : Nat) (f : Str) (c : Nat) (fs : List (Str × D)) (e : En) : fsR τ i f (.exc c fs e) = .exc c fs e := nrfl rfl
theorem fsS_own (τ : Tab) (i : Nat) (f : Str) (d : D) (e : En) (k : Option Nat) (c : Nat) (fs : List (Str × D)) : fsS τ i f d e (some (.own k (.ins c fs))) = if attOk τ c f && decide (fs.length < 1000) then .ok .nx (e.set i (.own k (.ins c (putFd f d fs)))) else .bad := nrfl rfl
theorem s_try (b : SX τ) (c i : Nat) (hx : HX τ) (env : En) : (SX.try1 b c i hx).ev env = tryR τ c i hx.ev (b.ev env) := by
  show evTry τ b.ev c i hx.ev env = _
  unfold evTry
  cases b.ev env with
  | ok f e => rfl
  | bad => rfl
  | exc c' fs e =>
    show (match τ.sub c' c with | some true => _ | some false => _ | none => _) = tryS i hx.ev c' fs e (τ.sub c' c)
    rcases τ.sub c' c with _ | x
    · rfl
    · cases x <;> rfl
theorem tryR_ok (τ : Tab) (c i : Nat) (h : List (Str × D) → En → Option En) (f : Fl) (e : En) : tryR τ c i h (.ok f e) = .ok f e := nrfl rfl
theorem tryR_exc (τ : Tab) (c i : Nat) (h : List (Str × D) → En → Option En) (c1 : Nat) (fs : List (Str × D)) (e : En) : tryR τ c i h (.exc c1 fs e) = tryS i h c1 fs e (τ.sub c1 c) := nrfl rfl
theorem tryS_true (i : Nat) (h : List (Str × D) → En → Option En) (c1 : Nat) (fs : List (Str × D)) (e : En) : tryS i h c1 fs e (some true) = tryH i h fs e := nrfl rfl
theorem f_dnew (env : En) : (FX.dnew (τ := τ)).ev env = .ok (.dic []) env := nrfl rfl
theorem f_dcon (kvs : List (Key × Key)) (hm) (h15) (env : En) : (FX.dcon (τ := τ) kvs hm h15).ev env = .ok (.dic (kvs.map fun p => (p.1, keyOf p.2))) env := nrfl rfl
def addS (x : D) : R D → R O
  | .ok y e => match x, y with
    | .lst xs, .lst ys => if capd (xs.length + ys.length) then .ok (.lst (xs ++ ys)) e else .bad
    | _, _ => .bad
  | .exc c fs e => .exc c fs e
  | .bad => .bad
def addR (b : En → R D) : R D → R O
  | .ok x e => addS x (b e)
  | .exc c fs e => .exc c fs e
  | .bad => .bad
theorem f_addL (a b : EX τ) (env : En) : (FX.addL a b).ev env = addR b.ev (a.ev env) := by show (a.ev env).bind _ = _; cases a.ev env with | ok d e => (show (b.ev e).bind _ = addS d (b.ev e); cases b.ev e <;> rfl) | exc c fs e => rfl | bad => rfl
theorem addR_ok (b : En → R D) (x : D) (e : En) : addR b (.ok x e) = addS x (b e) := nrfl rfl
theorem addS_ok (xs ys : List D) (e : En) : addS (.lst xs) (.ok (.lst ys) e) = if capd (xs.length + ys.length) then .ok (.lst (xs ++ ys)) e else .bad := nrfl rfl
def slF (d : D) (l u : Option Int) (e : En) : Option (List D) → R O
  | some ds => .ok (.lst (cutD ds l u)) e
  | none => .bad
def pkS : Option Sl → Option (List D)
  | some (.own _ (.lst ds)) => some ds
  | some (.dat d) => d.seq?
  | _ => none
theorem peek_eq (env : En) (i : Nat) : peek env i = pkS env[i]? := by unfold peek pkS; rfl
def owS : Option Sl → Option (List D)
  | some (.own _ (.lst ds)) => some ds
  | _ => none
theorem own_eq (env : En) (i : Nat) : ownLst env i = owS env[i]? := by unfold ownLst owS; rfl
def stS (env : En) (i : Nat) (ds : List D) : Option Sl → En
  | some (.own k _) => env.set i (.own k (.lst ds))
  | _ => env
theorem st_eq (env : En) (i : Nat) (ds : List D) : setLst env i ds = stS env i ds env[i]? := by unfold setLst stS; rfl
def ixP (e : En) (d : D) : Option (List D) → R D
  | some ds => R.of (fIx (.lst ds) d) e
  | none => .bad
def ixK (i : Nat) : R D → R D
  | .ok d e => ixP e d (peek e i)
  | .exc c fs e => .exc c fs e
  | .bad => .bad
def ixO (i : Nat) (r : R D) : Option (List D) → R D
  | some _ => ixK i r
  | none => .bad
def lnO (env : En) : Option (List D) → R D
  | some ds => .ok (.int ds.length) env
  | none => .bad
def appP (i : Nat) (e : En) (d : D) : Option (List D) → R Fl
  | some ds => if capd ds.length then .ok .nx (setLst e i (ds ++ [d])) else .bad
  | none => .bad
def appK (i : Nat) : R D → R Fl
  | .ok d e => appP i e d (ownLst e i)
  | .exc c fs e => .exc c fs e
  | .bad => .bad
def appO (i : Nat) (r : R D) : Option (List D) → R Fl
  | some _ => appK i r
  | none => .bad
def revO (env : En) (i : Nat) : Option (List D) → R Fl
  | some ds => .ok .nx (setLst env i ds.reverse)
  | none => .bad
def popP (env : En) (i : Nat) (ds : List D) : Option D → R D
  | some d => .ok d (setLst env i ds.dropLast)
  | none => .bad
def popO (env : En) (i : Nat) : Option (List D) → R D
  | some ds => popP env i ds ds[ds.length - 1]?
  | none => .bad
def setQ (i : Nat) (d : D) (e : En) (ds : List D) : Option Nat → R Fl
  | some p => .ok .nx (setLst e i (ds.set p d))
  | none => .bad
def setP (i : Nat) (d : D) (e : En) (x : D) : Option (List D) → R Fl
  | some ds => match x with
    | .int n => setQ i d e ds (ixN ds.length n)
    | _ => .bad
  | none => .bad
def setJ (i : Nat) (d : D) : R D → R Fl
  | .ok x e => setP i d e x (ownLst e i)
  | .exc c fs e => .exc c fs e
  | .bad => .bad
def setO (i : Nat) (d : D) (j : R D) : Option (List D) → R Fl
  | some _ => setJ i d j
  | none => .bad
def setV (i : Nat) (j : En → R D) : R D → R Fl
  | .ok d e => setO i d (j e) (ownLst e i)
  | .exc c fs e => .exc c fs e
  | .bad => .bad
theorem pkS_own (k : Option Nat) (ds : List D) : pkS (some (.own k (.lst ds))) = some ds := nrfl rfl
theorem pkS_dat (d : D) : pkS (some (.dat d)) = d.seq? := nrfl rfl
theorem owS_own (k : Option Nat) (ds : List D) : owS (some (.own k (.lst ds))) = some ds := nrfl rfl
theorem stS_own (env : En) (i : Nat) (ds : List D) (k : Option Nat) (o : O) : stS env i ds (some (.own k o)) = env.set i (.own k (.lst ds)) := nrfl rfl
theorem e_idxO (i : Nat) (j : EX τ) (env : En) : (EX.idxO i j).ev env = ixO i (j.ev env) (peek env i) := by
  show (if (peek env i).isSome then (j.ev env).bind _ else R.bad) = _
  cases peek env i with
  | none => rfl
  | some ds0 =>
    show (if true = true then (j.ev env).bind _ else R.bad) = ixK i (j.ev env)
    rw [if_pos rfl]
    cases j.ev env with
    | ok d e =>
      show (match peek e i, d with | some ds, .int n => R.of (atI ds n) e | _, _ => .bad) = ixP e d (peek e i)
      cases peek e i with
      | none => cases d <;> rfl
      | some ds => cases d <;> rfl
    | exc c fs e => rfl
    | bad => rfl
theorem ixO_some (i : Nat) (r : R D) (ds : List D) : ixO i r (some ds) = ixK i r := nrfl rfl
theorem ixK_ok (i : Nat) (d : D) (e : En) : ixK i (.ok d e) = ixP e d (peek e i) := nrfl rfl
theorem ixP_some (e : En) (d : D) (ds : List D) : ixP e d (some ds) = R.of (fIx (.lst ds) d) e := nrfl rfl
theorem e_lenO (i : Nat) (env : En) : (EX.lenO (τ := τ) i).ev env = lnO env (peek env i) := by show (match peek env i with | some ds => R.ok (D.int ds.length) env | none => .bad) = _; cases peek env i <;> rfl
theorem lnO_some (env : En) (ds : List D) : lnO env (some ds) = .ok (.int ds.length) env := nrfl rfl
theorem s_app (i : Nat) (a : EX τ) (env : En) : (SX.app i a).ev env = appO i (a.ev env) (ownLst env i) := by
  show (if (ownLst env i).isSome then (a.ev env).bind _ else R.bad) = _
  cases ownLst env i with
  | none => rfl
  | some ds0 =>
    show (if true = true then (a.ev env).bind _ else R.bad) = appK i (a.ev env)
    rw [if_pos rfl]
    cases a.ev env with
    | ok d e => show (match ownLst e i with | some ds => _ | none => _) = appP i e d (ownLst e i); cases ownLst e i <;> rfl
    | exc c fs e => rfl
    | bad => rfl
theorem appO_some (i : Nat) (r : R D) (ds : List D) : appO i r (some ds) = appK i r := nrfl rfl
theorem appK_ok (i : Nat) (d : D) (e : En) : appK i (.ok d e) = appP i e d (ownLst e i) := nrfl rfl
theorem appK_exc (i : Nat) (c : Nat) (fs : List (Str × D)) (e : En) : appK i (.exc c fs e) = .exc c fs e := nrfl rfl
theorem appP_some (i : Nat) (e : En) (d : D) (ds : List D) : appP i e d (some ds) = if capd ds.length then .ok .nx (setLst e i (ds ++ [d])) else .bad := nrfl rfl
theorem s_rev (i : Nat) (env : En) : (SX.rev (τ := τ) i).ev env = revO env i (ownLst env i) := by show (match ownLst env i with | some ds => _ | none => _) = _; cases ownLst env i <;> rfl
theorem revO_some (env : En) (i : Nat) (ds : List D) : revO env i (some ds) = .ok .nx (setLst env i ds.reverse) := nrfl rfl
theorem e_pop (i : Nat) (env : En) : (EX.pop (τ := τ) i).ev env = popO env i (ownLst env i) := by
  show (match ownLst env i with | some ds => _ | none => _) = _
  cases ownLst env i with
  | none => rfl
  | some ds => show (match ds[ds.length - 1]? with | some d => _ | none => _) = popP env i ds ds[ds.length - 1]?; cases ds[ds.length - 1]? <;> rfl
theorem popO_some (env : En) (i : Nat) (ds : List D) : popO env i (some ds) = popP env i ds ds[ds.length - 1]? := nrfl rfl
theorem popP_some (env : En) (i : Nat) (ds : List D) (d : D) : popP env i ds (some d) = .ok d (setLst env i ds.dropLast) := nrfl rfl
theorem s_setL (i : Nat) (j v : EX τ) (env : En) : (SX.setL i j v).ev env = setV i j.ev (v.ev env) := by
  show (v.ev env).bind _ = _
  cases v.ev env with
  | exc c fs e => rfl
  | bad => rfl
  | ok d e =>
    show (if (ownLst e i).isSome then (j.ev e).bind _ else R.bad) = setO i d (j.ev e) (ownLst e i)
    cases ownLst e i with
    | none => rfl
    | some ds0 =>
      show (if true = true then (j.ev e).bind _ else R.bad) = setJ i d (j.ev e)
      rw [if_pos rfl]
      cases j.ev e with
      | exc c fs e => rfl
      | bad => rfl
      | ok x e2 =>
        show (match ownLst e2 i, x with | some ds, .int n => _ | _, _ => _) = setP i d e2 x (ownLst e2 i)
        cases ownLst e2 i with
        | none => cases x <;> rfl
        | some ds =>
          cases x with
          | int n => show (match ixN ds.length n with | some p => _ | none => _) = setQ i d e2 ds (ixN ds.length n); cases ixN ds.length n <;> rfl
          | _ => rfl
theorem setV_ok (i : Nat) (j : En → R D) (d : D) (e : En) : setV i j (.ok d e) = setO i d (j e) (ownLst e i) := nrfl rfl
theorem setV_exc (i : Nat) (j : En → R D) (c : Nat) (fs : List (Str × D)) (e : En) : setV i j (.exc c fs e) = .exc c fs e := nrfl rfl
theorem setO_some (i : Nat) (d : D) (j : R D) (ds : List D) : setO i d j (some ds) = setJ i d j := nrfl rfl
theorem setJ_ok (i : Nat) (d x : D) (e : En) : setJ i d (.ok x e) = setP i d e x (ownLst e i) := nrfl rfl
theorem setP_int (i : Nat) (d : D) (e : En) (n : Int) (ds : List D) : setP i d e (.int n) (some ds) = setQ i d e ds (ixN ds.length n) := nrfl rfl
theorem setQ_some (i : Nat) (d : D) (e : En) (ds : List D) (p : Nat) : setQ i d e ds (some p) = .ok .nx (setLst e i (ds.set p d)) := nrfl rfl
theorem cast2 : ((2 : Nat) : Int) = 2 := rfl
theorem cast0 : ((0 : Nat) : Int) = 0 := rfl
theorem cast1 : ((1 : Nat) : Int) = 1 := rfl
theorem om_some {α β : Type} (f : α → β) (x : α) : (some x).map f = some (f x) := nrfl rfl
theorem om_none {α β : Type} (f : α → β) : (none : Option α).map f = none := nrfl rfl
theorem ob_some {α β : Type} (f : α → Option β) (x : α) : (some x).bind f = f x := nrfl rfl
theorem ob_none {α β : Type} (f : α → Option β) : (none : Option α).bind f = none := nrfl rfl
end T


local macro_rules
  | `(tactic| simp?!) => `(tactic| simp only [T.op2S_ok, T.op2S_exc, T.op2R_ok, T.op2R_exc, T.of_some, T.of_none, T.op1R_ok, T.op1R_exc, T.e_add, T.e_sub, T.e_mul, T.e_fdiv, T.e_mod, T.e_pow, T.e_lt, T.e_le, T.e_gt, T.e_ge, T.e_eq, T.e_ne, T.e_isN, T.e_notN, T.e_isin, T.e_notin, T.e_idx, T.e_dget, T.e_din, T.e_dnin, T.e_neg, T.e_isi, T.e_isi2, T.e_fld, T.e_bits, T.e_prop, T.e_var, T.varR_dat, T.varR_own, T.toD_lst, T.toD_dic, T.toD_ins, T.e_non, T.e_bl, T.e_int, T.e_str, T.e_glob, T.globR_some, T.e_and, T.e_or, T.e_not, T.t_ofE, T.t_and, T.t_or, T.t_not, T.t_yes, T.e_ife, T.s_ite, T.andR_ok, T.andR_exc, T.orR_ok, T.orR_exc, T.tandR_ok, T.tandR_exc, T.torR_ok, T.torR_exc, T.notR_ok, T.notR_exc, T.tstR_ok, T.tstR_exc, T.tnotR_ok, T.tnotR_exc, T.iteR_ok, T.iteR_exc, T.s_seq, T.seqR_nx, T.seqR_bk, T.seqR_ct, T.seqR_rt, T.seqR_ro, T.seqR_exc, T.s_asg, T.s_asgF, T.s_asgG, T.s_ret, T.s_expr, T.s_nx, T.s_brk, T.s_cnt, T.s_retN, T.canSet_eq, T.canS_dat, T.canS_no, T.canS_own, T.asgR_ok, T.asgR_exc, T.asgFR_ok, T.asgFR_exc, T.asgGR_ok, T.asgGR_exc, T.optNx_some, T.optNx_none, T.retR_ok, T.retR_exc, T.exprR_ok, T.exprR_exc, T.s_retO, T.retOR_own, T.g_nm, T.g_sq_, T.g_nil_, T.g_cons_, T.gseqR_some, T.gsqR_some, T.gsqR_none, T.a_nil, T.a_cons, T.a_lend, T.isO_own, T.consR_ok, T.consR_exc, T.consS_ok, T.consS_exc, T.lendS_ok, T.lendS_exc, T.allD_nil, T.allD_d, T.e_len, T.e_abs, T.e_int1, T.e_min2, T.e_max2, T.e_gcd, T.e_any, T.e_all, T.e_tupOf, T.e_tup, T.biR_ok, T.biR_exc, T.biS_some, T.f_lst, T.lstR_ok, T.lstR_exc, T.lstS_some, T.e_ofF, T.ofFR_ok, T.ofFR_exc, T.f_lstOf, T.f_sortD, T.fopR_ok, T.fopR_exc, T.optF_some, T.s_raise, T.raiseR_ok, T.raiseS_some, T.e_call, T.f_call, T.f_make, T.callR_ok, T.callR_exc, T.fcallR_ok, T.callA_some, T.fcallA_some, T.callS_ok, T.callS_fr, T.callS_exc, T.fcallS_fr, T.putR_some, T.putX_some, T.makeR_ok, T.makeA_some, T.makeS_ok, T.makeS_exc, T.toA_nil, T.toA_d, T.toA_s, T.toAs_own, T.putO_nil, T.putO_d, T.putO_s, T.putS_own, T.slots_nil, T.slots_d, T.slots_s, T.def_eq, T.finR_nx, T.finR_rt, T.finR_ro, T.finR_exc, T.finO_some, T.outs_nil, T.outs_d, T.outs_o, T.init_eq, T.go_nil, T.go_d, T.go_o, T.s_for, T.forR_ok, T.i_seq_, T.i_range1_, T.chk_range1, T.i_range2_, T.chk_range2, T.i_enum_, T.chk_enum, T.chk_seq, T.itSeqR_ok, T.itSeqR_exc, T.itArR_ok, T.fForG_some, T.fForK_nx, T.fForK_ct, T.fForK_bk, T.fForK_rt, T.fForK_exc, T.f_lc, T.lcR_ok, T.lcF_ok, T.okVs_nil, T.okVs_cons, T.okVS_no, T.okVS_dat, T.wipe_nil, T.wipe_cons, T.rest_nil, T.rest_cons, T.od_eq, T.odS_own, T.odS_dat, T.e_dinO, T.e_dninO, T.dinK_ok, T.dinP_some, T.s_dput, T.dpV_ok, T.dpV_exc, T.isDc_dic, T.dpK_ok, T.dpS_own, T.dpQ_some, T.s_fset, T.fsR_ok, T.fsR_exc, T.fsS_own, T.s_try, T.tryR_ok, T.tryR_exc, T.tryS_true, T.f_dnew, T.f_dcon, T.f_addL, T.addR_ok, T.addS_ok, T.peek_eq, T.own_eq, T.st_eq, T.pkS_own, T.pkS_dat, T.owS_own, T.stS_own, T.e_idxO, T.ixO_some, T.ixK_ok, T.ixP_some, T.e_lenO, T.lnO_some, T.s_app, T.appO_some, T.appK_ok, T.appK_exc, T.appP_some, T.s_rev, T.revO_some, T.e_pop, T.popO_some, T.popP_some, T.s_setL, T.setV_ok, T.setV_exc, T.setO_some, T.setJ_ok, T.setP_int, T.setQ_some, T.cast0, T.cast1, T.cast2, beq_self_eq_true, Bool.true_and, Bool.and_true, Bool.false_and, Bool.and_false, List.length_cons, List.length_nil, Nat.zero_add, Nat.reduceAdd, Nat.reduceSub, Nat.sub_self, List.replicate_zero, List.replicate_succ, List.append_nil, List.nil_append, List.cons_append, if_true, ↓reduceIte, T.om_some, T.om_none, T.ob_some, T.ob_none, List.getElem?_cons_zero, List.getElem?_cons_succ, List.set_cons_zero, List.getD_cons_zero, List.getD_cons_succ, List.set_cons_succ, List.nodup_nil, List.map_cons, List.map_nil, Bool.false_eq_true, Bool.not_true, Bool.not_false])
  | `(tactic| simp?! [$ts,*]) => `(tactic| simp only [T.op2S_ok, T.op2S_exc, T.op2R_ok, T.op2R_exc, T.of_some, T.of_none, T.op1R_ok, T.op1R_exc, T.e_add, T.e_sub, T.e_mul, T.e_fdiv, T.e_mod, T.e_pow, T.e_lt, T.e_le, T.e_gt, T.e_ge, T.e_eq, T.e_ne, T.e_isN, T.e_notN, T.e_isin, T.e_notin, T.e_idx, T.e_dget, T.e_din, T.e_dnin, T.e_neg, T.e_isi, T.e_isi2, T.e_fld, T.e_bits, T.e_prop, T.e_var, T.varR_dat, T.varR_own, T.toD_lst, T.toD_dic, T.toD_ins, T.e_non, T.e_bl, T.e_int, T.e_str, T.e_glob, T.globR_some, T.e_and, T.e_or, T.e_not, T.t_ofE, T.t_and, T.t_or, T.t_not, T.t_yes, T.e_ife, T.s_ite, T.andR_ok, T.andR_exc, T.orR_ok, T.orR_exc, T.tandR_ok, T.tandR_exc, T.torR_ok, T.torR_exc, T.notR_ok, T.notR_exc, T.tstR_ok, T.tstR_exc, T.tnotR_ok, T.tnotR_exc, T.iteR_ok, T.iteR_exc, T.s_seq, T.seqR_nx, T.seqR_bk, T.seqR_ct, T.seqR_rt, T.seqR_ro, T.seqR_exc, T.s_asg, T.s_asgF, T.s_asgG, T.s_ret, T.s_expr, T.s_nx, T.s_brk, T.s_cnt, T.s_retN, T.canSet_eq, T.canS_dat, T.canS_no, T.canS_own, T.asgR_ok, T.asgR_exc, T.asgFR_ok, T.asgFR_exc, T.asgGR_ok, T.asgGR_exc, T.optNx_some, T.optNx_none, T.retR_ok, T.retR_exc, T.exprR_ok, T.exprR_exc, T.s_retO, T.retOR_own, T.g_nm, T.g_sq_, T.g_nil_, T.g_cons_, T.gseqR_some, T.gsqR_some, T.gsqR_none, T.a_nil, T.a_cons, T.a_lend, T.isO_own, T.consR_ok, T.consR_exc, T.consS_ok, T.consS_exc, T.lendS_ok, T.lendS_exc, T.allD_nil, T.allD_d, T.e_len, T.e_abs, T.e_int1, T.e_min2, T.e_max2, T.e_gcd, T.e_any, T.e_all, T.e_tupOf, T.e_tup, T.biR_ok, T.biR_exc, T.biS_some, T.f_lst, T.lstR_ok, T.lstR_exc, T.lstS_some, T.e_ofF, T.ofFR_ok, T.ofFR_exc, T.f_lstOf, T.f_sortD, T.fopR_ok, T.fopR_exc, T.optF_some, T.s_raise, T.raiseR_ok, T.raiseS_some, T.e_call, T.f_call, T.f_make, T.callR_ok, T.callR_exc, T.fcallR_ok, T.callA_some, T.fcallA_some, T.callS_ok, T.callS_fr, T.callS_exc, T.fcallS_fr, T.putR_some, T.putX_some, T.makeR_ok, T.makeA_some, T.makeS_ok, T.makeS_exc, T.toA_nil, T.toA_d, T.toA_s, T.toAs_own, T.putO_nil, T.putO_d, T.putO_s, T.putS_own, T.slots_nil, T.slots_d, T.slots_s, T.def_eq, T.finR_nx, T.finR_rt, T.finR_ro, T.finR_exc, T.finO_some, T.outs_nil, T.outs_d, T.outs_o, T.init_eq, T.go_nil, T.go_d, T.go_o, T.s_for, T.forR_ok, T.i_seq_, T.i_range1_, T.chk_range1, T.i_range2_, T.chk_range2, T.i_enum_, T.chk_enum, T.chk_seq, T.itSeqR_ok, T.itSeqR_exc, T.itArR_ok, T.fForG_some, T.fForK_nx, T.fForK_ct, T.fForK_bk, T.fForK_rt, T.fForK_exc, T.f_lc, T.lcR_ok, T.lcF_ok, T.okVs_nil, T.okVs_cons, T.okVS_no, T.okVS_dat, T.wipe_nil, T.wipe_cons, T.rest_nil, T.rest_cons, T.od_eq, T.odS_own, T.odS_dat, T.e_dinO, T.e_dninO, T.dinK_ok, T.dinP_some, T.s_dput, T.dpV_ok, T.dpV_exc, T.isDc_dic, T.dpK_ok, T.dpS_own, T.dpQ_some, T.s_fset, T.fsR_ok, T.fsR_exc, T.fsS_own, T.s_try, T.tryR_ok, T.tryR_exc, T.tryS_true, T.f_dnew, T.f_dcon, T.f_addL, T.addR_ok, T.addS_ok, T.peek_eq, T.own_eq, T.st_eq, T.pkS_own, T.pkS_dat, T.owS_own, T.stS_own, T.e_idxO, T.ixO_some, T.ixK_ok, T.ixP_some, T.e_lenO, T.lnO_some, T.s_app, T.appO_some, T.appK_ok, T.appK_exc, T.appP_some, T.s_rev, T.revO_some, T.e_pop, T.popO_some, T.popP_some, T.s_setL, T.setV_ok, T.setV_exc, T.setO_some, T.setJ_ok, T.setP_int, T.setQ_some, T.cast0, T.cast1, T.cast2, beq_self_eq_true, Bool.true_and, Bool.and_true, Bool.false_and, Bool.and_false, List.length_cons, List.length_nil, Nat.zero_add, Nat.reduceAdd, Nat.reduceSub, Nat.sub_self, List.replicate_zero, List.replicate_succ, List.append_nil, List.nil_append, List.cons_append, if_true, ↓reduceIte, T.om_some, T.om_none, T.ob_some, T.ob_none, List.getElem?_cons_zero, List.getElem?_cons_succ, List.set_cons_zero, List.getD_cons_zero, List.getD_cons_succ, List.set_cons_succ, List.nodup_nil, List.map_cons, List.map_nil, Bool.false_eq_true, Bool.not_true, Bool.not_false, $ts,*])

/-! P1 -/
namespace K84
open PySem T L2
/-! ### data without instances -/
mutual
def nin : D → Bool
  | .ins _ _ => false
  | .lst ds => nins ds
  | .tup ds => nins ds
  | .scr ds => nins ds
  | _ => true
def nins : List D → Bool
  | [] => true
  | d :: ds => nin d && nins ds
end
theorem nins_all {ds : List D} : nins ds = true ↔ ∀ d ∈ ds, nin d = true := by
  induction ds with
  | nil => simp [nins]
  | cons d ds ih => simp [nins, ih]
theorem nin_seq {d : D} {ds : List D} (h : nin d = true) (e : d.seq? = some ds) : ∀ x ∈ ds, nin x = true := by
  cases d <;> simp [D.seq?] at e <;> subst e <;> simp only [nin] at h <;> exact nins_all.mp h
def isI : D → Bool
  | .int _ => true
  | _ => false
def isL (d : D) : Bool := d.seq?.isSome
theorem is_whole_eq {d : D} (h : nin d = true) : sem_is_whole [.d d] = .ok (.bl (isI d)) [] := by
  cases d <;> first | rfl | cases h
theorem law_whole_eq {d : D} (h : nin d = true) : sem__law_whole [.d d] = .ok (.bl (isI d)) [] := by
  cases d <;> first | rfl | cases h
theorem is_list_eq {d : D} (h : nin d = true) : sem_is_list [.d d] = .ok (.bl (isL d)) [] := by
  cases d <;> first | rfl | cases h
theorem fNe_int (a b : Int) : fNe (.int a) (.int b) = some (.bl (!(a == b))) := nrfl rfl
theorem fEq_int (a b : Int) : fEq (.int a) (.int b) = some (.bl (a == b)) := nrfl rfl
theorem plain_str {a : Str} (h : PyData.strOk a = true) : (D.str a).plain = true := by simp [D.plain, D.py, SeqAt.shaped, PyData.canLay0, PyData.depth, h]
theorem fEq_str {a b : Str} (h : PyData.strOk a = true) (k : PyData.strOk b = true) : fEq (.str a) (.str b) = some (.bl (a == b)) := by simp [fEq, plain_str h, plain_str k, D.eqv, D.py, PyData.eqv]
theorem fNe_str {a b : Str} (h : PyData.strOk a = true) (k : PyData.strOk b = true) : fNe (.str a) (.str b) = some (.bl (!(a == b))) := by simp [fNe, plain_str h, plain_str k, D.eqv, D.py, PyData.eqv]
theorem fEq_bl (a b : Bool) : fEq (.bl a) (.bl b) = some (.bl (a == b)) := nrfl rfl
theorem fLen_seq {d : D} {ds : List D} (e : d.seq? = some ds) : fLen [d] = some (.int ds.length) := by
  cases d <;> simp [D.seq?] at e <;> subst e <;> rfl
theorem fIx_0 {d : D} {x : D} {ds : List D} (e : d.seq? = some (x :: ds)) : fIx d (.int 0) = some x := by
  simp [fIx, e, atI, ixN]
theorem fIx_1 {d : D} {x y : D} {ds : List D} (e : d.seq? = some (x :: y :: ds)) : fIx d (.int 1) = some y := by
  have : (1 : Int) < (ds.length : Int) + 1 + 1 := by omega
  simp [fIx, e, atI, ixN, this]
theorem whole_eq {d : D} (i : Int) (w : Str) (h : nin d = true) : sem_whole [.d d, .d (.int i), .d (.str w)] = match d with
    | .int n => if n < i then .exc 1 [("what", .str w)] [] else .ok d []
    | _ => .exc 1 [("what", .str w)] [] := by
  unfold sem_whole b_whole
  cases d with
  | ins => cases h
  | int n =>
    simp?! [is_whole_eq h, isI, fIB]
    by_cases c : n < i
    · simp?! [c, decide_true, List.zip_cons_cons, List.zip_nil_right]
    · simp?! [c, decide_false]
  | _ => simp?! [is_whole_eq h, isI, List.zip_cons_cons, List.zip_nil_right]
/-! ### ratios -/
def ratL : List D → Option (Int × Int)
  | [.int p, .int q] => if 1 ≤ q then some (p, q) else none
  | _ => none
def ratD (d : D) : Option (Int × Int) := d.seq?.bind ratL
theorem two_of {α : Type} : ∀ {l : List α}, l.length = 2 → ∃ x y, l = [x, y]
  | [x, y], _ => ⟨x, y, rfl⟩
theorem ratL_two {x y : D} : (ratL [x, y]).isSome = (isI x && (isI y && (match y with | .int q => decide (1 ≤ q) | _ => false))) := by
  cases x <;> cases y <;> simp [ratL, isI]
  rename_i q
  by_cases c : 1 ≤ q <;> simp [c]
theorem ratL_not {l : List D} (h : l.length ≠ 2) : ratL l = none := by
  unfold ratL
  split
  · simp at h
  · rfl
theorem fIB_int (g : Int → Int → Bool) (a b : Int) : fIB g (.int a) (.int b) = some (.bl (g a b)) := nrfl rfl
theorem is_ratio_eq {d : D} (h : nin d = true) : sem_is_ratio [.d d] = .ok (.bl (ratD d).isSome) [] := by
  unfold sem_is_ratio b_is_ratio ratD
  cases e : d.seq? with
  | none => simp?! [is_list_eq h, isL, e, Option.isSome_none]
  | some ds =>
    by_cases hl : ds.length = 2
    · obtain ⟨x, y, rfl⟩ := two_of hl
      have hx := nin_seq h e x (by simp)
      have hy := nin_seq h e y (by simp)
      simp?! [is_list_eq h, isL, e, Option.isSome_some, fLen_seq e, fNe_int, ratL_two]
      cases x with
      | int p =>
        cases y with
        | int q' => simp?! [isI, fIB_int, fIx_0 e, fIx_1 e, is_whole_eq hx, is_whole_eq hy]
        | _ => simp?! [isI, fIB_int, fIx_0 e, fIx_1 e, is_whole_eq hx, is_whole_eq hy]
      | _ => simp?! [isI, fIB_int, fIx_0 e, fIx_1 e, is_whole_eq hx, is_whole_eq hy]
    · have hn : ((ds.length : Int) == 2) = false := by simp; omega
      simp?! [is_list_eq h, isL, e, Option.isSome_some, fLen_seq e, fNe_int, hn, ratL_not hl, Option.isSome_none]
end K84

/-! P2 -/
namespace K84
open scoped Rat
open PySem T L2
/-! ### rationals -/
def rat (x : Rat) : D := .tup [.int x.num, .int x.den]
theorem nin_rat (x : Rat) : nin (rat x) = true := nrfl rfl
theorem seq_rat (x : Rat) : (rat x).seq? = some [.int x.num, .int x.den] := nrfl rfl
theorem den1 (x : Rat) : 1 ≤ (x.den : Int) := by have := x.den_pos; omega
theorem ratD_rat (x : Rat) : ratD (rat x) = some (x.num, (x.den : Int)) := by
  simp [ratD, seq_rat, ratL, den1]
theorem ratD_pos {d : D} {p q : Int} (h : ratD d = some (p, q)) : 1 ≤ q := by
  unfold ratD at h
  cases e : d.seq? with
  | none => simp [e] at h
  | some ds =>
    simp only [e, Option.bind_some] at h
    unfold ratL at h
    split at h
    · split at h
      · cases h; assumption
      · cases h
    · cases h
theorem ratD_ix {d : D} {p q : Int} (h : ratD d = some (p, q)) : fIx d (.int 0) = some (.int p) ∧ fIx d (.int 1) = some (.int q) := by
  unfold ratD at h
  cases e : d.seq? with
  | none => simp [e] at h
  | some ds =>
    simp only [e, Option.bind_some] at h
    unfold ratL at h
    split at h
    · split at h
      · cases h; exact ⟨fIx_0 e, fIx_1 e⟩
      · cases h
    · cases h
theorem lb {q : Int} {n : Nat} (hq : 1 ≤ q) : q.natAbs < 2 ^ n ↔ q.natAbs.log2 < n := (Nat.log2_lt (by omega)).symm
/-- a number that is no longer than n bits -/
def bt (n : Nat) (x : Int) : Prop := x.natAbs < 2 ^ n
theorem bt.mono {n m : Nat} {x : Int} (h : bt n x) (k : n ≤ m) : bt m x := Nat.lt_of_lt_of_le h (Nat.pow_le_pow_right (by decide) k)
theorem bt.log {n : Nat} {x : Int} (h : bt n x) : x.natAbs.log2 ≤ n := by
  by_cases z : x.natAbs = 0
  · rw [z]; simp
  · exact Nat.le_of_lt ((Nat.log2_lt z).mpr h)
theorem bt.mul {n m : Nat} {x y : Int} (h : bt n x) (k : bt m y) : bt (n + m) (x * y) := by
  unfold bt at *
  rw [Int.natAbs_mul, Nat.pow_add]
  exact Nat.mul_lt_mul_of_lt_of_le h (Nat.le_of_lt k) (Nat.pow_pos (by decide))
theorem bt.add {n : Nat} {x y : Int} (h : bt n x) (k : bt n y) : bt (n + 1) (x + y) := by
  unfold bt at *
  rw [Nat.pow_succ]
  have := Int.natAbs_add_le x y
  omega
theorem bt.neg {n : Nat} {x : Int} (h : bt n x) : bt n (-x) := by unfold bt at *; rwa [Int.natAbs_neg]
theorem bt.sub {n : Nat} {x y : Int} (h : bt n x) (k : bt n y) : bt (n + 1) (x - y) := by rw [Int.sub_eq_add_neg]; exact h.add k.neg
theorem bt.mulC {n m : Nat} {x y : Int} (h : bt n x) (k : bt m y) (l : n + m < 1000000) : mulC x y = true := by
  unfold T.mulC
  have h1 := h.log
  have h2 := k.log
  simp; omega
theorem fI_mul {n m : Nat} {x y : Int} (h : bt n x) (k : bt m y) (l : n + m < 1000000) : fI (fun i j => i * j) mulC (.int x) (.int y) = some (.int (x * y)) := by
  simp [fI, h.mulC k l]
theorem fI_div {x y : Int} (hy : 1 ≤ y) (hb : bt 9000 y) : fI (fun i j => i / j) divC (.int x) (.int y) = some (.int (x / y)) := by
  have := (lb hy).mp hb
  simp [fI, divC, this]; omega
theorem divInt_num {p q : Int} (hq : 1 ≤ q) : (p /. q : Rat).num = p / ((Nat.gcd p.natAbs q.natAbs : Nat) : Int) := by
  rw [Rat.num_divInt, Int.sign_eq_one_of_pos (by omega), Int.one_mul, Int.gcd_comm]; rfl
theorem divInt_den {p q : Int} (hq : 1 ≤ q) : ((p /. q : Rat).den : Int) = q / ((Nat.gcd p.natAbs q.natAbs : Nat) : Int) := by
  rw [Rat.den_divInt, if_neg (by omega), Int.gcd_comm]
  rw [Int.natCast_ediv, Int.natAbs_of_nonneg (by omega)]; rfl
theorem gcd_bt {p q : Int} {n : Nat} (hq : 1 ≤ q) (hb : bt n q) : 1 ≤ ((Nat.gcd p.natAbs q.natAbs : Nat) : Int) ∧ bt n ((Nat.gcd p.natAbs q.natAbs : Nat) : Int) := by
  have h1 : 0 < q.natAbs := by omega
  have h2 := Nat.gcd_le_right p.natAbs h1
  have h3 := Nat.gcd_pos_of_pos_right p.natAbs h1
  refine ⟨by omega, ?_⟩
  unfold bt at *
  rw [Int.natAbs_natCast]
  omega
theorem reduced_eq {p q : Int} (hq : 1 ≤ q) (hb : bt 9000 q) : sem_reduced [.d (.int p), .d (.int q)] = .ok (rat (p /. q)) [] := by
  obtain ⟨g1, g2⟩ := gcd_bt (p := p) hq hb
  have e : (D.tup [.int (p / ((Nat.gcd p.natAbs q.natAbs : Nat) : Int)), .int (q / ((Nat.gcd p.natAbs q.natAbs : Nat) : Int))]) = rat (p /. q) := by
    unfold rat; rw [divInt_num hq, divInt_den hq]
  unfold sem_reduced b_reduced
  simp?! [fGcd, fI_div g1 g2, fTup, e, canSet_eq, canS_no]
  rfl
def exR (w : Str) : Res := .exc 1 [("what", .str w)] []
theorem ratio_in_some {d : D} {p q : Int} (hn : nin d = true) (h : ratD d = some (p, q)) (hb : bt 9000 q) : sem_ratio_in [.d d] = .ok (rat (p /. q)) [] := by
  obtain ⟨i0, i1⟩ := ratD_ix h
  unfold sem_ratio_in b_ratio_in
  simp?! [is_ratio_eq hn, h, Option.isSome_some, i0, i1, reduced_eq (ratD_pos h) hb]
theorem ratio_in_none {d : D} (hn : nin d = true) (h : ratD d = none) : sem_ratio_in [.d d] = exR "ratio" := by
  unfold sem_ratio_in b_ratio_in exR
  simp?! [is_ratio_eq hn, h, Option.isSome_none, List.zip_cons_cons, List.zip_nil_right]
theorem self_divInt (x : Rat) : (x.num /. (x.den : Int) : Rat) = x := Rat.num_divInt_den x
/-- a rational with numbers no longer than n bits -/
def sz (n : Nat) (x : Rat) : Prop := bt n x.num ∧ bt n x.den
theorem sz.mono {n m : Nat} {x : Rat} (h : sz n x) (k : n ≤ m) : sz m x := ⟨h.1.mono k, h.2.mono k⟩
theorem ratio_in_rat {x : Rat} {n : Nat} (h : sz n x) (hn : n ≤ 9000) : sem_ratio_in [.d (rat x)] = .ok (rat x) [] := by
  have := ratio_in_some (nin_rat x) (ratD_rat x) (h.2.mono hn)
  rwa [self_divInt] at this
theorem sz_divInt {p q : Int} {n : Nat} (hq : 1 ≤ q) (hp : bt n p) (hb : bt n q) : sz n (p /. q) := by
  obtain ⟨g1, _⟩ := gcd_bt (p := p) hq hb
  refine ⟨?_, ?_⟩
  · rw [divInt_num hq]
    unfold bt at *
    refine Nat.lt_of_le_of_lt ?_ hp
    rw [Int.natAbs_ediv_of_dvd (by exact Int.gcd_dvd_left p q)]
    exact Nat.div_le_self _ _
  · rw [divInt_den hq]
    unfold bt at *
    refine Nat.lt_of_le_of_lt ?_ hb
    rw [Int.natAbs_ediv_of_dvd (by exact Int.gcd_dvd_right p q)]
    exact Nat.div_le_self _ _
end K84

/-! P3 -/
namespace K84
open scoped Rat
open PySem T L2
theorem seqD_rat (x : Rat) : seqD 2 (rat x) = some [.int x.num, .int x.den] := nrfl rfl
theorem add_divInt (a b : Rat) : (a.num * b.den + b.num * a.den) /. ((a.den : Int) * b.den) = a + b := by
  rw [Rat.add_def', ← Rat.divInt_ofNat]; rw [Int.natCast_mul]
theorem sub_divInt (a b : Rat) : (a.num * b.den - b.num * a.den) /. ((a.den : Int) * b.den) = a - b := by
  rw [Rat.sub_def', ← Rat.divInt_ofNat]; rw [Int.natCast_mul]
theorem le_divInt (a b : Rat) : decide (a.num * (b.den : Int) ≤ b.num * (a.den : Int)) = decide (a ≤ b) := by
  by_cases h : a ≤ b
  · simp [h, (Rat.le_iff a b).mp h]
  · have := fun z => h ((Rat.le_iff a b).mpr z)
    simp only [h, decide_false, decide_eq_false_iff_not]
    exact this
theorem den_mul1 (a b : Rat) : 1 ≤ (a.den : Int) * b.den := by
  have h1 := a.den_pos
  have h2 := b.den_pos
  have := Nat.mul_pos h1 h2
  omega
theorem sz.add {n m : Nat} {a b : Rat} (ha : sz n a) (hb : sz m b) : sz (n + m + 1) (a + b) := by
  rw [← add_divInt]
  refine sz_divInt (den_mul1 a b) ?_ ?_
  · have h1 := ha.1.mul hb.2
    have h2 := hb.1.mul ha.2
    rw [Nat.add_comm m n] at h2
    exact h1.add h2
  · exact (ha.2.mul hb.2).mono (by omega)
theorem sz.sub {n m : Nat} {a b : Rat} (ha : sz n a) (hb : sz m b) : sz (n + m + 1) (a - b) := by
  rw [← sub_divInt]
  refine sz_divInt (den_mul1 a b) ?_ ?_
  · have h1 := ha.1.mul hb.2
    have h2 := hb.1.mul ha.2
    rw [Nat.add_comm m n] at h2
    exact h1.sub h2
  · exact (ha.2.mul hb.2).mono (by omega)
theorem sz.neg {n : Nat} {a : Rat} (ha : sz n a) : sz n (-a) := ⟨by rw [Rat.neg_num]; exact ha.1.neg, ha.2⟩
/-- data that stands for a ratio worth x -/
structure IsR (n : Nat) (d : D) (x : Rat) : Prop where
  nin : nin d = true
  at_ : ∃ p q, ratD d = some (p, q) ∧ bt n p ∧ bt n q ∧ x = p /. q
theorem IsR.in_ {n : Nat} {d : D} {x : Rat} (h : IsR n d x) (hn : n ≤ 9000) : sem_ratio_in [.d d] = .ok (rat x) [] := by
  obtain ⟨p, q, h1, _, h2, rfl⟩ := h.at_
  exact ratio_in_some h.nin h1 (h2.mono hn)
theorem IsR.sz {n : Nat} {d : D} {x : Rat} (h : IsR n d x) : sz n x := by
  obtain ⟨p, q, h1, h2, h3, rfl⟩ := h.at_
  exact sz_divInt (ratD_pos h1) h2 h3
theorem IsR.rat {n : Nat} {x : Rat} (h : K84.sz n x) : IsR n (rat x) x := ⟨nin_rat x, x.num, x.den, ratD_rat x, h.1, h.2, (self_divInt x).symm⟩
theorem fI_add (a b : Int) : fAdd (.int a) (.int b) = some (.int (a + b)) := nrfl rfl
theorem fI_sub (a b : Int) : fI (fun i j => i - j) (fun _ _ => true) (.int a) (.int b) = some (.int (a - b)) := by simp [fI]
theorem plus_eq {n m : Nat} {d e : D} {a b : Rat} (ha : IsR n d a) (hb : IsR m e b) (l : n + m ≤ 8999) : sem_plus [.d d, .d e] = .ok (rat (a + b)) [] := by
  have sa := ha.sz
  have sb := hb.sz
  have r := reduced_eq (p := a.num * b.den + b.num * a.den) (den_mul1 a b) ((sa.2.mul sb.2).mono (by omega))
  rw [add_divInt] at r
  unfold sem_plus b_plus
  simp?! [ha.in_ (by omega), hb.in_ (by omega), seqD_rat, g_nm, canSet_eq, canS_no, canS_dat, fI_mul sa.1 sb.2 (by omega), fI_mul sb.1 sa.2 (by omega), fI_mul sa.2 sb.2 (by omega), fI_add, r]
theorem minus_eq {n m : Nat} {d e : D} {a b : Rat} (ha : IsR n d a) (hb : IsR m e b) (l : n + m ≤ 8999) : sem_minus [.d d, .d e] = .ok (rat (a - b)) [] := by
  have sa := ha.sz
  have sb := hb.sz
  have r := reduced_eq (p := a.num * b.den - b.num * a.den) (den_mul1 a b) ((sa.2.mul sb.2).mono (by omega))
  rw [sub_divInt] at r
  unfold sem_minus b_minus
  simp?! [ha.in_ (by omega), hb.in_ (by omega), seqD_rat, g_nm, canSet_eq, canS_no, canS_dat, fI_mul sa.1 sb.2 (by omega), fI_mul sb.1 sa.2 (by omega), fI_mul sa.2 sb.2 (by omega), fI_sub, r]
theorem at_most_eq {n m : Nat} {d e : D} {a b : Rat} (ha : IsR n d a) (hb : IsR m e b) (l : n + m ≤ 8999) : sem_at_most [.d d, .d e] = .ok (.bl (decide (a ≤ b))) [] := by
  have sa := ha.sz
  have sb := hb.sz
  unfold sem_at_most b_at_most
  simp?! [ha.in_ (by omega), hb.in_ (by omega), seqD_rat, g_nm, canSet_eq, canS_no, canS_dat, fI_mul sa.1 sb.2 (by omega), fI_mul sb.1 sa.2 (by omega), fIB_int, le_divInt]
/-! ### Euclid -/
def euc (x : Int × Int) : Int × Int := if 0 < x.2 then (x.2, x.1 % x.2) else x
def eucN : Nat → Int × Int → Int × Int
  | 0, x => x
  | n + 1, x => eucN n (euc x)
theorem euc_nn {x : Int × Int} (h1 : 0 ≤ x.1) (h2 : 0 ≤ x.2) : 0 ≤ (euc x).1 ∧ 0 ≤ (euc x).2 := by
  unfold euc
  split
  · exact ⟨h2, Int.emod_nonneg _ (by omega)⟩
  · exact ⟨h1, h2⟩
theorem euc_gcd {x : Int × Int} (h1 : 0 ≤ x.1) (h2 : 0 ≤ x.2) : Int.gcd (euc x).1 (euc x).2 = Int.gcd x.1 x.2 := by
  unfold euc
  split
  · dsimp only
    obtain ⟨f, e1⟩ := Int.eq_ofNat_of_zero_le h1
    obtain ⟨t, e2⟩ := Int.eq_ofNat_of_zero_le h2
    rw [e1, e2]
    show Nat.gcd t (f % t) = Nat.gcd f t
    rw [Nat.gcd_comm t, ← Nat.gcd_rec, Nat.gcd_comm]
  · rfl
theorem euc_zero {x : Int × Int} (h : x.2 = 0) : euc x = x := by unfold euc; rw [if_neg (by omega)]
theorem eucN_zero {x : Int × Int} (h : x.2 = 0) : ∀ n, eucN n x = x
  | 0 => rfl
  | n + 1 => by show eucN n (euc x) = x; rw [euc_zero h, eucN_zero h n]
theorem two_steps {f s : Int} {j : Nat} (h1 : 0 ≤ f) (h2 : 0 ≤ s) (hs : s < 2 ^ (j + 1)) : (euc (euc (f, s))).2 < 2 ^ j := by
  have pj : (0 : Int) < 2 ^ j := Int.pow_pos (by decide)
  have e2 : (2 : Int) ^ (j + 1) = 2 * 2 ^ j := by rw [Int.pow_succ]; omega
  rw [e2] at hs
  unfold euc
  by_cases c : 0 < s
  · dsimp only
    rw [if_pos c]
    dsimp only
    have t0 := Int.emod_nonneg f (by omega : s ≠ 0)
    have t1 := Int.emod_lt_of_pos f c
    by_cases d : 0 < f % s
    · rw [if_pos d]
      dsimp only
      have u0 := Int.emod_nonneg s (by omega : f % s ≠ 0)
      have u1 := Int.emod_lt_of_pos s d
      by_cases k : f % s ≤ 2 ^ j
      · omega
      · have : s % (f % s) = s - f % s := by
          rw [← Int.sub_emod_right] 
          exact Int.emod_eq_of_lt (by omega) (by omega)
        omega
    · rw [if_neg d]
      dsimp only
      omega
  · dsimp only
    rw [if_neg c]
    dsimp only
    rw [if_neg c]
    dsimp only
    omega
theorem eucN_done : ∀ (j k : Nat) (x : Int × Int), 0 ≤ x.1 → 0 ≤ x.2 → x.2 < 2 ^ j → 2 * j ≤ k → (eucN k x).2 = 0
  | 0, k, x, h1, h2, h3, _ => by
    have z : x.2 = 0 := by simp at h3; omega
    rw [eucN_zero z]; exact z
  | j + 1, k, x, h1, h2, h3, hk => by
    obtain ⟨k', rfl⟩ : ∃ k', k = k' + 2 := ⟨k - 2, by omega⟩
    show (eucN k' (euc (euc x))).2 = 0
    obtain ⟨a1, a2⟩ := euc_nn h1 h2
    obtain ⟨b1, b2⟩ := euc_nn a1 a2
    exact eucN_done j k' _ b1 b2 (two_steps (f := x.1) (s := x.2) h1 h2 h3) (by omega)
theorem eucN_nn : ∀ (k : Nat) (x : Int × Int), 0 ≤ x.1 → 0 ≤ x.2 → 0 ≤ (eucN k x).1 ∧ 0 ≤ (eucN k x).2 ∧ Int.gcd (eucN k x).1 (eucN k x).2 = Int.gcd x.1 x.2
  | 0, x, h1, h2 => ⟨h1, h2, rfl⟩
  | k + 1, x, h1, h2 => by
    obtain ⟨a1, a2⟩ := euc_nn h1 h2
    obtain ⟨b1, b2, b3⟩ := eucN_nn k (euc x) a1 a2
    exact ⟨b1, b2, b3.trans (euc_gcd h1 h2)⟩
end K84

/-! P4 -/
namespace K84
open scoped Rat
open PySem T L2
def leB : SX tau := SX.ite (TX.ofE (EX.gt (EX.var 3) (EX.int 0))) (SX.seq (SX.asg 5 (EX.mod (EX.int1 (AX.cons (EX.var 2) (AX.nil))) (EX.var 3)))
  (SX.seq (SX.asg 2 (EX.var 3))
  (SX.asg 3 (EX.var 5)))) (SX.nx)
def okS : Sl → Bool
  | .no => true
  | .dat _ => true
  | _ => false
theorem canS_ok {x : Sl} (h : okS x = true) : canS (some x) = true := by cases x <;> first | rfl | cases h
theorem fI_mod {a b : Int} (h : 0 < b) : fI (fun i j => i % j) modC (.int a) (.int b) = some (.int (a % b)) := by simp [fI, modC, h]
theorem fInt1_int (a : Int) : fInt1 [.int a] = some (.int a) := nrfl rfl
theorem least_loop (p q : Int) : ∀ (ds : List D) (x : Int × Int) (u v : Sl), okS u = true → okS v = true → ∃ u' v', okS u' = true ∧ okS v' = true ∧
    runFor (fun _ => true) (GX.name 4 : GX tau).ev leB.ev ds [.dat (.int p), .dat (.int q), .dat (.int x.1), .dat (.int x.2), u, v] = .ok .nx [.dat (.int p), .dat (.int q), .dat (.int (eucN ds.length x).1), .dat (.int (eucN ds.length x).2), u', v']
  | [], x, u, v, hu, hv => ⟨u, v, hu, hv, for_nil _ _ _⟩
  | d :: ds, x, u, v, hu, hv => by
    by_cases c : 0 < x.2
    · obtain ⟨u', v', h1, h2, h3⟩ := least_loop p q ds (x.2, x.1 % x.2) (.dat d) (.dat (.int (x.1 % x.2))) rfl rfl
      refine ⟨u', v', h1, h2, ?_⟩
      rw [for_cons]
      have e : eucN (d :: ds).length x = eucN ds.length (x.2, x.1 % x.2) := by
        show eucN ds.length (euc x) = _
        unfold euc; rw [if_pos c]
      rw [e, ← h3]
      unfold leB
      simp?! [g_nm, canSet_eq, canS_ok hu, canS_ok hv, fIB_int, c, decide_true, fInt1_int, fI_mod c, canS_dat]
    · obtain ⟨u', v', h1, h2, h3⟩ := least_loop p q ds x (.dat d) v rfl hv
      refine ⟨u', v', h1, h2, ?_⟩
      rw [for_cons]
      have e : eucN (d :: ds).length x = eucN ds.length x := by
        show eucN ds.length (euc x) = _
        unfold euc; rw [if_neg c]
      rw [e, ← h3]
      unfold leB
      simp?! [g_nm, canSet_eq, canS_ok hu, canS_ok hv, fIB_int, c, decide_false, canS_dat]
theorem rangeD_length (a : Int) (n : Nat) : (rangeD a n).length = n := by simp [rangeD]
theorem bits_gt (q : Int) : q.natAbs < 2 ^ (Builtin.Int.intBits q) := by
  unfold Builtin.Int.intBits
  split
  · rename_i h; simp at h; simp [h]
  · exact Nat.lt_log2_self
theorem bits_le {q : Int} {n : Nat} (h : bt n q) : Builtin.Int.intBits q ≤ n := by
  unfold Builtin.Int.intBits
  split
  · exact Nat.zero_le _
  · rename_i z
    exact (Nat.log2_lt (by simp at z; omega)).mpr h
theorem bt_nat {n B : Nat} (h : B ≤ n) : bt n (B : Int) := by
  unfold bt; rw [Int.natAbs_natCast]; exact Nat.lt_of_le_of_lt h Nat.lt_two_pow_self
theorem least_eq {p q : Int} (hq : 1 ≤ q) (hb : bt 9000 q) : sem__law_least_terms [.d (.int p), .d (.int q)] = .ok (rat (p /. q)) [] := by
  have ha : fAbs [.int p] = some (.int p.natAbs) := by
    show some (D.int (if p < 0 then -p else p)) = _
    split <;> congr 2 <;> omega
  have hB := bits_le hb
  obtain ⟨B, hBe⟩ : ∃ B, Builtin.Int.intBits q = B := ⟨_, rfl⟩
  rw [hBe] at hB
  have hm : fI (fun i j => i * j) mulC (.int 2) (.int B) = some (.int (2 * B)) := fI_mul (n := 2) (m := 9000) (by show (2 : Nat) < 4; decide) (bt_nat hB) (by decide)
  have hr : rng1 [.int (2 * (B : Int) + 10)] = some (rangeD 0 (2 * B + 10)) := by
    have : smallI (2 * (B : Int) + 10) = true := by simp [smallI]; omega
    have e : (2 * (B : Int) + 10).toNat = 2 * B + 10 := by omega
    simp [rng1, this, e]
  obtain ⟨u, v, h1, h2, h3⟩ := least_loop p q (rangeD 0 (2 * B + 10)) ((p.natAbs : Int), q) .no .no rfl rfl
  rw [rangeD_length] at h3
  obtain ⟨n1, n2, n3⟩ := eucN_nn (2 * B + 10) ((p.natAbs : Int), q) (by show (0 : Int) ≤ (p.natAbs : Int); omega) (by show (0 : Int) ≤ q; omega)
  have n4 := eucN_done B (2 * B + 10) ((p.natAbs : Int), q) (by show (0 : Int) ≤ (p.natAbs : Int); omega) (by show (0 : Int) ≤ q; omega) (by
    have := bits_gt q
    rw [hBe] at this
    show q < 2 ^ B
    have e : ((q.natAbs : Nat) : Int) = q := by omega
    rw [← e]; exact_mod_cast this) (by omega)
  rw [n4] at n3
  have n5 : (eucN (2 * B + 10) ((p.natAbs : Int), q)).1 = ((Nat.gcd p.natAbs q.natAbs : Nat) : Int) := by
    have e : Int.gcd (eucN (2 * B + 10) ((p.natAbs : Int), q)).1 0 = Int.gcd (p.natAbs : Int) q := n3
    rw [Int.gcd_zero_right] at e
    have e2 : Int.gcd (p.natAbs : Int) q = Nat.gcd p.natAbs q.natAbs := by unfold Int.gcd; rw [Int.natAbs_natCast]
    omega
  rw [n5, n4] at h3
  obtain ⟨g1, g2⟩ := gcd_bt (p := p) hq hb
  have e : (D.tup [.int (p / ((Nat.gcd p.natAbs q.natAbs : Nat) : Int)), .int (q / ((Nat.gcd p.natAbs q.natAbs : Nat) : Int))]) = rat (p /. q) := by
    unfold rat; rw [divInt_num hq, divInt_den hq]
  unfold sem__law_least_terms b__law_least_terms
  simp?! [ha, canSet_eq, canS_no, canS_dat, fBits, hBe, hm, fI_add, hr, chk_range1]
  unfold leB at h3
  simp?! [h3, fI_div g1 g2, fTup, e]
  rfl
end K84

/-! P5 -/
namespace K84
open scoped Rat
open PySem T L2
theorem divInt_le {p q r s : Int} (hq : 1 ≤ q) (hs : 1 ≤ s) : p /. q ≤ r /. s ↔ p * s ≤ r * q := by
  rw [Rat.le_iff_sub_nonneg, Rat.divInt_sub_divInt _ _ (by omega) (by omega), Rat.divInt_nonneg_iff_of_pos_right (Int.mul_pos (by omega) (by omega))]
  omega
theorem divInt_add {p q r s : Int} (hq : 1 ≤ q) (hs : 1 ≤ s) : (p * s + r * q) /. (q * s) = p /. q + r /. s := by
  rw [Rat.divInt_add_divInt _ _ (by omega) (by omega)]
theorem IsR.seq {n : Nat} {d : D} {x : Rat} (h : IsR n d x) : ∃ p q, d.seq? = some [.int p, .int q] ∧ 1 ≤ q ∧ bt n p ∧ bt n q ∧ x = p /. q := by
  obtain ⟨p, q, h1, h2, h3, h4⟩ := h.at_
  have hq := ratD_pos h1
  unfold ratD at h1
  cases e : d.seq? with
  | none => simp [e] at h1
  | some ds =>
    simp only [e, Option.bind_some] at h1
    unfold ratL at h1
    split at h1
    · split at h1
      · cases h1; exact ⟨p, q, rfl, hq, h2, h3, h4⟩
      · cases h1
    · cases h1
theorem IsR.tup {n : Nat} {p q : Int} (hq : 1 ≤ q) (h1 : bt n p) (h2 : bt n q) : IsR n (.tup [.int p, .int q]) (p /. q) :=
  ⟨rfl, p, q, by simp [ratD, D.seq?, ratL, hq], h1, h2, rfl⟩
theorem law_plus_eq {n m : Nat} {d e : D} {a b : Rat} (ha : IsR n d a) (hb : IsR m e b) (l : n + m ≤ 8999) : sem__law_plus [.d d, .d e] = .ok (rat (a + b)) [] := by
  obtain ⟨p, q, s1, hq, b1, b2, rfl⟩ := ha.seq
  obtain ⟨r, s, s2, hs, b3, b4, rfl⟩ := hb.seq
  have r1 := least_eq (p := p * s + r * q) (q := q * s) (by have := Int.mul_pos (show 0 < q by omega) (show 0 < s by omega); omega) ((b2.mul b4).mono (by omega))
  rw [divInt_add hq hs] at r1
  unfold sem__law_plus b__law_plus
  simp?! [fIx_0 s1, fIx_1 s1, fIx_0 s2, fIx_1 s2, fI_mul b1 b4 (by omega), fI_mul b3 b2 (by omega), fI_mul b2 b4 (by omega), fI_add, r1]
theorem law_at_most_eq {n m : Nat} {d e : D} {a b : Rat} (ha : IsR n d a) (hb : IsR m e b) (l : n + m ≤ 8999) : sem__law_at_most [.d d, .d e] = .ok (.bl (decide (a ≤ b))) [] := by
  obtain ⟨p, q, s1, hq, b1, b2, rfl⟩ := ha.seq
  obtain ⟨r, s, s2, hs, b3, b4, rfl⟩ := hb.seq
  have e : decide (p * s ≤ r * q) = decide (p /. q ≤ r /. s) := decide_eq_decide.mpr (divInt_le hq hs).symm
  unfold sem__law_at_most b__law_at_most
  simp?! [fIx_0 s1, fIx_1 s1, fIx_0 s2, fIx_1 s2, fI_mul b1 b4 (by omega), fI_mul b3 b2 (by omega), fIB_int, e]
/-! ### means -/
structure IsW (n : Nat) (d : D) (x : Int × Rat) : Prop where
  nin : nin d = true
  at_ : ∃ e, d.seq? = some [.int x.1, e] ∧ IsR n e x.2
  w1 : 1 ≤ x.1
  w2 : bt 7 x.1
inductive IsWs (n : Nat) : List D → List (Int × Rat) → Prop
  | nil : IsWs n [] []
  | cons {d : D} {x : Int × Rat} {ds : List D} {l : List (Int × Rat)} : IsW n d x → IsWs n ds l → IsWs n (d :: ds) (x :: l)
theorem IsWs.length {n : Nat} {ds : List D} {l : List (Int × Rat)} (h : IsWs n ds l) : ds.length = l.length := by
  induction h with
  | nil => rfl
  | cons _ _ ih => simp [ih]
def mtot : Rat → List (Int × Rat) → Rat
  | t, [] => t
  | t, x :: l => mtot (t + (x.1 : Rat) * x.2) l
def mw : Int → List (Int × Rat) → Int
  | t, [] => t
  | t, x :: l => mw (t + x.1) l
def mean (l : List (Int × Rat)) : Rat := (mtot 0 l).num /. ((mtot 0 l).den * mw 0 l)
theorem rat_wmul {w p q : Int} (hq : 1 ≤ q) : (w * p) /. q = (w : Rat) * (p /. q) := by
  rw [Rat.divInt_eq_div, Rat.divInt_eq_div, Rat.intCast_mul, Rat.div_def, Rat.div_def, Rat.mul_assoc]
theorem sz.wmul {n : Nat} {w : Int} {x : Rat} (hw : bt 7 w) (h : sz n x) : IsR (n + 7) (.tup [.int (w * x.num), .int x.den]) ((w : Rat) * x) := by
  have e := IsR.tup (p := w * x.num) (den1 x) ((hw.mul h.1).mono (by omega)) (h.2.mono (show n ≤ n + 7 by omega))
  rwa [rat_wmul (den1 x), self_divInt] at e
def moB : SX tau := SX.seq (SX.ite (TX.or (TX.not (TX.ofE (EX.call sem_is_list (AX.cons (EX.var 3) (AX.nil))))) (TX.ofE (EX.ne (EX.len (AX.cons (EX.var 3) (AX.nil))) (EX.int 2)))) (SX.raise 1 ["what"] (AX.cons (EX.str "pairs") (AX.nil))) (SX.nx))
  (SX.seq (SX.asg 4 (EX.call sem_whole (AX.cons (EX.idx (EX.var 3) (EX.int 0)) (AX.cons (EX.int 1) (AX.cons (EX.str "weight") (AX.nil))))))
  (SX.seq (SX.asgG (GX.sq 2 (GXs.cons (GX.name 5) (GXs.cons (GX.name 6) (GXs.nil)))) (EX.call sem_ratio_in (AX.cons (EX.idx (EX.var 3) (EX.int 1)) (AX.nil))))
  (SX.seq (SX.asg 1 (EX.call sem_plus (AX.cons (EX.var 1) (AX.cons (EX.tup (AX.cons (EX.mul (EX.var 4) (EX.var 5)) (AX.cons (EX.var 6) (AX.nil)))) (AX.nil)))))
  (SX.asg 2 (EX.add (EX.var 2) (EX.var 4))))))
theorem fTup2 (x y : D) : fTup [x, y] = some (.tup [x, y]) := nrfl rfl
theorem mo_loop {n : Nat} (L : D) : ∀ (ds : List D) (l : List (Int × Rat)) (k : Nat) (t : Rat) (w : Int) (a b c d : Sl), IsWs n ds l → sz k t → k + ds.length * (n + 8) ≤ 8000 → okS a = true → okS b = true → okS c = true → okS d = true →
    ∃ a' b' c' d', okS a' = true ∧ okS b' = true ∧ okS c' = true ∧ okS d' = true ∧ sz (k + ds.length * (n + 8)) (mtot t l) ∧
    runFor (fun _ => true) (GX.name 3 : GX tau).ev moB.ev ds [.dat L, .dat (rat t), .dat (.int w), a, b, c, d] = .ok .nx [.dat L, .dat (rat (mtot t l)), .dat (.int (mw w l)), a', b', c', d']
  | [], _, k, t, w, a, b, c, d, .nil, ht, hk, ha, hb, hc, hd => ⟨a, b, c, d, ha, hb, hc, hd, by simpa [mtot] using ht, for_nil _ _ _⟩
  | D0 :: ds, _, k, t, w, a, b, c, d, @IsWs.cons _ _ x _ l h hs, ht, hk, ha, hb, hc, hd => by
    obtain ⟨e, e1, e2⟩ := h.at_
    have hx := e2.sz
    simp only [List.length_cons, Nat.add_mul, Nat.one_mul] at hk
    have hm : n ≤ 7992 := by omega
    have pl := plus_eq (IsR.rat ht) (hx.wmul h.w2) (by omega)
    have sz2 : sz (k + (n + 8)) (t + (x.1 : Rat) * x.2) := (ht.add (hx.wmul h.w2).sz).mono (by omega)
    obtain ⟨a', b', c', d', h1, h2, h3, h4, h5, h6⟩ := mo_loop L ds l (k + (n + 8)) (t + (x.1 : Rat) * x.2) (w + x.1) (.dat D0) (.dat (.int x.1)) (.dat (.int x.2.num)) (.dat (.int x.2.den)) hs sz2 (by omega) rfl rfl rfl rfl
    refine ⟨a', b', c', d', h1, h2, h3, h4, by simpa [mtot, Nat.add_mul, Nat.add_assoc, Nat.add_comm, Nat.add_left_comm] using h5, ?_⟩
    rw [for_cons]
    have w1 : ¬ x.1 < 1 := by have := h.w1; omega
    unfold moB at h6 ⊢
    simp?! [g_nm, canSet_eq, canS_ok ha, canS_ok hb, canS_ok hc, canS_ok hd, canS_dat, is_list_eq h.nin, isL, e1, Option.isSome_some, fLen_seq e1, fNe_int, fIx_0 e1, fIx_1 e1, whole_eq 1 "weight" (show K84.nin (.int x.1) = true from rfl), w1, if_false, e2.in_ (by omega), seqD_rat, fI_mul (h.w2) hx.1 (by omega), fTup2, pl, fI_add, h6, mtot, mw]
end K84

/-! P6 -/
namespace K84
open scoped Rat
open PySem T L2
theorem mw_bd {n : Nat} : ∀ (ds : List D) (l : List (Int × Rat)) (w : Int), IsWs n ds l → 0 ≤ w → w ≤ mw w l ∧ mw w l ≤ w + 128 * ds.length ∧ (l ≠ [] → 1 ≤ mw w l)
  | [], _, w, .nil, h => by simp [mw]
  | d :: ds, _, w, @IsWs.cons _ _ x _ l h hs, h0 => by
    have h1 := h.w1
    have h2 := h.w2
    have h3 : x.1 < 128 := by unfold bt at h2; simp at h2; omega
    obtain ⟨a, b, c⟩ := mw_bd ds l (w + x.1) hs (by omega)
    simp only [mw, List.length_cons]
    refine ⟨by omega, by omega, fun _ => by omega⟩
theorem mw_bt {n : Nat} {ds : List D} {l : List (Int × Rat)} (h : IsWs n ds l) (hl : ds.length ≤ 100) (hne : l ≠ []) : 1 ≤ mw 0 l ∧ bt 14 (mw 0 l) := by
  obtain ⟨a, b, c⟩ := mw_bd ds l 0 h (Int.le_refl 0)
  refine ⟨c hne, ?_⟩
  unfold bt
  simp
  omega
theorem sz0 : sz 1 (0 : Rat) := ⟨by show (0 : Nat) < 2; decide, by show (1 : Nat) < 2; decide⟩
theorem rat0 : rat 0 = .tup [.int 0, .int 1] := rfl
theorem fEq_len {n : Nat} (h : n ≠ 0) : fEq (.int (n : Int)) (.int 0) = some (.bl false) := by
  rw [fEq_int]
  have : ((n : Int) == 0) = false := by simp; omega
  rw [this]
theorem mean_of_eq {n : Nat} {L : D} {ds : List D} {l : List (Int × Rat)} (hn : nin L = true) (hL : L.seq? = some ds) (h : IsWs n ds l) (hne : l ≠ []) (h1 : ds.length ≤ 100) (h2 : ds.length * (n + 8) ≤ 7900) :
    sem_mean_of [.d L] = .ok (rat (mean l)) [] := by
  have hz : ds.length ≠ 0 := by rw [h.length]; simpa using hne
  obtain ⟨a, b, c, d, g1, g2, g3, g4, g5, g6⟩ := mo_loop L ds l 1 0 0 .no .no .no .no h sz0 (by omega) rfl rfl rfl rfl
  obtain ⟨w1, w2⟩ := mw_bt h h1 hne
  have hq : 1 ≤ ((mtot 0 l).den : Int) * mw 0 l := by
    have := Int.mul_pos (show 0 < ((mtot 0 l).den : Int) from by have := (mtot 0 l).den_pos; omega) (show 0 < mw 0 l by omega)
    omega
  have r := reduced_eq (p := (mtot 0 l).num) hq ((g5.2.mul w2).mono (by omega))
  have e0 := seq_rat (mtot 0 l)
  unfold moB at g6
  rw [rat0] at g6
  unfold sem_mean_of b_mean_of
  simp?! [is_list_eq hn, isL, hL, Option.isSome_some, fLen_seq hL, fEq_len hz, canSet_eq, canS_no, canS_dat, fTup2, chk_seq, g6, fIx_0 e0, fIx_1 e0, fI_mul g5.2 w2 (by omega), r]
  rfl
def lmB : SX tau := SX.seq (SX.asg 1 (EX.call sem__law_plus (AX.cons (EX.var 1) (AX.cons (EX.tup (AX.cons (EX.mul (EX.idx (EX.var 3) (EX.int 0)) (EX.idx (EX.idx (EX.var 3) (EX.int 1)) (EX.int 0))) (AX.cons (EX.idx (EX.idx (EX.var 3) (EX.int 1)) (EX.int 1)) (AX.nil)))) (AX.nil)))))
  (SX.asg 2 (EX.add (EX.var 2) (EX.idx (EX.var 3) (EX.int 0))))
theorem lm_loop {n : Nat} (L : D) : ∀ (ds : List D) (l : List (Int × Rat)) (k : Nat) (t : Rat) (w : Int) (a : Sl), IsWs n ds l → sz k t → k + ds.length * (n + 8) ≤ 8000 → okS a = true →
    ∃ a', okS a' = true ∧ sz (k + ds.length * (n + 8)) (mtot t l) ∧
    runFor (fun _ => true) (GX.name 3 : GX tau).ev lmB.ev ds [.dat L, .dat (rat t), .dat (.int w), a] = .ok .nx [.dat L, .dat (rat (mtot t l)), .dat (.int (mw w l)), a']
  | [], _, k, t, w, a, .nil, ht, hk, ha => ⟨a, ha, by simpa [mtot] using ht, for_nil _ _ _⟩
  | D0 :: ds, _, k, t, w, a, @IsWs.cons _ _ x _ l h hs, ht, hk, ha => by
    obtain ⟨e, e1, e2⟩ := h.at_
    have hx := e2.sz
    obtain ⟨p, q, s1, hq, b1, b2, b3⟩ := e2.seq
    simp only [List.length_cons, Nat.add_mul, Nat.one_mul] at hk
    have hm : n ≤ 7992 := by omega
    have iw : IsR (n + 7) (.tup [.int (x.1 * p), .int q]) ((x.1 : Rat) * x.2) := by
      have e := IsR.tup (n := n + 7) (p := x.1 * p) hq ((h.w2.mul b1).mono (by omega)) (b2.mono (by omega))
      rwa [rat_wmul hq, ← b3] at e
    have pl := law_plus_eq (IsR.rat ht) iw (by omega)
    have sz2 : sz (k + (n + 8)) (t + (x.1 : Rat) * x.2) := (ht.add iw.sz).mono (by omega)
    obtain ⟨a', h1, h5, h6⟩ := lm_loop L ds l (k + (n + 8)) (t + (x.1 : Rat) * x.2) (w + x.1) (.dat D0) hs sz2 (by omega) rfl
    refine ⟨a', h1, by simpa [mtot, Nat.add_mul, Nat.add_assoc, Nat.add_comm, Nat.add_left_comm] using h5, ?_⟩
    rw [for_cons]
    unfold lmB at h6 ⊢
    simp?! [g_nm, canSet_eq, canS_ok ha, canS_dat, fIx_0 e1, fIx_1 e1, fIx_0 s1, fIx_1 s1, fI_mul (h.w2) b1 (by omega), fTup2, pl, fI_add, h6, mtot, mw]
theorem law_mean_eq {n : Nat} {L : D} {ds : List D} {l : List (Int × Rat)} (hL : L.seq? = some ds) (h : IsWs n ds l) (hne : l ≠ []) (h1 : ds.length ≤ 100) (h2 : ds.length * (n + 8) ≤ 7900) :
    sem__law_mean [.d L] = .ok (rat (mean l)) [] := by
  obtain ⟨a, g1, g5, g6⟩ := lm_loop L ds l 1 0 0 .no h sz0 (by omega) rfl
  obtain ⟨w1, w2⟩ := mw_bt h h1 hne
  have hq : 1 ≤ ((mtot 0 l).den : Int) * mw 0 l := by
    have := Int.mul_pos (show 0 < ((mtot 0 l).den : Int) from by have := (mtot 0 l).den_pos; omega) (show 0 < mw 0 l by omega)
    omega
  have r := least_eq (p := (mtot 0 l).num) hq ((g5.2.mul w2).mono (by omega))
  have e0 := seq_rat (mtot 0 l)
  unfold lmB at g6
  rw [rat0] at g6
  unfold sem__law_mean b__law_mean
  simp?! [hL, canSet_eq, canS_no, canS_dat, fTup2, chk_seq, g6, fIx_0 e0, fIx_1 e0, fI_mul g5.2 w2 (by omega), r]
  rfl
end K84

/-! P7 -/
namespace K84
open scoped Rat
open PySem T L2
theorem isi2_eq {d : D} (h : nin d = true) : fIsi2 "list" "tuple" d = some (.bl (isL d)) := by
  cases d <;> first | rfl | cases h
theorem law_is_ratio_eq {d : D} (h : nin d = true) : sem__law_is_ratio [.d d] = .ok (.bl (ratD d).isSome) [] := by
  unfold sem__law_is_ratio b__law_is_ratio ratD
  cases e : d.seq? with
  | none => simp?! [isi2_eq h, isL, e, Option.isSome_none]
  | some ds =>
    by_cases hl : ds.length = 2
    · obtain ⟨x, y, rfl⟩ := two_of hl
      have hx := nin_seq h e x (by simp)
      have hy := nin_seq h e y (by simp)
      simp?! [isi2_eq h, isL, e, Option.isSome_some, fLen_seq e, fNe_int, ratL_two]
      cases x with
      | int p =>
        cases y with
        | int q' => simp?! [isI, fIB_int, fIx_0 e, fIx_1 e, law_whole_eq hx, law_whole_eq hy]
        | _ => simp?! [isI, fIB_int, fIx_0 e, fIx_1 e, law_whole_eq hx, law_whole_eq hy]
      | _ => simp?! [isI, fIB_int, fIx_0 e, fIx_1 e, law_whole_eq hx, law_whole_eq hy]
    · have hn : ((ds.length : Int) == 2) = false := by simp; omega
      simp?! [isi2_eq h, isL, e, Option.isSome_some, fLen_seq e, fNe_int, hn, ratL_not hl, Option.isSome_none]
def leb (low : Bool) (a b : Rat) : Bool := if low then decide (a ≤ b) else decide (b ≤ a)
theorem law_less_eq {n m : Nat} {d e : D} {a b : Rat} (low : Bool) (ha : IsR n d a) (hb : IsR m e b) (l : n + m ≤ 8999) : sem__law_less [.d (.bl low), .d d, .d e] = .ok (.bl (leb low a b)) [] := by
  unfold sem__law_less b__law_less leb
  cases low with
  | true => simp?! [law_at_most_eq ha hb l]
  | false => simp?! [law_at_most_eq hb ha (by omega)]
/-! ### the states -/
inductive Sta where
  | fin (p q : Int) | ext (mx : Bool) (fs : List Nat) | av (ws : List (Int × Nat))
def kw (m : Bool) : Str := if m then "max" else "min"
def iD (i : Nat) : D := .int i
def Sta.raw : Sta → D
  | .fin p q => .tup [.str "end", .tup [.int p, .int q]]
  | .ext m fs => .tup [.str (kw m), .lst (fs.map iD)]
  | .av ws => .tup [.str "mean", .lst (ws.map fun x => .tup [.int x.1, iD x.2])]
def Sta.kind : Sta → Str
  | .fin _ _ => "end"
  | .ext m _ => kw m
  | .av _ => "mean"
def Sta.kept : Sta → D
  | .fin p q => .tup [.str "end", rat (p /. q)]
  | .ext m fs => .tup [.str (kw m), .tup (fs.map iD)]
  | .av ws => .tup [.str "mean", .tup (ws.map fun x => .tup [.int x.1, iD x.2])]
/-- well formed at place i of m -/
def Sta.ok (i m : Nat) : Sta → Prop
  | .fin p q => 1 ≤ q ∧ bt 50 p ∧ bt 50 q
  | .ext _ fs => fs ≠ [] ∧ fs.length ≤ 3 ∧ ∀ f ∈ fs, i < f ∧ f < m
  | .av ws => ws ≠ [] ∧ ws.length ≤ 3 ∧ ∀ x ∈ ws, i < x.2 ∧ x.2 < m ∧ 1 ≤ x.1 ∧ bt 7 x.1
abbrev Told := Nat → Option Rat
def vals (told : Told) (ws : List (Int × Nat)) : List (Int × Rat) := ws.map fun x => (x.1, (told x.2).getD 0)
def keeps (low : Bool) (told : Told) (own : Rat) : Sta → Bool
  | .fin p q => leb low own (p /. q)
  | .ext m fs => if m = low then fs.any fun f => (told f).any (leb low own) else fs.all fun f => (told f).any (leb low own)
  | .av ws => ws.all (fun x => (told x.2).isSome) && leb low own (mean (vals told ws))
/-- a dict that stands for told -/
structure DT (n : Nat) (kvs : List (Key × D)) (told : Told) : Prop where
  get : ∀ i : Nat, lookD kvs (Sum.inl (i : Int)) = (told i).map rat
  sz : ∀ i x, told i = some x → sz n x
theorem ok_str : PyData.strOk ("end" : Str) = true ∧ PyData.strOk ("max" : Str) = true ∧ PyData.strOk ("min" : Str) = true ∧ PyData.strOk ("mean" : Str) = true := by decide +kernel
theorem fDin_at {n : Nat} {kvs : List (Key × D)} {told : Told} (h : DT n kvs told) (i : Nat) : fDin false (iD i) (.dic kvs) = some (.bl (told i).isSome) := by
  simp only [fDin, iD, keyD, h.get]
  cases told i <;> rfl
theorem fDget_at {n : Nat} {kvs : List (Key × D)} {told : Told} (h : DT n kvs told) {i : Nat} {x : Rat} (e : told i = some x) : fDget (.dic kvs) (iD i) = some (rat x) := by
  simp only [fDget, iD, keyD, h.get, e, Option.map_some]
end K84

/-! P8 -/
namespace K84
open scoped Rat
open PySem T L2
theorem runLc_enc {α : Type} {g : D → En → Option En} {t : En → R Bool} {f : En → R D} {vs : List Nat} {env0 : En} (enc : α → D) (F : α → Option D) : ∀ (l : List α) (acc : List D), (∀ a ∈ l, ∃ e1, g (enc a) env0 = some e1 ∧ wipeE e1 vs = env0 ∧ ∃ c, t e1 = .ok c e1 ∧ (c = true → ∃ z, f e1 = .ok z e1 ∧ F a = some z) ∧ (c = false → F a = none)) →
    acc.length + l.length ≤ 16000000 → runLc (fun _ => true) g t f vs (l.map enc) env0 acc = .ok (acc ++ l.filterMap F) env0
  | [], acc, _, _ => by simp [runLc]
  | d :: ds, acc, h, hl => by
    obtain ⟨e1, h1, h2, c, h3, h4, h5⟩ := h d (by simp)
    simp only [List.length_cons] at hl
    have ih := fun acc' hl' => runLc_enc enc F ds acc' (fun x hx => h x (by simp [hx])) hl'
    cases c with
    | false =>
      simp only [List.map_cons, runLc, if_true, h1, h3, h2]
      rw [ih acc (by omega), List.filterMap_cons, h5 rfl]
    | true =>
      obtain ⟨z, h6, h7⟩ := h4 rfl
      have cp : capd acc.length = true := by unfold capd; simp; omega
      simp only [List.map_cons, runLc, if_true, h1, h3, h2, h6, cp]
      rw [ih (acc ++ [z]) (by simp; omega), List.filterMap_cons, h7]
      simp
theorem allB_bl : ∀ bs : List Bool, allB (bs.map D.bl) = some bs
  | [] => rfl
  | b :: bs => by simp [allB, allB_bl bs]
theorem fAny_bl (bs : List Bool) : fAny [.lst (bs.map D.bl)] = some (.bl (bs.any id)) := by simp [fAny, lstD, allB_bl]
theorem fAll_bl (bs : List Bool) : fAll [.lst (bs.map D.bl)] = some (.bl (bs.all id)) := by simp [fAll, lstD, allB_bl]
theorem mtot_sz {n : Nat} : ∀ (ds : List D) (l : List (Int × Rat)) (k : Nat) (t : Rat), IsWs n ds l → sz k t → sz (k + ds.length * (n + 8)) (mtot t l)
  | [], _, k, t, .nil, ht => by simpa [mtot] using ht
  | D0 :: ds, _, k, t, @IsWs.cons _ _ x _ l h hs, ht => by
    obtain ⟨e, e1, e2⟩ := h.at_
    have sz2 : sz (k + (n + 8)) (t + (x.1 : Rat) * x.2) := (ht.add (e2.sz.wmul h.w2).sz).mono (by omega)
    have := mtot_sz ds l _ _ hs sz2
    simpa [mtot, Nat.add_mul, Nat.add_assoc, Nat.add_comm, Nat.add_left_comm] using this
theorem mean_sz {n : Nat} {ds : List D} {l : List (Int × Rat)} (h : IsWs n ds l) (h1 : ds.length ≤ 100) (hne : l ≠ []) : sz (1 + ds.length * (n + 8) + 14) (mean l) := by
  obtain ⟨w1, w2⟩ := mw_bt h h1 hne
  have s := mtot_sz ds l 1 0 h sz0
  have hq : 1 ≤ ((mtot 0 l).den : Int) * mw 0 l := by
    have := Int.mul_pos (show 0 < ((mtot 0 l).den : Int) from by have := (mtot 0 l).den_pos; omega) (show 0 < mw 0 l by omega)
    omega
  exact sz_divInt hq (s.1.mono (by omega)) (s.2.mul w2)
theorem any_fm (told : Told) (p : Rat → Bool) : ∀ fs : List Nat, (fs.filterMap fun f => (told f).map p).any id = fs.any fun f => (told f).any p
  | [] => rfl
  | f :: fs => by
    simp only [List.filterMap_cons, List.any_cons]
    cases told f with
    | none => simp [any_fm told p fs]
    | some y => simp [any_fm told p fs]
theorem s_ee : (("end" : Str) == ("end" : Str)) = true := by decide +kernel
theorem s_xe (m : Bool) : ((kw m) == ("end" : Str)) = false := by cases m <;> decide +kernel
theorem s_xm (m : Bool) : ((kw m) == ("mean" : Str)) = false := by cases m <;> decide +kernel
theorem s_xx (m : Bool) : ((kw m) == ("max" : Str)) = m := by cases m <;> decide +kernel
theorem s_xn (m : Bool) : ((kw m) == ("min" : Str)) = !m := by cases m <;> decide +kernel
theorem s_me : (("mean" : Str) == ("end" : Str)) = false := by decide +kernel
theorem s_mm : (("mean" : Str) == ("mean" : Str)) = true := by decide +kernel
theorem s_mx : (("mean" : Str) == ("max" : Str)) = false := by decide +kernel
theorem s_mn : (("mean" : Str) == ("min" : Str)) = false := by decide +kernel
theorem ok_kw (m : Bool) : PyData.strOk (kw m) = true := by cases m <;> decide +kernel
theorem fEq_ke (m : Bool) : fEq (.str (kw m)) (.str "end") = some (.bl false) := by rw [fEq_str (ok_kw m) ok_str.1, s_xe]
theorem fEq_kx (m : Bool) : fEq (.str (kw m)) (.str "max") = some (.bl m) := by rw [fEq_str (ok_kw m) ok_str.2.1, s_xx]
theorem fEq_kn (m : Bool) : fEq (.str (kw m)) (.str "min") = some (.bl (!m)) := by rw [fEq_str (ok_kw m) ok_str.2.2.1, s_xn]
theorem fEq_km (m : Bool) : fEq (.str (kw m)) (.str "mean") = some (.bl false) := by rw [fEq_str (ok_kw m) ok_str.2.2.2, s_xm]
theorem fEq_ee : fEq (.str "end") (.str "end") = some (.bl true) := by rw [fEq_str ok_str.1 ok_str.1, s_ee]
theorem fEq_me : fEq (.str "mean") (.str "end") = some (.bl false) := by rw [fEq_str ok_str.2.2.2 ok_str.1, s_me]
theorem fEq_mm : fEq (.str "mean") (.str "mean") = some (.bl true) := by rw [fEq_str ok_str.2.2.2 ok_str.2.2.2, s_mm]
theorem fEq_mx : fEq (.str "mean") (.str "max") = some (.bl false) := by rw [fEq_str ok_str.2.2.2 ok_str.2.1, s_mx]
theorem fEq_mn : fEq (.str "mean") (.str "min") = some (.bl false) := by rw [fEq_str ok_str.2.2.2 ok_str.2.2.1, s_mn]
theorem seqD_two (x y : D) : seqD 2 (.tup [x, y]) = some [x, y] := nrfl rfl
/-- bounded shape -/
def Sta.sm : Sta → Prop
  | .fin p q => 1 ≤ q ∧ bt 50 p ∧ bt 50 q
  | .ext _ fs => fs.length ≤ 3
  | .av ws => ws ≠ [] ∧ ws.length ≤ 3 ∧ ∀ x ∈ ws, 1 ≤ x.1 ∧ bt 7 x.1
theorem Sta.ok.sm {i m : Nat} : ∀ {s : Sta}, s.ok i m → s.sm
  | .fin _ _, h => h
  | .ext _ _, h => h.2.1
  | .av _, h => ⟨h.1, h.2.1, fun x hx => (h.2.2 x hx).2.2⟩
theorem vals_ws {n : Nat} {told : Told} (ht : ∀ i x, told i = some x → sz n x) : ∀ (ws : List (Int × Nat)), (∀ x ∈ ws, 1 ≤ x.1 ∧ bt 7 x.1) → (∀ x ∈ ws, (told x.2).isSome = true) →
    IsWs n (ws.filterMap fun x => (told x.2).map fun y => D.tup [.int x.1, rat y]) (vals told ws)
  | [], _, _ => .nil
  | x :: ws, h, k => by
    have hx := k x (by simp)
    cases e : told x.2 with
    | none => rw [e] at hx; cases hx
    | some y =>
      simp only [List.filterMap_cons, e, Option.map_some, vals, List.map_cons, Option.getD_some]
      exact .cons ⟨rfl, ⟨rat y, rfl, IsR.rat (ht _ _ e)⟩, (h x (by simp)).1, (h x (by simp)).2⟩ (vals_ws ht ws (fun x hx => h x (by simp [hx])) fun x hx => k x (by simp [hx]))
theorem nins_map {α : Type} (f : α → D) (h : ∀ a, nin (f a) = true) : ∀ l : List α, nins (l.map f) = true := fun l => nins_all.mpr fun d hd => by
  obtain ⟨a, _, rfl⟩ := List.mem_map.mp hd; exact h a
theorem stands_fin {n : Nat} {kvs : List (Key × D)} {own : Rat} (so : sz n own) (hn : n ≤ 1000) {p q : Int} (hs : (Sta.fin p q).sm) (told : Told) : sem_stands_low [.d (Sta.fin p q).kept, .d (rat own), .d (.dic kvs)] = .ok (.bl (keeps true told own (.fin p q))) [] := by
  obtain ⟨h1, h2, h3⟩ := hs
  have a := at_most_eq (IsR.rat so) (IsR.rat (sz_divInt h1 h2 h3)) (by omega)
  unfold sem_stands_low b_stands_low
  simp only [Sta.kept, keeps, leb, if_true]
  simp?! [seqD_two, g_nm, canSet_eq, canS_no, canS_dat, fEq_ee, a]
theorem stands_ext {n : Nat} {kvs : List (Key × D)} {told : Told} (h : DT n kvs told) {own : Rat} (so : sz n own) (hn : n ≤ 1000) {m : Bool} {fs : List Nat} (hs : (Sta.ext m fs).sm) : sem_stands_low [.d (Sta.ext m fs).kept, .d (rat own), .d (.dic kvs)] = .ok (.bl (keeps true told own (.ext m fs))) [] := by
  have hl : fs.length ≤ 3 := hs
  have lc1 : ∀ env0 : En, env0 = [.dat (Sta.ext m fs).kept, .dat (rat own), .dat (.dic kvs), .dat (.str (kw m)), .dat (.tup (fs.map iD)), .no, .no, .no] →
      runLc (fun _ => true) (GX.name 5 : GX tau).ev (TX.ofE (EX.din (EX.var 5) (EX.var 2)) : TX tau).ev (EX.call sem_at_most (AX.cons (EX.var 1) (AX.cons (EX.dget (EX.var 2) (EX.var 5)) (AX.nil))) : EX tau).ev [5] (fs.map iD) env0 [] = .ok ([] ++ fs.filterMap fun f => ((told f).map fun y => decide (own ≤ y)).map D.bl) env0 := by
    rintro env0 rfl
    refine runLc_enc iD _ fs [] (fun f _ => ⟨[.dat (Sta.ext m fs).kept, .dat (rat own), .dat (.dic kvs), .dat (.str (kw m)), .dat (.tup (fs.map iD)), .dat (iD f), .no, .no], by simp?! [g_nm, canSet_eq, canS_no], by simp?!, (told f).isSome, by simp?! [fDin_at h], fun c => ?_, fun c => ?_⟩) (by simp; omega)
    · cases e : told f with
      | none => rw [e] at c; cases c
      | some y =>
        exact ⟨.bl (decide (own ≤ y)), by simp?! [fDget_at h e, at_most_eq (IsR.rat so) (IsR.rat (h.sz _ _ e)) (by omega)], rfl⟩
    · cases e : told f with
      | none => rfl
      | some y => rw [e] at c; cases c
  have lc2 : ∀ env0 : En, env0 = [.dat (Sta.ext m fs).kept, .dat (rat own), .dat (.dic kvs), .dat (.str (kw m)), .dat (.tup (fs.map iD)), .no, .no, .no] →
      runLc (fun _ => true) (GX.name 5 : GX tau).ev (TX.yes : TX tau).ev (EX.andV (EX.din (EX.var 5) (EX.var 2)) (EX.call sem_at_most (AX.cons (EX.var 1) (AX.cons (EX.dget (EX.var 2) (EX.var 5)) (AX.nil)))) : EX tau).ev [5] (fs.map iD) env0 [] = .ok ([] ++ fs.filterMap fun f => some (D.bl ((told f).any fun y => decide (own ≤ y)))) env0 := by
    rintro env0 rfl
    refine runLc_enc iD _ fs [] (fun f _ => ⟨[.dat (Sta.ext m fs).kept, .dat (rat own), .dat (.dic kvs), .dat (.str (kw m)), .dat (.tup (fs.map iD)), .dat (iD f), .no, .no], by simp?! [g_nm, canSet_eq, canS_no], by simp?!, true, by simp?!, fun c => ?_, fun c => by cases c⟩) (by simp; omega)
    cases e : told f with
    | none => exact ⟨.bl false, by simp?! [fDin_at h, e, Option.isSome_none], rfl⟩
    | some y => exact ⟨.bl (decide (own ≤ y)), by simp?! [fDin_at h, e, Option.isSome_some, fDget_at h e, at_most_eq (IsR.rat so) (IsR.rat (h.sz _ _ e)) (by omega)], rfl⟩
  have e1 : (fs.filterMap fun f => ((told f).map fun y => decide (own ≤ y)).map D.bl) = (fs.filterMap fun f => (told f).map fun y => decide (own ≤ y)).map D.bl := by rw [List.map_filterMap]
  have e2 : (fs.filterMap fun f => some (D.bl ((told f).any fun y => decide (own ≤ y)))) = (fs.map fun f => (told f).any fun y => decide (own ≤ y)).map D.bl := by rw [List.map_map]; exact congrFun List.filterMap_eq_map' fs
  have l1 := lc1 _ rfl
  have l2 := lc2 _ rfl
  rw [List.nil_append, e1] at l1
  rw [List.nil_append, e2] at l2
  simp only [Sta.kept] at l1 l2
  unfold sem_stands_low b_stands_low
  simp only [Sta.kept, keeps]
  simp?! [seqD_two, g_nm, canSet_eq, canS_no, canS_dat, fEq_ke, fEq_kx]
  cases m with
  | true =>
    simp?! [D.seq?, chk_seq, okVs_cons, l1, fAny_bl, any_fm]
    rfl
  | false =>
    simp?! [fEq_kn, D.seq?, chk_seq, okVs_cons, l2, fAll_bl]
    simp only [List.all_map]
    rfl
theorem stands_av {n : Nat} {kvs : List (Key × D)} {told : Told} (h : DT n kvs told) {own : Rat} (so : sz n own) (hn : n ≤ 1000) {ws : List (Int × Nat)} (hs : (Sta.av ws).sm) : sem_stands_low [.d (Sta.av ws).kept, .d (rat own), .d (.dic kvs)] = .ok (.bl (keeps true told own (.av ws))) [] := by
  obtain ⟨h0, hl, hw⟩ := hs
  have lc1 : ∀ env0 : En, env0 = [.dat (Sta.av ws).kept, .dat (rat own), .dat (.dic kvs), .dat (.str "mean"), .dat (.tup (ws.map fun x => D.tup [.int x.1, iD x.2])), .no, .no, .no] →
      runLc (fun _ => true) (GX.sq 2 (GXs.cons (GX.name 6) (GXs.cons (GX.name 5) (GXs.nil))) : GX tau).ev (TX.yes : TX tau).ev (EX.din (EX.var 5) (EX.var 2) : EX tau).ev [6, 5] (ws.map fun x => D.tup [.int x.1, iD x.2]) env0 [] = .ok ([] ++ ws.filterMap fun x => some (D.bl (told x.2).isSome)) env0 := by
    rintro env0 rfl
    exact runLc_enc (fun x : Int × Nat => D.tup [.int x.1, iD x.2]) _ ws [] (fun x _ => ⟨[.dat (Sta.av ws).kept, .dat (rat own), .dat (.dic kvs), .dat (.str "mean"), .dat (.tup (ws.map fun x => D.tup [.int x.1, iD x.2])), .dat (iD x.2), .dat (.int x.1), .no], by simp?! [g_nm, canSet_eq, canS_no, seqD_two], by simp?!, true, by simp?!, fun c => ⟨.bl (told x.2).isSome, by simp?! [fDin_at h], rfl⟩, fun c => by cases c⟩) (by simp; omega)
  have e1 : (ws.filterMap fun x => some (D.bl (told x.2).isSome)) = (ws.map fun x => (told x.2).isSome).map D.bl := by rw [List.map_map]; exact congrFun List.filterMap_eq_map' ws
  have l1 := lc1 _ rfl
  rw [List.nil_append, e1] at l1
  simp only [Sta.kept] at l1
  by_cases hall : ∀ x ∈ ws, (told x.2).isSome = true
  · have ha : ws.all (fun x => (told x.2).isSome) = true := List.all_eq_true.mpr hall
    have lc2 : ∀ env0 : En, env0 = [.dat (Sta.av ws).kept, .dat (rat own), .dat (.dic kvs), .dat (.str "mean"), .dat (.tup (ws.map fun x => D.tup [.int x.1, iD x.2])), .no, .no, .no] →
        runLc (fun _ => true) (GX.sq 2 (GXs.cons (GX.name 7) (GXs.cons (GX.name 5) (GXs.nil))) : GX tau).ev (TX.yes : TX tau).ev (EX.tup (AX.cons (EX.var 7) (AX.cons (EX.dget (EX.var 2) (EX.var 5)) (AX.nil))) : EX tau).ev [7, 5] (ws.map fun x => D.tup [.int x.1, iD x.2]) env0 [] = .ok ([] ++ ws.filterMap fun x => (told x.2).map fun y => D.tup [.int x.1, rat y]) env0 := by
      rintro env0 rfl
      refine runLc_enc (fun x : Int × Nat => D.tup [.int x.1, iD x.2]) _ ws [] (fun x hx => ⟨[.dat (Sta.av ws).kept, .dat (rat own), .dat (.dic kvs), .dat (.str "mean"), .dat (.tup (ws.map fun x => D.tup [.int x.1, iD x.2])), .dat (iD x.2), .no, .dat (.int x.1)], by simp?! [g_nm, canSet_eq, canS_no, seqD_two], by simp?!, true, by simp?!, fun c => ?_, fun c => by cases c⟩) (by simp; omega)
      cases e : told x.2 with
      | none => have := hall x hx; rw [e] at this; cases this
      | some y => exact ⟨D.tup [.int x.1, rat y], by simp?! [fDget_at h e, fTup2], rfl⟩
    have l2 := lc2 _ rfl
    rw [List.nil_append] at l2
    simp only [Sta.kept] at l2
    have W := vals_ws h.sz ws hw hall
    have wl : (ws.filterMap fun x => (told x.2).map fun y => D.tup [.int x.1, rat y]).length = ws.length := by rw [W.length]; simp [vals]
    have wne : vals told ws ≠ [] := by unfold vals; simpa using h0
    have hb : (ws.filterMap fun x => (told x.2).map fun y => D.tup [.int x.1, rat y]).length * (n + 8) ≤ 3 * (n + 8) := Nat.mul_le_mul_right _ (by omega)
    have nL : nin (.lst (ws.filterMap fun x => (told x.2).map fun y => D.tup [.int x.1, rat y])) = true := by
      refine nins_all.mpr fun d hd => ?_
      obtain ⟨x, _, hx⟩ := List.mem_filterMap.mp hd
      cases e : told x.2 with
      | none => rw [e] at hx; cases hx
      | some y => rw [e] at hx; cases hx; rfl
    have m1 := mean_of_eq nL rfl W wne (by omega) (by omega)
    have m2 := mean_sz W (by omega) wne
    have a := at_most_eq (IsR.rat so) (IsR.rat m2) (by omega)
    unfold sem_stands_low b_stands_low
    simp only [Sta.kept, keeps, leb, if_true, ha, Bool.true_and]
    simp?! [seqD_two, g_nm, canSet_eq, canS_no, canS_dat, fEq_me, fEq_mx, fEq_mn, D.seq?, chk_seq, okVs_cons, l1, fAll_bl, List.all_map, Function.comp_def, id_eq, ha, l2, m1, a]
  · have ha : ws.all (fun x => (told x.2).isSome) = false := by
      cases e : ws.all (fun x => (told x.2).isSome) with
      | false => rfl
      | true => exact absurd (List.all_eq_true.mp e) hall
    unfold sem_stands_low b_stands_low
    simp only [Sta.kept, keeps, ha, Bool.false_and]
    simp?! [seqD_two, g_nm, canSet_eq, canS_no, canS_dat, fEq_me, fEq_mx, fEq_mn, D.seq?, chk_seq, okVs_cons, l1, fAll_bl, List.all_map, Function.comp_def, id_eq, ha]
theorem stands_eq {n : Nat} {kvs : List (Key × D)} {told : Told} (h : DT n kvs told) {own : Rat} (so : sz n own) (hn : n ≤ 1000) : ∀ {s : Sta}, s.sm → sem_stands_low [.d s.kept, .d (rat own), .d (.dic kvs)] = .ok (.bl (keeps true told own s)) []
  | .fin _ _, hs => stands_fin so hn hs told
  | .ext _ _, hs => stands_ext h so hn hs
  | .av _, hs => stands_av h so hn hs
end K84

/-! P9 -/
namespace K84
open scoped Rat
open PySem T L2
theorem fIx_nat {d : D} {ds : List D} (e : d.seq? = some ds) (i : Nat) : fIx d (iD i) = ds[i]? := by
  unfold fIx iD
  simp only [e, atI, ixN]
  by_cases h : i < ds.length
  · have h1 : (0 : Int) ≤ (i : Int) := by omega
    have h2 : (i : Int) < (ds.length : Int) := by omega
    simp [h1, h2]
  · have h1 : (0 : Int) ≤ (i : Int) := by omega
    have h2 : ¬ (i : Int) < (ds.length : Int) := by omega
    rw [if_pos h1, if_neg h2, List.getElem?_eq_none (by omega)]
    rfl
/-- a list that stands for told -/
structure LT (n : Nat) (tl : List D) (told : Told) : Prop where
  get : ∀ i, i < tl.length → (told i = none ∧ tl[i]? = some .non) ∨ ∃ x d, told i = some x ∧ tl[i]? = some d ∧ IsR n d x
  out : ∀ i, tl.length ≤ i → told i = none
def rawS (sts : List Sta) : D := .lst (sts.map Sta.raw)
theorem IsR.ne {n : Nat} {d : D} {x : Rat} (h : IsR n d x) : d.isNon = false := by
  obtain ⟨p, q, h1, _⟩ := h.seq
  cases d <;> first | rfl | simp [D.seq?] at h1
theorem LT.isN {n : Nat} {tl : List D} {told : Told} (h : LT n tl told) {i : Nat} (hi : i < tl.length) : ∃ d, tl[i]? = some d ∧ fIsN d .non = some (.bl (told i).isNone) ∧ fNotN d .non = some (.bl (told i).isSome) ∧ (∀ x, told i = some x → IsR n d x) := by
  rcases h.get i hi with ⟨h1, h2⟩ | ⟨x, d, h1, h2, h3⟩
  · exact ⟨.non, h2, by rw [h1]; rfl, by rw [h1]; rfl, fun x hx => by rw [h1] at hx; cases hx⟩
  · refine ⟨d, h2, ?_, ?_, fun y hy => by rw [h1] at hy; cases hy; exact h3⟩
    · rw [h1]; unfold fIsN; rw [h3.ne]; rfl
    · rw [h1]; unfold fNotN; rw [h3.ne]; rfl
theorem fEq_bb (a b : Bool) : fEq (.bl a) (.bl b) = some (.bl (a == b)) := fEq_bl a b
theorem keeps_fin {n : Nat} {sts : List Sta} {tl : List D} {told : Told} (h : LT n tl told) (hn : n ≤ 1000) {i : Nat} {p q : Int} {own : Rat} (hs : sts[i]? = some (.fin p q)) (sm : (Sta.fin p q).sm) (hi : i < tl.length) (ho : told i = some own) (low : Bool) :
    sem__law_keeps [.d (rawS sts), .d (.lst tl), .d (iD i), .d (.bl low)] = .ok (.bl (keeps low told own (.fin p q))) [] := by
  obtain ⟨d, d1, _, _, d2⟩ := h.isN hi
  obtain ⟨h1, h2, h3⟩ := sm
  have r1 : fIx (rawS sts) (iD i) = some (Sta.fin p q).raw := by rw [fIx_nat rfl, List.getElem?_map, hs]; rfl
  have r2 : fIx (.lst tl) (iD i) = some d := by rw [fIx_nat rfl, d1]
  have a := law_less_eq low (d2 own ho) (IsR.tup h1 h2 h3) (by omega)
  have k0 : fIx (Sta.fin p q).raw (.int 0) = some (.str "end") := nrfl rfl
  have k1 : fIx (Sta.fin p q).raw (.int 1) = some (.tup [.int p, .int q]) := nrfl rfl
  unfold sem__law_keeps b__law_keeps
  simp only [keeps]
  simp?! [r1, r2, k0, k1, canSet_eq, canS_no, canS_dat, fEq_ee, a]
theorem keeps_ext {n : Nat} {sts : List Sta} {tl : List D} {told : Told} (h : LT n tl told) (hn : n ≤ 1000) {i : Nat} {m : Bool} {fs : List Nat} {own : Rat} (hs : sts[i]? = some (.ext m fs)) (sm : (Sta.ext m fs).sm) (hf : ∀ f ∈ fs, f < tl.length) (hi : i < tl.length) (ho : told i = some own) (low : Bool) :
    sem__law_keeps [.d (rawS sts), .d (.lst tl), .d (iD i), .d (.bl low)] = .ok (.bl (keeps low told own (.ext m fs))) [] := by
  obtain ⟨d, d1, _, _, d2⟩ := h.isN hi
  have hl : fs.length ≤ 3 := sm
  have r1 : fIx (rawS sts) (iD i) = some (Sta.ext m fs).raw := by rw [fIx_nat rfl, List.getElem?_map, hs]; rfl
  have r2 : fIx (.lst tl) (iD i) = some d := by rw [fIx_nat rfl, d1]
  have k0 : fIx (Sta.ext m fs).raw (.int 0) = some (.str (kw m)) := nrfl rfl
  have k1 : fIx (Sta.ext m fs).raw (.int 1) = some (.lst (fs.map iD)) := nrfl rfl
  have lc1 : ∀ env0 : En, env0 = [.dat (rawS sts), .dat (.lst tl), .dat (iD i), .dat (.bl low), .dat (.str (kw m)), .dat (.lst (fs.map iD)), .dat d, .no, .no, .no] →
      runLc (fun _ => true) (GX.name 8 : GX tau).ev (TX.and (TX.ofE (EX.notN (EX.idx (EX.var 1) (EX.var 8)) (EX.non))) (TX.ofE (EX.call sem__law_less (AX.cons (EX.var 3) (AX.cons (EX.var 6) (AX.cons (EX.idx (EX.var 1) (EX.var 8)) (AX.nil)))))) : TX tau).ev (EX.var 8 : EX tau).ev [8] (fs.map iD) env0 [] = .ok ([] ++ fs.filterMap fun f => if (told f).any (leb low own) then some (iD f) else none) env0 := by
    rintro env0 rfl
    refine runLc_enc iD _ fs [] (fun f hf1 => ?_) (by simp; omega)
    obtain ⟨d', g1, _, g3, g4⟩ := h.isN (hf f hf1)
    have r3 : fIx (.lst tl) (iD f) = some d' := by rw [fIx_nat rfl, g1]
    refine ⟨[.dat (rawS sts), .dat (.lst tl), .dat (iD i), .dat (.bl low), .dat (.str (kw m)), .dat (.lst (fs.map iD)), .dat d, .no, .dat (iD f), .no], by simp?! [g_nm, canSet_eq, canS_no], by simp?!, (told f).any (leb low own), ?_, fun c => ⟨iD f, by simp?!, by rw [if_pos c]⟩, fun c => by rw [if_neg (by rw [c]; decide)]⟩
    cases e : told f with
    | none => simp?! [r3, g3, e, Option.isSome_none, Option.any_none]
    | some y => simp?! [r3, g3, e, Option.isSome_some, law_less_eq low (d2 own ho) (g4 y e) (by omega), Option.any_some]
  have l1 := lc1 _ rfl
  have e1 : (fs.filterMap fun f => if (told f).any (leb low own) then some (iD f) else none) = (fs.filter fun f => (told f).any (leb low own)).map iD := by
    rw [← List.filterMap_eq_filter, List.map_filterMap]
    refine congrArg (fun F => List.filterMap F fs) (funext fun f => ?_)
    by_cases c : (told f).any (leb low own) <;> simp [Option.guard, c]
  rw [List.nil_append, e1] at l1
  have q1 : decide (((fs.filter fun f => (told f).any (leb low own)).length : Int) > 0) = fs.any fun f => (told f).any (leb low own) := by
    cases e : fs.any fun f => (told f).any (leb low own) with
    | true =>
      obtain ⟨f, f1, f2⟩ := List.any_eq_true.mp e
      have hm : f ∈ fs.filter fun f => (told f).any (leb low own) := List.mem_filter.mpr ⟨f1, f2⟩
      have := List.length_pos_of_mem hm
      simp only [decide_eq_true_eq]; omega
    | false =>
      have : (fs.filter fun f => (told f).any (leb low own)) = [] := List.filter_eq_nil_iff.mpr fun f hf c => by
        have := List.any_eq_false.mp e f hf; exact this c
      rw [this]; rfl
  have q2 : (((fs.filter fun f => (told f).any (leb low own)).length : Int) == (fs.length : Int)) = fs.all fun f => (told f).any (leb low own) := by
    cases e : fs.all fun f => (told f).any (leb low own) with
    | true =>
      have : (fs.filter fun f => (told f).any (leb low own)) = fs := List.filter_eq_self.mpr (List.all_eq_true.mp e)
      rw [this]; simp
    | false =>
      have : (fs.filter fun f => (told f).any (leb low own)).length ≠ fs.length := fun z => by
        have z2 := List.filter_eq_self.mp (List.Sublist.eq_of_length (List.filter_sublist) z)
        rw [List.all_eq_true.mpr z2] at e; cases e
      simp; omega
  unfold sem__law_keeps b__law_keeps
  simp only [keeps]
  simp?! [r1, r2, k0, k1, canSet_eq, canS_no, canS_dat, fEq_ke, fEq_km, D.seq?, chk_seq, okVs_cons, l1, fEq_kx, fEq_bb]
  by_cases c : m = low
  · subst c
    simp?! [fLen_seq (d := .lst _) rfl, List.length_map, fIB_int, q1]
  · have c2 : (m == low) = false := by cases m <;> cases low <;> first | rfl | exact absurd rfl c
    simp?! [c2, c, fLen_seq (d := .lst _) rfl, List.length_map, fEq_int, q2, if_false]
theorem raw_ws {n : Nat} {tl : List D} {told : Told} (h : LT n tl told) : ∀ (ws : List (Int × Nat)), (∀ x ∈ ws, 1 ≤ x.1 ∧ bt 7 x.1) → (∀ x ∈ ws, x.2 < tl.length) → (∀ x ∈ ws, (told x.2).isSome = true) →
    IsWs n (ws.filterMap fun x => (tl[x.2]?).map fun d => D.tup [.int x.1, d]) (vals told ws)
  | [], _, _, _ => .nil
  | x :: ws, hw, hb, k => by
    have hx := k x (by simp)
    obtain ⟨d, d1, _, _, d2⟩ := h.isN (hb x (by simp))
    cases e : told x.2 with
    | none => rw [e] at hx; cases hx
    | some y =>
      simp only [List.filterMap_cons, d1, Option.map_some, vals, List.map_cons, e, Option.getD_some]
      have ir := d2 y e
      exact .cons ⟨by simp [nin, nins, ir.nin], ⟨d, rfl, ir⟩, (hw x (by simp)).1, (hw x (by simp)).2⟩ (raw_ws h ws (fun x hx => hw x (by simp [hx])) (fun x hx => hb x (by simp [hx])) fun x hx => k x (by simp [hx]))
theorem keeps_av {n : Nat} {sts : List Sta} {tl : List D} {told : Told} (h : LT n tl told) (hn : n ≤ 1000) {i : Nat} {ws : List (Int × Nat)} {own : Rat} (hs : sts[i]? = some (.av ws)) (sm : (Sta.av ws).sm) (hf : ∀ x ∈ ws, x.2 < tl.length) (hi : i < tl.length) (ho : told i = some own) (low : Bool) :
    sem__law_keeps [.d (rawS sts), .d (.lst tl), .d (iD i), .d (.bl low)] = .ok (.bl (keeps low told own (.av ws))) [] := by
  obtain ⟨d, d1, _, _, d2⟩ := h.isN hi
  obtain ⟨h0, hl, hw⟩ := sm
  have r1 : fIx (rawS sts) (iD i) = some (Sta.av ws).raw := by rw [fIx_nat rfl, List.getElem?_map, hs]; rfl
  have r2 : fIx (.lst tl) (iD i) = some d := by rw [fIx_nat rfl, d1]
  have k0 : fIx (Sta.av ws).raw (.int 0) = some (.str "mean") := nrfl rfl
  have k1 : fIx (Sta.av ws).raw (.int 1) = some (.lst (ws.map fun x => D.tup [.int x.1, iD x.2])) := nrfl rfl
  have p0 : ∀ x : Int × Nat, fIx (D.tup [.int x.1, iD x.2]) (.int 0) = some (.int x.1) := fun x => nrfl rfl
  have p1 : ∀ x : Int × Nat, fIx (D.tup [.int x.1, iD x.2]) (.int 1) = some (iD x.2) := fun x => nrfl rfl
  have lc1 : ∀ env0 : En, env0 = [.dat (rawS sts), .dat (.lst tl), .dat (iD i), .dat (.bl low), .dat (.str "mean"), .dat (.lst (ws.map fun x => D.tup [.int x.1, iD x.2])), .dat d, .no, .no, .no] →
      runLc (fun _ => true) (GX.name 9 : GX tau).ev (TX.ofE (EX.isN (EX.idx (EX.var 1) (EX.idx (EX.var 9) (EX.int 1))) (EX.non)) : TX tau).ev (EX.var 9 : EX tau).ev [9] (ws.map fun x => D.tup [.int x.1, iD x.2]) env0 [] = .ok ([] ++ ws.filterMap fun x => if (told x.2).isNone then some (D.tup [.int x.1, iD x.2]) else none) env0 := by
    rintro env0 rfl
    refine runLc_enc (fun x : Int × Nat => D.tup [.int x.1, iD x.2]) _ ws [] (fun x hx => ?_) (by simp; omega)
    obtain ⟨d', g1, g2, _, _⟩ := h.isN (hf x hx)
    have r3 : fIx (.lst tl) (iD x.2) = some d' := by rw [fIx_nat rfl, g1]
    exact ⟨[.dat (rawS sts), .dat (.lst tl), .dat (iD i), .dat (.bl low), .dat (.str "mean"), .dat (.lst (ws.map fun x => D.tup [.int x.1, iD x.2])), .dat d, .no, .no, .dat (D.tup [.int x.1, iD x.2])], by simp?! [g_nm, canSet_eq, canS_no], by simp?!, (told x.2).isNone, by simp?! [p1, r3, g2], fun c => ⟨D.tup [.int x.1, iD x.2], by simp?!, by rw [if_pos c]⟩, fun c => by rw [if_neg (by rw [c]; decide)]⟩
  have l1 := lc1 _ rfl
  rw [List.nil_append] at l1
  by_cases hall : ∀ x ∈ ws, (told x.2).isSome = true
  · have ha : ws.all (fun x => (told x.2).isSome) = true := List.all_eq_true.mpr hall
    have e1 : (ws.filterMap fun x => if (told x.2).isNone then some (D.tup [.int x.1, iD x.2]) else none) = [] := List.filterMap_eq_nil_iff.mpr fun x hx => by
      have := hall x hx
      cases e : told x.2 with
      | none => rw [e] at this; cases this
      | some y => simp
    rw [e1] at l1
    have lc2 : ∀ env0 : En, env0 = [.dat (rawS sts), .dat (.lst tl), .dat (iD i), .dat (.bl low), .dat (.str "mean"), .dat (.lst (ws.map fun x => D.tup [.int x.1, iD x.2])), .dat d, .no, .no, .no] →
        runLc (fun _ => true) (GX.name 9 : GX tau).ev (TX.yes : TX tau).ev (EX.tup (AX.cons (EX.idx (EX.var 9) (EX.int 0)) (AX.cons (EX.idx (EX.var 1) (EX.idx (EX.var 9) (EX.int 1))) (AX.nil))) : EX tau).ev [9] (ws.map fun x => D.tup [.int x.1, iD x.2]) env0 [] = .ok ([] ++ ws.filterMap fun x => (tl[x.2]?).map fun d => D.tup [.int x.1, d]) env0 := by
      rintro env0 rfl
      refine runLc_enc (fun x : Int × Nat => D.tup [.int x.1, iD x.2]) _ ws [] (fun x hx => ?_) (by simp; omega)
      obtain ⟨d', g1, _, _, _⟩ := h.isN (hf x hx)
      have r3 : fIx (.lst tl) (iD x.2) = some d' := by rw [fIx_nat rfl, g1]
      exact ⟨[.dat (rawS sts), .dat (.lst tl), .dat (iD i), .dat (.bl low), .dat (.str "mean"), .dat (.lst (ws.map fun x => D.tup [.int x.1, iD x.2])), .dat d, .no, .no, .dat (D.tup [.int x.1, iD x.2])], by simp?! [g_nm, canSet_eq, canS_no], by simp?!, true, by simp?!, fun c => ⟨D.tup [.int x.1, d'], by simp?! [p0, p1, r3, fTup2], by rw [g1]; rfl⟩, fun c => by cases c⟩
    have l2 := lc2 _ rfl
    rw [List.nil_append] at l2
    have W := raw_ws h ws hw hf hall
    have wl : (ws.filterMap fun x => (tl[x.2]?).map fun d => D.tup [.int x.1, d]).length = ws.length := by rw [W.length]; simp [vals]
    have wne : vals told ws ≠ [] := by unfold vals; simpa using h0
    have hb : (ws.filterMap fun x => (tl[x.2]?).map fun d => D.tup [.int x.1, d]).length * (n + 8) ≤ 3 * (n + 8) := Nat.mul_le_mul_right _ (by omega)
    have m1 := law_mean_eq (L := .lst (ws.filterMap fun x => (tl[x.2]?).map fun d => D.tup [.int x.1, d])) rfl W wne (by omega) (by omega)
    have m2 := mean_sz W (by omega) wne
    have a := law_less_eq low (d2 own ho) (IsR.rat m2) (by omega)
    unfold sem__law_keeps b__law_keeps
    simp only [keeps, ha, Bool.true_and]
    simp?! [r1, r2, k0, k1, canSet_eq, canS_no, canS_dat, fEq_me, fEq_mm, D.seq?, chk_seq, okVs_cons, l1, fLen_seq (d := .lst _) rfl, fIB_int, Int.lt_irrefl, decide_false, l2, m1, a]
  · have ha : ws.all (fun x => (told x.2).isSome) = false := by
      cases e : ws.all (fun x => (told x.2).isSome) with
      | false => rfl
      | true => exact absurd (List.all_eq_true.mp e) hall
    have q1 : decide (((ws.filterMap fun x => if (told x.2).isNone then some (D.tup [.int x.1, iD x.2]) else none).length : Int) > 0) = true := by
      obtain ⟨x, x1, x2⟩ := List.all_eq_false.mp ha
      have hm : D.tup [.int x.1, iD x.2] ∈ ws.filterMap fun x => if (told x.2).isNone then some (D.tup [.int x.1, iD x.2]) else none := List.mem_filterMap.mpr ⟨x, x1, by
        cases e : told x.2 with
        | none => simp
        | some y => rw [e] at x2; exact absurd rfl x2⟩
      have := List.length_pos_of_mem hm
      simp only [decide_eq_true_eq]; omega
    unfold sem__law_keeps b__law_keeps
    simp only [keeps, ha, Bool.false_and]
    simp?! [r1, r2, k0, k1, canSet_eq, canS_no, canS_dat, fEq_me, fEq_mm, D.seq?, chk_seq, okVs_cons, l1, fLen_seq (d := .lst _) rfl, fIB_int, q1]
/-- the followers stand within m -/
def Sta.inn (m : Nat) : Sta → Prop
  | .fin _ _ => True
  | .ext _ fs => ∀ f ∈ fs, f < m
  | .av ws => ∀ x ∈ ws, x.2 < m
theorem Sta.ok.inn {i m : Nat} : ∀ {s : Sta}, s.ok i m → s.inn m
  | .fin _ _, _ => trivial
  | .ext _ _, h => fun f hf => (h.2.2 f hf).2
  | .av _, h => fun x hx => (h.2.2 x hx).2.1
theorem law_keeps_eq {n : Nat} {sts : List Sta} {tl : List D} {told : Told} (h : LT n tl told) (hn : n ≤ 1000) {i : Nat} {own : Rat} (hi : i < tl.length) (ho : told i = some own) (low : Bool) : ∀ {s : Sta}, sts[i]? = some s → s.sm → s.inn tl.length →
    sem__law_keeps [.d (rawS sts), .d (.lst tl), .d (iD i), .d (.bl low)] = .ok (.bl (keeps low told own s)) []
  | .fin _ _, hs, sm, _ => keeps_fin h hn hs sm hi ho low
  | .ext _ _, hs, sm, hf => keeps_ext h hn hs sm hf hi ho low
  | .av _, hs, sm, hf => keeps_av h hn hs sm hf hi ho low
end K84

/-! P10 -/
namespace K84
open scoped Rat
open PySem T L2
/-! ### a paper read -/
def upd1 (told : Told) (i : Nat) (x : Rat) : Told := fun j => if j = i then some x else told j
def entL (m : Nat) (told : Told) : List D → Option Told
  | [.int i, b] => match ratD b with
    | some (p, q) => if 0 ≤ i ∧ i < (m : Int) ∧ told i.toNat = none then some (upd1 told i.toNat (p /. q)) else none
    | none => none
  | _ => none
def entry (m : Nat) (told : Told) (pr : D) : Option Told := pr.seq?.bind (entL m told)
def parse (m : Nat) : List D → Told → Option Told
  | [], t => some t
  | d :: ds, t => (entry m t d).bind (parse m ds)
/-- a paper's entry: no instances, its ratio's numbers not long -/
structure PrOk (n : Nat) (d : D) : Prop where
  nin : nin d = true
  bd : ∀ a b p q, d.seq? = some [a, b] → ratD b = some (p, q) → bt n p ∧ bt n q
theorem entry_cases {m n : Nat} {told : Told} {d : D} (h : PrOk n d) : (entry m told d = none) ∨ ∃ (i : Nat) (b : D) (x : Rat), d.seq? = some [iD i, b] ∧ IsR n b x ∧ i < m ∧ told i = none ∧ entry m told d = some (upd1 told i x) := by
  unfold entry
  cases e : d.seq? with
  | none => exact .inl rfl
  | some ds =>
    rw [Option.bind_some]
    unfold entL
    split
    · rename_i i b
      cases r : ratD b with
      | none => exact .inl rfl
      | some pq =>
        obtain ⟨p, q⟩ := pq
        dsimp only
        split
        · rename_i c
          obtain ⟨c1, c2, c3⟩ := c
          obtain ⟨j, rfl⟩ := Int.eq_ofNat_of_zero_le c1
          obtain ⟨b1, b2⟩ := h.bd _ _ _ _ e r
          refine .inr ⟨j, b, p /. q, rfl, ⟨nin_seq h.nin e b (by simp), p, q, r, b1, b2, rfl⟩, by omega, by simpa using c3, ?_⟩
          simp
        · exact .inl rfl
    · exact .inl rfl
theorem LT.none {n m : Nat} : LT n (List.replicate m .non) (fun _ => none) :=
  ⟨fun i hi => .inl ⟨rfl, by rw [List.length_replicate] at hi; rw [List.getElem?_replicate, if_pos hi]⟩, fun _ _ => rfl⟩
theorem LT.upd {n : Nat} {tl : List D} {told : Told} (h : LT n tl told) {i : Nat} {x : Rat} {b : D} (hi : i < tl.length) (hb : IsR n b x) : LT n (tl.set i b) (upd1 told i x) := by
  refine ⟨fun j hj => ?_, fun j hj => ?_⟩
  · rw [List.length_set] at hj
    by_cases e : j = i
    · subst e
      exact .inr ⟨x, b, by simp [upd1], by rw [List.getElem?_set_self hj], hb⟩
    · have : (tl.set i b)[j]? = tl[j]? := List.getElem?_set_ne (Ne.symm e)
      rw [this]
      simp only [upd1, if_neg e]
      exact h.get j hj
  · rw [List.length_set] at hj
    have : j ≠ i := by omega
    simp only [upd1, if_neg this]
    exact h.out j hj
def wpB : SX tau := SX.seq (SX.ite (TX.or (TX.not (TX.ofE (EX.isi2 "list" "tuple" (EX.var 5)))) (TX.or (TX.ofE (EX.ne (EX.len (AX.cons (EX.var 5) (AX.nil))) (EX.int 2))) (TX.or (TX.not (TX.ofE (EX.call sem__law_whole (AX.cons (EX.idx (EX.var 5) (EX.int 0)) (AX.nil))))) (TX.not (TX.ofE (EX.call sem__law_is_ratio (AX.cons (EX.idx (EX.var 5) (EX.int 1)) (AX.nil)))))))) (SX.ret (EX.str "form")) (SX.nx))
  (SX.seq (SX.ite (TX.or (TX.ofE (EX.lt (EX.idx (EX.var 5) (EX.int 0)) (EX.int 0))) (TX.or (TX.ofE (EX.ge (EX.idx (EX.var 5) (EX.int 0)) (EX.len (AX.cons (EX.var 0) (AX.nil))))) (TX.ofE (EX.notN (EX.idxO 4 (EX.idx (EX.var 5) (EX.int 0))) (EX.non))))) (SX.ret (EX.str "form")) (SX.nx))
  (SX.setL 4 (EX.idx (EX.var 5) (EX.int 0)) (EX.idx (EX.var 5) (EX.int 1))))
theorem ixN_nat {m i : Nat} (h : i < m) : ixN m (i : Int) = some i := by
  unfold ixN
  rw [if_pos (by omega), if_pos (by omega)]
  simp
theorem fLen_raw (sts : List Sta) : fLen [rawS sts] = some (.int sts.length) := by
  rw [fLen_seq rfl, List.length_map]
/-- one turn of _law_word's reading -/
theorem wp_turn {n : Nat} {sts : List Sta} {paper num low : D} {tl : List D} {told : Told} {d : D} (h : PrOk n d) (l : LT n tl told) (hl : tl.length = sts.length) {u v w : Sl} :
    (entry sts.length told d = none ∧ ∃ e, wpB.ev [.dat (rawS sts), .dat paper, .dat num, .dat low, .own none (.lst tl), .dat d, v, w] = .ok (.rt (.str "form")) e ∧ ∃ x1 x2 x3 x4 x5 x6 x7 x8, e = [x1, x2, x3, x4, x5, x6, x7, x8]) ∨
    ∃ told' tl', entry sts.length told d = some told' ∧ LT n tl' told' ∧ tl'.length = sts.length ∧ wpB.ev [.dat (rawS sts), .dat paper, .dat num, .dat low, .own none (.lst tl), .dat d, v, w] = .ok .nx [.dat (rawS sts), .dat paper, .dat num, .dat low, .own none (.lst tl'), .dat d, v, w] := by
  have hn := h.nin
  have fin : ∀ {r : R Fl} {e : En}, True := fun {_ _} => trivial
  cases e : d.seq? with
  | none =>
    refine .inl ⟨by unfold entry; rw [e]; rfl, _, by unfold wpB; simp?! [isi2_eq hn, isL, e, Option.isSome_none]; rfl, _, _, _, _, _, _, _, _, rfl⟩
  | some ds =>
    by_cases h2 : ds.length = 2
    · obtain ⟨a, b, rfl⟩ := two_of h2
      have ha := nin_seq hn e a (by simp)
      have hb := nin_seq hn e b (by simp)
      cases a with
      | int i =>
        cases r : ratD b with
        | none =>
          refine .inl ⟨by simp [entry, e, entL, r], _, by unfold wpB; simp?! [isi2_eq hn, isL, e, Option.isSome_some, fLen_seq e, fNe_int, fIx_0 e, fIx_1 e, law_whole_eq ha, isI, law_is_ratio_eq hb, r, Option.isSome_none]; rfl, _, _, _, _, _, _, _, _, rfl⟩
        | some pq =>
          obtain ⟨p, q⟩ := pq
          obtain ⟨b1, b2⟩ := h.bd _ _ _ _ e r
          by_cases c1 : i < 0
          · refine .inl ⟨by simp [entry, e, entL, r]; omega, _, by unfold wpB; simp?! [isi2_eq hn, isL, e, Option.isSome_some, fLen_seq e, fNe_int, fIx_0 e, fIx_1 e, law_whole_eq ha, isI, law_is_ratio_eq hb, r, fIB_int, c1, decide_true]; rfl, _, _, _, _, _, _, _, _, rfl⟩
          · by_cases c2 : (sts.length : Int) ≤ i
            · refine .inl ⟨by simp [entry, e, entL, r]; omega, _, by unfold wpB; simp?! [isi2_eq hn, isL, e, Option.isSome_some, fLen_seq e, fNe_int, fIx_0 e, fIx_1 e, law_whole_eq ha, isI, law_is_ratio_eq hb, r, fIB_int, c1, decide_false, fLen_raw, c2, decide_true]; rfl, _, _, _, _, _, _, _, _, rfl⟩
            · obtain ⟨j, rfl⟩ := Int.eq_ofNat_of_zero_le (show 0 ≤ i by omega)
              have hj : j < tl.length := by omega
              obtain ⟨dj, g1, g2, g3, g4⟩ := l.isN hj
              have r3 : fIx (.lst tl) (.int (j : Int)) = some dj := by rw [show (D.int (j : Int)) = iD j from rfl, fIx_nat rfl, g1]
              cases t : told j with
              | some y =>
                refine .inl ⟨by simp [entry, e, entL, r, t], _, by unfold wpB; simp?! [isi2_eq hn, isL, e, Option.isSome_some, fLen_seq e, fNe_int, fIx_0 e, fIx_1 e, law_whole_eq ha, isI, law_is_ratio_eq hb, r, fIB_int, c1, decide_false, fLen_raw, c2, r3, g3, t]; rfl, _, _, _, _, _, _, _, _, rfl⟩
              | none =>
                have ir : IsR n b (p /. q) := ⟨hb, p, q, r, b1, b2, rfl⟩
                refine .inr ⟨upd1 told j (p /. q), tl.set j b, by simp [entry, e, entL, r, t]; omega, l.upd hj ir, by rw [List.length_set, hl], ?_⟩
                unfold wpB
                simp?! [isi2_eq hn, isL, e, Option.isSome_some, fLen_seq e, fNe_int, fIx_0 e, fIx_1 e, law_whole_eq ha, isI, law_is_ratio_eq hb, r, fIB_int, c1, decide_false, fLen_raw, c2, r3, g3, t, Option.isSome_none, ixN_nat hj]
      | _ => refine .inl ⟨by simp [entry, e, entL], _, by unfold wpB; simp?! [isi2_eq hn, isL, e, Option.isSome_some, fLen_seq e, fNe_int, fIx_0 e, fIx_1 e, law_whole_eq ha, isI]; rfl, _, _, _, _, _, _, _, _, rfl⟩
    · have hn2 : ((ds.length : Int) == 2) = false := by simp; omega
      refine .inl ⟨?_, _, by unfold wpB; simp?! [isi2_eq hn, isL, e, Option.isSome_some, fLen_seq e, fNe_int, hn2]; rfl, _, _, _, _, _, _, _, _, rfl⟩
      unfold entry entL
      rw [e, Option.bind_some]
      split
      · simp at h2
      · rfl
end K84

/-! P11 -/
namespace K84
open scoped Rat
open PySem T L2
def bad (low : Bool) (told : Told) (i : Nat) (s : Sta) : Bool := (told i).any fun own => !(keeps low told own s)
def fb (low : Bool) (told : Told) : Nat → List Sta → Option Sta
  | _, [] => none
  | i, s :: r => if bad low told i s then some s else fb low told (i + 1) r
def endw (low : Bool) (sts : List Sta) (num : Rat) (told : Told) : Str := match told 0 with
  | none => "first"
  | some v0 => match fb low told 0 sts with
    | some s => s.kind
    | none => if leb low num v0 then "right" else "number"
def word (low : Bool) (sts : List Sta) (num : Rat) (ds : List D) : Str := match parse sts.length ds (fun _ => none) with
  | none => "form"
  | some told => endw low sts num told
def l8 (e : En) : Prop := ∃ x1 x2 x3 x4 x5 x6 x7 x8, e = [x1, x2, x3, x4, x5, x6, x7, x8]
theorem lp_loop {n : Nat} {sts : List Sta} {paper num low : D} {v w : Sl} : ∀ (ds : List D) (told : Told) (tl : List D) (u : Sl), (∀ d ∈ ds, PrOk n d) → LT n tl told → tl.length = sts.length → okS u = true →
    (parse sts.length ds told = none ∧ ∃ e, l8 e ∧ runFor (fun _ => true) (GX.name 5 : GX tau).ev wpB.ev ds [.dat (rawS sts), .dat paper, .dat num, .dat low, .own none (.lst tl), u, v, w] = .ok (.rt (.str "form")) e) ∨
    ∃ told' tl' u', parse sts.length ds told = some told' ∧ LT n tl' told' ∧ tl'.length = sts.length ∧ okS u' = true ∧ runFor (fun _ => true) (GX.name 5 : GX tau).ev wpB.ev ds [.dat (rawS sts), .dat paper, .dat num, .dat low, .own none (.lst tl), u, v, w] = .ok .nx [.dat (rawS sts), .dat paper, .dat num, .dat low, .own none (.lst tl'), u', v, w]
  | [], told, tl, u, _, l, hl, hu => .inr ⟨told, tl, u, rfl, l, hl, hu, for_nil _ _ _⟩
  | d :: ds, told, tl, u, hp, l, hl, hu => by
    rcases wp_turn (paper := paper) (num := num) (low := low) (u := u) (v := v) (w := w) (hp d (by simp)) l hl with ⟨h1, e, h2, h3⟩ | ⟨told', tl', h1, h2, h3, h4⟩
    · refine .inl ⟨by simp [parse, h1], e, h3, ?_⟩
      rw [for_cons]
      simp?! [g_nm, canSet_eq, canS_ok hu, h2]
    · rcases lp_loop (paper := paper) (num := num) (low := low) (v := v) (w := w) ds told' tl' (.dat d) (fun x hx => hp x (by simp [hx])) h2 h3 rfl with ⟨a1, e, a2, a3⟩ | ⟨t2, tl2, u2, a1, a2, a3, a4, a5⟩
      · refine .inl ⟨by simp [parse, h1, a1], e, a2, ?_⟩
        rw [for_cons]
        simp?! [g_nm, canSet_eq, canS_ok hu, h4, a3]
      · refine .inr ⟨t2, tl2, u2, by simp [parse, h1, a1], a2, a3, a4, ?_⟩
        rw [for_cons]
        simp?! [g_nm, canSet_eq, canS_ok hu, h4, a5]
def lwB : SX tau := SX.ite (TX.and (TX.ofE (EX.notN (EX.idxO 4 (EX.var 6)) (EX.non))) (TX.not (TX.ofE (EX.call sem__law_keeps (AX.cons (EX.var 0) (AX.cons (EX.var 4) (AX.cons (EX.var 6) (AX.cons (EX.var 3) (AX.nil))))))))) (SX.ret (EX.idx (EX.idx (EX.var 0) (EX.var 6)) (EX.int 0))) (SX.nx)
theorem kind_at (s : Sta) : fIx s.raw (.int 0) = some (.str s.kind) := by cases s <;> rfl
theorem raw_at {sts : List Sta} {i : Nat} {s : Sta} (h : sts[i]? = some s) : fIx (rawS sts) (iD i) = some s.raw := by rw [fIx_nat rfl, List.getElem?_map, h]; rfl
theorem lw_loop {n : Nat} {sts : List Sta} {paper num : D} {low : Bool} {tl : List D} {told : Told} (h : LT n tl told) (hn : n ≤ 1000) (hl : tl.length = sts.length) (sm : ∀ s ∈ sts, s.sm ∧ s.inn sts.length) {u w : Sl} : ∀ (r : List Sta) (k : Nat) (s4 v : Sl), (∀ j s, r[j]? = some s → sts[k + j]? = some s) → (s4 = .own none (.lst tl) ∨ s4 = .dat (.lst tl)) → okS v = true →
    (∃ s e, fb low told k r = some s ∧ l8 e ∧ runFor (fun _ => true) (GX.name 6 : GX tau).ev lwB.ev ((List.range' k r.length).map iD) [.dat (rawS sts), .dat paper, .dat num, .dat (.bl low), s4, u, v, w] = .ok (.rt (.str s.kind)) e) ∨
    (∃ s4' v', fb low told k r = none ∧ (s4' = .own none (.lst tl) ∨ s4' = .dat (.lst tl)) ∧ okS v' = true ∧ runFor (fun _ => true) (GX.name 6 : GX tau).ev lwB.ev ((List.range' k r.length).map iD) [.dat (rawS sts), .dat paper, .dat num, .dat (.bl low), s4, u, v, w] = .ok .nx [.dat (rawS sts), .dat paper, .dat num, .dat (.bl low), s4', u, v', w])
  | [], k, s4, v, _, h4, hv => .inr ⟨s4, v, rfl, h4, hv, for_nil _ _ _⟩
  | s :: r, k, s4, v, hr, h4, hv => by
    have hs : sts[k]? = some s := hr 0 s rfl
    have hk : k < sts.length := (List.getElem?_eq_some_iff.mp hs).1
    have hm : s ∈ sts := List.mem_of_getElem? hs
    obtain ⟨d, d1, d2, d3, d4⟩ := h.isN (show k < tl.length by omega)
    have r3 : fIx (.lst tl) (iD k) = some d := by rw [fIx_nat rfl, d1]
    have e1 : (List.range' k (s :: r).length).map iD = iD k :: (List.range' (k + 1) r.length).map iD := by simp [List.range'_succ]
    have hr' : ∀ j s', r[j]? = some s' → sts[k + 1 + j]? = some s' := fun j s' hj => by
      have := hr (j + 1) s' (by simpa using hj)
      rwa [show k + 1 + j = k + (j + 1) by omega]
    rw [e1, for_cons]
    have pk : pkS (some s4) = some tl := by rcases h4 with rfl | rfl <;> rfl
    cases t : told k with
    | none =>
      have nb : bad low told k s = false := by simp [bad, t]
      rcases lw_loop (paper := paper) (num := num) (u := u) (w := w) (low := low) h hn hl sm r (k + 1) s4 (.dat (iD k)) hr' h4 rfl with ⟨s', e, a1, a2, a3⟩ | ⟨s4', v', a1, a2, a3, a4⟩
      · refine .inl ⟨s', e, by simp [fb, nb, a1], a2, ?_⟩
        rw [← a3]
        unfold lwB
        simp?! [g_nm, canSet_eq, canS_ok hv, pk, r3, d3, t, Option.isSome_none]
      · refine .inr ⟨s4', v', by simp [fb, nb, a1], a2, a3, ?_⟩
        rw [← a4]
        unfold lwB
        simp?! [g_nm, canSet_eq, canS_ok hv, pk, r3, d3, t, Option.isSome_none]
    | some own =>
      have kp := law_keeps_eq h hn (show k < tl.length by omega) t low hs (sm s hm).1 (by rw [hl]; exact (sm s hm).2)
      cases c : keeps low told own s with
      | false =>
        have nb : bad low told k s = true := by simp [bad, t, c]
        refine .inl ⟨s, [.dat (rawS sts), .dat paper, .dat num, .dat (.bl low), .dat (.lst tl), u, .dat (iD k), w], by simp [fb, nb], ⟨_, _, _, _, _, _, _, _, rfl⟩, ?_⟩
        unfold lwB
        rcases h4 with rfl | rfl
        · simp?! [g_nm, canSet_eq, canS_ok hv, r3, d3, t, Option.isSome_some, kp, c, raw_at hs, kind_at]
        · simp?! [g_nm, canSet_eq, canS_ok hv, D.seq?, r3, d3, t, Option.isSome_some, kp, c, raw_at hs, kind_at]
      | true =>
        have nb : bad low told k s = false := by simp [bad, t, c]
        rcases lw_loop (paper := paper) (num := num) (u := u) (w := w) (low := low) h hn hl sm r (k + 1) (.dat (.lst tl)) (.dat (iD k)) hr' (.inr rfl) rfl with ⟨s', e, a1, a2, a3⟩ | ⟨s4', v', a1, a2, a3, a4⟩
        · refine .inl ⟨s', e, by simp [fb, nb, a1], a2, ?_⟩
          rw [← a3]
          unfold lwB
          rcases h4 with rfl | rfl
          · simp?! [g_nm, canSet_eq, canS_ok hv, r3, d3, t, Option.isSome_some, kp, c]
          · simp?! [g_nm, canSet_eq, canS_ok hv, D.seq?, r3, d3, t, Option.isSome_some, kp, c]
        · refine .inr ⟨s4', v', by simp [fb, nb, a1], a2, a3, ?_⟩
          rw [← a4]
          unfold lwB
          rcases h4 with rfl | rfl
          · simp?! [g_nm, canSet_eq, canS_ok hv, r3, d3, t, Option.isSome_some, kp, c]
          · simp?! [g_nm, canSet_eq, canS_ok hv, D.seq?, r3, d3, t, Option.isSome_some, kp, c]
end K84

/-! P12 -/
namespace K84
open scoped Rat
open PySem T L2
theorem range_iD (m : Nat) : rangeD 0 m = (List.range' 0 m).map iD := by
  unfold rangeD
  rw [List.range_eq_range']
  refine List.map_congr_left fun i _ => ?_
  show D.int (0 + (i : Int)) = D.int (i : Int)
  rw [Int.zero_add]
theorem rng_len {m : Nat} (h : m ≤ 1000) : rng1 [.int (m : Int)] = some ((List.range' 0 m).map iD) := by
  have : smallI (m : Int) = true := by simp [smallI]; omega
  simp [rng1, this, range_iD]
theorem law_word_none {paper : D} {sts : List Sta} {num low : D} (hn : nin paper = true) (hp : paper.seq? = none) : sem__law_word [.d (rawS sts), .d paper, .d num, .d low] = .ok (.str "form") [] := by
  unfold sem__law_word b__law_word
  simp?! [isi2_eq hn, isL, hp, Option.isSome_none]
theorem law_word_eq {n k : Nat} {paper num : D} {sts : List Sta} {ds : List D} {y : Rat} (low : Bool) (hn : nin paper = true) (hp : paper.seq? = some ds) (ho : ∀ d ∈ ds, PrOk n d) (hN : IsR k num y) (n1 : n ≤ 1000) (k1 : k ≤ 1000) (hm : 0 < sts.length) (hm2 : sts.length ≤ 1000) (sm : ∀ s ∈ sts, s.sm ∧ s.inn sts.length) :
    sem__law_word [.d (rawS sts), .d paper, .d num, .d (.bl low)] = .ok (.str (word low sts y ds)) [] := by
  have lc1 : ∀ env0 : En, env0 = [.dat (rawS sts), .dat paper, .dat num, .dat (.bl low), .no, .no, .no, .no] →
      runLc (fun _ => true) (GX.name 7 : GX tau).ev (TX.yes : TX tau).ev (EX.non : EX tau).ev [7] (sts.map Sta.raw) env0 [] = .ok ([] ++ sts.filterMap fun s => some D.non) env0 := by
    rintro env0 rfl
    exact runLc_enc Sta.raw _ sts [] (fun s _ => ⟨[.dat (rawS sts), .dat paper, .dat num, .dat (.bl low), .no, .no, .no, .dat s.raw], by simp?! [g_nm, canSet_eq, canS_no], by simp?!, true, by simp?!, fun c => ⟨.non, by simp?!, rfl⟩, fun c => by cases c⟩) (by simp; omega)
  have e1 : (sts.filterMap fun s => some D.non) = List.replicate sts.length D.non := by
    rw [show (sts.filterMap fun s => some D.non) = sts.map (fun _ => D.non) from congrFun List.filterMap_eq_map' sts]
    exact List.map_const'
  have l1 := lc1 _ rfl
  rw [List.nil_append, e1] at l1
  have hs : (rawS sts).seq? = some (sts.map Sta.raw) := nrfl rfl
  unfold word
  rcases lp_loop (sts := sts) (paper := paper) (num := num) (low := .bl low) (v := .no) (w := .no) ds (fun _ => none) (List.replicate sts.length .non) .no ho LT.none (by simp) rfl with ⟨a1, e, ⟨x1, x2, x3, x4, x5, x6, x7, x8, rfl⟩, a3⟩ | ⟨told, tl, u, a1, a2, a3, a4, a5⟩
  · rw [a1]
    unfold wpB at a3
    unfold sem__law_word b__law_word
    simp?! [isi2_eq hn, isL, hp, Option.isSome_some, hs, chk_seq, okVs_cons, l1, canSet_eq, canS_no, a3]
  · rw [a1]
    dsimp only
    have hl0 : 0 < tl.length := by omega
    obtain ⟨d, d1, d2, d3, d4⟩ := a2.isN hl0
    have r3 : fIx (.lst tl) (.int 0) = some d := by rw [show (D.int 0) = iD 0 from rfl, fIx_nat rfl, d1]
    unfold wpB at a5
    unfold endw
    cases t : told 0 with
    | none =>
      unfold sem__law_word b__law_word
      simp?! [isi2_eq hn, isL, hp, Option.isSome_some, hs, chk_seq, okVs_cons, l1, canSet_eq, canS_no, a5, r3, d2, t, Option.isNone_none]
    | some v0 =>
      dsimp only
      rcases lw_loop (paper := paper) (num := num) (u := u) (w := .no) (low := low) a2 n1 a3 sm sts 0 (.own none (.lst tl)) .no (fun j s hj => by simpa using hj) (.inl rfl) rfl with ⟨s, e, b1, ⟨x1, x2, x3, x4, x5, x6, x7, x8, rfl⟩, b3⟩ | ⟨s4, v', b1, b2, b3, b4⟩
      · rw [b1]
        unfold lwB at b3
        unfold sem__law_word b__law_word
        simp?! [isi2_eq hn, isL, hp, Option.isSome_some, hs, chk_seq, okVs_cons, l1, canSet_eq, canS_no, a5, r3, d2, t, Option.isNone_some, fLen_raw, rng_len hm2, chk_range1, b3]
      · rw [b1]
        dsimp only
        have ll := law_less_eq low hN (d4 v0 t) (by omega)
        have pk : pkS (some s4) = some tl := by rcases b2 with rfl | rfl <;> rfl
        unfold lwB at b4
        unfold sem__law_word b__law_word
        cases c : leb low y v0 with
        | true => simp?! [isi2_eq hn, isL, hp, Option.isSome_some, hs, chk_seq, okVs_cons, l1, canSet_eq, canS_no, a5, r3, d2, t, Option.isNone_some, fLen_raw, rng_len hm2, chk_range1, b4, pk, ll, c]
        | false => simp?! [isi2_eq hn, isL, hp, Option.isSome_some, hs, chk_seq, okVs_cons, l1, canSet_eq, canS_no, a5, r3, d2, t, Option.isNone_some, fLen_raw, rng_len hm2, chk_range1, b4, pk, ll, c]
end K84

/-! P13 -/
namespace K84
open scoped Rat
open PySem T L2
def arenaD (sts : List Sta) : D := .ins 0 [("states", .tup (sts.map Sta.kept))]
theorem att_states : attOk tau 0 "states" = true := by decide +kernel
theorem fld_states (sts : List Sta) : fFld tau "states" (arenaD sts) = some (.tup (sts.map Sta.kept)) := by
  unfold fFld arenaD
  simp only [att_states, if_true]
  simp [lookF]
theorem many_eq (sts : List Sta) : sem_Arena_many [.d (arenaD sts)] = .ok (.int sts.length) [] := by
  unfold sem_Arena_many b_Arena_many
  simp?! [fld_states, fLen_seq (d := .tup _) rfl, List.length_map]
theorem prop_many (sts : List Sta) : fProp 0 sem_Arena_many (arenaD sts) = some (.int sts.length) := by
  have h := many_eq sts
  unfold arenaD at h ⊢
  simp only [fProp, if_true, h]
/-- a dict that stands for told, its keys told too -/
structure KD (n m : Nat) (kvs : List (Key × D)) (told : Told) : Prop where
  dt : DT n kvs told
  ks : ∃ ks : List Nat, kvs.map (·.1) = ks.map (fun (k : Nat) => (Sum.inl (k : Int) : Key)) ∧ ks.Nodup ∧ (∀ k, k ∈ ks ↔ (told k).isSome = true) ∧ ∀ k ∈ ks, k < m
theorem lookD_app (kvs : List (Key × D)) (k j : Key) (d : D) (h : lookD kvs k = none) : lookD (kvs ++ [(k, d)]) j = if j = k then some d else lookD kvs j := by
  unfold lookD at *
  rw [List.find?_append]
  by_cases e : j = k
  · subst e
    rw [if_pos rfl]
    have h' : kvs.find? (fun kv => decide (kv.1 = j)) = none := by simpa using h
    rw [h']
    simp
  · rw [if_neg e]
    have : ([(k, d)] : List (Key × D)).find? (fun kv => decide (kv.1 = j)) = none := by
      simp only [List.find?_cons, List.find?_nil]
      rw [decide_eq_false (fun z => e z.symm)]
    rw [this]
    simp
theorem putD_new (kvs : List (Key × D)) (k : Key) (d : D) (h : lookD kvs k = none) : putD kvs k d = kvs ++ [(k, d)] := by
  unfold putD
  rw [if_neg]
  unfold lookD at h
  have h' : kvs.find? (fun kv => decide (kv.1 = k)) = none := by simpa using h
  rw [List.find?_eq_none] at h'
  intro z
  obtain ⟨p, hp, hq⟩ := List.any_eq_true.mp z
  exact h' p hp hq
theorem KD.none {n m : Nat} : KD n m [] (fun _ => none) := ⟨⟨fun i => rfl, fun i x h => by cases h⟩, [], rfl, List.nodup_nil, by simp, by simp⟩
theorem KD.upd {n m : Nat} {kvs : List (Key × D)} {told : Told} (h : KD n m kvs told) {i : Nat} {x : Rat} (hi : i < m) (ht : told i = Option.none) (hx : sz n x) : KD n m (putD kvs (Sum.inl (i : Int)) (rat x)) (upd1 told i x) := by
  have hn : lookD kvs (Sum.inl (i : Int)) = Option.none := by rw [h.dt.get, ht]; rfl
  obtain ⟨ks, k1, k2, k3, k4⟩ := h.ks
  rw [putD_new _ _ _ hn]
  refine ⟨⟨fun j => ?_, fun j y hy => ?_⟩, ks ++ [i], by simp [k1], ?_, fun k => ?_, fun k hk => ?_⟩
  · rw [lookD_app _ _ _ _ hn]
    by_cases e : j = i
    · subst e; simp [upd1]
    · have : ¬ (Sum.inl (j : Int) : Key) = Sum.inl (i : Int) := fun z => e (by injection z with z; omega)
      rw [if_neg this, h.dt.get]
      simp [upd1, e]
  · by_cases e : j = i
    · subst e; simp [upd1] at hy; rw [← hy]; exact hx
    · simp [upd1, e] at hy; exact h.dt.sz j y hy
  · rw [List.nodup_append]
    refine ⟨k2, by simp, fun a ha b hb => ?_⟩
    simp at hb
    subst hb
    intro z; subst z
    have := (k3 a).mp ha
    rw [ht] at this; cases this
  · simp only [List.mem_append, List.mem_singleton, k3, upd1]
    by_cases e : k = i
    · simp [e]
    · simp [e]
  · rcases List.mem_append.mp hk with q | q
    · exact k4 k q
    · simp at q; omega
def pnB : SX tau := SX.seq (SX.ite (TX.or (TX.not (TX.ofE (EX.call sem_is_list (AX.cons (EX.var 3) (AX.nil))))) (TX.or (TX.ofE (EX.ne (EX.len (AX.cons (EX.var 3) (AX.nil))) (EX.int 2))) (TX.not (TX.ofE (EX.call sem_is_whole (AX.cons (EX.idx (EX.var 3) (EX.int 0)) (AX.nil))))))) (SX.ret EX.non) (SX.nx))
  (SX.seq (SX.asg 4 (EX.idx (EX.var 3) (EX.int 0)))
  (SX.seq (SX.ite (TX.or (TX.ofE (EX.lt (EX.var 4) (EX.int 0))) (TX.or (TX.ofE (EX.ge (EX.var 4) (EX.prop 0 sem_Arena_many (EX.var 0)))) (TX.or (TX.ofE (EX.dinO (EX.var 4) 2)) (TX.not (TX.ofE (EX.call sem_is_ratio (AX.cons (EX.idx (EX.var 3) (EX.int 1)) (AX.nil)))))))) (SX.ret EX.non) (SX.nx))
  (SX.dput 2 (EX.var 4) (EX.call sem_ratio_in (AX.cons (EX.idx (EX.var 3) (EX.int 1)) (AX.nil))))))
theorem keyD_iD (i : Nat) : keyD (iD i) = some (Sum.inl (i : Int)) := nrfl rfl
theorem pn_turn {n m : Nat} {sts : List Sta} {paper : D} {kvs : List (Key × D)} {told : Told} {d : D} (h : PrOk n d) (n1 : n ≤ 1000) (l : KD n sts.length kvs told) (hc : kvs.length ≤ 1000000) {v : Sl} (hv : okS v = true) :
    (entry sts.length told d = none ∧ ∃ y1 y2 y3 y4 y5, pnB.ev [.dat (arenaD sts), .dat paper, .own none (.dic kvs), .dat d, v] = .ok (.rt .non) [y1, y2, y3, y4, y5]) ∨
    ∃ told' kvs' v', entry sts.length told d = some told' ∧ KD n sts.length kvs' told' ∧ kvs'.length ≤ kvs.length + 1 ∧ okS v' = true ∧ pnB.ev [.dat (arenaD sts), .dat paper, .own none (.dic kvs), .dat d, v] = .ok .nx [.dat (arenaD sts), .dat paper, .own none (.dic kvs'), .dat d, v'] := by
  have hn := h.nin
  have cv := canS_ok hv
  cases e : d.seq? with
  | none =>
    exact .inl ⟨by unfold entry; rw [e]; rfl, .dat (arenaD sts), .dat paper, .own none (.dic kvs), .dat d, v, by unfold pnB; simp?! [is_list_eq hn, isL, e, Option.isSome_none]⟩
  | some ds =>
    by_cases h2 : ds.length = 2
    · obtain ⟨a, b, rfl⟩ := two_of h2
      have ha := nin_seq hn e a (by simp)
      have hb := nin_seq hn e b (by simp)
      cases a with
      | int i =>
        by_cases c1 : i < 0
        · refine .inl ⟨?_, .dat (arenaD sts), .dat paper, .own none (.dic kvs), .dat d, .dat (.int i), by unfold pnB; simp?! [is_list_eq hn, isL, e, Option.isSome_some, fLen_seq e, fNe_int, fIx_0 e, fIx_1 e, is_whole_eq ha, isI, canSet_eq, cv, fIB_int, c1, decide_true]⟩
          simp only [entry, e, Option.bind_some, entL]
          cases ratD b with
          | none => rfl
          | some pq => dsimp only; rw [if_neg (by omega)]
        · by_cases c2 : (sts.length : Int) ≤ i
          · refine .inl ⟨?_, .dat (arenaD sts), .dat paper, .own none (.dic kvs), .dat d, .dat (.int i), by unfold pnB; simp?! [is_list_eq hn, isL, e, Option.isSome_some, fLen_seq e, fNe_int, fIx_0 e, fIx_1 e, is_whole_eq ha, isI, canSet_eq, cv, fIB_int, c1, decide_false, e_prop, prop_many, c2, decide_true]⟩
            simp only [entry, e, Option.bind_some, entL]
            cases ratD b with
            | none => rfl
            | some pq => dsimp only; rw [if_neg (by omega)]
          · obtain ⟨j, rfl⟩ := Int.eq_ofNat_of_zero_le (show 0 ≤ i by omega)
            have hd : fDin false (.int (j : Int)) (.dic kvs) = some (.bl (told j).isSome) := fDin_at l.dt j
            cases t : told j with
            | some y =>
              refine .inl ⟨?_, .dat (arenaD sts), .dat paper, .own none (.dic kvs), .dat d, .dat (.int j), by unfold pnB; simp?! [is_list_eq hn, isL, e, Option.isSome_some, fLen_seq e, fNe_int, fIx_0 e, fIx_1 e, is_whole_eq ha, isI, canSet_eq, cv, fIB_int, c1, decide_false, e_prop, prop_many, c2, hd, t]⟩
              simp only [entry, e, Option.bind_some, entL]
              cases ratD b with
              | none => rfl
              | some pq => dsimp only; rw [if_neg (by simp [t])]
            | none =>
              cases r : ratD b with
              | none =>
                refine .inl ⟨by simp [entry, e, entL, r], .dat (arenaD sts), .dat paper, .own none (.dic kvs), .dat d, .dat (.int j), by unfold pnB; simp?! [is_list_eq hn, isL, e, Option.isSome_some, fLen_seq e, fNe_int, fIx_0 e, fIx_1 e, is_whole_eq ha, isI, canSet_eq, cv, fIB_int, c1, decide_false, e_prop, prop_many, c2, hd, t, Option.isSome_none, is_ratio_eq hb, r]⟩
              | some pq =>
                obtain ⟨p, q⟩ := pq
                obtain ⟨b1, b2⟩ := h.bd _ _ _ _ e r
                have ir : IsR n b (p /. q) := ⟨hb, p, q, r, b1, b2, rfl⟩
                have cp : capd kvs.length = true := by unfold capd; simp; omega
                have hnn : lookD kvs (Sum.inl (j : Int)) = none := by rw [l.dt.get, t]; rfl
                refine .inr ⟨upd1 told j (p /. q), putD kvs (Sum.inl (j : Int)) (rat (p /. q)), .dat (.int j), by simp [entry, e, entL, r, t]; omega, l.upd (by omega) t ir.sz, by rw [putD_new _ _ _ hnn]; simp, rfl, ?_⟩
                have kd : keyD (.int (j : Int)) = some (Sum.inl (j : Int)) := nrfl rfl
                unfold pnB
                simp?! [is_list_eq hn, isL, e, Option.isSome_some, fLen_seq e, fNe_int, fIx_0 e, fIx_1 e, is_whole_eq ha, isI, canSet_eq, cv, fIB_int, c1, decide_false, e_prop, prop_many, c2, hd, t, Option.isSome_none, is_ratio_eq hb, r, ir.in_ (by omega), kd, cp]
      | _ => exact .inl ⟨by simp [entry, e, entL], .dat (arenaD sts), .dat paper, .own none (.dic kvs), .dat d, v, by unfold pnB; simp?! [is_list_eq hn, isL, e, Option.isSome_some, fLen_seq e, fNe_int, fIx_0 e, fIx_1 e, is_whole_eq ha, isI]⟩
    · have hn2 : ((ds.length : Int) == 2) = false := by simp; omega
      refine .inl ⟨?_, .dat (arenaD sts), .dat paper, .own none (.dic kvs), .dat d, v, by unfold pnB; simp?! [is_list_eq hn, isL, e, Option.isSome_some, fLen_seq e, fNe_int, hn2]⟩
      unfold entry entL
      rw [e, Option.bind_some]
      split
      · simp at h2
      · rfl
end K84

/-! P14 -/
namespace K84
open scoped Rat
open PySem T L2
theorem pn_loop {n : Nat} {sts : List Sta} {paper : D} (n1 : n ≤ 1000) : ∀ (ds : List D) (told : Told) (kvs : List (Key × D)) (u v : Sl), (∀ d ∈ ds, PrOk n d) → KD n sts.length kvs told → kvs.length + ds.length ≤ 1000000 → okS u = true → okS v = true →
    (parse sts.length ds told = none ∧ ∃ y1 y2 y3 y4 y5, runFor (fun _ => true) (GX.name 3 : GX tau).ev pnB.ev ds [.dat (arenaD sts), .dat paper, .own none (.dic kvs), u, v] = .ok (.rt .non) [y1, y2, y3, y4, y5]) ∨
    ∃ told' kvs' u' v', parse sts.length ds told = some told' ∧ KD n sts.length kvs' told' ∧ runFor (fun _ => true) (GX.name 3 : GX tau).ev pnB.ev ds [.dat (arenaD sts), .dat paper, .own none (.dic kvs), u, v] = .ok .nx [.dat (arenaD sts), .dat paper, .own none (.dic kvs'), u', v']
  | [], told, kvs, u, v, _, l, _, hu, hv => .inr ⟨told, kvs, u, v, rfl, l, for_nil _ _ _⟩
  | d :: ds, told, kvs, u, v, hp, l, hc, hu, hv => by
    simp only [List.length_cons] at hc
    rcases pn_turn (m := sts.length) (paper := paper) (hp d (by simp)) n1 l (by omega) hv with ⟨h1, y1, y2, y3, y4, y5, h3⟩ | ⟨told', kvs', v', h1, h2, h3, h4, h5⟩
    · refine .inl ⟨by simp [parse, h1], y1, y2, y3, y4, y5, ?_⟩
      rw [for_cons]
      simp?! [g_nm, canSet_eq, canS_ok hu, h3]
    · rcases pn_loop (paper := paper) n1 ds told' kvs' (.dat d) v' (fun x hx => hp x (by simp [hx])) h2 (by omega) rfl h4 with ⟨a1, y1, y2, y3, y4, y5, a3⟩ | ⟨t2, k2, u2, v2, a1, a2, a5⟩
      · refine .inl ⟨by simp [parse, h1, a1], y1, y2, y3, y4, y5, ?_⟩
        rw [for_cons]
        simp?! [g_nm, canSet_eq, canS_ok hu, h5, a3]
      · refine .inr ⟨t2, k2, u2, v2, by simp [parse, h1, a1], a2, ?_⟩
        rw [for_cons]
        simp?! [g_nm, canSet_eq, canS_ok hu, h5, a5]
theorem paper_none {paper : D} {sts : List Sta} (hn : nin paper = true) (hp : paper.seq? = none) : sem_paper_numbers [.d (arenaD sts), .d paper] = .ok .non [] := by
  unfold sem_paper_numbers b_paper_numbers
  simp?! [is_list_eq hn, isL, hp, Option.isSome_none]
theorem paper_eq {n : Nat} {paper : D} {sts : List Sta} {ds : List D} (hn : nin paper = true) (hp : paper.seq? = some ds) (ho : ∀ d ∈ ds, PrOk n d) (n1 : n ≤ 1000) (hl : ds.length ≤ 1000000) :
    (parse sts.length ds (fun _ => none) = none ∧ sem_paper_numbers [.d (arenaD sts), .d paper] = .ok .non []) ∨
    ∃ told kvs, parse sts.length ds (fun _ => none) = some told ∧ KD n sts.length kvs told ∧ sem_paper_numbers [.d (arenaD sts), .d paper] = .ok (.dic kvs) [] := by
  rcases pn_loop (paper := paper) (sts := sts) n1 ds (fun _ => none) [] .no .no ho KD.none (by simpa using hl) rfl rfl with ⟨a1, y1, y2, y3, y4, y5, a3⟩ | ⟨t2, k2, u2, v2, a1, a2, a5⟩
  · refine .inl ⟨a1, ?_⟩
    unfold pnB at a3
    unfold sem_paper_numbers b_paper_numbers
    simp?! [is_list_eq hn, isL, hp, Option.isSome_some, chk_seq, canSet_eq, canS_no, a3]
  · refine .inr ⟨t2, k2, a1, a2, ?_⟩
    unfold pnB at a5
    unfold sem_paper_numbers b_paper_numbers
    simp?! [is_list_eq hn, isL, hp, Option.isSome_some, chk_seq, canSet_eq, canS_no, a5]
/-! ### first_fallen -/
theorem intKeys_map : ∀ ks : List Int, intKeys (ks.map Sum.inl) = some ks
  | [] => rfl
  | k :: ks => by simp [intKeys, intKeys_map ks]
def inT (told : Told) (m : Nat) : List Nat := (List.range' 0 m).filter fun i => (told i).isSome
theorem sort_eq {n m : Nat} {kvs : List (Key × D)} {told : Told} (h : KD n m kvs told) (hm : m ≤ 63) : sortDI [.dic kvs] = some ((inT told m).map iD) := by
  obtain ⟨ks, k1, k2, k3, k4⟩ := h.ks
  have e1 : kvs.map (·.1) = (ks.map (fun (k : Nat) => (k : Int))).map Sum.inl := by rw [k1, List.map_map]; rfl
  have pm : ks.Perm (inT told m) := by
    refine (List.perm_ext_iff_of_nodup k2 (List.Pairwise.filter _ (List.nodup_range' (step := 1)))).mpr fun a => ?_
    simp only [inT, List.mem_filter, List.mem_range'_1]
    constructor
    · intro ha
      exact ⟨⟨Nat.zero_le _, by have := k4 a ha; omega⟩, (k3 a).mp ha⟩
    · intro ⟨_, ha⟩
      exact (k3 a).mpr ha
  have hl : ks.length ≤ m := by
    rw [pm.length_eq]
    have := List.length_filter_le (fun i => (told i).isSome) (List.range' 0 m)
    simpa [inT] using this
  have es : sortI (ks.map fun (k : Nat) => (k : Int)) = (inT told m).map fun (k : Nat) => (k : Int) := by
    refine List.Perm.eq_of_pairwise (le := fun a b : Int => a ≤ b) (fun a b _ _ h1 h2 => Int.le_antisymm h1 h2) (sortI_sorted _) ?_ ((sortI_perm _).trans (pm.map _))
    rw [List.pairwise_map]
    refine List.Pairwise.filter _ ?_
    refine (List.pairwise_lt_range' (s := 0) (n := m)).imp fun h => by omega
  simp only [sortDI]
  rw [e1, intKeys_map]
  have : (ks.map fun (k : Nat) => (k : Int)).length < 64 := by simp; omega
  simp only [this, if_true, es, List.map_map]
  rfl
def ffB : SX tau := SX.ite (TX.not (TX.ofE (EX.call sem_stands_low (AX.cons (EX.idx (EX.fld "states" (EX.var 0)) (EX.var 2)) (AX.cons (EX.dget (EX.var 1) (EX.var 2)) (AX.cons (EX.var 1) (AX.nil))))))) (SX.ret (EX.var 2)) (SX.nx)
theorem kept_at {sts : List Sta} {i : Nat} {s : Sta} (h : sts[i]? = some s) : fIx (.tup (sts.map Sta.kept)) (iD i) = some s.kept := by rw [fIx_nat rfl, List.getElem?_map, h]; rfl
theorem ff_loop {n : Nat} {sts : List Sta} {kvs : List (Key × D)} {told : Told} (h : DT n kvs told) (hn : n ≤ 1000) (sm : ∀ s ∈ sts, s.sm) : ∀ (r : List Sta) (k : Nat) (v : Sl), (∀ j s, r[j]? = some s → sts[k + j]? = some s) → okS v = true →
    (∃ s i y1 y2 y3, fb true told k r = some s ∧ sts[i]? = some s ∧ runFor (fun _ => true) (GX.name 2 : GX tau).ev ffB.ev (((List.range' k r.length).filter fun i => (told i).isSome).map iD) [.dat (arenaD sts), .dat (.dic kvs), v] = .ok (.rt (iD i)) [y1, y2, y3]) ∨
    (∃ v', fb true told k r = none ∧ okS v' = true ∧ runFor (fun _ => true) (GX.name 2 : GX tau).ev ffB.ev (((List.range' k r.length).filter fun i => (told i).isSome).map iD) [.dat (arenaD sts), .dat (.dic kvs), v] = .ok .nx [.dat (arenaD sts), .dat (.dic kvs), v'])
  | [], k, v, _, hv => .inr ⟨v, rfl, hv, for_nil _ _ _⟩
  | s :: r, k, v, hr, hv => by
    have hs : sts[k]? = some s := hr 0 s rfl
    have hm : s ∈ sts := List.mem_of_getElem? hs
    have hr' : ∀ j s', r[j]? = some s' → sts[k + 1 + j]? = some s' := fun j s' hj => by
      have := hr (j + 1) s' (by simpa using hj)
      rwa [show k + 1 + j = k + (j + 1) by omega]
    have e0 : List.range' k (s :: r).length = k :: List.range' (k + 1) r.length := by simp [List.range'_succ]
    rw [e0, List.filter_cons]
    cases t : told k with
    | none =>
      have nb : bad true told k s = false := by simp [bad, t]
      simp only [Option.isSome_none, Bool.false_eq_true, if_false]
      rcases ff_loop h hn sm r (k + 1) v hr' hv with ⟨s', i, y1, y2, y3, a1, a2, a3⟩ | ⟨v', a1, a2, a3⟩
      · exact .inl ⟨s', i, y1, y2, y3, by simp [fb, nb, a1], a2, a3⟩
      · exact .inr ⟨v', by simp [fb, nb, a1], a2, a3⟩
    | some own =>
      simp only [Option.isSome_some, if_true, List.map_cons]
      rw [for_cons]
      have st := stands_eq h (h.sz _ _ t) hn (sm s hm)
      cases c : keeps true told own s with
      | false =>
        refine .inl ⟨s, k, .dat (arenaD sts), .dat (.dic kvs), .dat (iD k), by simp [fb, bad, t, c], hs, ?_⟩
        unfold ffB
        simp?! [g_nm, canSet_eq, canS_ok hv, fld_states, kept_at hs, fDget_at h t, st, c]
      | true =>
        have nb : bad true told k s = false := by simp [bad, t, c]
        rcases ff_loop h hn sm r (k + 1) (.dat (iD k)) hr' rfl with ⟨s', i, y1, y2, y3, a1, a2, a3⟩ | ⟨v', a1, a2, a3⟩
        · refine .inl ⟨s', i, y1, y2, y3, by simp [fb, nb, a1], a2, ?_⟩
          rw [← a3]
          unfold ffB
          simp?! [g_nm, canSet_eq, canS_ok hv, fld_states, kept_at hs, fDget_at h t, st, c]
        · refine .inr ⟨v', by simp [fb, nb, a1], a2, ?_⟩
          rw [← a3]
          unfold ffB
          simp?! [g_nm, canSet_eq, canS_ok hv, fld_states, kept_at hs, fDget_at h t, st, c]
theorem first_fallen_eq {n : Nat} {sts : List Sta} {kvs : List (Key × D)} {told : Told} (h : KD n sts.length kvs told) (hn : n ≤ 1000) (sm : ∀ s ∈ sts, s.sm) (hm : sts.length ≤ 63) :
    (∃ s i, fb true told 0 sts = some s ∧ sts[i]? = some s ∧ sem_first_fallen [.d (arenaD sts), .d (.dic kvs)] = .ok (iD i) []) ∨ (fb true told 0 sts = none ∧ sem_first_fallen [.d (arenaD sts), .d (.dic kvs)] = .ok .non []) := by
  have so := sort_eq h hm
  unfold inT at so
  rcases ff_loop h.dt hn sm sts 0 .no (fun j s hj => by simpa using hj) rfl with ⟨s', i, y1, y2, y3, a1, a2, a3⟩ | ⟨v', a1, a2, a3⟩
  · refine .inl ⟨s', i, a1, a2, ?_⟩
    unfold ffB at a3
    unfold sem_first_fallen b_first_fallen
    simp?! [so, chk_seq, D.seq?, a3]
  · refine .inr ⟨a1, ?_⟩
    unfold ffB at a3
    unfold sem_first_fallen b_first_fallen
    simp?! [so, chk_seq, D.seq?, a3]
end K84

/-! P15 -/
namespace K84
open scoped Rat
open PySem T L2
theorem fDin_not {n : Nat} {kvs : List (Key × D)} {told : Told} (h : DT n kvs told) (i : Nat) : fDin true (iD i) (.dic kvs) = some (.bl (!(told i).isSome)) := by
  simp only [fDin, iD, keyD, h.get]
  cases told i <;> rfl
theorem kkind_at (s : Sta) : fIx s.kept (.int 0) = some (.str s.kind) := by cases s <;> rfl
theorem judge_low_bad {arena paper num : D} (hn : nin num = true) (hr : ratD num = none) : sem_judge_low [.d arena, .d paper, .d num] = exR "ratio" := by
  have r := ratio_in_none hn hr
  unfold exR at r ⊢
  unfold sem_judge_low b_judge_low
  simp?! [r]
theorem judge_low_none {k : Nat} {sts : List Sta} {paper num : D} {y : Rat} (hN : IsR k num y) (k1 : k ≤ 1000) (hn : nin paper = true) (hp : paper.seq? = none) : sem_judge_low [.d (arenaD sts), .d paper, .d num] = .ok (.str "form") [] := by
  have e : fIsN .non .non = some (.bl true) := nrfl rfl
  unfold sem_judge_low b_judge_low
  simp?! [hN.in_ (by omega), canSet_eq, canS_no, paper_none hn hp, e]
theorem isN_dic (kvs : List (Key × D)) : fIsN (.dic kvs) .non = some (.bl false) := nrfl rfl
theorem notN_non : fNotN .non .non = some (.bl false) := nrfl rfl
theorem notN_iD (i : Nat) : fNotN (iD i) .non = some (.bl true) := nrfl rfl
theorem judge_low_eq {n k : Nat} {paper num : D} {sts : List Sta} {ds : List D} {y : Rat} (hn : nin paper = true) (hp : paper.seq? = some ds) (ho : ∀ d ∈ ds, PrOk n d) (hN : IsR k num y) (n1 : n ≤ 1000) (k1 : k ≤ 1000) (hl : ds.length ≤ 1000000) (hm2 : sts.length ≤ 63) (sm : ∀ s ∈ sts, s.sm) :
    sem_judge_low [.d (arenaD sts), .d paper, .d num] = .ok (.str (word true sts y ds)) [] := by
  have e : fIsN .non .non = some (.bl true) := nrfl rfl
  unfold word
  rcases paper_eq (sts := sts) hn hp ho n1 hl with ⟨a1, a2⟩ | ⟨told, kvs, a1, a2, a3⟩
  · rw [a1]
    unfold sem_judge_low b_judge_low
    simp?! [hN.in_ (by omega), canSet_eq, canS_no, a2, e]
  · rw [a1]
    dsimp only
    have d0 : fDin true (.int 0) (.dic kvs) = some (.bl (!(told 0).isSome)) := fDin_not a2.dt 0
    unfold endw
    cases t : told 0 with
    | none =>
      unfold sem_judge_low b_judge_low
      simp?! [hN.in_ (by omega), canSet_eq, canS_no, a3, isN_dic, d0, t, Option.isSome_none]
    | some v0 =>
      dsimp only
      rcases first_fallen_eq a2 n1 sm hm2 with ⟨s, i, b1, b2, b3⟩ | ⟨b1, b2⟩
      · rw [b1]
        unfold sem_judge_low b_judge_low
        simp?! [hN.in_ (by omega), canSet_eq, canS_no, a3, isN_dic, d0, t, Option.isSome_some, b3, notN_iD, fld_states, kept_at b2, kkind_at]
      · rw [b1]
        dsimp only
        have g0 : fDget (.dic kvs) (.int 0) = some (rat v0) := fDget_at a2.dt t
        have am := at_most_eq (IsR.rat hN.sz) (IsR.rat (a2.dt.sz _ _ t)) (by omega)
        unfold sem_judge_low b_judge_low
        simp only [leb, if_true]
        cases c : decide (y ≤ v0) with
        | true => simp?! [hN.in_ (by omega), canSet_eq, canS_no, a3, isN_dic, d0, t, Option.isSome_some, b2, notN_non, g0, am, c]
        | false => simp?! [hN.in_ (by omega), canSet_eq, canS_no, a3, isN_dic, d0, t, Option.isSome_some, b2, notN_non, g0, am, c]
/-! ### the arena turned round -/
def Sta.turn : Sta → Sta
  | .fin p q => .fin (0 - p) q
  | .ext m fs => .ext (!m) fs
  | .av ws => .av ws
def negT (told : Told) : Told := fun i => (told i).map fun x => -x
theorem neg_rat (p q : Int) : (0 - p) /. q = -(p /. q) := by rw [Int.zero_sub, Rat.neg_divInt]
theorem leb_neg (low : Bool) (a b : Rat) : leb low (-a) (-b) = leb (!low) a b := by
  unfold leb
  cases low with
  | true => simp only [if_true, Bool.not_true, Bool.false_eq_true, if_false]; exact decide_eq_decide.mpr Rat.neg_le_neg_iff
  | false => simp only [if_true, Bool.not_false, Bool.false_eq_true, if_false]; exact decide_eq_decide.mpr Rat.neg_le_neg_iff
theorem mtot_neg : ∀ (l : List (Int × Rat)) (t : Rat), mtot (-t) (l.map fun x => (x.1, -x.2)) = -(mtot t l)
  | [], t => rfl
  | x :: l, t => by
    simp only [List.map_cons, mtot]
    rw [← mtot_neg l (t + (x.1 : Rat) * x.2)]
    congr 1
    rw [Rat.mul_neg, Rat.neg_add]
theorem mw_neg : ∀ (l : List (Int × Rat)) (t : Int), mw t (l.map fun x => (x.1, -x.2)) = mw t l
  | [], t => rfl
  | x :: l, t => by simp only [List.map_cons, mw, mw_neg l]
theorem mean_neg (l : List (Int × Rat)) : mean (l.map fun x => (x.1, -x.2)) = -(mean l) := by
  unfold mean
  have e := mtot_neg l 0
  rw [show (-(0 : Rat)) = 0 from rfl] at e
  rw [e, mw_neg, Rat.neg_num, Rat.neg_den, Rat.neg_divInt]
theorem keeps_turn (told : Told) (own : Rat) : ∀ {s : Sta}, (∀ ws, s = .av ws → True) → keeps true (negT told) (-own) s.turn = keeps false told own s
  | .fin p q, _ => by
    simp only [Sta.turn, keeps, neg_rat, leb_neg, Bool.not_true]
  | .ext m fs, _ => by
    have e : ∀ f, (negT told f).any (leb true (-own)) = (told f).any (leb false own) := fun f => by
      unfold negT
      cases told f with
      | none => rfl
      | some y => simp only [Option.map_some, Option.any_some, leb_neg, Bool.not_true]
    simp only [Sta.turn, keeps, e]
    cases m <;> simp
  | .av ws, _ => by
    have e1 : (ws.all fun x => (negT told x.2).isSome) = ws.all fun x => (told x.2).isSome := by
      congr 1; funext x; unfold negT; rw [Option.isSome_map]
    simp only [Sta.turn, keeps, e1]
    by_cases h : (ws.all fun x => (told x.2).isSome) = true
    · rw [h, Bool.true_and, Bool.true_and]
      have e2 : vals (negT told) ws = (vals told ws).map fun x => (x.1, -x.2) := by
        unfold vals
        rw [List.map_map]
        refine List.map_congr_left fun x hx => ?_
        have := List.all_eq_true.mp h x hx
        unfold negT
        cases t : told x.2 with
        | none => rw [t] at this; cases this
        | some y => simp [t]
      rw [e2, mean_neg, leb_neg, Bool.not_true]
    · have hf : (ws.all fun x => (told x.2).isSome) = false := by simpa using h
      rw [hf, Bool.false_and, Bool.false_and]
theorem fb_turn (told : Told) : ∀ (r : List Sta) (k : Nat), fb true (negT told) k (r.map Sta.turn) = (fb false told k r).map Sta.turn
  | [], _ => rfl
  | s :: r, k => by
    have e : bad true (negT told) k s.turn = bad false told k s := by
      unfold bad
      cases t : told k with
      | none => simp [negT, t]
      | some own => simp only [negT, t, Option.map_some, Option.any_some, keeps_turn told own (s := s) (fun _ _ => trivial)]
    simp only [List.map_cons, fb, e]
    split
    · rfl
    · exact fb_turn told r (k + 1)
theorem kind_turn (s : Sta) : s.turn.kind = (match s with | .ext m _ => kw (!m) | s => s.kind) := by cases s <;> rfl
end K84

/-! P16 -/
namespace K84
open scoped Rat
open PySem T L2
/-! ### what is wrong with a state -/
def kindsD : D := .tup [.str "end", .str "max", .str "min", .str "mean"]
theorem look_kinds : lookG tau "STATE_KINDS" = some kindsD := by
  unfold lookG tau kindsD
  simp
inductive Kd (s : Str) : Prop where
  | e (h : s = "end") | x (m : Bool) (h : s = kw m) | a (h : s = "mean") | no (h : ("end" == s) = false ∧ ("max" == s) = false ∧ ("min" == s) = false ∧ ("mean" == s) = false)
theorem kd (s : Str) : Kd s := by
  by_cases h1 : s = "end"
  · exact .e h1
  by_cases h2 : s = "max"
  · exact .x true h2
  by_cases h3 : s = "min"
  · exact .x false h3
  by_cases h4 : s = "mean"
  · exact .a h4
  refine .no ⟨?_, ?_, ?_, ?_⟩ <;> (simp only [beq_eq_false_iff_ne, ne_eq]; intro z; simp_all)
def isPair (d : D) : Bool := match d.seq? with
  | some [_, _] => true
  | _ => false
theorem isPair_len {d : D} {ds : List D} (e : d.seq? = some ds) : isPair d = ((ds.length : Int) == 2) := by
  unfold isPair
  rw [e]
  match ds with
  | [] => rfl
  | [_] => rfl
  | [_, _] => rfl
  | _ :: _ :: _ :: r => simp; omega
def formS (s : Str) (b : D) : Bool := if s = "end" then true else if s = "max" ∨ s = "min" then isL b else if s = "mean" then match b.seq? with
    | some ps => ps.all isPair
    | none => false else false
def hasF (d : D) : Bool := match d.seq? with
  | some [.str s, b] => formS s b
  | _ => false
theorem notin_no {s : Str} (h : ("end" == s) = false ∧ ("max" == s) = false ∧ ("min" == s) = false ∧ ("mean" == s) = false) : fIn true (.str s) kindsD = some (.bl true) := by
  simp only [fIn, kindsD, D.seq?, D.flat, List.all_cons, List.all_nil, Bool.and_self, if_true, inF, List.any_cons, List.any_nil, D.eqF, h.1, h.2.1, h.2.2.1, h.2.2.2, Bool.or_self, Bool.not_false]
theorem notin_e : fIn true (.str "end") kindsD = some (.bl false) := by
  simp [fIn, kindsD, D.seq?, D.flat, inF, D.eqF]
theorem notin_x (m : Bool) : fIn true (.str (kw m)) kindsD = some (.bl false) := by
  cases m <;> simp [kw, fIn, kindsD, D.seq?, D.flat, inF, D.eqF]
theorem notin_a : fIn true (.str "mean") kindsD = some (.bl false) := by
  simp [fIn, kindsD, D.seq?, D.flat, inF, D.eqF]
theorem isi_str (s : Str) : fIsi "str" (.str s) = some (.bl true) := nrfl rfl
theorem isi_str_no {d : D} (h : nin d = true) (k : ∀ s, d ≠ .str s) : fIsi "str" d = some (.bl false) := by
  cases d <;> first | rfl | (cases h; done) | exact absurd rfl (k _)
theorem fNe_km (m : Bool) : fNe (.str (kw m)) (.str "mean") = some (.bl true) := by rw [fNe_str (ok_kw m) ok_str.2.2.2, s_xm]; rfl
theorem fNe_mm : fNe (.str "mean") (.str "mean") = some (.bl false) := by rw [fNe_str ok_str.2.2.2 ok_str.2.2.2, s_mm]; rfl
theorem kw_e (m : Bool) : kw m ≠ "end" := by cases m <;> decide +kernel
theorem kw_x (m : Bool) : kw m = "max" ∨ kw m = "min" := by cases m <;> simp [kw]
theorem mean_e : ("mean" : Str) ≠ "end" := by decide +kernel
theorem mean_x : ¬ (("mean" : Str) = "max" ∨ ("mean" : Str) = "min") := by decide +kernel
theorem has_form_eq {d : D} (hn : nin d = true) (hl : ∀ ds a b, d.seq? = some [a, b] → b.seq? = some ds → ds.length ≤ 1000000) : sem_has_state_form [.d d] = .ok (.bl (hasF d)) [] := by
  unfold hasF
  cases e : d.seq? with
  | none =>
    unfold sem_has_state_form b_has_state_form
    simp?! [is_list_eq hn, isL, e, Option.isSome_none]
  | some ds =>
    by_cases h2 : ds.length = 2
    · obtain ⟨a, b, rfl⟩ := two_of h2
      have ha := nin_seq hn e a (by simp)
      have hb := nin_seq hn e b (by simp)
      have sd : seqD 2 d = some [a, b] := by simp [seqD, e]
      by_cases hs : ∃ s, a = .str s
      · obtain ⟨s, rfl⟩ := hs
        dsimp only
        rcases kd s with h | ⟨m, h⟩ | h | h
        · subst h
          unfold sem_has_state_form b_has_state_form
          simp?! [is_list_eq hn, isL, e, Option.isSome_some, fLen_seq e, fNe_int, sd, g_nm, canSet_eq, canS_no, isi_str, look_kinds, notin_e, fEq_ee, formS]
        · subst h
          unfold formS
          rw [if_neg (kw_e m), if_pos (kw_x m)]
          unfold sem_has_state_form b_has_state_form
          simp?! [is_list_eq hn, isL, e, Option.isSome_some, fLen_seq e, fNe_int, sd, g_nm, canSet_eq, canS_no, isi_str, look_kinds, notin_x, fEq_ke, is_list_eq hb]
          cases c : b.seq? with
          | none => simp?! [Option.isSome_none]
          | some fs => simp?! [Option.isSome_some, fNe_km]
        · subst h
          unfold formS
          rw [if_neg mean_e, if_neg mean_x, if_pos rfl]
          unfold sem_has_state_form b_has_state_form
          simp?! [is_list_eq hn, isL, e, Option.isSome_some, fLen_seq e, fNe_int, sd, g_nm, canSet_eq, canS_no, isi_str, look_kinds, notin_a, fEq_me, is_list_eq hb]
          cases c : b.seq? with
          | none => simp?! [Option.isSome_none]
          | some ps =>
            have lc1 : ∀ env0 : En, env0 = [.dat d, .dat (.str "mean"), .dat b, .no] →
                runLc (fun _ => true) (GX.name 3 : GX tau).ev (TX.yes : TX tau).ev (EX.andV (EX.call sem_is_list (AX.cons (EX.var 3) (AX.nil))) (EX.eq (EX.len (AX.cons (EX.var 3) (AX.nil))) (EX.int 2)) : EX tau).ev [3] ps env0 [] = .ok ([] ++ ps.filterMap fun p => some (D.bl (isPair p))) env0 := by
              rintro env0 rfl
              refine runLc_map ps [] (fun p hp => ⟨[.dat d, .dat (.str "mean"), .dat b, .dat p], by simp?! [g_nm, canSet_eq, canS_no], by simp?!, true, by simp?!, fun c' => ⟨.bl (isPair p), ?_, rfl⟩, fun c' => by cases c'⟩) (by have := hl ps _ _ e c; simp; omega)
              have hp' := nin_seq hb c p hp
              cases q : p.seq? with
              | none => simp?! [is_list_eq hp', isL, q, Option.isSome_none, isPair]
              | some es => simp?! [is_list_eq hp', isL, q, Option.isSome_some, fLen_seq q, fEq_int, isPair_len q]
            have l1 := lc1 _ rfl
            have e2 : (ps.filterMap fun p => some (D.bl (isPair p))) = (ps.map isPair).map D.bl := by rw [List.map_map]; exact congrFun List.filterMap_eq_map' ps
            rw [List.nil_append, e2] at l1
            simp?! [Option.isSome_some, fNe_mm, c, chk_seq, okVs_cons, l1, fAll_bl, List.all_map, Function.comp_def, id_eq]
        · have hf : formS s b = false := by
            unfold formS
            have n1 : s ≠ "end" := fun z => by rw [z] at h; simp at h
            have n2 : ¬ (s = "max" ∨ s = "min") := fun z => by rcases z with z | z <;> (rw [z] at h; simp at h)
            have n3 : s ≠ "mean" := fun z => by rw [z] at h; simp at h
            rw [if_neg n1, if_neg n2, if_neg n3]
          rw [hf]
          unfold sem_has_state_form b_has_state_form
          simp?! [is_list_eq hn, isL, e, Option.isSome_some, fLen_seq e, fNe_int, sd, g_nm, canSet_eq, canS_no, isi_str, look_kinds, notin_no h]
      · have hs' : ∀ s, a ≠ .str s := fun s z => hs ⟨s, z⟩
        have e3 : (match (some [a, b] : Option (List D)) with | some [.str s, b] => formS s b | _ => false) = false := by
          cases a <;> first | rfl | exact absurd rfl (hs' _)
        rw [e3]
        unfold sem_has_state_form b_has_state_form
        simp?! [is_list_eq hn, isL, e, Option.isSome_some, fLen_seq e, fNe_int, sd, g_nm, canSet_eq, canS_no, isi_str_no ha hs']
    · have hn2 : ((ds.length : Int) == 2) = false := by simp; omega
      have e3 : (match (some ds : Option (List D)) with | some [.str s, b] => formS s b | _ => false) = false := by
        split
        · rename_i q; cases q; simp at h2
        · rfl
      rw [e3]
      unfold sem_has_state_form b_has_state_form
      simp?! [is_list_eq hn, isL, e, Option.isSome_some, fLen_seq e, fNe_int, hn2]
end K84

/-! P17 -/
namespace K84
open scoped Rat
open PySem T L2
/-- a loop that looks for one that is bad -/
theorem for_any {g : D → En → Option En} {b : En → R Fl} {P : D → Bool} {v : D} (Inv L : En → Prop) : ∀ (ds : List D) (e : En), Inv e → (∀ d ∈ ds, ∀ e, Inv e → ∃ e1, g d e = some e1 ∧ ((P d = true ∧ ∃ e2, L e2 ∧ b e1 = .ok (.rt v) e2) ∨ (P d = false ∧ ∃ e2, Inv e2 ∧ b e1 = .ok .nx e2))) →
    (ds.any P = true ∧ ∃ e2, L e2 ∧ runFor (fun _ => true) g b ds e = .ok (.rt v) e2) ∨ (ds.any P = false ∧ ∃ e2, Inv e2 ∧ runFor (fun _ => true) g b ds e = .ok .nx e2)
  | [], e, i, _ => .inr ⟨rfl, e, i, for_nil _ _ _⟩
  | d :: ds, e, i, h => by
    obtain ⟨e1, h1, h2⟩ := h d (by simp) e i
    rw [for_cons, h1, fForG_some]
    rcases h2 with ⟨p, e2, l, q⟩ | ⟨p, e2, l, q⟩
    · exact .inl ⟨by simp [p], e2, l, by rw [q, fForK_rt]⟩
    · rw [q, fForK_nx]
      rcases for_any Inv L ds e2 l (fun x hx => h x (by simp [hx])) with ⟨a1, a2⟩ | ⟨a1, a2⟩
      · exact .inl ⟨by simp [p, a1], a2⟩
      · exact .inr ⟨by simp [p, a1], a2⟩
def badF (i m : Int) : D → Bool
  | .int n => decide (n ≤ i) || decide (m ≤ n)
  | _ => true
def fst2 (d : D) : D := match d.seq? with
  | some [a, _] => a
  | _ => .non
def snd2 (d : D) : D := match d.seq? with
  | some [_, b] => b
  | _ => .non
def badW (d : D) : Bool := match fst2 d with
  | .int n => decide (n < 1)
  | _ => true
def isM (s : Str) : Bool := s == "mean"
def faultS (i m : Int) (s : Str) (b : D) : Option Str := if s = "end" then (if (ratD b).isSome then none else some "ratio") else match b.seq? with
  | none => none
  | some fs => if fs.length = 0 then some "empty" else if (if isM s then fs.map snd2 else fs).any (badF i m) then some "follower" else if isM s && fs.any badW then some "weight" else none
def fault (i m : Int) (d : D) : Option Str := if hasF d then match d.seq? with
    | some [.str s, b] => faultS i m s b
    | _ => none
  else some "form"
def oD : Option Str → D
  | some s => .str s
  | none => .non
theorem isPair_two {d : D} (h : isPair d = true) : d.seq? = some [fst2 d, snd2 d] := by
  unfold isPair at h
  split at h
  · rename_i a b e
    unfold fst2 snd2
    rw [e]
  · cases h
theorem hasF_shape {d : D} (h : hasF d = true) : ∃ s b, d.seq? = some [.str s, b] ∧ (s = "end" ∨ (∃ m fs, s = kw m ∧ b.seq? = some fs) ∨ (s = "mean" ∧ ∃ ps, b.seq? = some ps ∧ ∀ p ∈ ps, isPair p = true)) := by
  unfold hasF at h
  split at h
  · rename_i s b e
    refine ⟨s, b, e, ?_⟩
    unfold formS at h
    split at h
    · exact .inl (by assumption)
    · split at h
      · rename_i k
        cases c : b.seq? with
        | none => simp [isL, c] at h
        | some fs =>
          rcases k with k | k
          · exact .inr (.inl ⟨true, fs, k, rfl⟩)
          · exact .inr (.inl ⟨false, fs, k, rfl⟩)
      · split at h
        · rename_i k
          cases c : b.seq? with
          | none => simp [c] at h
          | some ps => exact .inr (.inr ⟨k, ps, rfl, by simpa [c] using h⟩)
        · cases h
  · cases h
def sfB : SX tau := SX.ite (TX.or (TX.not (TX.ofE (EX.call sem_is_whole (AX.cons (EX.var 3) (AX.nil))))) (TX.or (TX.ofE (EX.le (EX.var 3) (EX.var 1))) (TX.ofE (EX.ge (EX.var 3) (EX.var 2))))) (SX.ret (EX.str "follower")) (SX.nx)
def swB : SX tau := SX.ite (TX.or (TX.not (TX.ofE (EX.call sem_is_whole (AX.cons (EX.idx (EX.var 6) (EX.int 0)) (AX.nil))))) (TX.ofE (EX.lt (EX.idx (EX.var 6) (EX.int 0)) (EX.int 1)))) (SX.ret (EX.str "weight")) (SX.nx)
def env7 (d : D) (i m : Int) (k b : D) (e : En) : Prop := ∃ x y, okS x = true ∧ okS y = true ∧ e = [.dat d, .dat (.int i), .dat (.int m), x, .dat k, .dat b, y]
theorem sf_loop {d k b : D} {i m : Int} (ds : List D) (hd : ∀ x ∈ ds, nin x = true) (e : En) (he : env7 d i m k b e) :
    (ds.any (badF i m) = true ∧ ∃ e2, env7 d i m k b e2 ∧ runFor (fun _ => true) (GX.name 3 : GX tau).ev sfB.ev ds e = .ok (.rt (.str "follower")) e2) ∨ (ds.any (badF i m) = false ∧ ∃ e2, env7 d i m k b e2 ∧ runFor (fun _ => true) (GX.name 3 : GX tau).ev sfB.ev ds e = .ok .nx e2) := by
  refine for_any (env7 d i m k b) (env7 d i m k b) ds e he fun f hf e he => ?_
  obtain ⟨x, y, hx, hy, rfl⟩ := he
  refine ⟨[.dat d, .dat (.int i), .dat (.int m), .dat f, .dat k, .dat b, y], by simp?! [g_nm, canSet_eq, canS_ok hx], ?_⟩
  have hE : env7 d i m k b [.dat d, .dat (.int i), .dat (.int m), .dat f, .dat k, .dat b, y] := ⟨_, _, rfl, hy, rfl⟩
  cases f with
  | int n =>
    by_cases c1 : n ≤ i
    · exact .inl ⟨by simp [badF, c1], _, hE, by unfold sfB; simp?! [is_whole_eq (hd _ hf), isI, fIB_int, c1, decide_true]⟩
    · by_cases c2 : m ≤ n
      · exact .inl ⟨by simp [badF, c2], _, hE, by unfold sfB; simp?! [is_whole_eq (hd _ hf), isI, fIB_int, c1, c2, decide_true, decide_false]⟩
      · exact .inr ⟨by simp [badF, c1, c2], _, hE, by unfold sfB; simp?! [is_whole_eq (hd _ hf), isI, fIB_int, c1, c2, decide_false]⟩
  | _ => exact .inl ⟨rfl, _, hE, by unfold sfB; simp?! [is_whole_eq (hd _ hf), isI]⟩
theorem sw_loop {d k b : D} {i m : Int} (ds : List D) (hd : ∀ x ∈ ds, nin x = true ∧ isPair x = true) (e : En) (he : env7 d i m k b e) :
    (ds.any badW = true ∧ ∃ e2, env7 d i m k b e2 ∧ runFor (fun _ => true) (GX.name 6 : GX tau).ev swB.ev ds e = .ok (.rt (.str "weight")) e2) ∨ (ds.any badW = false ∧ ∃ e2, env7 d i m k b e2 ∧ runFor (fun _ => true) (GX.name 6 : GX tau).ev swB.ev ds e = .ok .nx e2) := by
  refine for_any (env7 d i m k b) (env7 d i m k b) ds e he fun f hf e he => ?_
  obtain ⟨x, y, hx, hy, rfl⟩ := he
  refine ⟨[.dat d, .dat (.int i), .dat (.int m), x, .dat k, .dat b, .dat f], by simp?! [g_nm, canSet_eq, canS_ok hy], ?_⟩
  have hE : env7 d i m k b [.dat d, .dat (.int i), .dat (.int m), x, .dat k, .dat b, .dat f] := ⟨_, _, hx, rfl, rfl⟩
  obtain ⟨n1, n2⟩ := hd f hf
  have q := isPair_two n2
  have na := nin_seq n1 q (fst2 f) (by simp)
  have i0 := fIx_0 q
  unfold badW
  cases c : fst2 f with
  | int n =>
    rw [c] at i0 na
    by_cases c1 : n < 1
    · exact .inl ⟨by simp [c1], _, hE, by unfold swB; simp?! [i0, is_whole_eq na, isI, fIB_int, c1, decide_true]⟩
    · exact .inr ⟨by simp [c1], _, hE, by unfold swB; simp?! [i0, is_whole_eq na, isI, fIB_int, c1, decide_false]⟩
  | _ => rw [c] at i0 na; exact .inl ⟨rfl, _, hE, by unfold swB; simp?! [i0, is_whole_eq na, isI]⟩
end K84

/-! P18 -/
namespace K84
open scoped Rat
open PySem T L2
theorem seq_lst (l : List D) : (D.lst l).seq? = some l := nrfl rfl
theorem seq_tup (l : List D) : (D.tup l).seq? = some l := nrfl rfl
theorem kw_m (m : Bool) : isM (kw m) = false := s_xm m
theorem mean_m : isM "mean" = true := s_mm
theorem env7_any {d : D} {i m : Int} {k b : D} {e : En} (h : env7 d i m k b e) : outs 0 [A.d d, A.d (.int i), A.d (.int m)] e = some [] := by
  obtain ⟨x, y, _, _, rfl⟩ := h
  rfl
theorem state_fault_eq {d : D} {i m : Int} (hn : nin d = true) (hl : ∀ ds a b, d.seq? = some [a, b] → b.seq? = some ds → ds.length ≤ 1000000) : sem_state_fault [.d d, .d (.int i), .d (.int m)] = .ok (oD (fault i m d)) [] := by
  have hf := has_form_eq hn hl
  unfold fault
  cases c : hasF d with
  | false =>
    rw [c] at hf
    unfold sem_state_fault b_state_fault
    simp?! [hf]
    rfl
  | true =>
    rw [c] at hf
    simp only [if_true]
    obtain ⟨s, b, e, h⟩ := hasF_shape c
    rw [e]
    dsimp only
    have hb := nin_seq hn e b (by simp)
    have sd : seqD 2 d = some [.str s, b] := by simp [seqD, e]
    rcases h with h | ⟨k, fs, h, hfs⟩ | ⟨h, ps, hps, hpp⟩
    · subst h
      unfold faultS
      rw [if_pos rfl]
      unfold sem_state_fault b_state_fault
      simp?! [hf, sd, g_nm, canSet_eq, canS_no, fEq_ee, is_ratio_eq hb]
      cases (ratD b).isSome <;> simp?! [] <;> rfl
    · subst h
      unfold faultS
      rw [if_neg (kw_e k), hfs]
      dsimp only
      by_cases z : fs.length = 0
      · rw [if_pos z]
        have e0 : fEq (.int (fs.length : Int)) (.int 0) = some (.bl true) := by rw [z]; rfl
        unfold sem_state_fault b_state_fault
        simp?! [hf, sd, g_nm, canSet_eq, canS_no, fEq_ke, fLen_seq hfs, e0]
        rfl
      · rw [if_neg z]
        have e0 := fEq_len z
        have s1 : seq1 [b] = some fs := hfs
        rw [kw_m]
        simp only [Bool.false_eq_true, if_false, Bool.false_and]
        have lp := sf_loop (d := d) (i := i) (m := m) (k := .str (kw k)) (b := b) fs (nin_seq hb hfs) [.dat d, .dat (.int i), .dat (.int m), .no, .dat (.str (kw k)), .dat b, .no] ⟨_, _, rfl, rfl, rfl⟩
        rcases lp with ⟨a1, e2, a2, a3⟩ | ⟨a1, e2, ⟨x, y, hx, hy, rfl⟩, a3⟩
        · rw [a1]
          have o := env7_any a2
          unfold sfB at a3
          unfold sem_state_fault b_state_fault
          simp?! [hf, sd, g_nm, canSet_eq, canS_no, fEq_ke, fLen_seq hfs, e0, fEq_km, s1, seq_lst, chk_seq, a3, o]
          rfl
        · rw [a1]
          unfold sfB at a3
          unfold sem_state_fault b_state_fault
          simp?! [hf, sd, g_nm, canSet_eq, canS_no, fEq_ke, fLen_seq hfs, e0, fEq_km, s1, seq_lst, chk_seq, a3]
          rfl
    · subst h
      unfold faultS
      rw [if_neg mean_e, hps]
      dsimp only
      by_cases z : ps.length = 0
      · rw [if_pos z]
        have e0 : fEq (.int (ps.length : Int)) (.int 0) = some (.bl true) := by rw [z]; rfl
        unfold sem_state_fault b_state_fault
        simp?! [hf, sd, g_nm, canSet_eq, canS_no, fEq_me, fLen_seq hps, e0]
        rfl
      · rw [if_neg z, mean_m]
        have e0 := fEq_len z
        simp only [if_true, Bool.true_and]
        have lc1 : ∀ env0 : En, env0 = [.dat d, .dat (.int i), .dat (.int m), .no, .dat (.str "mean"), .dat b, .no] →
            runLc (fun _ => true) (GX.name 6 : GX tau).ev (TX.yes : TX tau).ev (EX.idx (EX.var 6) (EX.int 1) : EX tau).ev [6] ps env0 [] = .ok ([] ++ ps.filterMap fun p => some (snd2 p)) env0 := by
          rintro env0 rfl
          exact runLc_map ps [] (fun p hp => ⟨[.dat d, .dat (.int i), .dat (.int m), .no, .dat (.str "mean"), .dat b, .dat p], by simp?! [g_nm, canSet_eq, canS_no], by simp?!, true, by simp?!, fun c' => ⟨snd2 p, by simp?! [fIx_1 (isPair_two (hpp p hp))], rfl⟩, fun c' => by cases c'⟩) (by have := hl ps _ _ e hps; simp; omega)
        have l1 := lc1 _ rfl
        rw [List.nil_append, show (ps.filterMap fun p => some (snd2 p)) = ps.map snd2 from congrFun List.filterMap_eq_map' ps] at l1
        have nn : ∀ x ∈ ps.map snd2, nin x = true := fun x hx => by
          obtain ⟨p, hp, rfl⟩ := List.mem_map.mp hx
          exact nin_seq (nin_seq hb hps p hp) (isPair_two (hpp p hp)) _ (by simp)
        have lp := sf_loop (d := d) (i := i) (m := m) (k := .str "mean") (b := b) (ps.map snd2) nn [.dat d, .dat (.int i), .dat (.int m), .no, .dat (.str "mean"), .dat b, .no] ⟨_, _, rfl, rfl, rfl⟩
        rcases lp with ⟨a1, e2, a2, a3⟩ | ⟨a1, e2, a2, a3⟩
        · rw [a1]
          have o := env7_any a2
          unfold sfB at a3
          unfold sem_state_fault b_state_fault
          simp?! [hf, sd, g_nm, canSet_eq, canS_no, fEq_me, fLen_seq hps, e0, fEq_mm, hps, okVs_cons, l1, seq_lst, chk_seq, a3, o]
          rfl
        · rw [a1]
          have lw := sw_loop (d := d) (i := i) (m := m) (k := .str "mean") (b := b) ps (fun p hp => ⟨nin_seq hb hps p hp, hpp p hp⟩) e2 a2
          obtain ⟨x, y, hx, hy, rfl⟩ := a2
          rcases lw with ⟨b1, e3, b2, b3⟩ | ⟨b1, e3, b2, b3⟩
          · rw [b1]
            have o := env7_any b2
            unfold sfB at a3
            unfold swB at b3
            unfold sem_state_fault b_state_fault
            simp?! [hf, sd, g_nm, canSet_eq, canS_no, fEq_me, fLen_seq hps, e0, fEq_mm, hps, okVs_cons, l1, seq_lst, chk_seq, a3, b3, o]
            rfl
          · rw [b1]
            have o := env7_any b2
            unfold sfB at a3
            unfold swB at b3
            unfold sem_state_fault b_state_fault
            simp?! [hf, sd, g_nm, canSet_eq, canS_no, fEq_me, fLen_seq hps, e0, fEq_mm, hps, okVs_cons, l1, seq_lst, chk_seq, a3, b3, o]
            rfl
end K84

/-! P19 -/
namespace K84
open scoped Rat
open PySem T L2
theorem notin_L (a : D) : fIn true a (.lst [.str "end", .str "max", .str "min", .str "mean"]) = fIn true a kindsD := nrfl rfl
theorem notin_flat {a : D} (h : a.flat = true) (k : ∀ s, a ≠ .str s) : fIn true a kindsD = some (.bl true) := by
  cases a <;> first | rfl | (cases h; done) | exact absurd rfl (k _)
theorem cap4 : capd 4 = true := by decide
def sgB : SX tau := SX.ite (TX.or (TX.not (TX.ofE (EX.call sem__law_whole (AX.cons (EX.var 4) (AX.nil))))) (TX.or (TX.ofE (EX.le (EX.var 4) (EX.var 1))) (TX.ofE (EX.ge (EX.var 4) (EX.var 2))))) (SX.ret (EX.str "follower")) (SX.nx)
def env7' (d : D) (i m : Int) (sp : D) (e : En) : Prop := ∃ x, okS x = true ∧ e = [.dat d, .dat (.int i), .dat (.int m), .dat sp, x, .no, .no]
theorem env7_any' {d : D} {i m : Int} {sp : D} {e : En} (h : env7' d i m sp e) : outs 0 [A.d d, A.d (.int i), A.d (.int m)] e = some [] := by
  obtain ⟨x, _, rfl⟩ := h
  rfl
theorem sg_loop {d sp : D} {i m : Int} (ds : List D) (hd : ∀ x ∈ ds, nin x = true) (e : En) (he : env7' d i m sp e) :
    (ds.any (badF i m) = true ∧ ∃ e2, env7' d i m sp e2 ∧ runFor (fun _ => true) (GX.name 4 : GX tau).ev sgB.ev ds e = .ok (.rt (.str "follower")) e2) ∨ (ds.any (badF i m) = false ∧ ∃ e2, env7' d i m sp e2 ∧ runFor (fun _ => true) (GX.name 4 : GX tau).ev sgB.ev ds e = .ok .nx e2) := by
  refine for_any (env7' d i m sp) (env7' d i m sp) ds e he fun f hf e he => ?_
  obtain ⟨x, hx, rfl⟩ := he
  refine ⟨[.dat d, .dat (.int i), .dat (.int m), .dat sp, .dat f, .no, .no], by simp?! [g_nm, canSet_eq, canS_ok hx], ?_⟩
  have hE : env7' d i m sp [.dat d, .dat (.int i), .dat (.int m), .dat sp, .dat f, .no, .no] := ⟨_, rfl, rfl⟩
  cases f with
  | int n =>
    by_cases c1 : n ≤ i
    · exact .inl ⟨by simp [badF, c1], _, hE, by unfold sgB; simp?! [law_whole_eq (hd _ hf), isI, fIB_int, c1, decide_true]⟩
    · by_cases c2 : m ≤ n
      · exact .inl ⟨by simp [badF, c2], _, hE, by unfold sgB; simp?! [law_whole_eq (hd _ hf), isI, fIB_int, c1, c2, decide_true, decide_false]⟩
      · exact .inr ⟨by simp [badF, c1, c2], _, hE, by unfold sgB; simp?! [law_whole_eq (hd _ hf), isI, fIB_int, c1, c2, decide_false]⟩
  | _ => exact .inl ⟨rfl, _, hE, by unfold sgB; simp?! [law_whole_eq (hd _ hf), isI]⟩
/-- how many: > 0 or not -/
theorem len_any (P : D → Bool) (l : List D) : decide (((l.filterMap fun p => if P p then some p else none).length : Int) > 0) = l.any P := by
  have e : (l.filterMap fun p => if P p then some p else none) = l.filter P := by
    rw [← List.filterMap_eq_filter]
    refine congrArg (fun F => List.filterMap F l) (funext fun p => ?_)
    by_cases c : P p <;> simp [Option.guard, c]
  rw [e]
  cases h : l.any P with
  | true =>
    obtain ⟨x, x1, x2⟩ := List.any_eq_true.mp h
    have hm : x ∈ l.filter P := List.mem_filter.mpr ⟨x1, x2⟩
    have := List.length_pos_of_mem hm
    simp only [decide_eq_true_eq]; omega
  | false =>
    have : l.filter P = [] := List.filter_eq_nil_iff.mpr fun x hx c => by
      have := List.any_eq_false.mp h x hx; exact this c
    rw [this]; rfl
theorem any_notPair (l : List D) : (l.any fun p => !(isPair p)) = !(l.all isPair) := by
  rw [List.any_eq_not_all_not]; simp
theorem okS_okV {x : Sl} (h : okS x = true) : okVS (some x) = true := by cases x <;> first | rfl | cases h
theorem fault_str {i m : Int} {d b : D} {s : Str} (e : d.seq? = some [.str s, b]) : fault i m d = if formS s b = true then faultS i m s b else some "form" := by
  simp only [fault, hasF, e]
theorem fault_no {i m : Int} {d : D} (h : ∀ s b, d.seq? ≠ some [.str s, b]) : fault i m d = some "form" := by
  have : hasF d = false := by
    unfold hasF
    split
    · rename_i s b e; exact absurd e (h s b)
    · rfl
  unfold fault
  rw [this]; rfl
theorem formS_e (b : D) : formS "end" b = true := by unfold formS; rw [if_pos rfl]
theorem formS_x (k : Bool) (b : D) : formS (kw k) b = isL b := by unfold formS; rw [if_neg (kw_e k), if_pos (kw_x k)]
theorem formS_m {b : D} : formS "mean" b = (match b.seq? with | some ps => ps.all isPair | none => false) := by unfold formS; (rw [if_neg mean_e, if_neg mean_x, if_pos rfl]) <;> (cases b.seq? <;> rfl)
theorem faultS_e (i m : Int) (b : D) : faultS i m "end" b = (if (ratD b).isSome = true then none else some ("ratio" : Str)) := by unfold faultS; rw [if_pos rfl]
theorem faultS_x (i m : Int) (k : Bool) {b : D} {fs : List D} (c : b.seq? = some fs) : faultS i m (kw k) b = (if fs.length = 0 then some ("empty" : Str) else if fs.any (badF i m) = true then some ("follower" : Str) else none) := by
  unfold faultS; rw [if_neg (kw_e k), c]; simp [kw_m]
theorem faultS_m (i m : Int) {b : D} {fs : List D} (c : b.seq? = some fs) : faultS i m "mean" b = (if fs.length = 0 then some ("empty" : Str) else if (fs.map snd2).any (badF i m) = true then some ("follower" : Str) else if fs.any badW = true then some ("weight" : Str) else none) := by
  unfold faultS; rw [if_neg mean_e, c]; simp [mean_m]
theorem law_state_word_eq {d : D} {i m : Int} (hn : nin d = true) (hl : ∀ ds a b, d.seq? = some [a, b] → b.seq? = some ds → ds.length ≤ 1000000) (hfl : ∀ a b, d.seq? = some [a, b] → a.flat = true) : sem__law_state_word [.d d, .d (.int i), .d (.int m)] = .ok (oD (fault i m d)) [] := by
  cases e : d.seq? with
  | none =>
    rw [fault_no (by rw [e]; intro s b z; cases z)]
    unfold sem__law_state_word b__law_state_word
    simp?! [isi2_eq hn, isL, e, Option.isSome_none]
    rfl
  | some ds =>
    by_cases h2 : ds.length = 2
    · obtain ⟨a, b, rfl⟩ := two_of h2
      have ha := nin_seq hn e a (by simp)
      have hb := nin_seq hn e b (by simp)
      have af := hfl a b e
      by_cases hs : ∃ s, a = .str s
      · obtain ⟨s, rfl⟩ := hs
        rw [fault_str e]
        rcases kd s with h | ⟨k, h⟩ | h | h
        · subst h
          rw [formS_e, if_pos rfl, faultS_e]
          unfold sem__law_state_word b__law_state_word
          simp?! [isi2_eq hn, isL, e, Option.isSome_some, fLen_seq e, fNe_int, fIx_0 e, fIx_1 e, cap4, notin_L, notin_e, fEq_ee, law_is_ratio_eq hb]
          cases (ratD b).isSome <;> simp?! [] <;> rfl
        · subst h
          rw [formS_x]
          cases c : b.seq? with
          | none =>
            rw [show isL b = false by simp [isL, c], if_neg Bool.false_ne_true]
            unfold sem__law_state_word b__law_state_word
            simp?! [isi2_eq hn, isL, e, Option.isSome_some, fLen_seq e, fNe_int, fIx_0 e, fIx_1 e, cap4, notin_L, notin_x, fEq_ke, isi2_eq hb, c, Option.isSome_none]
            rfl
          | some fs =>
            rw [show isL b = true by simp [isL, c], if_pos rfl, faultS_x i m k c]
            have s1 : seq1 [b] = some fs := c
            have lfs : fLen [D.lst fs] = some (.int fs.length) := fLen_seq (seq_lst fs)
            by_cases z : fs.length = 0
            · rw [if_pos z]
              have e0 : fEq (.int (fs.length : Int)) (.int 0) = some (.bl true) := by rw [z]; rfl
              unfold sem__law_state_word b__law_state_word
              simp?! [isi2_eq hn, isL, e, Option.isSome_some, fLen_seq e, fNe_int, fIx_0 e, fIx_1 e, cap4, notin_L, notin_x, fEq_ke, isi2_eq hb, c, fEq_km, s1, canSet_eq, canS_no, lfs, e0]
              rfl
            · rw [if_neg z]
              have e0 := fEq_len z
              rcases sg_loop (d := d) (i := i) (m := m) (sp := .lst fs) fs (nin_seq hb c) [.dat d, .dat (.int i), .dat (.int m), .dat (.lst fs), .no, .no, .no] ⟨_, rfl, rfl⟩ with ⟨a1, e2, a2, a3⟩ | ⟨a1, e2, ⟨x, hx, rfl⟩, a3⟩
              · rw [a1]
                have o := env7_any' a2
                unfold sgB at a3
                unfold sem__law_state_word b__law_state_word
                simp?! [isi2_eq hn, isL, e, Option.isSome_some, fLen_seq e, fNe_int, fIx_0 e, fIx_1 e, cap4, notin_L, notin_x, fEq_ke, isi2_eq hb, c, fEq_km, s1, canSet_eq, canS_no, lfs, e0, seq_lst, chk_seq, a3, o]
                rfl
              · rw [a1]
                unfold sgB at a3
                unfold sem__law_state_word b__law_state_word
                simp?! [isi2_eq hn, isL, e, Option.isSome_some, fLen_seq e, fNe_int, fIx_0 e, fIx_1 e, cap4, notin_L, notin_x, fEq_ke, isi2_eq hb, c, fEq_km, s1, canSet_eq, canS_no, lfs, e0, seq_lst, chk_seq, a3]
                rfl
        · subst h
          rw [formS_m]
          cases c : b.seq? with
          | none =>
            simp only [Bool.false_eq_true, if_false]
            unfold sem__law_state_word b__law_state_word
            simp?! [isi2_eq hn, isL, e, Option.isSome_some, fLen_seq e, fNe_int, fIx_0 e, fIx_1 e, cap4, notin_L, notin_a, fEq_me, isi2_eq hb, c, Option.isSome_none]
            rfl
          | some ps =>
            dsimp only
            have hpl := hl ps _ _ e c
            have lc1 : ∀ env0 : En, env0 = [.dat d, .dat (.int i), .dat (.int m), .no, .no, .no, .no] →
                runLc (fun _ => true) (GX.name 6 : GX tau).ev (TX.or (TX.not (TX.ofE (EX.isi2 "list" "tuple" (EX.var 6)))) (TX.ofE (EX.ne (EX.len (AX.cons (EX.var 6) (AX.nil))) (EX.int 2))) : TX tau).ev (EX.var 6 : EX tau).ev [6] ps env0 [] = .ok ([] ++ ps.filterMap fun p => if (fun q => !(isPair q)) p then some p else none) env0 := by
              rintro env0 rfl
              refine runLc_map ps [] (fun p hp => ⟨[.dat d, .dat (.int i), .dat (.int m), .no, .no, .no, .dat p], by simp?! [g_nm, canSet_eq, canS_no], by simp?!, !(isPair p), ?_, fun c' => ⟨p, by simp?!, by simp only [c', if_true]⟩, fun c' => by simp only [c', Bool.false_eq_true, if_false]⟩) (by simp; omega)
              have hp' := nin_seq hb c p hp
              cases q : p.seq? with
              | none => simp?! [isi2_eq hp', isL, q, Option.isSome_none, isPair]
              | some es => simp?! [isi2_eq hp', isL, q, Option.isSome_some, fLen_seq q, fNe_int, isPair_len q]
            have l1 := lc1 _ rfl
            have lenP : ∀ l : List D, fLen [D.lst l] = some (.int l.length) := fun l => fLen_seq (seq_lst l)
            rw [List.nil_append] at l1
            have q1 := len_any (fun q => !(isPair q)) ps
            rw [any_notPair] at q1
            by_cases hall : ps.all isPair = true
            rotate_left
            · have hall' : ps.all isPair = false := by simpa using hall
              rw [hall'] at q1
              rw [if_neg hall]
              unfold sem__law_state_word b__law_state_word
              simp?! [isi2_eq hn, isL, e, Option.isSome_some, fLen_seq e, fNe_int, fIx_0 e, fIx_1 e, cap4, notin_L, notin_a, fEq_me, isi2_eq hb, c, fEq_mm, chk_seq, okVs_cons, l1, lenP, fIB_int, q1]
              rfl
            · rw [if_pos hall, faultS_m i m c]
              rw [hall] at q1
              have hpp : ∀ p ∈ ps, isPair p = true := List.all_eq_true.mp hall
              have lc2 : ∀ env0 : En, env0 = [.dat d, .dat (.int i), .dat (.int m), .no, .no, .no, .no] →
                  runLc (fun _ => true) (GX.name 5 : GX tau).ev (TX.yes : TX tau).ev (EX.idx (EX.var 5) (EX.int 1) : EX tau).ev [5] ps env0 [] = .ok ([] ++ ps.filterMap fun p => some (snd2 p)) env0 := by
                rintro env0 rfl
                exact runLc_map ps [] (fun p hp => ⟨[.dat d, .dat (.int i), .dat (.int m), .no, .no, .dat p, .no], by simp?! [g_nm, canSet_eq, canS_no], by simp?!, true, by simp?!, fun c' => ⟨snd2 p, by simp?! [fIx_1 (isPair_two (hpp p hp))], rfl⟩, fun c' => by cases c'⟩) (by simp; omega)
              have l2 := lc2 _ rfl
              rw [List.nil_append, show (ps.filterMap fun p => some (snd2 p)) = ps.map snd2 from congrFun List.filterMap_eq_map' ps] at l2
              by_cases z : ps.length = 0
              · rw [if_pos z]
                have e0 : fEq (.int (ps.length : Int)) (.int 0) = some (.bl true) := by rw [z]; rfl
                unfold sem__law_state_word b__law_state_word
                simp?! [isi2_eq hn, isL, e, Option.isSome_some, fLen_seq e, fNe_int, fIx_0 e, fIx_1 e, cap4, notin_L, notin_a, fEq_me, isi2_eq hb, c, fEq_mm, chk_seq, okVs_cons, l1, lenP, fIB_int, q1, l2, canSet_eq, canS_no, List.length_map, e0]
                rfl
              · rw [if_neg z]
                have e0 := fEq_len z
                have nn : ∀ x ∈ ps.map snd2, nin x = true := fun x hx => by
                  obtain ⟨p, hp, rfl⟩ := List.mem_map.mp hx
                  exact nin_seq (nin_seq hb c p hp) (isPair_two (hpp p hp)) _ (by simp)
                rcases sg_loop (d := d) (i := i) (m := m) (sp := .lst (ps.map snd2)) (ps.map snd2) nn [.dat d, .dat (.int i), .dat (.int m), .dat (.lst (ps.map snd2)), .no, .no, .no] ⟨_, rfl, rfl⟩ with ⟨a1, e2, a2, a3⟩ | ⟨a1, e2, ⟨x, hx, rfl⟩, a3⟩
                · rw [if_pos a1]
                  have o := env7_any' a2
                  unfold sgB at a3
                  unfold sem__law_state_word b__law_state_word
                  simp?! [isi2_eq hn, isL, e, Option.isSome_some, fLen_seq e, fNe_int, fIx_0 e, fIx_1 e, cap4, notin_L, notin_a, fEq_me, isi2_eq hb, c, fEq_mm, chk_seq, okVs_cons, l1, lenP, fIB_int, q1, l2, canSet_eq, canS_no, List.length_map, e0, seq_lst, a3, o]
                  rfl
                · rw [if_neg (by rw [a1]; exact Bool.false_ne_true)]
                  have xs := okS_okV hx
                  have lc3 : ∀ env0 : En, env0 = [.dat d, .dat (.int i), .dat (.int m), .dat (.lst (ps.map snd2)), x, .no, .no] →
                      runLc (fun _ => true) (GX.name 6 : GX tau).ev (TX.or (TX.not (TX.ofE (EX.call sem__law_whole (AX.cons (EX.idx (EX.var 6) (EX.int 0)) (AX.nil))))) (TX.ofE (EX.lt (EX.idx (EX.var 6) (EX.int 0)) (EX.int 1))) : TX tau).ev (EX.var 6 : EX tau).ev [6] ps env0 [] = .ok ([] ++ ps.filterMap fun p => if badW p then some p else none) env0 := by
                    rintro env0 rfl
                    refine runLc_map ps [] (fun p hp => ⟨[.dat d, .dat (.int i), .dat (.int m), .dat (.lst (ps.map snd2)), x, .no, .dat p], by simp?! [g_nm, canSet_eq, canS_no], by simp?!, badW p, ?_, fun c' => ⟨p, by simp?!, by simp only [c', if_true]⟩, fun c' => by simp only [c', Bool.false_eq_true, if_false]⟩) (by simp; omega)
                    have q := isPair_two (hpp p hp)
                    have na := nin_seq (nin_seq hb c p hp) q (fst2 p) (by simp)
                    have i0 := fIx_0 q
                    unfold badW
                    cases c2 : fst2 p with
                    | int n => rw [c2] at i0 na; simp?! [i0, law_whole_eq na, isI, fIB_int]
                    | _ => rw [c2] at i0 na; simp?! [i0, law_whole_eq na, isI]
                  have l3 := lc3 _ rfl
                  rw [List.nil_append] at l3
                  have q3 := len_any badW ps
                  unfold sgB at a3
                  unfold sem__law_state_word b__law_state_word
                  by_cases w : ps.any badW = true
                  · rw [if_pos w]
                    rw [w] at q3
                    simp?! [isi2_eq hn, isL, e, Option.isSome_some, fLen_seq e, fNe_int, fIx_0 e, fIx_1 e, cap4, notin_L, notin_a, fEq_me, isi2_eq hb, c, fEq_mm, chk_seq, okVs_cons, l1, lenP, fIB_int, q1, l2, canSet_eq, canS_no, List.length_map, e0, seq_lst, a3, l3, q3]
                    rfl
                  · rw [if_neg w]
                    have w' : ps.any badW = false := by simpa using w
                    rw [w'] at q3
                    simp?! [isi2_eq hn, isL, e, Option.isSome_some, fLen_seq e, fNe_int, fIx_0 e, fIx_1 e, cap4, notin_L, notin_a, fEq_me, isi2_eq hb, c, fEq_mm, chk_seq, okVs_cons, l1, lenP, fIB_int, q1, l2, canSet_eq, canS_no, List.length_map, e0, seq_lst, a3, l3, q3]
                    rfl
        · have hf : formS s b = false := by
            unfold formS
            have n1 : s ≠ "end" := fun z => by rw [z] at h; simp at h
            have n2 : ¬ (s = "max" ∨ s = "min") := fun z => by rcases z with z | z <;> (rw [z] at h; simp at h)
            have n3 : s ≠ "mean" := fun z => by rw [z] at h; simp at h
            rw [if_neg n1, if_neg n2, if_neg n3]
          rw [hf, if_neg Bool.false_ne_true]
          unfold sem__law_state_word b__law_state_word
          simp?! [isi2_eq hn, isL, e, Option.isSome_some, fLen_seq e, fNe_int, fIx_0 e, fIx_1 e, cap4, notin_L, notin_no h]
          rfl
      · have hs' : ∀ s, a ≠ .str s := fun s z => hs ⟨s, z⟩
        rw [fault_no (by rw [e]; intro s b' z; cases z; exact hs' s rfl)]
        unfold sem__law_state_word b__law_state_word
        simp?! [isi2_eq hn, isL, e, Option.isSome_some, fLen_seq e, fNe_int, fIx_0 e, fIx_1 e, cap4, notin_L, notin_flat af hs']
        rfl
    · have hn2 : ((ds.length : Int) == 2) = false := by simp; omega
      rw [fault_no (by rw [e]; intro s b z; cases z; simp at h2)]
      unfold sem__law_state_word b__law_state_word
      simp?! [isi2_eq hn, isL, e, Option.isSome_some, fLen_seq e, fNe_int, hn2]
      rfl
end K84

/-! P20 -/
namespace K84
open scoped Rat
open PySem T L2
/-- data that stands for a pair of a mean's -/
def wD (x : Int × Nat) (p : D) : Prop := p.seq? = some [.int x.1, iD x.2]
inductive WDs : List (Int × Nat) → List D → Prop
  | nil : WDs [] []
  | cons {x : Int × Nat} {p : D} {ws : List (Int × Nat)} {ps : List D} : wD x p → WDs ws ps → WDs (x :: ws) (p :: ps)
theorem WDs.length {ws : List (Int × Nat)} {ps : List D} (h : WDs ws ps) : ps.length = ws.length := by
  induction h with
  | nil => rfl
  | cons _ _ ih => simp [ih]
theorem WDs.map {f : Int × Nat → D} (hf : ∀ x, wD x (f x)) : ∀ ws : List (Int × Nat), WDs ws (ws.map f)
  | [] => .nil
  | x :: ws => .cons (hf x) (WDs.map hf ws)
def Rest (s : Sta) (b : D) : Prop := match s with
  | .fin p q => IsR 50 b (p /. q)
  | .ext _ fs => b.seq? = some (fs.map iD)
  | .av ws => ∃ ps, b.seq? = some ps ∧ WDs ws ps
/-- an entry that stands for the state s -/
structure Enc (s : Sta) (d : D) : Prop where
  nin : nin d = true
  at_ : ∃ b, d.seq? = some [.str s.kind, b] ∧ Rest s b
theorem fTupOf_seq {b : D} {ds : List D} (h : b.seq? = some ds) : fTupOf [b] = some (.tup ds) := by
  cases b <;> simp [D.seq?] at h <;> subst h <;> rfl
theorem wds_tup : ∀ {ws : List (Int × Nat)} {ps : List D}, WDs ws ps → (ps.filterMap fun p => (p.seq?).map D.tup) = ws.map fun x => D.tup [.int x.1, iD x.2]
  | _, _, .nil => rfl
  | _, _, @WDs.cons x p ws ps h hs => by
    have h' : p.seq? = some [.int x.1, iD x.2] := h
    simp only [List.filterMap_cons, h', Option.map_some, List.map_cons]
    rw [wds_tup hs]
theorem wds_mem {ws : List (Int × Nat)} {ps : List D} (h : WDs ws ps) : ∀ p ∈ ps, ∃ x ∈ ws, wD x p := by
  induction h with
  | nil => simp
  | cons hx _ ih =>
    intro p hp
    rcases List.mem_cons.mp hp with rfl | q
    · exact ⟨_, by simp, hx⟩
    · obtain ⟨y, y1, y2⟩ := ih p q; exact ⟨y, by simp [y1], y2⟩
theorem kept_eq {s : Sta} {d : D} (h : Enc s d) (sm : s.sm) : sem_kept_state [.d d] = .ok s.kept [] := by
  obtain ⟨b, e, r⟩ := h.at_
  have sd : seqD 2 d = some [.str s.kind, b] := by simp [seqD, e]
  cases s with
  | fin p q =>
    have r : IsR 50 b (p /. q) := r
    simp only [Sta.kind] at sd
    unfold sem_kept_state b_kept_state
    simp?! [sd, g_nm, canSet_eq, canS_no, fEq_ee, r.in_ (by decide), fTup2]
    rfl
  | ext k fs =>
    have r : b.seq? = some (fs.map iD) := r
    simp only [Sta.kind] at sd
    unfold sem_kept_state b_kept_state
    simp?! [sd, g_nm, canSet_eq, canS_no, fEq_ke, fEq_km, fTupOf_seq r, fTup2]
    rfl
  | av ws =>
    obtain ⟨ps, p1, p2⟩ := r
    obtain ⟨_, hl, _⟩ := sm
    simp only [Sta.kind] at sd
    have lc1 : ∀ env0 : En, env0 = [.dat d, .dat (.str "mean"), .dat b, .no] →
        runLc (fun _ => true) (GX.name 3 : GX tau).ev (TX.yes : TX tau).ev (EX.tupOf (AX.cons (EX.var 3) (AX.nil)) : EX tau).ev [3] ps env0 [] = .ok ([] ++ ps.filterMap fun p => (p.seq?).map D.tup) env0 := by
      rintro env0 rfl
      refine runLc_map ps [] (fun p hp => ⟨[.dat d, .dat (.str "mean"), .dat b, .dat p], by simp?! [g_nm, canSet_eq, canS_no], by simp?!, true, by simp?!, fun c' => ?_, fun c' => by cases c'⟩) (by have := p2.length; simp; omega)
      obtain ⟨x, _, hx⟩ := wds_mem p2 p hp
      have hx : p.seq? = some [.int x.1, iD x.2] := hx
      exact ⟨.tup [.int x.1, iD x.2], by simp?! [fTupOf_seq hx], by rw [hx]; rfl⟩
    have l1 := lc1 _ rfl
    rw [List.nil_append, wds_tup p2] at l1
    unfold sem_kept_state b_kept_state
    simp?! [sd, g_nm, canSet_eq, canS_no, fEq_me, fEq_mm, p1, chk_seq, okVs_cons, l1, fTupOf_seq (seq_lst _), fTup2]
    rfl
theorem fault_none {s : Sta} {d : D} {i m : Nat} (h : Enc s d) (ok : s.ok i m) : fault (i : Int) (m : Int) d = none := by
  obtain ⟨b, e, r⟩ := h.at_
  have bad0 : ∀ f : Nat, i < f → f < m → badF (i : Int) (m : Int) (iD f) = false := fun f h1 h2 => by
    simp [badF, iD]; omega
  cases s with
  | fin p q =>
    have r : IsR 50 b (p /. q) := r
    obtain ⟨p', q', h1, _⟩ := r.at_
    have e' : d.seq? = some [.str "end", b] := e
    rw [fault_str e', formS_e, if_pos rfl, faultS_e, h1]
    rfl
  | ext k fs =>
    have r : b.seq? = some (fs.map iD) := r
    obtain ⟨o1, o2, o3⟩ := ok
    have e' : d.seq? = some [.str (kw k), b] := e
    rw [fault_str e', formS_x, faultS_x _ _ _ r, show isL b = true by simp [isL, r], if_pos rfl, if_neg (by simpa using o1), if_neg]
    intro z
    obtain ⟨x, x1, x2⟩ := List.any_eq_true.mp z
    obtain ⟨f, f1, rfl⟩ := List.mem_map.mp x1
    rw [bad0 f (o3 f f1).1 (o3 f f1).2] at x2
    cases x2
  | av ws =>
    obtain ⟨ps, p1, p2⟩ := r
    obtain ⟨o1, o2, o3⟩ := ok
    have e' : d.seq? = some [.str "mean", b] := e
    have hp : ps.all isPair = true := List.all_eq_true.mpr fun p hp => by
      obtain ⟨x, _, hx⟩ := wds_mem p2 p hp
      have hx : p.seq? = some [.int x.1, iD x.2] := hx
      unfold isPair; rw [hx]
    have fm : formS "mean" b = true := by rw [formS_m, p1]; exact hp
    have hz : ps.length ≠ 0 := by rw [p2.length]; simpa using o1
    rw [fault_str e', fm, if_pos rfl, faultS_m _ _ p1, if_neg hz, if_neg, if_neg]
    · intro z
      obtain ⟨p, x1, x2⟩ := List.any_eq_true.mp z
      obtain ⟨x, y1, hx⟩ := wds_mem p2 p x1
      have hx : p.seq? = some [.int x.1, iD x.2] := hx
      have := (o3 x y1).2.2.1
      simp [badW, fst2, hx] at x2
      omega
    · intro z
      obtain ⟨y, x1, x2⟩ := List.any_eq_true.mp z
      obtain ⟨p, p3, rfl⟩ := List.mem_map.mp x1
      obtain ⟨x, y1, hx⟩ := wds_mem p2 p p3
      have hx : p.seq? = some [.int x.1, iD x.2] := hx
      have e2 : snd2 p = iD x.2 := by unfold snd2; rw [hx]
      rw [e2, bad0 x.2 (o3 x y1).1 (o3 x y1).2.1] at x2
      cases x2
end K84

/-! P21 -/
namespace K84
open scoped Rat
open PySem T L2
/-- an entry that may be looked at -/
structure EnOk (d : D) : Prop where
  nin : nin d = true
  sm : ∀ ds a b, d.seq? = some [a, b] → b.seq? = some ds → ds.length ≤ 1000000
def firstF (m : Nat) : Nat → List D → Option (Nat × Str)
  | _, [] => none
  | i, d :: r => match fault (i : Int) (m : Int) d with
    | some w => some (i, w)
    | none => firstF m (i + 1) r
def excA (i : Int) (w : Str) : List (Str × D) := [("state", .int i), ("what", .str w)]
def aiB : SX tau := SX.seq (SX.asg 4 (EX.call sem_state_fault (AX.cons (EX.var 3) (AX.cons (EX.var 2) (AX.cons (EX.len (AX.cons (EX.var 1) (AX.nil))) (AX.nil))))))
  (SX.ite (TX.ofE (EX.notN (EX.var 4) (EX.non))) (SX.raise 2 ["state", "what"] (AX.cons (EX.var 2) (AX.cons (EX.var 4) (AX.nil)))) (SX.nx))
theorem notN_str (w : Str) : fNotN (.str w) .non = some (.bl true) := nrfl rfl
theorem ai_loop {o : O} {L : D} {ds : List D} (hL : L.seq? = some ds) (ok : ∀ d ∈ ds, EnOk d) : ∀ (r : List D) (k : Nat) (x y z : Sl), (∀ j d, r[j]? = some d → ds[k + j]? = some d) → okS x = true → okS y = true → okS z = true →
    (∃ i w x' y' z', firstF ds.length k r = some (i, w) ∧ runFor (fun _ => true) (GX.sq 2 (GXs.cons (GX.name 2) (GXs.cons (GX.name 3) (GXs.nil))) : GX tau).ev aiB.ev ((List.range' k r.length).map fun i => D.tup [iD i, ds.getD i .non]) [.own (some 0) o, .dat L, x, y, z] = .exc 2 (excA i w) [.own (some 0) o, .dat L, x', y', z']) ∨
    (firstF ds.length k r = none ∧ ∃ x' y' z', okS x' = true ∧ okS y' = true ∧ okS z' = true ∧ runFor (fun _ => true) (GX.sq 2 (GXs.cons (GX.name 2) (GXs.cons (GX.name 3) (GXs.nil))) : GX tau).ev aiB.ev ((List.range' k r.length).map fun i => D.tup [iD i, ds.getD i .non]) [.own (some 0) o, .dat L, x, y, z] = .ok .nx [.own (some 0) o, .dat L, x', y', z'])
  | [], k, x, y, z, _, hx, hy, hz => .inr ⟨rfl, x, y, z, hx, hy, hz, for_nil _ _ _⟩
  | d :: r, k, x, y, z, hr, hx, hy, hz => by
    have hd : ds[k]? = some d := hr 0 d rfl
    have hm : d ∈ ds := List.mem_of_getElem? hd
    have hg : ds.getD k .non = d := by rw [List.getD_eq_getElem?_getD, hd]; rfl
    have hr' : ∀ j d', r[j]? = some d' → ds[k + 1 + j]? = some d' := fun j d' hj => by
      have := hr (j + 1) d' (by simpa using hj)
      rwa [show k + 1 + j = k + (j + 1) by omega]
    have e0 : (List.range' k (d :: r).length).map (fun i => D.tup [iD i, ds.getD i .non]) = D.tup [iD k, d] :: (List.range' (k + 1) r.length).map (fun i => D.tup [iD i, ds.getD i .non]) := by
      rw [List.length_cons, List.range'_succ, List.map_cons, hg]
    rw [e0, for_cons]
    have sf := state_fault_eq (i := (k : Int)) (m := (ds.length : Int)) (ok d hm).nin (ok d hm).sm
    have sf : sem_state_fault [.d d, .d (iD k), .d (.int ds.length)] = .ok (oD (fault k ds.length d)) [] := sf
    cases c : fault (k : Int) (ds.length : Int) d with
    | some w =>
      rw [c] at sf
      simp only [oD] at sf
      refine .inl ⟨k, w, .dat (iD k), .dat d, .dat (.str w), by simp [firstF, c], ?_⟩
      unfold aiB
      simp?! [seqD_two, g_nm, canSet_eq, canS_ok hx, canS_ok hy, canS_ok hz, fLen_seq hL, sf, notN_str, List.zip_cons_cons, List.zip_nil_right]
      rfl
    | none =>
      rw [c] at sf
      simp only [oD] at sf
      rcases ai_loop (o := o) hL ok r (k + 1) (.dat (iD k)) (.dat d) (.dat .non) hr' rfl rfl rfl with ⟨i, w, x', y', z', a1, a2⟩ | ⟨a1, x', y', z', b1, b2, b3, a2⟩
      · refine .inl ⟨i, w, x', y', z', by simp [firstF, c, a1], ?_⟩
        rw [← a2]
        unfold aiB
        simp?! [seqD_two, g_nm, canSet_eq, canS_ok hx, canS_ok hy, canS_ok hz, fLen_seq hL, sf, notN_non]
      · refine .inr ⟨by simp [firstF, c, a1], x', y', z', b1, b2, b3, ?_⟩
        rw [← a2]
        unfold aiB
        simp?! [seqD_two, g_nm, canSet_eq, canS_ok hx, canS_ok hy, canS_ok hz, fLen_seq hL, sf, notN_non]
theorem enum_lst (ds : List D) : enum1 [.lst ds] = some ((List.range' 0 ds.length).map fun i => D.tup [iD i, ds.getD i .non]) := by
  simp only [enum1, lstD, Option.map_some, enumD, List.range_eq_range']
  rfl
theorem arena_bad {L : D} (hn : nin L = true) (h : L.seq? = none ∨ L.seq? = some []) : sem_Arena_init [.o (.ins 0 []), .d L] = .exc 2 (excA (-1) "form") [.ins 0 []] := by
  have e1 : fNeg (.int 1) = some (.int (-1)) := rfl
  rcases h with h | h
  · unfold sem_Arena_init b_Arena_init
    simp?! [is_list_eq hn, isL, h, Option.isSome_none, e_neg, e1, List.zip_cons_cons, List.zip_nil_right]
    rfl
  · have e0 : fEq (.int (([] : List D).length : Int)) (.int 0) = some (.bl true) := rfl
    unfold sem_Arena_init b_Arena_init
    simp?! [is_list_eq hn, isL, h, Option.isSome_some, fLen_seq h, e_neg, e1, List.zip_cons_cons, List.zip_nil_right, fEq_int]
    rfl
theorem arena_fault {ds : List D} (hne : ds ≠ []) (ok : ∀ d ∈ ds, EnOk d) {i : Nat} {w : Str} (h : firstF ds.length 0 ds = some (i, w)) : sem_Arena_init [.o (.ins 0 []), .d (.lst ds)] = .exc 2 (excA i w) [.ins 0 []] := by
  have hn : nin (.lst ds) = true := nins_all.mpr fun d hd => (ok d hd).nin
  have e0 := fEq_len (n := ds.length) (by simpa using hne)
  rcases ai_loop (o := .ins 0 []) (seq_lst ds) ok ds 0 .no .no .no (fun j d hj => by simpa using hj) rfl rfl rfl with ⟨i', w', x', y', z', a1, a2⟩ | ⟨a1, _⟩
  · rw [h] at a1
    cases a1
    unfold aiB at a2
    unfold sem_Arena_init b_Arena_init
    simp?! [is_list_eq hn, isL, seq_lst, Option.isSome_some, fLen_seq (seq_lst ds), e0, enum_lst, chk_enum, a2]
  · rw [h] at a1; cases a1
end K84

/-! P22 -/
namespace K84
open scoped Rat
open PySem T L2
inductive Encs : List Sta → List D → Prop
  | nil : Encs [] []
  | cons {s : Sta} {d : D} {sts : List Sta} {ds : List D} : Enc s d → Encs sts ds → Encs (s :: sts) (d :: ds)
theorem Encs.length {sts : List Sta} {ds : List D} (h : Encs sts ds) : ds.length = sts.length := by
  induction h with
  | nil => rfl
  | cons _ _ ih => simp [ih]
theorem Encs.mem {sts : List Sta} {ds : List D} (h : Encs sts ds) : ∀ d ∈ ds, ∃ s ∈ sts, Enc s d := by
  induction h with
  | nil => simp
  | cons hx _ ih =>
    intro p hp
    rcases List.mem_cons.mp hp with rfl | q
    · exact ⟨_, by simp, hx⟩
    · obtain ⟨y, y1, y2⟩ := ih p q; exact ⟨y, by simp [y1], y2⟩
theorem Encs.map {f : Sta → D} : ∀ sts : List Sta, (∀ s ∈ sts, Enc s (f s)) → Encs sts (sts.map f)
  | [], _ => .nil
  | s :: sts, h => .cons (h s (by simp)) (Encs.map sts fun x hx => h x (by simp [hx]))
theorem Enc.enok {s : Sta} {d : D} (h : Enc s d) (sm : s.sm) : EnOk d := by
  refine ⟨h.nin, fun ds a b e c => ?_⟩
  obtain ⟨b', e', r⟩ := h.at_
  rw [e] at e'
  cases e'
  cases s with
  | fin p q =>
    have r : IsR 50 b (p /. q) := r
    obtain ⟨p', q', h1, _⟩ := r.seq
    rw [c] at h1; cases h1; simp
  | ext k fs =>
    have r : b.seq? = some (fs.map iD) := r
    rw [c] at r; cases r
    have : fs.length ≤ 3 := sm
    simp; omega
  | av ws =>
    obtain ⟨ps, p1, p2⟩ := r
    rw [c] at p1; cases p1
    have := p2.length
    have := sm.2.1
    omega
theorem encs_kept : ∀ {sts : List Sta} {ds : List D}, Encs sts ds → ∀ F : D → Option D, (∀ s d, Enc s d → s ∈ sts → F d = some s.kept) → ds.filterMap F = sts.map Sta.kept
  | _, _, .nil, _, _ => rfl
  | _, _, @Encs.cons s d sts ds h hs, F, hF => by
    simp only [List.filterMap_cons, hF s d h (by simp), List.map_cons]
    rw [encs_kept hs F fun s' d' h' hm => hF s' d' h' (by simp [hm])]
/-- all well formed, from place i on -/
def okFrom (m : Nat) : Nat → List Sta → Prop
  | _, [] => True
  | i, s :: r => s.ok i m ∧ okFrom m (i + 1) r
theorem firstF_none {m : Nat} : ∀ {sts : List Sta} {ds : List D} (i : Nat), Encs sts ds → okFrom m i sts → firstF m i ds = none
  | _, _, _, .nil, _ => rfl
  | _, _, i, .cons h hs, ok => by
    simp only [firstF, fault_none h ok.1]
    exact firstF_none (i + 1) hs ok.2
theorem okFrom.sm {m : Nat} : ∀ {sts : List Sta} {i : Nat}, okFrom m i sts → ∀ s ∈ sts, s.sm ∧ s.inn m
  | [], _, _, s, h => by simp at h
  | t :: r, i, ok, s, h => by
    rcases List.mem_cons.mp h with rfl | q
    · exact ⟨ok.1.sm, ok.1.inn⟩
    · exact okFrom.sm ok.2 s q
theorem arena_ok {sts : List Sta} {ds : List D} (hE : Encs sts ds) (hne : sts ≠ []) (ok : okFrom sts.length 0 sts) (hl : sts.length ≤ 1000) : sem_Arena_init [.o (.ins 0 []), .d (.lst ds)] = .ok .non [.ins 0 [("states", .tup (sts.map Sta.kept))]] := by
  have sm := okFrom.sm ok
  have eo : ∀ d ∈ ds, EnOk d := fun d hd => by
    obtain ⟨s, s1, s2⟩ := hE.mem d hd
    exact s2.enok (sm s s1).1
  have hn : nin (.lst ds) = true := nins_all.mpr fun d hd => (eo d hd).nin
  have hdl := hE.length
  have e0 := fEq_len (n := ds.length) (by rw [hdl]; simpa using hne)
  have f0 : firstF ds.length 0 ds = none := by rw [hdl]; exact firstF_none 0 hE ok
  rcases ai_loop (o := .ins 0 []) (seq_lst ds) eo ds 0 .no .no .no (fun j d hj => by simpa using hj) rfl rfl rfl with ⟨i', w', x', y', z', a1, a2⟩ | ⟨a1, x', y', z', b1, b2, b3, a2⟩
  · rw [f0] at a1; cases a1
  · have lc1 : ∀ env0 : En, env0 = [.own (some 0) (.ins 0 []), .dat (.lst ds), x', .no, z'] →
        runLc (fun _ => true) (GX.name 3 : GX tau).ev (TX.yes : TX tau).ev (EX.call sem_kept_state (AX.cons (EX.var 3) (AX.nil)) : EX tau).ev [3] ds env0 [] = .ok ([] ++ ds.filterMap fun d => match sem_kept_state [.d d] with | .ok z _ => some z | _ => none) env0 := by
      rintro env0 rfl
      refine runLc_map ds [] (fun d hd => ⟨[.own (some 0) (.ins 0 []), .dat (.lst ds), x', .dat d, z'], by simp?! [g_nm, canSet_eq, canS_no], by simp?!, true, by simp?!, fun c' => ?_, fun c' => by cases c'⟩) (by simp; omega)
      obtain ⟨s, s1, s2⟩ := hE.mem d hd
      have k := kept_eq s2 (sm s s1).1
      exact ⟨s.kept, by simp?! [k], by rw [k]⟩
    have l1 := lc1 _ rfl
    rw [List.nil_append, encs_kept hE _ fun s d h hm => by rw [kept_eq h (sm s hm).1]] at l1
    have oy := okS_okV b2
    unfold aiB at a2
    unfold sem_Arena_init b_Arena_init
    simp?! [is_list_eq hn, isL, seq_lst, Option.isSome_some, fLen_seq (seq_lst ds), e0, enum_lst, chk_enum, a2, chk_seq, okVs_cons, oy, l1, fTupOf_seq (seq_lst _), att_states]
    rfl
end K84

/-! P23 -/
namespace K84
open scoped Rat
open PySem T L2
def exL : List (Key × D) := [((Sum.inr "max" : Key), .str "min"), ((Sum.inr "min" : Key), .str "max"), ((Sum.inr "mean" : Key), .str "mean")]
def exD : D := .dic exL
theorem ex_x (k : Bool) : fDget exD (.str (kw k)) = some (.str (kw (!k))) := by cases k <;> rfl
theorem ex_m : fDget exD (.str "mean") = some (.str "mean") := by rfl
theorem tr_dcon (h15) (env : En) : (FX.dcon (τ := tau) dc_turned_round_0 hm_dc_turned_round_0 h15).ev env = .ok (.dic exL) env := nrfl rfl
theorem exM : (dc_turned_round_0.map fun p => (p.1, keyOf p.2)) = exL := nrfl rfl
theorem exD_eq : D.dic exL = exD := nrfl rfl
def tE : Sta → D
  | .fin p q => .tup [.str "end", rat (0 - p /. q)]
  | .ext m fs => .tup [.str (kw (!m)), .tup (fs.map iD)]
  | .av ws => .tup [.str "mean", .tup (ws.map fun x => .tup [.int x.1, iD x.2])]
def trB : SX tau := SX.ite (TX.ofE (EX.eq (EX.var 3) (EX.str "end"))) (SX.app 2 (EX.tup (AX.cons (EX.var 3) (AX.cons (EX.call sem_minus (AX.cons (EX.tup (AX.cons (EX.int 0) (AX.cons (EX.int 1) (AX.nil)))) (AX.cons (EX.var 4) (AX.nil)))) (AX.nil))))) (SX.app 2 (EX.tup (AX.cons (EX.dget (EX.var 1) (EX.var 3)) (AX.cons (EX.var 4) (AX.nil)))))
theorem is01 : IsR 1 (.tup [.int 0, .int 1]) 0 := by
  have := IsR.tup (n := 1) (p := 0) (q := 1) (by decide) (by show (0 : Nat) < 2; decide) (by show (1 : Nat) < 2; decide)
  rwa [Rat.zero_divInt] at this
theorem tr_loop {A0 : D} : ∀ (r : List Sta) (acc : List D) (x y : Sl), (∀ s ∈ r, s.sm) → acc.length + r.length ≤ 1000000 → okS x = true → okS y = true →
    ∃ x' y', runFor (fun _ => true) (GX.sq 2 (GXs.cons (GX.name 3) (GXs.cons (GX.name 4) (GXs.nil))) : GX tau).ev trB.ev (r.map Sta.kept) [.dat A0, .dat exD, .own none (.lst acc), x, y] = .ok .nx [.dat A0, .dat exD, .own none (.lst (acc ++ r.map tE)), x', y']
  | [], acc, x, y, _, _, hx, hy => ⟨x, y, by rw [List.map_nil, List.map_nil, List.append_nil]; exact for_nil _ _ _⟩
  | s :: r, acc, x, y, sm, hl, hx, hy => by
    simp only [List.length_cons] at hl
    have cp : capd acc.length = true := by unfold capd; simp; omega
    have go : ∀ a b, ∃ x' y', runFor (fun _ => true) (GX.sq 2 (GXs.cons (GX.name 3) (GXs.cons (GX.name 4) (GXs.nil))) : GX tau).ev trB.ev (r.map Sta.kept) [.dat A0, .dat exD, .own none (.lst (acc ++ [tE s])), .dat a, .dat b] = .ok .nx [.dat A0, .dat exD, .own none (.lst (acc ++ (s :: r).map tE)), x', y'] := fun a b => by
      have := tr_loop (A0 := A0) r (acc ++ [tE s]) (.dat a) (.dat b) (fun t ht => sm t (by simp [ht])) (by simp; omega) rfl rfl
      simpa using this
    rw [List.map_cons, for_cons]
    cases s with
    | fin p q =>
      obtain ⟨h1, h2, h3⟩ : (1 ≤ q ∧ bt 50 p ∧ bt 50 q) := sm (.fin p q) (by simp)
      obtain ⟨x', y', g⟩ := go (.str "end") (rat (p /. q))
      have mi := minus_eq is01 (IsR.rat (sz_divInt h1 h2 h3)) (by decide)
      refine ⟨x', y', ?_⟩
      rw [← g]
      unfold trB
      simp only [Sta.kept, tE]
      simp?! [seqD_two, g_nm, canSet_eq, canS_ok hx, canS_ok hy, fEq_ee, fTup2, mi, cp]
    | ext k fs =>
      obtain ⟨x', y', g⟩ := go (.str (kw k)) (.tup (fs.map iD))
      refine ⟨x', y', ?_⟩
      rw [← g]
      unfold trB
      simp only [Sta.kept, tE]
      simp?! [seqD_two, g_nm, canSet_eq, canS_ok hx, canS_ok hy, fEq_ke, ex_x, fTup2, cp]
    | av ws =>
      obtain ⟨x', y', g⟩ := go (.str "mean") (.tup (ws.map fun x => D.tup [.int x.1, iD x.2]))
      refine ⟨x', y', ?_⟩
      rw [← g]
      unfold trB
      simp only [Sta.kept, tE]
      simp?! [seqD_two, g_nm, canSet_eq, canS_ok hx, canS_ok hy, fEq_me, ex_m, fTup2, cp]
theorem enc_tE {s : Sta} (sm : s.sm) : Enc s.turn (tE s) := by
  cases s with
  | fin p q =>
    obtain ⟨h1, h2, h3⟩ := sm
    have z := sz_divInt h1 h2 h3
    refine ⟨rfl, _, rfl, ?_⟩
    show IsR 50 (rat (0 - p /. q)) ((0 - p) /. q)
    rw [neg_rat, show (0 : Rat) - p /. q = -(p /. q) by rw [Rat.sub_eq_add_neg, Rat.zero_add]]
    exact IsR.rat z.neg
  | ext k fs => exact ⟨by simp [tE, nin, nins, nins_map iD (fun _ => rfl)], _, rfl, rfl⟩
  | av ws => exact ⟨by simp [tE, nin, nins, nins_map (fun x : Int × Nat => D.tup [.int x.1, iD x.2]) (fun _ => rfl)], _, rfl, _, rfl, WDs.map (f := fun x => D.tup [.int x.1, iD x.2]) (fun _ => rfl) ws⟩
theorem okFrom.turn {m : Nat} : ∀ {sts : List Sta} {i : Nat}, okFrom m i sts → okFrom m i (sts.map Sta.turn)
  | [], _, _ => trivial
  | s :: r, i, ok => by
    refine ⟨?_, okFrom.turn ok.2⟩
    have := ok.1
    cases s with
    | fin p q =>
      obtain ⟨h1, h2, h3⟩ := this
      exact ⟨h1, by rw [Int.zero_sub]; exact h2.neg, h3⟩
    | ext k fs => exact this
    | av ws => exact this
theorem turned_eq {sts : List Sta} (hne : sts ≠ []) (ok : okFrom sts.length 0 sts) (hl : sts.length ≤ 1000) : sem_turned_round [.d (arenaD sts)] = .ok (arenaD (sts.map Sta.turn)) [] := by
  have sm := okFrom.sm ok
  obtain ⟨x', y', g⟩ := tr_loop (A0 := arenaD sts) sts [] .no .no (fun s hs => (sm s hs).1) (by simp; omega) rfl rfl
  rw [List.nil_append] at g
  have E : Encs (sts.map Sta.turn) (sts.map tE) := by
    have : ∀ l : List Sta, (∀ s ∈ l, s.sm) → Encs (l.map Sta.turn) (l.map tE) := fun l => by
      induction l with
      | nil => exact fun _ => .nil
      | cons s l ih => exact fun h => .cons (enc_tE (h s (by simp))) (ih fun t ht => h t (by simp [ht]))
    exact this sts fun s hs => (sm s hs).1
  have ok' := okFrom.turn ok
  have ar := arena_ok E (by simpa using hne) (by rw [List.length_map]; exact ok') (by rw [List.length_map]; exact hl)
  have cp0 : capd 0 = true := by decide
  unfold trB at g
  unfold sem_turned_round b_turned_round
  have tl : (D.tup (sts.map Sta.kept)).seq? = some (sts.map Sta.kept) := seq_tup _
  simp?! [exM, exD_eq, canSet_eq, canS_no, cp0, fld_states, tl, chk_seq, g, ar]
  rfl
end K84

/-! P24 -/
namespace K84
open scoped Rat
open PySem T L2
theorem fb_some {low : Bool} {told : Told} : ∀ {r : List Sta} {k : Nat} {s : Sta}, fb low told k r = some s → s ∈ r
  | [], _, _, h => by cases h
  | t :: r, k, s, h => by
    unfold fb at h
    split at h
    · cases h; simp
    · exact List.mem_cons_of_mem _ (fb_some h)
theorem judge_high_bad {arena paper num : D} (hn : nin num = true) (hr : ratD num = none) : sem_judge_high [.d arena, .d paper, .d num] = exR "ratio" := by
  have r := ratio_in_none hn hr
  unfold exR at r ⊢
  unfold sem_judge_high b_judge_high
  simp?! [r]
theorem judge_high_none {k : Nat} {sts : List Sta} {paper num : D} {y : Rat} (hN : IsR k num y) (k1 : k ≤ 1000) (hn : nin paper = true) (hp : paper.seq? = none) : sem_judge_high [.d (arenaD sts), .d paper, .d num] = .ok (.str "form") [] := by
  have e : fIsN .non .non = some (.bl true) := nrfl rfl
  unfold sem_judge_high b_judge_high
  simp?! [hN.in_ (by omega), canSet_eq, canS_no, paper_none hn hp, e]
def toldOn (told : Told) (S : List Nat) : Told := fun i => if i ∈ S then negT told i else none
theorem toldOn_snoc (told : Told) (S : List Nat) (i : Nat) (x : Rat) (h : told i = some x) : upd1 (toldOn told S) i (-x) = toldOn told (S ++ [i]) := by
  funext j
  unfold upd1 toldOn
  by_cases e : j = i
  · subst e; simp [negT, h]
  · simp [e]
def hiK : EX tau := EX.var 7
def hiV : EX tau := EX.call sem_minus (AX.cons (EX.tup (AX.cons (EX.int 0) (AX.cons (EX.int 1) (AX.nil)))) (AX.cons (EX.dget (EX.var 4) (EX.var 7)) (AX.nil)))
theorem dc_loop {n m : Nat} {kvs : List (Key × D)} {told : Told} (h : DT n kvs told) (n1 : n ≤ 1000) {env0 : En} {a b c d2 : Sl} (he : env0 = [a, b, c, d2, .dat (.dic kvs), .no, .no, .no]) : ∀ (r pre : List Nat) (acc : List (Key × D)), KD n m acc (toldOn told pre) → (∀ i ∈ r, i ∉ pre) → r.Nodup → (∀ i ∈ r, i < m ∧ (told i).isSome = true) → acc.length + r.length ≤ 1000000 →
    ∃ acc', runDc (fun _ => true) (GX.name 7 : GX tau).ev (TX.yes : TX tau).ev hiK.ev hiV.ev [7] (r.map iD) env0 acc = .ok acc' env0 ∧ KD n m acc' (toldOn told (pre ++ r))
  | [], pre, acc, k, _, _, _, _ => ⟨acc, by simp [runDc], by simpa using k⟩
  | i :: r, pre, acc, k, hp, nd, hm, hl => by
    obtain ⟨i1, i2⟩ := hm i (by simp)
    cases t : told i with
    | none => rw [t] at i2; cases i2
    | some x =>
      have ni : i ∉ pre := hp i (by simp)
      have t0 : toldOn told pre i = none := by unfold toldOn; rw [if_neg ni]
      have sx := h.sz _ _ t
      have mi := minus_eq is01 (IsR.rat sx) (by omega)
      rw [show (0 : Rat) - x = -x by rw [Rat.sub_eq_add_neg, Rat.zero_add]] at mi
      have k2 := k.upd i1 t0 sx.neg
      rw [toldOn_snoc told pre i x t] at k2
      have hn : lookD acc (Sum.inl (i : Int)) = none := by rw [k.dt.get, t0]; rfl
      simp only [List.length_cons] at hl
      have cp : capd acc.length = true := by unfold capd; simp; omega
      rw [List.nodup_cons] at nd
      obtain ⟨acc', q1, q2⟩ := dc_loop (m := m) h n1 he r (pre ++ [i]) (putD acc (Sum.inl (i : Int)) (rat (-x))) k2 (fun j hj => by
        simp only [List.mem_append, List.mem_singleton, not_or]
        exact ⟨hp j (by simp [hj]), fun z => nd.1 (z ▸ hj)⟩) nd.2 (fun j hj => hm j (by simp [hj])) (by rw [putD_new _ _ _ hn]; simp; omega)
      refine ⟨acc', ?_, by simpa using q2⟩
      rw [← q1]
      subst he
      have g1 : (GX.name 7 : GX tau).ev (iD i) [a, b, c, d2, .dat (.dic kvs), .no, .no, .no] = some [a, b, c, d2, .dat (.dic kvs), .no, .no, .dat (iD i)] := by simp?! [g_nm, canSet_eq, canS_no]
      have g2 : (TX.yes : TX tau).ev [a, b, c, d2, .dat (.dic kvs), .no, .no, .dat (iD i)] = .ok true [a, b, c, d2, .dat (.dic kvs), .no, .no, .dat (iD i)] := rfl
      have g3 : hiK.ev [a, b, c, d2, .dat (.dic kvs), .no, .no, .dat (iD i)] = .ok (iD i) [a, b, c, d2, .dat (.dic kvs), .no, .no, .dat (iD i)] := by unfold hiK; simp?!
      have g4 : hiV.ev [a, b, c, d2, .dat (.dic kvs), .no, .no, .dat (iD i)] = .ok (rat (-x)) [a, b, c, d2, .dat (.dic kvs), .no, .no, .dat (iD i)] := by unfold hiV; simp?! [fTup2, fDget_at h t, mi]
      have g5 : wipeE [a, b, c, d2, .dat (.dic kvs), .no, .no, .dat (iD i)] [7] = [a, b, c, d2, .dat (.dic kvs), .no, .no, .no] := by simp?!
      simp only [List.map_cons, runDc, if_true, g1, g2, g3, g4, keyD_iD, cp, g5]
theorem dcK_ev {n m : Nat} {kvs : List (Key × D)} {told : Told} (h : KD n m kvs told) (n1 : n ≤ 1000) (hm : m ≤ 1000) {a b c d2 : Sl} (hg : ∀ j ∈ (GX.name 7 : GX tau).sl, j ∈ [7]) :
    ∃ acc, (FX.dcK 4 (GX.name 7) (TX.yes) hiK hiV [7] hg : FX tau).ev [a, b, c, d2, .dat (.dic kvs), .no, .no, .no] = .ok (.dic acc) [a, b, c, d2, .dat (.dic kvs), .no, .no, .no] ∧ KD n m acc (negT told) := by
  obtain ⟨ks, k1, k2, k3, k4⟩ := h.ks
  have e1 : (kvs.map fun p => keyOf p.1) = ks.map iD := by
    have : (kvs.map fun p => keyOf p.1) = (kvs.map (·.1)).map keyOf := by rw [List.map_map]; rfl
    rw [this, k1, List.map_map]; rfl
  have hl : ks.length ≤ m := by
    have pm : ks.Perm (inT told m) := by
      refine (List.perm_ext_iff_of_nodup k2 (List.Pairwise.filter _ (List.nodup_range' (step := 1)))).mpr fun a => ?_
      simp only [inT, List.mem_filter, List.mem_range'_1]
      constructor
      · intro ha
        exact ⟨⟨Nat.zero_le _, by have := k4 a ha; omega⟩, (k3 a).mp ha⟩
      · intro ⟨_, ha⟩
        exact (k3 a).mpr ha
    rw [pm.length_eq]
    have := List.length_filter_le (fun i => (told i).isSome) (List.range' 0 m)
    simpa [inT] using this
  have K0 : KD n m [] (toldOn told []) := by
    have : toldOn told [] = fun _ => none := by funext i; simp [toldOn]
    rw [this]; exact KD.none
  obtain ⟨acc, q1, q2⟩ := dc_loop h.dt n1 (a := a) (b := b) (c := c) (d2 := d2) rfl ks [] [] K0 (fun _ _ z => by simp at z) k2 (fun i hi => ⟨k4 i hi, (k3 i).mp hi⟩) (by simp; omega)
  refine ⟨acc, ?_, ?_⟩
  · show (match datDic [a, b, c, d2, .dat (.dic kvs), .no, .no, .no] 4 with
      | some kvs => if okVs [a, b, c, d2, .dat (.dic kvs), .no, .no, .no] [7] then (match runDc (fun _ => true) (GX.name 7 : GX tau).ev (TX.yes : TX tau).ev hiK.ev hiV.ev [7] (kvs.map fun (p : Key × D) => keyOf p.1) (wipeE [a, b, c, d2, .dat (.dic kvs), .no, .no, .no] [7]) [] with
        | .ok acc e2 => R.ok (O.dic acc) (restE [a, b, c, d2, .dat (.dic kvs), .no, .no, .no] e2 [7])
        | _ => .bad) else .bad
      | none => .bad) = _
    have e2 : datDic [a, b, c, d2, .dat (.dic kvs), .no, .no, .no] 4 = some kvs := rfl
    have e3 : okVs [a, b, c, d2, .dat (.dic kvs), .no, .no, .no] [7] = true := rfl
    have e4 : wipeE [a, b, c, d2, .dat (.dic kvs), .no, .no, .no] [7] = [a, b, c, d2, .dat (.dic kvs), .no, .no, .no] := rfl
    simp only [e2, e3, if_true, e4, e1, q1]
    rfl
  · have : toldOn told ([] ++ ks) = negT told := by
      funext i
      unfold toldOn
      rw [List.nil_append]
      split
      · rfl
      · rename_i z
        have : (told i).isSome ≠ true := fun q => z ((k3 i).mpr q)
        unfold negT
        cases t : told i with
        | none => rfl
        | some y => rw [t] at this; simp at this
    rw [this] at q2
    exact q2
end K84

/-! P25 -/
namespace K84
open scoped Rat
open PySem T L2
theorem turn_map_at {sts : List Sta} {i : Nat} {s : Sta} (h : (sts.map Sta.turn)[i]? = some s) : ∃ t, sts[i]? = some t ∧ s = t.turn := by
  rw [List.getElem?_map] at h
  cases e : sts[i]? with
  | none => rw [e] at h; cases h
  | some t => rw [e] at h; cases h; exact ⟨t, rfl, rfl⟩
theorem turn_inj {s t : Sta} (h : s.turn.turn = t.turn.turn) : s.kind = t.kind := by
  have k : ∀ u : Sta, u.turn.turn.kind = u.kind := fun u => by cases u <;> simp [Sta.turn, Sta.kind]
  rw [← k s, ← k t, h]
theorem turn_kind {s t : Sta} (h : s.turn = t.turn) : s.kind = t.kind := turn_inj (by rw [h])
theorem judge_high_eq {n k : Nat} {paper num : D} {sts : List Sta} {ds : List D} {y : Rat} (hn : nin paper = true) (hp : paper.seq? = some ds) (ho : ∀ d ∈ ds, PrOk n d) (hN : IsR k num y) (n1 : n ≤ 1000) (k1 : k ≤ 1000) (hl : ds.length ≤ 1000000) (hm2 : sts.length ≤ 63) (hne : sts ≠ []) (ok : okFrom sts.length 0 sts) :
    sem_judge_high [.d (arenaD sts), .d paper, .d num] = .ok (.str (word false sts y ds)) [] := by
  have e : fIsN .non .non = some (.bl true) := nrfl rfl
  have sm := okFrom.sm ok
  have tu := turned_eq hne ok (by omega)
  have smt : ∀ s ∈ sts.map Sta.turn, s.sm := fun s hs => by
    have := okFrom.sm (okFrom.turn ok) s hs
    exact this.1
  unfold word
  rcases paper_eq (sts := sts) hn hp ho n1 hl with ⟨a1, a2⟩ | ⟨told, kvs, a1, a2, a3⟩
  · rw [a1]
    unfold sem_judge_high b_judge_high
    simp?! [hN.in_ (by omega), canSet_eq, canS_no, a2, e]
  · rw [a1]
    dsimp only
    have d0 : fDin true (.int 0) (.dic kvs) = some (.bl (!(told 0).isSome)) := fDin_not a2.dt 0
    obtain ⟨acc, c1, c2⟩ := dcK_ev a2 n1 (by omega) (a := .dat (arenaD sts)) (b := .dat paper) (c := .dat num) (d2 := .dat (rat y)) (by decide)
    unfold hiK hiV at c1
    unfold endw
    cases t : told 0 with
    | none =>
      unfold sem_judge_high b_judge_high
      simp?! [hN.in_ (by omega), canSet_eq, canS_no, a3, isN_dic, d0, t, Option.isSome_none]
    | some v0 =>
      dsimp only
      have c2' : KD n (sts.map Sta.turn).length acc (negT told) := by rw [List.length_map]; exact c2
      have fbt := fb_turn told sts 0
      rcases first_fallen_eq c2' n1 smt (by rw [List.length_map]; exact hm2) with ⟨s, i, b1, b2, b3⟩ | ⟨b1, b2⟩
      · obtain ⟨u, u1, u2⟩ := turn_map_at b2
        rw [fbt] at b1
        cases q : fb false told 0 sts with
        | none => rw [q] at b1; cases b1
        | some w =>
          rw [q] at b1
          have e1 : w.turn = s := Option.some.inj b1
          have ek : u.kind = w.kind := turn_kind (by rw [← u2, e1])
          dsimp only
          rw [← ek]
          unfold sem_judge_high b_judge_high
          simp?! [hN.in_ (by omega), canSet_eq, canS_no, a3, isN_dic, d0, t, Option.isSome_some, c1, tu, b3, notN_iD, fld_states, kept_at u1, kkind_at]
      · rw [fbt] at b1
        have q : fb false told 0 sts = none := by
          cases q : fb false told 0 sts with
          | none => rfl
          | some w => rw [q] at b1; cases b1
        rw [q]
        dsimp only
        have g0 : fDget (.dic kvs) (.int 0) = some (rat v0) := fDget_at a2.dt t
        have am := at_most_eq (IsR.rat (a2.dt.sz _ _ t)) (IsR.rat hN.sz) (by omega)
        unfold sem_judge_high b_judge_high
        simp only [leb, Bool.false_eq_true, if_false]
        cases c : decide (v0 ≤ y) with
        | true => simp?! [hN.in_ (by omega), canSet_eq, canS_no, a3, isN_dic, d0, t, Option.isSome_some, c1, tu, b2, notN_non, g0, am, c]
        | false => simp?! [hN.in_ (by omega), canSet_eq, canS_no, a3, isN_dic, d0, t, Option.isSome_some, c1, tu, b2, notN_non, g0, am, c]
end K84

/-! P26 -/
namespace K84
open scoped Rat
open PySem T L2
theorem sub1 : tau.sub 1 1 = some true := rfl
theorem sub2 : tau.sub 2 2 = some true := rfl
theorem judged_ok {arena paper num : D} {w : Str} {low : Bool} (h : (if low then sem_judge_low else sem_judge_high) [.d arena, .d paper, .d num] = .ok (.str w) []) : sem__law_judged [.d arena, .d paper, .d num, .d (.bl low)] = .ok (.str w) [] := by
  unfold sem__law_judged b__law_judged
  cases low with
  | true =>
    simp only [if_true] at h
    simp?! [canSet_eq, canS_no, canS_dat, h]
  | false =>
    simp only [Bool.false_eq_true, if_false] at h
    simp?! [canSet_eq, canS_no, canS_dat, h]
theorem judged_bad {arena paper num : D} {low : Bool} (hn : nin num = true) (hr : ratD num = none) : sem__law_judged [.d arena, .d paper, .d num, .d (.bl low)] = .ok (.lst [.str "number", .str "ratio"]) [] := by
  have h1 := judge_low_bad (arena := arena) (paper := paper) hn hr
  have h2 := judge_high_bad (arena := arena) (paper := paper) hn hr
  unfold exR at h1 h2
  unfold sem__law_judged b__law_judged
  cases low with
  | true =>
    simp?! [canSet_eq, canS_no, canS_dat, h1, sub1]
    rfl
  | false =>
    simp?! [canSet_eq, canS_no, canS_dat, h2, sub1]
    rfl
end K84

/-! P27 -/
namespace K84
open scoped Rat
open PySem T L2
theorem refused_of {L : D} {i : Int} {w : Str} (h : sem_Arena_init [.o (.ins 0 []), .d L] = .exc 2 (excA i w) [.ins 0 []]) : sem__law_refused [.d L] = .ok (.lst [.int i, .str w]) [] := by
  have cp : capd 1 = true := by decide
  unfold sem__law_refused b__law_refused
  simp?! [cp, canSet_eq, canS_no, canS_dat, h, sub2]
  rfl
end K84

/-! P28 -/
namespace K84
open scoped Rat
open PySem T L2
/-- the draws that are left -/
def drO (l : List Int) : O := .lst (l.map D.int)
theorem take_eq (l : List Int) {m : Int} (hm : 1 ≤ m) : ∃ (r : Int) (l' : List Int), 0 ≤ r ∧ r < m ∧ l'.length ≤ l.length ∧ sem__law_take [.o (drO l), .d (.int m)] = .ok (.int r) [drO l'] := by
  unfold drO
  by_cases h : l = []
  · subst h
    refine ⟨0, [], Int.le_refl 0, by omega, Nat.le_refl _, ?_⟩
    unfold sem__law_take b__law_take
    simp?! [fEq_int]
  · have hl : (l.map D.int).length ≠ 0 := by simpa using h
    have e0 := fEq_len hl
    have e1 : (l.map D.int)[(l.map D.int).length - 1]? = some (.int (l.getLast h)) := by
      rw [List.getElem?_map, List.length_map, ← List.getLast?_eq_getElem?, List.getLast?_eq_some_getLast h]; rfl
    have e2 : (l.map D.int).dropLast = l.dropLast.map D.int := List.map_dropLast.symm
    refine ⟨l.getLast h % m, l.dropLast, Int.emod_nonneg _ (by omega), Int.emod_lt_of_pos _ (by omega), by simp, ?_⟩
    unfold sem__law_take b__law_take
    simp?! [e0, e1, e2, fInt1_int, fI_mod (show 0 < m by omega)]
end K84

/-! P29 -/
namespace K84
open scoped Rat
open PySem T L2
theorem pick_eq (l : List Int) {cs : List D} (hne : cs ≠ []) : ∃ (c : D) (l' : List Int), c ∈ cs ∧ l'.length ≤ l.length ∧ sem__law_pick [.o (drO l), .d (.lst cs)] = .ok c [drO l'] := by
  have hm : (1 : Int) ≤ (cs.length : Int) := by have := List.length_pos_iff.mpr hne; omega
  obtain ⟨r, l', h1, h2, h3, h4⟩ := take_eq l hm
  obtain ⟨j, rfl⟩ := Int.eq_ofNat_of_zero_le h1
  have hj : j < cs.length := by omega
  have e1 : fIx (.lst cs) (.int (j : Int)) = some cs[j] := by
    rw [show (D.int (j : Int)) = iD j from rfl, fIx_nat (seq_lst cs), List.getElem?_eq_getElem hj]
  unfold drO at h4
  refine ⟨cs[j], l', List.getElem_mem hj, h3, ?_⟩
  unfold drO sem__law_pick b__law_pick
  simp?! [fLen_seq (seq_lst cs), h4, e1, List.nodup_cons, List.not_mem_nil, not_false_eq_true, and_self]
end K84

/-! P30 -/
namespace K84
open scoped Rat
open PySem T L2
def ratC : List (Int × Int) := [(3, 1), (0, 1), (-1, 2), (2, 4), (5, 7), (1000000000000, 1), (-8, 2), (1, 3)]
theorem fNeg_i (a : Int) : fNeg (.int a) = some (.int (-a)) := nrfl rfl
theorem pow12 : fI (fun i j => i ^ j.toNat) powC (.int 10) (.int 12) = some (.int 1000000000000) := by simp [fI, powC]
theorem cap8 : capd 8 = true := by decide
theorem drawn_ratio_eq (l : List Int) : ∃ (p q : Int) (l' : List Int), 1 ≤ q ∧ bt 50 p ∧ bt 50 q ∧ l'.length ≤ l.length ∧ sem__law_drawn_ratio [.o (drO l)] = .ok (.tup [.int p, .int q]) [drO l'] := by
  obtain ⟨c, l', h1, h2, h3⟩ := pick_eq l (cs := ratC.map fun x => D.tup [.int x.1, .int x.2]) (by simp [ratC])
  obtain ⟨x, x1, rfl⟩ := List.mem_map.mp h1
  have hb : 1 ≤ x.2 ∧ bt 50 x.1 ∧ bt 50 x.2 := by
    have : ∀ x ∈ ratC, 1 ≤ x.2 ∧ x.1.natAbs < 2 ^ 50 ∧ x.2.natAbs < 2 ^ 50 := by decide
    exact this x x1
  refine ⟨x.1, x.2, l', hb.1, hb.2.1, hb.2.2, h2, ?_⟩
  unfold drO at h3 ⊢
  simp only [ratC, List.map_cons, List.map_nil] at h3
  unfold sem__law_drawn_ratio b__law_drawn_ratio
  simp?! [fTup2, e_neg, e_pow, fNeg_i, pow12, cap8, h3, List.nodup_cons, List.not_mem_nil, not_false_eq_true, and_self]
end K84

/-! P31 -/
namespace K84
open scoped Rat
open PySem T L2
/-- the inner turns of _law_draws: at most one draw each -/
def drB : SX tau := SX.ite (TX.or (TX.ofE (EX.eq (EX.var 4) (EX.int 0))) (TX.ofE (EX.gt (EX.var 3) (EX.int 0)))) (SX.seq (SX.app 1 (EX.mod (EX.int1 (AX.cons (EX.var 3) (AX.nil))) (EX.int 12)))
  (SX.asg 3 (EX.fdiv (EX.int1 (AX.cons (EX.var 3) (AX.nil))) (EX.int 12)))) (SX.nx)
theorem d12 (a : Int) : fI (fun i j => i / j) divC (.int a) (.int 12) = some (.int (a / 12)) := by
  have : (12 : Nat).log2 < 9000 := by decide +kernel
  simp [fI, divC, this]
theorem dr_loop {L w : Sl} : ∀ (ds : List Int) (l : List Int) (num : Int) (v : Sl), l.length + ds.length ≤ 100000 → okS v = true →
    ∃ l' num' v', l'.length ≤ l.length + ds.length ∧ okS v' = true ∧ runFor (fun _ => true) (GX.name 4 : GX tau).ev drB.ev (ds.map D.int) [L, .own none (drO l), w, .dat (.int num), v] = .ok .nx [L, .own none (drO l'), w, .dat (.int num'), v']
  | [], l, num, v, _, hv => ⟨l, num, v, by simp, hv, for_nil _ _ _⟩
  | d :: ds, l, num, v, hl, hv => by
    simp only [List.length_cons] at hl
    rw [List.map_cons, for_cons]
    have cp : capd (l.map D.int).length = true := by unfold capd; simp; omega
    have hm : fI (fun i j => i % j) modC (.int num) (.int 12) = some (.int (num % 12)) := fI_mod (by decide)
    by_cases c : (d == 0) = true ∨ 0 < num
    · obtain ⟨l', num', v', h1, h2, h3⟩ := dr_loop (L := L) (w := w) ds (l ++ [num % 12]) (num / 12) (.dat (.int d)) (by simp; omega) rfl
      refine ⟨l', num', v', by simp at h1 ⊢; omega, h2, ?_⟩
      rw [← h3]
      have e : (drO (l ++ [num % 12])) = .lst (l.map D.int ++ [.int (num % 12)]) := by simp [drO]
      rw [e]
      unfold drB drO
      by_cases c1 : (d == 0) = true
      · simp?! [g_nm, canSet_eq, canS_ok hv, canS_dat, fEq_int, c1, fInt1_int, hm, cp, d12]
      · have c2 : 0 < num := c.resolve_left c1
        have c1' : (d == 0) = false := by simpa using c1
        simp?! [g_nm, canSet_eq, canS_ok hv, canS_dat, fEq_int, c1', fIB_int, c2, decide_true, fInt1_int, hm, cp, d12]
    · have c1' : (d == 0) = false := by
        cases h : (d == 0) with
        | false => rfl
        | true => exact absurd (.inl h) c
      have c2 : ¬ 0 < num := fun z => c (.inr z)
      obtain ⟨l', num', v', h1, h2, h3⟩ := dr_loop (L := L) (w := w) ds l num (.dat (.int d)) (by omega) rfl
      refine ⟨l', num', v', by simp only [List.length_cons]; omega, h2, ?_⟩
      rw [← h3]
      unfold drB drO
      simp?! [g_nm, canSet_eq, canS_ok hv, canS_dat, fEq_int, c1', fIB_int, c2, decide_false]
end K84

/-! P32 -/
namespace K84
open scoped Rat
open PySem T L2
def doB : SX tau := SX.seq (SX.asg 3 (EX.int1 (AX.cons (EX.idx (EX.var 0) (EX.var 2)) (AX.nil))))
  (SX.seq (SX.ite (TX.ofE (EX.lt (EX.var 3) (EX.int 0))) (SX.asg 3 (EX.sub (EX.int 1) (EX.var 3))) (SX.nx))
  (SX.seq (SX.asg 3 (EX.mod (EX.int1 (AX.cons (EX.var 3) (AX.nil))) (EX.int 700000000000)))
  (SX.forE (IX.range1 (AX.cons (EX.int 11) (AX.nil))) (GX.name 4) drB)))
theorem rng11 : rng1 [.int 11] = some (([0, 1, 2, 3, 4, 5, 6, 7, 8, 9, 10] : List Int).map D.int) := by simp [rng1, smallI, rangeD, List.range_succ]
theorem seq_scr (l : List D) : (D.scr l).seq? = some l := nrfl rfl
theorem do_loop {ns : List Int} : ∀ (is : List Nat) (l : List Int) (x y z : Sl), (∀ i ∈ is, i < ns.length) → l.length + is.length * 11 ≤ 10000 → okS x = true → okS y = true → okS z = true →
    ∃ l' x' y' z', l'.length ≤ l.length + is.length * 11 ∧ runFor (fun _ => true) (GX.name 2 : GX tau).ev doB.ev (is.map iD) [.dat (.scr (ns.map D.int)), .own none (drO l), x, y, z] = .ok .nx [.dat (.scr (ns.map D.int)), .own none (drO l'), x', y', z']
  | [], l, x, y, z, _, _, hx, hy, hz => ⟨l, x, y, z, by simp, for_nil _ _ _⟩
  | i :: is, l, x, y, z, hi, hl, hx, hy, hz => by
    simp only [List.length_cons, Nat.add_mul, Nat.one_mul] at hl
    have h0 := hi i (by simp)
    have e1 : fIx (.scr (ns.map D.int)) (iD i) = some (.int ns[i]) := by
      rw [fIx_nat (seq_scr _), List.getElem?_map, List.getElem?_eq_getElem h0]; rfl
    have hm : ∀ a : Int, fI (fun i j => i % j) modC (.int a) (.int 700000000000) = some (.int (a % 700000000000)) := fun a => fI_mod (by decide)
    rw [List.map_cons, for_cons]
    have fin : ∀ num : Int, ∃ l' x' y' z', l'.length ≤ l.length + (i :: is).length * 11 ∧ fForK (GX.name 2 : GX tau).ev doB.ev (is.map iD) (runFor (fun _ => true) (GX.name 4 : GX tau).ev drB.ev (([0, 1, 2, 3, 4, 5, 6, 7, 8, 9, 10] : List Int).map D.int) [.dat (.scr (ns.map D.int)), .own none (drO l), .dat (iD i), .dat (.int num), z]) = .ok .nx [.dat (.scr (ns.map D.int)), .own none (drO l'), x', y', z'] := fun num => by
      obtain ⟨l1, n1, v1, a1, a2, a3⟩ := dr_loop (L := .dat (.scr (ns.map D.int))) (w := .dat (iD i)) [0, 1, 2, 3, 4, 5, 6, 7, 8, 9, 10] l num z (by simp; omega) hz
      simp only [List.length_cons, List.length_nil] at a1
      obtain ⟨l', x', y', z', b1, b2⟩ := do_loop (ns := ns) is l1 (.dat (iD i)) (.dat (.int n1)) v1 (fun j hj => hi j (by simp [hj])) (by omega) rfl rfl a2
      refine ⟨l', x', y', z', by simp only [List.length_cons, Nat.add_mul, Nat.one_mul]; omega, ?_⟩
      rw [a3, fForK_nx, b2]
    by_cases c : ns[i] < 0
    · obtain ⟨l', x', y', z', g1, g2⟩ := fin ((1 - ns[i]) % 700000000000)
      refine ⟨l', x', y', z', g1, ?_⟩
      rw [← g2]
      unfold doB
      simp?! [g_nm, canSet_eq, canS_ok hx, canS_ok hy, canS_dat, e1, fInt1_int, fIB_int, c, decide_true, fI_sub, hm, rng11, chk_range1]
    · obtain ⟨l', x', y', z', g1, g2⟩ := fin (ns[i] % 700000000000)
      refine ⟨l', x', y', z', g1, ?_⟩
      rw [← g2]
      unfold doB
      simp?! [g_nm, canSet_eq, canS_ok hx, canS_ok hy, canS_dat, e1, fInt1_int, fIB_int, c, decide_false, hm, rng11, chk_range1]
end K84

/-! P33 -/
namespace K84
open scoped Rat
open PySem T L2
theorem draws_eq {ns : List Int} (h : ns.length ≤ 63) : ∃ l : List Int, l.length ≤ 693 ∧ sem__law_draws [.d (.scr (ns.map D.int))] = .fr (drO l) [] := by
  obtain ⟨l', x', y', z', a1, a2⟩ := do_loop (ns := ns) (List.range' 0 ns.length) [] .no .no .no (fun i hi => by rw [List.mem_range'_1] at hi; omega) (by simp; omega) rfl rfl rfl
  simp only [List.length_range', List.length_nil] at a1
  have mn : fMin2 [.int (ns.length : Int), .int 63] = some (.int (ns.length : Int)) := by
    show some (D.int (if (63 : Int) < (ns.length : Int) then 63 else (ns.length : Int))) = _
    rw [if_neg (by omega)]
  have e1 : fLen [D.scr (ns.map D.int)] = some (.int (ns.length : Int)) := by rw [fLen_seq (seq_scr _), List.length_map]
  have cp0 : capd 0 = true := by decide
  have rv : (l'.map D.int).reverse = l'.reverse.map D.int := by rw [List.map_reverse]
  refine ⟨l'.reverse, by simp; omega, ?_⟩
  unfold doB drB drO at a2
  simp only [List.map_nil] at a2
  unfold sem__law_draws b__law_draws drO
  simp?! [cp0, canSet_eq, canS_no, e1, mn, rng_len (show ns.length ≤ 1000 by omega), chk_range1, a2, rv]
end K84

/-! P34 -/
namespace K84
open scoped Rat
open PySem T L2
/-- a comprehension whose state moves on -/
theorem runLc_inv {g : D → En → Option En} {t : En → R Bool} {f : En → R D} {vs : List Nat} (Inv : En → Prop) (Q : D → Prop) : ∀ (ds acc : List D) (e : En), Inv e → (∀ d ∈ ds, ∀ e, Inv e → ∃ e1 z e2, g d e = some e1 ∧ t e1 = .ok true e1 ∧ f e1 = .ok z e2 ∧ Q z ∧ Inv (wipeE e2 vs)) → acc.length + ds.length ≤ 16000000 →
    ∃ zs e', zs.length = ds.length ∧ (∀ z ∈ zs, Q z) ∧ Inv e' ∧ runLc (fun _ => true) g t f vs ds e acc = .ok (acc ++ zs) e'
  | [], acc, e, i, _, _ => ⟨[], e, rfl, by simp, i, by simp [runLc]⟩
  | d :: ds, acc, e, i, h, hl => by
    obtain ⟨e1, z, e2, h1, h2, h3, h4, h5⟩ := h d (by simp) e i
    simp only [List.length_cons] at hl
    obtain ⟨zs, e', a1, a2, a3, a4⟩ := runLc_inv Inv Q ds (acc ++ [z]) (wipeE e2 vs) h5 (fun x hx => h x (by simp [hx])) (by simp; omega)
    have cp : capd acc.length = true := by unfold capd; simp; omega
    refine ⟨z :: zs, e', by simp [a1], fun y hy => ?_, a3, ?_⟩
    · rcases List.mem_cons.mp hy with rfl | q
      · exact h4
      · exact a2 y q
    · simp only [runLc, if_true, h1, h2, h3, cp, a4]
      simp
end K84

/-! P35 -/
namespace K84
open scoped Rat
open PySem T L2
def flX : EX tau := EX.add (EX.add (EX.var 3) (EX.int 1)) (EX.mod (EX.add (EX.var 7) (EX.call sem__law_take (AX.lend 0 (AX.cons (EX.var 5) (AX.nil))))) (EX.var 5))
def dsInv (L : Nat) (M i : Int) (acc : List D) (k : D) (s6 : Sl) (e : En) : Prop := ∃ l : List Int, l.length ≤ L ∧ e = [.own (some 0) (drO l), .dat (.int M), .own none (.lst acc), .dat (.int i), .dat k, .dat (.int (M - 1 - i)), s6, .no, .no]
/-- one follower -/
theorem fl_turn {L : Nat} {M i : Int} {acc : List D} {k : D} {s6 : Sl} (hi : 0 ≤ i) (hM : i < M - 1) (c : Int) (e : En) (he : dsInv L M i acc k s6 e) :
    ∃ e1 z e2, (GX.name 7 : GX tau).ev (.int c) e = some e1 ∧ (TX.yes : TX tau).ev e1 = .ok true e1 ∧ flX.ev e1 = .ok z e2 ∧ (∃ f : Nat, z = iD f ∧ i < f ∧ f < M) ∧ dsInv L M i acc k s6 (wipeE e2 [7]) := by
  obtain ⟨l, hl, rfl⟩ := he
  obtain ⟨r, l', h1, h2, h3, h4⟩ := take_eq l (m := M - 1 - i) (by omega)
  have g1 := Int.emod_nonneg (c + r) (by omega : M - 1 - i ≠ 0)
  have g2 := Int.emod_lt_of_pos (c + r) (by omega : 0 < M - 1 - i)
  refine ⟨[.own (some 0) (drO l), .dat (.int M), .own none (.lst acc), .dat (.int i), .dat k, .dat (.int (M - 1 - i)), s6, .dat (.int c), .no], .int (i + 1 + (c + r) % (M - 1 - i)), [.own (some 0) (drO l'), .dat (.int M), .own none (.lst acc), .dat (.int i), .dat k, .dat (.int (M - 1 - i)), s6, .dat (.int c), .no], by simp?! [g_nm, canSet_eq, canS_no], by simp?!, ?_, ⟨(i + 1 + (c + r) % (M - 1 - i)).toNat, ?_, by omega, by omega⟩, l', by omega, by simp?!⟩
  · unfold flX
    unfold drO at h4 ⊢
    simp?! [fI_add, h4, List.nodup_cons, List.not_mem_nil, not_false_eq_true, and_self, fI_mod (show 0 < M - 1 - i by omega)]
  · unfold iD
    congr 1
    omega
end K84

/-! P36 -/
namespace K84
open scoped Rat
open PySem T L2
def wtX : EX tau := EX.tup (AX.cons (EX.call sem__law_pick (AX.lend 0 (AX.cons (EX.ofF (FX.lst (AX.cons (EX.int 1) (AX.cons (EX.int 2) (AX.cons (EX.int 3) (AX.cons (EX.int 1) (AX.cons (EX.int 5) (AX.cons (EX.int 100) (AX.nil))))))))) (AX.nil)))) (AX.cons (EX.var 8) (AX.nil)))
def wts : List Int := [1, 2, 3, 1, 5, 100]
theorem cap6 : capd 6 = true := by decide
/-- one weighted follower -/
theorem wt_turn {L : Nat} {M i : Int} {acc : List D} {k : D} {s6 : Sl} (f : Nat) (e : En) (he : dsInv L M i acc k s6 e) :
    ∃ e1 z e2, (GX.name 8 : GX tau).ev (iD f) e = some e1 ∧ (TX.yes : TX tau).ev e1 = .ok true e1 ∧ wtX.ev e1 = .ok z e2 ∧ (∃ w : Int, z = .tup [.int w, iD f] ∧ 1 ≤ w ∧ bt 7 w) ∧ dsInv L M i acc k s6 (wipeE e2 [8]) := by
  obtain ⟨l, hl, rfl⟩ := he
  obtain ⟨c, l', h1, h2, h3⟩ := pick_eq l (cs := wts.map D.int) (by simp [wts])
  obtain ⟨w, w1, rfl⟩ := List.mem_map.mp h1
  have hb : 1 ≤ w ∧ bt 7 w := by
    have : ∀ x ∈ wts, 1 ≤ x ∧ x.natAbs < 2 ^ 7 := by decide
    exact this w w1
  refine ⟨[.own (some 0) (drO l), .dat (.int M), .own none (.lst acc), .dat (.int i), .dat k, .dat (.int (M - 1 - i)), s6, .no, .dat (iD f)], .tup [.int w, iD f], [.own (some 0) (drO l'), .dat (.int M), .own none (.lst acc), .dat (.int i), .dat k, .dat (.int (M - 1 - i)), s6, .no, .dat (iD f)], by simp?! [g_nm, canSet_eq, canS_no], by simp?!, ?_, ⟨w, rfl, hb.1, hb.2⟩, l', by omega, by simp?!⟩
  unfold wtX
  unfold drO at h3 ⊢
  simp only [wts, List.map_cons, List.map_nil] at h3
  simp?! [cap6, h3, fTup2, List.nodup_cons, List.not_mem_nil, not_false_eq_true, and_self]
end K84

/-! P37 -/
namespace K84
open scoped Rat
open PySem T L2
theorem kind3 {i : Int} (h : 0 ≤ i) : ∃ k0 : Str, (k0 = "max" ∨ k0 = "min" ∨ k0 = "mean") ∧ fIx (.lst [.str "max", .str "min", .str "mean"]) (.int (i % 3)) = some (.str k0) := by
  have h1 := Int.emod_nonneg i (by decide : (3 : Int) ≠ 0)
  have h2 := Int.emod_lt_of_pos i (by decide : (0 : Int) < 3)
  have h3 : i % 3 = 0 ∨ i % 3 = 1 ∨ i % 3 = 2 := by omega
  rcases h3 with e | e | e <;> rw [e]
  · exact ⟨"max", .inl rfl, rfl⟩
  · exact ⟨"min", .inr (.inl rfl), rfl⟩
  · exact ⟨"mean", .inr (.inr rfl), rfl⟩
theorem wipe7 (a b c d e f g x : Sl) : wipeE [a, b, c, d, e, f, g, x, .no] [7] = [a, b, c, d, e, f, g, .no, .no] := rfl
theorem cap3 : capd 3 = true := by decide
theorem cap5 : capd 5 = true := by decide
def ns213 : List Int := [2, 1, 3]
/-- the followers -/
theorem fols {L : Nat} {M i : Int} {acc : List D} {k : D} {s6 : Sl} (hi : 0 ≤ i) (hM : i < M - 1) (e : En) (he : dsInv L M i acc k s6 e) (hg : ∀ j ∈ (GX.name 7 : GX tau).sl, j ∈ [7]) :
    ∃ (fs : List Nat) (e2 : En), fs ≠ [] ∧ fs.length ≤ 3 ∧ (∀ f ∈ fs, i < (f : Int) ∧ (f : Int) < M) ∧ dsInv L M i acc k s6 e2 ∧
    (FX.lc (IX.range1 (AX.cons (EX.call sem__law_pick (AX.lend 0 (AX.cons (EX.ofF (FX.lst (AX.cons (EX.int 2) (AX.cons (EX.int 1) (AX.cons (EX.int 3) (AX.nil)))))) (AX.nil)))) (AX.nil))) (GX.name 7) (TX.yes) flX [7] hg : FX tau).ev e = .ok (.lst (fs.map iD)) e2 := by
  obtain ⟨l, hl, rfl⟩ := he
  obtain ⟨c, l', h1, h2, h3⟩ := pick_eq l (cs := ns213.map D.int) (by simp [ns213])
  obtain ⟨n, n1, rfl⟩ := List.mem_map.mp h1
  have hn : 1 ≤ n ∧ n ≤ 3 := by
    have : ∀ x ∈ ns213, (1 : Int) ≤ x ∧ x ≤ 3 := by decide
    exact this n n1
  have rg : rng1 [.int n] = some (rangeD 0 n.toNat) := by
    have : smallI n = true := by simp [smallI]; omega
    simp [rng1, this]
  have I0 : dsInv L M i acc k s6 [.own (some 0) (drO l'), .dat (.int M), .own none (.lst acc), .dat (.int i), .dat k, .dat (.int (M - 1 - i)), s6, .no, .no] := ⟨l', by omega, rfl⟩
  obtain ⟨zs, e', a1, a2, a3, a4⟩ := runLc_inv (g := (GX.name 7 : GX tau).ev) (t := (TX.yes : TX tau).ev) (f := flX.ev) (vs := [7]) (dsInv L M i acc k s6) (fun z => ∃ f : Nat, z = iD f ∧ i < (f : Int) ∧ (f : Int) < M) (rangeD 0 n.toNat) [] _ I0 (fun d hd e he => by
    unfold rangeD at hd
    obtain ⟨j, _, rfl⟩ := List.mem_map.mp hd
    exact fl_turn hi hM _ e he) (by rw [rangeD_length]; simp; omega)
  rw [rangeD_length] at a1
  have hz : ∃ fs : List Nat, zs = fs.map iD ∧ ∀ f ∈ fs, i < (f : Int) ∧ (f : Int) < M := by
    clear a1 a4
    induction zs with
    | nil => exact ⟨[], rfl, by simp⟩
    | cons z zs ih =>
      obtain ⟨f, rfl, f1, f2⟩ := a2 z (by simp)
      obtain ⟨fs, rfl, g⟩ := ih fun y hy => a2 y (by simp [hy])
      exact ⟨f :: fs, rfl, fun x hx => by
        rcases List.mem_cons.mp hx with rfl | q
        · exact ⟨f1, f2⟩
        · exact g x q⟩
  obtain ⟨fs, rfl, hf⟩ := hz
  rw [List.length_map] at a1
  obtain ⟨l2, b1, rfl⟩ := a3
  refine ⟨fs, [.own (some 0) (drO l2), .dat (.int M), .own none (.lst acc), .dat (.int i), .dat k, .dat (.int (M - 1 - i)), s6, .no, .no], fun z => by rw [z] at a1; simp at a1; omega, by omega, hf, ⟨l2, b1, rfl⟩, ?_⟩
  unfold drO at h3
  simp only [ns213, List.map_cons, List.map_nil] at h3
  unfold drO at a4 ⊢
  rw [List.nil_append] at a4
  simp?! [cap3, h3, List.nodup_cons, List.not_mem_nil, not_false_eq_true, and_self, rg, chk_range1, okVs_cons, a4]
end K84

/-! P38 -/
namespace K84
open scoped Rat
open PySem T L2
/-- the weighted followers -/
theorem wfols {L : Nat} {M i : Int} {acc : List D} {k : D} (fs : List Nat) (hfl : fs.length ≤ 3) (e : En) (s6 : Sl) (he : dsInv L M i acc k s6 e) :
    ∃ (ws : List (Int × Nat)) (e2 : En), ws.length = fs.length ∧ (∀ x ∈ ws, x.2 ∈ fs ∧ 1 ≤ x.1 ∧ bt 7 x.1) ∧ dsInv L M i acc k s6 e2 ∧
    runLc (fun _ => true) (GX.name 8 : GX tau).ev (TX.yes : TX tau).ev wtX.ev [8] (fs.map iD) e [] = .ok (ws.map fun x => D.tup [.int x.1, iD x.2]) e2 := by
  obtain ⟨zs, e', a1, a2, a3, a4⟩ := runLc_inv (g := (GX.name 8 : GX tau).ev) (t := (TX.yes : TX tau).ev) (f := wtX.ev) (vs := [8]) (dsInv L M i acc k s6) (fun z => ∃ (f : Nat) (w : Int), f ∈ fs ∧ z = .tup [.int w, iD f] ∧ 1 ≤ w ∧ bt 7 w) (fs.map iD) [] e he (fun d hd e he => by
    obtain ⟨f, hf, rfl⟩ := List.mem_map.mp hd
    obtain ⟨e1, z, e2, h1, h2, h3, ⟨w, h4, h5, h6⟩, h7⟩ := wt_turn f e he
    exact ⟨e1, z, e2, h1, h2, h3, ⟨f, w, hf, h4, h5, h6⟩, h7⟩) (by simp; omega)
  rw [List.length_map] at a1
  have hz : ∃ ws : List (Int × Nat), zs = (ws.map fun x => D.tup [.int x.1, iD x.2]) ∧ ∀ x ∈ ws, x.2 ∈ fs ∧ 1 ≤ x.1 ∧ bt 7 x.1 := by
    clear a1 a4
    induction zs with
    | nil => exact ⟨[], rfl, by simp⟩
    | cons z zs ih =>
      obtain ⟨f, w, f1, rfl, f2, f3⟩ := a2 z (by simp)
      obtain ⟨ws, rfl, g⟩ := ih fun y hy => a2 y (by simp [hy])
      exact ⟨(w, f) :: ws, rfl, fun x hx => by
        rcases List.mem_cons.mp hx with rfl | q
        · exact ⟨f1, f2, f3⟩
        · exact g x q⟩
  obtain ⟨ws, rfl, hw⟩ := hz
  rw [List.length_map] at a1
  rw [List.nil_append] at a4
  exact ⟨ws, e', a1, hw, a3, a4⟩
end K84

/-! P39 -/
namespace K84
open scoped Rat
open PySem T L2
def flF : FX tau := FX.lc (IX.range1 (AX.cons (EX.call sem__law_pick (AX.lend 0 (AX.cons (EX.ofF (FX.lst (AX.cons (EX.int 2) (AX.cons (EX.int 1) (AX.cons (EX.int 3) (AX.nil)))))) (AX.nil)))) (AX.nil))) (GX.name 7) (TX.yes) flX [7] (by decide)
def dsB : SX tau := (SX.seq (SX.asg 4 (EX.call sem__law_pick (AX.lend 0 (AX.cons (EX.ofF (FX.lst (AX.cons (EX.idx (EX.ofF (FX.lst (AX.cons (EX.str "max") (AX.cons (EX.str "min") (AX.cons (EX.str "mean") (AX.nil)))))) (EX.mod (EX.var 3) (EX.int 3))) (AX.cons (EX.str "min") (AX.cons (EX.str "mean") (AX.cons (EX.str "max") (AX.cons (EX.str "end") (AX.nil)))))))) (AX.nil)))))
  (SX.seq (SX.asg 5 (EX.sub (EX.sub (EX.var 1) (EX.int 1)) (EX.var 3)))
  (SX.seq (SX.asgF 6 flF)
  (SX.ite (TX.ofE (EX.eq (EX.var 4) (EX.str "end"))) (SX.app 2 (EX.tup (AX.cons (EX.str "end") (AX.cons (EX.call sem__law_drawn_ratio (AX.lend 0 (AX.nil))) (AX.nil))))) (SX.ite (TX.ofE (EX.eq (EX.var 4) (EX.str "mean"))) (SX.app 2 (EX.tup (AX.cons (EX.str "mean") (AX.cons (EX.ofF (FX.lc (IX.seq (EX.var 6)) (GX.name 8) (TX.yes) wtX [8] (by decide))) (AX.nil))))) (SX.app 2 (EX.tup (AX.cons (EX.var 4) (AX.cons (EX.var 6) (AX.nil))))))))))
theorem st_turn {m k : Nat} {acc : List D} {l : List Int} {L : Nat} {s4 s5 s6 : Sl} (hl : l.length ≤ L) (hk : (k : Int) < (m : Int) - 1) (ha : acc.length ≤ 1000) (h4 : okS s4 = true) (h5 : okS s5 = true) (h6 : canS (some s6) = true) :
    ∃ (s : Sta) (l' : List Int) (s4' s5' s6' : Sl), s.ok k m ∧ l'.length ≤ L ∧ okS s4' = true ∧ okS s5' = true ∧ canS (some s6') = true ∧
      dsB.ev [.own (some 0) (drO l), .dat (.int m), .own none (.lst acc), .dat (.int k), s4, s5, s6, .no, .no] = .ok .nx [.own (some 0) (drO l'), .dat (.int m), .own none (.lst (acc ++ [s.raw])), .dat (.int k), s4', s5', s6', .no, .no] := by
  obtain ⟨k0, hk0, e0⟩ := kind3 (i := (k : Int)) (by omega)
  have hm3 : fI (fun i j => i % j) modC (.int (k : Int)) (.int 3) = some (.int ((k : Int) % 3)) := fI_mod (by decide)
  obtain ⟨c, l1, c1, c2, c3⟩ := pick_eq l (cs := [.str k0, .str "min", .str "mean", .str "max", .str "end"]) (by simp)
  have hc : ∃ s : Str, c = .str s ∧ (s = "end" ∨ s = "mean" ∨ ∃ b, s = kw b) := by
    simp only [List.mem_cons, List.not_mem_nil, or_false] at c1
    rcases c1 with rfl | rfl | rfl | rfl | rfl
    · rcases hk0 with rfl | rfl | rfl
      · exact ⟨_, rfl, .inr (.inr ⟨true, rfl⟩)⟩
      · exact ⟨_, rfl, .inr (.inr ⟨false, rfl⟩)⟩
      · exact ⟨_, rfl, .inr (.inl rfl)⟩
    · exact ⟨_, rfl, .inr (.inr ⟨false, rfl⟩)⟩
    · exact ⟨_, rfl, .inr (.inl rfl)⟩
    · exact ⟨_, rfl, .inr (.inr ⟨true, rfl⟩)⟩
    · exact ⟨_, rfl, .inl rfl⟩
  obtain ⟨s, rfl, hs⟩ := hc
  have cpa : capd acc.length = true := by unfold capd; simp; omega
  obtain ⟨fs, e2, f1, f2, f3, ⟨l2, g1, rfl⟩, f5⟩ := fols (L := L) (M := (m : Int)) (i := (k : Int)) (acc := acc) (k := .str s) (s6 := s6) (by omega) hk [.own (some 0) (drO l1), .dat (.int m), .own none (.lst acc), .dat (.int k), .dat (.str s), .dat (.int ((m : Int) - 1 - k)), s6, .no, .no] ⟨l1, by omega, rfl⟩ (by decide)
  have f5 : flF.ev _ = _ := f5
  have f3' : ∀ f ∈ fs, k < f ∧ f < m := fun f hf => by have := f3 f hf; omega
  unfold drO at c3 f5 ⊢
  rcases hs with rfl | rfl | ⟨b, rfl⟩
  · obtain ⟨p, q, l3, q1, q2, q3, q4, q5⟩ := drawn_ratio_eq l2
    unfold drO at q5
    refine ⟨.fin p q, l3, .dat (.str "end"), .dat (.int ((m : Int) - 1 - k)), .own none (.lst (fs.map iD)), ⟨q1, q2, q3⟩, by omega, rfl, rfl, rfl, ?_⟩
    unfold dsB
    simp only [Sta.raw]
    simp?! [cap3, hm3, e0, cap5, c3, List.nodup_cons, List.not_mem_nil, not_false_eq_true, and_self, canSet_eq, canS_ok h4, canS_ok h5, h6, fI_sub, f5, fEq_ee, q5, fTup2, cpa]
  · obtain ⟨ws, e3, w1, w2, ⟨l3, w3, rfl⟩, w4⟩ := wfols (L := L) (M := (m : Int)) (i := (k : Int)) (acc := acc) (k := .str "mean") fs f2 _ (.dat (.lst (fs.map iD))) ⟨l2, g1, rfl⟩
    unfold drO at w4
    refine ⟨.av ws, l3, .dat (.str "mean"), .dat (.int ((m : Int) - 1 - k)), .dat (.lst (fs.map iD)), ⟨fun z => f1 (by rw [z] at w1; simpa using w1.symm), by omega, fun x hx => ⟨(f3' _ (w2 x hx).1).1, (f3' _ (w2 x hx).1).2, (w2 x hx).2⟩⟩, by omega, rfl, rfl, rfl, ?_⟩
    unfold dsB
    simp only [Sta.raw]
    simp?! [cap3, hm3, e0, cap5, c3, List.nodup_cons, List.not_mem_nil, not_false_eq_true, and_self, canSet_eq, canS_ok h4, canS_ok h5, h6, fI_sub, f5, fEq_me, fEq_mm, seq_lst, chk_seq, okVs_cons, w4, fTup2, cpa]
  · refine ⟨.ext b fs, l2, .dat (.str (kw b)), .dat (.int ((m : Int) - 1 - k)), .dat (.lst (fs.map iD)), ⟨f1, f2, f3'⟩, by omega, rfl, rfl, rfl, ?_⟩
    unfold dsB
    simp only [Sta.raw]
    simp?! [cap3, hm3, e0, cap5, c3, List.nodup_cons, List.not_mem_nil, not_false_eq_true, and_self, canSet_eq, canS_ok h4, canS_ok h5, h6, fI_sub, f5, fEq_ke, fEq_km, fTup2, cpa]
end K84

/-! P40 -/
namespace K84
open scoped Rat
open PySem T L2
theorem ds_loop {m L : Nat} (hm : m ≤ 8) : ∀ (n k : Nat) (acc : List D) (l : List Int) (x s4 s5 s6 : Sl), k + n + 1 ≤ m → acc.length + n ≤ 1000 → l.length ≤ L → okS x = true → okS s4 = true → okS s5 = true → canS (some s6) = true →
    ∃ (sts : List Sta) (l' : List Int) (x' s4' s5' s6' : Sl), sts.length = n ∧ okFrom m k sts ∧ l'.length ≤ L ∧ runFor (fun _ => true) (GX.name 3 : GX tau).ev dsB.ev ((List.range' k n).map iD) [.own (some 0) (drO l), .dat (.int m), .own none (.lst acc), x, s4, s5, s6, .no, .no] = .ok .nx [.own (some 0) (drO l'), .dat (.int m), .own none (.lst (acc ++ sts.map Sta.raw)), x', s4', s5', s6', .no, .no]
  | 0, k, acc, l, x, s4, s5, s6, _, _, hl, hx, h4, h5, h6 => ⟨[], l, x, s4, s5, s6, rfl, trivial, hl, by rw [List.map_nil, List.append_nil]; exact for_nil _ _ _⟩
  | n + 1, k, acc, l, x, s4, s5, s6, hk, ha, hl, hx, h4, h5, h6 => by
    obtain ⟨s, l1, a4, a5, a6, e1, e2, e3, e4, e5, e6⟩ := st_turn (m := m) (k := k) (acc := acc) hl (by omega) (by omega) h4 h5 h6
    obtain ⟨sts, l', x', b4, b5, b6, f1, f2, f3, f4⟩ := ds_loop hm n (k + 1) (acc ++ [s.raw]) l1 (.dat (iD k)) a4 a5 a6 (by omega) (by simp; omega) e2 rfl e3 e4 e5
    refine ⟨s :: sts, l', x', b4, b5, b6, by simp [f1], ⟨e1, f2⟩, f3, ?_⟩
    rw [List.range'_succ, List.map_cons, for_cons]
    rw [show acc ++ (s :: sts).map Sta.raw = (acc ++ [s.raw]) ++ sts.map Sta.raw by simp, ← f4]
    have e6' : dsB.ev [.own (some 0) (drO l), .dat (.int m), .own none (.lst acc), .dat (iD k), s4, s5, s6, .no, .no] = _ := e6
    simp?! [g_nm, canSet_eq, canS_ok hx, e6']
    rfl
def dmany : List Int := [5, 4, 3, 6, 2, 1, 7, 8]
theorem okFrom_app {m : Nat} : ∀ {a : List Sta} {i : Nat} {s : Sta}, okFrom m i a → s.ok (i + a.length) m → okFrom m i (a ++ [s])
  | [], _, _, _, h => ⟨h, trivial⟩
  | t :: r, i, s, ⟨h1, h2⟩, h => ⟨h1, okFrom_app h2 (by rw [show i + 1 + r.length = i + (t :: r).length by simp; omega]; exact h)⟩
theorem fAdd_lst {xs ys : List D} (h : xs.length + ys.length ≤ 16000000) : fAdd (.lst xs) (.lst ys) = some (.lst (xs ++ ys)) := by
  have : capd (xs.length + ys.length) = true := by unfold capd; simpa using h
  simp only [fAdd, this, if_true]
theorem cap1 : capd 1 = true := by decide
theorem cap0 : capd 0 = true := by decide
theorem drawn_states_eq (l : List Int) : ∃ (sts : List Sta) (l' : List Int), sts ≠ [] ∧ sts.length ≤ 8 ∧ okFrom sts.length 0 sts ∧ sem__law_drawn_states [.o (drO l)] = .ok (rawS sts) [drO l'] := by
  obtain ⟨c, l1, h1, h2, h3⟩ := pick_eq l (cs := dmany.map D.int) (by simp [dmany])
  obtain ⟨m0, n1, rfl⟩ := List.mem_map.mp h1
  have hn : ∃ m : Nat, m0 = (m : Int) ∧ 1 ≤ m ∧ m ≤ 8 := by
    have : ∀ x ∈ dmany, (1 : Int) ≤ x ∧ x ≤ 8 := by decide
    obtain ⟨a, b⟩ := this m0 n1
    exact ⟨m0.toNat, by omega, by omega, by omega⟩
  obtain ⟨m, rfl, m1, m8⟩ := hn
  obtain ⟨sts, l2, x', b4, b5, b6, f1, f2, f3, f4⟩ := ds_loop (m := m) (L := l1.length) m8 (m - 1) 0 [] l1 .no .no .no .no (by omega) (by simp; omega) (Nat.le_refl _) rfl rfl rfl rfl
  obtain ⟨p, q, l3, q1, q2, q3, q4, q5⟩ := drawn_ratio_eq l2
  have hlen : (sts ++ [Sta.fin p q]).length = m := by simp [f1]; omega
  refine ⟨sts ++ [.fin p q], l3, by simp, by omega, ?_, ?_⟩
  · rw [hlen]
    exact okFrom_app f2 ⟨q1, q2, q3⟩
  have em : fI (fun i j => i - j) (fun _ _ => true) (.int (m : Int)) (.int 1) = some (.int ((m - 1 : Nat) : Int)) := by
    rw [fI_sub]; congr 2; omega
  have er : rawS (sts ++ [Sta.fin p q]) = .lst (sts.map Sta.raw ++ [D.tup [.str "end", .tup [.int p, .int q]]]) := by
    unfold rawS; rw [List.map_append]; rfl
  rw [er]
  unfold drO at h3 f4 q5 ⊢
  rw [List.nil_append] at f4
  simp only [dmany, List.map_cons, List.map_nil] at h3
  unfold dsB flF flX wtX at f4
  unfold sem__law_drawn_states b__law_drawn_states
  have ad := fAdd_lst (xs := sts.map Sta.raw) (ys := [D.tup [.str "end", .tup [.int p, .int q]]]) (by simp; omega)
  simp?! [cap8, cap0, cap1, h3, List.nodup_cons, List.not_mem_nil, not_false_eq_true, and_self, canSet_eq, canS_no, em, rng_len (show m - 1 ≤ 1000 by omega), chk_range1, f4, q5, fTup2, ad]
end K84

/-! P41 -/
namespace K84
open scoped Rat
open PySem T L2
/-! ### the values -/
def valOk (v : Nat → Rat) (own : Rat) : Sta → Prop
  | .fin p q => own = p /. q
  | .ext mx fs => (∃ f ∈ fs, own = v f) ∧ ∀ f ∈ fs, if mx = true then v f ≤ own else own ≤ v f
  | .av ws => own = mean (ws.map fun x => (x.1, v x.2))
def vat (vs : List Rat) (i : Nat) : Rat := vs.getD i 0
theorem vat_set (vs : List Rat) {i : Nat} (h : i < vs.length) (x : Rat) : vat (vs.set i x) i = x := by
  unfold vat
  rw [List.getD_eq_getElem?_getD, List.getElem?_set_self h]; rfl
theorem vat_ne (vs : List Rat) {i j : Nat} (h : i ≠ j) (x : Rat) : vat (vs.set i x) j = vat vs j := by
  unfold vat
  rw [List.getD_eq_getElem?_getD, List.getD_eq_getElem?_getD, List.getElem?_set_ne h]
theorem vat_get {vs : List Rat} {i : Nat} (h : i < vs.length) : vs[i]? = some (vat vs i) := by
  unfold vat
  rw [List.getD_eq_getElem?_getD, List.getElem?_eq_getElem h]; rfl
theorem vat_mem {vs : List Rat} {i : Nat} (h : i < vs.length) : vat vs i ∈ vs := List.mem_of_getElem? (vat_get h)
theorem vix {vs : List Rat} {i : Nat} (h : i < vs.length) : fIx (.lst (vs.map rat)) (iD i) = some (rat (vat vs i)) := by
  rw [fIx_nat (seq_lst _), List.getElem?_map, vat_get h]; rfl
def Ov (d : Int) (x : Rat) : Prop := ∃ p : Int, x = p /. d ∧ p.natAbs ≤ 2 ^ 50 * d.natAbs
/-- all are over one denominator, not long -/
def Bd (k : Nat) (vs : List Rat) : Prop := ∃ d : Int, 1 ≤ d ∧ bt (50 * k + 1) d ∧ ∀ x ∈ vs, Ov d x
theorem Ov.sz {k : Nat} {d : Int} {x : Rat} (h1 : 1 ≤ d) (h2 : bt k d) (h : Ov d x) : sz (k + 51) x := by
  obtain ⟨p, rfl, hp⟩ := h
  refine sz_divInt h1 ?_ (h2.mono (by omega))
  unfold bt at *
  refine Nat.lt_of_le_of_lt hp ?_
  rw [Nat.pow_add, Nat.mul_comm]
  exact Nat.mul_lt_mul_of_lt_of_le h2 (Nat.pow_le_pow_right (by decide) (by decide)) (Nat.pow_pos (by decide))
theorem Ov.scale {x : Rat} {d c : Int} (hc : 1 ≤ c) (h : Ov d x) : Ov (d * c) x := by
  obtain ⟨p, rfl, hp⟩ := h
  refine ⟨p * c, (Rat.divInt_mul_right (by omega)).symm, ?_⟩
  rw [Int.natAbs_mul, Int.natAbs_mul, ← Nat.mul_assoc]
  exact Nat.mul_le_mul_right _ hp
theorem Bd.one (m : Nat) : Bd 0 (List.replicate m 0) := by
  refine ⟨1, by decide, by show (1 : Nat) < 2; decide, fun x hx => ?_⟩
  obtain ⟨_, rfl⟩ := List.mem_replicate.mp hx
  exact ⟨0, (Rat.zero_divInt 1).symm, by simp⟩
theorem mem_set {vs : List Rat} {i : Nat} {x y : Rat} (h : y ∈ vs.set i x) : y = x ∨ y ∈ vs := by
  rcases List.mem_or_eq_of_mem_set h with h | h
  · exact .inr h
  · exact .inl h
theorem Bd.old {k i : Nat} {vs : List Rat} {x : Rat} (h : Bd k vs) (hx : x ∈ vs) : Bd (k + 1) (vs.set i x) := by
  obtain ⟨d, h1, h2, h3⟩ := h
  refine ⟨d, h1, h2.mono (by omega), fun y hy => ?_⟩
  rcases mem_set hy with rfl | q
  · exact h3 _ hx
  · exact h3 _ q
theorem Bd.fin {k i : Nat} {vs : List Rat} {p q : Int} (h : Bd k vs) (hq : 1 ≤ q) (b1 : bt 50 p) (b2 : bt 50 q) : Bd (k + 1) (vs.set i (p /. q)) := by
  obtain ⟨d, h1, h2, h3⟩ := h
  refine ⟨d * q, by have := Int.mul_pos (show 0 < d by omega) (show 0 < q by omega); omega, (h2.mul b2).mono (by omega), fun y hy => ?_⟩
  rcases mem_set hy with rfl | z
  · refine ⟨p * d, ?_, ?_⟩
    · rw [Int.mul_comm d q]; exact (Rat.divInt_mul_right (by omega)).symm
    · rw [Int.natAbs_mul, Int.natAbs_mul]
      have c1 : p.natAbs ≤ 2 ^ 50 := Nat.le_of_lt b1
      have c2 : 1 ≤ q.natAbs := by omega
      calc p.natAbs * d.natAbs ≤ 2 ^ 50 * d.natAbs := Nat.mul_le_mul_right _ c1
        _ ≤ 2 ^ 50 * (d.natAbs * q.natAbs) := Nat.mul_le_mul_left _ (Nat.le_mul_of_pos_right _ c2)
  · exact (h3 _ z).scale hq
theorem add_same (a c d : Int) : a /. d + c /. d = (a + c) /. d := by
  rw [Rat.divInt_eq_div, Rat.divInt_eq_div, Rat.divInt_eq_div, Rat.div_def, Rat.div_def, Rat.div_def, ← Rat.add_mul, ← Rat.intCast_add]
theorem mtot_over {d : Int} (hd : 1 ≤ d) : ∀ (l : List (Int × Rat)) (a w : Int), 0 ≤ w → (∀ x ∈ l, 1 ≤ x.1 ∧ Ov d x.2) → a.natAbs ≤ 2 ^ 50 * d.natAbs * w.natAbs → ∃ b : Int, mtot (a /. d) l = b /. d ∧ b.natAbs ≤ 2 ^ 50 * d.natAbs * (mw w l).natAbs
  | [], a, w, _, _, h => ⟨a, rfl, h⟩
  | x :: l, a, w, hw, hx, h => by
    obtain ⟨x1, p, x2, x3⟩ := hx x (by simp)
    have e : a /. d + (x.1 : Rat) * x.2 = (a + x.1 * p) /. d := by rw [x2, ← rat_wmul hd, add_same]
    simp only [mtot, mw, e]
    refine mtot_over hd l (a + x.1 * p) (w + x.1) (by omega) (fun y hy => hx y (by simp [hy])) ?_
    have c1 := Int.natAbs_add_le a (x.1 * p)
    rw [Int.natAbs_mul] at c1
    have c2 : (w + x.1).natAbs = w.natAbs + x.1.natAbs := by omega
    rw [c2, Nat.mul_add]
    have c3 : x.1.natAbs * p.natAbs ≤ 2 ^ 50 * d.natAbs * x.1.natAbs := by
      rw [Nat.mul_comm]; exact Nat.mul_le_mul_right _ x3
    omega
theorem num_over {t : Rat} {b d W : Int} (h : t = b /. d) : t.num /. ((t.den : Int) * W) = b /. (d * W) := by
  have e1 : ∀ n c : Int, n /. (c * W) = (n /. c) * (1 /. W) := fun n c => by rw [Rat.divInt_mul_divInt, Int.mul_one]
  rw [e1, e1, self_divInt, h]
theorem Bd.mean {k i n : Nat} {vs : List Rat} {l : List (Int × Rat)} {ds : List D} (h : Bd k vs) (hl : ∀ x ∈ l, x.2 ∈ vs) (W : IsWs n ds l) (h1 : ds.length ≤ 100) (hne : l ≠ []) (hw : ∀ x ∈ l, 1 ≤ x.1) : Bd (k + 1) (vs.set i (mean l)) := by
  obtain ⟨d, d1, d2, d3⟩ := h
  obtain ⟨w1, w2⟩ := mw_bt W h1 hne
  obtain ⟨b, b1, b2⟩ := mtot_over d1 l 0 0 (Int.le_refl 0) (fun x hx => ⟨hw x hx, d3 _ (hl x hx)⟩) (by simp)
  rw [Rat.zero_divInt] at b1
  refine ⟨d * mw 0 l, by have := Int.mul_pos (show 0 < d by omega) (show 0 < mw 0 l by omega); omega, (d2.mul w2).mono (by omega), fun y hy => ?_⟩
  rcases mem_set hy with rfl | z
  · refine ⟨b, num_over b1, ?_⟩
    rw [Int.natAbs_mul, ← Nat.mul_assoc]
    exact b2
  · exact (d3 _ z).scale w1
theorem okFrom_at {m : Nat} : ∀ {sts : List Sta} {k j : Nat} {s : Sta}, okFrom m k sts → sts[j]? = some s → s.ok (k + j) m
  | [], _, _, _, _, h => by simp at h
  | t :: r, k, 0, s, ok, h => by simp at h; subst h; exact ok.1
  | t :: r, k, j + 1, s, ok, h => by
    have := okFrom_at ok.2 (j := j) (by simpa using h)
    rwa [show k + 1 + j = k + (j + 1) by omega] at this
theorem valOk_congr {v v' : Nat → Rat} {i m : Nat} {own : Rat} (h : ∀ f, i < f → v f = v' f) : ∀ {s : Sta}, s.ok i m → valOk v own s → valOk v' own s
  | .fin _ _, _, k => k
  | .ext mx fs, ok, ⟨⟨f, f1, f2⟩, k⟩ => ⟨⟨f, f1, by rw [← h f (ok.2.2 f f1).1]; exact f2⟩, fun g hg => by rw [← h g (ok.2.2 g hg).1]; exact k g hg⟩
  | .av ws, ok, k => by
    have e : (ws.map fun x => (x.1, v x.2)) = ws.map fun x => (x.1, v' x.2) := List.map_congr_left fun x hx => by rw [h x.2 (ok.2.2 x hx).1]
    show own = _
    rw [← e]; exact k
end K84

/-! P42 -/
namespace K84
open scoped Rat
open PySem T L2
def vxB : SX tau := SX.ite (TX.ofE (EX.eq (EX.call sem__law_at_most (AX.cons (EX.idxO 1 (EX.var 7)) (AX.cons (EX.idxO 1 (EX.var 3)) (AX.nil)))) (EX.eq (EX.var 4) (EX.str "min")))) (SX.setL 1 (EX.var 3) (EX.idxO 1 (EX.var 7))) (SX.nx)
def vlB : SX tau := SX.seq (SX.asg 3 (EX.sub (EX.sub (EX.len (AX.cons (EX.var 0) (AX.nil))) (EX.int 1)) (EX.var 2)))
  (SX.seq (SX.asg 4 (EX.idx (EX.idx (EX.var 0) (EX.var 3)) (EX.int 0)))
  (SX.seq (SX.asg 5 (EX.idx (EX.idx (EX.var 0) (EX.var 3)) (EX.int 1)))
  (SX.ite (TX.ofE (EX.eq (EX.var 4) (EX.str "end"))) (SX.setL 1 (EX.var 3) (EX.call sem__law_least_terms (AX.cons (EX.idx (EX.var 5) (EX.int 0)) (AX.cons (EX.idx (EX.var 5) (EX.int 1)) (AX.nil))))) (SX.ite (TX.ofE (EX.eq (EX.var 4) (EX.str "mean"))) (SX.setL 1 (EX.var 3) (EX.call sem__law_mean (AX.cons (EX.ofF (FX.lc (IX.seq (EX.var 5)) (GX.name 8) (TX.yes) (EX.tup (AX.cons (EX.idx (EX.var 8) (EX.int 0)) (AX.cons (EX.idxO 1 (EX.idx (EX.var 8) (EX.int 1))) (AX.nil)))) [8] (by decide))) (AX.nil)))) (SX.seq (SX.setL 1 (EX.var 3) (EX.idxO 1 (EX.idx (EX.var 5) (EX.int 0))))
  (SX.forE (IX.seq (EX.var 5)) (GX.name 7) vxB))))))
def ord (mx : Bool) (a b : Rat) : Prop := if mx = true then a ≤ b else b ≤ a
theorem ord_rfl (mx : Bool) (a : Rat) : ord mx a a := by unfold ord; split <;> exact Rat.le_refl
theorem ord_tr {mx : Bool} {a b c : Rat} (h : ord mx a b) (k : ord mx b c) : ord mx a c := by
  unfold ord at *
  split at h <;> rename_i z
  · rw [if_pos z] at k ⊢; exact Rat.le_trans h k
  · rw [if_neg z] at k ⊢; exact Rat.le_trans k h
theorem ixN_nat' {n i : Nat} (h : i < n) : ixN n (i : Int) = some i := by
  have h1 : (0 : Int) ≤ (i : Int) := by omega
  have h2 : (i : Int) < (n : Int) := by omega
  simp [ixN, h1, h2]
theorem setP_iD {i : Nat} (s : Nat) (d : D) (e : En) {ds : List D} (h : i < ds.length) : setP s d e (iD i) (some ds) = .ok .nx (setLst e s (ds.set i d)) := by
  unfold iD
  rw [setP_int, ixN_nat' h, setQ_some]
theorem map_set (vs : List Rat) (i : Nat) (x : Rat) : (vs.map rat).set i (rat x) = (vs.set i x).map rat := by rw [List.map_set]
theorem set_self {vs : List Rat} {i : Nat} (h : i < vs.length) : vs.set i (vat vs i) = vs := by
  refine List.ext_getElem? fun j => ?_
  by_cases e : j = i
  · subst e; rw [List.getElem?_set_self h, vat_get h]
  · rw [List.getElem?_set_ne (Ne.symm e)]
theorem vx_loop {n i : Nat} {mx : Bool} {S b R : D} (hn : n ≤ 1000) : ∀ (fs : List Nat) (vs : List Rat) (u : Sl), i < vs.length → (∀ f ∈ fs, i < f ∧ f < vs.length) → (∀ x ∈ vs, sz n x) → okS u = true →
    ∃ x u', okS u' = true ∧ (x = vat vs i ∨ ∃ f ∈ fs, x = vat vs f) ∧ ord mx (vat vs i) x ∧ (∀ f ∈ fs, ord mx (vat vs f) x) ∧
    runFor (fun _ => true) (GX.name 7 : GX tau).ev vxB.ev (fs.map iD) [.dat S, .own none (.lst (vs.map rat)), .dat b, .dat (iD i), .dat (.str (kw mx)), .dat R, .no, u, .no] = .ok .nx [.dat S, .own none (.lst ((vs.set i x).map rat)), .dat b, .dat (iD i), .dat (.str (kw mx)), .dat R, .no, u', .no]
  | [], vs, u, hi, _, _, hu => ⟨vat vs i, u, hu, .inl rfl, ord_rfl _ _, by simp, by
      rw [set_self hi]
      exact for_nil _ _ _⟩
  | f :: fs, vs, u, hi, hf, hs, hu => by
    obtain ⟨f1, f2⟩ := hf f (by simp)
    have am := law_at_most_eq (IsR.rat (hs _ (vat_mem f2))) (IsR.rat (hs _ (vat_mem hi))) (by omega)
    have sp := fun e => setP_iD (i := i) 1 (rat (vat vs f)) e (ds := vs.map rat) (by simpa using hi)
    by_cases c : (decide (vat vs f ≤ vat vs i) == !mx) = true
    · obtain ⟨x, u', g1, g2, g3, g4, g5⟩ := vx_loop (S := S) (b := b) (R := R) (mx := mx) (i := i) hn fs (vs.set i (vat vs f)) (.dat (iD f)) (by simpa using hi) (fun g hg => by simpa using hf g (by simp [hg])) (fun y hy => by
        rcases mem_set hy with rfl | q
        · exact hs _ (vat_mem f2)
        · exact hs _ q) rfl
      rw [vat_set vs hi] at g2 g3
      rw [List.set_set] at g5
      have o1 : ord mx (vat vs i) (vat vs f) := by
        unfold ord
        cases mx with
        | true =>
          simp only [Bool.not_true, beq_iff_eq, decide_eq_false_iff_not] at c
          simp only [if_true]
          exact Rat.le_of_lt (Rat.not_le.mp c)
        | false =>
          simp only [Bool.not_false, beq_iff_eq, decide_eq_true_eq] at c
          simpa using c
      refine ⟨x, u', g1, ?_, ord_tr o1 g3, fun g hg => ?_, ?_⟩
      · rcases g2 with g2 | ⟨g, q1, q2⟩
        · exact .inr ⟨f, by simp, g2⟩
        · have := (hf g (by simp [q1])).1
          exact .inr ⟨g, by simp [q1], by rw [q2, vat_ne vs (by omega)]⟩
      · rcases List.mem_cons.mp hg with rfl | q
        · exact g3
        · have := (hf g (by simp [q])).1
          have r := g4 g q
          rwa [vat_ne vs (by omega)] at r
      · rw [List.map_cons, for_cons, ← g5]
        unfold vxB
        simp?! [g_nm, canSet_eq, canS_ok hu, vix f2, vix hi, am, fEq_kn, fEq_bb, c, sp, map_set]
    · obtain ⟨x, u', g1, g2, g3, g4, g5⟩ := vx_loop (S := S) (b := b) (R := R) (mx := mx) (i := i) hn fs vs (.dat (iD f)) hi (fun g hg => hf g (by simp [hg])) hs rfl
      have o1 : ord mx (vat vs f) (vat vs i) := by
        unfold ord
        cases mx with
        | true =>
          simp only [Bool.not_true, beq_iff_eq, decide_eq_false_iff_not, Classical.not_not] at c
          simpa using c
        | false =>
          simp only [Bool.not_false, beq_iff_eq, decide_eq_true_eq] at c
          simp only [Bool.false_eq_true, if_false]
          exact Rat.le_of_lt (Rat.not_le.mp c)
      refine ⟨x, u', g1, ?_, g3, fun g hg => ?_, ?_⟩
      · rcases g2 with g2 | ⟨g, q1, q2⟩
        · exact .inl g2
        · exact .inr ⟨g, by simp [q1], q2⟩
      · rcases List.mem_cons.mp hg with rfl | q
        · exact ord_tr o1 g3
        · exact g4 g q
      · rw [List.map_cons, for_cons, ← g5]
        have c' : (decide (vat vs f ≤ vat vs i) == !mx) = false := by simpa using c
        unfold vxB
        simp?! [g_nm, canSet_eq, canS_ok hu, vix f2, vix hi, am, fEq_kn, fEq_bb, c']
end K84

/-! P43 -/
namespace K84
open scoped Rat
open PySem T L2
theorem sub_iD (a : Int) (j : Nat) : fI (fun i j => i - j) (fun _ _ => true) (.int a) (iD j) = some (.int (a - (j : Int))) := fI_sub a j
theorem vl_ws {n : Nat} {vs : List Rat} (hs : ∀ x ∈ vs, sz n x) : ∀ ws : List (Int × Nat), (∀ x ∈ ws, 1 ≤ x.1 ∧ bt 7 x.1 ∧ x.2 < vs.length) → IsWs n (ws.map fun x => D.tup [.int x.1, rat (vat vs x.2)]) (ws.map fun x => (x.1, vat vs x.2))
  | [], _ => .nil
  | x :: ws, h => by
    obtain ⟨h1, h2, h3⟩ := h x (by simp)
    exact .cons ⟨rfl, ⟨rat (vat vs x.2), rfl, IsR.rat (hs _ (vat_mem h3))⟩, h1, h2⟩ (vl_ws hs ws fun y hy => h y (by simp [hy]))
theorem Bd.szs {k : Nat} {vs : List Rat} (h : Bd k vs) : ∀ x ∈ vs, sz (50 * k + 52) x := fun x hx => by
  obtain ⟨d, h1, h2, h3⟩ := h
  exact (h3 x hx).sz h1 h2
theorem kind0 (s : Sta) : fIx s.raw (.int 0) = some (.str s.kind) := kind_at s
theorem vl_turn {sts : List Sta} {i j : Nat} {s : Sta} (m8 : sts.length ≤ 8) (ok : okFrom sts.length 0 sts) (hj : i + j + 1 = sts.length) {vs : List Rat} (hl : vs.length = sts.length) (hb : Bd j vs) (hs : sts[i]? = some s) {a3 a4 a5 a7 : Sl} (h3 : okS a3 = true) (h4 : okS a4 = true) (h5 : okS a5 = true) (h7 : okS a7 = true) :
    ∃ x b4 b5 b7, okS b4 = true ∧ okS b5 = true ∧ okS b7 = true ∧ valOk (vat vs) x s ∧ Bd (j + 1) (vs.set i x) ∧
    vlB.ev [.dat (rawS sts), .own none (.lst (vs.map rat)), .dat (iD j), a3, a4, a5, .no, a7, .no] = .ok .nx [.dat (rawS sts), .own none (.lst ((vs.set i x).map rat)), .dat (iD j), .dat (iD i), b4, b5, .no, b7, .no] := by
  have so := okFrom_at ok hs
  rw [Nat.zero_add] at so
  have hi : i < vs.length := by omega
  have bs : ∀ x ∈ vs, sz 452 x := fun x hx => (hb.szs x hx).mono (by omega)
  have e0 : fI (fun i j => i - j) (fun _ _ => true) (.int (sts.length : Int)) (.int 1) = some (.int ((sts.length : Int) - 1)) := fI_sub _ _
  have e3 : fI (fun i j => i - j) (fun _ _ => true) (.int ((sts.length : Int) - 1)) (iD j) = some (iD i) := by
    rw [sub_iD]; unfold iD; congr 2; omega
  have hi' : i < (vs.map rat).length := by simpa using hi
  have r1 := raw_at hs
  cases s with
  | fin p q =>
    obtain ⟨s1, s2, s3⟩ := so
    have k0 : fIx (Sta.fin p q).raw (.int 0) = some (.str "end") := nrfl rfl
    have k1 : fIx (Sta.fin p q).raw (.int 1) = some (.tup [.int p, .int q]) := nrfl rfl
    have p0 : fIx (.tup [.int p, .int q]) (.int 0) = some (.int p) := nrfl rfl
    have p1 : fIx (.tup [.int p, .int q]) (.int 1) = some (.int q) := nrfl rfl
    have le := least_eq (p := p) s1 (s3.mono (by decide))
    have sp := fun e => setP_iD (i := i) 1 (rat (p /. q)) e (ds := vs.map rat) hi'
    refine ⟨p /. q, .dat (.str "end"), .dat (.tup [.int p, .int q]), a7, rfl, rfl, h7, rfl, hb.fin s1 s2 s3, ?_⟩
    unfold vlB
    simp?! [fLen_raw, e0, e3, canSet_eq, canS_ok h3, canS_ok h4, canS_ok h5, r1, k0, k1, fEq_ee, p0, p1, le, sp, map_set]
  | ext mx fs =>
    obtain ⟨s1, s2, s3⟩ := so
    have k0 : fIx (Sta.ext mx fs).raw (.int 0) = some (.str (kw mx)) := nrfl rfl
    have k1 : fIx (Sta.ext mx fs).raw (.int 1) = some (.lst (fs.map iD)) := nrfl rfl
    cases fs with
    | nil => exact absurd rfl s1
    | cons f0 fr =>
      obtain ⟨f1, f2⟩ := s3 f0 (by simp)
      have f2' : f0 < vs.length := by omega
      have p0 : fIx (.lst ((f0 :: fr).map iD)) (.int 0) = some (iD f0) := fIx_0 (ds := fr.map iD) rfl
      have sp := fun e => setP_iD (i := i) 1 (rat (vat vs f0)) e (ds := vs.map rat) hi'
      obtain ⟨x, u', g1, g2, g3, g4, g5⟩ := vx_loop (n := 452) (mx := mx) (i := i) (S := rawS sts) (b := iD j) (R := .lst ((f0 :: fr).map iD)) (by decide) (f0 :: fr) (vs.set i (vat vs f0)) a7 (by simpa using hi) (fun g hg => by
        have := s3 g hg
        simp only [List.length_set]
        omega) (fun y hy => by
        rcases mem_set hy with rfl | q
        · exact bs _ (vat_mem f2')
        · exact bs _ q) h7
      rw [vat_set vs hi] at g2 g3
      rw [List.set_set] at g5
      have gv : ∀ g ∈ f0 :: fr, vat (vs.set i (vat vs f0)) g = vat vs g := fun g hg => vat_ne vs (by have := (s3 g hg).1; omega) _
      have xm : ∃ f ∈ f0 :: fr, x = vat vs f := by
        rcases g2 with g2 | ⟨g, q1, q2⟩
        · exact ⟨f0, by simp, g2⟩
        · exact ⟨g, q1, by rw [q2, gv g q1]⟩
      refine ⟨x, .dat (.str (kw mx)), .dat (.lst ((f0 :: fr).map iD)), u', rfl, rfl, g1, ⟨xm, fun g hg => ?_⟩, ?_, ?_⟩
      · have := g4 g hg
        rw [gv g hg] at this
        exact this
      · obtain ⟨f, q1, q2⟩ := xm
        exact hb.old (by rw [q2]; exact vat_mem (by have := (s3 f q1).2; omega))
      · simp only [List.map_cons] at k1 g5 p0
        unfold vlB
        simp?! [fLen_raw, e0, e3, canSet_eq, canS_ok h3, canS_ok h4, canS_ok h5, r1, k0, k1, fEq_ke, fEq_km, p0, vix f2', sp, map_set, seq_lst, chk_seq, g5]
  | av ws =>
    obtain ⟨s1, s2, s3⟩ := so
    have k0 : fIx (Sta.av ws).raw (.int 0) = some (.str "mean") := nrfl rfl
    have k1 : fIx (Sta.av ws).raw (.int 1) = some (.lst (ws.map fun x => D.tup [.int x.1, iD x.2])) := nrfl rfl
    have p0 : ∀ x : Int × Nat, fIx (D.tup [.int x.1, iD x.2]) (.int 0) = some (.int x.1) := fun x => nrfl rfl
    have p1 : ∀ x : Int × Nat, fIx (D.tup [.int x.1, iD x.2]) (.int 1) = some (iD x.2) := fun x => nrfl rfl
    have lc1 : ∀ env0 : En, env0 = [.dat (rawS sts), .own none (.lst (vs.map rat)), .dat (iD j), .dat (iD i), .dat (.str "mean"), .dat (.lst (ws.map fun x => D.tup [.int x.1, iD x.2])), .no, a7, .no] →
        runLc (fun _ => true) (GX.name 8 : GX tau).ev (TX.yes : TX tau).ev (EX.tup (AX.cons (EX.idx (EX.var 8) (EX.int 0)) (AX.cons (EX.idxO 1 (EX.idx (EX.var 8) (EX.int 1))) (AX.nil))) : EX tau).ev [8] (ws.map fun x => D.tup [.int x.1, iD x.2]) env0 [] = .ok ([] ++ ws.filterMap fun x => some (D.tup [.int x.1, rat (vat vs x.2)])) env0 := by
      rintro env0 rfl
      refine runLc_enc (fun x : Int × Nat => D.tup [.int x.1, iD x.2]) _ ws [] (fun x hx => ?_) (by simp; omega)
      have hx2 : x.2 < vs.length := by have := (s3 x hx).2.1; omega
      exact ⟨[.dat (rawS sts), .own none (.lst (vs.map rat)), .dat (iD j), .dat (iD i), .dat (.str "mean"), .dat (.lst (ws.map fun x => D.tup [.int x.1, iD x.2])), .no, a7, .dat (D.tup [.int x.1, iD x.2])], by simp?! [g_nm, canSet_eq, canS_no], by simp?!, true, by simp?!, fun c => ⟨D.tup [.int x.1, rat (vat vs x.2)], by simp?! [p0, p1, vix hx2, fTup2], rfl⟩, fun c => by cases c⟩
    have l1 := lc1 _ rfl
    rw [List.nil_append, show (ws.filterMap fun x => some (D.tup [.int x.1, rat (vat vs x.2)])) = ws.map fun x => D.tup [.int x.1, rat (vat vs x.2)] from congrFun List.filterMap_eq_map' ws] at l1
    have W := vl_ws bs ws fun x hx => ⟨(s3 x hx).2.2.1, (s3 x hx).2.2.2, by have := (s3 x hx).2.1; omega⟩
    have wne : (ws.map fun x => (x.1, vat vs x.2)) ≠ [] := by simpa using s1
    have wl : (ws.map fun x => D.tup [.int x.1, rat (vat vs x.2)]).length ≤ 3 := by simpa using s2
    have me := law_mean_eq (L := .lst (ws.map fun x => D.tup [.int x.1, rat (vat vs x.2)])) rfl W wne (by omega) (by omega)
    have bm := hb.mean (i := i) (l := ws.map fun x => (x.1, vat vs x.2)) (fun x hx => by
      obtain ⟨y, y1, rfl⟩ := List.mem_map.mp hx
      exact vat_mem (by have := (s3 y y1).2.1; show y.2 < vs.length; omega)) W (by omega) wne (fun x hx => by
      obtain ⟨y, y1, rfl⟩ := List.mem_map.mp hx
      exact (s3 y y1).2.2.1)
    obtain ⟨M, hM⟩ : ∃ M, M = mean (ws.map fun x => (x.1, vat vs x.2)) := ⟨_, rfl⟩
    have vo : valOk (vat vs) M (.av ws) := hM
    rw [← hM] at me bm
    have sp := fun e => setP_iD (i := i) 1 (rat M) e (ds := vs.map rat) hi'
    refine ⟨M, .dat (.str "mean"), .dat (.lst (ws.map fun x => D.tup [.int x.1, iD x.2])), a7, rfl, rfl, h7, vo, bm, ?_⟩
    · unfold vlB
      simp?! [fLen_raw, e0, e3, canSet_eq, canS_ok h3, canS_ok h4, canS_ok h5, r1, k0, k1, fEq_me, fEq_mm, seq_lst, chk_seq, okVs_cons, l1, me, sp, map_set]
theorem vl_loop {sts : List Sta} (m8 : sts.length ≤ 8) (ok : okFrom sts.length 0 sts) : ∀ (n j : Nat) (vs : List Rat) (a2 a3 a4 a5 a7 : Sl), j + n = sts.length → vs.length = sts.length → Bd j vs → (∀ i s, sts.length ≤ i + j → sts[i]? = some s → valOk (vat vs) (vat vs i) s) → okS a2 = true → okS a3 = true → okS a4 = true → okS a5 = true → okS a7 = true →
    ∃ vs' b2 b3 b4 b5 b7, vs'.length = sts.length ∧ Bd sts.length vs' ∧ (∀ i s, sts[i]? = some s → valOk (vat vs') (vat vs' i) s) ∧
    runFor (fun _ => true) (GX.name 2 : GX tau).ev vlB.ev ((List.range' j n).map iD) [.dat (rawS sts), .own none (.lst (vs.map rat)), a2, a3, a4, a5, .no, a7, .no] = .ok .nx [.dat (rawS sts), .own none (.lst (vs'.map rat)), b2, b3, b4, b5, .no, b7, .no]
  | 0, j, vs, a2, a3, a4, a5, a7, hj, hl, hb, hv, h2, h3, h4, h5, h7 => ⟨vs, a2, a3, a4, a5, a7, hl, by rw [← hj]; exact hb, fun i s hs => hv i s (by omega) hs, for_nil _ _ _⟩
  | n + 1, j, vs, a2, a3, a4, a5, a7, hj, hl, hb, hv, h2, h3, h4, h5, h7 => by
    have hi : sts.length - 1 - j < sts.length := by omega
    obtain ⟨i, hie⟩ : ∃ i, i = sts.length - 1 - j := ⟨_, rfl⟩
    have hs : sts[i]? = some sts[i] := List.getElem?_eq_getElem (by omega)
    obtain ⟨x, b4, b5, b7, c4, c5, c7, v1, v2, v3⟩ := vl_turn m8 ok (i := i) (j := j) (by omega) hl hb hs h3 h4 h5 h7
    have hil : i < vs.length := by omega
    have cg : ∀ k f, i ≤ k → k < f → vat vs f = vat (vs.set i x) f := fun k f hk hf => (vat_ne vs (by omega) x).symm
    obtain ⟨vs', d2, d3, d4, d5, d7, w1, w2, w3, w4⟩ := vl_loop m8 ok n (j + 1) (vs.set i x) (.dat (iD j)) (.dat (iD i)) b4 b5 b7 (by omega) (by simpa using hl) v2 (fun k s hk hks => by
      have so := okFrom_at ok hks
      rw [Nat.zero_add] at so
      refine valOk_congr (fun f hf => cg k f (by omega) hf) so ?_
      by_cases e : k = i
      · subst e
        rw [hs] at hks
        cases hks
        rw [vat_set vs hil]
        exact v1
      · rw [vat_ne vs (by omega)]
        exact hv k s (by omega) hks) rfl rfl c4 c5 c7
    refine ⟨vs', d2, d3, d4, d5, d7, w1, w2, w3, ?_⟩
    rw [List.range'_succ, List.map_cons, for_cons, ← w4]
    simp?! [g_nm, canSet_eq, canS_ok h2, v3]
theorem values_eq {sts : List Sta} (m8 : sts.length ≤ 8) (ok : okFrom sts.length 0 sts) : ∃ vs : List Rat, vs.length = sts.length ∧ (∀ x ∈ vs, sz 460 x) ∧ (∀ i s, sts[i]? = some s → valOk (vat vs) (vat vs i) s) ∧ sem__law_values [.d (rawS sts)] = .ok (.lst (vs.map rat)) [] := by
  obtain ⟨vs, b2, b3, b4, b5, b7, w1, w2, w3, w4⟩ := vl_loop m8 ok sts.length 0 (List.replicate sts.length 0) .no .no .no .no .no (by omega) (by simp) (Bd.one _) (fun i s hi hs => by
    have := (List.getElem?_eq_some_iff.mp hs).1
    omega) rfl rfl rfl rfl rfl
  refine ⟨vs, w1, fun x hx => (w2.szs x hx).mono (by omega), w3, ?_⟩
  have lc1 : ∀ env0 : En, env0 = [.dat (rawS sts), .no, .no, .no, .no, .no, .no, .no, .no] →
      runLc (fun _ => true) (GX.name 6 : GX tau).ev (TX.yes : TX tau).ev (EX.tup (AX.cons (EX.int 0) (AX.cons (EX.int 1) (AX.nil))) : EX tau).ev [6] (sts.map Sta.raw) env0 [] = .ok ([] ++ sts.filterMap fun s => some (rat 0)) env0 := by
    rintro env0 rfl
    exact runLc_enc Sta.raw _ sts [] (fun s _ => ⟨[.dat (rawS sts), .no, .no, .no, .no, .no, .dat s.raw, .no, .no], by simp?! [g_nm, canSet_eq, canS_no], by simp?!, true, by simp?!, fun c => ⟨rat 0, by simp?! [fTup2, rat0], rfl⟩, fun c => by cases c⟩) (by simp; omega)
  have l1 := lc1 _ rfl
  have e1 : (sts.filterMap fun s => some (rat 0)) = (List.replicate sts.length 0).map rat := by
    rw [show (sts.filterMap fun s => some (rat 0)) = sts.map (fun _ => rat 0) from congrFun List.filterMap_eq_map' sts, List.map_replicate]
    exact List.map_const'
  rw [List.nil_append, e1] at l1
  unfold vlB vxB at w4
  have hS : (rawS sts).seq? = some (sts.map Sta.raw) := nrfl rfl
  unfold sem__law_values b__law_values
  simp?! [hS, chk_seq, okVs_cons, l1, canSet_eq, canS_no, fLen_raw, rng_len (show sts.length ≤ 1000 by omega), chk_range1, w4]
end K84

/-! P44 -/
namespace K84
open scoped Rat
open PySem T L2
/-! ### slices, comprehensions that keep all -/
def oaR : R D → R (Option Int)
  | .ok d e => R.of ((asI d).map some) e
  | .exc c fs e => .exc c fs e
  | .bad => .bad
def slW (l u : Option Int) (e : En) : Option (List D) → R O
  | some ds => .ok (.lst (cutD ds l u)) e
  | none => .bad
def slU (d : D) (l : Option Int) : R (Option Int) → R O
  | .ok u e => slW l u e (lstD d)
  | .exc c fs e => .exc c fs e
  | .bad => .bad
def slL (hi : En → R (Option Int)) (d : D) : R (Option Int) → R O
  | .ok l e => slU d l (hi e)
  | .exc c fs e => .exc c fs e
  | .bad => .bad
def slR (lo hi : En → R (Option Int)) : R D → R O
  | .ok d e => slL hi d (lo e)
  | .exc c fs e => .exc c fs e
  | .bad => .bad
theorem f_slice (a : EX tau) (lo hi : OX tau) (env : En) : (FX.slice a lo hi).ev env = slR lo.ev hi.ev (a.ev env) := by
  show (a.ev env).bind _ = _
  cases a.ev env with
  | exc c fs e => rfl
  | bad => rfl
  | ok d e =>
    show (lo.ev e).bind _ = slL hi.ev d (lo.ev e)
    cases lo.ev e with
    | exc c fs e => rfl
    | bad => rfl
    | ok l e2 =>
      show (hi.ev e2).bind _ = slU d l (hi.ev e2)
      cases hi.ev e2 with
      | exc c fs e => rfl
      | bad => rfl
      | ok u e3 =>
        show (match lstD d with | some ds => R.ok (O.lst (cutD ds l u)) e3 | none => .bad) = slW l u e3 (lstD d)
        cases lstD d <;> rfl
theorem o_no (env : En) : (OX.no : OX tau).ev env = .ok none env := nrfl rfl
theorem o_at (a : EX tau) (env : En) : (OX.at a).ev env = oaR (a.ev env) := by
  show (a.ev env).bind _ = _
  cases a.ev env with
  | exc c fs e => rfl
  | bad => rfl
  | ok d e => show (R.of (asI d) e).bind _ = R.of ((asI d).map some) e; cases asI d <;> rfl
theorem slR_ok (lo hi : En → R (Option Int)) (d : D) (e : En) : slR lo hi (.ok d e) = slL hi d (lo e) := nrfl rfl
theorem slL_ok (hi : En → R (Option Int)) (d : D) (l : Option Int) (e : En) : slL hi d (.ok l e) = slU d l (hi e) := nrfl rfl
theorem slU_ok (d : D) (l u : Option Int) (e : En) : slU d l (.ok u e) = slW l u e (lstD d) := nrfl rfl
theorem slW_some (l u : Option Int) (e : En) (ds : List D) : slW l u e (some ds) = .ok (.lst (cutD ds l u)) e := nrfl rfl
theorem oaR_int (i : Int) (e : En) : oaR (.ok (.int i) e) = .ok (some i) e := nrfl rfl
theorem oaR_iD (i : Nat) (e : En) : oaR (.ok (iD i) e) = .ok (some (i : Int)) e := nrfl rfl
theorem lstD_lst (l : List D) : lstD (.lst l) = some l := nrfl rfl
theorem cut_from {α : Type} (xs : List α) (k : Nat) : cutD xs (some (k : Int)) none = xs.drop k := by
  unfold cutD
  rw [HT.sIx_nat, HT.sIx_none]
  by_cases h : k ≤ xs.length
  · rw [Nat.min_eq_left h, List.take_of_length_le (by simp)]
  · rw [Nat.min_eq_right (by omega), List.drop_of_length_le (Nat.le_refl _), List.drop_of_length_le (by omega)]; simp
theorem cut_to {α : Type} (xs : List α) (k : Nat) : cutD xs none (some (k : Int)) = xs.take k := by
  unfold cutD
  rw [HT.sIx_nat, HT.sIx_none, Nat.sub_zero, List.drop_zero]
  by_cases h : k ≤ xs.length
  · rw [Nat.min_eq_left h]
  · rw [Nat.min_eq_right (by omega), List.take_of_length_le (Nat.le_refl _), List.take_of_length_le (by omega)]
theorem cut_from1 {α : Type} (xs : List α) : cutD xs (some 1) none = xs.drop 1 := cut_from xs 1
theorem cut_to1 {α : Type} (xs : List α) : cutD xs none (some 1) = xs.take 1 := cut_to xs 1
theorem lc_all {α : Type} {g : D → En → Option En} {t : En → R Bool} {f : En → R D} {ws : List Nat} {env0 : En} (enc : α → D) (F : α → D) (l : List α) (h : ∀ a ∈ l, ∃ e1, g (enc a) env0 = some e1 ∧ wipeE e1 ws = env0 ∧ t e1 = .ok true e1 ∧ f e1 = .ok (F a) e1) (hl : l.length ≤ 1000) :
    runLc (fun _ => true) g t f ws (l.map enc) env0 [] = .ok (l.map F) env0 := by
  have := runLc_enc (g := g) (t := t) (f := f) (vs := ws) (env0 := env0) enc (fun a => some (F a)) l [] (fun a ha => by
    obtain ⟨e1, h1, h2, h3, h4⟩ := h a ha
    exact ⟨e1, h1, h2, true, h3, fun _ => ⟨F a, h4, rfl⟩, fun z => by cases z⟩) (by simp; omega)
  rw [this, List.nil_append, show (l.filterMap fun a => some (F a)) = l.map F from congrFun List.filterMap_eq_map' l]
theorem lc_some {α : Type} {g : D → En → Option En} {t : En → R Bool} {f : En → R D} {ws : List Nat} {env0 : En} (enc : α → D) (P : α → Bool) (F : α → D) (l : List α) (h : ∀ a ∈ l, ∃ e1, g (enc a) env0 = some e1 ∧ wipeE e1 ws = env0 ∧ t e1 = .ok (P a) e1 ∧ (P a = true → f e1 = .ok (F a) e1)) (hl : l.length ≤ 1000) :
    runLc (fun _ => true) g t f ws (l.map enc) env0 [] = .ok ((l.filter P).map F) env0 := by
  have := runLc_enc (g := g) (t := t) (f := f) (vs := ws) (env0 := env0) enc (fun a => if P a = true then some (F a) else none) l [] (fun a ha => by
    obtain ⟨e1, h1, h2, h3, h4⟩ := h a ha
    exact ⟨e1, h1, h2, P a, h3, fun z => ⟨F a, h4 z, by rw [if_pos z]⟩, fun z => by rw [if_neg (by rw [z]; decide)]⟩) (by simp; omega)
  rw [this, List.nil_append]
  congr 1
  rw [← List.filterMap_eq_filter, List.map_filterMap]
  refine congrArg (fun G => List.filterMap G l) (funext fun a => ?_)
  by_cases c : P a = true <;> simp [Option.guard, c]
/-! ### a ratio moved -/
def mvv (up : Bool) (x : Rat) (a b : Int) : Rat := x + (if up = true then a else 0 - a) /. b
theorem moved_eq {n : Nat} {d : D} {x : Rat} {a b : Int} (hd : IsR n d x) (hb : 1 ≤ b) (b1 : bt 50 a) (b2 : bt 50 b) (hn : n ≤ 8000) (up : Bool) : sem__law_moved [.d d, .d (.bl up), .d (.tup [.int a, .int b])] = .ok (rat (mvv up x a b)) [] := by
  have k0 : fIx (.tup [.int a, .int b]) (.int 0) = some (.int a) := nrfl rfl
  have k1 : fIx (.tup [.int a, .int b]) (.int 1) = some (.int b) := nrfl rfl
  have pl := law_plus_eq hd (IsR.tup (p := if up = true then a else 0 - a) hb (by
    split
    · exact b1
    · rw [Int.zero_sub]; exact b1.neg) b2) (by omega)
  unfold sem__law_moved b__law_moved mvv
  cases up with
  | true =>
    simp only [if_true] at pl ⊢
    simp?! [k0, k1, fTup2, pl]
  | false =>
    simp only [Bool.false_eq_true, if_false] at pl ⊢
    simp?! [k0, k1, fI_sub, fTup2, pl]
theorem mvv_sz {x : Rat} {a b : Int} (h : sz 460 x) (hb : 1 ≤ b) (b1 : bt 50 a) (b2 : bt 50 b) (up : Bool) : sz 511 (mvv up x a b) := by
  refine h.add (sz_divInt hb ?_ b2)
  split
  · exact b1
  · rw [Int.zero_sub]; exact b1.neg
end K84

/-! P45 -/
namespace K84
open scoped Rat
open PySem T L2
theorem plain_rat (x : Rat) : (rat x).plain = true := by simp [rat, D.plain, D.py, pyL, SeqAt.shaped, PyData.canLay0, PyData.canLayAll0, PyData.depth, PyData.depthAll]
theorem fEq_rat (x y : Rat) : fEq (rat x) (rat y) = some (.bl ((rat x).eqv (rat y))) := by simp [fEq, plain_rat]
def okB (n : Nat) (d : D) : Bool := nin d && match d.seq? with
  | some [_, b] => match ratD b with
    | some (p, q) => decide (p.natAbs < 2 ^ n) && decide (q.natAbs < 2 ^ n)
    | none => true
  | _ => true
theorem okB_pr {n : Nat} {d : D} (h : okB n d = true) : PrOk n d := by
  unfold okB at h
  rw [Bool.and_eq_true] at h
  refine ⟨h.1, fun a b p q e r => ?_⟩
  have h2 := h.2
  rw [e] at h2
  dsimp only at h2
  rw [r] at h2
  simp only [Bool.and_eq_true, decide_eq_true_eq] at h2
  exact h2
theorem pr_rat {n : Nat} {a : D} (ha : nin a = true) {x : Rat} (h : sz n x) : PrOk n (.tup [a, rat x]) := by
  refine ⟨by simp [nin, nins, ha]; exact nin_rat x, fun c b p q e r => ?_⟩
  rw [seq_tup] at e
  cases e
  rw [ratD_rat] at r
  cases r
  exact h
structure PaperOk (d : D) : Prop where
  nin : nin d = true
  at_ : d.seq? = none ∨ ∃ ds, d.seq? = some ds ∧ (∀ x ∈ ds, PrOk 600 x) ∧ ds.length ≤ 1000
theorem pk_lst {ds : List D} (h : ∀ x ∈ ds, PrOk 600 x) (hl : ds.length ≤ 1000) : PaperOk (.lst ds) :=
  ⟨nins_all.mpr fun d hd => (h d hd).nin, .inr ⟨ds, rfl, h, hl⟩⟩
/-- the whole paper -/
def wE (vs : List Rat) (i : Nat) : D := .tup [iD i, rat (vat vs i)]
def WL (vs : List Rat) (m : Nat) : List D := (List.range' 0 m).map (wE vs)
def tE3 (vs : List Rat) (i : Nat) : D := .lst [iD i, .lst [.int ((vat vs i).num * 3), .int ((vat vs i).den * 3)]]
def mE (vs : List Rat) (up : Bool) (a b : Int) (i : Nat) : D := .tup [iD i, rat (mvv up (vat vs i) a b)]
theorem wl_len (vs : List Rat) (m : Nat) : (WL vs m).length = m := by simp [WL]
theorem sz_mono {x : Rat} {n : Nat} (h : sz n x) (k : n ≤ 600) : sz 600 x := h.mono k
section
variable {vs : List Rat} {m : Nat} (hs : ∀ x ∈ vs, sz 460 x) (hm : m = vs.length)
include hs hm
theorem vsz {i : Nat} (h : i < m) : sz 460 (vat vs i) := hs _ (vat_mem (by omega))
theorem wl_ok : ∀ x ∈ WL vs m, PrOk 600 x := fun x hx => by
  obtain ⟨i, hi, rfl⟩ := List.mem_map.mp hx
  rw [List.mem_range'_1] at hi
  exact pr_rat rfl ((vsz hs hm (by omega)).mono (by decide))
theorem te_ok : ∀ x ∈ ((List.range' 0 m).map (tE3 vs)).reverse, PrOk 600 x := fun x hx => by
  rw [List.mem_reverse] at hx
  obtain ⟨i, hi, rfl⟩ := List.mem_map.mp hx
  rw [List.mem_range'_1] at hi
  obtain ⟨z1, z2⟩ := vsz hs hm (i := i) (by omega)
  have b3 : bt 2 (3 : Int) := by show (3 : Nat) < 4; decide
  refine ⟨rfl, fun c b p q e r => ?_⟩
  unfold tE3 at e
  rw [seq_lst] at e
  cases e
  have : ratD (.lst [.int ((vat vs i).num * 3), .int ((vat vs i).den * 3)]) = some ((vat vs i).num * 3, ((vat vs i).den : Int) * 3) := by
    have := den1 (vat vs i)
    simp only [ratD, seq_lst, Option.bind_some, ratL]
    rw [if_pos (by omega)]
  rw [this] at r
  cases r
  exact ⟨(z1.mul b3).mono (by decide), (z2.mul b3).mono (by decide)⟩
theorem me_ok {a b : Int} (hb : 1 ≤ b) (b1 : bt 50 a) (b2 : bt 50 b) (up : Bool) {i : Nat} (h : i < m) : PrOk 600 (mE vs up a b i) :=
  pr_rat rfl ((mvv_sz (vsz hs hm h) hb b1 b2 up).mono (by decide))
end
def p3B (up : EX tau) : SX tau := SX.app 8 (EX.add (EX.add (EX.ofF (FX.slice (EX.var 5) (OX.no) (OX.at (EX.var 10)))) (EX.ofF (FX.lst (AX.cons (EX.tup (AX.cons (EX.var 10) (AX.cons (EX.call sem__law_moved (AX.cons (EX.idx (EX.var 2) (EX.var 10)) (AX.cons up (AX.cons (EX.var 9) (AX.nil))))) (AX.nil)))) (AX.nil))))) (EX.ofF (FX.slice (EX.var 5) (OX.at (EX.add (EX.var 10) (EX.int 1))) (OX.no))))
def ppB : SX tau := SX.seq (SX.app 8 (EX.add (EX.ofF (FX.slice (EX.var 5) (OX.no) (OX.at (EX.var 10)))) (EX.ofF (FX.slice (EX.var 5) (OX.at (EX.add (EX.var 10) (EX.int 1))) (OX.no)))))
  (SX.seq (p3B (EX.var 3)) (p3B (EX.notV (EX.var 3))))
def pp3 (vs : List Rat) (m : Nat) (low : Bool) (a b : Int) (i : Nat) : List D := [.lst ((WL vs m).take i ++ (WL vs m).drop (i + 1)), .lst ((WL vs m).take i ++ [mE vs low a b i] ++ (WL vs m).drop (i + 1)), .lst ((WL vs m).take i ++ [mE vs (!low) a b i] ++ (WL vs m).drop (i + 1))]
theorem add_iD (i : Nat) : fAdd (iD i) (.int 1) = some (iD (i + 1)) := by
  unfold iD
  rw [fI_add]
  congr 2
theorem pp_loop {vs : List Rat} {m : Nat} (hs : ∀ x ∈ vs, sz 460 x) (hm : m = vs.length) (m8 : m ≤ 8) {low : Bool} {a b : Int} (hb : 1 ≤ b) (b1 : bt 50 a) (b2 : bt 50 b) {dr : O} {S d4 T Sh : D} : ∀ (n k : Nat) (x : Sl), k + n = m → okS x = true →
    ∃ x', okS x' = true ∧ ∀ P : List D, P.length + 3 * n ≤ 1000 → runFor (fun _ => true) (GX.name 10 : GX tau).ev ppB.ev ((List.range' k n).map iD) [.own (some 0) dr, .dat S, .dat (.lst (vs.map rat)), .dat (.bl low), .dat d4, .dat (.lst (WL vs m)), .dat T, .dat Sh, .own none (.lst P), .dat (.tup [.int a, .int b]), x, .no, .no, .no, .no] =
      .ok .nx [.own (some 0) dr, .dat S, .dat (.lst (vs.map rat)), .dat (.bl low), .dat d4, .dat (.lst (WL vs m)), .dat T, .dat Sh, .own none (.lst (P ++ (List.range' k n).flatMap (pp3 vs m low a b))), .dat (.tup [.int a, .int b]), x', .no, .no, .no, .no]
  | 0, k, x, hk, hx => ⟨x, hx, fun P _ => by
      rw [List.range'_zero, List.flatMap_nil, List.append_nil]
      exact for_nil _ _ _⟩
  | n + 1, k, x, hk, hx => by
    obtain ⟨x', h1, h2⟩ := pp_loop hs hm m8 (low := low) hb b1 b2 (dr := dr) (S := S) (d4 := d4) (T := T) (Sh := Sh) n (k + 1) (.dat (iD k)) (by omega) rfl
    refine ⟨x', h1, fun P hP => ?_⟩
    have vk := vix (vs := vs) (i := k) (by omega)
    have ik := IsR.rat (vsz hs hm (i := k) (by omega))
    have m1 := moved_eq ik hb b1 b2 (by decide) low
    have m2 := moved_eq ik hb b1 b2 (by decide) (!low)
    have wl := wl_len vs m
    have c0 : capd P.length = true := by unfold capd; simp; omega
    have c1 : capd (P ++ [D.lst ((WL vs m).take k ++ (WL vs m).drop (k + 1))]).length = true := by unfold capd; simp; omega
    have c2 : capd (P ++ [D.lst ((WL vs m).take k ++ (WL vs m).drop (k + 1))] ++ [D.lst ((WL vs m).take k ++ [mE vs low a b k] ++ (WL vs m).drop (k + 1))]).length = true := by unfold capd; simp; omega
    have a1 := fAdd_lst (xs := (WL vs m).take k) (ys := (WL vs m).drop (k + 1)) (by simp [wl]; omega)
    have a2 := fun e : D => fAdd_lst (xs := (WL vs m).take k) (ys := [e]) (by simp [wl]; omega)
    have a3 := fun e : D => fAdd_lst (xs := (WL vs m).take k ++ [e]) (ys := (WL vs m).drop (k + 1)) (by simp [wl]; omega)
    have eE : ∀ up, D.tup [iD k, rat (mvv up (vat vs k) a b)] = mE vs up a b k := fun _ => rfl
    have r := h2 (P ++ pp3 vs m low a b k) (by simp [pp3]; omega)
    rw [List.range'_succ, List.map_cons, for_cons]
    have e3 : P ++ (k :: List.range' (k + 1) n).flatMap (pp3 vs m low a b) = P ++ pp3 vs m low a b k ++ (List.range' (k + 1) n).flatMap (pp3 vs m low a b) := by simp
    have e4 : P ++ pp3 vs m low a b k = P ++ [D.lst ((WL vs m).take k ++ (WL vs m).drop (k + 1))] ++ [D.lst ((WL vs m).take k ++ [mE vs low a b k] ++ (WL vs m).drop (k + 1))] ++ [D.lst ((WL vs m).take k ++ [mE vs (!low) a b k] ++ (WL vs m).drop (k + 1))] := by simp [pp3]
    rw [e3, ← r, e4]
    unfold ppB p3B
    simp?! [g_nm, canSet_eq, canS_ok hx, f_slice, o_no, o_at, slR_ok, slL_ok, slU_ok, slW_some, oaR_iD, lstD_lst, cut_to, cut_from, add_iD, a1, a2, a3, vk, m1, m2, cap1, fTup2, eE, c0, c1, c2]
end K84

/-! P46 -/
namespace K84
open scoped Rat
open PySem T L2
def spX : FX tau := FX.slice (EX.ofF (FX.lc (IX.seq (EX.var 12)) (GX.name 13) (TX.ofE (EX.eq (EX.idx (EX.var 2) (EX.var 13)) (EX.idx (EX.var 2) (EX.var 10)))) (EX.var 13) [13] (by decide))) (OX.no) (OX.at (EX.int 1))
def pmB : SX tau := SX.ite (TX.and (TX.ofE (EX.isin (EX.var 10) (EX.var 11))) (TX.ofE (EX.isin (EX.idx (EX.idx (EX.var 1) (EX.var 10)) (EX.int 0)) (EX.tup (AX.cons (EX.str "max") (AX.cons (EX.str "min") (AX.nil))))))) (SX.seq (SX.asg 12 (EX.ofF (FX.lstOf (AX.cons (EX.idx (EX.idx (EX.var 1) (EX.var 10)) (EX.int 1)) (AX.nil)))))
  (SX.seq (SX.ite (TX.ofE (EX.eq (EX.eq (EX.idx (EX.idx (EX.var 1) (EX.var 10)) (EX.int 0)) (EX.str "max")) (EX.var 3))) (SX.asg 12 (EX.ofF spX)) (SX.nx))
  (SX.asg 11 (EX.add (EX.var 11) (EX.var 12))))) (SX.ite (TX.and (TX.ofE (EX.isin (EX.var 10) (EX.var 11))) (TX.ofE (EX.eq (EX.idx (EX.idx (EX.var 1) (EX.var 10)) (EX.int 0)) (EX.str "mean")))) (SX.asg 11 (EX.add (EX.var 11) (EX.ofF (FX.lc (IX.seq (EX.idx (EX.idx (EX.var 1) (EX.var 10)) (EX.int 1))) (GX.name 14) (TX.yes) (EX.idx (EX.var 14) (EX.int 1)) [14] (by decide))))) (SX.nx))
theorem flat_iD (l : List Nat) : (l.map iD).all D.flat = true := List.all_eq_true.mpr fun d hd => by
  obtain ⟨i, _, rfl⟩ := List.mem_map.mp hd; rfl
theorem isin_iD (i : Nat) (l : List Nat) : fIn false (iD i) (.lst (l.map iD)) = some (.bl (inF (iD i) (l.map iD))) := by
  unfold fIn
  rw [seq_lst]
  simp only [flat_iD, show (iD i).flat = true from rfl, Bool.and_self, if_true, Bool.false_eq_true, if_false]
theorem isin_kw (mx : Bool) : fIn false (.str (kw mx)) (.tup [.str "max", .str "min"]) = some (.bl true) := by
  cases mx <;> simp [kw, fIn, D.seq?, D.flat, inF, D.eqF]
theorem isin_end : fIn false (.str "end") (.tup [.str "max", .str "min"]) = some (.bl false) := by
  simp [fIn, D.seq?, D.flat, inF, D.eqF]
  decide +kernel
theorem isin_mean : fIn false (.str "mean") (.tup [.str "max", .str "min"]) = some (.bl false) := by
  simp [fIn, D.seq?, D.flat, inF, D.eqF]
  decide +kernel
theorem s_em : (("end" : Str) == ("mean" : Str)) = false := by decide +kernel
theorem fEq_em : fEq (.str "end") (.str "mean") = some (.bl false) := by rw [fEq_str ok_str.1 ok_str.2.2.2, s_em]
theorem seq1_lst (l : List D) : seq1 [.lst l] = some l := nrfl rfl
theorem pm_turn {sts : List Sta} {vs : List Rat} (hm : sts.length = vs.length) (m8 : sts.length ≤ 8) (ok : okFrom sts.length 0 sts) {low : Bool} {dr : O} {d4 W T Sh am : D} {i : Nat} (hi : i < sts.length) {met : List Nat} (hmt : met.length ≤ 1000) {x : Sl} (hx : okS x = true) :
    ∃ (met' : List Nat) (x' : Sl), met'.length ≤ met.length + 3 ∧ okS x' = true ∧ ∀ P : List D, pmB.ev [.own (some 0) dr, .dat (rawS sts), .dat (.lst (vs.map rat)), .dat (.bl low), .dat d4, .dat W, .dat T, .dat Sh, .own none (.lst P), .dat am, .dat (iD i), .dat (.lst (met.map iD)), x, .no, .no] =
      .ok .nx [.own (some 0) dr, .dat (rawS sts), .dat (.lst (vs.map rat)), .dat (.bl low), .dat d4, .dat W, .dat T, .dat Sh, .own none (.lst P), .dat am, .dat (iD i), .dat (.lst (met'.map iD)), x', .no, .no] := by
  have hs : sts[i]? = some sts[i] := List.getElem?_eq_getElem hi
  have so := okFrom_at ok hs
  rw [Nat.zero_add] at so
  have r1 := raw_at hs
  have ii := isin_iD i met
  cases c : inF (iD i) (met.map iD) with
  | false =>
    rw [c] at ii
    exact ⟨met, x, by omega, hx, fun P => by unfold pmB; simp?! [ii]⟩
  | true =>
    rw [c] at ii
    generalize sts[i] = s at r1 so
    cases s with
    | fin p q =>
      have k0 : fIx (Sta.fin p q).raw (.int 0) = some (.str "end") := nrfl rfl
      exact ⟨met, x, by omega, hx, fun P => by unfold pmB; simp?! [ii, r1, k0, fTup2, isin_end, fEq_em]⟩
    | ext mx fs =>
      obtain ⟨s1, s2, s3⟩ := so
      have k0 : fIx (Sta.ext mx fs).raw (.int 0) = some (.str (kw mx)) := nrfl rfl
      have k1 : fIx (Sta.ext mx fs).raw (.int 1) = some (.lst (fs.map iD)) := nrfl rfl
      by_cases h : (mx == low) = true
      · obtain ⟨F, hF⟩ : ∃ F, F = (fs.filter fun f => (rat (vat vs f)).eqv (rat (vat vs i))) := ⟨_, rfl⟩
        have fl : F.length ≤ 3 := by rw [hF]; exact Nat.le_trans (List.length_filter_le _ _) s2
        have lc1 : ∀ (P : List D) (env0 : En), env0 = [.own (some 0) dr, .dat (rawS sts), .dat (.lst (vs.map rat)), .dat (.bl low), .dat d4, .dat W, .dat T, .dat Sh, .own none (.lst P), .dat am, .dat (iD i), .dat (.lst (met.map iD)), .dat (.lst (fs.map iD)), .no, .no] →
            runLc (fun _ => true) (GX.name 13 : GX tau).ev (TX.ofE (EX.eq (EX.idx (EX.var 2) (EX.var 13)) (EX.idx (EX.var 2) (EX.var 10))) : TX tau).ev (EX.var 13 : EX tau).ev [13] (fs.map iD) env0 [] = .ok (F.map iD) env0 := by
          rintro P env0 rfl
          rw [hF]
          refine lc_some iD _ iD fs (fun f hf => ?_) (by omega)
          have vf := vix (vs := vs) (i := f) (by have := (s3 f hf).2; omega)
          have vi := vix (vs := vs) (i := i) (by omega)
          exact ⟨[.own (some 0) dr, .dat (rawS sts), .dat (.lst (vs.map rat)), .dat (.bl low), .dat d4, .dat W, .dat T, .dat Sh, .own none (.lst P), .dat am, .dat (iD i), .dat (.lst (met.map iD)), .dat (.lst (fs.map iD)), .dat (iD f), .no], by simp?! [g_nm, canSet_eq, canS_no], by simp?!, by simp?! [vf, vi, fEq_rat], fun _ => by simp?!⟩
        have ad := fAdd_lst (xs := met.map iD) (ys := (F.map iD).take 1) (by simp; omega)
        have e1 : met.map iD ++ (F.map iD).take 1 = (met ++ F.take 1).map iD := by rw [List.map_append, List.map_take]
        refine ⟨met ++ F.take 1, .dat (.lst ((F.map iD).take 1)), by simp; omega, rfl, fun P => ?_⟩
        have l1 := lc1 P _ rfl
        unfold pmB spX
        simp?! [ii, r1, k0, k1, fTup2, isin_kw, seq1_lst, canSet_eq, canS_ok hx, canS_dat, fEq_kx, fEq_bb, h, seq_lst, chk_seq, okVs_cons, l1, f_slice, o_no, o_at, slR_ok, slL_ok, slU_ok, slW_some, oaR_int, lstD_lst, cut_to1, ad, e1]
      · have h' : (mx == low) = false := by simpa using h
        have ad := fAdd_lst (xs := met.map iD) (ys := fs.map iD) (by simp; omega)
        have e1 : met.map iD ++ fs.map iD = (met ++ fs).map iD := by rw [List.map_append]
        refine ⟨met ++ fs, .dat (.lst (fs.map iD)), by simp; omega, rfl, fun P => ?_⟩
        unfold pmB
        simp?! [ii, r1, k0, k1, fTup2, isin_kw, seq1_lst, canSet_eq, canS_ok hx, canS_dat, fEq_kx, fEq_bb, h', ad, e1]
    | av ws =>
      obtain ⟨s1, s2, s3⟩ := so
      have k0 : fIx (Sta.av ws).raw (.int 0) = some (.str "mean") := nrfl rfl
      have k1 : fIx (Sta.av ws).raw (.int 1) = some (.lst (ws.map fun x => D.tup [.int x.1, iD x.2])) := nrfl rfl
      have p1 : ∀ x : Int × Nat, fIx (D.tup [.int x.1, iD x.2]) (.int 1) = some (iD x.2) := fun x => nrfl rfl
      have lc1 : ∀ (P : List D) (env0 : En), env0 = [.own (some 0) dr, .dat (rawS sts), .dat (.lst (vs.map rat)), .dat (.bl low), .dat d4, .dat W, .dat T, .dat Sh, .own none (.lst P), .dat am, .dat (iD i), .dat (.lst (met.map iD)), x, .no, .no] →
          runLc (fun _ => true) (GX.name 14 : GX tau).ev (TX.yes : TX tau).ev (EX.idx (EX.var 14) (EX.int 1) : EX tau).ev [14] (ws.map fun x => D.tup [.int x.1, iD x.2]) env0 [] = .ok (ws.map fun x => iD x.2) env0 := by
        rintro P env0 rfl
        refine lc_all (fun x : Int × Nat => D.tup [.int x.1, iD x.2]) (fun x => iD x.2) ws (fun y hy => ?_) (by omega)
        exact ⟨[.own (some 0) dr, .dat (rawS sts), .dat (.lst (vs.map rat)), .dat (.bl low), .dat d4, .dat W, .dat T, .dat Sh, .own none (.lst P), .dat am, .dat (iD i), .dat (.lst (met.map iD)), x, .no, .dat (D.tup [.int y.1, iD y.2])], by simp?! [g_nm, canSet_eq, canS_no], by simp?!, by simp?!, by simp?! [p1]⟩
      have ad := fAdd_lst (xs := met.map iD) (ys := ws.map fun x => iD x.2) (by simp; omega)
      have e1 : met.map iD ++ (ws.map fun x => iD x.2) = (met ++ ws.map (·.2)).map iD := by rw [List.map_append, List.map_map]; rfl
      refine ⟨met ++ ws.map (·.2), x, by simp; omega, hx, fun P => ?_⟩
      have l1 := lc1 P _ rfl
      unfold pmB
      simp?! [ii, r1, k0, k1, fTup2, isin_mean, fEq_mm, canSet_eq, canS_dat, seq_lst, chk_seq, okVs_cons, l1, ad, e1]
theorem pm_loop {sts : List Sta} {vs : List Rat} (hm : sts.length = vs.length) (m8 : sts.length ≤ 8) (ok : okFrom sts.length 0 sts) {low : Bool} {dr : O} {d4 W T Sh am : D} : ∀ (n k : Nat) (met : List Nat) (y x : Sl), k + n = sts.length → met.length + 3 * n ≤ 1000 → okS y = true → okS x = true →
    ∃ (met' : List Nat) (y' x' : Sl), okS y' = true ∧ ∀ P : List D, runFor (fun _ => true) (GX.name 10 : GX tau).ev pmB.ev ((List.range' k n).map iD) [.own (some 0) dr, .dat (rawS sts), .dat (.lst (vs.map rat)), .dat (.bl low), .dat d4, .dat W, .dat T, .dat Sh, .own none (.lst P), .dat am, y, .dat (.lst (met.map iD)), x, .no, .no] =
      .ok .nx [.own (some 0) dr, .dat (rawS sts), .dat (.lst (vs.map rat)), .dat (.bl low), .dat d4, .dat W, .dat T, .dat Sh, .own none (.lst P), .dat am, y', .dat (.lst (met'.map iD)), x', .no, .no]
  | 0, k, met, y, x, _, _, hy, hx => ⟨met, y, x, hy, fun P => for_nil _ _ _⟩
  | n + 1, k, met, y, x, hk, hl, hy, hx => by
    obtain ⟨m1, x1, a1, a2, a3⟩ := pm_turn hm m8 ok (low := low) (dr := dr) (d4 := d4) (W := W) (T := T) (Sh := Sh) (am := am) (i := k) (by omega) (met := met) (by omega) hx
    obtain ⟨m2, y2, x2, b0, b1⟩ := pm_loop hm m8 ok (low := low) (dr := dr) (d4 := d4) (W := W) (T := T) (Sh := Sh) (am := am) n (k + 1) m1 (.dat (iD k)) x1 (by omega) (by omega) rfl a2
    refine ⟨m2, y2, x2, b0, fun P => ?_⟩
    have a4 := a3 P
    rw [List.range'_succ, List.map_cons, for_cons, ← b1 P]
    simp?! [g_nm, canSet_eq, canS_ok hy, a4]
end K84

/-! P47 -/
namespace K84
open scoped Rat
open PySem T L2
theorem pr_c11 {a : D} (ha : nin a = true) : PrOk 600 (.tup [a, .tup [.int 1, .int 1]]) := by
  have b1 : bt 600 (1 : Int) := by show (1 : Nat) < 2 ^ 600; decide +kernel
  refine ⟨by simp [nin, nins, ha], fun c b p q e r => ?_⟩
  rw [seq_tup] at e
  cases e
  have : ratD (.tup [.int 1, .int 1]) = some (1, 1) := by simp [ratD, D.seq?, ratL]
  rw [this] at r
  cases r
  exact ⟨b1, b1⟩
def amtC : List (Int × Int) := [(1, 1), (1, 1000), (1000000000000, 3)]
theorem cpd {n : Nat} (h : n ≤ 1000) : capd n = true := by unfold capd; simp; omega
def X0 (W T Sh : List D) (e m : D) : List D := [.lst W, .lst T.reverse, .lst Sh, .lst [], .non, .int 7, .lst (W ++ [e]), .lst (W.drop 1), .lst (W ++ [.tup [m, .tup [.int 1, .int 1]]])]
def X1 (W : List D) : List D := [.lst (W.drop 1 ++ [.tup [.int 0, .tup [.int 1, .int 0]]]), .lst (W.drop 1 ++ [.tup [.int 0, .int 1]]), .lst (W.drop 1 ++ [.tup [.int 0, .tup [.int 1, .bl true]]]), .lst (W.drop 1 ++ [.tup [.int 0]])]
def X2 (W : List D) (v : D) : List D := [.lst (W.drop 1 ++ [.tup [.bl false, v]]), .lst (W ++ [.tup [.int (-1), .tup [.int 1, .int 1]]]), .lst (W.drop 1 ++ [.tup [.str "0", v]]), .lst (W ++ [.non])]
def ppS (b : SX tau) : SX tau := SX.forE (IX.range1 (AX.cons (EX.var 4) (AX.nil))) (GX.name 10) b
def ppR : SX tau := SX.seq (SX.asg 11 (EX.ofF (FX.lst (AX.cons (EX.int 0) (AX.nil)))))
  (SX.seq (ppS pmB)
  (SX.seq (SX.app 8 (EX.ofF (FX.lc (IX.range1 (AX.cons (EX.var 4) (AX.nil))) (GX.name 10) (TX.ofE (EX.isin (EX.var 10) (EX.var 11))) (EX.tup (AX.cons (EX.var 10) (AX.cons (EX.idx (EX.var 2) (EX.var 10)) (AX.nil)))) [10] (by decide))))
  (SX.ret (EX.var 8))))
def ppA : SX tau := SX.asg 9 (EX.call sem__law_pick (AX.lend 0 (AX.cons (EX.ofF (FX.lst (AX.cons (EX.tup (AX.cons (EX.int 1) (AX.cons (EX.int 1) (AX.nil)))) (AX.cons (EX.tup (AX.cons (EX.int 1) (AX.cons (EX.int 1000) (AX.nil)))) (AX.cons (EX.tup (AX.cons (EX.pow (EX.int 10) (EX.int 12)) (AX.cons (EX.int 3) (AX.nil)))) (AX.nil)))))) (AX.nil))))
def ppX : SX tau := SX.asgF 8 (FX.lst (AX.cons (EX.var 5) (AX.cons (EX.var 6) (AX.cons (EX.var 7) (AX.cons (EX.ofF (FX.lst (AX.nil))) (AX.cons (EX.non) (AX.cons (EX.int 7) (AX.cons (EX.add (EX.var 5) (EX.ofF (FX.lst (AX.cons (EX.idx (EX.var 5) (EX.sub (EX.var 4) (EX.int 1))) (AX.nil))))) (AX.cons (EX.ofF (FX.slice (EX.var 5) (OX.at (EX.int 1)) (OX.no))) (AX.cons (EX.add (EX.var 5) (EX.ofF (FX.lst (AX.cons (EX.tup (AX.cons (EX.var 4) (AX.cons (EX.tup (AX.cons (EX.int 1) (AX.cons (EX.int 1) (AX.nil)))) (AX.nil)))) (AX.nil))))) (AX.nil)))))))))))
def ppY : SX tau := SX.asgF 8 (FX.addL (EX.var 8) (EX.ofF (FX.lst (AX.cons (EX.add (EX.ofF (FX.slice (EX.var 5) (OX.at (EX.int 1)) (OX.no))) (EX.ofF (FX.lst (AX.cons (EX.tup (AX.cons (EX.int 0) (AX.cons (EX.tup (AX.cons (EX.int 1) (AX.cons (EX.int 0) (AX.nil)))) (AX.nil)))) (AX.nil))))) (AX.cons (EX.add (EX.ofF (FX.slice (EX.var 5) (OX.at (EX.int 1)) (OX.no))) (EX.ofF (FX.lst (AX.cons (EX.tup (AX.cons (EX.int 0) (AX.cons (EX.int 1) (AX.nil)))) (AX.nil))))) (AX.cons (EX.add (EX.ofF (FX.slice (EX.var 5) (OX.at (EX.int 1)) (OX.no))) (EX.ofF (FX.lst (AX.cons (EX.tup (AX.cons (EX.int 0) (AX.cons (EX.tup (AX.cons (EX.int 1) (AX.cons (EX.bl true) (AX.nil)))) (AX.nil)))) (AX.nil))))) (AX.cons (EX.add (EX.ofF (FX.slice (EX.var 5) (OX.at (EX.int 1)) (OX.no))) (EX.ofF (FX.lst (AX.cons (EX.tup (AX.cons (EX.int 0) (AX.nil))) (AX.nil))))) (AX.nil))))))))
def ppZ : SX tau := SX.asgF 8 (FX.addL (EX.var 8) (EX.ofF (FX.lst (AX.cons (EX.add (EX.ofF (FX.slice (EX.var 5) (OX.at (EX.int 1)) (OX.no))) (EX.ofF (FX.lst (AX.cons (EX.tup (AX.cons (EX.bl false) (AX.cons (EX.idx (EX.var 2) (EX.int 0)) (AX.nil)))) (AX.nil))))) (AX.cons (EX.add (EX.var 5) (EX.ofF (FX.lst (AX.cons (EX.tup (AX.cons (EX.neg (EX.int 1)) (AX.cons (EX.tup (AX.cons (EX.int 1) (AX.cons (EX.int 1) (AX.nil)))) (AX.nil)))) (AX.nil))))) (AX.cons (EX.add (EX.ofF (FX.slice (EX.var 5) (OX.at (EX.int 1)) (OX.no))) (EX.ofF (FX.lst (AX.cons (EX.tup (AX.cons (EX.str "0") (AX.cons (EX.idx (EX.var 2) (EX.int 0)) (AX.nil)))) (AX.nil))))) (AX.cons (EX.add (EX.var 5) (EX.ofF (FX.lst (AX.cons (EX.non) (AX.nil))))) (AX.nil))))))))
theorem ppX_ev {dr : O} {S L : D} {low : D} {m : Nat} {W T Sh : List D} {e : D} (he : fIx (.lst W) (.int ((m : Int) - 1)) = some e) (hW : W.length ≤ 100) : ppX.ev [.own (some 0) dr, .dat S, .dat L, .dat low, .dat (.int m), .own none (.lst W), .own none (.lst T.reverse), .own none (.lst Sh), .no, .no, .no, .no, .no, .no, .no] =
    .ok .nx [.own (some 0) dr, .dat S, .dat L, .dat low, .dat (.int m), .dat (.lst W), .dat (.lst T.reverse), .dat (.lst Sh), .own none (.lst (X0 W T Sh e (.int m))), .no, .no, .no, .no, .no, .no] := by
  have ad := fun x : D => fAdd_lst (xs := W) (ys := [x]) (by simp; omega)
  have c9 : capd 9 = true := by decide
  unfold ppX X0
  simp?! [canSet_eq, canS_no, cap0, cap1, c9, fI_sub, he, ad, f_slice, o_no, o_at, slR_ok, slL_ok, slU_ok, slW_some, oaR_int, lstD_lst, cut_from1, fTup2]
theorem fTup1 (x : D) : fTup [x] = some (.tup [x]) := nrfl rfl
theorem ppY_ev {dr : O} {S L : D} {low m T Sh : D} {W : List D} {P : List D} (hW : W.length ≤ 100) (hP : P.length ≤ 100) : ppY.ev [.own (some 0) dr, .dat S, .dat L, .dat low, .dat m, .dat (.lst W), .dat T, .dat Sh, .own none (.lst P), .no, .no, .no, .no, .no, .no] =
    .ok .nx [.own (some 0) dr, .dat S, .dat L, .dat low, .dat m, .dat (.lst W), .dat T, .dat Sh, .own none (.lst (P ++ X1 W)), .no, .no, .no, .no, .no, .no] := by
  have ad := fun x : D => fAdd_lst (xs := W.drop 1) (ys := [x]) (by simp; omega)
  have c4 : capd (P.length + 4) = true := cpd (by omega)
  unfold ppY X1
  simp?! [canSet_eq, canS_dat, canS_own, cap4, cap1, c4, ad, f_addL, addR_ok, addS_ok, f_slice, o_no, o_at, slR_ok, slL_ok, slU_ok, slW_some, oaR_int, lstD_lst, cut_from1, fTup2, fTup1]
theorem ppZ_ev {dr : O} {S L : D} {low m T Sh v : D} {W : List D} {P : List D} (hv : fIx L (.int 0) = some v) (hW : W.length ≤ 100) (hP : P.length ≤ 100) : ppZ.ev [.own (some 0) dr, .dat S, .dat L, .dat low, .dat m, .dat (.lst W), .dat T, .dat Sh, .own none (.lst P), .no, .no, .no, .no, .no, .no] =
    .ok .nx [.own (some 0) dr, .dat S, .dat L, .dat low, .dat m, .dat (.lst W), .dat T, .dat Sh, .own none (.lst (P ++ X2 W v)), .no, .no, .no, .no, .no, .no] := by
  have ad := fun x : D => fAdd_lst (xs := W.drop 1) (ys := [x]) (by simp; omega)
  have ad2 := fun x : D => fAdd_lst (xs := W) (ys := [x]) (by simp; omega)
  have c4 : capd (P.length + 4) = true := cpd (by omega)
  unfold ppZ X2
  simp?! [canSet_eq, canS_dat, canS_own, cap4, cap1, c4, ad, ad2, hv, e_neg, fNeg_i, f_addL, addR_ok, addS_ok, f_slice, o_no, o_at, slR_ok, slL_ok, slU_ok, slW_some, oaR_int, lstD_lst, cut_from1, fTup2, fTup1]
theorem ppA_ev (l : List Int) {S L : D} {low m T Sh W : D} {P : List D} : ∃ (a b : Int) (l' : List Int), 1 ≤ b ∧ bt 50 a ∧ bt 50 b ∧ ppA.ev [.own (some 0) (drO l), .dat S, .dat L, .dat low, .dat m, .dat W, .dat T, .dat Sh, .own none (.lst P), .no, .no, .no, .no, .no, .no] =
    .ok .nx [.own (some 0) (drO l'), .dat S, .dat L, .dat low, .dat m, .dat W, .dat T, .dat Sh, .own none (.lst P), .dat (.tup [.int a, .int b]), .no, .no, .no, .no, .no] := by
  obtain ⟨c, l', h1, h2, h3⟩ := pick_eq l (cs := amtC.map fun x => D.tup [.int x.1, .int x.2]) (by simp [amtC])
  obtain ⟨x, x1, rfl⟩ := List.mem_map.mp h1
  have hb : 1 ≤ x.2 ∧ bt 50 x.1 ∧ bt 50 x.2 := by
    have : ∀ x ∈ amtC, 1 ≤ x.2 ∧ x.1.natAbs < 2 ^ 50 ∧ x.2.natAbs < 2 ^ 50 := by decide
    exact this x x1
  refine ⟨x.1, x.2, l', hb.1, hb.2.1, hb.2.2, ?_⟩
  unfold drO at h3 ⊢
  simp only [amtC, List.map_cons, List.map_nil] at h3
  unfold ppA
  simp?! [fTup2, e_pow, pow12, cap3, h3, List.nodup_cons, List.not_mem_nil, not_false_eq_true, and_self, canSet_eq, canS_no]
end K84

/-! P48 -/
namespace K84
open scoped Rat
open PySem T L2
def ppC : SX tau := SX.seq (SX.asg 4 (EX.len (AX.cons (EX.var 1) (AX.nil))))
  (SX.seq (SX.asgF 5 (FX.lc (IX.range1 (AX.cons (EX.var 4) (AX.nil))) (GX.name 10) (TX.yes) (EX.tup (AX.cons (EX.var 10) (AX.cons (EX.idx (EX.var 2) (EX.var 10)) (AX.nil)))) [10] (by decide)))
  (SX.seq (SX.asgF 6 (FX.lc (IX.range1 (AX.cons (EX.var 4) (AX.nil))) (GX.name 10) (TX.yes) (EX.ofF (FX.lst (AX.cons (EX.var 10) (AX.cons (EX.ofF (FX.lst (AX.cons (EX.mul (EX.idx (EX.idx (EX.var 2) (EX.var 10)) (EX.int 0)) (EX.int 3)) (AX.cons (EX.mul (EX.idx (EX.idx (EX.var 2) (EX.var 10)) (EX.int 1)) (EX.int 3)) (AX.nil))))) (AX.nil))))) [10] (by decide)))
  (SX.seq (SX.rev 6)
  (SX.seq (SX.asgF 7 (FX.lc (IX.range1 (AX.cons (EX.var 4) (AX.nil))) (GX.name 10) (TX.yes) (EX.tup (AX.cons (EX.var 10) (AX.cons (EX.call sem__law_moved (AX.cons (EX.idx (EX.var 2) (EX.var 10)) (AX.cons (EX.notV (EX.var 3)) (AX.cons (EX.tup (AX.cons (EX.int 5) (AX.cons (EX.int 2) (AX.nil)))) (AX.nil))))) (AX.nil)))) [10] (by decide)))
  (SX.seq ppX (SX.seq ppY (SX.seq ppZ (SX.seq ppA (SX.seq (ppS ppB) ppR)))))))))
theorem ppC_eq : b__law_papers = ppC := rfl
theorem pk_app {W : List D} (hW : ∀ x ∈ W, PrOk 600 x) (hl : W.length ≤ 100) {e : D} (he : PrOk 600 e) : PaperOk (.lst (W ++ [e])) :=
  pk_lst (fun x hx => by
    rcases List.mem_append.mp hx with q | q
    · exact hW x q
    · rw [List.mem_singleton] at q; rw [q]; exact he) (by simp; omega)
theorem drop_ok {W : List D} (hW : ∀ x ∈ W, PrOk 600 x) (n : Nat) : ∀ x ∈ W.drop n, PrOk 600 x := fun x hx => hW x (List.mem_of_mem_drop hx)
theorem take_ok {W : List D} (hW : ∀ x ∈ W, PrOk 600 x) (n : Nat) : ∀ x ∈ W.take n, PrOk 600 x := fun x hx => hW x (List.mem_of_mem_take hx)
theorem x0_ok {W T Sh : List D} {e : D} {m : Int} (hW : ∀ x ∈ W, PrOk 600 x) (hT : ∀ x ∈ T.reverse, PrOk 600 x) (hS : ∀ x ∈ Sh, PrOk 600 x) (he : PrOk 600 e) (lW : W.length ≤ 100) (lT : T.length ≤ 100) (lS : Sh.length ≤ 100) : ∀ p ∈ X0 W T Sh e (.int m), PaperOk p := fun p hp => by
  unfold X0 at hp
  simp only [List.mem_cons, List.not_mem_nil, or_false] at hp
  rcases hp with rfl | rfl | rfl | rfl | rfl | rfl | rfl | rfl | rfl
  · exact pk_lst hW (by omega)
  · exact pk_lst hT (by simp; omega)
  · exact pk_lst hS (by omega)
  · exact pk_lst (by simp) (by simp)
  · exact ⟨rfl, .inl rfl⟩
  · exact ⟨rfl, .inl rfl⟩
  · exact pk_app hW lW he
  · exact pk_lst (drop_ok hW 1) (by simp; omega)
  · exact pk_app hW lW (pr_c11 rfl)
theorem x1_ok {W : List D} (hW : ∀ x ∈ W, PrOk 600 x) (lW : W.length ≤ 100) : ∀ p ∈ X1 W, PaperOk p := fun p hp => by
  have ld : (W.drop 1).length ≤ 100 := by simp; omega
  unfold X1 at hp
  simp only [List.mem_cons, List.not_mem_nil, or_false] at hp
  rcases hp with rfl | rfl | rfl | rfl
  · exact pk_app (drop_ok hW 1) ld (okB_pr (by decide +kernel))
  · exact pk_app (drop_ok hW 1) ld (okB_pr (by decide +kernel))
  · exact pk_app (drop_ok hW 1) ld (okB_pr (by decide +kernel))
  · exact pk_app (drop_ok hW 1) ld (okB_pr (by decide +kernel))
theorem x2_ok {W : List D} {x : Rat} (hx : sz 600 x) (hW : ∀ x ∈ W, PrOk 600 x) (lW : W.length ≤ 100) : ∀ p ∈ X2 W (rat x), PaperOk p := fun p hp => by
  have ld : (W.drop 1).length ≤ 100 := by simp; omega
  unfold X2 at hp
  simp only [List.mem_cons, List.not_mem_nil, or_false] at hp
  rcases hp with rfl | rfl | rfl | rfl
  · exact pk_app (drop_ok hW 1) ld (pr_rat rfl hx)
  · exact pk_app hW lW (pr_c11 rfl)
  · exact pk_app (drop_ok hW 1) ld (pr_rat rfl hx)
  · exact pk_app hW lW (okB_pr (by decide +kernel))
theorem p3_ok {vs : List Rat} {m : Nat} (hs : ∀ x ∈ vs, sz 460 x) (hm : m = vs.length) (m8 : m ≤ 8) {low : Bool} {a b : Int} (hb : 1 ≤ b) (b1 : bt 50 a) (b2 : bt 50 b) {i : Nat} (hi : i < m) : ∀ p ∈ pp3 vs m low a b i, PaperOk p := fun p hp => by
  have hW := wl_ok hs hm
  have wl := wl_len vs m
  unfold pp3 at hp
  simp only [List.mem_cons, List.not_mem_nil, or_false] at hp
  rcases hp with rfl | rfl | rfl
  · refine pk_lst (fun x hx => ?_) (by simp [wl]; omega)
    rcases List.mem_append.mp hx with q | q
    · exact take_ok hW _ x q
    · exact drop_ok hW _ x q
  · refine pk_lst (fun x hx => ?_) (by simp [wl]; omega)
    rcases List.mem_append.mp hx with q | q
    · rcases List.mem_append.mp q with q | q
      · exact take_ok hW _ x q
      · rw [List.mem_singleton] at q; rw [q]; exact me_ok hs hm hb b1 b2 _ hi
    · exact drop_ok hW _ x q
  · refine pk_lst (fun x hx => ?_) (by simp [wl]; omega)
    rcases List.mem_append.mp hx with q | q
    · rcases List.mem_append.mp q with q | q
      · exact take_ok hW _ x q
      · rw [List.mem_singleton] at q; rw [q]; exact me_ok hs hm hb b1 b2 _ hi
    · exact drop_ok hW _ x q
theorem fm3 {f : Nat → List D} (h : ∀ i, (f i).length = 3) : ∀ l : List Nat, (l.flatMap f).length = 3 * l.length
  | [] => rfl
  | i :: l => by rw [List.flatMap_cons, List.length_append, h, fm3 h l, List.length_cons]; omega
theorem papers_eq {sts : List Sta} {vs : List Rat} (hm : sts.length = vs.length) (hs : ∀ x ∈ vs, sz 460 x) (m1 : 1 ≤ sts.length) (m8 : sts.length ≤ 8) (ok : okFrom sts.length 0 sts) (low : Bool) (l : List Int) :
    ∃ (ps : List D) (l' : List Int), (∀ p ∈ ps, PaperOk p) ∧ sem__law_papers [.o (drO l), .d (rawS sts), .d (.lst (vs.map rat)), .d (.bl low)] = .ok (.lst ps) [drO l'] := by
  obtain ⟨m, hme⟩ : ∃ m, m = sts.length := ⟨_, rfl⟩
  have hmv : m = vs.length := by omega
  obtain ⟨e, he⟩ : ∃ e, (WL vs m)[m - 1]? = some e := ⟨_, List.getElem?_eq_getElem (by rw [wl_len]; omega)⟩
  have hW := wl_ok hs hmv
  have heok : PrOk 600 e := hW e (List.mem_of_getElem? he)
  have he1 : fIx (.lst (WL vs m)) (.int ((m : Int) - 1)) = some e := by
    rw [show ((m : Int) - 1) = ((m - 1 : Nat) : Int) by omega]
    exact (fIx_nat (seq_lst _) (m - 1)).trans he
  have hv0 : fIx (.lst (vs.map rat)) (.int 0) = some (rat (vat vs 0)) := vix (i := 0) (by omega)
  obtain ⟨a, b, l', hb, b1, b2, hA⟩ := ppA_ev l (S := rawS sts) (L := .lst (vs.map rat)) (low := .bl low) (m := .int m) (T := .lst ((List.range' 0 m).map (tE3 vs)).reverse) (Sh := .lst ((List.range' 0 m).map (mE vs (!low) 5 2))) (W := .lst (WL vs m)) (P := X0 (WL vs m) ((List.range' 0 m).map (tE3 vs)) ((List.range' 0 m).map (mE vs (!low) 5 2)) e (.int m) ++ X1 (WL vs m) ++ X2 (WL vs m) (rat (vat vs 0)))
  obtain ⟨x10, x1, x2⟩ := pp_loop hs hmv (by omega) (low := low) hb b1 b2 (dr := drO l') (S := rawS sts) (d4 := .int m) (T := .lst ((List.range' 0 m).map (tE3 vs)).reverse) (Sh := .lst ((List.range' 0 m).map (mE vs (!low) 5 2))) m 0 .no (by omega) rfl
  obtain ⟨met, y10, y12, y0, y1⟩ := pm_loop hm m8 ok (low := low) (dr := drO l') (d4 := .int m) (W := .lst (WL vs m)) (T := .lst ((List.range' 0 m).map (tE3 vs)).reverse) (Sh := .lst ((List.range' 0 m).map (mE vs (!low) 5 2))) (am := .tup [.int a, .int b]) m 0 [0] x10 .no (by omega) (by simp; omega) x1 rfl
  have x3 := x2 (X0 (WL vs m) ((List.range' 0 m).map (tE3 vs)) ((List.range' 0 m).map (mE vs (!low) 5 2)) e (.int m) ++ X1 (WL vs m) ++ X2 (WL vs m) (rat (vat vs 0))) (by simp [X0, X1, X2]; omega)
  have hX := ppX_ev (dr := drO l) (S := rawS sts) (L := .lst (vs.map rat)) (low := .bl low) (T := (List.range' 0 m).map (tE3 vs)) (Sh := (List.range' 0 m).map (mE vs (!low) 5 2)) he1 (by rw [wl_len]; omega)
  have hY := ppY_ev (dr := drO l) (S := rawS sts) (L := .lst (vs.map rat)) (low := .bl low) (m := .int m) (T := .lst ((List.range' 0 m).map (tE3 vs)).reverse) (Sh := .lst ((List.range' 0 m).map (mE vs (!low) 5 2))) (W := WL vs m) (P := X0 (WL vs m) ((List.range' 0 m).map (tE3 vs)) ((List.range' 0 m).map (mE vs (!low) 5 2)) e (.int m)) (by rw [wl_len]; omega) (by simp [X0])
  have hZ := ppZ_ev (dr := drO l) (S := rawS sts) (L := .lst (vs.map rat)) (low := .bl low) (m := .int m) (T := .lst ((List.range' 0 m).map (tE3 vs)).reverse) (Sh := .lst ((List.range' 0 m).map (mE vs (!low) 5 2))) (W := WL vs m) (P := X0 (WL vs m) ((List.range' 0 m).map (tE3 vs)) ((List.range' 0 m).map (mE vs (!low) 5 2)) e (.int m) ++ X1 (WL vs m)) hv0 (by rw [wl_len]; omega) (by simp [X0, X1])
  have lcW : ∀ env0 : En, env0 = [.own (some 0) (drO l), .dat (rawS sts), .dat (.lst (vs.map rat)), .dat (.bl low), .dat (.int m), .no, .no, .no, .no, .no, .no, .no, .no, .no, .no] →
      runLc (fun _ => true) (GX.name 10 : GX tau).ev (TX.yes : TX tau).ev (EX.tup (AX.cons (EX.var 10) (AX.cons (EX.idx (EX.var 2) (EX.var 10)) (AX.nil))) : EX tau).ev [10] ((List.range' 0 m).map iD) env0 [] = .ok (WL vs m) env0 := by
    rintro env0 rfl
    refine lc_all iD (wE vs) (List.range' 0 m) (fun i hi => ?_) (by simp; omega)
    rw [List.mem_range'_1] at hi
    have vi := vix (vs := vs) (i := i) (by omega)
    exact ⟨[.own (some 0) (drO l), .dat (rawS sts), .dat (.lst (vs.map rat)), .dat (.bl low), .dat (.int m), .no, .no, .no, .no, .no, .dat (iD i), .no, .no, .no, .no], by simp?! [g_nm, canSet_eq, canS_no], by simp?!, by simp?!, by simp?! [vi, fTup2]; rfl⟩
  have b3 : bt 2 (3 : Int) := by show (3 : Nat) < 4; decide
  have lcT : ∀ env0 : En, env0 = [.own (some 0) (drO l), .dat (rawS sts), .dat (.lst (vs.map rat)), .dat (.bl low), .dat (.int m), .own none (.lst (WL vs m)), .no, .no, .no, .no, .no, .no, .no, .no, .no] →
      runLc (fun _ => true) (GX.name 10 : GX tau).ev (TX.yes : TX tau).ev (EX.ofF (FX.lst (AX.cons (EX.var 10) (AX.cons (EX.ofF (FX.lst (AX.cons (EX.mul (EX.idx (EX.idx (EX.var 2) (EX.var 10)) (EX.int 0)) (EX.int 3)) (AX.cons (EX.mul (EX.idx (EX.idx (EX.var 2) (EX.var 10)) (EX.int 1)) (EX.int 3)) (AX.nil))))) (AX.nil)))) : EX tau).ev [10] ((List.range' 0 m).map iD) env0 [] = .ok ((List.range' 0 m).map (tE3 vs)) env0 := by
    rintro env0 rfl
    refine lc_all iD (tE3 vs) (List.range' 0 m) (fun i hi => ?_) (by simp; omega)
    rw [List.mem_range'_1] at hi
    have vi := vix (vs := vs) (i := i) (by omega)
    obtain ⟨z1, z2⟩ := vsz hs hmv (i := i) (by omega)
    have i0 := fIx_0 (seq_rat (vat vs i))
    have i1 := fIx_1 (seq_rat (vat vs i))
    have c2 : capd 2 = true := by decide
    exact ⟨[.own (some 0) (drO l), .dat (rawS sts), .dat (.lst (vs.map rat)), .dat (.bl low), .dat (.int m), .own none (.lst (WL vs m)), .no, .no, .no, .no, .dat (iD i), .no, .no, .no, .no], by simp?! [g_nm, canSet_eq, canS_no], by simp?!, by simp?!, by simp?! [vi, i0, i1, fI_mul z1 b3 (by decide), fI_mul z2 b3 (by decide), c2]; rfl⟩
  have b5 : bt 50 (5 : Int) := by show (5 : Nat) < 2 ^ 50; decide
  have b22 : bt 50 (2 : Int) := by show (2 : Nat) < 2 ^ 50; decide
  have lcS : ∀ env0 : En, env0 = [.own (some 0) (drO l), .dat (rawS sts), .dat (.lst (vs.map rat)), .dat (.bl low), .dat (.int m), .own none (.lst (WL vs m)), .own none (.lst ((List.range' 0 m).map (tE3 vs)).reverse), .no, .no, .no, .no, .no, .no, .no, .no] →
      runLc (fun _ => true) (GX.name 10 : GX tau).ev (TX.yes : TX tau).ev (EX.tup (AX.cons (EX.var 10) (AX.cons (EX.call sem__law_moved (AX.cons (EX.idx (EX.var 2) (EX.var 10)) (AX.cons (EX.notV (EX.var 3)) (AX.cons (EX.tup (AX.cons (EX.int 5) (AX.cons (EX.int 2) (AX.nil)))) (AX.nil))))) (AX.nil))) : EX tau).ev [10] ((List.range' 0 m).map iD) env0 [] = .ok ((List.range' 0 m).map (mE vs (!low) 5 2)) env0 := by
    rintro env0 rfl
    refine lc_all iD (mE vs (!low) 5 2) (List.range' 0 m) (fun i hi => ?_) (by simp; omega)
    rw [List.mem_range'_1] at hi
    have vi := vix (vs := vs) (i := i) (by omega)
    have mo := moved_eq (IsR.rat (vsz hs hmv (i := i) (by omega))) (show (1 : Int) ≤ 2 by decide) b5 b22 (by decide) (!low)
    exact ⟨[.own (some 0) (drO l), .dat (rawS sts), .dat (.lst (vs.map rat)), .dat (.bl low), .dat (.int m), .own none (.lst (WL vs m)), .own none (.lst ((List.range' 0 m).map (tE3 vs)).reverse), .no, .no, .no, .dat (iD i), .no, .no, .no, .no], by simp?! [g_nm, canSet_eq, canS_no], by simp?!, by simp?!, by simp?! [vi, mo, fTup2]; rfl⟩
  have lcF : ∀ (P : List D) (env0 : En), env0 = [.own (some 0) (drO l'), .dat (rawS sts), .dat (.lst (vs.map rat)), .dat (.bl low), .dat (.int m), .dat (.lst (WL vs m)), .dat (.lst ((List.range' 0 m).map (tE3 vs)).reverse), .dat (.lst ((List.range' 0 m).map (mE vs (!low) 5 2))), .own none (.lst P), .dat (.tup [.int a, .int b]), .no, .dat (.lst (met.map iD)), y12, .no, .no] →
      runLc (fun _ => true) (GX.name 10 : GX tau).ev (TX.ofE (EX.isin (EX.var 10) (EX.var 11)) : TX tau).ev (EX.tup (AX.cons (EX.var 10) (AX.cons (EX.idx (EX.var 2) (EX.var 10)) (AX.nil))) : EX tau).ev [10] ((List.range' 0 m).map iD) env0 [] = .ok (((List.range' 0 m).filter fun i => inF (iD i) (met.map iD)).map (wE vs)) env0 := by
    rintro P env0 rfl
    refine lc_some iD _ (wE vs) (List.range' 0 m) (fun i hi => ?_) (by simp; omega)
    rw [List.mem_range'_1] at hi
    have vi := vix (vs := vs) (i := i) (by omega)
    exact ⟨[.own (some 0) (drO l'), .dat (rawS sts), .dat (.lst (vs.map rat)), .dat (.bl low), .dat (.int m), .dat (.lst (WL vs m)), .dat (.lst ((List.range' 0 m).map (tE3 vs)).reverse), .dat (.lst ((List.range' 0 m).map (mE vs (!low) 5 2))), .own none (.lst P), .dat (.tup [.int a, .int b]), .dat (iD i), .dat (.lst (met.map iD)), y12, .no, .no], by simp?! [g_nm, canSet_eq, canS_no], by simp?!, by simp?! [isin_iD], fun _ => by simp?! [vi, fTup2]; rfl⟩
  have l1 := lcW _ rfl
  have l2 := lcT _ rfl
  have l3 := lcS _ rfl
  have l4 := fun P => lcF P _ rfl
  have rg := rng_len (show m ≤ 1000 by omega)
  have y3 := y1 (X0 (WL vs m) ((List.range' 0 m).map (tE3 vs)) ((List.range' 0 m).map (mE vs (!low) 5 2)) e (.int m) ++ X1 (WL vs m) ++ X2 (WL vs m) (rat (vat vs 0)) ++ (List.range' 0 m).flatMap (pp3 vs m low a b))
  simp only [List.map_cons, List.map_nil, show iD 0 = D.int 0 from rfl] at y3
  refine ⟨X0 (WL vs m) ((List.range' 0 m).map (tE3 vs)) ((List.range' 0 m).map (mE vs (!low) 5 2)) e (.int m) ++ X1 (WL vs m) ++ X2 (WL vs m) (rat (vat vs 0)) ++ (List.range' 0 m).flatMap (pp3 vs m low a b) ++ [.lst (((List.range' 0 m).filter fun i => inF (iD i) (met.map iD)).map (wE vs))], l', ?_, ?_⟩
  · intro p hp
    have wl := wl_len vs m
    rcases List.mem_append.mp hp with q | q
    · rcases List.mem_append.mp q with q | q
      · rcases List.mem_append.mp q with q | q
        · rcases List.mem_append.mp q with q | q
          · refine x0_ok hW (te_ok hs hmv) (fun x hx => ?_) heok (by omega) (by simp; omega) (by simp; omega) p q
            obtain ⟨i, hi, rfl⟩ := List.mem_map.mp hx
            rw [List.mem_range'_1] at hi
            exact me_ok hs hmv (by decide) b5 b22 _ (by omega)
          · exact x1_ok hW (by omega) p q
        · exact x2_ok ((vsz hs hmv (i := 0) (by omega)).mono (by decide)) hW (by omega) p q
      · obtain ⟨i, hi, q⟩ := List.mem_flatMap.mp q
        rw [List.mem_range'_1] at hi
        exact p3_ok hs hmv (by omega) hb b1 b2 (by omega) p q
    · rw [List.mem_singleton] at q
      rw [q]
      refine pk_lst (fun x hx => ?_) (by
        have := List.length_filter_le (fun i => inF (iD i) (met.map iD)) (List.range' 0 m)
        simp at this ⊢; omega)
      obtain ⟨i, hi, rfl⟩ := List.mem_map.mp hx
      exact hW _ (List.mem_map.mpr ⟨i, (List.mem_filter.mp hi).1, rfl⟩)
  · have hlen : capd (X0 (WL vs m) ((List.range' 0 m).map (tE3 vs)) ((List.range' 0 m).map (mE vs (!low) 5 2)) e (.int m) ++ X1 (WL vs m) ++ X2 (WL vs m) (rat (vat vs 0)) ++ (List.range' 0 m).flatMap (pp3 vs m low a b)).length = true := by
      refine cpd ?_
      have : ((List.range' 0 m).flatMap (pp3 vs m low a b)).length = 3 * m := by
        rw [fm3 (fun i => rfl), List.length_range']
      simp [X0, X1, X2, this]; omega
    have fl : fLen [rawS sts] = some (.int (m : Int)) := by rw [hme]; exact fLen_raw sts
    unfold sem__law_papers
    rw [ppC_eq]
    unfold ppC ppR ppS
    simp?! [fl, canSet_eq, canS_no, rg, chk_range1, okVs_cons, l1, l2, l3, hX, hY, hZ, hA, x3, cap1, y3, okS_okV y0, l4, hlen]
end K84

/-! P49 -/
namespace K84
open scoped Rat
open PySem T L2
/-! ### one side -/
theorem kind_sok (s : Sta) : PyData.strOk s.kind = true := by
  cases s with
  | fin p q => exact ok_str.1
  | ext m fs => exact ok_kw m
  | av ws => exact ok_str.2.2.2
theorem ok_words : PyData.strOk ("form" : Str) = true ∧ PyData.strOk ("first" : Str) = true ∧ PyData.strOk ("right" : Str) = true ∧ PyData.strOk ("number" : Str) = true ∧ PyData.strOk ("ratio" : Str) = true := by decide +kernel
theorem word_sok (low : Bool) (sts : List Sta) (num : Rat) (ds : List D) : PyData.strOk (word low sts num ds) = true := by
  unfold word
  split
  · exact ok_words.1
  · unfold endw
    split
    · exact ok_words.2.1
    · split
      · exact kind_sok _
      · split
        · exact ok_words.2.2.1
        · exact ok_words.2.2.2.1
theorem both_words {k : Nat} {sts : List Sta} {paper num : D} {y : Rat} (hp : PaperOk paper) (hN : IsR k num y) (k1 : k ≤ 1000) (m1 : sts ≠ []) (m8 : sts.length ≤ 8) (ok : okFrom sts.length 0 sts) (low : Bool) :
    ∃ w : Str, PyData.strOk w = true ∧ sem__law_word [.d (rawS sts), .d paper, .d num, .d (.bl low)] = .ok (.str w) [] ∧ sem__law_judged [.d (arenaD sts), .d paper, .d num, .d (.bl low)] = .ok (.str w) [] := by
  have sm := okFrom.sm ok
  rcases hp.at_ with h | ⟨ds, h1, h2, h3⟩
  · refine ⟨"form", ok_words.1, law_word_none hp.nin h, judged_ok ?_⟩
    cases low with
    | true => exact judge_low_none hN k1 hp.nin h
    | false => exact judge_high_none hN k1 hp.nin h
  · refine ⟨word low sts y ds, word_sok _ _ _ _, law_word_eq low hp.nin h1 h2 hN (by decide) k1 (List.length_pos_iff.mpr m1) (by omega) sm, judged_ok ?_⟩
    cases low with
    | true => exact judge_low_eq hp.nin h1 h2 hN (by decide) k1 (by omega) (by omega) fun s hs => (sm s hs).1
    | false => exact judge_high_eq hp.nin h1 h2 hN (by decide) k1 (by omega) (by omega) m1 ok
theorem isr_lst {n : Nat} {x : Rat} (h : sz n x) : IsR n (.lst [.int x.num, .int x.den]) x :=
  ⟨rfl, x.num, x.den, by simp [ratD, seq_lst, ratL, den1], h.1, h.2, (self_divInt x).symm⟩
def tk (v : Nat → Rat) (k : Nat) : Told := fun i => if i < k then some (v i) else none
theorem tk_upd (v : Nat → Rat) (k : Nat) : upd1 (tk v k) k (v k) = tk v (k + 1) := by
  funext i
  unfold upd1 tk
  by_cases e : i = k
  · subst e; rw [if_pos rfl, if_pos (by omega)]
  · rw [if_neg e]
    by_cases c : i < k
    · rw [if_pos c, if_pos (by omega)]
    · rw [if_neg c, if_neg (by omega)]
theorem parse_wl {vs : List Rat} {m : Nat} : ∀ (n k : Nat), k + n = m → parse m ((List.range' k n).map (wE vs)) (tk (vat vs) k) = some (tk (vat vs) m)
  | 0, k, h => by rw [List.range'_zero]; simp only [List.map_nil, parse]; rw [show k = m by omega]
  | n + 1, k, h => by
    rw [List.range'_succ, List.map_cons]
    have e : entry m (tk (vat vs) k) (wE vs k) = some (tk (vat vs) (k + 1)) := by
      have q : (wE vs k).seq? = some [.int (k : Int), rat (vat vs k)] := rfl
      simp only [entry, q, Option.bind_some, entL, ratD_rat]
      have c : (0 : Int) ≤ (k : Int) ∧ (k : Int) < (m : Int) ∧ tk (vat vs) k ((k : Int).toNat) = none := ⟨by omega, by omega, by unfold tk; rw [if_neg (by simp)]⟩
      rw [if_pos c, Int.toNat_natCast, self_divInt, tk_upd]
    simp only [parse, e, Option.bind_some]
    exact parse_wl n (k + 1) (by omega)
theorem fb_good {low : Bool} {told : Told} : ∀ (r : List Sta) (k : Nat), (∀ j s, r[j]? = some s → bad low told (k + j) s = false) → fb low told k r = none
  | [], _, _ => rfl
  | s :: r, k, h => by
    have h0 := h 0 s rfl
    rw [Nat.add_zero] at h0
    unfold fb
    rw [h0]
    simp only [Bool.false_eq_true, if_false]
    exact fb_good r (k + 1) fun j t hj => by
      have := h (j + 1) t (by simpa using hj)
      rwa [show k + 1 + j = k + (j + 1) by omega]
theorem leb_rfl (low : Bool) (a : Rat) : leb low a a = true := by unfold leb; split <;> simp [Rat.le_refl]
theorem keeps_val {low : Bool} {v : Nat → Rat} {i m : Nat} {own : Rat} : ∀ {s : Sta}, s.ok i m → valOk v own s → keeps low (tk v m) own s = true
  | .fin p q, _, h => by
    have h : own = p /. q := h
    simp only [keeps]
    rw [h]; exact leb_rfl low _
  | .ext mx fs, ⟨s1, s2, s3⟩, ⟨⟨f, f1, f2⟩, h⟩ => by
    have tf : ∀ f ∈ fs, tk v m f = some (v f) := fun f hf => by unfold tk; rw [if_pos (s3 f hf).2]
    simp only [keeps]
    split
    · exact List.any_eq_true.mpr ⟨f, f1, by rw [tf f f1, ← f2]; exact leb_rfl low own⟩
    · rename_i c
      refine List.all_eq_true.mpr fun g hg => ?_
      rw [tf g hg]
      have := h g hg
      show leb low own (v g) = true
      unfold leb
      cases mx with
      | true =>
        cases low with
        | true => exact absurd rfl c
        | false => simpa using this
      | false =>
        cases low with
        | true => simpa using this
        | false => exact absurd rfl c
  | .av ws, ⟨s1, s2, s3⟩, h => by
    have h : own = mean (ws.map fun x => (x.1, v x.2)) := h
    have tf : ∀ x ∈ ws, tk v m x.2 = some (v x.2) := fun x hx => by unfold tk; rw [if_pos (s3 x hx).2.1]
    have e : vals (tk v m) ws = ws.map fun x => (x.1, v x.2) := List.map_congr_left fun x hx => by rw [tf x hx]; rfl
    simp only [keeps]
    rw [e, ← h, leb_rfl, Bool.and_true]
    exact List.all_eq_true.mpr fun x hx => by rw [tf x hx]; rfl
theorem word_whole {sts : List Sta} {vs : List Rat} (m1 : 1 ≤ sts.length) (ok : okFrom sts.length 0 sts) (hv : ∀ i s, sts[i]? = some s → valOk (vat vs) (vat vs i) s) (low : Bool) (y : Rat) :
    word low sts y (WL vs sts.length) = (if leb low y (vat vs 0) = true then ("right" : Str) else ("number" : Str)) := by
  have p := parse_wl (vs := vs) (m := sts.length) sts.length 0 (by omega)
  have t0 : tk (vat vs) 0 = fun _ => none := by funext i; unfold tk; rw [if_neg (by omega)]
  rw [t0] at p
  have z : tk (vat vs) sts.length 0 = some (vat vs 0) := by unfold tk; rw [if_pos (by omega)]
  have g : fb low (tk (vat vs) sts.length) 0 sts = none := fb_good sts 0 fun j s hj => by
    have hm := (List.getElem?_eq_some_iff.mp hj).1
    have so := okFrom_at ok hj
    rw [Nat.zero_add] at so ⊢
    have t : tk (vat vs) sts.length j = some (vat vs j) := by unfold tk; rw [if_pos hm]
    unfold bad
    rw [t]
    show (!(keeps low (tk (vat vs) sts.length) (vat vs j) s)) = false
    rw [keeps_val so (hv j s hj)]; rfl
  unfold word WL
  rw [p]
  dsimp only
  unfold endw
  rw [z]
  dsimp only
  rw [g]
theorem leb_own (low : Bool) (x : Rat) : leb low x x = true := leb_rfl low x
theorem leb_beyond (low : Bool) (x : Rat) : leb low (mvv low x 1 1000) x = false := by
  unfold leb mvv
  cases low with
  | true =>
    simp only [if_true, decide_eq_false_iff_not]
    intro h
    have h2 : x + (1 : Int) /. 1000 ≤ x + 0 := by rwa [Rat.add_zero]
    have h3 := Rat.add_le_add_left.mp h2
    revert h3
    decide +kernel
  | false =>
    simp only [Bool.false_eq_true, if_false, decide_eq_false_iff_not]
    intro h
    have h2 : x + 0 ≤ x + (0 - 1 : Int) /. 1000 := by rwa [Rat.add_zero]
    have h3 := Rat.add_le_add_left.mp h2
    revert h3
    decide +kernel
end K84

/-! P50 -/
namespace K84
open scoped Rat
open PySem T L2
def snB : SX tau := SX.seq (SX.asg 10 (EX.call sem__law_word (AX.cons (EX.var 2) (AX.cons (EX.var 7) (AX.cons (EX.var 8) (AX.cons (EX.var 4) (AX.nil)))))))
  (SX.seq (SX.asg 11 (EX.call sem__law_judged (AX.cons (EX.var 1) (AX.cons (EX.var 7) (AX.cons (EX.var 8) (AX.cons (EX.var 4) (AX.nil)))))))
  (SX.ite (TX.or (TX.not (TX.ofE (EX.isi "str" (EX.var 11)))) (TX.ofE (EX.ne (EX.var 11) (EX.var 10)))) (SX.ret (EX.bl false)) (SX.nx)))
def spB : SX tau := SX.forE (IX.seq (EX.ofF (FX.lst (AX.cons (EX.var 5) (AX.cons (EX.ofF (FX.lstOf (AX.cons (EX.var 6) (AX.nil)))) (AX.nil)))))) (GX.name 8) snB
def srB : SX tau := SX.ite (TX.ofE (EX.ne (EX.call sem__law_judged (AX.cons (EX.var 1) (AX.cons (EX.non) (AX.cons (EX.var 8) (AX.cons (EX.var 4) (AX.nil)))))) (EX.ofF (FX.lst (AX.cons (EX.str "number") (AX.cons (EX.str "ratio") (AX.nil))))))) (SX.ret (EX.bl false)) (SX.nx)
theorem fNe_same {w : Str} (h : PyData.strOk w = true) : fNe (.str w) (.str w) = some (.bl false) := by rw [fNe_str h h]; simp
theorem fEq_same {w : Str} (h : PyData.strOk w = true) : fEq (.str w) (.str w) = some (.bl true) := by rw [fEq_str h h]; simp
theorem sn_turn {k : Nat} {sts : List Sta} {paper num : D} {y : Rat} (hp : PaperOk paper) (hN : IsR k num y) (k1 : k ≤ 1000) (m1 : sts ≠ []) (m8 : sts.length ≤ 8) (ok : okFrom sts.length 0 sts) (low : Bool) {dr : O} {L a b : D} {x z : Sl} (hx : okS x = true) (hz : okS z = true) :
    ∃ w : Str, snB.ev [.own (some 0) dr, .dat (arenaD sts), .dat (rawS sts), .dat L, .dat (.bl low), .dat a, .dat b, .dat paper, .dat num, .no, x, z, .no] =
      .ok .nx [.own (some 0) dr, .dat (arenaD sts), .dat (rawS sts), .dat L, .dat (.bl low), .dat a, .dat b, .dat paper, .dat num, .no, .dat (.str w), .dat (.str w), .no] := by
  obtain ⟨w, w1, w2, w3⟩ := both_words hp hN k1 m1 m8 ok low
  refine ⟨w, ?_⟩
  unfold snB
  simp?! [w2, w3, canSet_eq, canS_ok hx, canS_ok hz, isi_str, fNe_same w1]
theorem sp_turn {sts : List Sta} {paper a : D} {v y : Rat} (hp : PaperOk paper) (ha : IsR 520 a v) (hy : sz 520 y) (m1 : sts ≠ []) (m8 : sts.length ≤ 8) (ok : okFrom sts.length 0 sts) (low : Bool) {dr : O} {L : D} {x z u : Sl} (hx : okS x = true) (hz : okS z = true) (hu : okS u = true) :
    ∃ w1 w2 : Str, spB.ev [.own (some 0) dr, .dat (arenaD sts), .dat (rawS sts), .dat L, .dat (.bl low), .dat a, .dat (rat y), .dat paper, u, .no, x, z, .no] =
      .ok .nx [.own (some 0) dr, .dat (arenaD sts), .dat (rawS sts), .dat L, .dat (.bl low), .dat a, .dat (rat y), .dat paper, .dat (.lst [.int y.num, .int y.den]), .no, .dat (.str w1), .dat (.str w2), .no] := by
  obtain ⟨w1, e1⟩ := sn_turn (L := L) (a := a) (b := rat y) (dr := dr) hp ha (by decide) m1 m8 ok low hx hz
  obtain ⟨w2, e2⟩ := sn_turn (L := L) (a := a) (b := rat y) (dr := dr) hp (isr_lst hy) (by decide) m1 m8 ok low (x := .dat (.str w1)) (z := .dat (.str w1)) rfl rfl
  refine ⟨w2, w2, ?_⟩
  have s1 : seq1 [rat y] = some [.int y.num, .int y.den] := nrfl rfl
  have c2 : capd 2 = true := by decide
  unfold spB
  simp?! [s1, c2, seq_lst, chk_seq, for_cons, for_nil, g_nm, canSet_eq, canS_ok hu, canS_dat, e1, e2]
theorem sp_loop {sts : List Sta} {a : D} {v y : Rat} (ha : IsR 520 a v) (hy : sz 520 y) (m1 : sts ≠ []) (m8 : sts.length ≤ 8) (ok : okFrom sts.length 0 sts) (low : Bool) {dr : O} {L : D} : ∀ (ps : List D) (p x z u : Sl), (∀ p ∈ ps, PaperOk p) → okS p = true → okS x = true → okS z = true → okS u = true →
    ∃ p' x' z' u', okS p' = true ∧ okS x' = true ∧ okS z' = true ∧ okS u' = true ∧ runFor (fun _ => true) (GX.name 7 : GX tau).ev spB.ev ps [.own (some 0) dr, .dat (arenaD sts), .dat (rawS sts), .dat L, .dat (.bl low), .dat a, .dat (rat y), p, u, .no, x, z, .no] =
      .ok .nx [.own (some 0) dr, .dat (arenaD sts), .dat (rawS sts), .dat L, .dat (.bl low), .dat a, .dat (rat y), p', u', .no, x', z', .no]
  | [], p, x, z, u, _, hp, hx, hz, hu => ⟨p, x, z, u, hp, hx, hz, hu, for_nil _ _ _⟩
  | d :: ps, p, x, z, u, hd, hp, hx, hz, hu => by
    obtain ⟨w1, w2, e1⟩ := sp_turn (dr := dr) (L := L) (hd d (by simp)) ha hy m1 m8 ok low hx hz hu
    obtain ⟨p', x', z', u', a1, a2, a3, a4, a5⟩ := sp_loop ha hy m1 m8 ok low (dr := dr) (L := L) ps (.dat d) (.dat (.str w1)) (.dat (.str w2)) (.dat (.lst [.int y.num, .int y.den])) (fun q hq => hd q (by simp [hq])) rfl rfl rfl rfl
    refine ⟨p', x', z', u', a1, a2, a3, a4, ?_⟩
    rw [for_cons, ← a5]
    simp?! [g_nm, canSet_eq, canS_ok hp, e1]
theorem fNe_nr : fNe (.lst [.str "number", .str "ratio"]) (.lst [.str "number", .str "ratio"]) = some (.bl false) := by
  have h1 : PyData.strOk (Str.ofString "number") = true := ok_words.2.2.2.1
  have h2 : PyData.strOk (Str.ofString "ratio") = true := ok_words.2.2.2.2
  simp [fNe, D.plain, D.eqv, D.py, pyL, SeqAt.shaped, PyData.canLay0, PyData.canLayAll0, PyData.depth, PyData.depthAll, PyData.eqv, PyData.eqvAll, h1, h2]
theorem sr_loop {arena S L a b : D} {low : Bool} {dr : O} {p x z : Sl} : ∀ (ds : List D) (u : Sl), (∀ d ∈ ds, nin d = true ∧ ratD d = none) → okS u = true →
    ∃ u', okS u' = true ∧ runFor (fun _ => true) (GX.name 8 : GX tau).ev srB.ev ds [.own (some 0) dr, .dat arena, .dat S, .dat L, .dat (.bl low), .dat a, .dat b, p, u, .no, x, z, .no] =
      .ok .nx [.own (some 0) dr, .dat arena, .dat S, .dat L, .dat (.bl low), .dat a, .dat b, p, u', .no, x, z, .no]
  | [], u, _, hu => ⟨u, hu, for_nil _ _ _⟩
  | d :: ds, u, hd, hu => by
    obtain ⟨d1, d2⟩ := hd d (by simp)
    obtain ⟨u', a1, a2⟩ := sr_loop (arena := arena) (S := S) (L := L) (a := a) (b := b) (low := low) (dr := dr) (p := p) (x := x) (z := z) ds (.dat d) (fun q hq => hd q (by simp [hq])) rfl
    have jb := judged_bad (arena := arena) (paper := .non) (low := low) d1 d2
    have c2 : capd 2 = true := by decide
    refine ⟨u', a1, ?_⟩
    rw [for_cons, ← a2]
    unfold srB
    simp?! [g_nm, canSet_eq, canS_ok hu, jb, c2, fNe_nr]
def badN : List D := [.non, .int 3, .tup [.int 1], .tup [.int 1, .int 0], .tup [.bl true, .int 1], .tup [.int 1, .str "1"], .tup [.int 1, .int 2, .int 3]]
theorem badN_ok : ∀ d ∈ badN, nin d = true ∧ ratD d = none := by
  intro d hd
  unfold badN at hd
  simp only [List.mem_cons, List.not_mem_nil, or_false] at hd
  rcases hd with rfl | rfl | rfl | rfl | rfl | rfl | rfl <;> exact ⟨rfl, rfl⟩
theorem wl_paper {vs : List Rat} {m : Nat} (hs : ∀ x ∈ vs, sz 460 x) (hm : m = vs.length) (m8 : m ≤ 8) : nin (.lst (WL vs m)) = true := nins_all.mpr fun d hd => (wl_ok hs hm d hd).nin
theorem side_right_eq {sts : List Sta} {vs : List Rat} (hm : sts.length = vs.length) (hs : ∀ x ∈ vs, sz 460 x) (m1 : sts ≠ []) (m8 : sts.length ≤ 8) (ok : okFrom sts.length 0 sts) (hv : ∀ i s, sts[i]? = some s → valOk (vat vs) (vat vs i) s) (low : Bool) (l : List Int) :
    ∃ l' : List Int, sem__law_side_right [.o (drO l), .d (arenaD sts), .d (rawS sts), .d (.lst (vs.map rat)), .d (.bl low)] = .ok (.bl true) [drO l'] := by
  have ml := List.length_pos_iff.mpr m1
  obtain ⟨ps, l', hps, hP⟩ := papers_eq hm hs (by omega) m8 ok low l
  have z0 : sz 460 (vat vs 0) := hs _ (vat_mem (by omega))
  have hv0 : fIx (.lst (vs.map rat)) (.int 0) = some (rat (vat vs 0)) := vix (i := 0) (by omega)
  have b2 : bt 2 (2 : Int) := by show (2 : Nat) < 4; decide
  have b1 : bt 50 (1 : Int) := by show (1 : Nat) < 2 ^ 50; decide
  have b1000 : bt 50 (1000 : Int) := by show (1000 : Nat) < 2 ^ 50; decide
  have i0 := fIx_0 (seq_rat (vat vs 0))
  have i1 := fIx_1 (seq_rat (vat vs 0))
  have mo := moved_eq (IsR.rat z0) (show (1 : Int) ≤ 1000 by decide) b1 b1000 (by decide) low
  have zb : sz 520 (mvv low (vat vs 0) 1 1000) := (mvv_sz z0 (by decide) b1 b1000 low).mono (by decide)
  have own : IsR 520 (.tup [.int ((vat vs 0).num * 2), .int ((vat vs 0).den * 2)]) (vat vs 0) := by
    have d1 := den1 (vat vs 0)
    have e := IsR.tup (n := 520) (p := (vat vs 0).num * 2) (q := (vat vs 0).den * 2) (by omega) ((z0.1.mul b2).mono (by decide)) ((z0.2.mul b2).mono (by decide))
    rwa [Rat.divInt_mul_right (by decide), self_divInt] at e
  obtain ⟨p', x', z', u', a1, a2, a3, a4, a5⟩ := sp_loop own zb m1 m8 ok low (dr := drO l') (L := .lst (vs.map rat)) ps .no .no .no .no hps rfl rfl rfl rfl
  obtain ⟨u2, c1, c2⟩ := sr_loop (arena := arenaD sts) (S := rawS sts) (L := .lst (vs.map rat)) (a := .tup [.int ((vat vs 0).num * 2), .int ((vat vs 0).den * 2)]) (b := rat (mvv low (vat vs 0) 1 1000)) (low := low) (dr := drO l') (p := p') (x := x') (z := z') badN u' badN_ok a4
  have hW := wl_ok hs hm
  have wl := wl_len vs sts.length
  have sm := okFrom.sm ok
  have jw : ∀ {k : Nat} {num : D} {y : Rat}, IsR k num y → k ≤ 1000 → sem__law_judged [.d (arenaD sts), .d (.lst (WL vs sts.length)), .d num, .d (.bl low)] = .ok (.str (if leb low y (vat vs 0) = true then ("right" : Str) else ("number" : Str))) [] := fun {k num y} hN k1 => by
    rw [← word_whole (by omega) ok hv low y]
    refine judged_ok ?_
    cases low with
    | true => exact judge_low_eq (wl_paper hs hm m8) (seq_lst _) hW hN (by decide) k1 (by omega) (by omega) fun s hs => (sm s hs).1
    | false => exact judge_high_eq (wl_paper hs hm m8) (seq_lst _) hW hN (by decide) k1 (by omega) (by omega) m1 ok
  have j1 := jw own (by decide)
  have j2 := jw (IsR.rat zb) (by decide)
  rw [leb_own, if_pos rfl] at j1
  rw [leb_beyond, if_neg (by decide)] at j2
  have lcW : ∀ env0 : En, env0 = [.own (some 0) (drO l'), .dat (arenaD sts), .dat (rawS sts), .dat (.lst (vs.map rat)), .dat (.bl low), .dat (.tup [.int ((vat vs 0).num * 2), .int ((vat vs 0).den * 2)]), .dat (rat (mvv low (vat vs 0) 1 1000)), p', u2, .no, x', z', .no] →
      runLc (fun _ => true) (GX.name 12 : GX tau).ev (TX.yes : TX tau).ev (EX.tup (AX.cons (EX.var 12) (AX.cons (EX.idx (EX.var 3) (EX.var 12)) (AX.nil))) : EX tau).ev [12] ((List.range' 0 sts.length).map iD) env0 [] = .ok (WL vs sts.length) env0 := by
    rintro env0 rfl
    refine lc_all iD (wE vs) (List.range' 0 sts.length) (fun i hi => ?_) (by simp; omega)
    rw [List.mem_range'_1] at hi
    have vi := vix (vs := vs) (i := i) (by omega)
    exact ⟨[.own (some 0) (drO l'), .dat (arenaD sts), .dat (rawS sts), .dat (.lst (vs.map rat)), .dat (.bl low), .dat (.tup [.int ((vat vs 0).num * 2), .int ((vat vs 0).den * 2)]), .dat (rat (mvv low (vat vs 0) 1 1000)), p', u2, .no, x', z', .dat (iD i)], by simp?! [g_nm, canSet_eq, canS_no], by simp?!, by simp?!, by simp?! [vi, fTup2]; rfl⟩
  have l1 := lcW _ rfl
  refine ⟨l', ?_⟩
  have c7 : capd 7 = true := by decide
  have fTup3 : ∀ a b c : D, fTup [a, b, c] = some (.tup [a, b, c]) := fun _ _ _ => nrfl rfl
  unfold drO at hP a5 c2 l1 ⊢
  unfold badN at c2
  unfold spB snB at a5
  unfold srB at c2
  unfold sem__law_side_right b__law_side_right
  simp?! [hv0, i0, i1, fI_mul z0.1 b2 (by decide), fI_mul z0.2 b2 (by decide), fTup2, fTup1, fTup3, canSet_eq, canS_no, mo, hP, List.nodup_cons, List.not_mem_nil, not_false_eq_true, and_self, seq_lst, chk_seq, a5, c7, c2, fLen_raw, rng_len (show sts.length ≤ 1000 by omega), chk_range1, okVs_cons, l1, j1, j2, fEq_same ok_words.2.2.1, fEq_same ok_words.2.2.2.1]
end K84

/-! P51 -/
namespace K84
open scoped Rat
open PySem T L2
/-! ### wrong states -/
def enB (d : D) : Bool := nin d && match d.seq? with
  | some [a, b] => a.flat && (match b.seq? with
    | some ds => decide (ds.length ≤ 1000)
    | none => true)
  | _ => true
theorem enB_ok {d : D} (h : enB d = true) : EnOk d ∧ ∀ a b, d.seq? = some [a, b] → a.flat = true := by
  unfold enB at h
  rw [Bool.and_eq_true] at h
  refine ⟨⟨h.1, fun ds a b e c => ?_⟩, fun a b e => ?_⟩
  · have h2 := h.2
    rw [e] at h2
    dsimp only at h2
    rw [c] at h2
    simp only [Bool.and_eq_true, decide_eq_true_eq] at h2
    omega
  · have h2 := h.2
    rw [e] at h2
    dsimp only at h2
    rw [Bool.and_eq_true] at h2
    exact h2.1
def restD : Sta → D
  | .fin p q => .tup [.int p, .int q]
  | .ext _ fs => .lst (fs.map iD)
  | .av ws => .lst (ws.map fun x => .tup [.int x.1, iD x.2])
theorem raw_eq (s : Sta) : s.raw = .tup [.str s.kind, restD s] := by cases s <;> rfl
theorem nin_rest (s : Sta) : nin (restD s) = true := by
  cases s with
  | fin p q => rfl
  | ext m fs => exact nins_map iD (fun _ => rfl) fs
  | av ws => exact nins_map (fun x : Int × Nat => D.tup [.int x.1, iD x.2]) (fun _ => rfl) ws
theorem rest_ok {s : Sta} (sm : s.sm) : Rest s (restD s) := by
  cases s with
  | fin p q => exact IsR.tup sm.1 sm.2.1 sm.2.2
  | ext m fs => rfl
  | av ws => exact ⟨_, rfl, WDs.map (f := fun x => D.tup [.int x.1, iD x.2]) (fun _ => rfl) ws⟩
theorem enc_raw {s : Sta} (sm : s.sm) : Enc s s.raw := by
  rw [raw_eq]
  exact ⟨by simp [nin, nins, nin_rest], _, rfl, rest_ok sm⟩
theorem enc_list {s : Sta} (sm : s.sm) : Enc s (.lst [.str s.kind, restD s]) :=
  ⟨by simp [nin, nins, nin_rest], _, rfl, rest_ok sm⟩
theorem firstF_at {m : Nat} {w : Str} {one : D} {B : List D} : ∀ {sts : List Sta} {A : List D} (k : Nat), Encs sts A → okFrom m k sts → fault ((k + A.length : Nat) : Int) (m : Int) one = some w → firstF m k (A ++ one :: B) = some (k + A.length, w)
  | _, _, k, .nil, _, h => by
    simp only [List.length_nil, Nat.add_zero] at h ⊢
    simp only [List.nil_append, firstF, h]
  | _, _, k, @Encs.cons s d sts ds e es, ok, h => by
    simp only [List.cons_append, firstF, fault_none e ok.1]
    have := firstF_at (B := B) (k + 1) es ok.2 (by rw [show k + 1 + ds.length = k + (d :: ds).length by simp; omega]; exact h)
    rw [this, List.length_cons]
    congr 2
    omega
theorem okFrom_take {m : Nat} : ∀ {sts : List Sta} {k : Nat} (n : Nat), okFrom m k sts → okFrom m k (sts.take n)
  | _, _, 0, _ => trivial
  | [], _, _ + 1, _ => trivial
  | s :: r, k, n + 1, ok => ⟨ok.1, okFrom_take n ok.2⟩
theorem fNe_iw (i : Int) {w : Str} (h : PyData.strOk w = true) : fNe (.lst [.int i, .str w]) (.lst [.int i, .str w]) = some (.bl false) := by
  simp [fNe, D.plain, D.eqv, D.py, pyL, SeqAt.shaped, PyData.canLay0, PyData.canLayAll0, PyData.depth, PyData.depthAll, PyData.eqv, PyData.eqvAll, h]
theorem enok_raw {sts : List Sta} {m : Nat} (ok : okFrom m 0 sts) : ∀ d ∈ sts.map Sta.raw, EnOk d := fun d hd => by
  obtain ⟨s, hs, rfl⟩ := List.mem_map.mp hd
  have sm := (okFrom.sm ok s hs).1
  exact (enc_raw sm).enok sm
theorem refused_at {sts : List Sta} (ok : okFrom sts.length 0 sts) {i : Nat} (hi : i < sts.length) {one : D} (eo : EnOk one) {w : Str} (hf : fault (i : Int) (sts.length : Int) one = some w) {B : List D} (hB : ∀ d ∈ B, EnOk d) (hl : i + 1 + B.length = sts.length) :
    sem__law_refused [.d (.lst ((sts.map Sta.raw).take i ++ one :: B))] = .ok (.lst [.int i, .str w]) [] := by
  have lt : ((sts.map Sta.raw).take i).length = i := by simp; omega
  have E : Encs (sts.take i) ((sts.map Sta.raw).take i) := by
    rw [← List.map_take]
    exact Encs.map _ fun s hs => enc_raw (okFrom.sm ok s (List.mem_of_mem_take hs)).1
  have f := firstF_at (B := B) (one := one) (w := w) 0 E (okFrom_take i ok) (by rw [lt, Nat.zero_add]; exact hf)
  rw [lt, Nat.zero_add] at f
  refine refused_of (arena_fault (by simp) (fun d hd => ?_) (by
    rw [show ((sts.map Sta.raw).take i ++ one :: B).length = sts.length by rw [List.length_append, lt, List.length_cons]; omega]
    exact f))
  rcases List.mem_append.mp hd with q | q
  · exact enok_raw ok d (List.mem_of_mem_take q)
  · rcases List.mem_cons.mp q with rfl | q
    · exact eo
    · exact hB d q
theorem enok_e0 : EnOk (.tup [.str "end", .int 0]) := (enB_ok rfl).1
def wsB : SX tau := SX.seq (SX.asg 7 (EX.call sem__law_state_word (AX.cons (EX.var 6) (AX.cons (EX.var 3) (AX.cons (EX.var 2) (AX.nil))))))
  (SX.seq (SX.asg 8 (EX.add (EX.add (EX.ofF (FX.slice (EX.var 1) (OX.no) (OX.at (EX.var 3)))) (EX.ofF (FX.lst (AX.cons (EX.var 6) (AX.nil))))) (EX.ofF (FX.slice (EX.var 1) (OX.at (EX.add (EX.var 3) (EX.int 1))) (OX.no)))))
  (SX.seq (SX.ite (TX.or (TX.ofE (EX.isN (EX.var 7) (EX.non))) (TX.ofE (EX.ne (EX.call sem__law_refused (AX.cons (EX.var 8) (AX.nil))) (EX.ofF (FX.lst (AX.cons (EX.var 3) (AX.cons (EX.var 7) (AX.nil)))))))) (SX.ret (EX.bl false)) (SX.nx))
  (SX.ite (TX.and (TX.ofE (EX.lt (EX.var 3) (EX.var 4))) (TX.ofE (EX.ne (EX.call sem__law_refused (AX.cons (EX.add (EX.ofF (FX.slice (EX.var 8) (OX.no) (OX.at (EX.var 4)))) (EX.ofF (FX.lst (AX.cons (EX.tup (AX.cons (EX.str "end") (AX.cons (EX.int 0) (AX.nil)))) (AX.nil))))) (AX.nil))) (EX.ofF (FX.lst (AX.cons (EX.var 3) (AX.cons (EX.var 7) (AX.nil)))))))) (SX.ret (EX.bl false)) (SX.nx))))
theorem isN_str (w : Str) : fIsN (.str w) .non = some (.bl false) := nrfl rfl
def WrOk (i m : Nat) (d : D) : Prop := enB d = true ∧ ∃ w : Str, PyData.strOk w = true ∧ fault (i : Int) (m : Int) d = some w
theorem ws_turn {sts : List Sta} (ok : okFrom sts.length 0 sts) (m8 : sts.length ≤ 8) {i : Nat} (hi : i < sts.length) {one : D} (h : WrOk i sts.length one) {dr : O} {W : D} {x y : Sl} (hx : okS x = true) (hy : okS y = true) :
    ∃ w y', okS y' = true ∧ wsB.ev [.own (some 0) dr, .dat (rawS sts), .dat (.int sts.length), .dat (.int i), .dat (.int ((sts.length : Int) - 1)), .dat W, .dat one, x, y] =
      .ok .nx [.own (some 0) dr, .dat (rawS sts), .dat (.int sts.length), .dat (.int i), .dat (.int ((sts.length : Int) - 1)), .dat W, .dat one, .dat (.str w), y'] := by
  obtain ⟨h1, w, w1, w2⟩ := h
  obtain ⟨eo, ef⟩ := enB_ok h1
  have sw := law_state_word_eq (i := (i : Int)) (m := (sts.length : Int)) eo.nin eo.sm ef
  rw [w2] at sw
  simp only [oD] at sw
  have lr : (sts.map Sta.raw).length = sts.length := by simp
  have r1 := refused_at ok hi eo w2 (B := (sts.map Sta.raw).drop (i + 1)) (fun d hd => enok_raw ok d (List.mem_of_mem_drop hd)) (by simp; omega)
  have lS : lstD (rawS sts) = some (sts.map Sta.raw) := nrfl rfl
  have cf : cutD (sts.map Sta.raw) (some ((i : Int) + 1)) none = (sts.map Sta.raw).drop (i + 1) := cut_from _ (i + 1)
  have ad1 := fAdd_lst (xs := (sts.map Sta.raw).take i) (ys := [one]) (by simp; omega)
  have ad2 := fAdd_lst (xs := (sts.map Sta.raw).take i ++ [one]) (ys := (sts.map Sta.raw).drop (i + 1)) (by simp; omega)
  have e1 : (sts.map Sta.raw).take i ++ [one] ++ (sts.map Sta.raw).drop (i + 1) = (sts.map Sta.raw).take i ++ one :: (sts.map Sta.raw).drop (i + 1) := by simp
  rw [e1] at ad2
  have c2 : capd 2 = true := by decide
  refine ⟨w, .dat (.lst ((sts.map Sta.raw).take i ++ one :: (sts.map Sta.raw).drop (i + 1))), rfl, ?_⟩
  by_cases c : (i : Int) < (sts.length : Int) - 1
  · have ct : cutD ((sts.map Sta.raw).take i ++ one :: (sts.map Sta.raw).drop (i + 1)) none (some ((sts.length : Int) - 1)) = (sts.map Sta.raw).take i ++ one :: ((sts.map Sta.raw).drop (i + 1)).take (sts.length - 1 - i - 1) := by
      rw [show ((sts.length : Int) - 1) = ((sts.length - 1 : Nat) : Int) by omega, cut_to, List.take_append, List.length_take, lr, Nat.min_eq_left (by omega), List.take_of_length_le (by simp; omega)]
      rw [show sts.length - 1 - i = (sts.length - 1 - i - 1) + 1 by omega, List.take_succ_cons]
      rfl
    have r2 := refused_at ok hi eo w2 (B := ((sts.map Sta.raw).drop (i + 1)).take (sts.length - 1 - i - 1) ++ [.tup [.str "end", .int 0]]) (fun d hd => by
      rcases List.mem_append.mp hd with q | q
      · exact enok_raw ok d (List.mem_of_mem_drop (List.mem_of_mem_take q))
      · rw [List.mem_singleton] at q; rw [q]; exact enok_e0) (by simp; omega)
    have ad3 := fAdd_lst (xs := (sts.map Sta.raw).take i ++ one :: ((sts.map Sta.raw).drop (i + 1)).take (sts.length - 1 - i - 1)) (ys := [.tup [.str "end", .int 0]]) (by simp; omega)
    rw [List.append_assoc, List.cons_append] at ad3
    unfold wsB
    simp?! [sw, canSet_eq, canS_ok hx, canS_ok hy, f_slice, o_no, o_at, slR_ok, slL_ok, slU_ok, slW_some, oaR_int, lS, cut_to, fI_add, cf, cap1, ad1, ad2, isN_str, r1, c2, fNe_iw i w1, fIB_int, c, decide_true, lstD_lst, ct, fTup2, ad3, r2]
  · unfold wsB
    simp?! [sw, canSet_eq, canS_ok hx, canS_ok hy, f_slice, o_no, o_at, slR_ok, slL_ok, slU_ok, slW_some, oaR_int, lS, cut_to, fI_add, cf, cap1, ad1, ad2, isN_str, r1, c2, fNe_iw i w1, fIB_int, c, decide_false]
end K84

/-! P52 -/
namespace K84
open scoped Rat
open PySem T L2
theorem ws_loop {sts : List Sta} (ok : okFrom sts.length 0 sts) (m8 : sts.length ≤ 8) {i : Nat} (hi : i < sts.length) {dr : O} {W : D} : ∀ (ds : List D) (x y z : Sl), (∀ d ∈ ds, WrOk i sts.length d) → okS x = true → okS y = true → okS z = true →
    ∃ x' y' z', okS x' = true ∧ okS y' = true ∧ okS z' = true ∧ runFor (fun _ => true) (GX.name 6 : GX tau).ev wsB.ev ds [.own (some 0) dr, .dat (rawS sts), .dat (.int sts.length), .dat (.int i), .dat (.int ((sts.length : Int) - 1)), .dat W, z, x, y] =
      .ok .nx [.own (some 0) dr, .dat (rawS sts), .dat (.int sts.length), .dat (.int i), .dat (.int ((sts.length : Int) - 1)), .dat W, z', x', y']
  | [], x, y, z, _, hx, hy, hz => ⟨x, y, z, hx, hy, hz, for_nil _ _ _⟩
  | d :: ds, x, y, z, hd, hx, hy, hz => by
    obtain ⟨w, y1, h1, h2⟩ := ws_turn ok m8 hi (hd d (by simp)) (dr := dr) (W := W) hx hy
    obtain ⟨x', y', z', a1, a2, a3, a4⟩ := ws_loop ok m8 hi (dr := dr) (W := W) ds (.dat (.str w)) y1 (.dat d) (fun q hq => hd q (by simp [hq])) rfl h1 rfl
    refine ⟨x', y', z', a1, a2, a3, ?_⟩
    rw [for_cons, ← a4]
    simp?! [g_nm, canSet_eq, canS_ok hz, h2]
def W1 (last : D) : List D := [.non, .tup [.str "end"], .tup [.str "odd", .tup [.int 1, .int 1]], .tup [.int 3, .lst [last]], .tup [.str "max", .int 3], .tup [.str "mean", .lst [last]], .tup [.str "mean", .lst [.tup [.int 1, last, .int 1]]], .tup [.str "min", .non]]
def W2 : List D := [.tup [.str "end", .tup [.int 1, .int 0]], .tup [.str "end", .int 3], .tup [.str "end", .tup [.int 1, .bl true]], .lst [.str "end", .lst [.int 1, .int (-2)]], .tup [.str "max", .lst []], .tup [.str "mean", .lst []], .lst [.str "min", .tup []]]
def W3 (i m last : D) : List D := [.tup [.str "min", .lst [i]], .tup [.str "max", .lst [m]], .tup [.str "min", .lst [last, .bl true]], .tup [.str "max", .lst [.non]], .tup [.str "mean", .lst [.tup [.int 1, last], .tup [.int 2, i]]]]
def W4 (m last : D) : List D := [.tup [.str "mean", .lst [.tup [.int 0, last]]], .tup [.str "mean", .lst [.tup [.bl true, last], .tup [.int 1, last]]], .tup [.str "mean", .lst [.tup [.int 0, m]]], .tup [.str "mean", .lst [.lst [.int 1, last], .lst [.int (-1), last]]]]
theorem ok_w2 : PyData.strOk ("empty" : Str) = true ∧ PyData.strOk ("follower" : Str) = true ∧ PyData.strOk ("weight" : Str) = true := by decide +kernel
section
variable {i m : Nat}
theorem wr_no {d : D} (h1 : enB d = true) (h : ∀ s b, d.seq? ≠ some [.str s, b]) : WrOk i m d := ⟨h1, "form", ok_words.1, fault_no h⟩
theorem wr_form {d b : D} {s : Str} (h1 : enB d = true) (e : d.seq? = some [.str s, b]) (h : formS s b = false) : WrOk i m d := ⟨h1, "form", ok_words.1, by rw [fault_str e, h]; rfl⟩
theorem wr_end {d b : D} (h1 : enB d = true) (e : d.seq? = some [.str "end", b]) (h : ratD b = none) : WrOk i m d := ⟨h1, "ratio", ok_words.2.2.2.2, by rw [fault_str e, formS_e, if_pos rfl, faultS_e, h]; rfl⟩
theorem wr_ext {d b : D} {fs : List D} (k : Bool) (h1 : enB d = true) (e : d.seq? = some [.str (kw k), b]) (c : b.seq? = some fs) (h : fs = [] ∨ fs.any (badF (i : Int) (m : Int)) = true) : WrOk i m d := by
  refine ⟨h1, ?_⟩
  rw [fault_str e, formS_x, show isL b = true by simp [isL, c], if_pos rfl, faultS_x _ _ k c]
  by_cases z : fs.length = 0
  · exact ⟨"empty", ok_w2.1, by rw [if_pos z]⟩
  · rcases h with h | h
    · rw [h] at z; exact absurd rfl z
    · exact ⟨"follower", ok_w2.2.1, by rw [if_neg z, if_pos h]⟩
theorem wr_mean {d b : D} {fs : List D} (h1 : enB d = true) (e : d.seq? = some [.str "mean", b]) (c : b.seq? = some fs) (hp : fs.all isPair = true) (h : fs = [] ∨ (fs.map snd2).any (badF (i : Int) (m : Int)) = true ∨ fs.any badW = true) : WrOk i m d := by
  refine ⟨h1, ?_⟩
  have fm : formS "mean" b = true := by rw [formS_m, c]; exact hp
  rw [fault_str e, fm, if_pos rfl, faultS_m _ _ c]
  by_cases z : fs.length = 0
  · exact ⟨"empty", ok_w2.1, by rw [if_pos z]⟩
  · rw [if_neg z]
    by_cases q : (fs.map snd2).any (badF (i : Int) (m : Int)) = true
    · exact ⟨"follower", ok_w2.2.1, by rw [if_pos q]⟩
    · rcases h with h | h | h
      · rw [h] at z; exact absurd rfl z
      · exact absurd h q
      · exact ⟨"weight", ok_w2.2.2, by rw [if_neg q, if_pos h]⟩
theorem w1_ok {l : Int} : ∀ d ∈ W1 (.int l), WrOk i m d := fun d hd => by
  unfold W1 at hd
  simp only [List.mem_cons, List.not_mem_nil, or_false] at hd
  rcases hd with rfl | rfl | rfl | rfl | rfl | rfl | rfl | rfl
  · exact wr_no rfl fun s b z => by cases z
  · exact wr_no rfl fun s b z => by cases z
  · refine wr_form rfl rfl ?_
    decide +kernel
  · exact wr_no rfl fun s b z => by cases z
  · exact wr_form rfl rfl (formS_x true _)
  · exact wr_form rfl rfl (formS_m.trans rfl)
  · exact wr_form rfl rfl (formS_m.trans rfl)
  · exact wr_form rfl rfl (formS_x false _)
theorem w2_ok : ∀ d ∈ W2, WrOk i m d := fun d hd => by
  unfold W2 at hd
  simp only [List.mem_cons, List.not_mem_nil, or_false] at hd
  rcases hd with rfl | rfl | rfl | rfl | rfl | rfl | rfl
  · exact wr_end rfl rfl rfl
  · exact wr_end rfl rfl rfl
  · exact wr_end rfl rfl rfl
  · exact wr_end rfl rfl rfl
  · exact wr_ext true rfl rfl rfl (.inl rfl)
  · exact wr_mean rfl rfl rfl rfl (.inl rfl)
  · exact wr_ext false rfl rfl rfl (.inl rfl)
theorem badF_at : badF (i : Int) (m : Int) (.int (i : Int)) = true := by simp [badF]
theorem badF_many : badF (i : Int) (m : Int) (.int (m : Int)) = true := by simp [badF]
theorem w3_ok {l : Int} : ∀ d ∈ W3 (.int (i : Int)) (.int (m : Int)) (.int l), WrOk i m d := fun d hd => by
  unfold W3 at hd
  simp only [List.mem_cons, List.not_mem_nil, or_false] at hd
  rcases hd with rfl | rfl | rfl | rfl | rfl
  · exact wr_ext false rfl rfl rfl (.inr (by simp [badF_at]))
  · exact wr_ext true rfl rfl rfl (.inr (by simp [badF_many]))
  · exact wr_ext false rfl rfl rfl (.inr (by simp [badF]))
  · exact wr_ext true rfl rfl rfl (.inr (by simp [badF]))
  · exact wr_mean rfl rfl rfl rfl (.inr (.inl (by simp [snd2, D.seq?, badF_at])))
theorem w4_ok {l : Int} : ∀ d ∈ W4 (.int (m : Int)) (.int l), WrOk i m d := fun d hd => by
  unfold W4 at hd
  simp only [List.mem_cons, List.not_mem_nil, or_false] at hd
  rcases hd with rfl | rfl | rfl | rfl
  · exact wr_mean rfl rfl rfl rfl (.inr (.inr (by simp [badW, fst2, D.seq?])))
  · exact wr_mean rfl rfl rfl rfl (.inr (.inr (by simp [badW, fst2, D.seq?])))
  · exact wr_mean rfl rfl rfl rfl (.inr (.inl (by simp [snd2, D.seq?, badF_many])))
  · exact wr_mean rfl rfl rfl rfl (.inr (.inr (by simp [badW, fst2, D.seq?])))
end
def weB : SX tau := SX.ite (TX.ofE (EX.ne (EX.call sem__law_refused (AX.cons (EX.var 6) (AX.nil))) (EX.ofF (FX.lst (AX.cons (EX.neg (EX.int 1)) (AX.cons (EX.str "form") (AX.nil))))))) (SX.ret (EX.bl false)) (SX.nx)
theorem we_turn {d : D} (hn : nin d = true) (h : d.seq? = none ∨ d.seq? = some []) (a b c e f g : Sl) (x y : Sl) : weB.ev [a, b, c, e, f, g, .dat d, x, y] = .ok .nx [a, b, c, e, f, g, .dat d, x, y] := by
  have r := refused_of (arena_bad hn h)
  have c2 : capd 2 = true := by decide
  unfold weB
  simp?! [r, e_neg, fNeg_i, c2, fNe_iw (-1) ok_words.1]
end K84

/-! P53 -/
namespace K84
open scoped Rat
open PySem T L2
def wqA : SX tau := (SX.asg 5 (EX.ofF (FX.lst (AX.cons (EX.non) (AX.cons (EX.tup (AX.cons (EX.str "end") (AX.nil))) (AX.cons (EX.tup (AX.cons (EX.str "odd") (AX.cons (EX.tup (AX.cons (EX.int 1) (AX.cons (EX.int 1) (AX.nil)))) (AX.nil)))) (AX.cons (EX.tup (AX.cons (EX.int 3) (AX.cons (EX.ofF (FX.lst (AX.cons (EX.var 4) (AX.nil)))) (AX.nil)))) (AX.cons (EX.tup (AX.cons (EX.str "max") (AX.cons (EX.int 3) (AX.nil)))) (AX.cons (EX.tup (AX.cons (EX.str "mean") (AX.cons (EX.ofF (FX.lst (AX.cons (EX.var 4) (AX.nil)))) (AX.nil)))) (AX.cons (EX.tup (AX.cons (EX.str "mean") (AX.cons (EX.ofF (FX.lst (AX.cons (EX.tup (AX.cons (EX.int 1) (AX.cons (EX.var 4) (AX.cons (EX.int 1) (AX.nil))))) (AX.nil)))) (AX.nil)))) (AX.cons (EX.tup (AX.cons (EX.str "min") (AX.cons (EX.non) (AX.nil)))) (AX.nil))))))))))))
def wqB : SX tau := (SX.asg 5 (EX.add (EX.var 5) (EX.ofF (FX.lst (AX.cons (EX.tup (AX.cons (EX.str "end") (AX.cons (EX.tup (AX.cons (EX.int 1) (AX.cons (EX.int 0) (AX.nil)))) (AX.nil)))) (AX.cons (EX.tup (AX.cons (EX.str "end") (AX.cons (EX.int 3) (AX.nil)))) (AX.cons (EX.tup (AX.cons (EX.str "end") (AX.cons (EX.tup (AX.cons (EX.int 1) (AX.cons (EX.bl true) (AX.nil)))) (AX.nil)))) (AX.cons (EX.ofF (FX.lst (AX.cons (EX.str "end") (AX.cons (EX.ofF (FX.lst (AX.cons (EX.int 1) (AX.cons (EX.neg (EX.int 2)) (AX.nil))))) (AX.nil))))) (AX.cons (EX.tup (AX.cons (EX.str "max") (AX.cons (EX.ofF (FX.lst (AX.nil))) (AX.nil)))) (AX.cons (EX.tup (AX.cons (EX.str "mean") (AX.cons (EX.ofF (FX.lst (AX.nil))) (AX.nil)))) (AX.cons (EX.ofF (FX.lst (AX.cons (EX.str "min") (AX.cons (EX.tup (AX.nil)) (AX.nil))))) (AX.nil))))))))))))
def wqC : SX tau := (SX.asg 5 (EX.add (EX.var 5) (EX.ofF (FX.lst (AX.cons (EX.tup (AX.cons (EX.str "min") (AX.cons (EX.ofF (FX.lst (AX.cons (EX.var 3) (AX.nil)))) (AX.nil)))) (AX.cons (EX.tup (AX.cons (EX.str "max") (AX.cons (EX.ofF (FX.lst (AX.cons (EX.var 2) (AX.nil)))) (AX.nil)))) (AX.cons (EX.tup (AX.cons (EX.str "min") (AX.cons (EX.ofF (FX.lst (AX.cons (EX.var 4) (AX.cons (EX.bl true) (AX.nil))))) (AX.nil)))) (AX.cons (EX.tup (AX.cons (EX.str "max") (AX.cons (EX.ofF (FX.lst (AX.cons (EX.non) (AX.nil)))) (AX.nil)))) (AX.cons (EX.tup (AX.cons (EX.str "mean") (AX.cons (EX.ofF (FX.lst (AX.cons (EX.tup (AX.cons (EX.int 1) (AX.cons (EX.var 4) (AX.nil)))) (AX.cons (EX.tup (AX.cons (EX.int 2) (AX.cons (EX.var 3) (AX.nil)))) (AX.nil))))) (AX.nil)))) (AX.nil))))))))))
def wqD : SX tau := (SX.asg 5 (EX.add (EX.var 5) (EX.ofF (FX.lst (AX.cons (EX.tup (AX.cons (EX.str "mean") (AX.cons (EX.ofF (FX.lst (AX.cons (EX.tup (AX.cons (EX.int 0) (AX.cons (EX.var 4) (AX.nil)))) (AX.nil)))) (AX.nil)))) (AX.cons (EX.tup (AX.cons (EX.str "mean") (AX.cons (EX.ofF (FX.lst (AX.cons (EX.tup (AX.cons (EX.bl true) (AX.cons (EX.var 4) (AX.nil)))) (AX.cons (EX.tup (AX.cons (EX.int 1) (AX.cons (EX.var 4) (AX.nil)))) (AX.nil))))) (AX.nil)))) (AX.cons (EX.tup (AX.cons (EX.str "mean") (AX.cons (EX.ofF (FX.lst (AX.cons (EX.tup (AX.cons (EX.int 0) (AX.cons (EX.var 2) (AX.nil)))) (AX.nil)))) (AX.nil)))) (AX.cons (EX.tup (AX.cons (EX.str "mean") (AX.cons (EX.ofF (FX.lst (AX.cons (EX.ofF (FX.lst (AX.cons (EX.int 1) (AX.cons (EX.var 4) (AX.nil))))) (AX.cons (EX.ofF (FX.lst (AX.cons (EX.neg (EX.int 1)) (AX.cons (EX.var 4) (AX.nil))))) (AX.nil))))) (AX.nil)))) (AX.nil)))))))))
def wqT : SX tau := SX.seq (SX.asg 2 (EX.len (AX.cons (EX.var 1) (AX.nil))))
  (SX.seq (SX.asg 3 (EX.call sem__law_take (AX.lend 0 (AX.cons (EX.var 2) (AX.nil)))))
  (SX.seq (SX.asg 4 (EX.sub (EX.var 2) (EX.int 1)))
  (SX.seq wqA
  (SX.seq wqB
  (SX.seq wqC
  (SX.seq wqD
  (SX.seq (SX.forE (IX.seq (EX.var 5)) (GX.name 6) (SX.seq (SX.asg 7 (EX.call sem__law_state_word (AX.cons (EX.var 6) (AX.cons (EX.var 3) (AX.cons (EX.var 2) (AX.nil))))))
  (SX.seq (SX.asg 8 (EX.add (EX.add (EX.ofF (FX.slice (EX.var 1) (OX.no) (OX.at (EX.var 3)))) (EX.ofF (FX.lst (AX.cons (EX.var 6) (AX.nil))))) (EX.ofF (FX.slice (EX.var 1) (OX.at (EX.add (EX.var 3) (EX.int 1))) (OX.no)))))
  (SX.seq (SX.ite (TX.or (TX.ofE (EX.isN (EX.var 7) (EX.non))) (TX.ofE (EX.ne (EX.call sem__law_refused (AX.cons (EX.var 8) (AX.nil))) (EX.ofF (FX.lst (AX.cons (EX.var 3) (AX.cons (EX.var 7) (AX.nil)))))))) (SX.ret (EX.bl false)) (SX.nx))
  (SX.ite (TX.and (TX.ofE (EX.lt (EX.var 3) (EX.var 4))) (TX.ofE (EX.ne (EX.call sem__law_refused (AX.cons (EX.add (EX.ofF (FX.slice (EX.var 8) (OX.no) (OX.at (EX.var 4)))) (EX.ofF (FX.lst (AX.cons (EX.tup (AX.cons (EX.str "end") (AX.cons (EX.int 0) (AX.nil)))) (AX.nil))))) (AX.nil))) (EX.ofF (FX.lst (AX.cons (EX.var 3) (AX.cons (EX.var 7) (AX.nil)))))))) (SX.ret (EX.bl false)) (SX.nx))))))
  (SX.seq (SX.forE (IX.seq (EX.ofF (FX.lst (AX.cons (EX.non) (AX.cons (EX.ofF (FX.lst (AX.nil))) (AX.cons (EX.tup (AX.nil)) (AX.cons (EX.int 3) (AX.nil)))))))) (GX.name 6) (SX.ite (TX.ofE (EX.ne (EX.call sem__law_refused (AX.cons (EX.var 6) (AX.nil))) (EX.ofF (FX.lst (AX.cons (EX.neg (EX.int 1)) (AX.cons (EX.str "form") (AX.nil))))))) (SX.ret (EX.bl false)) (SX.nx)))
  (SX.ret (EX.bl true))))))))))
theorem wqT_eq : b__law_wrong_states_right = wqT := rfl
theorem fTup3 (a b c : D) : fTup [a, b, c] = some (.tup [a, b, c]) := nrfl rfl
theorem fTup0 : fTup [] = some (.tup []) := nrfl rfl
theorem cap2 : capd 2 = true := by decide
theorem cap7 : capd 7 = true := by decide
theorem wqA_ev {dr : O} {S m i l : D} : wqA.ev [.own (some 0) dr, .dat S, .dat m, .dat i, .dat l, .no, .no, .no, .no] = .ok .nx [.own (some 0) dr, .dat S, .dat m, .dat i, .dat l, .dat (.lst (W1 l)), .no, .no, .no] := by
  unfold wqA W1
  simp?! [canSet_eq, canS_no, cap8, cap1, fTup1, fTup2, fTup3]
theorem wqB_ev {dr : O} {S m i l : D} {W : List D} (hW : W.length ≤ 100) : wqB.ev [.own (some 0) dr, .dat S, .dat m, .dat i, .dat l, .dat (.lst W), .no, .no, .no] = .ok .nx [.own (some 0) dr, .dat S, .dat m, .dat i, .dat l, .dat (.lst (W ++ W2)), .no, .no, .no] := by
  have ad := fAdd_lst (xs := W) (ys := W2) (by simp [W2]; omega)
  unfold W2 at ad ⊢
  unfold wqB
  simp?! [canSet_eq, canS_dat, cap0, cap7, cap2, fTup0, fTup2, e_neg, fNeg_i, ad]
theorem wqC_ev {dr : O} {S m i l : D} {W : List D} (hW : W.length ≤ 100) : wqC.ev [.own (some 0) dr, .dat S, .dat m, .dat i, .dat l, .dat (.lst W), .no, .no, .no] = .ok .nx [.own (some 0) dr, .dat S, .dat m, .dat i, .dat l, .dat (.lst (W ++ W3 i m l)), .no, .no, .no] := by
  have ad := fAdd_lst (xs := W) (ys := W3 i m l) (by simp [W3]; omega)
  unfold W3 at ad ⊢
  unfold wqC
  simp?! [canSet_eq, canS_dat, cap1, cap5, cap2, fTup2, ad]
theorem wqD_ev {dr : O} {S m i l : D} {W : List D} (hW : W.length ≤ 100) : wqD.ev [.own (some 0) dr, .dat S, .dat m, .dat i, .dat l, .dat (.lst W), .no, .no, .no] = .ok .nx [.own (some 0) dr, .dat S, .dat m, .dat i, .dat l, .dat (.lst (W ++ W4 m l)), .no, .no, .no] := by
  have ad := fAdd_lst (xs := W) (ys := W4 m l) (by simp [W4]; omega)
  unfold W4 at ad ⊢
  unfold wqD
  simp?! [canSet_eq, canS_dat, cap1, cap4, cap2, fTup2, e_neg, fNeg_i, ad]
theorem wrong_eq {sts : List Sta} (m1 : sts ≠ []) (ok : okFrom sts.length 0 sts) (m8 : sts.length ≤ 8) (l : List Int) :
    ∃ l' : List Int, sem__law_wrong_states_right [.o (drO l), .d (rawS sts)] = .ok (.bl true) [drO l'] := by
  have ml := List.length_pos_iff.mpr m1
  obtain ⟨r, l', t1, t2, t3, t4⟩ := take_eq l (m := (sts.length : Int)) (by omega)
  obtain ⟨i, rfl⟩ := Int.eq_ofNat_of_zero_le t1
  have hi : i < sts.length := by omega
  obtain ⟨x', y', z', a1, a2, a3, a4⟩ := ws_loop ok m8 hi (dr := drO l') (W := .lst (W1 (.int ((sts.length : Int) - 1)) ++ W2 ++ W3 (.int i) (.int sts.length) (.int ((sts.length : Int) - 1)) ++ W4 (.int sts.length) (.int ((sts.length : Int) - 1)))) (W1 (.int ((sts.length : Int) - 1)) ++ W2 ++ W3 (.int i) (.int sts.length) (.int ((sts.length : Int) - 1)) ++ W4 (.int sts.length) (.int ((sts.length : Int) - 1))) .no .no .no (fun d hd => by
    rcases List.mem_append.mp hd with q | q
    · rcases List.mem_append.mp q with q | q
      · rcases List.mem_append.mp q with q | q
        · exact w1_ok d q
        · exact w2_ok d q
      · exact w3_ok d q
    · exact w4_ok d q) rfl rfl rfl
  refine ⟨l', ?_⟩
  have A1 := wqA_ev (dr := drO l') (S := rawS sts) (m := .int sts.length) (i := .int i) (l := .int ((sts.length : Int) - 1))
  have A2 := wqB_ev (dr := drO l') (S := rawS sts) (m := .int sts.length) (i := .int i) (l := .int ((sts.length : Int) - 1)) (W := W1 (.int ((sts.length : Int) - 1))) (by simp [W1])
  have A3 := wqC_ev (dr := drO l') (S := rawS sts) (m := .int sts.length) (i := .int i) (l := .int ((sts.length : Int) - 1)) (W := W1 (.int ((sts.length : Int) - 1)) ++ W2) (by simp [W1, W2])
  have A4 := wqD_ev (dr := drO l') (S := rawS sts) (m := .int sts.length) (i := .int i) (l := .int ((sts.length : Int) - 1)) (W := W1 (.int ((sts.length : Int) - 1)) ++ W2 ++ W3 (.int i) (.int sts.length) (.int ((sts.length : Int) - 1))) (by simp [W1, W2, W3])
  have u1 := refused_of (arena_bad (L := .non) rfl (.inl rfl))
  have u2 := refused_of (arena_bad (L := .lst []) rfl (.inr rfl))
  have u3 := refused_of (arena_bad (L := .tup []) rfl (.inr rfl))
  have u4 := refused_of (arena_bad (L := .int 3) rfl (.inl rfl))
  unfold wsB at a4
  unfold drO at *
  unfold sem__law_wrong_states_right
  rw [wqT_eq]
  unfold wqT
  simp?! [fLen_raw, canSet_eq, canS_no, canS_dat, t4, List.nodup_cons, List.not_mem_nil, not_false_eq_true, and_self, fI_sub, A1, A2, A3, A4, seq_lst, chk_seq, a4, cap0, cap4, fTup0, for_cons, for_nil, g_nm, canS_ok a3, e_neg, fNeg_i, cap2, fNe_iw (-1) ok_words.1, u1, u2, u3, u4]
end K84

/-! P54 -/
namespace K84
open scoped Rat
open PySem T L2
/-! ### the law -/
def Pl (n : Nat) (d : D) : Prop := d.py.canLay0 = true ∧ d.py.depth ≤ n
theorem pl_all {n : Nat} : ∀ ds : List D, (∀ d ∈ ds, Pl n d) → PyData.canLayAll0 (pyL ds) = true ∧ PyData.depthAll (pyL ds) ≤ n
  | [], _ => by simp [pyL, PyData.canLayAll0, PyData.depthAll]
  | d :: ds, h => by
    obtain ⟨a, b⟩ := h d (by simp)
    obtain ⟨c, e⟩ := pl_all ds fun x hx => h x (by simp [hx])
    simp only [pyL, PyData.canLayAll0, PyData.depthAll, a, c, Bool.and_self, true_and]
    omega
theorem pl_tup {n : Nat} {ds : List D} (h : ∀ d ∈ ds, Pl n d) : Pl (n + 1) (.tup ds) := by
  obtain ⟨a, b⟩ := pl_all ds h
  refine ⟨by simp only [D.py, PyData.canLay0]; exact a, by simp only [D.py, PyData.depth]; omega⟩
theorem pl_mono {n k : Nat} {d : D} (h : Pl n d) (hk : n ≤ k) : Pl k d := ⟨h.1, Nat.le_trans h.2 hk⟩
theorem pl_int (n : Nat) (i : Int) : Pl n (.int i) := ⟨by simp [D.py, PyData.canLay0], by simp [D.py, PyData.depth]⟩
theorem pl_str (n : Nat) {s : Str} (h : PyData.strOk s = true) : Pl n (.str s) := ⟨by simp [D.py, PyData.canLay0, h], by simp [D.py, PyData.depth]⟩
theorem pl_two {n : Nat} {a b : D} (ha : Pl n a) (hb : Pl n b) : Pl (n + 1) (.tup [a, b]) := pl_tup fun d hd => by
  simp only [List.mem_cons, List.not_mem_nil, or_false] at hd
  rcases hd with rfl | rfl
  · exact ha
  · exact hb
theorem pl_kept (s : Sta) : Pl 3 s.kept := by
  cases s with
  | fin p q => exact pl_two (n := 2) (pl_str 2 ok_str.1) (pl_mono (pl_two (n := 0) (pl_int 0 _) (pl_int 0 _)) (by decide))
  | ext m fs => exact pl_two (n := 2) (pl_str 2 (ok_kw m)) (pl_mono (pl_tup (n := 0) fun d hd => by
      obtain ⟨f, _, rfl⟩ := List.mem_map.mp hd; exact pl_int 0 _) (by decide))
  | av ws => exact pl_two (n := 2) (pl_str 2 ok_str.2.2.2) (pl_tup (n := 1) fun d hd => by
      obtain ⟨f, _, rfl⟩ := List.mem_map.mp hd; exact pl_two (n := 0) (pl_int 0 _) (pl_int 0 _))
theorem pl_plain {n : Nat} {d : D} (h : Pl n d) (hn : n ≤ 64) : d.plain = true := by
  obtain ⟨a, b⟩ := h
  unfold D.plain SeqAt.shaped
  rw [a, Bool.true_and]
  exact decide_eq_true (by omega)
theorem eqv_self {n : Nat} {d : D} (h : Pl n d) : d.eqv d = true := SeqAt.eqv_refl d.py h.1
theorem fEq_self {n : Nat} {d : D} (h : Pl n d) (hn : n ≤ 64) : fEq d d = some (.bl true) := by simp [fEq, pl_plain h hn, eqv_self h]
theorem fNe_self {n : Nat} {d : D} (h : Pl n d) (hn : n ≤ 64) : fNe d d = some (.bl false) := by simp [fNe, pl_plain h hn, eqv_self h]
def lkB : SX tau := SX.seq (SX.asg 7 (EX.ife (TX.ofE (EX.ne (EX.idx (EX.var 6) (EX.int 0)) (EX.str "end"))) (EX.tupOf (AX.cons (EX.idx (EX.var 6) (EX.int 1)) (AX.nil))) (EX.call sem__law_least_terms (AX.cons (EX.idx (EX.idx (EX.var 6) (EX.int 1)) (EX.int 0)) (AX.cons (EX.idx (EX.idx (EX.var 6) (EX.int 1)) (EX.int 1)) (AX.nil))))))
  (SX.app 5 (EX.tup (AX.cons (EX.idx (EX.var 6) (EX.int 0)) (AX.cons (EX.var 7) (AX.nil)))))
theorem fNe_ke (m : Bool) : fNe (.str (kw m)) (.str "end") = some (.bl true) := by rw [fNe_str (ok_kw m) ok_str.1, s_xe]; rfl
theorem fNe_me : fNe (.str "mean") (.str "end") = some (.bl true) := by rw [fNe_str ok_str.2.2.2 ok_str.1, s_me]; rfl
theorem fNe_ee : fNe (.str "end") (.str "end") = some (.bl false) := by rw [fNe_str ok_str.1 ok_str.1, s_ee]; rfl
theorem lk_turn {s : Sta} (sm : s.sm) {a b c d e : Sl} {K : List D} (hK : K.length ≤ 1000) {x : Sl} (hx : okS x = true) : ∃ x', okS x' = true ∧ lkB.ev [a, b, c, d, e, .own none (.lst K), .dat s.raw, x] = .ok .nx [a, b, c, d, e, .own none (.lst (K ++ [s.kept])), .dat s.raw, x'] := by
  have cp : capd K.length = true := cpd hK
  cases s with
  | fin p q =>
    obtain ⟨s1, s2, s3⟩ := sm
    have k0 : fIx (Sta.fin p q).raw (.int 0) = some (.str "end") := nrfl rfl
    have k1 : fIx (Sta.fin p q).raw (.int 1) = some (.tup [.int p, .int q]) := nrfl rfl
    have p0 : fIx (.tup [.int p, .int q]) (.int 0) = some (.int p) := nrfl rfl
    have p1 : fIx (.tup [.int p, .int q]) (.int 1) = some (.int q) := nrfl rfl
    have le := least_eq (p := p) s1 (s3.mono (by decide))
    refine ⟨.dat (rat (p /. q)), rfl, ?_⟩
    unfold lkB
    simp only [Sta.kept]
    simp?! [k0, k1, p0, p1, fNe_ee, le, canSet_eq, canS_ok hx, fTup2, cp]
  | ext m fs =>
    have k0 : fIx (Sta.ext m fs).raw (.int 0) = some (.str (kw m)) := nrfl rfl
    have k1 : fIx (Sta.ext m fs).raw (.int 1) = some (.lst (fs.map iD)) := nrfl rfl
    refine ⟨.dat (.tup (fs.map iD)), rfl, ?_⟩
    unfold lkB
    simp only [Sta.kept]
    simp?! [k0, k1, fNe_ke, fTupOf_seq (seq_lst _), canSet_eq, canS_ok hx, fTup2, cp]
  | av ws =>
    have k0 : fIx (Sta.av ws).raw (.int 0) = some (.str "mean") := nrfl rfl
    have k1 : fIx (Sta.av ws).raw (.int 1) = some (.lst (ws.map fun x => D.tup [.int x.1, iD x.2])) := nrfl rfl
    refine ⟨.dat (.tup (ws.map fun x => D.tup [.int x.1, iD x.2])), rfl, ?_⟩
    unfold lkB
    simp only [Sta.kept]
    simp?! [k0, k1, fNe_me, fTupOf_seq (seq_lst _), canSet_eq, canS_ok hx, fTup2, cp]
theorem lk_loop {a b c d e : Sl} : ∀ (r : List Sta) (K : List D) (x y : Sl), (∀ s ∈ r, s.sm) → K.length + r.length ≤ 1000 → okS x = true → okS y = true → ∃ x' y', okS x' = true ∧ okS y' = true ∧
    runFor (fun _ => true) (GX.name 6 : GX tau).ev lkB.ev (r.map Sta.raw) [a, b, c, d, e, .own none (.lst K), y, x] = .ok .nx [a, b, c, d, e, .own none (.lst (K ++ r.map Sta.kept)), y', x']
  | [], K, x, y, _, _, hx, hy => ⟨x, y, hx, hy, by rw [List.map_nil, List.map_nil, List.append_nil]; exact for_nil _ _ _⟩
  | s :: r, K, x, y, sm, hl, hx, hy => by
    simp only [List.length_cons] at hl
    obtain ⟨x1, h1, h2⟩ := lk_turn (a := a) (b := b) (c := c) (d := d) (e := e) (sm s (by simp)) (K := K) (by omega) hx
    obtain ⟨x', y', a1, a2, a3⟩ := lk_loop (a := a) (b := b) (c := c) (d := d) (e := e) r (K ++ [s.kept]) x1 (.dat s.raw) (fun t ht => sm t (by simp [ht])) (by simp; omega) h1 rfl
    refine ⟨x', y', a1, a2, ?_⟩
    rw [List.map_cons, for_cons]
    rw [show K ++ (s :: r).map Sta.kept = (K ++ [s.kept]) ++ r.map Sta.kept by simp, ← a3]
    simp?! [g_nm, canSet_eq, canS_ok hy, h2]
theorem isi_tup (l : List D) : fIsi "tuple" (.tup l) = some (.bl true) := nrfl rfl
def lsD (s : Sta) : D := .lst [.str s.kind, restD s]
theorem holds : ∀ ns : List Int, ns.length ≤ 63 → sem_law [.d (.scr (ns.map .int))] = .ok (.bl true) [] := by
  intro ns hns
  obtain ⟨l, _, hD⟩ := draws_eq hns
  obtain ⟨sts, l1, m1, m8, ok, hS⟩ := drawn_states_eq l
  obtain ⟨vs, hm, hs, hv, hV⟩ := values_eq m8 ok
  obtain ⟨l2, hL⟩ := side_right_eq hm.symm hs m1 m8 ok hv true l1
  obtain ⟨l3, hH⟩ := side_right_eq hm.symm hs m1 m8 ok hv false l2
  obtain ⟨l4, hW⟩ := wrong_eq m1 ok m8 l3
  have sm := okFrom.sm ok
  have hA := arena_ok (ds := sts.map lsD) (Encs.map sts fun s hs => enc_list (sm s hs).1) m1 ok (by omega)
  have hA' : sem_Arena_init [.o (.ins 0 []), .d (.lst (sts.map lsD))] = .ok .non [.ins 0 [("states", .tup (sts.map Sta.kept))]] := hA
  obtain ⟨x', y', a1, a2, a3⟩ := lk_loop (a := .dat (.scr (ns.map .int))) (b := .own none (drO l1)) (c := .dat (rawS sts)) (d := .dat (arenaD sts)) (e := .dat (.lst (vs.map rat))) sts [] .no .no (fun s hs => (sm s hs).1) (by simp; omega) rfl rfl
  rw [List.nil_append] at a3
  have s1 : ∀ s : Sta, seq1 [s.raw] = some [.str s.kind, restD s] := fun s => by rw [raw_eq]; rfl
  have lc1 : ∀ env0 : En, env0 = [.dat (.scr (ns.map .int)), .own none (drO l1), .dat (rawS sts), .no, .no, .no, .no, .no] →
      runLc (fun _ => true) (GX.name 6 : GX tau).ev (TX.yes : TX tau).ev (EX.ofF (FX.lstOf (AX.cons (EX.var 6) (AX.nil))) : EX tau).ev [6] (sts.map Sta.raw) env0 [] = .ok (sts.map lsD) env0 := by
    rintro env0 rfl
    refine lc_all Sta.raw lsD sts (fun s hs => ?_) (by omega)
    exact ⟨[.dat (.scr (ns.map .int)), .own none (drO l1), .dat (rawS sts), .no, .no, .no, .dat s.raw, .no], by simp?! [g_nm, canSet_eq, canS_no], by simp?!, by simp?!, by simp?! [s1]; rfl⟩
  have l1' := lc1 _ rfl
  have hr : (rawS sts).seq? = some (sts.map Sta.raw) := nrfl rfl
  have pk := pl_tup fun d (hd : d ∈ sts.map Sta.kept) => by
    obtain ⟨s, _, rfl⟩ := List.mem_map.mp hd; exact pl_kept s
  have tk : fTupOf [D.lst (sts.map Sta.kept)] = some (.tup (sts.map Sta.kept)) := fTupOf_seq (seq_lst _)
  have fs := fld_states sts
  have pm := prop_many sts
  have ne := fNe_self pk (by decide)
  have eq := fEq_self pk (by decide)
  unfold arenaD at *
  unfold lkB at a3
  unfold drO at *
  unfold sem_law b_law
  simp?! [hD, hS, List.nodup_cons, List.not_mem_nil, not_false_eq_true, and_self, canSet_eq, canS_no, hr, chk_seq, okVs_cons, l1', hA', hV, cap0, a3, fs, isi_tup, tk, ne, eq, e_prop, pm, fLen_raw, fNe_int, beq_self_eq_true, hL, hH, hW]
end K84

/-! W84 -/
namespace K84
open PySem PySem.Spec PyProof.Rows L2 T
def top (i : Nat) : Stmt := PySem.Challenge.pw_heldbyturns_k84_arena_judge_words.main.body.getD i (.Pass ⟨0, 0, 0, 0⟩)
abbrev s_is_whole : Stmt := top 6
theorem sc_is_whole : FnScope ["value"] ["value"] (defScope s_is_whole) := ⟨rfl, rfl, rfl, by decide +kernel, rfl, by decide +kernel, by decide +kernel⟩
abbrev s_whole : Stmt := top 7
theorem sc_whole : FnScope ["value", "least", "what"] ["value", "least", "what"] (defScope s_whole) := ⟨rfl, rfl, rfl, by decide +kernel, rfl, by decide +kernel, by decide +kernel⟩
abbrev s_is_list : Stmt := top 8
theorem sc_is_list : FnScope ["value"] ["value"] (defScope s_is_list) := ⟨rfl, rfl, rfl, by decide +kernel, rfl, by decide +kernel, by decide +kernel⟩
abbrev s_is_ratio : Stmt := top 10
theorem sc_is_ratio : FnScope ["one"] ["one"] (defScope s_is_ratio) := ⟨rfl, rfl, rfl, by decide +kernel, rfl, by decide +kernel, by decide +kernel⟩
abbrev s_reduced : Stmt := top 11
theorem sc_reduced : FnScope ["p", "q", "common"] ["p", "q"] (defScope s_reduced) := ⟨rfl, rfl, rfl, by decide +kernel, rfl, by decide +kernel, by decide +kernel⟩
abbrev s_ratio_in : Stmt := top 12
theorem sc_ratio_in : FnScope ["one"] ["one"] (defScope s_ratio_in) := ⟨rfl, rfl, rfl, by decide +kernel, rfl, by decide +kernel, by decide +kernel⟩
abbrev s_plus : Stmt := top 13
theorem sc_plus : FnScope ["one", "other", "p", "q", "r", "s"] ["one", "other"] (defScope s_plus) := ⟨rfl, rfl, rfl, by decide +kernel, rfl, by decide +kernel, by decide +kernel⟩
abbrev s_minus : Stmt := top 14
theorem sc_minus : FnScope ["one", "other", "p", "q", "r", "s"] ["one", "other"] (defScope s_minus) := ⟨rfl, rfl, rfl, by decide +kernel, rfl, by decide +kernel, by decide +kernel⟩
abbrev s_at_most : Stmt := top 15
theorem sc_at_most : FnScope ["one", "other", "p", "q", "r", "s"] ["one", "other"] (defScope s_at_most) := ⟨rfl, rfl, rfl, by decide +kernel, rfl, by decide +kernel, by decide +kernel⟩
abbrev s_mean_of : Stmt := top 16
theorem sc_mean_of : FnScope ["pairs", "total", "weights", "pair", "weight", "p", "q"] ["pairs"] (defScope s_mean_of) := ⟨rfl, rfl, rfl, by decide +kernel, rfl, by decide +kernel, by decide +kernel⟩
abbrev s_has_state_form : Stmt := top 19
theorem sc_has_state_form : FnScope ["entry", "kind", "told", "pair"] ["entry"] (defScope s_has_state_form) := ⟨rfl, rfl, rfl, by decide +kernel, rfl, by decide +kernel, by decide +kernel⟩
abbrev s_state_fault : Stmt := top 20
theorem sc_state_fault : FnScope ["entry", "number", "many", "follower", "kind", "told", "pair"] ["entry", "number", "many"] (defScope s_state_fault) := ⟨rfl, rfl, rfl, by decide +kernel, rfl, by decide +kernel, by decide +kernel⟩
abbrev s_kept_state : Stmt := top 21
theorem sc_kept_state : FnScope ["entry", "kind", "told", "pair"] ["entry"] (defScope s_kept_state) := ⟨rfl, rfl, rfl, by decide +kernel, rfl, by decide +kernel, by decide +kernel⟩
abbrev s_Arena_init : Stmt := inClass (top 22) 0
theorem sc_Arena_init : FnScope ["self", "states", "number", "entry", "fault"] ["self", "states"] (defScope s_Arena_init) := ⟨rfl, rfl, rfl, by decide +kernel, rfl, by decide +kernel, by decide +kernel⟩
abbrev s_Arena_many : Stmt := inClass (top 22) 1
theorem sc_Arena_many : FnScope ["self"] ["self"] (defScope s_Arena_many) := ⟨rfl, rfl, rfl, by decide +kernel, rfl, by decide +kernel, by decide +kernel⟩
abbrev s_turned_round : Stmt := top 23
theorem sc_turned_round : FnScope ["arena", "exchanged", "states", "kind", "told"] ["arena"] (defScope s_turned_round) := ⟨rfl, rfl, rfl, by decide +kernel, rfl, by decide +kernel, by decide +kernel⟩
abbrev s_paper_numbers : Stmt := top 25
theorem sc_paper_numbers : FnScope ["arena", "paper", "told", "pair", "state"] ["arena", "paper"] (defScope s_paper_numbers) := ⟨rfl, rfl, rfl, by decide +kernel, rfl, by decide +kernel, by decide +kernel⟩
abbrev s_stands_low : Stmt := top 26
theorem sc_stands_low : FnScope ["state", "own", "told", "kind", "rest", "follower", "_", "weight"] ["state", "own", "told"] (defScope s_stands_low) := ⟨rfl, rfl, rfl, by decide +kernel, rfl, by decide +kernel, by decide +kernel⟩
abbrev s_first_fallen : Stmt := top 27
theorem sc_first_fallen : FnScope ["arena", "told", "number"] ["arena", "told"] (defScope s_first_fallen) := ⟨rfl, rfl, rfl, by decide +kernel, rfl, by decide +kernel, by decide +kernel⟩
abbrev s_judge_low : Stmt := top 28
theorem sc_judge_low : FnScope ["arena", "paper", "number", "least", "told", "broken"] ["arena", "paper", "number"] (defScope s_judge_low) := ⟨rfl, rfl, rfl, by decide +kernel, rfl, by decide +kernel, by decide +kernel⟩
abbrev s_judge_high : Stmt := top 29
theorem sc_judge_high : FnScope ["arena", "paper", "number", "most", "told", "against", "broken", "state"] ["arena", "paper", "number"] (defScope s_judge_high) := ⟨rfl, rfl, rfl, by decide +kernel, rfl, by decide +kernel, by decide +kernel⟩
abbrev s__law_draws : Stmt := top 31
theorem sc__law_draws : FnScope ["script", "draws", "at", "number", "turn"] ["script"] (defScope s__law_draws) := ⟨rfl, rfl, rfl, by decide +kernel, rfl, by decide +kernel, by decide +kernel⟩
abbrev s__law_take : Stmt := top 32
theorem sc__law_take : FnScope ["draws", "many"] ["draws", "many"] (defScope s__law_take) := ⟨rfl, rfl, rfl, by decide +kernel, rfl, by decide +kernel, by decide +kernel⟩
abbrev s__law_pick : Stmt := top 33
theorem sc__law_pick : FnScope ["draws", "choices"] ["draws", "choices"] (defScope s__law_pick) := ⟨rfl, rfl, rfl, by decide +kernel, rfl, by decide +kernel, by decide +kernel⟩
abbrev s__law_whole : Stmt := top 34
theorem sc__law_whole : FnScope ["number"] ["number"] (defScope s__law_whole) := ⟨rfl, rfl, rfl, by decide +kernel, rfl, by decide +kernel, by decide +kernel⟩
abbrev s__law_drawn_ratio : Stmt := top 36
theorem sc__law_drawn_ratio : FnScope ["draws"] ["draws"] (defScope s__law_drawn_ratio) := ⟨rfl, rfl, rfl, by decide +kernel, rfl, by decide +kernel, by decide +kernel⟩
abbrev s__law_drawn_states : Stmt := top 35
theorem sc__law_drawn_states : FnScope ["draws", "many", "states", "at", "kind", "room", "followers", "count", "spot"] ["draws"] (defScope s__law_drawn_states) := ⟨rfl, rfl, rfl, by decide +kernel, rfl, by decide +kernel, by decide +kernel⟩
abbrev s__law_least_terms : Stmt := top 37
theorem sc__law_least_terms : FnScope ["top", "bottom", "first", "second", "count", "rest"] ["top", "bottom"] (defScope s__law_least_terms) := ⟨rfl, rfl, rfl, by decide +kernel, rfl, by decide +kernel, by decide +kernel⟩
abbrev s__law_plus : Stmt := top 38
theorem sc__law_plus : FnScope ["one", "other"] ["one", "other"] (defScope s__law_plus) := ⟨rfl, rfl, rfl, by decide +kernel, rfl, by decide +kernel, by decide +kernel⟩
abbrev s__law_at_most : Stmt := top 39
theorem sc__law_at_most : FnScope ["one", "other"] ["one", "other"] (defScope s__law_at_most) := ⟨rfl, rfl, rfl, by decide +kernel, rfl, by decide +kernel, by decide +kernel⟩
abbrev s__law_mean : Stmt := top 40
theorem sc__law_mean : FnScope ["pairs", "total", "weights", "pair"] ["pairs"] (defScope s__law_mean) := ⟨rfl, rfl, rfl, by decide +kernel, rfl, by decide +kernel, by decide +kernel⟩
abbrev s__law_values : Stmt := top 41
theorem sc__law_values : FnScope ["states", "found", "back", "at", "kind", "rest", "state", "spot", "pair"] ["states"] (defScope s__law_values) := ⟨rfl, rfl, rfl, by decide +kernel, rfl, by decide +kernel, by decide +kernel⟩
abbrev s__law_is_ratio : Stmt := top 42
theorem sc__law_is_ratio : FnScope ["value"] ["value"] (defScope s__law_is_ratio) := ⟨rfl, rfl, rfl, by decide +kernel, rfl, by decide +kernel, by decide +kernel⟩
abbrev s__law_less : Stmt := top 43
theorem sc__law_less : FnScope ["low", "one", "other"] ["low", "one", "other"] (defScope s__law_less) := ⟨rfl, rfl, rfl, by decide +kernel, rfl, by decide +kernel, by decide +kernel⟩
abbrev s__law_keeps : Stmt := top 44
theorem sc__law_keeps : FnScope ["states", "told", "at", "low", "kind", "rest", "own", "good", "spot", "pair"] ["states", "told", "at", "low"] (defScope s__law_keeps) := ⟨rfl, rfl, rfl, by decide +kernel, rfl, by decide +kernel, by decide +kernel⟩
abbrev s__law_word : Stmt := top 45
theorem sc__law_word : FnScope ["states", "paper", "number", "low", "told", "pair", "at", "state"] ["states", "paper", "number", "low"] (defScope s__law_word) := ⟨rfl, rfl, rfl, by decide +kernel, rfl, by decide +kernel, by decide +kernel⟩
abbrev s__law_judged : Stmt := top 46
theorem sc__law_judged : FnScope ["arena", "paper", "number", "low", "told", "found"] ["arena", "paper", "number", "low"] (defScope s__law_judged) := ⟨rfl, rfl, rfl, by decide +kernel, rfl, by decide +kernel, by decide +kernel⟩
abbrev s__law_moved : Stmt := top 47
theorem sc__law_moved : FnScope ["one", "low", "amount"] ["one", "low", "amount"] (defScope s__law_moved) := ⟨rfl, rfl, rfl, by decide +kernel, rfl, by decide +kernel, by decide +kernel⟩
abbrev s__law_papers : Stmt := top 48
theorem sc__law_papers : FnScope ["draws", "states", "values", "low", "many", "whole_v", "turned", "shift", "papers", "amount", "at", "met", "spots", "spot", "pair"] ["draws", "states", "values", "low"] (defScope s__law_papers) := ⟨rfl, rfl, rfl, by decide +kernel, rfl, by decide +kernel, by decide +kernel⟩
abbrev s__law_side_right : Stmt := top 49
theorem sc__law_side_right : FnScope ["draws", "arena", "states", "values", "low", "own", "beyond", "paper", "number", "whole_v", "due", "told", "at"] ["draws", "arena", "states", "values", "low"] (defScope s__law_side_right) := ⟨rfl, rfl, rfl, by decide +kernel, rfl, by decide +kernel, by decide +kernel⟩
abbrev s__law_state_word : Stmt := top 50
theorem sc__law_state_word : FnScope ["state", "at", "many", "spots", "spot", "pair", "p"] ["state", "at", "many"] (defScope s__law_state_word) := ⟨rfl, rfl, rfl, by decide +kernel, rfl, by decide +kernel, by decide +kernel⟩
abbrev s__law_refused : Stmt := top 51
theorem sc__law_refused : FnScope ["states", "told", "found"] ["states"] (defScope s__law_refused) := ⟨rfl, rfl, rfl, by decide +kernel, rfl, by decide +kernel, by decide +kernel⟩
abbrev s__law_wrong_states_right : Stmt := top 52
theorem sc__law_wrong_states_right : FnScope ["draws", "states", "many", "at", "last", "wrong", "one", "word", "made"] ["draws", "states"] (defScope s__law_wrong_states_right) := ⟨rfl, rfl, rfl, by decide +kernel, rfl, by decide +kernel, by decide +kernel⟩
abbrev s_law : Stmt := top 53
theorem sc_law : FnScope ["script", "draws", "states", "arena", "values", "kept", "state", "rest"] ["script"] (defScope s_law) := ⟨rfl, rfl, rfl, by decide +kernel, rfl, by decide +kernel, by decide +kernel⟩
structure Txt (Γ : Gm tau) (mg : Str → Option Value) : Prop where
  bl : Blt mg
  gcd : mg "gcd" = some (.builtin "math.gcd")
  g_STATE_KINDS : (∃ u, mg "STATE_KINDS" = some u ∧ RelV (Γ.gv "STATE_KINDS") u)
  e_BadNumber : ∃ fI B, PySem.XBadNumber.Txt Γ.K mg (Γ.ec 1) fI B
  c_BadNumber : mg "BadNumber" = some (.ref (Γ.ec 1))
  xf_BadNumber_what : ∀ c', tau.sub c' 1 = some true → XFld Γ.K (Γ.ec c') "what"
  e_BadArena : ∃ fI B, PySem.XBadArena.Txt Γ.K mg (Γ.ec 2) fI B
  c_BadArena : mg "BadArena" = some (.ref (Γ.ec 2))
  xf_BadArena_state : ∀ c', tau.sub c' 2 = some true → XFld Γ.K (Γ.ec c') "state"
  xf_BadArena_what : ∀ c', tau.sub c' 2 = some true → XFld Γ.K (Γ.ec c') "what"
  m_Arena : mg "Arena" = some (.ref (Γ.cl 0))
  h_is_whole : ∃ f fd, Fun Γ.K "is_whole" "is_whole" s_is_whole f fd ∧ mg "is_whole" = some (.ref f)
  h_whole : ∃ f fd, Fun Γ.K "whole" "whole" s_whole f fd ∧ mg "whole" = some (.ref f)
  h_is_list : ∃ f fd, Fun Γ.K "is_list" "is_list" s_is_list f fd ∧ mg "is_list" = some (.ref f)
  h_is_ratio : ∃ f fd, Fun Γ.K "is_ratio" "is_ratio" s_is_ratio f fd ∧ mg "is_ratio" = some (.ref f)
  h_reduced : ∃ f fd, Fun Γ.K "reduced" "reduced" s_reduced f fd ∧ mg "reduced" = some (.ref f)
  h_ratio_in : ∃ f fd, Fun Γ.K "ratio_in" "ratio_in" s_ratio_in f fd ∧ mg "ratio_in" = some (.ref f)
  h_plus : ∃ f fd, Fun Γ.K "plus" "plus" s_plus f fd ∧ mg "plus" = some (.ref f)
  h_minus : ∃ f fd, Fun Γ.K "minus" "minus" s_minus f fd ∧ mg "minus" = some (.ref f)
  h_at_most : ∃ f fd, Fun Γ.K "at_most" "at_most" s_at_most f fd ∧ mg "at_most" = some (.ref f)
  h_mean_of : ∃ f fd, Fun Γ.K "mean_of" "mean_of" s_mean_of f fd ∧ mg "mean_of" = some (.ref f)
  h_has_state_form : ∃ f fd, Fun Γ.K "has_state_form" "has_state_form" s_has_state_form f fd ∧ mg "has_state_form" = some (.ref f)
  h_state_fault : ∃ f fd, Fun Γ.K "state_fault" "state_fault" s_state_fault f fd ∧ mg "state_fault" = some (.ref f)
  h_kept_state : ∃ f fd, Fun Γ.K "kept_state" "kept_state" s_kept_state f fd ∧ mg "kept_state" = some (.ref f)
  h_Arena_init : ∃ f fd, Fun Γ.K "__init__" "Arena.__init__" s_Arena_init f fd ∧ Mk Γ.K (Γ.cl 0) f
  h_Arena_many : ∃ p f fd, Fun Γ.K "many" "Arena.many" s_Arena_many f fd ∧ PropOf Γ.K (Γ.cl 0) "many" p f
  h_turned_round : ∃ f fd, Fun Γ.K "turned_round" "turned_round" s_turned_round f fd ∧ mg "turned_round" = some (.ref f)
  h_paper_numbers : ∃ f fd, Fun Γ.K "paper_numbers" "paper_numbers" s_paper_numbers f fd ∧ mg "paper_numbers" = some (.ref f)
  h_stands_low : ∃ f fd, Fun Γ.K "stands_low" "stands_low" s_stands_low f fd ∧ mg "stands_low" = some (.ref f)
  h_first_fallen : ∃ f fd, Fun Γ.K "first_fallen" "first_fallen" s_first_fallen f fd ∧ mg "first_fallen" = some (.ref f)
  h_judge_low : ∃ f fd, Fun Γ.K "judge_low" "judge_low" s_judge_low f fd ∧ mg "judge_low" = some (.ref f)
  h_judge_high : ∃ f fd, Fun Γ.K "judge_high" "judge_high" s_judge_high f fd ∧ mg "judge_high" = some (.ref f)
  h__law_draws : ∃ f fd, Fun Γ.K "_law_draws" "_law_draws" s__law_draws f fd ∧ mg "_law_draws" = some (.ref f)
  h__law_take : ∃ f fd, Fun Γ.K "_law_take" "_law_take" s__law_take f fd ∧ mg "_law_take" = some (.ref f)
  h__law_pick : ∃ f fd, Fun Γ.K "_law_pick" "_law_pick" s__law_pick f fd ∧ mg "_law_pick" = some (.ref f)
  h__law_whole : ∃ f fd, Fun Γ.K "_law_whole" "_law_whole" s__law_whole f fd ∧ mg "_law_whole" = some (.ref f)
  h__law_drawn_ratio : ∃ f fd, Fun Γ.K "_law_drawn_ratio" "_law_drawn_ratio" s__law_drawn_ratio f fd ∧ mg "_law_drawn_ratio" = some (.ref f)
  h__law_drawn_states : ∃ f fd, Fun Γ.K "_law_drawn_states" "_law_drawn_states" s__law_drawn_states f fd ∧ mg "_law_drawn_states" = some (.ref f)
  h__law_least_terms : ∃ f fd, Fun Γ.K "_law_least_terms" "_law_least_terms" s__law_least_terms f fd ∧ mg "_law_least_terms" = some (.ref f)
  h__law_plus : ∃ f fd, Fun Γ.K "_law_plus" "_law_plus" s__law_plus f fd ∧ mg "_law_plus" = some (.ref f)
  h__law_at_most : ∃ f fd, Fun Γ.K "_law_at_most" "_law_at_most" s__law_at_most f fd ∧ mg "_law_at_most" = some (.ref f)
  h__law_mean : ∃ f fd, Fun Γ.K "_law_mean" "_law_mean" s__law_mean f fd ∧ mg "_law_mean" = some (.ref f)
  h__law_values : ∃ f fd, Fun Γ.K "_law_values" "_law_values" s__law_values f fd ∧ mg "_law_values" = some (.ref f)
  h__law_is_ratio : ∃ f fd, Fun Γ.K "_law_is_ratio" "_law_is_ratio" s__law_is_ratio f fd ∧ mg "_law_is_ratio" = some (.ref f)
  h__law_less : ∃ f fd, Fun Γ.K "_law_less" "_law_less" s__law_less f fd ∧ mg "_law_less" = some (.ref f)
  h__law_keeps : ∃ f fd, Fun Γ.K "_law_keeps" "_law_keeps" s__law_keeps f fd ∧ mg "_law_keeps" = some (.ref f)
  h__law_word : ∃ f fd, Fun Γ.K "_law_word" "_law_word" s__law_word f fd ∧ mg "_law_word" = some (.ref f)
  h__law_judged : ∃ f fd, Fun Γ.K "_law_judged" "_law_judged" s__law_judged f fd ∧ mg "_law_judged" = some (.ref f)
  h__law_moved : ∃ f fd, Fun Γ.K "_law_moved" "_law_moved" s__law_moved f fd ∧ mg "_law_moved" = some (.ref f)
  h__law_papers : ∃ f fd, Fun Γ.K "_law_papers" "_law_papers" s__law_papers f fd ∧ mg "_law_papers" = some (.ref f)
  h__law_side_right : ∃ f fd, Fun Γ.K "_law_side_right" "_law_side_right" s__law_side_right f fd ∧ mg "_law_side_right" = some (.ref f)
  h__law_state_word : ∃ f fd, Fun Γ.K "_law_state_word" "_law_state_word" s__law_state_word f fd ∧ mg "_law_state_word" = some (.ref f)
  h__law_refused : ∃ f fd, Fun Γ.K "_law_refused" "_law_refused" s__law_refused f fd ∧ mg "_law_refused" = some (.ref f)
  h__law_wrong_states_right : ∃ f fd, Fun Γ.K "_law_wrong_states_right" "_law_wrong_states_right" s__law_wrong_states_right f fd ∧ mg "_law_wrong_states_right" = some (.ref f)
  h_law : ∃ f fd, Fun Γ.K "law" "law" s_law f fd ∧ mg "law" = some (.ref f)
section
variable {P : Program} {w : World} {Γ : Gm tau} {mg : Str → Option Value} {base : Heap}
theorem ok_is_whole (T : Txt Γ mg) : FN P w Γ.toGm0 mg base "is_whole" ["value"] 1 sem_is_whole := by
  obtain ⟨f, fd, F, hm⟩ := T.h_is_whole
  exact mk_FN F hm (F.binds (ps := ["value"]) fun _ _ _ _ _ _ us hl => match us, hl with | [_], _ => rfl) (mk_fn (k := 0) (B := b_is_whole) F sc_is_whole rfl (by decide) rfl fun cdv A outer s H E o => q_sone (q_ret (q_and (q_isi o T.bl (q_var 0) (q_ty T.bl.int (by decide +kernel))) (q_and1 (q_not (q_isi o T.bl (q_var 0) (q_ty T.bl.bool (by decide +kernel))))))))
theorem ok_whole (T : Txt Γ mg) : FN P w Γ.toGm0 mg base "whole" ["value", "least", "what"] 2 sem_whole := by
  obtain ⟨_, _, E_BadNumber⟩ := T.e_BadNumber
  have G_is_whole := ok_is_whole (P := P) (w := w) (base := base) T
  obtain ⟨f, fd, F, hm⟩ := T.h_whole
  exact mk_FN F hm (F.binds (ps := ["value", "least", "what"]) fun _ _ _ _ _ _ us hl => match us, hl with | [_, _, _], _ => rfl) (mk_fn (k := 1) (B := b_whole) F sc_whole rfl (by decide) rfl fun cdv A outer s H E o => q_scons (q_if (q_tbool (q_tor (q_tnot (q_tst (q_call o G_is_whole (by decide) (q_cons (q_var 0) (q_nil))))) (q_tor1 (q_tlt (q_var 0) (q_var 1))))) (q_sone (q_raise o (pmk_BadNumber (k := 0) E_BadNumber (o.room.mono (by decide)) (q_cons (q_var 2) (q_nil))))) (q_snil))
  (q_sone (q_ret (q_var 0))))
theorem ok_is_list (T : Txt Γ mg) : FN P w Γ.toGm0 mg base "is_list" ["value"] 1 sem_is_list := by
  obtain ⟨f, fd, F, hm⟩ := T.h_is_list
  exact mk_FN F hm (F.binds (ps := ["value"]) fun _ _ _ _ _ _ us hl => match us, hl with | [_], _ => rfl) (mk_fn (k := 0) (B := b_is_list) F sc_is_list rfl (by decide) rfl fun cdv A outer s H E o => q_sone (q_ret (q_isi2 o T.bl (q_var 0) (q_ty T.bl.list (by decide +kernel)) (q_ty T.bl.tuple (by decide +kernel)))))
theorem ok_is_ratio (T : Txt Γ mg) : FN P w Γ.toGm0 mg base "is_ratio" ["one"] 2 sem_is_ratio := by
  have G_is_list := ok_is_list (P := P) (w := w) (base := base) T
  have G_is_whole := ok_is_whole (P := P) (w := w) (base := base) T
  obtain ⟨f, fd, F, hm⟩ := T.h_is_ratio
  exact mk_FN F hm (F.binds (ps := ["one"]) fun _ _ _ _ _ _ us hl => match us, hl with | [_], _ => rfl) (mk_fn (k := 1) (B := b_is_ratio) F sc_is_ratio rfl (by decide) rfl fun cdv A outer s H E o => q_scons (q_if (q_tbool (q_tor (q_tnot (q_tst (q_call o G_is_list (by decide) (q_cons (q_var 0) (q_nil))))) (q_tor1 (q_tne o (q_len o T.bl (q_cons (q_var 0) (q_nil))) (q_int))))) (q_sone (q_ret (q_bl))) (q_snil))
  (q_sone (q_ret (q_and (q_call o G_is_whole (by decide) (q_cons (q_idx o (q_var 0) (q_int)) (q_nil))) (q_and (q_call o G_is_whole (by decide) (q_cons (q_idx o (q_var 0) (q_int)) (q_nil))) (q_and1 (q_ge (q_idx o (q_var 0) (q_int)) (q_int))))))))
theorem ok_reduced (T : Txt Γ mg) : FN P w Γ.toGm0 mg base "reduced" ["p", "q"] 1 sem_reduced := by
  obtain ⟨f, fd, F, hm⟩ := T.h_reduced
  exact mk_FN F hm (F.binds (ps := ["p", "q"]) fun _ _ _ _ _ _ us hl => match us, hl with | [_, _], _ => rfl) (mk_fn (k := 0) (B := b_reduced) F sc_reduced rfl (by decide) rfl fun cdv A outer s H E o => q_scons (q_asg (i := 2) o (q_gcd T.gcd (q_cons (q_var 0) (q_cons (q_var 1) (q_nil)))))
  (q_sone (q_ret (q_tup (q_cons (q_fdiv (q_var 0) (q_var 2)) (q_cons (q_fdiv (q_var 1) (q_var 2)) (q_nil)))))))
theorem ok_ratio_in (T : Txt Γ mg) : FN P w Γ.toGm0 mg base "ratio_in" ["one"] 3 sem_ratio_in := by
  obtain ⟨_, _, E_BadNumber⟩ := T.e_BadNumber
  have G_is_ratio := ok_is_ratio (P := P) (w := w) (base := base) T
  have G_reduced := ok_reduced (P := P) (w := w) (base := base) T
  obtain ⟨f, fd, F, hm⟩ := T.h_ratio_in
  exact mk_FN F hm (F.binds (ps := ["one"]) fun _ _ _ _ _ _ us hl => match us, hl with | [_], _ => rfl) (mk_fn (k := 2) (B := b_ratio_in) F sc_ratio_in rfl (by decide) rfl fun cdv A outer s H E o => q_scons (q_if (q_tnot (q_tst (q_call o G_is_ratio (by decide) (q_cons (q_var 0) (q_nil))))) (q_sone (q_raise o (pmk_BadNumber (k := 0) E_BadNumber (o.room.mono (by decide)) (q_cons (q_str) (q_nil))))) (q_snil))
  (q_sone (q_ret (q_call o G_reduced (by decide) (q_cons (q_idx o (q_var 0) (q_int)) (q_cons (q_idx o (q_var 0) (q_int)) (q_nil)))))))
theorem ok_plus (T : Txt Γ mg) : FN P w Γ.toGm0 mg base "plus" ["one", "other"] 4 sem_plus := by
  have G_ratio_in := ok_ratio_in (P := P) (w := w) (base := base) T
  have G_reduced := ok_reduced (P := P) (w := w) (base := base) T
  obtain ⟨f, fd, F, hm⟩ := T.h_plus
  exact mk_FN F hm (F.binds (ps := ["one", "other"]) fun _ _ _ _ _ _ us hl => match us, hl with | [_, _], _ => rfl) (mk_fn (k := 3) (B := b_plus) F sc_plus rfl (by decide) rfl fun cdv A outer s H E o => q_scons (q_asgG (q_call o G_ratio_in (by decide) (q_cons (q_var 0) (q_nil))) (g_sq o (g_cons (g_name (i := 2) o) (g_cons (g_name (i := 3) o) (g_nil)))))
  (q_scons (q_asgG (q_call o G_ratio_in (by decide) (q_cons (q_var 1) (q_nil))) (g_sq o (g_cons (g_name (i := 4) o) (g_cons (g_name (i := 5) o) (g_nil)))))
  (q_sone (q_ret (q_call o G_reduced (by decide) (q_cons (q_add o (q_mul (q_var 2) (q_var 5)) (q_mul (q_var 4) (q_var 3))) (q_cons (q_mul (q_var 3) (q_var 5)) (q_nil))))))))
theorem ok_minus (T : Txt Γ mg) : FN P w Γ.toGm0 mg base "minus" ["one", "other"] 4 sem_minus := by
  have G_ratio_in := ok_ratio_in (P := P) (w := w) (base := base) T
  have G_reduced := ok_reduced (P := P) (w := w) (base := base) T
  obtain ⟨f, fd, F, hm⟩ := T.h_minus
  exact mk_FN F hm (F.binds (ps := ["one", "other"]) fun _ _ _ _ _ _ us hl => match us, hl with | [_, _], _ => rfl) (mk_fn (k := 3) (B := b_minus) F sc_minus rfl (by decide) rfl fun cdv A outer s H E o => q_scons (q_asgG (q_call o G_ratio_in (by decide) (q_cons (q_var 0) (q_nil))) (g_sq o (g_cons (g_name (i := 2) o) (g_cons (g_name (i := 3) o) (g_nil)))))
  (q_scons (q_asgG (q_call o G_ratio_in (by decide) (q_cons (q_var 1) (q_nil))) (g_sq o (g_cons (g_name (i := 4) o) (g_cons (g_name (i := 5) o) (g_nil)))))
  (q_sone (q_ret (q_call o G_reduced (by decide) (q_cons (q_sub (q_mul (q_var 2) (q_var 5)) (q_mul (q_var 4) (q_var 3))) (q_cons (q_mul (q_var 3) (q_var 5)) (q_nil))))))))
theorem ok_at_most (T : Txt Γ mg) : FN P w Γ.toGm0 mg base "at_most" ["one", "other"] 4 sem_at_most := by
  have G_ratio_in := ok_ratio_in (P := P) (w := w) (base := base) T
  obtain ⟨f, fd, F, hm⟩ := T.h_at_most
  exact mk_FN F hm (F.binds (ps := ["one", "other"]) fun _ _ _ _ _ _ us hl => match us, hl with | [_, _], _ => rfl) (mk_fn (k := 3) (B := b_at_most) F sc_at_most rfl (by decide) rfl fun cdv A outer s H E o => q_scons (q_asgG (q_call o G_ratio_in (by decide) (q_cons (q_var 0) (q_nil))) (g_sq o (g_cons (g_name (i := 2) o) (g_cons (g_name (i := 3) o) (g_nil)))))
  (q_scons (q_asgG (q_call o G_ratio_in (by decide) (q_cons (q_var 1) (q_nil))) (g_sq o (g_cons (g_name (i := 4) o) (g_cons (g_name (i := 5) o) (g_nil)))))
  (q_sone (q_ret (q_le (q_mul (q_var 2) (q_var 5)) (q_mul (q_var 4) (q_var 3)))))))
theorem ok_mean_of (T : Txt Γ mg) : FN P w Γ.toGm0 mg base "mean_of" ["pairs"] 5 sem_mean_of := by
  obtain ⟨_, _, E_BadNumber⟩ := T.e_BadNumber
  have G_is_list := ok_is_list (P := P) (w := w) (base := base) T
  have G_whole := ok_whole (P := P) (w := w) (base := base) T
  have G_ratio_in := ok_ratio_in (P := P) (w := w) (base := base) T
  have G_plus := ok_plus (P := P) (w := w) (base := base) T
  have G_reduced := ok_reduced (P := P) (w := w) (base := base) T
  obtain ⟨f, fd, F, hm⟩ := T.h_mean_of
  exact mk_FN F hm (F.binds (ps := ["pairs"]) fun _ _ _ _ _ _ us hl => match us, hl with | [_], _ => rfl) (mk_fn (k := 4) (B := b_mean_of) F sc_mean_of rfl (by decide) rfl fun cdv A outer s H E o => q_scons (q_if (q_tbool (q_tor (q_tnot (q_tst (q_call o G_is_list (by decide) (q_cons (q_var 0) (q_nil))))) (q_tor1 (q_teq o (q_len o T.bl (q_cons (q_var 0) (q_nil))) (q_int))))) (q_sone (q_raise o (pmk_BadNumber (k := 0) E_BadNumber (o.room.mono (by decide)) (q_cons (q_str) (q_nil))))) (q_snil))
  (q_scons (q_asg (i := 1) o (q_tup (q_cons (q_int) (q_cons (q_int) (q_nil)))))
  (q_scons (q_asg (i := 2) o (q_int))
  (q_scons (q_for o (i_seq o (q_var 0)) (g_name (i := 3) o) (q_scons (q_if (q_tbool (q_tor (q_tnot (q_tst (q_call o G_is_list (by decide) (q_cons (q_var 3) (q_nil))))) (q_tor1 (q_tne o (q_len o T.bl (q_cons (q_var 3) (q_nil))) (q_int))))) (q_sone (q_raise o (pmk_BadNumber (k := 0) E_BadNumber (o.room.mono (by decide)) (q_cons (q_str) (q_nil))))) (q_snil))
  (q_scons (q_asg (i := 4) o (q_call o G_whole (by decide) (q_cons (q_idx o (q_var 3) (q_int)) (q_cons (q_int) (q_cons (q_str) (q_nil))))))
  (q_scons (q_asgG (q_call o G_ratio_in (by decide) (q_cons (q_idx o (q_var 3) (q_int)) (q_nil))) (g_sq o (g_cons (g_name (i := 5) o) (g_cons (g_name (i := 6) o) (g_nil)))))
  (q_scons (q_asg (i := 1) o (q_call o G_plus (by decide) (q_cons (q_var 1) (q_cons (q_tup (q_cons (q_mul (q_var 4) (q_var 5)) (q_cons (q_var 6) (q_nil)))) (q_nil)))))
  (q_sone (q_asg (i := 2) o (q_add o (q_var 2) (q_var 4)))))))))
  (q_sone (q_ret (q_call o G_reduced (by decide) (q_cons (q_idx o (q_var 1) (q_int)) (q_cons (q_mul (q_idx o (q_var 1) (q_int)) (q_var 2)) (q_nil))))))))))
theorem ok_has_state_form (T : Txt Γ mg) : FN P w Γ.toGm0 mg base "has_state_form" ["entry"] 2 sem_has_state_form := by
  have G_is_list := ok_is_list (P := P) (w := w) (base := base) T
  obtain ⟨u_STATE_KINDS, gg_STATE_KINDS⟩ := T.g_STATE_KINDS
  obtain ⟨f, fd, F, hm⟩ := T.h_has_state_form
  exact mk_FN F hm (F.binds (ps := ["entry"]) fun _ _ _ _ _ _ us hl => match us, hl with | [_], _ => rfl) (mk_fn (k := 1) (B := b_has_state_form) F sc_has_state_form rfl (by decide) rfl fun cdv A outer s H E o => q_scons (q_if (q_tbool (q_tor (q_tnot (q_tst (q_call o G_is_list (by decide) (q_cons (q_var 0) (q_nil))))) (q_tor1 (q_tne o (q_len o T.bl (q_cons (q_var 0) (q_nil))) (q_int))))) (q_sone (q_ret (q_bl))) (q_snil))
  (q_scons (q_asgG (q_var 0) (g_sq o (g_cons (g_name (i := 1) o) (g_cons (g_name (i := 2) o) (g_nil)))))
  (q_scons (q_if (q_tbool (q_tor (q_tnot (q_tst (q_isi o T.bl (q_var 1) (q_ty T.bl.str (by decide +kernel))))) (q_tor1 (q_tnotin o (q_var 1) (q_glob gg_STATE_KINDS.1 gg_STATE_KINDS.2))))) (q_sone (q_ret (q_bl))) (q_snil))
  (q_scons (q_if (q_teq o (q_var 1) (q_str)) (q_sone (q_ret (q_bl))) (q_snil))
  (q_scons (q_if (q_tnot (q_tst (q_call o G_is_list (by decide) (q_cons (q_var 2) (q_nil))))) (q_sone (q_ret (q_bl))) (q_snil))
  (q_sone (q_ret (q_or (q_ne o (q_var 1) (q_str)) (q_or1 (q_all o T.bl (q_cons (q_ofF (q_lc o (i_seq o (q_var 2)) _ (own := [("pair", 3)]) (fun _ _ _ _ _ o1 => ⟨g_name (i := 3) o1, t_nil, q_and (q_call o1 G_is_list (by decide) (q_cons (q_var 3) (q_nil))) (q_and1 (q_eq o1 (q_len o1 T.bl (q_cons (q_var 3) (q_nil))) (q_int)))⟩) (ok := (by decide +kernel : blkC ["entry", "kind", "told", "pair"] (defScope s_has_state_form) _ [("pair", 3)] = true)))) (q_nil))))))))))))
theorem ok_state_fault (T : Txt Γ mg) : FN P w Γ.toGm0 mg base "state_fault" ["entry", "number", "many"] 3 sem_state_fault := by
  have G_has_state_form := ok_has_state_form (P := P) (w := w) (base := base) T
  have G_is_ratio := ok_is_ratio (P := P) (w := w) (base := base) T
  have G_is_whole := ok_is_whole (P := P) (w := w) (base := base) T
  obtain ⟨f, fd, F, hm⟩ := T.h_state_fault
  exact mk_FN F hm (F.binds (ps := ["entry", "number", "many"]) fun _ _ _ _ _ _ us hl => match us, hl with | [_, _, _], _ => rfl) (mk_fn (k := 2) (B := b_state_fault) F sc_state_fault rfl (by decide) rfl fun cdv A outer s H E o => q_scons (q_if (q_tnot (q_tst (q_call o G_has_state_form (by decide) (q_cons (q_var 0) (q_nil))))) (q_sone (q_ret (q_str))) (q_snil))
  (q_scons (q_asgG (q_var 0) (g_sq o (g_cons (g_name (i := 4) o) (g_cons (g_name (i := 5) o) (g_nil)))))
  (q_scons (q_if (q_teq o (q_var 4) (q_str)) (q_sone (q_ret (q_ife (q_tst (q_call o G_is_ratio (by decide) (q_cons (q_var 5) (q_nil)))) (q_non) (q_str)))) (q_snil))
  (q_scons (q_if (q_teq o (q_len o T.bl (q_cons (q_var 5) (q_nil))) (q_int)) (q_sone (q_ret (q_str))) (q_snil))
  (q_scons (q_for o (i_seq o (q_ife (q_teq o (q_var 4) (q_str)) (q_ofF (q_lc o (i_seq o (q_var 5)) _ (own := [("pair", 6)]) (fun _ _ _ _ _ o1 => ⟨g_name (i := 6) o1, t_nil, q_idx o1 (q_var 6) (q_int)⟩) (ok := (by decide +kernel : blkC ["entry", "number", "many", "follower", "kind", "told", "pair"] (defScope s_state_fault) _ [("pair", 6)] = true)))) (q_ofF (q_lstOf o T.bl (q_cons (q_var 5) (q_nil)))))) (g_name (i := 3) o) (q_sone (q_if (q_tbool (q_tor (q_tnot (q_tst (q_call o G_is_whole (by decide) (q_cons (q_var 3) (q_nil))))) (q_tor (q_tle (q_var 3) (q_var 1)) (q_tor1 (q_tge (q_var 3) (q_var 2)))))) (q_sone (q_ret (q_str))) (q_snil))))
  (q_scons (q_if (q_teq o (q_var 4) (q_str)) (q_sone (q_for o (i_seq o (q_var 5)) (g_name (i := 6) o) (q_sone (q_if (q_tbool (q_tor (q_tnot (q_tst (q_call o G_is_whole (by decide) (q_cons (q_idx o (q_var 6) (q_int)) (q_nil))))) (q_tor1 (q_tlt (q_idx o (q_var 6) (q_int)) (q_int))))) (q_sone (q_ret (q_str))) (q_snil))))) (q_snil))
  (q_sone (q_ret q_non))))))))
theorem ok_kept_state (T : Txt Γ mg) : FN P w Γ.toGm0 mg base "kept_state" ["entry"] 4 sem_kept_state := by
  have G_ratio_in := ok_ratio_in (P := P) (w := w) (base := base) T
  obtain ⟨f, fd, F, hm⟩ := T.h_kept_state
  exact mk_FN F hm (F.binds (ps := ["entry"]) fun _ _ _ _ _ _ us hl => match us, hl with | [_], _ => rfl) (mk_fn (k := 3) (B := b_kept_state) F sc_kept_state rfl (by decide) rfl fun cdv A outer s H E o => q_scons (q_asgG (q_var 0) (g_sq o (g_cons (g_name (i := 1) o) (g_cons (g_name (i := 2) o) (g_nil)))))
  (q_scons (q_if (q_teq o (q_var 1) (q_str)) (q_sone (q_ret (q_tup (q_cons (q_var 1) (q_cons (q_call o G_ratio_in (by decide) (q_cons (q_var 2) (q_nil))) (q_nil)))))) (q_snil))
  (q_scons (q_if (q_teq o (q_var 1) (q_str)) (q_sone (q_ret (q_tup (q_cons (q_var 1) (q_cons (q_tupOf o T.bl (q_cons (q_ofF (q_lc o (i_seq o (q_var 2)) _ (own := [("pair", 3)]) (fun _ _ _ _ _ o1 => ⟨g_name (i := 3) o1, t_nil, q_tupOf o1 T.bl (q_cons (q_var 3) (q_nil))⟩) (ok := (by decide +kernel : blkC ["entry", "kind", "told", "pair"] (defScope s_kept_state) _ [("pair", 3)] = true)))) (q_nil))) (q_nil)))))) (q_snil))
  (q_sone (q_ret (q_tup (q_cons (q_var 1) (q_cons (q_tupOf o T.bl (q_cons (q_var 2) (q_nil))) (q_nil)))))))))
theorem ok_Arena_init (T : Txt Γ mg) : MkN P w Γ.toGm0 mg base "Arena" 0 ["self", "states"] 5 sem_Arena_init := by
  obtain ⟨_, _, E_BadArena⟩ := T.e_BadArena
  have G_is_list := ok_is_list (P := P) (w := w) (base := base) T
  have G_state_fault := ok_state_fault (P := P) (w := w) (base := base) T
  have G_kept_state := ok_kept_state (P := P) (w := w) (base := base) T
  obtain ⟨f, fd, F, hm⟩ := T.h_Arena_init
  exact ⟨T.m_Arena, f, fd, hm, (F.binds (ps := ["self", "states"]) fun _ _ _ _ _ _ us hl => match us, hl with | [_, _], _ => rfl), mk_fn (k := 4) (B := b_Arena_init) F sc_Arena_init rfl (by decide) rfl fun cdv A outer s H E o => q_scons (q_if (q_tbool (q_tor (q_tnot (q_tst (q_call o G_is_list (by decide) (q_cons (q_var 1) (q_nil))))) (q_tor1 (q_teq o (q_len o T.bl (q_cons (q_var 1) (q_nil))) (q_int))))) (q_sone (q_raise o (pmk_BadArena (k := 0) E_BadArena (o.room.mono (by decide)) (q_cons (q_neg (q_int)) (q_cons (q_str) (q_nil)))))) (q_snil))
  (q_scons (q_for o (i_enum o T.bl (q_cons (q_var 1) (q_nil))) (g_sq o (g_cons (g_name (i := 2) o) (g_cons (g_name (i := 3) o) (g_nil)))) (q_scons (q_asg (i := 4) o (q_call o G_state_fault (by decide) (q_cons (q_var 3) (q_cons (q_var 2) (q_cons (q_len o T.bl (q_cons (q_var 1) (q_nil))) (q_nil))))))
  (q_sone (q_if (q_tnotN (q_var 4) (q_non)) (q_sone (q_raise o (pmk_BadArena (k := 0) E_BadArena (o.room.mono (by decide)) (q_cons (q_var 2) (q_cons (q_var 4) (q_nil)))))) (q_snil)))))
  (q_sone (q_fset o (pv 0) (q_tupOf o T.bl (q_cons (q_ofF (q_lc o (i_seq o (q_var 1)) _ (own := [("entry", 3)]) (fun _ _ _ _ _ o1 => ⟨g_name (i := 3) o1, t_nil, q_call o1 G_kept_state (by decide) (q_cons (q_var 3) (q_nil))⟩) (ok := (by decide +kernel : blkC ["self", "states", "number", "entry", "fault"] (defScope s_Arena_init) _ [("entry", 3)] = true)))) (q_nil))))))⟩
theorem ok_Arena_many (T : Txt Γ mg) : PrN P w Γ.toGm0 mg base "many" 0 1 sem_Arena_many := by
  obtain ⟨p, f, fd, F, hm⟩ := T.h_Arena_many
  exact ⟨p, f, fd, Γ.cls 0 (by decide), hm, (F.binds (ps := ["self"]) fun _ _ _ _ _ _ us hl => match us, hl with | [_], _ => rfl), mk_fn (k := 0) (B := b_Arena_many) F sc_Arena_many rfl (by decide) rfl fun cdv A outer s H E o => q_sone (q_ret (q_len o T.bl (q_cons (q_fld o (q_var 0)) (q_nil))))⟩
theorem ok_turned_round (T : Txt Γ mg) : FN P w Γ.toGm0 mg base "turned_round" ["arena"] 7 sem_turned_round := by
  have G_minus := ok_minus (P := P) (w := w) (base := base) T
  have G_Arena_init := ok_Arena_init (P := P) (w := w) (base := base) T
  obtain ⟨f, fd, F, hm⟩ := T.h_turned_round
  exact mk_FN F hm (F.binds (ps := ["arena"]) fun _ _ _ _ _ _ us hl => match us, hl with | [_], _ => rfl) (mk_fn (k := 6) (B := b_turned_round) F sc_turned_round rfl (by decide) rfl fun cdv A outer s H E o => q_scons (q_asg (i := 1) o (q_ofF (q_dcon (kvs := dc_turned_round_0) (pps_cons pe_str pe_str (pps_cons pe_str pe_str (pps_cons pe_str pe_str (pps_nil)))))))
  (q_scons (q_asgF (i := 2) o (q_lst (q_nil)))
  (q_scons (q_for o (i_seq o (q_fld o (q_var 0))) (g_sq o (g_cons (g_name (i := 3) o) (g_cons (g_name (i := 4) o) (g_nil)))) (q_sone (q_if (q_teq o (q_var 3) (q_str)) (q_sone (q_app o (pv 2) (q_tup (q_cons (q_var 3) (q_cons (q_call o G_minus (by decide) (q_cons (q_tup (q_cons (q_int) (q_cons (q_int) (q_nil)))) (q_cons (q_var 4) (q_nil)))) (q_nil)))))) (q_sone (q_app o (pv 2) (q_tup (q_cons (q_dget o (q_var 1) (q_var 3)) (q_cons (q_var 4) (q_nil)))))))))
  (q_sone (q_ret (q_ofF (q_make o G_Arena_init (by decide) (q_cons (q_var 2) (q_nil)))))))))
theorem ok_paper_numbers (T : Txt Γ mg) : FN P w Γ.toGm0 mg base "paper_numbers" ["arena", "paper"] 4 sem_paper_numbers := by
  have G_is_list := ok_is_list (P := P) (w := w) (base := base) T
  have G_is_whole := ok_is_whole (P := P) (w := w) (base := base) T
  have G_Arena_many := ok_Arena_many (P := P) (w := w) (base := base) T
  have G_is_ratio := ok_is_ratio (P := P) (w := w) (base := base) T
  have G_ratio_in := ok_ratio_in (P := P) (w := w) (base := base) T
  obtain ⟨f, fd, F, hm⟩ := T.h_paper_numbers
  exact mk_FN F hm (F.binds (ps := ["arena", "paper"]) fun _ _ _ _ _ _ us hl => match us, hl with | [_, _], _ => rfl) (mk_fn (k := 3) (B := b_paper_numbers) F sc_paper_numbers rfl (by decide) rfl fun cdv A outer s H E o => q_scons (q_if (q_tnot (q_tst (q_call o G_is_list (by decide) (q_cons (q_var 1) (q_nil))))) (q_sone (q_ret q_non)) (q_snil))
  (q_scons (q_asgF (i := 2) o (q_dnew))
  (q_scons (q_for o (i_seq o (q_var 1)) (g_name (i := 3) o) (q_scons (q_if (q_tbool (q_tor (q_tnot (q_tst (q_call o G_is_list (by decide) (q_cons (q_var 3) (q_nil))))) (q_tor (q_tne o (q_len o T.bl (q_cons (q_var 3) (q_nil))) (q_int)) (q_tor1 (q_tnot (q_tst (q_call o G_is_whole (by decide) (q_cons (q_idx o (q_var 3) (q_int)) (q_nil))))))))) (q_sone (q_ret q_non)) (q_snil))
  (q_scons (q_asg (i := 4) o (q_idx o (q_var 3) (q_int)))
  (q_scons (q_if (q_tbool (q_tor (q_tlt (q_var 4) (q_int)) (q_tor (q_tge (q_var 4) (q_prop o G_Arena_many (by decide) (q_var 0))) (q_tor (q_tdinO o (q_var 4) (pv 2)) (q_tor1 (q_tnot (q_tst (q_call o G_is_ratio (by decide) (q_cons (q_idx o (q_var 3) (q_int)) (q_nil)))))))))) (q_sone (q_ret q_non)) (q_snil))
  (q_sone (q_dput o (pv 2) (q_var 4) (q_call o G_ratio_in (by decide) (q_cons (q_idx o (q_var 3) (q_int)) (q_nil)))))))))
  (q_sone (q_ret (q_var 2))))))
theorem ok_stands_low (T : Txt Γ mg) : FN P w Γ.toGm0 mg base "stands_low" ["state", "own", "told"] 6 sem_stands_low := by
  have G_at_most := ok_at_most (P := P) (w := w) (base := base) T
  have G_mean_of := ok_mean_of (P := P) (w := w) (base := base) T
  obtain ⟨f, fd, F, hm⟩ := T.h_stands_low
  exact mk_FN F hm (F.binds (ps := ["state", "own", "told"]) fun _ _ _ _ _ _ us hl => match us, hl with | [_, _, _], _ => rfl) (mk_fn (k := 5) (B := b_stands_low) F sc_stands_low rfl (by decide) rfl fun cdv A outer s H E o => q_scons (q_asgG (q_var 0) (g_sq o (g_cons (g_name (i := 3) o) (g_cons (g_name (i := 4) o) (g_nil)))))
  (q_scons (q_if (q_teq o (q_var 3) (q_str)) (q_sone (q_ret (q_call o G_at_most (by decide) (q_cons (q_var 1) (q_cons (q_var 4) (q_nil)))))) (q_snil))
  (q_scons (q_if (q_teq o (q_var 3) (q_str)) (q_sone (q_ret (q_any o T.bl (q_cons (q_ofF (q_lc o (i_seq o (q_var 4)) _ (own := [("follower", 5)]) (fun _ _ _ _ _ o1 => ⟨g_name (i := 5) o1, t_one (q_tdin o1 (q_var 5) (q_var 2)), q_call o1 G_at_most (by decide) (q_cons (q_var 1) (q_cons (q_dget o1 (q_var 2) (q_var 5)) (q_nil)))⟩) (ok := (by decide +kernel : blkC ["state", "own", "told", "kind", "rest", "follower", "_", "weight"] (defScope s_stands_low) _ [("follower", 5)] = true)))) (q_nil))))) (q_snil))
  (q_scons (q_if (q_teq o (q_var 3) (q_str)) (q_sone (q_ret (q_all o T.bl (q_cons (q_ofF (q_lc o (i_seq o (q_var 4)) _ (own := [("follower", 5)]) (fun _ _ _ _ _ o2 => ⟨g_name (i := 5) o2, t_nil, q_and (q_din o2 (q_var 5) (q_var 2)) (q_and1 (q_call o2 G_at_most (by decide) (q_cons (q_var 1) (q_cons (q_dget o2 (q_var 2) (q_var 5)) (q_nil)))))⟩) (ok := (by decide +kernel : blkC ["state", "own", "told", "kind", "rest", "follower", "_", "weight"] (defScope s_stands_low) _ [("follower", 5)] = true)))) (q_nil))))) (q_snil))
  (q_scons (q_if (q_tnot (q_tst (q_all o T.bl (q_cons (q_ofF (q_lc o (i_seq o (q_var 4)) _ (own := [("_", 6), ("follower", 5)]) (fun _ _ _ _ _ o3 => ⟨g_sq o3 (g_cons (g_name (i := 6) o3) (g_cons (g_name (i := 5) o3) (g_nil))), t_nil, q_din o3 (q_var 5) (q_var 2)⟩) (ok := (by decide +kernel : blkC ["state", "own", "told", "kind", "rest", "follower", "_", "weight"] (defScope s_stands_low) _ [("_", 6), ("follower", 5)] = true)))) (q_nil))))) (q_sone (q_ret (q_bl))) (q_snil))
  (q_sone (q_ret (q_call o G_at_most (by decide) (q_cons (q_var 1) (q_cons (q_call o G_mean_of (by decide) (q_cons (q_ofF (q_lc o (i_seq o (q_var 4)) _ (own := [("weight", 7), ("follower", 5)]) (fun _ _ _ _ _ o4 => ⟨g_sq o4 (g_cons (g_name (i := 7) o4) (g_cons (g_name (i := 5) o4) (g_nil))), t_nil, q_tup (q_cons (q_var 7) (q_cons (q_dget o4 (q_var 2) (q_var 5)) (q_nil)))⟩) (ok := (by decide +kernel : blkC ["state", "own", "told", "kind", "rest", "follower", "_", "weight"] (defScope s_stands_low) _ [("weight", 7), ("follower", 5)] = true)))) (q_nil))) (q_nil)))))))))))
theorem ok_first_fallen (T : Txt Γ mg) : FN P w Γ.toGm0 mg base "first_fallen" ["arena", "told"] 7 sem_first_fallen := by
  have G_stands_low := ok_stands_low (P := P) (w := w) (base := base) T
  obtain ⟨f, fd, F, hm⟩ := T.h_first_fallen
  exact mk_FN F hm (F.binds (ps := ["arena", "told"]) fun _ _ _ _ _ _ us hl => match us, hl with | [_, _], _ => rfl) (mk_fn (k := 6) (B := b_first_fallen) F sc_first_fallen rfl (by decide) rfl fun cdv A outer s H E o => q_scons (q_for o (i_seq o (q_ofF (q_sortD o T.bl (q_cons (q_var 1) (q_nil))))) (g_name (i := 2) o) (q_sone (q_if (q_tnot (q_tst (q_call o G_stands_low (by decide) (q_cons (q_idx o (q_fld o (q_var 0)) (q_var 2)) (q_cons (q_dget o (q_var 1) (q_var 2)) (q_cons (q_var 1) (q_nil))))))) (q_sone (q_ret (q_var 2))) (q_snil))))
  (q_sone (q_ret q_non)))
theorem ok_judge_low (T : Txt Γ mg) : FN P w Γ.toGm0 mg base "judge_low" ["arena", "paper", "number"] 8 sem_judge_low := by
  have G_ratio_in := ok_ratio_in (P := P) (w := w) (base := base) T
  have G_paper_numbers := ok_paper_numbers (P := P) (w := w) (base := base) T
  have G_first_fallen := ok_first_fallen (P := P) (w := w) (base := base) T
  have G_at_most := ok_at_most (P := P) (w := w) (base := base) T
  obtain ⟨f, fd, F, hm⟩ := T.h_judge_low
  exact mk_FN F hm (F.binds (ps := ["arena", "paper", "number"]) fun _ _ _ _ _ _ us hl => match us, hl with | [_, _, _], _ => rfl) (mk_fn (k := 7) (B := b_judge_low) F sc_judge_low rfl (by decide) rfl fun cdv A outer s H E o => q_scons (q_asg (i := 3) o (q_call o G_ratio_in (by decide) (q_cons (q_var 2) (q_nil))))
  (q_scons (q_asg (i := 4) o (q_call o G_paper_numbers (by decide) (q_cons (q_var 0) (q_cons (q_var 1) (q_nil)))))
  (q_scons (q_if (q_tisN (q_var 4) (q_non)) (q_sone (q_ret (q_str))) (q_snil))
  (q_scons (q_if (q_tdnin o (q_int) (q_var 4)) (q_sone (q_ret (q_str))) (q_snil))
  (q_scons (q_asg (i := 5) o (q_call o G_first_fallen (by decide) (q_cons (q_var 0) (q_cons (q_var 4) (q_nil)))))
  (q_scons (q_if (q_tnotN (q_var 5) (q_non)) (q_sone (q_ret (q_idx o (q_idx o (q_fld o (q_var 0)) (q_var 5)) (q_int)))) (q_snil))
  (q_scons (q_if (q_tnot (q_tst (q_call o G_at_most (by decide) (q_cons (q_var 3) (q_cons (q_dget o (q_var 4) (q_int)) (q_nil)))))) (q_sone (q_ret (q_str))) (q_snil))
  (q_sone (q_ret (q_str))))))))))
theorem ok_judge_high (T : Txt Γ mg) : FN P w Γ.toGm0 mg base "judge_high" ["arena", "paper", "number"] 8 sem_judge_high := by
  have G_ratio_in := ok_ratio_in (P := P) (w := w) (base := base) T
  have G_paper_numbers := ok_paper_numbers (P := P) (w := w) (base := base) T
  have G_minus := ok_minus (P := P) (w := w) (base := base) T
  have G_turned_round := ok_turned_round (P := P) (w := w) (base := base) T
  have G_first_fallen := ok_first_fallen (P := P) (w := w) (base := base) T
  have G_at_most := ok_at_most (P := P) (w := w) (base := base) T
  obtain ⟨f, fd, F, hm⟩ := T.h_judge_high
  exact mk_FN F hm (F.binds (ps := ["arena", "paper", "number"]) fun _ _ _ _ _ _ us hl => match us, hl with | [_, _, _], _ => rfl) (mk_fn (k := 7) (B := b_judge_high) F sc_judge_high rfl (by decide) rfl fun cdv A outer s H E o => q_scons (q_asg (i := 3) o (q_call o G_ratio_in (by decide) (q_cons (q_var 2) (q_nil))))
  (q_scons (q_asg (i := 4) o (q_call o G_paper_numbers (by decide) (q_cons (q_var 0) (q_cons (q_var 1) (q_nil)))))
  (q_scons (q_if (q_tisN (q_var 4) (q_non)) (q_sone (q_ret (q_str))) (q_snil))
  (q_scons (q_if (q_tdnin o (q_int) (q_var 4)) (q_sone (q_ret (q_str))) (q_snil))
  (q_scons (q_asgDcK (j := 5) o (pv 4) _ (own := [("state", 7)]) (fun _ _ _ _ _ o1 => ⟨g_name (i := 7) o1, t_nil, q_var 7, q_call o1 G_minus (by decide) (q_cons (q_tup (q_cons (q_int) (q_cons (q_int) (q_nil)))) (q_cons (q_dget o1 (q_var 4) (q_var 7)) (q_nil)))⟩) (ok := (by decide +kernel : blkC ["arena", "paper", "number", "most", "told", "against", "broken", "state"] (defScope s_judge_high) _ [("state", 7)] = true)))
  (q_scons (q_asg (i := 6) o (q_call o G_first_fallen (by decide) (q_cons (q_call o G_turned_round (by decide) (q_cons (q_var 0) (q_nil))) (q_cons (q_var 5) (q_nil)))))
  (q_scons (q_if (q_tnotN (q_var 6) (q_non)) (q_sone (q_ret (q_idx o (q_idx o (q_fld o (q_var 0)) (q_var 6)) (q_int)))) (q_snil))
  (q_scons (q_if (q_tnot (q_tst (q_call o G_at_most (by decide) (q_cons (q_dget o (q_var 4) (q_int)) (q_cons (q_var 3) (q_nil)))))) (q_sone (q_ret (q_str))) (q_snil))
  (q_sone (q_ret (q_str)))))))))))
theorem ok__law_draws (T : Txt Γ mg) : FN P w Γ.toGm0 mg base "_law_draws" ["script"] 1 sem__law_draws := by
  obtain ⟨f, fd, F, hm⟩ := T.h__law_draws
  exact mk_FN F hm (F.binds (ps := ["script"]) fun _ _ _ _ _ _ us hl => match us, hl with | [_], _ => rfl) (mk_fn (k := 0) (B := b__law_draws) F sc__law_draws rfl (by decide) rfl fun cdv A outer s H E o => q_scons (q_asgF (i := 1) o (q_lst (q_nil)))
  (q_scons (q_for o (i_range1 T.bl (q_cons (q_min2 o T.bl (q_cons (q_len o T.bl (q_cons (q_var 0) (q_nil))) (q_cons (q_int) (q_nil)))) (q_nil))) (g_name (i := 2) o) (q_scons (q_asg (i := 3) o (q_int1 T.bl (q_cons (q_idx o (q_var 0) (q_var 2)) (q_nil))))
  (q_scons (q_if (q_tlt (q_var 3) (q_int)) (q_sone (q_asg (i := 3) o (q_sub (q_int) (q_var 3)))) (q_snil))
  (q_scons (q_asg (i := 3) o (q_mod (q_int1 T.bl (q_cons (q_var 3) (q_nil))) (q_int)))
  (q_sone (q_for o (i_range1 T.bl (q_cons (q_int) (q_nil))) (g_name (i := 4) o) (q_sone (q_if (q_tbool (q_tor (q_teq o (q_var 4) (q_int)) (q_tor1 (q_tgt (q_var 3) (q_int))))) (q_scons (q_app o (pv 1) (q_mod (q_int1 T.bl (q_cons (q_var 3) (q_nil))) (q_int)))
  (q_sone (q_asg (i := 3) o (q_fdiv (q_int1 T.bl (q_cons (q_var 3) (q_nil))) (q_int))))) (q_snil)))))))))
  (q_scons (q_rev o (pv 1))
  (q_sone (q_retO (pv 1))))))
theorem ok__law_take (T : Txt Γ mg) : FN P w Γ.toGm0 mg base "_law_take" ["draws", "many"] 1 sem__law_take := by
  obtain ⟨f, fd, F, hm⟩ := T.h__law_take
  exact mk_FN F hm (F.binds (ps := ["draws", "many"]) fun _ _ _ _ _ _ us hl => match us, hl with | [_, _], _ => rfl) (mk_fn (k := 0) (B := b__law_take) F sc__law_take rfl (by decide) rfl fun cdv A outer s H E o => q_scons (q_if (q_teq o (q_lenO o T.bl (pv 0)) (q_int)) (q_sone (q_ret (q_int))) (q_snil))
  (q_sone (q_ret (q_mod (q_int1 T.bl (q_cons (q_pop o (pv 0)) (q_nil))) (q_var 1)))))
theorem ok__law_pick (T : Txt Γ mg) : FN P w Γ.toGm0 mg base "_law_pick" ["draws", "choices"] 2 sem__law_pick := by
  have G__law_take := ok__law_take (P := P) (w := w) (base := base) T
  obtain ⟨f, fd, F, hm⟩ := T.h__law_pick
  exact mk_FN F hm (F.binds (ps := ["draws", "choices"]) fun _ _ _ _ _ _ us hl => match us, hl with | [_, _], _ => rfl) (mk_fn (k := 1) (B := b__law_pick) F sc__law_pick rfl (by decide) rfl fun cdv A outer s H E o => q_sone (q_ret (q_idx o (q_var 1) (q_call o G__law_take (by decide) (q_lend (pv 0) (q_cons (q_len o T.bl (q_cons (q_var 1) (q_nil))) (q_nil)))))))
theorem ok__law_whole (T : Txt Γ mg) : FN P w Γ.toGm0 mg base "_law_whole" ["number"] 1 sem__law_whole := by
  obtain ⟨f, fd, F, hm⟩ := T.h__law_whole
  exact mk_FN F hm (F.binds (ps := ["number"]) fun _ _ _ _ _ _ us hl => match us, hl with | [_], _ => rfl) (mk_fn (k := 0) (B := b__law_whole) F sc__law_whole rfl (by decide) rfl fun cdv A outer s H E o => q_sone (q_ret (q_and (q_isi o T.bl (q_var 0) (q_ty T.bl.int (by decide +kernel))) (q_and1 (q_not (q_isi o T.bl (q_var 0) (q_ty T.bl.bool (by decide +kernel))))))))
theorem ok__law_drawn_ratio (T : Txt Γ mg) : FN P w Γ.toGm0 mg base "_law_drawn_ratio" ["draws"] 3 sem__law_drawn_ratio := by
  have G__law_pick := ok__law_pick (P := P) (w := w) (base := base) T
  obtain ⟨f, fd, F, hm⟩ := T.h__law_drawn_ratio
  exact mk_FN F hm (F.binds (ps := ["draws"]) fun _ _ _ _ _ _ us hl => match us, hl with | [_], _ => rfl) (mk_fn (k := 2) (B := b__law_drawn_ratio) F sc__law_drawn_ratio rfl (by decide) rfl fun cdv A outer s H E o => q_sone (q_ret (q_call o G__law_pick (by decide) (q_lend (pv 0) (q_cons (q_ofF (q_lst (q_cons (q_tup (q_cons (q_int) (q_cons (q_int) (q_nil)))) (q_cons (q_tup (q_cons (q_int) (q_cons (q_int) (q_nil)))) (q_cons (q_tup (q_cons (q_neg (q_int)) (q_cons (q_int) (q_nil)))) (q_cons (q_tup (q_cons (q_int) (q_cons (q_int) (q_nil)))) (q_cons (q_tup (q_cons (q_int) (q_cons (q_int) (q_nil)))) (q_cons (q_tup (q_cons (q_pow (q_int) (q_int)) (q_cons (q_int) (q_nil)))) (q_cons (q_tup (q_cons (q_neg (q_int)) (q_cons (q_int) (q_nil)))) (q_cons (q_tup (q_cons (q_int) (q_cons (q_int) (q_nil)))) (q_nil))))))))))) (q_nil))))))
theorem ok__law_drawn_states (T : Txt Γ mg) : FN P w Γ.toGm0 mg base "_law_drawn_states" ["draws"] 4 sem__law_drawn_states := by
  have G__law_pick := ok__law_pick (P := P) (w := w) (base := base) T
  have G__law_take := ok__law_take (P := P) (w := w) (base := base) T
  have G__law_drawn_ratio := ok__law_drawn_ratio (P := P) (w := w) (base := base) T
  obtain ⟨f, fd, F, hm⟩ := T.h__law_drawn_states
  exact mk_FN F hm (F.binds (ps := ["draws"]) fun _ _ _ _ _ _ us hl => match us, hl with | [_], _ => rfl) (mk_fn (k := 3) (B := b__law_drawn_states) F sc__law_drawn_states rfl (by decide) rfl fun cdv A outer s H E o => q_scons (q_asg (i := 1) o (q_call o G__law_pick (by decide) (q_lend (pv 0) (q_cons (q_ofF (q_lst (q_cons (q_int) (q_cons (q_int) (q_cons (q_int) (q_cons (q_int) (q_cons (q_int) (q_cons (q_int) (q_cons (q_int) (q_cons (q_int) (q_nil))))))))))) (q_nil)))))
  (q_scons (q_asgF (i := 2) o (q_lst (q_nil)))
  (q_scons (q_for o (i_range1 T.bl (q_cons (q_sub (q_var 1) (q_int)) (q_nil))) (g_name (i := 3) o) (q_scons (q_asg (i := 4) o (q_call o G__law_pick (by decide) (q_lend (pv 0) (q_cons (q_ofF (q_lst (q_cons (q_idx o (q_ofF (q_lst (q_cons (q_str) (q_cons (q_str) (q_cons (q_str) (q_nil)))))) (q_mod (q_var 3) (q_int))) (q_cons (q_str) (q_cons (q_str) (q_cons (q_str) (q_cons (q_str) (q_nil)))))))) (q_nil)))))
  (q_scons (q_asg (i := 5) o (q_sub (q_sub (q_var 1) (q_int)) (q_var 3)))
  (q_scons (q_asgLc (i := 6) o (i_range1 T.bl (q_cons (q_call o G__law_pick (by decide) (q_lend (pv 0) (q_cons (q_ofF (q_lst (q_cons (q_int) (q_cons (q_int) (q_cons (q_int) (q_nil)))))) (q_nil)))) (q_nil))) _ (own := [("count", 7)]) (fun _ _ _ _ _ o1 => ⟨g_name (i := 7) o1, t_nil, q_add o1 (q_add o1 (q_var 3) (q_int)) (q_mod (q_add o1 (q_var 7) (q_call o1 G__law_take (by decide) (q_lend (pv 0) (q_cons (q_var 5) (q_nil))))) (q_var 5))⟩) (ok := (by decide +kernel : blkC ["draws", "many", "states", "at", "kind", "room", "followers", "count", "spot"] (defScope s__law_drawn_states) _ [("count", 7)] = true)))
  (q_sone (q_if (q_teq o (q_var 4) (q_str)) (q_sone (q_app o (pv 2) (q_tup (q_cons (q_str) (q_cons (q_call o G__law_drawn_ratio (by decide) (q_lend (pv 0) (q_nil))) (q_nil)))))) (q_sone (q_if (q_teq o (q_var 4) (q_str)) (q_sone (q_app o (pv 2) (q_tup (q_cons (q_str) (q_cons (q_ofF (q_lc o (i_seq o (q_var 6)) _ (own := [("spot", 8)]) (fun _ _ _ _ _ o2 => ⟨g_name (i := 8) o2, t_nil, q_tup (q_cons (q_call o2 G__law_pick (by decide) (q_lend (pv 0) (q_cons (q_ofF (q_lst (q_cons (q_int) (q_cons (q_int) (q_cons (q_int) (q_cons (q_int) (q_cons (q_int) (q_cons (q_int) (q_nil))))))))) (q_nil)))) (q_cons (q_var 8) (q_nil)))⟩) (ok := (by decide +kernel : blkC ["draws", "many", "states", "at", "kind", "room", "followers", "count", "spot"] (defScope s__law_drawn_states) _ [("spot", 8)] = true)))) (q_nil)))))) (q_sone (q_app o (pv 2) (q_tup (q_cons (q_var 4) (q_cons (q_var 6) (q_nil))))))))))))))
  (q_sone (q_ret (q_add o (q_var 2) (q_ofF (q_lst (q_cons (q_tup (q_cons (q_str) (q_cons (q_call o G__law_drawn_ratio (by decide) (q_lend (pv 0) (q_nil))) (q_nil)))) (q_nil))))))))))
theorem ok__law_least_terms (T : Txt Γ mg) : FN P w Γ.toGm0 mg base "_law_least_terms" ["top", "bottom"] 1 sem__law_least_terms := by
  obtain ⟨f, fd, F, hm⟩ := T.h__law_least_terms
  exact mk_FN F hm (F.binds (ps := ["top", "bottom"]) fun _ _ _ _ _ _ us hl => match us, hl with | [_, _], _ => rfl) (mk_fn (k := 0) (B := b__law_least_terms) F sc__law_least_terms rfl (by decide) rfl fun cdv A outer s H E o => q_scons (q_asg (i := 2) o (q_abs T.bl (q_cons (q_var 0) (q_nil))))
  (q_scons (q_asg (i := 3) o (q_var 1))
  (q_scons (q_for o (i_range1 T.bl (q_cons (q_add o (q_mul (q_int) (q_bits (q_var 1))) (q_int)) (q_nil))) (g_name (i := 4) o) (q_sone (q_if (q_tgt (q_var 3) (q_int)) (q_scons (q_asg (i := 5) o (q_mod (q_int1 T.bl (q_cons (q_var 2) (q_nil))) (q_var 3)))
  (q_scons (q_asg (i := 2) o (q_var 3))
  (q_sone (q_asg (i := 3) o (q_var 5))))) (q_snil))))
  (q_sone (q_ret (q_tup (q_cons (q_fdiv (q_var 0) (q_var 2)) (q_cons (q_fdiv (q_var 1) (q_var 2)) (q_nil)))))))))
theorem ok__law_plus (T : Txt Γ mg) : FN P w Γ.toGm0 mg base "_law_plus" ["one", "other"] 2 sem__law_plus := by
  have G__law_least_terms := ok__law_least_terms (P := P) (w := w) (base := base) T
  obtain ⟨f, fd, F, hm⟩ := T.h__law_plus
  exact mk_FN F hm (F.binds (ps := ["one", "other"]) fun _ _ _ _ _ _ us hl => match us, hl with | [_, _], _ => rfl) (mk_fn (k := 1) (B := b__law_plus) F sc__law_plus rfl (by decide) rfl fun cdv A outer s H E o => q_sone (q_ret (q_call o G__law_least_terms (by decide) (q_cons (q_add o (q_mul (q_idx o (q_var 0) (q_int)) (q_idx o (q_var 1) (q_int))) (q_mul (q_idx o (q_var 1) (q_int)) (q_idx o (q_var 0) (q_int)))) (q_cons (q_mul (q_idx o (q_var 0) (q_int)) (q_idx o (q_var 1) (q_int))) (q_nil))))))
theorem ok__law_at_most (T : Txt Γ mg) : FN P w Γ.toGm0 mg base "_law_at_most" ["one", "other"] 1 sem__law_at_most := by
  obtain ⟨f, fd, F, hm⟩ := T.h__law_at_most
  exact mk_FN F hm (F.binds (ps := ["one", "other"]) fun _ _ _ _ _ _ us hl => match us, hl with | [_, _], _ => rfl) (mk_fn (k := 0) (B := b__law_at_most) F sc__law_at_most rfl (by decide) rfl fun cdv A outer s H E o => q_sone (q_ret (q_le (q_mul (q_idx o (q_var 0) (q_int)) (q_idx o (q_var 1) (q_int))) (q_mul (q_idx o (q_var 1) (q_int)) (q_idx o (q_var 0) (q_int))))))
theorem ok__law_mean (T : Txt Γ mg) : FN P w Γ.toGm0 mg base "_law_mean" ["pairs"] 3 sem__law_mean := by
  have G__law_plus := ok__law_plus (P := P) (w := w) (base := base) T
  have G__law_least_terms := ok__law_least_terms (P := P) (w := w) (base := base) T
  obtain ⟨f, fd, F, hm⟩ := T.h__law_mean
  exact mk_FN F hm (F.binds (ps := ["pairs"]) fun _ _ _ _ _ _ us hl => match us, hl with | [_], _ => rfl) (mk_fn (k := 2) (B := b__law_mean) F sc__law_mean rfl (by decide) rfl fun cdv A outer s H E o => q_scons (q_asg (i := 1) o (q_tup (q_cons (q_int) (q_cons (q_int) (q_nil)))))
  (q_scons (q_asg (i := 2) o (q_int))
  (q_scons (q_for o (i_seq o (q_var 0)) (g_name (i := 3) o) (q_scons (q_asg (i := 1) o (q_call o G__law_plus (by decide) (q_cons (q_var 1) (q_cons (q_tup (q_cons (q_mul (q_idx o (q_var 3) (q_int)) (q_idx o (q_idx o (q_var 3) (q_int)) (q_int))) (q_cons (q_idx o (q_idx o (q_var 3) (q_int)) (q_int)) (q_nil)))) (q_nil)))))
  (q_sone (q_asg (i := 2) o (q_add o (q_var 2) (q_idx o (q_var 3) (q_int)))))))
  (q_sone (q_ret (q_call o G__law_least_terms (by decide) (q_cons (q_idx o (q_var 1) (q_int)) (q_cons (q_mul (q_idx o (q_var 1) (q_int)) (q_var 2)) (q_nil)))))))))
theorem ok__law_values (T : Txt Γ mg) : FN P w Γ.toGm0 mg base "_law_values" ["states"] 4 sem__law_values := by
  have G__law_least_terms := ok__law_least_terms (P := P) (w := w) (base := base) T
  have G__law_mean := ok__law_mean (P := P) (w := w) (base := base) T
  have G__law_at_most := ok__law_at_most (P := P) (w := w) (base := base) T
  obtain ⟨f, fd, F, hm⟩ := T.h__law_values
  exact mk_FN F hm (F.binds (ps := ["states"]) fun _ _ _ _ _ _ us hl => match us, hl with | [_], _ => rfl) (mk_fn (k := 3) (B := b__law_values) F sc__law_values rfl (by decide) rfl fun cdv A outer s H E o => q_scons (q_asgF o (q_lc o (i_seq o (q_var 0)) _ (own := [("state", 6)]) (fun _ _ _ _ _ o1 => ⟨g_name (i := 6) o1, t_nil, q_tup (q_cons (q_int) (q_cons (q_int) (q_nil)))⟩) (ok := (by decide +kernel : blkC ["states", "found", "back", "at", "kind", "rest", "state", "spot", "pair"] (defScope s__law_values) _ [("state", 6)] = true))))
  (q_scons (q_for o (i_range1 T.bl (q_cons (q_len o T.bl (q_cons (q_var 0) (q_nil))) (q_nil))) (g_name (i := 2) o) (q_scons (q_asg (i := 3) o (q_sub (q_sub (q_len o T.bl (q_cons (q_var 0) (q_nil))) (q_int)) (q_var 2)))
  (q_scons (q_asg (i := 4) o (q_idx o (q_idx o (q_var 0) (q_var 3)) (q_int)))
  (q_scons (q_asg (i := 5) o (q_idx o (q_idx o (q_var 0) (q_var 3)) (q_int)))
  (q_sone (q_if (q_teq o (q_var 4) (q_str)) (q_sone (q_setL (pv 1) (q_var 3) (q_call o G__law_least_terms (by decide) (q_cons (q_idx o (q_var 5) (q_int)) (q_cons (q_idx o (q_var 5) (q_int)) (q_nil)))))) (q_sone (q_if (q_teq o (q_var 4) (q_str)) (q_sone (q_setL (pv 1) (q_var 3) (q_call o G__law_mean (by decide) (q_cons (q_ofF (q_lc o (i_seq o (q_var 5)) _ (own := [("pair", 8)]) (fun _ _ _ _ _ o2 => ⟨g_name (i := 8) o2, t_nil, q_tup (q_cons (q_idx o2 (q_var 8) (q_int)) (q_cons (q_idxO o2 (pv 1) (q_idx o2 (q_var 8) (q_int))) (q_nil)))⟩) (ok := (by decide +kernel : blkC ["states", "found", "back", "at", "kind", "rest", "state", "spot", "pair"] (defScope s__law_values) _ [("pair", 8)] = true)))) (q_nil))))) (q_scons (q_setL (pv 1) (q_var 3) (q_idxO o (pv 1) (q_idx o (q_var 5) (q_int))))
  (q_sone (q_for o (i_seq o (q_var 5)) (g_name (i := 7) o) (q_sone (q_if (q_teq o (q_call o G__law_at_most (by decide) (q_cons (q_idxO o (pv 1) (q_var 7)) (q_cons (q_idxO o (pv 1) (q_var 3)) (q_nil)))) (q_eq o (q_var 4) (q_str))) (q_sone (q_setL (pv 1) (q_var 3) (q_idxO o (pv 1) (q_var 7)))) (q_snil))))))))))))))
  (q_sone (q_ret (q_var 1)))))
theorem ok__law_is_ratio (T : Txt Γ mg) : FN P w Γ.toGm0 mg base "_law_is_ratio" ["value"] 2 sem__law_is_ratio := by
  have G__law_whole := ok__law_whole (P := P) (w := w) (base := base) T
  obtain ⟨f, fd, F, hm⟩ := T.h__law_is_ratio
  exact mk_FN F hm (F.binds (ps := ["value"]) fun _ _ _ _ _ _ us hl => match us, hl with | [_], _ => rfl) (mk_fn (k := 1) (B := b__law_is_ratio) F sc__law_is_ratio rfl (by decide) rfl fun cdv A outer s H E o => q_scons (q_if (q_tbool (q_tor (q_tnot (q_tst (q_isi2 o T.bl (q_var 0) (q_ty T.bl.list (by decide +kernel)) (q_ty T.bl.tuple (by decide +kernel))))) (q_tor1 (q_tne o (q_len o T.bl (q_cons (q_var 0) (q_nil))) (q_int))))) (q_sone (q_ret (q_bl))) (q_snil))
  (q_sone (q_ret (q_and (q_call o G__law_whole (by decide) (q_cons (q_idx o (q_var 0) (q_int)) (q_nil))) (q_and (q_call o G__law_whole (by decide) (q_cons (q_idx o (q_var 0) (q_int)) (q_nil))) (q_and1 (q_ge (q_idx o (q_var 0) (q_int)) (q_int))))))))
theorem ok__law_less (T : Txt Γ mg) : FN P w Γ.toGm0 mg base "_law_less" ["low", "one", "other"] 2 sem__law_less := by
  have G__law_at_most := ok__law_at_most (P := P) (w := w) (base := base) T
  obtain ⟨f, fd, F, hm⟩ := T.h__law_less
  exact mk_FN F hm (F.binds (ps := ["low", "one", "other"]) fun _ _ _ _ _ _ us hl => match us, hl with | [_, _, _], _ => rfl) (mk_fn (k := 1) (B := b__law_less) F sc__law_less rfl (by decide) rfl fun cdv A outer s H E o => q_scons (q_if (q_tst (q_var 0)) (q_sone (q_ret (q_call o G__law_at_most (by decide) (q_cons (q_var 1) (q_cons (q_var 2) (q_nil)))))) (q_snil))
  (q_sone (q_ret (q_call o G__law_at_most (by decide) (q_cons (q_var 2) (q_cons (q_var 1) (q_nil)))))))
theorem ok__law_keeps (T : Txt Γ mg) : FN P w Γ.toGm0 mg base "_law_keeps" ["states", "told", "at", "low"] 4 sem__law_keeps := by
  have G__law_less := ok__law_less (P := P) (w := w) (base := base) T
  have G__law_mean := ok__law_mean (P := P) (w := w) (base := base) T
  obtain ⟨f, fd, F, hm⟩ := T.h__law_keeps
  exact mk_FN F hm (F.binds (ps := ["states", "told", "at", "low"]) fun _ _ _ _ _ _ us hl => match us, hl with | [_, _, _, _], _ => rfl) (mk_fn (k := 3) (B := b__law_keeps) F sc__law_keeps rfl (by decide) rfl fun cdv A outer s H E o => q_scons (q_asg (i := 4) o (q_idx o (q_idx o (q_var 0) (q_var 2)) (q_int)))
  (q_scons (q_asg (i := 5) o (q_idx o (q_idx o (q_var 0) (q_var 2)) (q_int)))
  (q_scons (q_asg (i := 6) o (q_idx o (q_var 1) (q_var 2)))
  (q_scons (q_if (q_teq o (q_var 4) (q_str)) (q_sone (q_ret (q_call o G__law_less (by decide) (q_cons (q_var 3) (q_cons (q_var 6) (q_cons (q_var 5) (q_nil))))))) (q_snil))
  (q_scons (q_if (q_teq o (q_var 4) (q_str)) (q_scons (q_if (q_tgt (q_len o T.bl (q_cons (q_ofF (q_lc o (i_seq o (q_var 5)) _ (own := [("pair", 9)]) (fun _ _ _ _ _ o1 => ⟨g_name (i := 9) o1, t_one (q_tisN (q_idx o1 (q_var 1) (q_idx o1 (q_var 9) (q_int))) (q_non)), q_var 9⟩) (ok := (by decide +kernel : blkC ["states", "told", "at", "low", "kind", "rest", "own", "good", "spot", "pair"] (defScope s__law_keeps) _ [("pair", 9)] = true)))) (q_nil))) (q_int)) (q_sone (q_ret (q_bl))) (q_snil))
  (q_sone (q_ret (q_call o G__law_less (by decide) (q_cons (q_var 3) (q_cons (q_var 6) (q_cons (q_call o G__law_mean (by decide) (q_cons (q_ofF (q_lc o (i_seq o (q_var 5)) _ (own := [("pair", 9)]) (fun _ _ _ _ _ o2 => ⟨g_name (i := 9) o2, t_nil, q_tup (q_cons (q_idx o2 (q_var 9) (q_int)) (q_cons (q_idx o2 (q_var 1) (q_idx o2 (q_var 9) (q_int))) (q_nil)))⟩) (ok := (by decide +kernel : blkC ["states", "told", "at", "low", "kind", "rest", "own", "good", "spot", "pair"] (defScope s__law_keeps) _ [("pair", 9)] = true)))) (q_nil))) (q_nil)))))))) (q_snil))
  (q_scons (q_asgLc (i := 7) o (i_seq o (q_var 5)) _ (own := [("spot", 8)]) (fun _ _ _ _ _ o3 => ⟨g_name (i := 8) o3, t_one (q_tbool (q_tand (q_tnotN (q_idx o3 (q_var 1) (q_var 8)) (q_non)) (q_tand1 (q_tst (q_call o3 G__law_less (by decide) (q_cons (q_var 3) (q_cons (q_var 6) (q_cons (q_idx o3 (q_var 1) (q_var 8)) (q_nil))))))))), q_var 8⟩) (ok := (by decide +kernel : blkC ["states", "told", "at", "low", "kind", "rest", "own", "good", "spot", "pair"] (defScope s__law_keeps) _ [("spot", 8)] = true)))
  (q_scons (q_if (q_teq o (q_eq o (q_var 4) (q_str)) (q_var 3)) (q_sone (q_ret (q_gt (q_len o T.bl (q_cons (q_var 7) (q_nil))) (q_int)))) (q_snil))
  (q_sone (q_ret (q_eq o (q_len o T.bl (q_cons (q_var 7) (q_nil))) (q_len o T.bl (q_cons (q_var 5) (q_nil)))))))))))))
theorem ok__law_word (T : Txt Γ mg) : FN P w Γ.toGm0 mg base "_law_word" ["states", "paper", "number", "low"] 5 sem__law_word := by
  have G__law_whole := ok__law_whole (P := P) (w := w) (base := base) T
  have G__law_is_ratio := ok__law_is_ratio (P := P) (w := w) (base := base) T
  have G__law_keeps := ok__law_keeps (P := P) (w := w) (base := base) T
  have G__law_less := ok__law_less (P := P) (w := w) (base := base) T
  obtain ⟨f, fd, F, hm⟩ := T.h__law_word
  exact mk_FN F hm (F.binds (ps := ["states", "paper", "number", "low"]) fun _ _ _ _ _ _ us hl => match us, hl with | [_, _, _, _], _ => rfl) (mk_fn (k := 4) (B := b__law_word) F sc__law_word rfl (by decide) rfl fun cdv A outer s H E o => q_scons (q_if (q_tnot (q_tst (q_isi2 o T.bl (q_var 1) (q_ty T.bl.list (by decide +kernel)) (q_ty T.bl.tuple (by decide +kernel))))) (q_sone (q_ret (q_str))) (q_snil))
  (q_scons (q_asgLc (i := 4) o (i_seq o (q_var 0)) _ (own := [("state", 7)]) (fun _ _ _ _ _ o1 => ⟨g_name (i := 7) o1, t_nil, q_non⟩) (ok := (by decide +kernel : blkC ["states", "paper", "number", "low", "told", "pair", "at", "state"] (defScope s__law_word) _ [("state", 7)] = true)))
  (q_scons (q_for o (i_seq o (q_var 1)) (g_name (i := 5) o) (q_scons (q_if (q_tbool (q_tor (q_tnot (q_tst (q_isi2 o T.bl (q_var 5) (q_ty T.bl.list (by decide +kernel)) (q_ty T.bl.tuple (by decide +kernel))))) (q_tor (q_tne o (q_len o T.bl (q_cons (q_var 5) (q_nil))) (q_int)) (q_tor (q_tnot (q_tst (q_call o G__law_whole (by decide) (q_cons (q_idx o (q_var 5) (q_int)) (q_nil))))) (q_tor1 (q_tnot (q_tst (q_call o G__law_is_ratio (by decide) (q_cons (q_idx o (q_var 5) (q_int)) (q_nil)))))))))) (q_sone (q_ret (q_str))) (q_snil))
  (q_scons (q_if (q_tbool (q_tor (q_tlt (q_idx o (q_var 5) (q_int)) (q_int)) (q_tor (q_tge (q_idx o (q_var 5) (q_int)) (q_len o T.bl (q_cons (q_var 0) (q_nil)))) (q_tor1 (q_tnotN (q_idxO o (pv 4) (q_idx o (q_var 5) (q_int))) (q_non)))))) (q_sone (q_ret (q_str))) (q_snil))
  (q_sone (q_setL (pv 4) (q_idx o (q_var 5) (q_int)) (q_idx o (q_var 5) (q_int)))))))
  (q_scons (q_if (q_tisN (q_idxO o (pv 4) (q_int)) (q_non)) (q_sone (q_ret (q_str))) (q_snil))
  (q_scons (q_for o (i_range1 T.bl (q_cons (q_len o T.bl (q_cons (q_var 0) (q_nil))) (q_nil))) (g_name (i := 6) o) (q_sone (q_if (q_tbool (q_tand (q_tnotN (q_idxO o (pv 4) (q_var 6)) (q_non)) (q_tand1 (q_tnot (q_tst (q_call o G__law_keeps (by decide) (q_cons (q_var 0) (q_cons (q_var 4) (q_cons (q_var 6) (q_cons (q_var 3) (q_nil))))))))))) (q_sone (q_ret (q_idx o (q_idx o (q_var 0) (q_var 6)) (q_int)))) (q_snil))))
  (q_sone (q_ret (q_ife (q_tst (q_call o G__law_less (by decide) (q_cons (q_var 3) (q_cons (q_var 2) (q_cons (q_idxO o (pv 4) (q_int)) (q_nil)))))) (q_str) (q_str)))))))))
theorem ok__law_judged (T : Txt Γ mg) : FN P w Γ.toGm0 mg base "_law_judged" ["arena", "paper", "number", "low"] 9 sem__law_judged := by
  have G_judge_low := ok_judge_low (P := P) (w := w) (base := base) T
  have G_judge_high := ok_judge_high (P := P) (w := w) (base := base) T
  obtain ⟨f, fd, F, hm⟩ := T.h__law_judged
  exact mk_FN F hm (F.binds (ps := ["arena", "paper", "number", "low"]) fun _ _ _ _ _ _ us hl => match us, hl with | [_, _, _, _], _ => rfl) (mk_fn (k := 8) (B := b__law_judged) F sc__law_judged rfl (by decide) rfl fun cdv A outer s H E o => q_scons (q_asg (i := 4) o (q_str))
  (q_scons (q_try o (fun _ _ _ o1 => q_sone (q_if (q_tst (q_var 3)) (q_sone (q_asg (i := 4) o1 (q_call o1 G_judge_low (by decide) (q_cons (q_var 0) (q_cons (q_var 1) (q_cons (q_var 2) (q_nil))))))) (q_sone (q_asg (i := 4) o1 (q_call o1 G_judge_high (by decide) (q_cons (q_var 0) (q_cons (q_var 1) (q_cons (q_var 2) (q_nil))))))))) (fun _ _ _ _ _ hz hf => x_lst sc__law_judged.nd (x_cons (x_str) (x_cons (x_fld (T.xf_BadNumber_what) hz hf (pv 5)) (x_nil)))) ⟨rfl, by decide, Or.inl T.c_BadNumber⟩)
  (q_sone (q_ret (q_var 4)))))
theorem ok__law_moved (T : Txt Γ mg) : FN P w Γ.toGm0 mg base "_law_moved" ["one", "low", "amount"] 3 sem__law_moved := by
  have G__law_plus := ok__law_plus (P := P) (w := w) (base := base) T
  obtain ⟨f, fd, F, hm⟩ := T.h__law_moved
  exact mk_FN F hm (F.binds (ps := ["one", "low", "amount"]) fun _ _ _ _ _ _ us hl => match us, hl with | [_, _, _], _ => rfl) (mk_fn (k := 2) (B := b__law_moved) F sc__law_moved rfl (by decide) rfl fun cdv A outer s H E o => q_sone (q_ret (q_call o G__law_plus (by decide) (q_cons (q_var 0) (q_cons (q_tup (q_cons (q_ife (q_tst (q_var 1)) (q_idx o (q_var 2) (q_int)) (q_sub (q_int) (q_idx o (q_var 2) (q_int)))) (q_cons (q_idx o (q_var 2) (q_int)) (q_nil)))) (q_nil))))))
theorem ok__law_papers (T : Txt Γ mg) : FN P w Γ.toGm0 mg base "_law_papers" ["draws", "states", "values", "low"] 4 sem__law_papers := by
  have G__law_moved := ok__law_moved (P := P) (w := w) (base := base) T
  have G__law_pick := ok__law_pick (P := P) (w := w) (base := base) T
  obtain ⟨f, fd, F, hm⟩ := T.h__law_papers
  exact mk_FN F hm (F.binds (ps := ["draws", "states", "values", "low"]) fun _ _ _ _ _ _ us hl => match us, hl with | [_, _, _, _], _ => rfl) (mk_fn (k := 3) (B := b__law_papers) F sc__law_papers rfl (by decide) rfl fun cdv A outer s H E o => q_scons (q_asg (i := 4) o (q_len o T.bl (q_cons (q_var 1) (q_nil))))
  (q_scons (q_asgLc (i := 5) o (i_range1 T.bl (q_cons (q_var 4) (q_nil))) _ (own := [("at", 10)]) (fun _ _ _ _ _ o1 => ⟨g_name (i := 10) o1, t_nil, q_tup (q_cons (q_var 10) (q_cons (q_idx o1 (q_var 2) (q_var 10)) (q_nil)))⟩) (ok := (by decide +kernel : blkC ["draws", "states", "values", "low", "many", "whole_v", "turned", "shift", "papers", "amount", "at", "met", "spots", "spot", "pair"] (defScope s__law_papers) _ [("at", 10)] = true)))
  (q_scons (q_asgLc (i := 6) o (i_range1 T.bl (q_cons (q_var 4) (q_nil))) _ (own := [("at", 10)]) (fun _ _ _ _ _ o2 => ⟨g_name (i := 10) o2, t_nil, q_ofF (q_lst (q_cons (q_var 10) (q_cons (q_ofF (q_lst (q_cons (q_mul (q_idx o2 (q_idx o2 (q_var 2) (q_var 10)) (q_int)) (q_int)) (q_cons (q_mul (q_idx o2 (q_idx o2 (q_var 2) (q_var 10)) (q_int)) (q_int)) (q_nil))))) (q_nil))))⟩) (ok := (by decide +kernel : blkC ["draws", "states", "values", "low", "many", "whole_v", "turned", "shift", "papers", "amount", "at", "met", "spots", "spot", "pair"] (defScope s__law_papers) _ [("at", 10)] = true)))
  (q_scons (q_rev o (pv 6))
  (q_scons (q_asgLc (i := 7) o (i_range1 T.bl (q_cons (q_var 4) (q_nil))) _ (own := [("at", 10)]) (fun _ _ _ _ _ o3 => ⟨g_name (i := 10) o3, t_nil, q_tup (q_cons (q_var 10) (q_cons (q_call o3 G__law_moved (by decide) (q_cons (q_idx o3 (q_var 2) (q_var 10)) (q_cons (q_not (q_var 3)) (q_cons (q_tup (q_cons (q_int) (q_cons (q_int) (q_nil)))) (q_nil))))) (q_nil)))⟩) (ok := (by decide +kernel : blkC ["draws", "states", "values", "low", "many", "whole_v", "turned", "shift", "papers", "amount", "at", "met", "spots", "spot", "pair"] (defScope s__law_papers) _ [("at", 10)] = true)))
  (q_scons (q_asgF (i := 8) o (q_lst (q_cons (q_var 5) (q_cons (q_var 6) (q_cons (q_var 7) (q_cons (q_ofF (q_lst (q_nil))) (q_cons (q_non) (q_cons (q_int) (q_cons (q_add o (q_var 5) (q_ofF (q_lst (q_cons (q_idx o (q_var 5) (q_sub (q_var 4) (q_int))) (q_nil))))) (q_cons (q_ofF (q_slice o (q_var 5) (q_at (q_int)) (q_no))) (q_cons (q_add o (q_var 5) (q_ofF (q_lst (q_cons (q_tup (q_cons (q_var 4) (q_cons (q_tup (q_cons (q_int) (q_cons (q_int) (q_nil)))) (q_nil)))) (q_nil))))) (q_nil))))))))))))
  (q_scons (q_asgF (i := 8) o (q_addL o (q_var 8) (q_ofF (q_lst (q_cons (q_add o (q_ofF (q_slice o (q_var 5) (q_at (q_int)) (q_no))) (q_ofF (q_lst (q_cons (q_tup (q_cons (q_int) (q_cons (q_tup (q_cons (q_int) (q_cons (q_int) (q_nil)))) (q_nil)))) (q_nil))))) (q_cons (q_add o (q_ofF (q_slice o (q_var 5) (q_at (q_int)) (q_no))) (q_ofF (q_lst (q_cons (q_tup (q_cons (q_int) (q_cons (q_int) (q_nil)))) (q_nil))))) (q_cons (q_add o (q_ofF (q_slice o (q_var 5) (q_at (q_int)) (q_no))) (q_ofF (q_lst (q_cons (q_tup (q_cons (q_int) (q_cons (q_tup (q_cons (q_int) (q_cons (q_bl) (q_nil)))) (q_nil)))) (q_nil))))) (q_cons (q_add o (q_ofF (q_slice o (q_var 5) (q_at (q_int)) (q_no))) (q_ofF (q_lst (q_cons (q_tup (q_cons (q_int) (q_nil))) (q_nil))))) (q_nil)))))))))
  (q_scons (q_asgF (i := 8) o (q_addL o (q_var 8) (q_ofF (q_lst (q_cons (q_add o (q_ofF (q_slice o (q_var 5) (q_at (q_int)) (q_no))) (q_ofF (q_lst (q_cons (q_tup (q_cons (q_bl) (q_cons (q_idx o (q_var 2) (q_int)) (q_nil)))) (q_nil))))) (q_cons (q_add o (q_var 5) (q_ofF (q_lst (q_cons (q_tup (q_cons (q_neg (q_int)) (q_cons (q_tup (q_cons (q_int) (q_cons (q_int) (q_nil)))) (q_nil)))) (q_nil))))) (q_cons (q_add o (q_ofF (q_slice o (q_var 5) (q_at (q_int)) (q_no))) (q_ofF (q_lst (q_cons (q_tup (q_cons (q_str) (q_cons (q_idx o (q_var 2) (q_int)) (q_nil)))) (q_nil))))) (q_cons (q_add o (q_var 5) (q_ofF (q_lst (q_cons (q_non) (q_nil))))) (q_nil)))))))))
  (q_scons (q_asg (i := 9) o (q_call o G__law_pick (by decide) (q_lend (pv 0) (q_cons (q_ofF (q_lst (q_cons (q_tup (q_cons (q_int) (q_cons (q_int) (q_nil)))) (q_cons (q_tup (q_cons (q_int) (q_cons (q_int) (q_nil)))) (q_cons (q_tup (q_cons (q_pow (q_int) (q_int)) (q_cons (q_int) (q_nil)))) (q_nil)))))) (q_nil)))))
  (q_scons (q_for o (i_range1 T.bl (q_cons (q_var 4) (q_nil))) (g_name (i := 10) o) (q_scons (q_app o (pv 8) (q_add o (q_ofF (q_slice o (q_var 5) (q_no) (q_at (q_var 10)))) (q_ofF (q_slice o (q_var 5) (q_at (q_add o (q_var 10) (q_int))) (q_no)))))
  (q_scons (q_app o (pv 8) (q_add o (q_add o (q_ofF (q_slice o (q_var 5) (q_no) (q_at (q_var 10)))) (q_ofF (q_lst (q_cons (q_tup (q_cons (q_var 10) (q_cons (q_call o G__law_moved (by decide) (q_cons (q_idx o (q_var 2) (q_var 10)) (q_cons (q_var 3) (q_cons (q_var 9) (q_nil))))) (q_nil)))) (q_nil))))) (q_ofF (q_slice o (q_var 5) (q_at (q_add o (q_var 10) (q_int))) (q_no)))))
  (q_sone (q_app o (pv 8) (q_add o (q_add o (q_ofF (q_slice o (q_var 5) (q_no) (q_at (q_var 10)))) (q_ofF (q_lst (q_cons (q_tup (q_cons (q_var 10) (q_cons (q_call o G__law_moved (by decide) (q_cons (q_idx o (q_var 2) (q_var 10)) (q_cons (q_not (q_var 3)) (q_cons (q_var 9) (q_nil))))) (q_nil)))) (q_nil))))) (q_ofF (q_slice o (q_var 5) (q_at (q_add o (q_var 10) (q_int))) (q_no)))))))))
  (q_scons (q_asg (i := 11) o (q_ofF (q_lst (q_cons (q_int) (q_nil)))))
  (q_scons (q_for o (i_range1 T.bl (q_cons (q_var 4) (q_nil))) (g_name (i := 10) o) (q_sone (q_if (q_tbool (q_tand (q_tisin o (q_var 10) (q_var 11)) (q_tand1 (q_tisin o (q_idx o (q_idx o (q_var 1) (q_var 10)) (q_int)) (q_tup (q_cons (q_str) (q_cons (q_str) (q_nil)))))))) (q_scons (q_asg (i := 12) o (q_ofF (q_lstOf o T.bl (q_cons (q_idx o (q_idx o (q_var 1) (q_var 10)) (q_int)) (q_nil)))))
  (q_scons (q_if (q_teq o (q_eq o (q_idx o (q_idx o (q_var 1) (q_var 10)) (q_int)) (q_str)) (q_var 3)) (q_sone (q_asg (i := 12) o (q_ofF (q_slice o (q_ofF (q_lc o (i_seq o (q_var 12)) _ (own := [("spot", 13)]) (fun _ _ _ _ _ o4 => ⟨g_name (i := 13) o4, t_one (q_teq o4 (q_idx o4 (q_var 2) (q_var 13)) (q_idx o4 (q_var 2) (q_var 10))), q_var 13⟩) (ok := (by decide +kernel : blkC ["draws", "states", "values", "low", "many", "whole_v", "turned", "shift", "papers", "amount", "at", "met", "spots", "spot", "pair"] (defScope s__law_papers) _ [("spot", 13)] = true)))) (q_no) (q_at (q_int)))))) (q_snil))
  (q_sone (q_asg (i := 11) o (q_add o (q_var 11) (q_var 12)))))) (q_sone (q_if (q_tbool (q_tand (q_tisin o (q_var 10) (q_var 11)) (q_tand1 (q_teq o (q_idx o (q_idx o (q_var 1) (q_var 10)) (q_int)) (q_str))))) (q_sone (q_asg (i := 11) o (q_add o (q_var 11) (q_ofF (q_lc o (i_seq o (q_idx o (q_idx o (q_var 1) (q_var 10)) (q_int))) _ (own := [("pair", 14)]) (fun _ _ _ _ _ o5 => ⟨g_name (i := 14) o5, t_nil, q_idx o5 (q_var 14) (q_int)⟩) (ok := (by decide +kernel : blkC ["draws", "states", "values", "low", "many", "whole_v", "turned", "shift", "papers", "amount", "at", "met", "spots", "spot", "pair"] (defScope s__law_papers) _ [("pair", 14)] = true))))))) (q_snil))))))
  (q_scons (q_app o (pv 8) (q_ofF (q_lc o (i_range1 T.bl (q_cons (q_var 4) (q_nil))) _ (own := [("at", 10)]) (fun _ _ _ _ _ o6 => ⟨g_name (i := 10) o6, t_one (q_tisin o6 (q_var 10) (q_var 11)), q_tup (q_cons (q_var 10) (q_cons (q_idx o6 (q_var 2) (q_var 10)) (q_nil)))⟩) (ok := (by decide +kernel : blkC ["draws", "states", "values", "low", "many", "whole_v", "turned", "shift", "papers", "amount", "at", "met", "spots", "spot", "pair"] (defScope s__law_papers) _ [("at", 10)] = true)))))
  (q_sone (q_ret (q_var 8))))))))))))))))
theorem ok__law_side_right (T : Txt Γ mg) : FN P w Γ.toGm0 mg base "_law_side_right" ["draws", "arena", "states", "values", "low"] 10 sem__law_side_right := by
  have G__law_moved := ok__law_moved (P := P) (w := w) (base := base) T
  have G__law_papers := ok__law_papers (P := P) (w := w) (base := base) T
  have G__law_word := ok__law_word (P := P) (w := w) (base := base) T
  have G__law_judged := ok__law_judged (P := P) (w := w) (base := base) T
  obtain ⟨f, fd, F, hm⟩ := T.h__law_side_right
  exact mk_FN F hm (F.binds (ps := ["draws", "arena", "states", "values", "low"]) fun _ _ _ _ _ _ us hl => match us, hl with | [_, _, _, _, _], _ => rfl) (mk_fn (k := 9) (B := b__law_side_right) F sc__law_side_right rfl (by decide) rfl fun cdv A outer s H E o => q_scons (q_asg (i := 5) o (q_tup (q_cons (q_mul (q_idx o (q_idx o (q_var 3) (q_int)) (q_int)) (q_int)) (q_cons (q_mul (q_idx o (q_idx o (q_var 3) (q_int)) (q_int)) (q_int)) (q_nil)))))
  (q_scons (q_asg (i := 6) o (q_call o G__law_moved (by decide) (q_cons (q_idx o (q_var 3) (q_int)) (q_cons (q_var 4) (q_cons (q_tup (q_cons (q_int) (q_cons (q_int) (q_nil)))) (q_nil))))))
  (q_scons (q_for o (i_seq o (q_call o G__law_papers (by decide) (q_lend (pv 0) (q_cons (q_var 2) (q_cons (q_var 3) (q_cons (q_var 4) (q_nil))))))) (g_name (i := 7) o) (q_sone (q_for o (i_seq o (q_ofF (q_lst (q_cons (q_var 5) (q_cons (q_ofF (q_lstOf o T.bl (q_cons (q_var 6) (q_nil)))) (q_nil)))))) (g_name (i := 8) o) (q_scons (q_asg (i := 10) o (q_call o G__law_word (by decide) (q_cons (q_var 2) (q_cons (q_var 7) (q_cons (q_var 8) (q_cons (q_var 4) (q_nil)))))))
  (q_scons (q_asg (i := 11) o (q_call o G__law_judged (by decide) (q_cons (q_var 1) (q_cons (q_var 7) (q_cons (q_var 8) (q_cons (q_var 4) (q_nil)))))))
  (q_sone (q_if (q_tbool (q_tor (q_tnot (q_tst (q_isi o T.bl (q_var 11) (q_ty T.bl.str (by decide +kernel))))) (q_tor1 (q_tne o (q_var 11) (q_var 10))))) (q_sone (q_ret (q_bl))) (q_snil))))))))
  (q_scons (q_for o (i_seq o (q_ofF (q_lst (q_cons (q_non) (q_cons (q_int) (q_cons (q_tup (q_cons (q_int) (q_nil))) (q_cons (q_tup (q_cons (q_int) (q_cons (q_int) (q_nil)))) (q_cons (q_tup (q_cons (q_bl) (q_cons (q_int) (q_nil)))) (q_cons (q_tup (q_cons (q_int) (q_cons (q_str) (q_nil)))) (q_cons (q_tup (q_cons (q_int) (q_cons (q_int) (q_cons (q_int) (q_nil))))) (q_nil))))))))))) (g_name (i := 8) o) (q_sone (q_if (q_tne o (q_call o G__law_judged (by decide) (q_cons (q_var 1) (q_cons (q_non) (q_cons (q_var 8) (q_cons (q_var 4) (q_nil)))))) (q_ofF (q_lst (q_cons (q_str) (q_cons (q_str) (q_nil)))))) (q_sone (q_ret (q_bl))) (q_snil))))
  (q_scons (q_asgLc (i := 9) o (i_range1 T.bl (q_cons (q_len o T.bl (q_cons (q_var 2) (q_nil))) (q_nil))) _ (own := [("at", 12)]) (fun _ _ _ _ _ o1 => ⟨g_name (i := 12) o1, t_nil, q_tup (q_cons (q_var 12) (q_cons (q_idx o1 (q_var 3) (q_var 12)) (q_nil)))⟩) (ok := (by decide +kernel : blkC ["draws", "arena", "states", "values", "low", "own", "beyond", "paper", "number", "whole_v", "due", "told", "at"] (defScope s__law_side_right) _ [("at", 12)] = true)))
  (q_sone (q_ret (q_and (q_eq o (q_call o G__law_judged (by decide) (q_cons (q_var 1) (q_cons (q_var 9) (q_cons (q_var 5) (q_cons (q_var 4) (q_nil)))))) (q_str)) (q_and1 (q_eq o (q_call o G__law_judged (by decide) (q_cons (q_var 1) (q_cons (q_var 9) (q_cons (q_var 6) (q_cons (q_var 4) (q_nil)))))) (q_str)))))))))))
theorem ok__law_state_word (T : Txt Γ mg) : FN P w Γ.toGm0 mg base "_law_state_word" ["state", "at", "many"] 3 sem__law_state_word := by
  have G__law_is_ratio := ok__law_is_ratio (P := P) (w := w) (base := base) T
  have G__law_whole := ok__law_whole (P := P) (w := w) (base := base) T
  obtain ⟨f, fd, F, hm⟩ := T.h__law_state_word
  exact mk_FN F hm (F.binds (ps := ["state", "at", "many"]) fun _ _ _ _ _ _ us hl => match us, hl with | [_, _, _], _ => rfl) (mk_fn (k := 2) (B := b__law_state_word) F sc__law_state_word rfl (by decide) rfl fun cdv A outer s H E o => q_scons (q_if (q_tbool (q_tor (q_tnot (q_tst (q_isi2 o T.bl (q_var 0) (q_ty T.bl.list (by decide +kernel)) (q_ty T.bl.tuple (by decide +kernel))))) (q_tor (q_tne o (q_len o T.bl (q_cons (q_var 0) (q_nil))) (q_int)) (q_tor1 (q_tnotin o (q_idx o (q_var 0) (q_int)) (q_ofF (q_lst (q_cons (q_str) (q_cons (q_str) (q_cons (q_str) (q_cons (q_str) (q_nil)))))))))))) (q_sone (q_ret (q_str))) (q_snil))
  (q_scons (q_if (q_teq o (q_idx o (q_var 0) (q_int)) (q_str)) (q_sone (q_ret (q_ife (q_tst (q_call o G__law_is_ratio (by decide) (q_cons (q_idx o (q_var 0) (q_int)) (q_nil)))) (q_non) (q_str)))) (q_snil))
  (q_scons (q_if (q_tnot (q_tst (q_isi2 o T.bl (q_idx o (q_var 0) (q_int)) (q_ty T.bl.list (by decide +kernel)) (q_ty T.bl.tuple (by decide +kernel))))) (q_sone (q_ret (q_str))) (q_snil))
  (q_scons (q_if (q_tbool (q_tand (q_teq o (q_idx o (q_var 0) (q_int)) (q_str)) (q_tand1 (q_tgt (q_len o T.bl (q_cons (q_ofF (q_lc o (i_seq o (q_idx o (q_var 0) (q_int))) _ (own := [("p", 6)]) (fun _ _ _ _ _ o1 => ⟨g_name (i := 6) o1, t_one (q_tbool (q_tor (q_tnot (q_tst (q_isi2 o1 T.bl (q_var 6) (q_ty T.bl.list (by decide +kernel)) (q_ty T.bl.tuple (by decide +kernel))))) (q_tor1 (q_tne o1 (q_len o1 T.bl (q_cons (q_var 6) (q_nil))) (q_int))))), q_var 6⟩) (ok := (by decide +kernel : blkC ["state", "at", "many", "spots", "spot", "pair", "p"] (defScope s__law_state_word) _ [("p", 6)] = true)))) (q_nil))) (q_int))))) (q_sone (q_ret (q_str))) (q_snil))
  (q_scons (q_asg (i := 3) o (q_ife (q_teq o (q_idx o (q_var 0) (q_int)) (q_str)) (q_ofF (q_lc o (i_seq o (q_idx o (q_var 0) (q_int))) _ (own := [("pair", 5)]) (fun _ _ _ _ _ o2 => ⟨g_name (i := 5) o2, t_nil, q_idx o2 (q_var 5) (q_int)⟩) (ok := (by decide +kernel : blkC ["state", "at", "many", "spots", "spot", "pair", "p"] (defScope s__law_state_word) _ [("pair", 5)] = true)))) (q_ofF (q_lstOf o T.bl (q_cons (q_idx o (q_var 0) (q_int)) (q_nil))))))
  (q_scons (q_if (q_teq o (q_len o T.bl (q_cons (q_var 3) (q_nil))) (q_int)) (q_sone (q_ret (q_str))) (q_snil))
  (q_scons (q_for o (i_seq o (q_var 3)) (g_name (i := 4) o) (q_sone (q_if (q_tbool (q_tor (q_tnot (q_tst (q_call o G__law_whole (by decide) (q_cons (q_var 4) (q_nil))))) (q_tor (q_tle (q_var 4) (q_var 1)) (q_tor1 (q_tge (q_var 4) (q_var 2)))))) (q_sone (q_ret (q_str))) (q_snil))))
  (q_scons (q_if (q_tbool (q_tand (q_teq o (q_idx o (q_var 0) (q_int)) (q_str)) (q_tand1 (q_tgt (q_len o T.bl (q_cons (q_ofF (q_lc o (i_seq o (q_idx o (q_var 0) (q_int))) _ (own := [("p", 6)]) (fun _ _ _ _ _ o3 => ⟨g_name (i := 6) o3, t_one (q_tbool (q_tor (q_tnot (q_tst (q_call o3 G__law_whole (by decide) (q_cons (q_idx o3 (q_var 6) (q_int)) (q_nil))))) (q_tor1 (q_tlt (q_idx o3 (q_var 6) (q_int)) (q_int))))), q_var 6⟩) (ok := (by decide +kernel : blkC ["state", "at", "many", "spots", "spot", "pair", "p"] (defScope s__law_state_word) _ [("p", 6)] = true)))) (q_nil))) (q_int))))) (q_sone (q_ret (q_str))) (q_snil))
  (q_sone (q_ret q_non))))))))))
theorem ok__law_refused (T : Txt Γ mg) : FN P w Γ.toGm0 mg base "_law_refused" ["states"] 7 sem__law_refused := by
  have G_Arena_init := ok_Arena_init (P := P) (w := w) (base := base) T
  obtain ⟨f, fd, F, hm⟩ := T.h__law_refused
  exact mk_FN F hm (F.binds (ps := ["states"]) fun _ _ _ _ _ _ us hl => match us, hl with | [_], _ => rfl) (mk_fn (k := 6) (B := b__law_refused) F sc__law_refused rfl (by decide) rfl fun cdv A outer s H E o => q_scons (q_asg (i := 1) o (q_ofF (q_lst (q_cons (q_str) (q_nil)))))
  (q_scons (q_try o (fun _ _ _ o1 => q_sone (q_expr (q_ofF (q_make o1 G_Arena_init (by decide) (q_cons (q_var 0) (q_nil)))))) (fun _ _ _ _ _ hz hf => x_lst sc__law_refused.nd (x_cons (x_fld (T.xf_BadArena_state) hz hf (pv 2)) (x_cons (x_fld (T.xf_BadArena_what) hz hf (pv 2)) (x_nil)))) ⟨rfl, by decide, Or.inl T.c_BadArena⟩)
  (q_sone (q_ret (q_var 1)))))
theorem ok__law_wrong_states_right (T : Txt Γ mg) : FN P w Γ.toGm0 mg base "_law_wrong_states_right" ["draws", "states"] 8 sem__law_wrong_states_right := by
  have G__law_take := ok__law_take (P := P) (w := w) (base := base) T
  have G__law_state_word := ok__law_state_word (P := P) (w := w) (base := base) T
  have G__law_refused := ok__law_refused (P := P) (w := w) (base := base) T
  obtain ⟨f, fd, F, hm⟩ := T.h__law_wrong_states_right
  exact mk_FN F hm (F.binds (ps := ["draws", "states"]) fun _ _ _ _ _ _ us hl => match us, hl with | [_, _], _ => rfl) (mk_fn (k := 7) (B := b__law_wrong_states_right) F sc__law_wrong_states_right rfl (by decide) rfl fun cdv A outer s H E o => q_scons (q_asg (i := 2) o (q_len o T.bl (q_cons (q_var 1) (q_nil))))
  (q_scons (q_asg (i := 3) o (q_call o G__law_take (by decide) (q_lend (pv 0) (q_cons (q_var 2) (q_nil)))))
  (q_scons (q_asg (i := 4) o (q_sub (q_var 2) (q_int)))
  (q_scons (q_asg (i := 5) o (q_ofF (q_lst (q_cons (q_non) (q_cons (q_tup (q_cons (q_str) (q_nil))) (q_cons (q_tup (q_cons (q_str) (q_cons (q_tup (q_cons (q_int) (q_cons (q_int) (q_nil)))) (q_nil)))) (q_cons (q_tup (q_cons (q_int) (q_cons (q_ofF (q_lst (q_cons (q_var 4) (q_nil)))) (q_nil)))) (q_cons (q_tup (q_cons (q_str) (q_cons (q_int) (q_nil)))) (q_cons (q_tup (q_cons (q_str) (q_cons (q_ofF (q_lst (q_cons (q_var 4) (q_nil)))) (q_nil)))) (q_cons (q_tup (q_cons (q_str) (q_cons (q_ofF (q_lst (q_cons (q_tup (q_cons (q_int) (q_cons (q_var 4) (q_cons (q_int) (q_nil))))) (q_nil)))) (q_nil)))) (q_cons (q_tup (q_cons (q_str) (q_cons (q_non) (q_nil)))) (q_nil))))))))))))
  (q_scons (q_asg (i := 5) o (q_add o (q_var 5) (q_ofF (q_lst (q_cons (q_tup (q_cons (q_str) (q_cons (q_tup (q_cons (q_int) (q_cons (q_int) (q_nil)))) (q_nil)))) (q_cons (q_tup (q_cons (q_str) (q_cons (q_int) (q_nil)))) (q_cons (q_tup (q_cons (q_str) (q_cons (q_tup (q_cons (q_int) (q_cons (q_bl) (q_nil)))) (q_nil)))) (q_cons (q_ofF (q_lst (q_cons (q_str) (q_cons (q_ofF (q_lst (q_cons (q_int) (q_cons (q_neg (q_int)) (q_nil))))) (q_nil))))) (q_cons (q_tup (q_cons (q_str) (q_cons (q_ofF (q_lst (q_nil))) (q_nil)))) (q_cons (q_tup (q_cons (q_str) (q_cons (q_ofF (q_lst (q_nil))) (q_nil)))) (q_cons (q_ofF (q_lst (q_cons (q_str) (q_cons (q_tup (q_nil)) (q_nil))))) (q_nil))))))))))))
  (q_scons (q_asg (i := 5) o (q_add o (q_var 5) (q_ofF (q_lst (q_cons (q_tup (q_cons (q_str) (q_cons (q_ofF (q_lst (q_cons (q_var 3) (q_nil)))) (q_nil)))) (q_cons (q_tup (q_cons (q_str) (q_cons (q_ofF (q_lst (q_cons (q_var 2) (q_nil)))) (q_nil)))) (q_cons (q_tup (q_cons (q_str) (q_cons (q_ofF (q_lst (q_cons (q_var 4) (q_cons (q_bl) (q_nil))))) (q_nil)))) (q_cons (q_tup (q_cons (q_str) (q_cons (q_ofF (q_lst (q_cons (q_non) (q_nil)))) (q_nil)))) (q_cons (q_tup (q_cons (q_str) (q_cons (q_ofF (q_lst (q_cons (q_tup (q_cons (q_int) (q_cons (q_var 4) (q_nil)))) (q_cons (q_tup (q_cons (q_int) (q_cons (q_var 3) (q_nil)))) (q_nil))))) (q_nil)))) (q_nil))))))))))
  (q_scons (q_asg (i := 5) o (q_add o (q_var 5) (q_ofF (q_lst (q_cons (q_tup (q_cons (q_str) (q_cons (q_ofF (q_lst (q_cons (q_tup (q_cons (q_int) (q_cons (q_var 4) (q_nil)))) (q_nil)))) (q_nil)))) (q_cons (q_tup (q_cons (q_str) (q_cons (q_ofF (q_lst (q_cons (q_tup (q_cons (q_bl) (q_cons (q_var 4) (q_nil)))) (q_cons (q_tup (q_cons (q_int) (q_cons (q_var 4) (q_nil)))) (q_nil))))) (q_nil)))) (q_cons (q_tup (q_cons (q_str) (q_cons (q_ofF (q_lst (q_cons (q_tup (q_cons (q_int) (q_cons (q_var 2) (q_nil)))) (q_nil)))) (q_nil)))) (q_cons (q_tup (q_cons (q_str) (q_cons (q_ofF (q_lst (q_cons (q_ofF (q_lst (q_cons (q_int) (q_cons (q_var 4) (q_nil))))) (q_cons (q_ofF (q_lst (q_cons (q_neg (q_int)) (q_cons (q_var 4) (q_nil))))) (q_nil))))) (q_nil)))) (q_nil)))))))))
  (q_scons (q_for o (i_seq o (q_var 5)) (g_name (i := 6) o) (q_scons (q_asg (i := 7) o (q_call o G__law_state_word (by decide) (q_cons (q_var 6) (q_cons (q_var 3) (q_cons (q_var 2) (q_nil))))))
  (q_scons (q_asg (i := 8) o (q_add o (q_add o (q_ofF (q_slice o (q_var 1) (q_no) (q_at (q_var 3)))) (q_ofF (q_lst (q_cons (q_var 6) (q_nil))))) (q_ofF (q_slice o (q_var 1) (q_at (q_add o (q_var 3) (q_int))) (q_no)))))
  (q_scons (q_if (q_tbool (q_tor (q_tisN (q_var 7) (q_non)) (q_tor1 (q_tne o (q_call o G__law_refused (by decide) (q_cons (q_var 8) (q_nil))) (q_ofF (q_lst (q_cons (q_var 3) (q_cons (q_var 7) (q_nil))))))))) (q_sone (q_ret (q_bl))) (q_snil))
  (q_sone (q_if (q_tbool (q_tand (q_tlt (q_var 3) (q_var 4)) (q_tand1 (q_tne o (q_call o G__law_refused (by decide) (q_cons (q_add o (q_ofF (q_slice o (q_var 8) (q_no) (q_at (q_var 4)))) (q_ofF (q_lst (q_cons (q_tup (q_cons (q_str) (q_cons (q_int) (q_nil)))) (q_nil))))) (q_nil))) (q_ofF (q_lst (q_cons (q_var 3) (q_cons (q_var 7) (q_nil))))))))) (q_sone (q_ret (q_bl))) (q_snil)))))))
  (q_scons (q_for o (i_seq o (q_ofF (q_lst (q_cons (q_non) (q_cons (q_ofF (q_lst (q_nil))) (q_cons (q_tup (q_nil)) (q_cons (q_int) (q_nil)))))))) (g_name (i := 6) o) (q_sone (q_if (q_tne o (q_call o G__law_refused (by decide) (q_cons (q_var 6) (q_nil))) (q_ofF (q_lst (q_cons (q_neg (q_int)) (q_cons (q_str) (q_nil)))))) (q_sone (q_ret (q_bl))) (q_snil))))
  (q_sone (q_ret (q_bl))))))))))))
theorem okx_law (T : Txt Γ mg) {f : Addr} {fd : FuncData} (F : Fun Γ.K "law" "law" s_law f fd) : FnOk P w Γ.K mg base (L2.CX P w) 11 f fd ["script"] (spF Γ.toGm0 sem_law) := by
  have G__law_draws := ok__law_draws (P := P) (w := w) (base := base) T
  have G__law_drawn_states := ok__law_drawn_states (P := P) (w := w) (base := base) T
  have G_Arena_init := ok_Arena_init (P := P) (w := w) (base := base) T
  have G__law_values := ok__law_values (P := P) (w := w) (base := base) T
  have G__law_least_terms := ok__law_least_terms (P := P) (w := w) (base := base) T
  have G_Arena_many := ok_Arena_many (P := P) (w := w) (base := base) T
  have G__law_side_right := ok__law_side_right (P := P) (w := w) (base := base) T
  have G__law_wrong_states_right := ok__law_wrong_states_right (P := P) (w := w) (base := base) T
  exact (mk_fn (k := 10) (B := b_law) F sc_law rfl (by decide) rfl fun cdv A outer s H E o => q_scons (q_asgF (i := 1) o (q_callF o G__law_draws (by decide) (q_cons (q_var 0) (q_nil))))
  (q_scons (q_asg (i := 2) o (q_call o G__law_drawn_states (by decide) (q_lend (pv 1) (q_nil))))
  (q_scons (q_asg (i := 3) o (q_ofF (q_make o G_Arena_init (by decide) (q_cons (q_ofF (q_lc o (i_seq o (q_var 2)) _ (own := [("state", 6)]) (fun _ _ _ _ _ o1 => ⟨g_name (i := 6) o1, t_nil, q_ofF (q_lstOf o1 T.bl (q_cons (q_var 6) (q_nil)))⟩) (ok := (by decide +kernel : blkC ["script", "draws", "states", "arena", "values", "kept", "state", "rest"] (defScope s_law) _ [("state", 6)] = true)))) (q_nil)))))
  (q_scons (q_asg (i := 4) o (q_call o G__law_values (by decide) (q_cons (q_var 2) (q_nil))))
  (q_scons (q_asgF (i := 5) o (q_lst (q_nil)))
  (q_scons (q_for o (i_seq o (q_var 2)) (g_name (i := 6) o) (q_scons (q_asg (i := 7) o (q_ife (q_tne o (q_idx o (q_var 6) (q_int)) (q_str)) (q_tupOf o T.bl (q_cons (q_idx o (q_var 6) (q_int)) (q_nil))) (q_call o G__law_least_terms (by decide) (q_cons (q_idx o (q_idx o (q_var 6) (q_int)) (q_int)) (q_cons (q_idx o (q_idx o (q_var 6) (q_int)) (q_int)) (q_nil))))))
  (q_sone (q_app o (pv 5) (q_tup (q_cons (q_idx o (q_var 6) (q_int)) (q_cons (q_var 7) (q_nil))))))))
  (q_scons (q_if (q_tbool (q_tor (q_tnot (q_tst (q_isi o T.bl (q_fld o (q_var 3)) (q_ty T.bl.tuple (by decide +kernel))))) (q_tor (q_tne o (q_fld o (q_var 3)) (q_tupOf o T.bl (q_cons (q_var 5) (q_nil)))) (q_tor1 (q_tne o (q_prop o G_Arena_many (by decide) (q_var 3)) (q_len o T.bl (q_cons (q_var 2) (q_nil)))))))) (q_sone (q_ret (q_bl))) (q_snil))
  (q_scons (q_if (q_tnot (q_tst (q_call o G__law_side_right (by decide) (q_lend (pv 1) (q_cons (q_var 3) (q_cons (q_var 2) (q_cons (q_var 4) (q_cons (q_bl) (q_nil))))))))) (q_sone (q_ret (q_bl))) (q_snil))
  (q_scons (q_if (q_tnot (q_tst (q_call o G__law_side_right (by decide) (q_lend (pv 1) (q_cons (q_var 3) (q_cons (q_var 2) (q_cons (q_var 4) (q_cons (q_bl) (q_nil))))))))) (q_sone (q_ret (q_bl))) (q_snil))
  (q_sone (q_ret (q_and (q_call o G__law_wrong_states_right (by decide) (q_lend (pv 1) (q_cons (q_var 2) (q_nil)))) (q_and1 (q_eq o (q_fld o (q_var 3)) (q_tupOf o T.bl (q_cons (q_var 5) (q_nil)))))))))))))))))
end
end K84

/-! E84 -/
namespace K84
open PySem PySem.Spec PyProof.Rows L2 T
def spLaw (K : PySem.W.Frag) : Sp := fun vs H Q _ => ∃ (a : Addr) (ns : List Int), vs = [.ref a] ∧ SqL K H a (ns.map V.int) ∧ ns.length ≤ 63 ∧ ∀ H', Q (.bl true) H'
theorem sp_of {Γ : Gm tau} (hT : ∀ ns : List Int, ns.length ≤ 63 → sem_law [.d (.scr (ns.map .int))] = .ok (.bl true) []) {vs : List V} {H : Hp} {Q : VK} {E : XK} (h : spLaw Γ.K vs H Q E) : spF Γ.toGm0 sem_law vs H Q E := by
  obtain ⟨a, ns, rfl, hS, hl, k⟩ := h
  have rr : ∀ l : List Int, Reps Γ.toGm0 H (l.map V.int) (l.map D.int) := fun l => by
    induction l with
    | nil => exact .nil
    | cons x l ih => exact .cons (.int x) ih
  refine ⟨H, [.d (.scr (ns.map .int))], [], fun a o e => .inl e, List.nodup_nil, .d (.scr hS (by rw [List.length_map, sizeLine_eq]; omega) (rr ns)) .nil, ?_⟩
  rw [hT ns hl]
  intro v G' H' f os rv
  cases rv
  exact k H'
theorem exm_self {K : PySem.W.Frag} {S : Addr} (h1 : PySem.W.subIn K (.ref S) (.type "BaseException") = some true) (h2 : PySem.W.isClsIn K S = true) (h3 : PySem.W.typeIn K (.ref S) = some (.type "type")) (h4 : PySem.W.subIn K (.ref S) (.ref S) = some true) :
    PySem.W.exmOne K (.ref S) (.ref S) = some true := by
  have e1 : (PySem.W.subIn K (.ref S) (.type "BaseException") == some true) = true := by rw [h1] <;> rfl
  have e2 : ((PySem.W.clsIn K S).isSome && PySem.W.typeIn K (.ref S) == some (.type "type")) = true := by
    have h2' : (PySem.W.clsIn K S).isSome = true := h2
    rw [h2', h3] <;> rfl
  show (if (PySem.W.subIn K (.ref S) (.type "BaseException") == some true) = true then (if ((PySem.W.clsIn K S).isSome && PySem.W.typeIn K (.ref S) == some (.type "type")) = true then PySem.W.subIn K (.ref S) (.ref S) else none) else none) = some true
  rw [if_pos e1, if_pos e2]; exact h4
set_option linter.unusedVariables false in
theorem all_mk {l : PySem.W.OpenLaw} {w : World} {K : PySem.W.Frag} {h : Heap} {mg : Str → Option Value} {fa C_Arena f_is_whole f_whole f_is_list f_is_ratio f_reduced f_ratio_in f_plus f_minus f_at_most f_mean_of f_has_state_form f_state_fault f_kept_state f_Arena_init p_Arena_many f_Arena_many f_turned_round f_paper_numbers f_stands_low f_first_fallen f_judge_low f_judge_high f__law_draws f__law_take f__law_pick f__law_whole f__law_drawn_ratio f__law_drawn_states f__law_least_terms f__law_plus f__law_at_most f__law_mean f__law_values f__law_is_ratio f__law_less f__law_keeps f__law_word f__law_judged f__law_moved f__law_papers f__law_side_right f__law_state_word f__law_refused f__law_wrong_states_right f_law C_BadNumber I_BadNumber B_BadNumber N_BadNumber C_BadArena I_BadArena B_BadArena N_BadArena t_STATE_KINDS : Addr} {oc_is_whole kV_is_whole dc_is_whole pm_is_whole cd_is_whole ct_is_whole oc_whole kV_whole dc_whole pm_whole cd_whole ct_whole oc_is_list kV_is_list dc_is_list pm_is_list cd_is_list ct_is_list oc_is_ratio kV_is_ratio dc_is_ratio pm_is_ratio cd_is_ratio ct_is_ratio oc_reduced kV_reduced dc_reduced pm_reduced cd_reduced ct_reduced oc_ratio_in kV_ratio_in dc_ratio_in pm_ratio_in cd_ratio_in ct_ratio_in oc_plus kV_plus dc_plus pm_plus cd_plus ct_plus oc_minus kV_minus dc_minus pm_minus cd_minus ct_minus oc_at_most kV_at_most dc_at_most pm_at_most cd_at_most ct_at_most oc_mean_of kV_mean_of dc_mean_of pm_mean_of cd_mean_of ct_mean_of oc_has_state_form kV_has_state_form dc_has_state_form pm_has_state_form cd_has_state_form ct_has_state_form oc_state_fault kV_state_fault dc_state_fault pm_state_fault cd_state_fault ct_state_fault oc_kept_state kV_kept_state dc_kept_state pm_kept_state cd_kept_state ct_kept_state oc_Arena_init kV_Arena_init dc_Arena_init pm_Arena_init cd_Arena_init ct_Arena_init oc_Arena_many kV_Arena_many dc_Arena_many pm_Arena_many cd_Arena_many ct_Arena_many oc_turned_round kV_turned_round dc_turned_round pm_turned_round cd_turned_round ct_turned_round oc_paper_numbers kV_paper_numbers dc_paper_numbers pm_paper_numbers cd_paper_numbers ct_paper_numbers oc_stands_low kV_stands_low dc_stands_low pm_stands_low cd_stands_low ct_stands_low oc_first_fallen kV_first_fallen dc_first_fallen pm_first_fallen cd_first_fallen ct_first_fallen oc_judge_low kV_judge_low dc_judge_low pm_judge_low cd_judge_low ct_judge_low oc_judge_high kV_judge_high dc_judge_high pm_judge_high cd_judge_high ct_judge_high oc__law_draws kV__law_draws dc__law_draws pm__law_draws cd__law_draws ct__law_draws oc__law_take kV__law_take dc__law_take pm__law_take cd__law_take ct__law_take oc__law_pick kV__law_pick dc__law_pick pm__law_pick cd__law_pick ct__law_pick oc__law_whole kV__law_whole dc__law_whole pm__law_whole cd__law_whole ct__law_whole oc__law_drawn_ratio kV__law_drawn_ratio dc__law_drawn_ratio pm__law_drawn_ratio cd__law_drawn_ratio ct__law_drawn_ratio oc__law_drawn_states kV__law_drawn_states dc__law_drawn_states pm__law_drawn_states cd__law_drawn_states ct__law_drawn_states oc__law_least_terms kV__law_least_terms dc__law_least_terms pm__law_least_terms cd__law_least_terms ct__law_least_terms oc__law_plus kV__law_plus dc__law_plus pm__law_plus cd__law_plus ct__law_plus oc__law_at_most kV__law_at_most dc__law_at_most pm__law_at_most cd__law_at_most ct__law_at_most oc__law_mean kV__law_mean dc__law_mean pm__law_mean cd__law_mean ct__law_mean oc__law_values kV__law_values dc__law_values pm__law_values cd__law_values ct__law_values oc__law_is_ratio kV__law_is_ratio dc__law_is_ratio pm__law_is_ratio cd__law_is_ratio ct__law_is_ratio oc__law_less kV__law_less dc__law_less pm__law_less cd__law_less ct__law_less oc__law_keeps kV__law_keeps dc__law_keeps pm__law_keeps cd__law_keeps ct__law_keeps oc__law_word kV__law_word dc__law_word pm__law_word cd__law_word ct__law_word oc__law_judged kV__law_judged dc__law_judged pm__law_judged cd__law_judged ct__law_judged oc__law_moved kV__law_moved dc__law_moved pm__law_moved cd__law_moved ct__law_moved oc__law_papers kV__law_papers dc__law_papers pm__law_papers cd__law_papers ct__law_papers oc__law_side_right kV__law_side_right dc__law_side_right pm__law_side_right cd__law_side_right ct__law_side_right oc__law_state_word kV__law_state_word dc__law_state_word pm__law_state_word cd__law_state_word ct__law_state_word oc__law_refused kV__law_refused dc__law_refused pm__law_refused cd__law_refused ct__law_refused oc__law_wrong_states_right kV__law_wrong_states_right dc__law_wrong_states_right pm__law_wrong_states_right cd__law_wrong_states_right ct__law_wrong_states_right oc_law kV_law dc_law pm_law cd_law ct_law oc_BadNumber dc_BadNumber pm_BadNumber cd_BadNumber ct_BadNumber oc_BadArena dc_BadArena pm_BadArena cd_BadArena ct_BadArena : Value} {od_is_whole an_is_whole od_whole an_whole od_is_list an_is_list od_is_ratio an_is_ratio od_reduced an_reduced od_ratio_in an_ratio_in od_plus an_plus od_minus an_minus od_at_most an_at_most od_mean_of an_mean_of od_has_state_form an_has_state_form od_state_fault an_state_fault od_kept_state an_kept_state od_Arena_init an_Arena_init od_Arena_many an_Arena_many od_turned_round an_turned_round od_paper_numbers an_paper_numbers od_stands_low an_stands_low od_first_fallen an_first_fallen od_judge_low an_judge_low od_judge_high an_judge_high od__law_draws an__law_draws od__law_take an__law_take od__law_pick an__law_pick od__law_whole an__law_whole od__law_drawn_ratio an__law_drawn_ratio od__law_drawn_states an__law_drawn_states od__law_least_terms an__law_least_terms od__law_plus an__law_plus od__law_at_most an__law_at_most od__law_mean an__law_mean od__law_values an__law_values od__law_is_ratio an__law_is_ratio od__law_less an__law_less od__law_keeps an__law_keeps od__law_word an__law_word od__law_judged an__law_judged od__law_moved an__law_moved od__law_papers an__law_papers od__law_side_right an__law_side_right od__law_state_word an__law_state_word od__law_refused an__law_refused od__law_wrong_states_right an__law_wrong_states_right od_law an_law od_BadNumber an_BadNumber dd_BadNumber od_BadArena an_BadArena dd_BadArena od_STATE_KINDS : Option Addr} {sl_is_whole sl_whole sl_is_list sl_is_ratio sl_reduced sl_ratio_in sl_plus sl_minus sl_at_most sl_mean_of sl_has_state_form sl_state_fault sl_kept_state sl_Arena_init sl_Arena_many sl_turned_round sl_paper_numbers sl_stands_low sl_first_fallen sl_judge_low sl_judge_high sl__law_draws sl__law_take sl__law_pick sl__law_whole sl__law_drawn_ratio sl__law_drawn_states sl__law_least_terms sl__law_plus sl__law_at_most sl__law_mean sl__law_values sl__law_is_ratio sl__law_less sl__law_keeps sl__law_word sl__law_judged sl__law_moved sl__law_papers sl__law_side_right sl__law_state_word sl__law_refused sl__law_wrong_states_right sl_law sl_BadNumber sl_BadArena sl_STATE_KINDS : Array (Option Value)} {re_Arena_many : List Value} {pa0_BadNumber pa1_BadNumber pb00_BadNumber pb01_BadNumber pb02_BadNumber pb03_BadNumber : Pos} {nm_BadNumber qn_BadNumber : Str} {bs_BadNumber : List Value} {sn_BadNumber : List Str} {sub_BadNumber : List Value} {ab_BadNumber : Bool} {col_BadNumber : Option Bool} {k0_BadNumber k1_BadNumber k2_BadNumber k3_BadNumber k5_BadNumber : Option Value} {pa0_BadArena pa1_BadArena pa2_BadArena pb00_BadArena pb01_BadArena pb02_BadArena pb03_BadArena pb10_BadArena pb11_BadArena pb12_BadArena pb13_BadArena : Pos} {nm_BadArena qn_BadArena : Str} {bs_BadArena : List Value} {sn_BadArena : List Str} {sub_BadArena : List Value} {ab_BadArena : Bool} {col_BadArena : Option Bool} {k0_BadArena k1_BadArena k2_BadArena k3_BadArena k5_BadArena : Option Value} {nn_STATE_KINDS : Nat} {ts0_STATE_KINDS ts1_STATE_KINDS ts2_STATE_KINDS ts3_STATE_KINDS : Tok} (X : K.In h) (G : h.Ns mainGlobals mg) (hfa : mg "law" = some (.ref fa))
    (z_len : PySem.W.nsIn K mainGlobals "len" = some none)
    (z_range : PySem.W.nsIn K mainGlobals "range" = some none)
    (z_isinstance : PySem.W.nsIn K mainGlobals "isinstance" = some none)
    (z_enumerate : PySem.W.nsIn K mainGlobals "enumerate" = some none)
    (z_tuple : PySem.W.nsIn K mainGlobals "tuple" = some none)
    (z_list : PySem.W.nsIn K mainGlobals "list" = some none)
    (z_int : PySem.W.nsIn K mainGlobals "int" = some none)
    (z_bool : PySem.W.nsIn K mainGlobals "bool" = some none)
    (z_str : PySem.W.nsIn K mainGlobals "str" = some none)
    (z_abs : PySem.W.nsIn K mainGlobals "abs" = some none)
    (z_min : PySem.W.nsIn K mainGlobals "min" = some none)
    (z_max : PySem.W.nsIn K mainGlobals "max" = some none)
    (z_any : PySem.W.nsIn K mainGlobals "any" = some none)
    (z_all : PySem.W.nsIn K mainGlobals "all" = some none)
    (z_sorted : PySem.W.nsIn K mainGlobals "sorted" = some none)
    (z_reversed : PySem.W.nsIn K mainGlobals "reversed" = some none)
    (z_sum : PySem.W.nsIn K mainGlobals "sum" = some none)
    (z_zip : PySem.W.nsIn K mainGlobals "zip" = some none)
    (z_set : PySem.W.nsIn K mainGlobals "set" = some none)
    (z_gcd : PySem.W.nsIn K mainGlobals "gcd" = some (some (.builtin "math.gcd")))
    (a_Arena : PySem.W.nsIn K mainGlobals "Arena" = some (some (.ref C_Arena)))
    (pg_Arena : PySem.W.plainGet K C_Arena Str.empty = true)
    (hd_Arena : PySem.W.hasDictIn K C_Arena = true)
    (po_Arena : PySem.W.plainOver K C_Arena = true)
    (sa_Arena : PySem.W.findIn K (.ref C_Arena) "__setattr__" = some (some (.builtin "object.__setattr__")))
    (mk_Arena : PySem.W.makesIn K C_Arena = true)
    (kc_Arena : PySem.W.keepIn K (.ref C_Arena) = true)
    (no_Arena_states : PySem.W.findIn K (.ref C_Arena) "states" = some none)
    (a_is_whole : PySem.W.nsIn K mainGlobals "is_whole" = some (some (.ref f_is_whole)))
    (l_is_whole : K.lookup f_is_whole = some ⟨oc_is_whole, od_is_whole, .func (PySem.W.fnOf "is_whole" "is_whole" (defArgs s_is_whole) (defBody s_is_whole) (defScope s_is_whole) .none kV_is_whole dc_is_whole pm_is_whole an_is_whole cd_is_whole ct_is_whole), sl_is_whole⟩)
    (c_is_whole : PySem.W.codeIn K cd_is_whole "is_whole" = true)
    (k_is_whole : PySem.W.keepIn K (.ref f_is_whole) = true)
    (a_whole : PySem.W.nsIn K mainGlobals "whole" = some (some (.ref f_whole)))
    (l_whole : K.lookup f_whole = some ⟨oc_whole, od_whole, .func (PySem.W.fnOf "whole" "whole" (defArgs s_whole) (defBody s_whole) (defScope s_whole) .none kV_whole dc_whole pm_whole an_whole cd_whole ct_whole), sl_whole⟩)
    (c_whole : PySem.W.codeIn K cd_whole "whole" = true)
    (k_whole : PySem.W.keepIn K (.ref f_whole) = true)
    (a_is_list : PySem.W.nsIn K mainGlobals "is_list" = some (some (.ref f_is_list)))
    (l_is_list : K.lookup f_is_list = some ⟨oc_is_list, od_is_list, .func (PySem.W.fnOf "is_list" "is_list" (defArgs s_is_list) (defBody s_is_list) (defScope s_is_list) .none kV_is_list dc_is_list pm_is_list an_is_list cd_is_list ct_is_list), sl_is_list⟩)
    (c_is_list : PySem.W.codeIn K cd_is_list "is_list" = true)
    (k_is_list : PySem.W.keepIn K (.ref f_is_list) = true)
    (a_is_ratio : PySem.W.nsIn K mainGlobals "is_ratio" = some (some (.ref f_is_ratio)))
    (l_is_ratio : K.lookup f_is_ratio = some ⟨oc_is_ratio, od_is_ratio, .func (PySem.W.fnOf "is_ratio" "is_ratio" (defArgs s_is_ratio) (defBody s_is_ratio) (defScope s_is_ratio) .none kV_is_ratio dc_is_ratio pm_is_ratio an_is_ratio cd_is_ratio ct_is_ratio), sl_is_ratio⟩)
    (c_is_ratio : PySem.W.codeIn K cd_is_ratio "is_ratio" = true)
    (k_is_ratio : PySem.W.keepIn K (.ref f_is_ratio) = true)
    (a_reduced : PySem.W.nsIn K mainGlobals "reduced" = some (some (.ref f_reduced)))
    (l_reduced : K.lookup f_reduced = some ⟨oc_reduced, od_reduced, .func (PySem.W.fnOf "reduced" "reduced" (defArgs s_reduced) (defBody s_reduced) (defScope s_reduced) .none kV_reduced dc_reduced pm_reduced an_reduced cd_reduced ct_reduced), sl_reduced⟩)
    (c_reduced : PySem.W.codeIn K cd_reduced "reduced" = true)
    (k_reduced : PySem.W.keepIn K (.ref f_reduced) = true)
    (a_ratio_in : PySem.W.nsIn K mainGlobals "ratio_in" = some (some (.ref f_ratio_in)))
    (l_ratio_in : K.lookup f_ratio_in = some ⟨oc_ratio_in, od_ratio_in, .func (PySem.W.fnOf "ratio_in" "ratio_in" (defArgs s_ratio_in) (defBody s_ratio_in) (defScope s_ratio_in) .none kV_ratio_in dc_ratio_in pm_ratio_in an_ratio_in cd_ratio_in ct_ratio_in), sl_ratio_in⟩)
    (c_ratio_in : PySem.W.codeIn K cd_ratio_in "ratio_in" = true)
    (k_ratio_in : PySem.W.keepIn K (.ref f_ratio_in) = true)
    (a_plus : PySem.W.nsIn K mainGlobals "plus" = some (some (.ref f_plus)))
    (l_plus : K.lookup f_plus = some ⟨oc_plus, od_plus, .func (PySem.W.fnOf "plus" "plus" (defArgs s_plus) (defBody s_plus) (defScope s_plus) .none kV_plus dc_plus pm_plus an_plus cd_plus ct_plus), sl_plus⟩)
    (c_plus : PySem.W.codeIn K cd_plus "plus" = true)
    (k_plus : PySem.W.keepIn K (.ref f_plus) = true)
    (a_minus : PySem.W.nsIn K mainGlobals "minus" = some (some (.ref f_minus)))
    (l_minus : K.lookup f_minus = some ⟨oc_minus, od_minus, .func (PySem.W.fnOf "minus" "minus" (defArgs s_minus) (defBody s_minus) (defScope s_minus) .none kV_minus dc_minus pm_minus an_minus cd_minus ct_minus), sl_minus⟩)
    (c_minus : PySem.W.codeIn K cd_minus "minus" = true)
    (k_minus : PySem.W.keepIn K (.ref f_minus) = true)
    (a_at_most : PySem.W.nsIn K mainGlobals "at_most" = some (some (.ref f_at_most)))
    (l_at_most : K.lookup f_at_most = some ⟨oc_at_most, od_at_most, .func (PySem.W.fnOf "at_most" "at_most" (defArgs s_at_most) (defBody s_at_most) (defScope s_at_most) .none kV_at_most dc_at_most pm_at_most an_at_most cd_at_most ct_at_most), sl_at_most⟩)
    (c_at_most : PySem.W.codeIn K cd_at_most "at_most" = true)
    (k_at_most : PySem.W.keepIn K (.ref f_at_most) = true)
    (a_mean_of : PySem.W.nsIn K mainGlobals "mean_of" = some (some (.ref f_mean_of)))
    (l_mean_of : K.lookup f_mean_of = some ⟨oc_mean_of, od_mean_of, .func (PySem.W.fnOf "mean_of" "mean_of" (defArgs s_mean_of) (defBody s_mean_of) (defScope s_mean_of) .none kV_mean_of dc_mean_of pm_mean_of an_mean_of cd_mean_of ct_mean_of), sl_mean_of⟩)
    (c_mean_of : PySem.W.codeIn K cd_mean_of "mean_of" = true)
    (k_mean_of : PySem.W.keepIn K (.ref f_mean_of) = true)
    (a_has_state_form : PySem.W.nsIn K mainGlobals "has_state_form" = some (some (.ref f_has_state_form)))
    (l_has_state_form : K.lookup f_has_state_form = some ⟨oc_has_state_form, od_has_state_form, .func (PySem.W.fnOf "has_state_form" "has_state_form" (defArgs s_has_state_form) (defBody s_has_state_form) (defScope s_has_state_form) .none kV_has_state_form dc_has_state_form pm_has_state_form an_has_state_form cd_has_state_form ct_has_state_form), sl_has_state_form⟩)
    (c_has_state_form : PySem.W.codeIn K cd_has_state_form "has_state_form" = true)
    (k_has_state_form : PySem.W.keepIn K (.ref f_has_state_form) = true)
    (a_state_fault : PySem.W.nsIn K mainGlobals "state_fault" = some (some (.ref f_state_fault)))
    (l_state_fault : K.lookup f_state_fault = some ⟨oc_state_fault, od_state_fault, .func (PySem.W.fnOf "state_fault" "state_fault" (defArgs s_state_fault) (defBody s_state_fault) (defScope s_state_fault) .none kV_state_fault dc_state_fault pm_state_fault an_state_fault cd_state_fault ct_state_fault), sl_state_fault⟩)
    (c_state_fault : PySem.W.codeIn K cd_state_fault "state_fault" = true)
    (k_state_fault : PySem.W.keepIn K (.ref f_state_fault) = true)
    (a_kept_state : PySem.W.nsIn K mainGlobals "kept_state" = some (some (.ref f_kept_state)))
    (l_kept_state : K.lookup f_kept_state = some ⟨oc_kept_state, od_kept_state, .func (PySem.W.fnOf "kept_state" "kept_state" (defArgs s_kept_state) (defBody s_kept_state) (defScope s_kept_state) .none kV_kept_state dc_kept_state pm_kept_state an_kept_state cd_kept_state ct_kept_state), sl_kept_state⟩)
    (c_kept_state : PySem.W.codeIn K cd_kept_state "kept_state" = true)
    (k_kept_state : PySem.W.keepIn K (.ref f_kept_state) = true)
    (a_Arena_init : PySem.W.findIn K (.ref C_Arena) "__init__" = some (some (.ref f_Arena_init)))
    (i_Arena_init : PySem.W.isFn K (.ref f_Arena_init) = true)
    (l_Arena_init : K.lookup f_Arena_init = some ⟨oc_Arena_init, od_Arena_init, .func (PySem.W.fnOf "__init__" "Arena.__init__" (defArgs s_Arena_init) (defBody s_Arena_init) (defScope s_Arena_init) .none kV_Arena_init dc_Arena_init pm_Arena_init an_Arena_init cd_Arena_init ct_Arena_init), sl_Arena_init⟩)
    (c_Arena_init : PySem.W.codeIn K cd_Arena_init "Arena.__init__" = true)
    (k_Arena_init : PySem.W.keepIn K (.ref f_Arena_init) = true)
    (a_Arena_many : PySem.W.findIn K (.ref C_Arena) "many" = some (some (.ref p_Arena_many)))
    (g_Arena_many : PySem.W.specialIn K (.ref p_Arena_many) "__get__" = some (some (.builtin "property.__get__")))
    (t_Arena_many : PySem.W.takesIn K (.ref p_Arena_many) = some true)
    (r_Arena_many : PySem.W.recIn K p_Arena_many "property" = some (.ref f_Arena_many :: re_Arena_many))
    (l_Arena_many : K.lookup f_Arena_many = some ⟨oc_Arena_many, od_Arena_many, .func (PySem.W.fnOf "many" "Arena.many" (defArgs s_Arena_many) (defBody s_Arena_many) (defScope s_Arena_many) .none kV_Arena_many dc_Arena_many pm_Arena_many an_Arena_many cd_Arena_many ct_Arena_many), sl_Arena_many⟩)
    (c_Arena_many : PySem.W.codeIn K cd_Arena_many "Arena.many" = true)
    (k_Arena_many : PySem.W.keepIn K (.ref f_Arena_many) = true)
    (a_turned_round : PySem.W.nsIn K mainGlobals "turned_round" = some (some (.ref f_turned_round)))
    (l_turned_round : K.lookup f_turned_round = some ⟨oc_turned_round, od_turned_round, .func (PySem.W.fnOf "turned_round" "turned_round" (defArgs s_turned_round) (defBody s_turned_round) (defScope s_turned_round) .none kV_turned_round dc_turned_round pm_turned_round an_turned_round cd_turned_round ct_turned_round), sl_turned_round⟩)
    (c_turned_round : PySem.W.codeIn K cd_turned_round "turned_round" = true)
    (k_turned_round : PySem.W.keepIn K (.ref f_turned_round) = true)
    (a_paper_numbers : PySem.W.nsIn K mainGlobals "paper_numbers" = some (some (.ref f_paper_numbers)))
    (l_paper_numbers : K.lookup f_paper_numbers = some ⟨oc_paper_numbers, od_paper_numbers, .func (PySem.W.fnOf "paper_numbers" "paper_numbers" (defArgs s_paper_numbers) (defBody s_paper_numbers) (defScope s_paper_numbers) .none kV_paper_numbers dc_paper_numbers pm_paper_numbers an_paper_numbers cd_paper_numbers ct_paper_numbers), sl_paper_numbers⟩)
    (c_paper_numbers : PySem.W.codeIn K cd_paper_numbers "paper_numbers" = true)
    (k_paper_numbers : PySem.W.keepIn K (.ref f_paper_numbers) = true)
    (a_stands_low : PySem.W.nsIn K mainGlobals "stands_low" = some (some (.ref f_stands_low)))
    (l_stands_low : K.lookup f_stands_low = some ⟨oc_stands_low, od_stands_low, .func (PySem.W.fnOf "stands_low" "stands_low" (defArgs s_stands_low) (defBody s_stands_low) (defScope s_stands_low) .none kV_stands_low dc_stands_low pm_stands_low an_stands_low cd_stands_low ct_stands_low), sl_stands_low⟩)
    (c_stands_low : PySem.W.codeIn K cd_stands_low "stands_low" = true)
    (k_stands_low : PySem.W.keepIn K (.ref f_stands_low) = true)
    (a_first_fallen : PySem.W.nsIn K mainGlobals "first_fallen" = some (some (.ref f_first_fallen)))
    (l_first_fallen : K.lookup f_first_fallen = some ⟨oc_first_fallen, od_first_fallen, .func (PySem.W.fnOf "first_fallen" "first_fallen" (defArgs s_first_fallen) (defBody s_first_fallen) (defScope s_first_fallen) .none kV_first_fallen dc_first_fallen pm_first_fallen an_first_fallen cd_first_fallen ct_first_fallen), sl_first_fallen⟩)
    (c_first_fallen : PySem.W.codeIn K cd_first_fallen "first_fallen" = true)
    (k_first_fallen : PySem.W.keepIn K (.ref f_first_fallen) = true)
    (a_judge_low : PySem.W.nsIn K mainGlobals "judge_low" = some (some (.ref f_judge_low)))
    (l_judge_low : K.lookup f_judge_low = some ⟨oc_judge_low, od_judge_low, .func (PySem.W.fnOf "judge_low" "judge_low" (defArgs s_judge_low) (defBody s_judge_low) (defScope s_judge_low) .none kV_judge_low dc_judge_low pm_judge_low an_judge_low cd_judge_low ct_judge_low), sl_judge_low⟩)
    (c_judge_low : PySem.W.codeIn K cd_judge_low "judge_low" = true)
    (k_judge_low : PySem.W.keepIn K (.ref f_judge_low) = true)
    (a_judge_high : PySem.W.nsIn K mainGlobals "judge_high" = some (some (.ref f_judge_high)))
    (l_judge_high : K.lookup f_judge_high = some ⟨oc_judge_high, od_judge_high, .func (PySem.W.fnOf "judge_high" "judge_high" (defArgs s_judge_high) (defBody s_judge_high) (defScope s_judge_high) .none kV_judge_high dc_judge_high pm_judge_high an_judge_high cd_judge_high ct_judge_high), sl_judge_high⟩)
    (c_judge_high : PySem.W.codeIn K cd_judge_high "judge_high" = true)
    (k_judge_high : PySem.W.keepIn K (.ref f_judge_high) = true)
    (a__law_draws : PySem.W.nsIn K mainGlobals "_law_draws" = some (some (.ref f__law_draws)))
    (l__law_draws : K.lookup f__law_draws = some ⟨oc__law_draws, od__law_draws, .func (PySem.W.fnOf "_law_draws" "_law_draws" (defArgs s__law_draws) (defBody s__law_draws) (defScope s__law_draws) .none kV__law_draws dc__law_draws pm__law_draws an__law_draws cd__law_draws ct__law_draws), sl__law_draws⟩)
    (c__law_draws : PySem.W.codeIn K cd__law_draws "_law_draws" = true)
    (k__law_draws : PySem.W.keepIn K (.ref f__law_draws) = true)
    (a__law_take : PySem.W.nsIn K mainGlobals "_law_take" = some (some (.ref f__law_take)))
    (l__law_take : K.lookup f__law_take = some ⟨oc__law_take, od__law_take, .func (PySem.W.fnOf "_law_take" "_law_take" (defArgs s__law_take) (defBody s__law_take) (defScope s__law_take) .none kV__law_take dc__law_take pm__law_take an__law_take cd__law_take ct__law_take), sl__law_take⟩)
    (c__law_take : PySem.W.codeIn K cd__law_take "_law_take" = true)
    (k__law_take : PySem.W.keepIn K (.ref f__law_take) = true)
    (a__law_pick : PySem.W.nsIn K mainGlobals "_law_pick" = some (some (.ref f__law_pick)))
    (l__law_pick : K.lookup f__law_pick = some ⟨oc__law_pick, od__law_pick, .func (PySem.W.fnOf "_law_pick" "_law_pick" (defArgs s__law_pick) (defBody s__law_pick) (defScope s__law_pick) .none kV__law_pick dc__law_pick pm__law_pick an__law_pick cd__law_pick ct__law_pick), sl__law_pick⟩)
    (c__law_pick : PySem.W.codeIn K cd__law_pick "_law_pick" = true)
    (k__law_pick : PySem.W.keepIn K (.ref f__law_pick) = true)
    (a__law_whole : PySem.W.nsIn K mainGlobals "_law_whole" = some (some (.ref f__law_whole)))
    (l__law_whole : K.lookup f__law_whole = some ⟨oc__law_whole, od__law_whole, .func (PySem.W.fnOf "_law_whole" "_law_whole" (defArgs s__law_whole) (defBody s__law_whole) (defScope s__law_whole) .none kV__law_whole dc__law_whole pm__law_whole an__law_whole cd__law_whole ct__law_whole), sl__law_whole⟩)
    (c__law_whole : PySem.W.codeIn K cd__law_whole "_law_whole" = true)
    (k__law_whole : PySem.W.keepIn K (.ref f__law_whole) = true)
    (a__law_drawn_ratio : PySem.W.nsIn K mainGlobals "_law_drawn_ratio" = some (some (.ref f__law_drawn_ratio)))
    (l__law_drawn_ratio : K.lookup f__law_drawn_ratio = some ⟨oc__law_drawn_ratio, od__law_drawn_ratio, .func (PySem.W.fnOf "_law_drawn_ratio" "_law_drawn_ratio" (defArgs s__law_drawn_ratio) (defBody s__law_drawn_ratio) (defScope s__law_drawn_ratio) .none kV__law_drawn_ratio dc__law_drawn_ratio pm__law_drawn_ratio an__law_drawn_ratio cd__law_drawn_ratio ct__law_drawn_ratio), sl__law_drawn_ratio⟩)
    (c__law_drawn_ratio : PySem.W.codeIn K cd__law_drawn_ratio "_law_drawn_ratio" = true)
    (k__law_drawn_ratio : PySem.W.keepIn K (.ref f__law_drawn_ratio) = true)
    (a__law_drawn_states : PySem.W.nsIn K mainGlobals "_law_drawn_states" = some (some (.ref f__law_drawn_states)))
    (l__law_drawn_states : K.lookup f__law_drawn_states = some ⟨oc__law_drawn_states, od__law_drawn_states, .func (PySem.W.fnOf "_law_drawn_states" "_law_drawn_states" (defArgs s__law_drawn_states) (defBody s__law_drawn_states) (defScope s__law_drawn_states) .none kV__law_drawn_states dc__law_drawn_states pm__law_drawn_states an__law_drawn_states cd__law_drawn_states ct__law_drawn_states), sl__law_drawn_states⟩)
    (c__law_drawn_states : PySem.W.codeIn K cd__law_drawn_states "_law_drawn_states" = true)
    (k__law_drawn_states : PySem.W.keepIn K (.ref f__law_drawn_states) = true)
    (a__law_least_terms : PySem.W.nsIn K mainGlobals "_law_least_terms" = some (some (.ref f__law_least_terms)))
    (l__law_least_terms : K.lookup f__law_least_terms = some ⟨oc__law_least_terms, od__law_least_terms, .func (PySem.W.fnOf "_law_least_terms" "_law_least_terms" (defArgs s__law_least_terms) (defBody s__law_least_terms) (defScope s__law_least_terms) .none kV__law_least_terms dc__law_least_terms pm__law_least_terms an__law_least_terms cd__law_least_terms ct__law_least_terms), sl__law_least_terms⟩)
    (c__law_least_terms : PySem.W.codeIn K cd__law_least_terms "_law_least_terms" = true)
    (k__law_least_terms : PySem.W.keepIn K (.ref f__law_least_terms) = true)
    (a__law_plus : PySem.W.nsIn K mainGlobals "_law_plus" = some (some (.ref f__law_plus)))
    (l__law_plus : K.lookup f__law_plus = some ⟨oc__law_plus, od__law_plus, .func (PySem.W.fnOf "_law_plus" "_law_plus" (defArgs s__law_plus) (defBody s__law_plus) (defScope s__law_plus) .none kV__law_plus dc__law_plus pm__law_plus an__law_plus cd__law_plus ct__law_plus), sl__law_plus⟩)
    (c__law_plus : PySem.W.codeIn K cd__law_plus "_law_plus" = true)
    (k__law_plus : PySem.W.keepIn K (.ref f__law_plus) = true)
    (a__law_at_most : PySem.W.nsIn K mainGlobals "_law_at_most" = some (some (.ref f__law_at_most)))
    (l__law_at_most : K.lookup f__law_at_most = some ⟨oc__law_at_most, od__law_at_most, .func (PySem.W.fnOf "_law_at_most" "_law_at_most" (defArgs s__law_at_most) (defBody s__law_at_most) (defScope s__law_at_most) .none kV__law_at_most dc__law_at_most pm__law_at_most an__law_at_most cd__law_at_most ct__law_at_most), sl__law_at_most⟩)
    (c__law_at_most : PySem.W.codeIn K cd__law_at_most "_law_at_most" = true)
    (k__law_at_most : PySem.W.keepIn K (.ref f__law_at_most) = true)
    (a__law_mean : PySem.W.nsIn K mainGlobals "_law_mean" = some (some (.ref f__law_mean)))
    (l__law_mean : K.lookup f__law_mean = some ⟨oc__law_mean, od__law_mean, .func (PySem.W.fnOf "_law_mean" "_law_mean" (defArgs s__law_mean) (defBody s__law_mean) (defScope s__law_mean) .none kV__law_mean dc__law_mean pm__law_mean an__law_mean cd__law_mean ct__law_mean), sl__law_mean⟩)
    (c__law_mean : PySem.W.codeIn K cd__law_mean "_law_mean" = true)
    (k__law_mean : PySem.W.keepIn K (.ref f__law_mean) = true)
    (a__law_values : PySem.W.nsIn K mainGlobals "_law_values" = some (some (.ref f__law_values)))
    (l__law_values : K.lookup f__law_values = some ⟨oc__law_values, od__law_values, .func (PySem.W.fnOf "_law_values" "_law_values" (defArgs s__law_values) (defBody s__law_values) (defScope s__law_values) .none kV__law_values dc__law_values pm__law_values an__law_values cd__law_values ct__law_values), sl__law_values⟩)
    (c__law_values : PySem.W.codeIn K cd__law_values "_law_values" = true)
    (k__law_values : PySem.W.keepIn K (.ref f__law_values) = true)
    (a__law_is_ratio : PySem.W.nsIn K mainGlobals "_law_is_ratio" = some (some (.ref f__law_is_ratio)))
    (l__law_is_ratio : K.lookup f__law_is_ratio = some ⟨oc__law_is_ratio, od__law_is_ratio, .func (PySem.W.fnOf "_law_is_ratio" "_law_is_ratio" (defArgs s__law_is_ratio) (defBody s__law_is_ratio) (defScope s__law_is_ratio) .none kV__law_is_ratio dc__law_is_ratio pm__law_is_ratio an__law_is_ratio cd__law_is_ratio ct__law_is_ratio), sl__law_is_ratio⟩)
    (c__law_is_ratio : PySem.W.codeIn K cd__law_is_ratio "_law_is_ratio" = true)
    (k__law_is_ratio : PySem.W.keepIn K (.ref f__law_is_ratio) = true)
    (a__law_less : PySem.W.nsIn K mainGlobals "_law_less" = some (some (.ref f__law_less)))
    (l__law_less : K.lookup f__law_less = some ⟨oc__law_less, od__law_less, .func (PySem.W.fnOf "_law_less" "_law_less" (defArgs s__law_less) (defBody s__law_less) (defScope s__law_less) .none kV__law_less dc__law_less pm__law_less an__law_less cd__law_less ct__law_less), sl__law_less⟩)
    (c__law_less : PySem.W.codeIn K cd__law_less "_law_less" = true)
    (k__law_less : PySem.W.keepIn K (.ref f__law_less) = true)
    (a__law_keeps : PySem.W.nsIn K mainGlobals "_law_keeps" = some (some (.ref f__law_keeps)))
    (l__law_keeps : K.lookup f__law_keeps = some ⟨oc__law_keeps, od__law_keeps, .func (PySem.W.fnOf "_law_keeps" "_law_keeps" (defArgs s__law_keeps) (defBody s__law_keeps) (defScope s__law_keeps) .none kV__law_keeps dc__law_keeps pm__law_keeps an__law_keeps cd__law_keeps ct__law_keeps), sl__law_keeps⟩)
    (c__law_keeps : PySem.W.codeIn K cd__law_keeps "_law_keeps" = true)
    (k__law_keeps : PySem.W.keepIn K (.ref f__law_keeps) = true)
    (a__law_word : PySem.W.nsIn K mainGlobals "_law_word" = some (some (.ref f__law_word)))
    (l__law_word : K.lookup f__law_word = some ⟨oc__law_word, od__law_word, .func (PySem.W.fnOf "_law_word" "_law_word" (defArgs s__law_word) (defBody s__law_word) (defScope s__law_word) .none kV__law_word dc__law_word pm__law_word an__law_word cd__law_word ct__law_word), sl__law_word⟩)
    (c__law_word : PySem.W.codeIn K cd__law_word "_law_word" = true)
    (k__law_word : PySem.W.keepIn K (.ref f__law_word) = true)
    (a__law_judged : PySem.W.nsIn K mainGlobals "_law_judged" = some (some (.ref f__law_judged)))
    (l__law_judged : K.lookup f__law_judged = some ⟨oc__law_judged, od__law_judged, .func (PySem.W.fnOf "_law_judged" "_law_judged" (defArgs s__law_judged) (defBody s__law_judged) (defScope s__law_judged) .none kV__law_judged dc__law_judged pm__law_judged an__law_judged cd__law_judged ct__law_judged), sl__law_judged⟩)
    (c__law_judged : PySem.W.codeIn K cd__law_judged "_law_judged" = true)
    (k__law_judged : PySem.W.keepIn K (.ref f__law_judged) = true)
    (a__law_moved : PySem.W.nsIn K mainGlobals "_law_moved" = some (some (.ref f__law_moved)))
    (l__law_moved : K.lookup f__law_moved = some ⟨oc__law_moved, od__law_moved, .func (PySem.W.fnOf "_law_moved" "_law_moved" (defArgs s__law_moved) (defBody s__law_moved) (defScope s__law_moved) .none kV__law_moved dc__law_moved pm__law_moved an__law_moved cd__law_moved ct__law_moved), sl__law_moved⟩)
    (c__law_moved : PySem.W.codeIn K cd__law_moved "_law_moved" = true)
    (k__law_moved : PySem.W.keepIn K (.ref f__law_moved) = true)
    (a__law_papers : PySem.W.nsIn K mainGlobals "_law_papers" = some (some (.ref f__law_papers)))
    (l__law_papers : K.lookup f__law_papers = some ⟨oc__law_papers, od__law_papers, .func (PySem.W.fnOf "_law_papers" "_law_papers" (defArgs s__law_papers) (defBody s__law_papers) (defScope s__law_papers) .none kV__law_papers dc__law_papers pm__law_papers an__law_papers cd__law_papers ct__law_papers), sl__law_papers⟩)
    (c__law_papers : PySem.W.codeIn K cd__law_papers "_law_papers" = true)
    (k__law_papers : PySem.W.keepIn K (.ref f__law_papers) = true)
    (a__law_side_right : PySem.W.nsIn K mainGlobals "_law_side_right" = some (some (.ref f__law_side_right)))
    (l__law_side_right : K.lookup f__law_side_right = some ⟨oc__law_side_right, od__law_side_right, .func (PySem.W.fnOf "_law_side_right" "_law_side_right" (defArgs s__law_side_right) (defBody s__law_side_right) (defScope s__law_side_right) .none kV__law_side_right dc__law_side_right pm__law_side_right an__law_side_right cd__law_side_right ct__law_side_right), sl__law_side_right⟩)
    (c__law_side_right : PySem.W.codeIn K cd__law_side_right "_law_side_right" = true)
    (k__law_side_right : PySem.W.keepIn K (.ref f__law_side_right) = true)
    (a__law_state_word : PySem.W.nsIn K mainGlobals "_law_state_word" = some (some (.ref f__law_state_word)))
    (l__law_state_word : K.lookup f__law_state_word = some ⟨oc__law_state_word, od__law_state_word, .func (PySem.W.fnOf "_law_state_word" "_law_state_word" (defArgs s__law_state_word) (defBody s__law_state_word) (defScope s__law_state_word) .none kV__law_state_word dc__law_state_word pm__law_state_word an__law_state_word cd__law_state_word ct__law_state_word), sl__law_state_word⟩)
    (c__law_state_word : PySem.W.codeIn K cd__law_state_word "_law_state_word" = true)
    (k__law_state_word : PySem.W.keepIn K (.ref f__law_state_word) = true)
    (a__law_refused : PySem.W.nsIn K mainGlobals "_law_refused" = some (some (.ref f__law_refused)))
    (l__law_refused : K.lookup f__law_refused = some ⟨oc__law_refused, od__law_refused, .func (PySem.W.fnOf "_law_refused" "_law_refused" (defArgs s__law_refused) (defBody s__law_refused) (defScope s__law_refused) .none kV__law_refused dc__law_refused pm__law_refused an__law_refused cd__law_refused ct__law_refused), sl__law_refused⟩)
    (c__law_refused : PySem.W.codeIn K cd__law_refused "_law_refused" = true)
    (k__law_refused : PySem.W.keepIn K (.ref f__law_refused) = true)
    (a__law_wrong_states_right : PySem.W.nsIn K mainGlobals "_law_wrong_states_right" = some (some (.ref f__law_wrong_states_right)))
    (l__law_wrong_states_right : K.lookup f__law_wrong_states_right = some ⟨oc__law_wrong_states_right, od__law_wrong_states_right, .func (PySem.W.fnOf "_law_wrong_states_right" "_law_wrong_states_right" (defArgs s__law_wrong_states_right) (defBody s__law_wrong_states_right) (defScope s__law_wrong_states_right) .none kV__law_wrong_states_right dc__law_wrong_states_right pm__law_wrong_states_right an__law_wrong_states_right cd__law_wrong_states_right ct__law_wrong_states_right), sl__law_wrong_states_right⟩)
    (c__law_wrong_states_right : PySem.W.codeIn K cd__law_wrong_states_right "_law_wrong_states_right" = true)
    (k__law_wrong_states_right : PySem.W.keepIn K (.ref f__law_wrong_states_right) = true)
    (a_law : PySem.W.nsIn K mainGlobals "law" = some (some (.ref f_law)))
    (l_law : K.lookup f_law = some ⟨oc_law, od_law, .func (PySem.W.fnOf "law" "law" (defArgs s_law) (defBody s_law) (defScope s_law) .none kV_law dc_law pm_law an_law cd_law ct_law), sl_law⟩)
    (c_law : PySem.W.codeIn K cd_law "law" = true)
    (k_law : PySem.W.keepIn K (.ref f_law) = true)
    (a_BadNumber : PySem.W.nsIn K mainGlobals "BadNumber" = some (some (.ref C_BadNumber)))
    (ex_BadNumber : PySem.W.subIn K (.ref C_BadNumber) (.type "BaseException") = some true)
    (ty_BadNumber : PySem.W.typeIn K (.ref C_BadNumber) = some (.type "type"))
    (x_BadNumber : K.lookup C_BadNumber = some (excClassObj nm_BadNumber qn_BadNumber C_BadNumber N_BadNumber bs_BadNumber (.ref B_BadNumber :: PySem.XC.tailX) true sn_BadNumber sub_BadNumber ab_BadNumber col_BadNumber dd_BadNumber k0_BadNumber k1_BadNumber k2_BadNumber k3_BadNumber k5_BadNumber "Exception.__new__"))
    (sa_BadNumber : PySem.W.findIn K (.ref C_BadNumber) "__setattr__" = some (some (.builtin "object.__setattr__")))
    (iC_BadNumber : PySem.W.findIn K (.ref C_BadNumber) "__init__" = some (some (.ref I_BadNumber)))
    (tC_BadNumber : PySem.W.typeIn K (.ref I_BadNumber) = some (.type "function"))
    (kC_BadNumber : PySem.W.keepIn K (.ref C_BadNumber) = true)
    (l_BadNumber : K.lookup I_BadNumber = some ⟨oc_BadNumber, od_BadNumber, .func (PySem.W.fnOf "__init__" "BadNumber.__init__" (PySem.XBadNumber.iA pa0_BadNumber pa1_BadNumber) (PySem.XBadNumber.iB pb00_BadNumber pb01_BadNumber pb02_BadNumber pb03_BadNumber) PySem.XBadNumber.iS .none .none dc_BadNumber pm_BadNumber an_BadNumber cd_BadNumber ct_BadNumber), sl_BadNumber⟩)
    (c_BadNumber : PySem.W.codeIn K cd_BadNumber "BadNumber.__init__" = true)
    (no0_BadNumber : PySem.W.findIn K (.ref C_BadNumber) "what" = some none)
    (ga_BadNumber : PySem.W.findIn K (.ref C_BadNumber) "__getattribute__" = some (some (.builtin "BaseException.__getattribute__")))
    (gg_BadNumber : PySem.W.findIn K (.ref C_BadNumber) "__getattr__" = some none)
    (hd_BadNumber : PySem.W.hasDictIn K C_BadNumber = true)
    (ic_BadNumber : PySem.W.isClsIn K C_BadNumber = true)
    (ss_BadNumber : PySem.W.subIn K (.ref C_BadNumber) (.ref C_BadNumber) = some true)
    (a_BadArena : PySem.W.nsIn K mainGlobals "BadArena" = some (some (.ref C_BadArena)))
    (ex_BadArena : PySem.W.subIn K (.ref C_BadArena) (.type "BaseException") = some true)
    (ty_BadArena : PySem.W.typeIn K (.ref C_BadArena) = some (.type "type"))
    (x_BadArena : K.lookup C_BadArena = some (excClassObj nm_BadArena qn_BadArena C_BadArena N_BadArena bs_BadArena (.ref B_BadArena :: PySem.XC.tailX) true sn_BadArena sub_BadArena ab_BadArena col_BadArena dd_BadArena k0_BadArena k1_BadArena k2_BadArena k3_BadArena k5_BadArena "Exception.__new__"))
    (sa_BadArena : PySem.W.findIn K (.ref C_BadArena) "__setattr__" = some (some (.builtin "object.__setattr__")))
    (iC_BadArena : PySem.W.findIn K (.ref C_BadArena) "__init__" = some (some (.ref I_BadArena)))
    (tC_BadArena : PySem.W.typeIn K (.ref I_BadArena) = some (.type "function"))
    (kC_BadArena : PySem.W.keepIn K (.ref C_BadArena) = true)
    (l_BadArena : K.lookup I_BadArena = some ⟨oc_BadArena, od_BadArena, .func (PySem.W.fnOf "__init__" "BadArena.__init__" (PySem.XBadArena.iA pa0_BadArena pa1_BadArena pa2_BadArena) (PySem.XBadArena.iB pb00_BadArena pb01_BadArena pb02_BadArena pb03_BadArena pb10_BadArena pb11_BadArena pb12_BadArena pb13_BadArena) PySem.XBadArena.iS .none .none dc_BadArena pm_BadArena an_BadArena cd_BadArena ct_BadArena), sl_BadArena⟩)
    (c_BadArena : PySem.W.codeIn K cd_BadArena "BadArena.__init__" = true)
    (no0_BadArena : PySem.W.findIn K (.ref C_BadArena) "state" = some none)
    (no1_BadArena : PySem.W.findIn K (.ref C_BadArena) "what" = some none)
    (ga_BadArena : PySem.W.findIn K (.ref C_BadArena) "__getattribute__" = some (some (.builtin "BaseException.__getattribute__")))
    (gg_BadArena : PySem.W.findIn K (.ref C_BadArena) "__getattr__" = some none)
    (hd_BadArena : PySem.W.hasDictIn K C_BadArena = true)
    (ic_BadArena : PySem.W.isClsIn K C_BadArena = true)
    (ss_BadArena : PySem.W.subIn K (.ref C_BadArena) (.ref C_BadArena) = some true)
    (a_STATE_KINDS : PySem.W.nsIn K mainGlobals "STATE_KINDS" = some (some (.ref t_STATE_KINDS)))
    (v_STATE_KINDS : K.lookup t_STATE_KINDS = some ⟨.type "tuple", od_STATE_KINDS, .seq #[.str "end" ts0_STATE_KINDS, .str "max" ts1_STATE_KINDS, .str "min" ts2_STATE_KINDS, .str "mean" ts3_STATE_KINDS] nn_STATE_KINDS, sl_STATE_KINDS⟩)
    : ∃ fd : FuncData, (∀ (s : Shared) (v : Value), BindsTo s fd ⟨[v], []⟩ [("script", v)]) ∧ ∀ base : Heap, K.In base → base.Ns mainGlobals mg → FnOk l.prog w K mg base (L2.CX l.prog w) 11 fa fd ["script"] (spLaw K) := by
  have e := hfa.symm.trans (PySem.W.mg_of X G a_law)
  cases e
  let cl : Nat → Addr := fun n => match n with
    | 0 => C_Arena
    | _ => fa
  let ec : Nat → Addr := fun n => match n with
    | 1 => C_BadNumber
    | 2 => C_BadArena
    | _ => C_BadNumber
  let g0 : Gm0 := ⟨K, cl, ec⟩
  let gv : Str → V := fun x => if x = "STATE_KINDS" then .ref t_STATE_KINDS else .non
  let Γ : Gm tau := { toGm0 := g0
                      cls := fun c hc => by
                        have z : c = 0 := by unfold tau at hc; simp at hc; omega
                        rcases z with rfl
                        · exact ⟨pg_Arena, hd_Arena, po_Arena, sa_Arena⟩
                      noat := fun p hp => by
                        have z : p = ((0, "states") : Nat × Str) := by simpa [tau] using hp
                        rcases z with rfl
                        · exact no_Arena_states
                      exm := fun c c' b hb => by
                        rcases tau_sub hb with ⟨rfl, rfl, rfl⟩ | ⟨rfl, rfl, rfl⟩
                        · exact exm_self ex_BadNumber ic_BadNumber ty_BadNumber ss_BadNumber
                        · exact exm_self ex_BadArena ic_BadArena ty_BadArena ss_BadArena
                      gv := gv
                      glo := fun p hp G => by
                        have z : p = (("STATE_KINDS", .tup [.str "end", .str "max", .str "min", .str "mean"]) : Str × D) := by simpa [tau] using hp
                        rcases z with rfl
                        · exact Rep.tup (vs := [.str "end", .str "max", .str "min", .str "mean"]) (.inr ⟨_, _, _, v_STATE_KINDS, rfl, rfl, by rw [sizeLine_eq]; simp, .cons ⟨_, rfl⟩ (.cons ⟨_, rfl⟩ (.cons ⟨_, rfl⟩ (.cons ⟨_, rfl⟩ (.nil))))⟩) (by rw [sizeLine_eq]; simp) (.cons (.str _) (.cons (.str _) (.cons (.str _) (.cons (.str _) (.nil))))) }
  have T : Txt Γ mg := {
    bl := ⟨PySem.W.mg_none_of X G z_len, PySem.W.mg_none_of X G z_range, PySem.W.mg_none_of X G z_isinstance, PySem.W.mg_none_of X G z_enumerate, PySem.W.mg_none_of X G z_tuple, PySem.W.mg_none_of X G z_list, PySem.W.mg_none_of X G z_int, PySem.W.mg_none_of X G z_bool, PySem.W.mg_none_of X G z_str, PySem.W.mg_none_of X G z_abs, PySem.W.mg_none_of X G z_min, PySem.W.mg_none_of X G z_max, PySem.W.mg_none_of X G z_any, PySem.W.mg_none_of X G z_all, PySem.W.mg_none_of X G z_sorted, PySem.W.mg_none_of X G z_reversed, PySem.W.mg_none_of X G z_sum, PySem.W.mg_none_of X G z_zip, PySem.W.mg_none_of X G z_set⟩,
    gcd := PySem.W.mg_of X G z_gcd,
    g_STATE_KINDS := ⟨_, PySem.W.mg_of X G a_STATE_KINDS, rfl⟩,
    e_BadNumber := ⟨_, _, { gC := PySem.W.mg_of X G a_BadNumber, cls := ⟨_, _, _, _, _, _, _, _, _, _, _, _, _, _, x_BadNumber⟩, sa := sa_BadNumber, iC := iC_BadNumber, tC := tC_BadNumber, kC := kC_BadNumber, exC := ex_BadNumber, tyC := ty_BadNumber, no0 := no0_BadNumber, fn := ⟨_, _, _, _, _, _, _, _, _, _, _, _, _, _, l_BadNumber, c_BadNumber⟩ }⟩,
    c_BadNumber := PySem.W.mg_of X G a_BadNumber,
    xf_BadNumber_what := fun c' hc => by
      have z : c' = 1 := tau_at hc (by decide)
      subst z
      exact ⟨ga_BadNumber, gg_BadNumber, ex_BadNumber, hd_BadNumber, no0_BadNumber⟩,
    e_BadArena := ⟨_, _, { gC := PySem.W.mg_of X G a_BadArena, cls := ⟨_, _, _, _, _, _, _, _, _, _, _, _, _, _, x_BadArena⟩, sa := sa_BadArena, iC := iC_BadArena, tC := tC_BadArena, kC := kC_BadArena, exC := ex_BadArena, tyC := ty_BadArena, no0 := no0_BadArena, no1 := no1_BadArena, fn := ⟨_, _, _, _, _, _, _, _, _, _, _, _, _, _, _, _, _, _, _, l_BadArena, c_BadArena⟩ }⟩,
    c_BadArena := PySem.W.mg_of X G a_BadArena,
    xf_BadArena_state := fun c' hc => by
      have z : c' = 2 := tau_at hc (by decide)
      subst z
      exact ⟨ga_BadArena, gg_BadArena, ex_BadArena, hd_BadArena, no0_BadArena⟩,
    xf_BadArena_what := fun c' hc => by
      have z : c' = 2 := tau_at hc (by decide)
      subst z
      exact ⟨ga_BadArena, gg_BadArena, ex_BadArena, hd_BadArena, no1_BadArena⟩,
    m_Arena := PySem.W.mg_of X G a_Arena,
    h_is_whole := ⟨_, _, fun_mk (st := s_is_whole) l_is_whole c_is_whole k_is_whole, PySem.W.mg_of X G a_is_whole⟩,
    h_whole := ⟨_, _, fun_mk (st := s_whole) l_whole c_whole k_whole, PySem.W.mg_of X G a_whole⟩,
    h_is_list := ⟨_, _, fun_mk (st := s_is_list) l_is_list c_is_list k_is_list, PySem.W.mg_of X G a_is_list⟩,
    h_is_ratio := ⟨_, _, fun_mk (st := s_is_ratio) l_is_ratio c_is_ratio k_is_ratio, PySem.W.mg_of X G a_is_ratio⟩,
    h_reduced := ⟨_, _, fun_mk (st := s_reduced) l_reduced c_reduced k_reduced, PySem.W.mg_of X G a_reduced⟩,
    h_ratio_in := ⟨_, _, fun_mk (st := s_ratio_in) l_ratio_in c_ratio_in k_ratio_in, PySem.W.mg_of X G a_ratio_in⟩,
    h_plus := ⟨_, _, fun_mk (st := s_plus) l_plus c_plus k_plus, PySem.W.mg_of X G a_plus⟩,
    h_minus := ⟨_, _, fun_mk (st := s_minus) l_minus c_minus k_minus, PySem.W.mg_of X G a_minus⟩,
    h_at_most := ⟨_, _, fun_mk (st := s_at_most) l_at_most c_at_most k_at_most, PySem.W.mg_of X G a_at_most⟩,
    h_mean_of := ⟨_, _, fun_mk (st := s_mean_of) l_mean_of c_mean_of k_mean_of, PySem.W.mg_of X G a_mean_of⟩,
    h_has_state_form := ⟨_, _, fun_mk (st := s_has_state_form) l_has_state_form c_has_state_form k_has_state_form, PySem.W.mg_of X G a_has_state_form⟩,
    h_state_fault := ⟨_, _, fun_mk (st := s_state_fault) l_state_fault c_state_fault k_state_fault, PySem.W.mg_of X G a_state_fault⟩,
    h_kept_state := ⟨_, _, fun_mk (st := s_kept_state) l_kept_state c_kept_state k_kept_state, PySem.W.mg_of X G a_kept_state⟩,
    h_Arena_init := ⟨_, _, fun_mk (st := s_Arena_init) l_Arena_init c_Arena_init k_Arena_init, ⟨mk_Arena, a_Arena_init, i_Arena_init, kc_Arena⟩⟩,
    h_Arena_many := ⟨_, _, _, fun_mk (st := s_Arena_many) l_Arena_many c_Arena_many k_Arena_many, ⟨a_Arena_many, g_Arena_many, t_Arena_many, ⟨_, r_Arena_many⟩⟩⟩,
    h_turned_round := ⟨_, _, fun_mk (st := s_turned_round) l_turned_round c_turned_round k_turned_round, PySem.W.mg_of X G a_turned_round⟩,
    h_paper_numbers := ⟨_, _, fun_mk (st := s_paper_numbers) l_paper_numbers c_paper_numbers k_paper_numbers, PySem.W.mg_of X G a_paper_numbers⟩,
    h_stands_low := ⟨_, _, fun_mk (st := s_stands_low) l_stands_low c_stands_low k_stands_low, PySem.W.mg_of X G a_stands_low⟩,
    h_first_fallen := ⟨_, _, fun_mk (st := s_first_fallen) l_first_fallen c_first_fallen k_first_fallen, PySem.W.mg_of X G a_first_fallen⟩,
    h_judge_low := ⟨_, _, fun_mk (st := s_judge_low) l_judge_low c_judge_low k_judge_low, PySem.W.mg_of X G a_judge_low⟩,
    h_judge_high := ⟨_, _, fun_mk (st := s_judge_high) l_judge_high c_judge_high k_judge_high, PySem.W.mg_of X G a_judge_high⟩,
    h__law_draws := ⟨_, _, fun_mk (st := s__law_draws) l__law_draws c__law_draws k__law_draws, PySem.W.mg_of X G a__law_draws⟩,
    h__law_take := ⟨_, _, fun_mk (st := s__law_take) l__law_take c__law_take k__law_take, PySem.W.mg_of X G a__law_take⟩,
    h__law_pick := ⟨_, _, fun_mk (st := s__law_pick) l__law_pick c__law_pick k__law_pick, PySem.W.mg_of X G a__law_pick⟩,
    h__law_whole := ⟨_, _, fun_mk (st := s__law_whole) l__law_whole c__law_whole k__law_whole, PySem.W.mg_of X G a__law_whole⟩,
    h__law_drawn_ratio := ⟨_, _, fun_mk (st := s__law_drawn_ratio) l__law_drawn_ratio c__law_drawn_ratio k__law_drawn_ratio, PySem.W.mg_of X G a__law_drawn_ratio⟩,
    h__law_drawn_states := ⟨_, _, fun_mk (st := s__law_drawn_states) l__law_drawn_states c__law_drawn_states k__law_drawn_states, PySem.W.mg_of X G a__law_drawn_states⟩,
    h__law_least_terms := ⟨_, _, fun_mk (st := s__law_least_terms) l__law_least_terms c__law_least_terms k__law_least_terms, PySem.W.mg_of X G a__law_least_terms⟩,
    h__law_plus := ⟨_, _, fun_mk (st := s__law_plus) l__law_plus c__law_plus k__law_plus, PySem.W.mg_of X G a__law_plus⟩,
    h__law_at_most := ⟨_, _, fun_mk (st := s__law_at_most) l__law_at_most c__law_at_most k__law_at_most, PySem.W.mg_of X G a__law_at_most⟩,
    h__law_mean := ⟨_, _, fun_mk (st := s__law_mean) l__law_mean c__law_mean k__law_mean, PySem.W.mg_of X G a__law_mean⟩,
    h__law_values := ⟨_, _, fun_mk (st := s__law_values) l__law_values c__law_values k__law_values, PySem.W.mg_of X G a__law_values⟩,
    h__law_is_ratio := ⟨_, _, fun_mk (st := s__law_is_ratio) l__law_is_ratio c__law_is_ratio k__law_is_ratio, PySem.W.mg_of X G a__law_is_ratio⟩,
    h__law_less := ⟨_, _, fun_mk (st := s__law_less) l__law_less c__law_less k__law_less, PySem.W.mg_of X G a__law_less⟩,
    h__law_keeps := ⟨_, _, fun_mk (st := s__law_keeps) l__law_keeps c__law_keeps k__law_keeps, PySem.W.mg_of X G a__law_keeps⟩,
    h__law_word := ⟨_, _, fun_mk (st := s__law_word) l__law_word c__law_word k__law_word, PySem.W.mg_of X G a__law_word⟩,
    h__law_judged := ⟨_, _, fun_mk (st := s__law_judged) l__law_judged c__law_judged k__law_judged, PySem.W.mg_of X G a__law_judged⟩,
    h__law_moved := ⟨_, _, fun_mk (st := s__law_moved) l__law_moved c__law_moved k__law_moved, PySem.W.mg_of X G a__law_moved⟩,
    h__law_papers := ⟨_, _, fun_mk (st := s__law_papers) l__law_papers c__law_papers k__law_papers, PySem.W.mg_of X G a__law_papers⟩,
    h__law_side_right := ⟨_, _, fun_mk (st := s__law_side_right) l__law_side_right c__law_side_right k__law_side_right, PySem.W.mg_of X G a__law_side_right⟩,
    h__law_state_word := ⟨_, _, fun_mk (st := s__law_state_word) l__law_state_word c__law_state_word k__law_state_word, PySem.W.mg_of X G a__law_state_word⟩,
    h__law_refused := ⟨_, _, fun_mk (st := s__law_refused) l__law_refused c__law_refused k__law_refused, PySem.W.mg_of X G a__law_refused⟩,
    h__law_wrong_states_right := ⟨_, _, fun_mk (st := s__law_wrong_states_right) l__law_wrong_states_right c__law_wrong_states_right k__law_wrong_states_right, PySem.W.mg_of X G a__law_wrong_states_right⟩,
    h_law := ⟨_, _, fun_mk (st := s_law) l_law c_law k_law, PySem.W.mg_of X G a_law⟩ }
  have F := fun_mk (st := s_law) l_law c_law k_law
  exact ⟨PySem.W.fnOf "law" "law" (defArgs s_law) (defBody s_law) (defScope s_law) .none kV_law dc_law pm_law an_law cd_law ct_law, fun s v => .of_eq rfl, fun base _ _ => (okx_law (base := base) T F).imp fun vs H Q E => sp_of (Γ := Γ) holds⟩
/- CASES
    refine' all_mk KX G hmg ?z_len ?z_range ?z_isinstance ?z_enumerate ?z_tuple ?z_list ?z_int ?z_bool ?z_str ?z_abs ?z_min ?z_max ?z_any ?z_all ?z_sorted ?z_reversed ?z_sum ?z_zip ?z_set ?z_gcd ?a_Arena ?pg_Arena ?hd_Arena ?po_Arena ?sa_Arena ?mk_Arena ?kc_Arena ?no_Arena_states ?a_is_whole ?l_is_whole ?c_is_whole ?k_is_whole ?a_whole ?l_whole ?c_whole ?k_whole ?a_is_list ?l_is_list ?c_is_list ?k_is_list ?a_is_ratio ?l_is_ratio ?c_is_ratio ?k_is_ratio ?a_reduced ?l_reduced ?c_reduced ?k_reduced ?a_ratio_in ?l_ratio_in ?c_ratio_in ?k_ratio_in ?a_plus ?l_plus ?c_plus ?k_plus ?a_minus ?l_minus ?c_minus ?k_minus ?a_at_most ?l_at_most ?c_at_most ?k_at_most ?a_mean_of ?l_mean_of ?c_mean_of ?k_mean_of ?a_has_state_form ?l_has_state_form ?c_has_state_form ?k_has_state_form ?a_state_fault ?l_state_fault ?c_state_fault ?k_state_fault ?a_kept_state ?l_kept_state ?c_kept_state ?k_kept_state ?a_Arena_init ?i_Arena_init ?l_Arena_init ?c_Arena_init ?k_Arena_init ?a_Arena_many ?g_Arena_many ?t_Arena_many ?r_Arena_many ?l_Arena_many ?c_Arena_many ?k_Arena_many ?a_turned_round ?l_turned_round ?c_turned_round ?k_turned_round ?a_paper_numbers ?l_paper_numbers ?c_paper_numbers ?k_paper_numbers ?a_stands_low ?l_stands_low ?c_stands_low ?k_stands_low ?a_first_fallen ?l_first_fallen ?c_first_fallen ?k_first_fallen ?a_judge_low ?l_judge_low ?c_judge_low ?k_judge_low ?a_judge_high ?l_judge_high ?c_judge_high ?k_judge_high ?a__law_draws ?l__law_draws ?c__law_draws ?k__law_draws ?a__law_take ?l__law_take ?c__law_take ?k__law_take ?a__law_pick ?l__law_pick ?c__law_pick ?k__law_pick ?a__law_whole ?l__law_whole ?c__law_whole ?k__law_whole ?a__law_drawn_ratio ?l__law_drawn_ratio ?c__law_drawn_ratio ?k__law_drawn_ratio ?a__law_drawn_states ?l__law_drawn_states ?c__law_drawn_states ?k__law_drawn_states ?a__law_least_terms ?l__law_least_terms ?c__law_least_terms ?k__law_least_terms ?a__law_plus ?l__law_plus ?c__law_plus ?k__law_plus ?a__law_at_most ?l__law_at_most ?c__law_at_most ?k__law_at_most ?a__law_mean ?l__law_mean ?c__law_mean ?k__law_mean ?a__law_values ?l__law_values ?c__law_values ?k__law_values ?a__law_is_ratio ?l__law_is_ratio ?c__law_is_ratio ?k__law_is_ratio ?a__law_less ?l__law_less ?c__law_less ?k__law_less ?a__law_keeps ?l__law_keeps ?c__law_keeps ?k__law_keeps ?a__law_word ?l__law_word ?c__law_word ?k__law_word ?a__law_judged ?l__law_judged ?c__law_judged ?k__law_judged ?a__law_moved ?l__law_moved ?c__law_moved ?k__law_moved ?a__law_papers ?l__law_papers ?c__law_papers ?k__law_papers ?a__law_side_right ?l__law_side_right ?c__law_side_right ?k__law_side_right ?a__law_state_word ?l__law_state_word ?c__law_state_word ?k__law_state_word ?a__law_refused ?l__law_refused ?c__law_refused ?k__law_refused ?a__law_wrong_states_right ?l__law_wrong_states_right ?c__law_wrong_states_right ?k__law_wrong_states_right ?a_law ?l_law ?c_law ?k_law ?a_BadNumber ?ex_BadNumber ?ty_BadNumber ?x_BadNumber ?sa_BadNumber ?iC_BadNumber ?tC_BadNumber ?kC_BadNumber ?l_BadNumber ?c_BadNumber ?no0_BadNumber ?ga_BadNumber ?gg_BadNumber ?hd_BadNumber ?ic_BadNumber ?ss_BadNumber ?a_BadArena ?ex_BadArena ?ty_BadArena ?x_BadArena ?sa_BadArena ?iC_BadArena ?tC_BadArena ?kC_BadArena ?l_BadArena ?c_BadArena ?no0_BadArena ?no1_BadArena ?ga_BadArena ?gg_BadArena ?hd_BadArena ?ic_BadArena ?ss_BadArena ?a_STATE_KINDS ?v_STATE_KINDS
    (case z_len => k_is)
    (case z_range => k_is)
    (case z_isinstance => k_is)
    (case z_enumerate => k_is)
    (case z_tuple => k_is)
    (case z_list => k_is)
    (case z_int => k_is)
    (case z_bool => k_is)
    (case z_str => k_is)
    (case z_abs => k_is)
    (case z_min => k_is)
    (case z_max => k_is)
    (case z_any => k_is)
    (case z_all => k_is)
    (case z_sorted => k_is)
    (case z_reversed => k_is)
    (case z_sum => k_is)
    (case z_zip => k_is)
    (case z_set => k_is)
    (case z_gcd => k_is)
    (case a_Arena => k_is)
    (case pg_Arena => k_is)
    (case hd_Arena => k_is)
    (case po_Arena => k_is)
    (case sa_Arena => k_is)
    (case mk_Arena => k_is)
    (case kc_Arena => k_is)
    (case no_Arena_states => k_is)
    (case a_is_whole => k_is)
    (case l_is_whole => k_is)
    (case c_is_whole => k_is)
    (case k_is_whole => k_is)
    (case a_whole => k_is)
    (case l_whole => k_is)
    (case c_whole => k_is)
    (case k_whole => k_is)
    (case a_is_list => k_is)
    (case l_is_list => k_is)
    (case c_is_list => k_is)
    (case k_is_list => k_is)
    (case a_is_ratio => k_is)
    (case l_is_ratio => k_is)
    (case c_is_ratio => k_is)
    (case k_is_ratio => k_is)
    (case a_reduced => k_is)
    (case l_reduced => k_is)
    (case c_reduced => k_is)
    (case k_reduced => k_is)
    (case a_ratio_in => k_is)
    (case l_ratio_in => k_is)
    (case c_ratio_in => k_is)
    (case k_ratio_in => k_is)
    (case a_plus => k_is)
    (case l_plus => k_is)
    (case c_plus => k_is)
    (case k_plus => k_is)
    (case a_minus => k_is)
    (case l_minus => k_is)
    (case c_minus => k_is)
    (case k_minus => k_is)
    (case a_at_most => k_is)
    (case l_at_most => k_is)
    (case c_at_most => k_is)
    (case k_at_most => k_is)
    (case a_mean_of => k_is)
    (case l_mean_of => k_is)
    (case c_mean_of => k_is)
    (case k_mean_of => k_is)
    (case a_has_state_form => k_is)
    (case l_has_state_form => k_is)
    (case c_has_state_form => k_is)
    (case k_has_state_form => k_is)
    (case a_state_fault => k_is)
    (case l_state_fault => k_is)
    (case c_state_fault => k_is)
    (case k_state_fault => k_is)
    (case a_kept_state => k_is)
    (case l_kept_state => k_is)
    (case c_kept_state => k_is)
    (case k_kept_state => k_is)
    (case a_Arena_init => k_is)
    (case i_Arena_init => k_is)
    (case l_Arena_init => k_is)
    (case c_Arena_init => k_is)
    (case k_Arena_init => k_is)
    (case a_Arena_many => k_is)
    (case g_Arena_many => k_is)
    (case t_Arena_many => k_is)
    (case r_Arena_many => k_is)
    (case l_Arena_many => k_is)
    (case c_Arena_many => k_is)
    (case k_Arena_many => k_is)
    (case a_turned_round => k_is)
    (case l_turned_round => k_is)
    (case c_turned_round => k_is)
    (case k_turned_round => k_is)
    (case a_paper_numbers => k_is)
    (case l_paper_numbers => k_is)
    (case c_paper_numbers => k_is)
    (case k_paper_numbers => k_is)
    (case a_stands_low => k_is)
    (case l_stands_low => k_is)
    (case c_stands_low => k_is)
    (case k_stands_low => k_is)
    (case a_first_fallen => k_is)
    (case l_first_fallen => k_is)
    (case c_first_fallen => k_is)
    (case k_first_fallen => k_is)
    (case a_judge_low => k_is)
    (case l_judge_low => k_is)
    (case c_judge_low => k_is)
    (case k_judge_low => k_is)
    (case a_judge_high => k_is)
    (case l_judge_high => k_is)
    (case c_judge_high => k_is)
    (case k_judge_high => k_is)
    (case a__law_draws => k_is)
    (case l__law_draws => k_is)
    (case c__law_draws => k_is)
    (case k__law_draws => k_is)
    (case a__law_take => k_is)
    (case l__law_take => k_is)
    (case c__law_take => k_is)
    (case k__law_take => k_is)
    (case a__law_pick => k_is)
    (case l__law_pick => k_is)
    (case c__law_pick => k_is)
    (case k__law_pick => k_is)
    (case a__law_whole => k_is)
    (case l__law_whole => k_is)
    (case c__law_whole => k_is)
    (case k__law_whole => k_is)
    (case a__law_drawn_ratio => k_is)
    (case l__law_drawn_ratio => k_is)
    (case c__law_drawn_ratio => k_is)
    (case k__law_drawn_ratio => k_is)
    (case a__law_drawn_states => k_is)
    (case l__law_drawn_states => k_is)
    (case c__law_drawn_states => k_is)
    (case k__law_drawn_states => k_is)
    (case a__law_least_terms => k_is)
    (case l__law_least_terms => k_is)
    (case c__law_least_terms => k_is)
    (case k__law_least_terms => k_is)
    (case a__law_plus => k_is)
    (case l__law_plus => k_is)
    (case c__law_plus => k_is)
    (case k__law_plus => k_is)
    (case a__law_at_most => k_is)
    (case l__law_at_most => k_is)
    (case c__law_at_most => k_is)
    (case k__law_at_most => k_is)
    (case a__law_mean => k_is)
    (case l__law_mean => k_is)
    (case c__law_mean => k_is)
    (case k__law_mean => k_is)
    (case a__law_values => k_is)
    (case l__law_values => k_is)
    (case c__law_values => k_is)
    (case k__law_values => k_is)
    (case a__law_is_ratio => k_is)
    (case l__law_is_ratio => k_is)
    (case c__law_is_ratio => k_is)
    (case k__law_is_ratio => k_is)
    (case a__law_less => k_is)
    (case l__law_less => k_is)
    (case c__law_less => k_is)
    (case k__law_less => k_is)
    (case a__law_keeps => k_is)
    (case l__law_keeps => k_is)
    (case c__law_keeps => k_is)
    (case k__law_keeps => k_is)
    (case a__law_word => k_is)
    (case l__law_word => k_is)
    (case c__law_word => k_is)
    (case k__law_word => k_is)
    (case a__law_judged => k_is)
    (case l__law_judged => k_is)
    (case c__law_judged => k_is)
    (case k__law_judged => k_is)
    (case a__law_moved => k_is)
    (case l__law_moved => k_is)
    (case c__law_moved => k_is)
    (case k__law_moved => k_is)
    (case a__law_papers => k_is)
    (case l__law_papers => k_is)
    (case c__law_papers => k_is)
    (case k__law_papers => k_is)
    (case a__law_side_right => k_is)
    (case l__law_side_right => k_is)
    (case c__law_side_right => k_is)
    (case k__law_side_right => k_is)
    (case a__law_state_word => k_is)
    (case l__law_state_word => k_is)
    (case c__law_state_word => k_is)
    (case k__law_state_word => k_is)
    (case a__law_refused => k_is)
    (case l__law_refused => k_is)
    (case c__law_refused => k_is)
    (case k__law_refused => k_is)
    (case a__law_wrong_states_right => k_is)
    (case l__law_wrong_states_right => k_is)
    (case c__law_wrong_states_right => k_is)
    (case k__law_wrong_states_right => k_is)
    (case a_law => k_is)
    (case l_law => k_is)
    (case c_law => k_is)
    (case k_law => k_is)
    (case a_BadNumber => k_is)
    (case ex_BadNumber => k_is)
    (case ty_BadNumber => k_is)
    (case x_BadNumber => k_is)
    (case sa_BadNumber => k_is)
    (case iC_BadNumber => k_is)
    (case tC_BadNumber => k_is)
    (case kC_BadNumber => k_is)
    (case l_BadNumber => k_is)
    (case c_BadNumber => k_is)
    (case no0_BadNumber => k_is)
    (case ga_BadNumber => k_is)
    (case gg_BadNumber => k_is)
    (case hd_BadNumber => k_is)
    (case ic_BadNumber => k_is)
    (case ss_BadNumber => first | rfl | k_is)
    (case a_BadArena => k_is)
    (case ex_BadArena => k_is)
    (case ty_BadArena => k_is)
    (case x_BadArena => k_is)
    (case sa_BadArena => k_is)
    (case iC_BadArena => k_is)
    (case tC_BadArena => k_is)
    (case kC_BadArena => k_is)
    (case l_BadArena => k_is)
    (case c_BadArena => k_is)
    (case no0_BadArena => k_is)
    (case no1_BadArena => k_is)
    (case ga_BadArena => k_is)
    (case gg_BadArena => k_is)
    (case hd_BadArena => k_is)
    (case ic_BadArena => k_is)
    (case ss_BadArena => first | rfl | k_is)
    (case a_STATE_KINDS => k_is)
    (case v_STATE_KINDS => k_is)
-/
end K84

/-! F84 -/
namespace K84
open PySem PySem.Spec PyProof.Rows L2 T
theorem walk {l : PySem.W.OpenLaw} {q : Program} {loose : List Str} {XP : (Str → Option Value) → Heap → Prop} {YP : World → Heap → Prop} {d : DefRec} {K : Params → PySem.W.Frag} (hn : l.most = some 63) (hdf : d.params.defaults = [])
    (hY : ∀ (w : World) (h : Heap), YP w h → (K w.params).In h)
    (F : ∀ (w : World) (mg : Str → Option Value) (fa : Addr) (h : Heap), (K w.params).In h → h.Ns mainGlobals mg → mg d.name = some (.ref fa) →
      ∃ fd : FuncData, (∀ (s : Shared) (u : Value), BindsTo s fd ⟨[u], []⟩ [("script", u)]) ∧ ∀ base : Heap, (K w.params).In base → base.Ns mainGlobals mg → FnOk l.prog w (K w.params) mg base (L2.CX l.prog w) 11 fa fd ["script"] (spLaw (K w.params))) :
    PySem.W.WalkO q loose XP YP l.row.toRowW d [] (fun f vs => PySem.call f vs) :=
  L2.walk_of (n := 63) (k := 11) (x := "script") (CX := fun w => L2.CX l.prog w) (sp := fun w => spLaw (K w.params)) hn (by decide) hdf ⟨rfl, by decide, by decide⟩ hY F (fun _ _ a ns hl _ hS => ⟨a, ns, rfl, hS, hl, fun _ => rfl⟩) fun _ _ _ _ _ z => by
    obtain ⟨_, _, _, _, _, _, _, _, _, _, _, _, z⟩ := z
    exact z.elim
end K84
open PySem PySem.W PyProof.Rows
set_option maxRecDepth 100000 in
set_option maxHeartbeats 0 in
theorem PySem.Challenge.cw_heldbyturns_k84_arena_judge_words_holds : PySem.Challenge.rw_heldbyturns_k84_arena_judge_words.Holds := by
  w_on; o_law; k_head; (case hw => w_witness2)
  k_fill
  refine K84.walk (l := PySem.Challenge.rw_heldbyturns_k84_arena_judge_words) rfl rfl (fun w h Y => PySem.W.kIn_of Y) ?F
  case F =>
    intro w mg fa h KX G hmg
    refine' K84.all_mk KX G hmg ?z_len ?z_range ?z_isinstance ?z_enumerate ?z_tuple ?z_list ?z_int ?z_bool ?z_str ?z_abs ?z_min ?z_max ?z_any ?z_all ?z_sorted ?z_reversed ?z_sum ?z_zip ?z_set ?z_gcd ?a_Arena ?pg_Arena ?hd_Arena ?po_Arena ?sa_Arena ?mk_Arena ?kc_Arena ?no_Arena_states ?a_is_whole ?l_is_whole ?c_is_whole ?k_is_whole ?a_whole ?l_whole ?c_whole ?k_whole ?a_is_list ?l_is_list ?c_is_list ?k_is_list ?a_is_ratio ?l_is_ratio ?c_is_ratio ?k_is_ratio ?a_reduced ?l_reduced ?c_reduced ?k_reduced ?a_ratio_in ?l_ratio_in ?c_ratio_in ?k_ratio_in ?a_plus ?l_plus ?c_plus ?k_plus ?a_minus ?l_minus ?c_minus ?k_minus ?a_at_most ?l_at_most ?c_at_most ?k_at_most ?a_mean_of ?l_mean_of ?c_mean_of ?k_mean_of ?a_has_state_form ?l_has_state_form ?c_has_state_form ?k_has_state_form ?a_state_fault ?l_state_fault ?c_state_fault ?k_state_fault ?a_kept_state ?l_kept_state ?c_kept_state ?k_kept_state ?a_Arena_init ?i_Arena_init ?l_Arena_init ?c_Arena_init ?k_Arena_init ?a_Arena_many ?g_Arena_many ?t_Arena_many ?r_Arena_many ?l_Arena_many ?c_Arena_many ?k_Arena_many ?a_turned_round ?l_turned_round ?c_turned_round ?k_turned_round ?a_paper_numbers ?l_paper_numbers ?c_paper_numbers ?k_paper_numbers ?a_stands_low ?l_stands_low ?c_stands_low ?k_stands_low ?a_first_fallen ?l_first_fallen ?c_first_fallen ?k_first_fallen ?a_judge_low ?l_judge_low ?c_judge_low ?k_judge_low ?a_judge_high ?l_judge_high ?c_judge_high ?k_judge_high ?a__law_draws ?l__law_draws ?c__law_draws ?k__law_draws ?a__law_take ?l__law_take ?c__law_take ?k__law_take ?a__law_pick ?l__law_pick ?c__law_pick ?k__law_pick ?a__law_whole ?l__law_whole ?c__law_whole ?k__law_whole ?a__law_drawn_ratio ?l__law_drawn_ratio ?c__law_drawn_ratio ?k__law_drawn_ratio ?a__law_drawn_states ?l__law_drawn_states ?c__law_drawn_states ?k__law_drawn_states ?a__law_least_terms ?l__law_least_terms ?c__law_least_terms ?k__law_least_terms ?a__law_plus ?l__law_plus ?c__law_plus ?k__law_plus ?a__law_at_most ?l__law_at_most ?c__law_at_most ?k__law_at_most ?a__law_mean ?l__law_mean ?c__law_mean ?k__law_mean ?a__law_values ?l__law_values ?c__law_values ?k__law_values ?a__law_is_ratio ?l__law_is_ratio ?c__law_is_ratio ?k__law_is_ratio ?a__law_less ?l__law_less ?c__law_less ?k__law_less ?a__law_keeps ?l__law_keeps ?c__law_keeps ?k__law_keeps ?a__law_word ?l__law_word ?c__law_word ?k__law_word ?a__law_judged ?l__law_judged ?c__law_judged ?k__law_judged ?a__law_moved ?l__law_moved ?c__law_moved ?k__law_moved ?a__law_papers ?l__law_papers ?c__law_papers ?k__law_papers ?a__law_side_right ?l__law_side_right ?c__law_side_right ?k__law_side_right ?a__law_state_word ?l__law_state_word ?c__law_state_word ?k__law_state_word ?a__law_refused ?l__law_refused ?c__law_refused ?k__law_refused ?a__law_wrong_states_right ?l__law_wrong_states_right ?c__law_wrong_states_right ?k__law_wrong_states_right ?a_law ?l_law ?c_law ?k_law ?a_BadNumber ?ex_BadNumber ?ty_BadNumber ?x_BadNumber ?sa_BadNumber ?iC_BadNumber ?tC_BadNumber ?kC_BadNumber ?l_BadNumber ?c_BadNumber ?no0_BadNumber ?ga_BadNumber ?gg_BadNumber ?hd_BadNumber ?ic_BadNumber ?ss_BadNumber ?a_BadArena ?ex_BadArena ?ty_BadArena ?x_BadArena ?sa_BadArena ?iC_BadArena ?tC_BadArena ?kC_BadArena ?l_BadArena ?c_BadArena ?no0_BadArena ?no1_BadArena ?ga_BadArena ?gg_BadArena ?hd_BadArena ?ic_BadArena ?ss_BadArena ?a_STATE_KINDS ?v_STATE_KINDS
    (case z_len => k_is)
    (case z_range => k_is)
    (case z_isinstance => k_is)
    (case z_enumerate => k_is)
    (case z_tuple => k_is)
    (case z_list => k_is)
    (case z_int => k_is)
    (case z_bool => k_is)
    (case z_str => k_is)
    (case z_abs => k_is)
    (case z_min => k_is)
    (case z_max => k_is)
    (case z_any => k_is)
    (case z_all => k_is)
    (case z_sorted => k_is)
    (case z_reversed => k_is)
    (case z_sum => k_is)
    (case z_zip => k_is)
    (case z_set => k_is)
    (case z_gcd => k_is)
    (case a_Arena => k_is)
    (case pg_Arena => k_is)
    (case hd_Arena => k_is)
    (case po_Arena => k_is)
    (case sa_Arena => k_is)
    (case mk_Arena => k_is)
    (case kc_Arena => k_is)
    (case no_Arena_states => k_is)
    (case a_is_whole => k_is)
    (case l_is_whole => k_is)
    (case c_is_whole => k_is)
    (case k_is_whole => k_is)
    (case a_whole => k_is)
    (case l_whole => k_is)
    (case c_whole => k_is)
    (case k_whole => k_is)
    (case a_is_list => k_is)
    (case l_is_list => k_is)
    (case c_is_list => k_is)
    (case k_is_list => k_is)
    (case a_is_ratio => k_is)
    (case l_is_ratio => k_is)
    (case c_is_ratio => k_is)
    (case k_is_ratio => k_is)
    (case a_reduced => k_is)
    (case l_reduced => k_is)
    (case c_reduced => k_is)
    (case k_reduced => k_is)
    (case a_ratio_in => k_is)
    (case l_ratio_in => k_is)
    (case c_ratio_in => k_is)
    (case k_ratio_in => k_is)
    (case a_plus => k_is)
    (case l_plus => k_is)
    (case c_plus => k_is)
    (case k_plus => k_is)
    (case a_minus => k_is)
    (case l_minus => k_is)
    (case c_minus => k_is)
    (case k_minus => k_is)
    (case a_at_most => k_is)
    (case l_at_most => k_is)
    (case c_at_most => k_is)
    (case k_at_most => k_is)
    (case a_mean_of => k_is)
    (case l_mean_of => k_is)
    (case c_mean_of => k_is)
    (case k_mean_of => k_is)
    (case a_has_state_form => k_is)
    (case l_has_state_form => k_is)
    (case c_has_state_form => k_is)
    (case k_has_state_form => k_is)
    (case a_state_fault => k_is)
    (case l_state_fault => k_is)
    (case c_state_fault => k_is)
    (case k_state_fault => k_is)
    (case a_kept_state => k_is)
    (case l_kept_state => k_is)
    (case c_kept_state => k_is)
    (case k_kept_state => k_is)
    (case a_Arena_init => k_is)
    (case i_Arena_init => k_is)
    (case l_Arena_init => k_is)
    (case c_Arena_init => k_is)
    (case k_Arena_init => k_is)
    (case a_Arena_many => k_is)
    (case g_Arena_many => k_is)
    (case t_Arena_many => k_is)
    (case r_Arena_many => k_is)
    (case l_Arena_many => k_is)
    (case c_Arena_many => k_is)
    (case k_Arena_many => k_is)
    (case a_turned_round => k_is)
    (case l_turned_round => k_is)
    (case c_turned_round => k_is)
    (case k_turned_round => k_is)
    (case a_paper_numbers => k_is)
    (case l_paper_numbers => k_is)
    (case c_paper_numbers => k_is)
    (case k_paper_numbers => k_is)
    (case a_stands_low => k_is)
    (case l_stands_low => k_is)
    (case c_stands_low => k_is)
    (case k_stands_low => k_is)
    (case a_first_fallen => k_is)
    (case l_first_fallen => k_is)
    (case c_first_fallen => k_is)
    (case k_first_fallen => k_is)
    (case a_judge_low => k_is)
    (case l_judge_low => k_is)
    (case c_judge_low => k_is)
    (case k_judge_low => k_is)
    (case a_judge_high => k_is)
    (case l_judge_high => k_is)
    (case c_judge_high => k_is)
    (case k_judge_high => k_is)
    (case a__law_draws => k_is)
    (case l__law_draws => k_is)
    (case c__law_draws => k_is)
    (case k__law_draws => k_is)
    (case a__law_take => k_is)
    (case l__law_take => k_is)
    (case c__law_take => k_is)
    (case k__law_take => k_is)
    (case a__law_pick => k_is)
    (case l__law_pick => k_is)
    (case c__law_pick => k_is)
    (case k__law_pick => k_is)
    (case a__law_whole => k_is)
    (case l__law_whole => k_is)
    (case c__law_whole => k_is)
    (case k__law_whole => k_is)
    (case a__law_drawn_ratio => k_is)
    (case l__law_drawn_ratio => k_is)
    (case c__law_drawn_ratio => k_is)
    (case k__law_drawn_ratio => k_is)
    (case a__law_drawn_states => k_is)
    (case l__law_drawn_states => k_is)
    (case c__law_drawn_states => k_is)
    (case k__law_drawn_states => k_is)
    (case a__law_least_terms => k_is)
    (case l__law_least_terms => k_is)
    (case c__law_least_terms => k_is)
    (case k__law_least_terms => k_is)
    (case a__law_plus => k_is)
    (case l__law_plus => k_is)
    (case c__law_plus => k_is)
    (case k__law_plus => k_is)
    (case a__law_at_most => k_is)
    (case l__law_at_most => k_is)
    (case c__law_at_most => k_is)
    (case k__law_at_most => k_is)
    (case a__law_mean => k_is)
    (case l__law_mean => k_is)
    (case c__law_mean => k_is)
    (case k__law_mean => k_is)
    (case a__law_values => k_is)
    (case l__law_values => k_is)
    (case c__law_values => k_is)
    (case k__law_values => k_is)
    (case a__law_is_ratio => k_is)
    (case l__law_is_ratio => k_is)
    (case c__law_is_ratio => k_is)
    (case k__law_is_ratio => k_is)
    (case a__law_less => k_is)
    (case l__law_less => k_is)
    (case c__law_less => k_is)
    (case k__law_less => k_is)
    (case a__law_keeps => k_is)
    (case l__law_keeps => k_is)
    (case c__law_keeps => k_is)
    (case k__law_keeps => k_is)
    (case a__law_word => k_is)
    (case l__law_word => k_is)
    (case c__law_word => k_is)
    (case k__law_word => k_is)
    (case a__law_judged => k_is)
    (case l__law_judged => k_is)
    (case c__law_judged => k_is)
    (case k__law_judged => k_is)
    (case a__law_moved => k_is)
    (case l__law_moved => k_is)
    (case c__law_moved => k_is)
    (case k__law_moved => k_is)
    (case a__law_papers => k_is)
    (case l__law_papers => k_is)
    (case c__law_papers => k_is)
    (case k__law_papers => k_is)
    (case a__law_side_right => k_is)
    (case l__law_side_right => k_is)
    (case c__law_side_right => k_is)
    (case k__law_side_right => k_is)
    (case a__law_state_word => k_is)
    (case l__law_state_word => k_is)
    (case c__law_state_word => k_is)
    (case k__law_state_word => k_is)
    (case a__law_refused => k_is)
    (case l__law_refused => k_is)
    (case c__law_refused => k_is)
    (case k__law_refused => k_is)
    (case a__law_wrong_states_right => k_is)
    (case l__law_wrong_states_right => k_is)
    (case c__law_wrong_states_right => k_is)
    (case k__law_wrong_states_right => k_is)
    (case a_law => k_is)
    (case l_law => k_is)
    (case c_law => k_is)
    (case k_law => k_is)
    (case a_BadNumber => k_is)
    (case ex_BadNumber => k_is)
    (case ty_BadNumber => k_is)
    (case x_BadNumber => k_is)
    (case sa_BadNumber => k_is)
    (case iC_BadNumber => k_is)
    (case tC_BadNumber => k_is)
    (case kC_BadNumber => k_is)
    (case l_BadNumber => k_is)
    (case c_BadNumber => k_is)
    (case no0_BadNumber => k_is)
    (case ga_BadNumber => k_is)
    (case gg_BadNumber => k_is)
    (case hd_BadNumber => k_is)
    (case ic_BadNumber => k_is)
    (case ss_BadNumber => first | rfl | k_is)
    (case a_BadArena => k_is)
    (case ex_BadArena => k_is)
    (case ty_BadArena => k_is)
    (case x_BadArena => k_is)
    (case sa_BadArena => k_is)
    (case iC_BadArena => k_is)
    (case tC_BadArena => k_is)
    (case kC_BadArena => k_is)
    (case l_BadArena => k_is)
    (case c_BadArena => k_is)
    (case no0_BadArena => k_is)
    (case no1_BadArena => k_is)
    (case ga_BadArena => k_is)
    (case gg_BadArena => k_is)
    (case hd_BadArena => k_is)
    (case ic_BadArena => k_is)
    (case ss_BadArena => first | rfl | k_is)
    (case a_STATE_KINDS => k_is)
    (case v_STATE_KINDS => k_is)
