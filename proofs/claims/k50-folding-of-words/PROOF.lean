import PyProof.Rows.All
import Wide.All
import OpenK.AllK
import Wide.FinOn
import HandS.ForMost
import HandS.Wide
import HandS.IsInst
import HandS.Conv
import HandS.Flow
import HandS.Dict
import HandS.DictComp
import HandS.Text
import HandS.Style
import HandS.Replace
import HandS.More
import HandS.RaiseMore
import HandS.List
import HandS.Codes
import PySem.Challenge.RW_knewbetter_k50_folding_of_words
set_option Elab.async false
set_option linter.all false
set_option maxRecDepth 100000
set_option maxRecDepth 100000
set_option maxHeartbeats 2000000
/-! PV: what a def computes, told over plain data. D: data. O: what a slot holds (shared data, or a list | dict of the def's own that may still change). -/
namespace PV
open PySem L2

inductive D where
  | non | bl (b : Bool) | int (i : Int) | str (x : Str) | tup (ds : List D) | lst (ds : List D) | dk (kvs : List (Key × D)) | scr (ns : List Int) | opq (v : V)
  deriving Inhabited
inductive O where
  | shr (d : D) | ol (ds : List D) | od (kvs : List (Key × D))
  deriving Inhabited
def O.own : O → Bool
  | .shr _ => false
  | _ => true
def O.toD : O → D
  | .shr d => d
  | .ol ds => .lst ds
  | .od kvs => .dk kvs

mutual
inductive Dd (K : PySem.W.Frag) (H : Hp) : D → V → Prop
  | non : Dd K H .non .non
  | bl (b : Bool) : Dd K H (.bl b) (.bl b)
  | int (i : Int) : Dd K H (.int i) (.int i)
  | str (x : Str) : Dd K H (.str x) (.str x)
  | tup {a : Addr} {xs : List V} {ds : List D} : H a = some (.tup xs) → DdAll K H ds xs → Dd K H (.tup ds) (.ref a)
  | lst {a : Addr} {xs : List V} {ds : List D} : H a = some (.lst xs) → DdAll K H ds xs → Dd K H (.lst ds) (.ref a)
  | dk {a : Addr} {es : List (Key × V)} {kvs : List (Key × D)} : H a = some (.dK es) → DdKv K H kvs es → Dd K H (.dk kvs) (.ref a)
  | scr {a : Addr} {ns : List Int} : SqL K H a (ns.map V.int) → Dd K H (.scr ns) (.ref a)
  | opq (v : V) : Dd K H (.opq v) v
inductive DdAll (K : PySem.W.Frag) (H : Hp) : List D → List V → Prop
  | nil : DdAll K H [] []
  | cons {d : D} {v : V} {ds : List D} {vs : List V} : Dd K H d v → DdAll K H ds vs → DdAll K H (d :: ds) (v :: vs)
inductive DdKv (K : PySem.W.Frag) (H : Hp) : List (Key × D) → List (Key × V) → Prop
  | nil : DdKv K H [] []
  | cons {k : Key} {d : D} {v : V} {ds : List (Key × D)} {vs : List (Key × V)} : Dd K H d v → DdKv K H ds vs → DdKv K H ((k, d) :: ds) ((k, v) :: vs)
end

theorem rd_mono {H H' : Hp} (h : ∀ a o, H a = some o → H' a = some o) {a : Addr} {u : HO} : Rd H a u → Rd H' a u := by
  rintro (e | ⟨o, e⟩)
  · exact .inl (h _ _ e)
  · exact .inr ⟨o, h _ _ e⟩
theorem sq_mono {K : PySem.W.Frag} {H H' : Hp} (h : ∀ a o, H a = some o → H' a = some o) {a : Addr} {u : List V} : SqL K H a u → SqL K H' a u := by
  rintro (e | e)
  · exact .inl (rd_mono h e)
  · exact .inr e
section
variable {K : PySem.W.Frag} {H H' : Hp}
mutual
theorem Dd.mono (h : ∀ a o, H a = some o → H' a = some o) : ∀ {d : D} {v : V}, Dd K H d v → Dd K H' d v
  | _, _, .non => .non
  | _, _, .bl b => .bl b
  | _, _, .int b => .int b
  | _, _, .str b => .str b
  | _, _, .tup e q => .tup (h _ _ e) (DdAll.mono h q)
  | _, _, .lst e q => .lst (h _ _ e) (DdAll.mono h q)
  | _, _, .dk e q => .dk (h _ _ e) (DdKv.mono h q)
  | _, _, .scr e => .scr (sq_mono h e)
  | _, _, .opq v => .opq v
theorem DdAll.mono (h : ∀ a o, H a = some o → H' a = some o) : ∀ {d : List D} {v : List V}, DdAll K H d v → DdAll K H' d v
  | _, _, .nil => .nil
  | _, _, .cons a b => .cons (Dd.mono h a) (DdAll.mono h b)
theorem DdKv.mono (h : ∀ a o, H a = some o → H' a = some o) : ∀ {d : List (Key × D)} {v : List (Key × V)}, DdKv K H d v → DdKv K H' d v
  | _, _, .nil => .nil
  | _, _, .cons a b => .cons (Dd.mono h a) (DdKv.mono h b)
end
theorem DdAll.length : ∀ {ds : List D} {vs : List V}, DdAll K H ds vs → vs.length = ds.length
  | _, _, .nil => rfl
  | _, _, .cons _ t => by simp [DdAll.length t]
theorem DdAll.get : ∀ {ds : List D} {vs : List V} {i : Nat} {d : D}, DdAll K H ds vs → ds[i]? = some d → ∃ v, vs[i]? = some v ∧ Dd K H d v
  | _, _, _, _, .nil, e => by simp at e
  | _, _, 0, _, .cons r _, e => by simp at e; subst e; exact ⟨_, rfl, r⟩
  | _, _, i + 1, x, .cons _ t, e => by
    obtain ⟨u, h1, h2⟩ := DdAll.get (i := i) (d := x) t (by simpa using e)
    exact ⟨u, by simpa using h1, h2⟩
theorem DdAll.getV : ∀ {ds : List D} {vs : List V} {i : Nat} {v : V}, DdAll K H ds vs → vs[i]? = some v → ∃ d, ds[i]? = some d ∧ Dd K H d v
  | _, _, _, _, .nil, e => by simp at e
  | _, _, 0, _, .cons r _, e => by simp at e; subst e; exact ⟨_, rfl, r⟩
  | _, _, i + 1, x, .cons _ t, e => by
    obtain ⟨u, h1, h2⟩ := DdAll.getV (i := i) (v := x) t (by simpa using e)
    exact ⟨u, by simpa using h1, h2⟩
theorem DdAll.append : ∀ {xs ys : List D} {us ws : List V}, DdAll K H xs us → DdAll K H ys ws → DdAll K H (xs ++ ys) (us ++ ws)
  | _, _, _, _, .nil, s => s
  | _, _, _, _, .cons r t, s => .cons r (DdAll.append t s)
theorem DdAll.take : ∀ {xs : List D} {us : List V} (n : Nat), DdAll K H xs us → DdAll K H (xs.take n) (us.take n)
  | _, _, 0, _ => .nil
  | _, _, _ + 1, .nil => .nil
  | _, _, n + 1, .cons r t => .cons r (DdAll.take n t)
theorem DdAll.drop : ∀ {xs : List D} {us : List V} (n : Nat), DdAll K H xs us → DdAll K H (xs.drop n) (us.drop n)
  | _, _, 0, r => r
  | _, _, _ + 1, .nil => .nil
  | _, _, n + 1, .cons _ t => DdAll.drop n t
theorem DdAll.set {d : D} {v : V} (r : Dd K H d v) : ∀ {xs : List D} {us : List V} (i : Nat), DdAll K H xs us → DdAll K H (xs.set i d) (us.set i v)
  | _, _, _, .nil => .nil
  | _, _, 0, .cons _ t => .cons r t
  | _, _, i + 1, .cons q t => .cons q (DdAll.set r i t)
theorem DdAll.reverse {xs : List D} {us : List V} (h : DdAll K H xs us) : DdAll K H xs.reverse us.reverse := by
  induction xs generalizing us with
  | nil => cases h; exact .nil
  | cons x r ih =>
    cases h with
    | cons a b =>
      rw [List.reverse_cons, List.reverse_cons]
      exact (ih b).append (.cons a .nil)
theorem DdAll.ints : ∀ (ns : List Int), DdAll K H (ns.map D.int) (ns.map V.int)
  | [] => .nil
  | n :: r => .cons (.int n) (DdAll.ints r)
theorem DdAll.of_ints : ∀ {ns : List Int} {vs : List V}, DdAll K H (ns.map D.int) vs → vs = ns.map V.int
  | [], _, .nil => rfl
  | n :: r, _, .cons a b => by
    cases a
    rw [DdAll.of_ints b]
    rfl
theorem DdKv.length : ∀ {ds : List (Key × D)} {vs : List (Key × V)}, DdKv K H ds vs → vs.length = ds.length
  | _, _, .nil => rfl
  | _, _, .cons _ t => by simp [DdKv.length t]
end

/-- a slot: what it holds; pin: a parameter whose object the caller still holds; lk: a loop walks it -/
structure Slot where
  o : O
  pin : Bool := false
  lk : Bool := false
  deriving Inhabited
abbrev Sto := List (Option Slot)
inductive Hnd where
  | var (i : Nat) | tmp (o : O)
  deriving Inhabited

def ROk (K : PySem.W.Frag) (Hs H : Hp) (v : V) : O → Prop
  | .shr d => Dd K Hs d v
  | .ol ds => ∃ a xs, v = .ref a ∧ Hs a = none ∧ H a = some (.lst xs) ∧ DdAll K Hs ds xs
  | .od kvs => ∃ a es, v = .ref a ∧ Hs a = none ∧ H a = some (.dK es) ∧ DdKv K Hs kvs es

def owns (env : Sto) (i : Nat) : Prop := ∃ s : Slot, env[i]? = some (some s) ∧ s.o.own = true
def muts (env : Sto) (i : Nat) : Prop := ∃ s : Slot, env[i]? = some (some s) ∧ s.o.own = true ∧ s.lk = false
theorem muts.owns {env : Sto} {i : Nat} (h : muts env i) : owns env i := let ⟨s, a, b, _⟩ := h; ⟨s, a, b⟩
abbrev Mu := Addr → Prop
def Mof (σ : L2.St) (env : Sto) : Mu := fun a => ∃ i, muts env i ∧ σ[i]? = some (some (.ref a))

structure Ext (M : Mu) (Hs H Hs' H' : Hp) : Prop where
  hs : ∀ a o, Hs a = some o → Hs' a = some o
  kp : ∀ a o, H a = some o → ¬ M a → H' a = some o
  out : ∀ a o, H a = some o → Hs a = none → ¬ M a → Hs' a = none
  dom : ∀ a o, H a = some o → ∃ o', H' a = some o'
theorem Ext.refl {M : Mu} {Hs H : Hp} : Ext M Hs H Hs H := ⟨fun _ _ h => h, fun _ _ h _ => h, fun _ _ _ h _ => h, fun _ o h => ⟨o, h⟩⟩
theorem Ext.trans {M M1 : Mu} {Hs H Hs1 H1 Hs2 H2 : Hp} (a : Ext M Hs H Hs1 H1) (b : Ext M1 Hs1 H1 Hs2 H2) (m : ∀ x, M1 x → M x ∨ H x = none) : Ext M Hs H Hs2 H2 where
  hs := fun x o h => b.hs x o (a.hs x o h)
  kp := fun x o h n => b.kp x o (a.kp x o h n) fun q => (m x q).elim n fun z => by rw [z] at h; cases h
  out := fun x o h k n => b.out x o (a.kp x o h n) (a.out x o h k n) fun q => (m x q).elim n fun z => by rw [z] at h; cases h
  dom := fun x o h => let ⟨o', e⟩ := a.dom x o h; b.dom x o' e
theorem Ext.weak {M M' : Mu} {Hs H Hs' H' : Hp} (a : Ext M Hs H Hs' H') (m : ∀ x, M x → M' x) : Ext M' Hs H Hs' H' :=
  ⟨a.hs, fun x o h n => a.kp x o h fun z => n (m x z), fun x o h k n => a.out x o h k fun z => n (m x z), a.dom⟩
theorem Ext.new {M : Mu} {Hs H Hs' H' : Hp} (a : Ext M Hs H Hs' H') {x : Addr} (h : H' x = none) : H x = none := by
  cases e : H x with
  | none => rfl
  | some o =>
    obtain ⟨o', e'⟩ := a.dom x o e
    rw [h] at e'
    cases e'

structure R (K : PySem.W.Frag) (Hs H : Hp) (σ : L2.St) (env : Sto) : Prop where
  len : env.length = σ.length
  sub : ∀ a o, Hs a = some o → H a = some o
  ok : ∀ (i : Nat) (s : Slot), env[i]? = some (some s) → ∃ v, σ[i]? = some (some v) ∧ ROk K Hs H v s.o
  inj : ∀ (i j : Nat) (v : V), owns env i → owns env j → σ[i]? = some (some v) → σ[j]? = some (some v) → i = j

theorem ROk.ref {K : PySem.W.Frag} {Hs H : Hp} {v : V} {o : O} (h : ROk K Hs H v o) (w : o.own = true) : ∃ a u, v = .ref a ∧ Hs a = none ∧ H a = some u := by
  cases o with
  | shr d => cases w
  | ol ds => obtain ⟨a, xs, e, n, q, _⟩ := h; exact ⟨a, _, e, n, q⟩
  | od kvs => obtain ⟨a, xs, e, n, q, _⟩ := h; exact ⟨a, _, e, n, q⟩
/-- what stands, stands: shared data; a list of one's own that is not changed -/
theorem ROk.step {K : PySem.W.Frag} {M : Mu} {Hs H Hs' H' : Hp} {v : V} {o : O} (h : ROk K Hs H v o) (e : Ext M Hs H Hs' H') (n : o.own = true → ∀ a, v = .ref a → ¬ M a) : ROk K Hs' H' v o := by
  cases o with
  | shr d => exact Dd.mono e.hs h
  | ol ds =>
    obtain ⟨a, xs, rfl, k, q, t⟩ := h
    exact ⟨a, xs, rfl, e.out _ _ q k (n rfl a rfl), e.kp _ _ q (n rfl a rfl), t.mono e.hs⟩
  | od ds =>
    obtain ⟨a, xs, rfl, k, q, t⟩ := h
    exact ⟨a, xs, rfl, e.out _ _ q k (n rfl a rfl), e.kp _ _ q (n rfl a rfl), t.mono e.hs⟩

/-- what a piece of code leaves -/
structure Po (K : PySem.W.Frag) (Hs H : Hp) (σ : L2.St) (env : Sto) (Hs' H' : Hp) (σ' : L2.St) (env' : Sto) : Prop where
  r : R K Hs' H' σ' env'
  ext : Ext (Mof σ env) Hs H Hs' H'
  own : ∀ (i : Nat) (a : Addr), owns env' i → σ'[i]? = some (some (.ref a)) → (owns env i ∧ σ[i]? = some (some (.ref a)) ∧ (muts env' i → muts env i)) ∨ H a = none
  pin : ∀ (i : Nat) (s : Slot), env[i]? = some (some s) → s.pin = true → σ'[i]? = σ[i]? ∧ ∃ s' : Slot, env'[i]? = some (some s') ∧ s'.pin = true ∧ s'.lk = s.lk
  lk : ∀ (i : Nat) (s : Slot), env[i]? = some (some s) → s.lk = true → env'[i]? = some (some s) ∧ σ'[i]? = σ[i]?
  np : ∀ (i : Nat) (s' : Slot), env'[i]? = some (some s') → s'.pin = true → ∃ s : Slot, env[i]? = some (some s) ∧ s.pin = true
section
variable {K : PySem.W.Frag} {Hs H Hs' H' Hs1 H1 Hs2 H2 : Hp} {σ σ' σ1 σ2 : L2.St} {env env' env1 env2 : Sto}
theorem Po.refl (r : R K Hs H σ env) : Po K Hs H σ env Hs H σ env :=
  ⟨r, Ext.refl, fun i a o e => .inl ⟨o, e, fun m => m⟩, fun i s e p => ⟨rfl, s, e, p, rfl⟩, fun i s e l => ⟨e, rfl⟩, fun i s e p => ⟨s, e, p⟩⟩
theorem Po.mu (p : Po K Hs H σ env Hs1 H1 σ1 env1) : ∀ x, Mof σ1 env1 x → Mof σ env x ∨ H x = none := fun x ⟨i, m, e⟩ => by
  rcases p.own i x m.owns e with ⟨_, e', m'⟩ | n
  · exact .inl ⟨i, m' m, e'⟩
  · exact .inr n
theorem Po.trans (p : Po K Hs H σ env Hs1 H1 σ1 env1) (q : Po K Hs1 H1 σ1 env1 Hs2 H2 σ2 env2) : Po K Hs H σ env Hs2 H2 σ2 env2 where
  r := q.r
  ext := p.ext.trans q.ext p.mu
  own := fun i a o e => by
    rcases q.own i a o e with ⟨o1, e1, m1⟩ | n
    · rcases p.own i a o1 e1 with ⟨o2, e2, m2⟩ | n
      · exact .inl ⟨o2, e2, fun m => m2 (m1 m)⟩
      · exact .inr n
    · exact .inr (p.ext.new n)
  pin := fun i s e k => by
    obtain ⟨e1, s1, h1, k1, l1⟩ := p.pin i s e k
    obtain ⟨e2, s2, h2, k2, l2⟩ := q.pin i s1 h1 k1
    exact ⟨e2.trans e1, s2, h2, k2, l2.trans l1⟩
  lk := fun i s e k => by
    obtain ⟨e1, h1⟩ := p.lk i s e k
    obtain ⟨e2, h2⟩ := q.lk i s e1 k
    exact ⟨e2, h2.trans h1⟩
  np := fun i s e k => by
    obtain ⟨s1, e1, k1⟩ := q.np i s e k
    exact p.np i s1 e1 k1
theorem bot_not {M : Mu} {x : Addr} : ¬ (fun _ => False : Mu) x := fun z => z
/-- nothing that stood is changed -/
theorem R.keep (r : R K Hs H σ env) (e : Ext (fun _ => False) Hs H Hs' H') (sb : ∀ a o, Hs' a = some o → H' a = some o) : R K Hs' H' σ env :=
  ⟨r.len, sb, fun i s h => let ⟨v, a, b⟩ := r.ok i s h; ⟨v, a, b.step e fun _ _ _ z => z⟩, r.inj⟩
theorem Po.keep (r : R K Hs H σ env) (e : Ext (fun _ => False) Hs H Hs' H') (sb : ∀ a o, Hs' a = some o → H' a = some o) : Po K Hs H σ env Hs' H' σ env :=
  ⟨r.keep e sb, e.weak fun _ z => z.elim, fun i a o e => .inl ⟨o, e, fun m => m⟩, fun i s e p => ⟨rfl, s, e, p, rfl⟩, fun i s e l => ⟨e, rfl⟩, fun i s e p => ⟨s, e, p⟩⟩
/-- an owned slot's object is there -/
theorem R.there (r : R K Hs H σ env) {i : Nat} {a : Addr} (o : owns env i) (e : σ[i]? = some (some (.ref a))) : Hs a = none ∧ ∃ u, H a = some u := by
  obtain ⟨s, h, w⟩ := o
  obtain ⟨v, e', q⟩ := r.ok i s h
  rw [e] at e'
  cases e'
  obtain ⟨b, u, eb, n, h⟩ := q.ref w
  cases eb
  exact ⟨n, u, h⟩
end

/-! ### handles -/
def hGet (env : Sto) : Hnd → Option O
  | .var i => match env[i]? with
    | some (some s) => some s.o
    | _ => none
  | .tmp o => some o
/-- the value as shared data (a list of one's own is shared from here on) -/
def hTake (env : Sto) : Hnd → Option (D × Sto)
  | .tmp o => some (o.toD, env)
  | .var i => match env[i]? with
    | some (some s) => match s.o with
      | .shr d => some (d, env)
      | o => if s.lk then none else some (o.toD, env.set i (some { s with o := .shr o.toD }))
    | _ => none
def HOk (K : PySem.W.Frag) (Hs H : Hp) (σ : L2.St) (env : Sto) (v : V) : Hnd → Prop
  | .var i => σ[i]? = some (some v)
  | .tmp o => ROk K Hs H v o ∧ (o.own = true → ∀ (i : Nat), owns env i → σ[i]? ≠ some (some v))
/-- fresh as seen from H -/
def Fre (H : Hp) (v : V) (o : O) : Prop := o.own = true → ∀ a, v = .ref a → H a = none
def HFr (H : Hp) (v : V) : Hnd → Prop
  | .var _ => True
  | .tmp o => Fre H v o
section
variable {K : PySem.W.Frag} {Hs H Hs' H' Hs1 H1 Hs2 H2 : Hp} {σ σ' σ1 σ2 : L2.St} {env env' env1 env2 : Sto} {v : V} {h : Hnd} {o : O}
theorem hGet_var {i : Nat} (g : hGet env (.var i) = some o) : ∃ s : Slot, env[i]? = some (some s) ∧ s.o = o := by
  dsimp only [hGet] at g
  cases e : env[i]? with
  | none => rw [e] at g; cases g
  | some x =>
    cases x with
    | none => rw [e] at g; cases g
    | some s => rw [e] at g; exact ⟨s, rfl, Option.some.inj g⟩
theorem HOk.get (r : R K Hs H σ env) (k : HOk K Hs H σ env v h) (g : hGet env h = some o) : ROk K Hs H v o := by
  cases h with
  | tmp o' => cases g; exact k.1
  | var i =>
    obtain ⟨s, e, rfl⟩ := hGet_var g
    obtain ⟨u, e', q⟩ := r.ok i _ e
    have : σ[i]? = some (some v) := k
    rw [this] at e'
    cases e'
    exact q
theorem HOk.step (k : HOk K Hs H σ env v h) (p : Po K Hs H σ env Hs' H' σ env') : HOk K Hs' H' σ env' v h := by
  cases h with
  | var i => exact k
  | tmp o =>
    obtain ⟨k1, k2⟩ := k
    refine ⟨k1.step p.ext fun w a e ⟨i, m, ei⟩ => k2 w i m.owns (e ▸ ei), fun w i oi e => ?_⟩
    obtain ⟨a, u, ea, n, h⟩ := k1.ref w
    subst ea
    rcases p.own i a oi e with ⟨o2, e2, _⟩ | n'
    · exact k2 w i o2 e2
    · rw [n'] at h; cases h
theorem Fre.back {M : Mu} {Hs Hs' : Hp} (f : Fre H' v o) (e : Ext M Hs H Hs' H') : Fre H v o := fun w a q => e.new (f w a q)
theorem HFr.back {M : Mu} {Hs Hs' : Hp} (f : HFr H' v h) (e : Ext M Hs H Hs' H') : HFr H v h := by
  cases h with
  | var i => exact True.intro
  | tmp o => exact Fre.back f e
/-- a value that is new is none of the slots' -/
theorem HOk.new (r : R K Hs H σ env) (q : ROk K Hs' H' v o) (f : Fre H v o) : o.own = true → ∀ (i : Nat), owns env i → σ[i]? ≠ some (some v) := fun w i oi e => by
  obtain ⟨a, u, ea, n, _⟩ := q.ref w
  subst ea
  obtain ⟨_, u', hu⟩ := r.there oi e
  rw [f w a rfl] at hu
  cases hu
end

/-! ### sharing what was one's own -/
section
variable {K : PySem.W.Frag} {Hs H Hs' H' : Hp} {σ : L2.St} {env env' : Sto} {v : V} {h : Hnd} {o : O} {d : D}
/-- the object at a is shared from here on -/
theorem share {o : O} (q : ROk K Hs H v o) (w : o.own = true) (sb : ∀ a u, Hs a = some u → H a = some u) :
    ∃ a Hs', v = .ref a ∧ Hs a = none ∧ (∀ b, b ≠ a → Hs' b = Hs b) ∧ (∀ b u, Hs b = some u → Hs' b = some u) ∧ (∀ b u, Hs' b = some u → H b = some u) ∧ Dd K Hs' o.toD v := by
  cases o with
  | shr d => cases w
  | ol ds =>
    obtain ⟨a, xs, rfl, k, e, t⟩ := q
    have up : ∀ b u, Hs b = some u → upd Hs a (.lst xs) b = some u := fun b u hb => by rw [upd_ne (ne_of_none hb k)]; exact hb
    refine ⟨a, upd Hs a (.lst xs), rfl, k, fun b n => upd_ne n, up, fun b u hb => ?_, .lst upd_same (t.mono up)⟩
    by_cases z : b = a
    · subst z; rw [upd_same] at hb; cases hb; exact e
    · rw [upd_ne z] at hb; exact sb b u hb
  | od kvs =>
    obtain ⟨a, xs, rfl, k, e, t⟩ := q
    have up : ∀ b u, Hs b = some u → upd Hs a (.dK xs) b = some u := fun b u hb => by rw [upd_ne (ne_of_none hb k)]; exact hb
    refine ⟨a, upd Hs a (.dK xs), rfl, k, fun b n => upd_ne n, up, fun b u hb => ?_, .dk upd_same (t.mono up)⟩
    by_cases z : b = a
    · subst z; rw [upd_same] at hb; cases hb; exact e
    · rw [upd_ne z] at hb; exact sb b u hb
/-- behind sharing: all else as it was -/
theorem R.shared (r : R K Hs H σ env) {a : Addr} (k : Hs a = none) (n : ∀ b, b ≠ a → Hs' b = Hs b) (up : ∀ b u, Hs b = some u → Hs' b = some u) (sb : ∀ b u, Hs' b = some u → H b = some u)
    (le : env'.length = env.length) (ok : ∀ (i : Nat) (s : Slot), env'[i]? = some (some s) → (env[i]? = some (some s) ∧ (s.o.own = true → σ[i]? ≠ some (some (.ref a)))) ∨ ∃ v, σ[i]? = some (some v) ∧ s.o.own = false ∧ ROk K Hs' H v s.o) : R K Hs' H σ env' := by
  have ow : ∀ i, owns env' i → owns env i := fun i ⟨s, e, w⟩ => by
    rcases ok i s e with ⟨q, _⟩ | ⟨_, _, q, _⟩
    · exact ⟨s, q, w⟩
    · rw [q] at w; cases w
  refine ⟨le.trans r.len, sb, fun i s e => ?_, fun i j v h1 h2 => r.inj i j v (ow i h1) (ow j h2)⟩
  rcases ok i s e with ⟨q, ne⟩ | ⟨v, q, _, z⟩
  · obtain ⟨v, ev, rv⟩ := r.ok i s q
    refine ⟨v, ev, ?_⟩
    cases ho : s.o with
    | shr d => rw [ho] at rv; exact Dd.mono up rv
    | ol ds =>
      rw [ho] at rv ne
      obtain ⟨b, xs, rfl, kb, eb, t⟩ := rv
      exact ⟨b, xs, rfl, (n b fun z => ne rfl (z ▸ ev)).trans kb, eb, t.mono up⟩
    | od ds =>
      rw [ho] at rv ne
      obtain ⟨b, xs, rfl, kb, eb, t⟩ := rv
      exact ⟨b, xs, rfl, (n b fun z => ne rfl (z ▸ ev)).trans kb, eb, t.mono up⟩
  · exact ⟨v, q, z⟩
/-- a handle's value taken as shared data; H0: the heap as the expression began -/
theorem take_ok {H0 : Hp} (r : R K Hs H σ env) (k : HOk K Hs H σ env v h) (f : HFr H0 v h) (g : hTake env h = some (d, env')) :
    ∃ Hs', R K Hs' H σ env' ∧ Dd K Hs' d v ∧ Ext (fun a => Mof σ env a ∨ H0 a = none) Hs H Hs' H ∧
      (∀ i a, owns env' i → σ[i]? = some (some (.ref a)) → owns env i ∧ (muts env' i → muts env i)) ∧ (∀ (i : Nat) (s : Slot), env[i]? = some (some s) → s.pin = true → ∃ s' : Slot, env'[i]? = some (some s') ∧ s'.pin = true ∧ s'.lk = s.lk) ∧ (∀ (i : Nat) (s : Slot), env[i]? = some (some s) → s.lk = true → env'[i]? = some (some s)) ∧ (∀ (i : Nat) (s' : Slot), env'[i]? = some (some s') → s'.pin = true → ∃ s : Slot, env[i]? = some (some s) ∧ s.pin = true) := by
  have ident : Ext (fun a => Mof σ env a ∨ H0 a = none) Hs H Hs H := Ext.refl
  cases h with
  | tmp o =>
    obtain ⟨rfl, rfl⟩ := Prod.mk.inj (Option.some.inj g)
    obtain ⟨k1, k2⟩ := k
    cases w : o.own with
    | false =>
      cases o with
      | shr d => exact ⟨Hs, r, k1, ident, fun i a o _ => ⟨o, id⟩, fun i s e p => ⟨s, e, p, rfl⟩, fun i s e _ => e, fun i s e p => ⟨s, e, p⟩⟩
      | ol ds => cases w
      | od ds => cases w
    | true =>
      obtain ⟨a, Hs', rfl, kn, n, up, sb, dd⟩ := share k1 w r.sub
      refine ⟨Hs', r.shared kn n up sb rfl fun i s e => .inl ⟨e, fun ow => k2 w i ⟨s, e, ow⟩⟩, dd, ⟨up, fun _ _ e _ => e, fun b u e hb nm => ?_, fun b u e => ⟨u, e⟩⟩, fun i a o _ => ⟨o, id⟩, fun i s e p => ⟨s, e, p, rfl⟩, fun i s e _ => e, fun i s e p => ⟨s, e, p⟩⟩
      by_cases z : b = a
      · subst z; exact absurd (.inr (f w b rfl)) nm
      · rw [n b z]; exact hb
  | var i =>
    have ev : σ[i]? = some (some v) := k
    dsimp only [hTake] at g
    cases e : env[i]? with
    | none => rw [e] at g; cases g
    | some x =>
      cases x with
      | none => rw [e] at g; cases g
      | some s =>
        rw [e] at g
        obtain ⟨v', ev', q⟩ := r.ok i s e
        rw [ev] at ev'
        cases ev'
        obtain ⟨so, sp, sl⟩ := s
        have own_case : so.own = true → (if sl = true then none else some (so.toD, env.set i (some { o := .shr so.toD, pin := sp, lk := sl }))) = some (d, env') → ∃ Hs', R K Hs' H σ env' ∧ Dd K Hs' d v ∧ Ext (fun a => Mof σ env a ∨ H0 a = none) Hs H Hs' H ∧
            (∀ i a, owns env' i → σ[i]? = some (some (.ref a)) → owns env i ∧ (muts env' i → muts env i)) ∧ (∀ (i : Nat) (s : Slot), env[i]? = some (some s) → s.pin = true → ∃ s' : Slot, env'[i]? = some (some s') ∧ s'.pin = true ∧ s'.lk = s.lk) ∧ (∀ (i : Nat) (s : Slot), env[i]? = some (some s) → s.lk = true → env'[i]? = some (some s)) ∧ (∀ (i : Nat) (s' : Slot), env'[i]? = some (some s') → s'.pin = true → ∃ s : Slot, env[i]? = some (some s) ∧ s.pin = true) := by
          intro w g
          cases sl with
          | true => cases g
          | false =>
            obtain ⟨rfl, rfl⟩ := Prod.mk.inj (Option.some.inj g)
            have hi : i < env.length := (List.getElem?_eq_some_iff.mp e).1
            obtain ⟨a, Hs', rfl, kn, n, up, sb, dd⟩ := share q w r.sub
            have at_ : ∀ (j : Nat) (s : Slot), (env.set i (some { o := .shr so.toD, pin := sp, lk := false }))[j]? = some (some s) → (j = i ∧ s = { o := .shr so.toD, pin := sp, lk := false }) ∨ (j ≠ i ∧ env[j]? = some (some s)) := fun j s ej => by
              by_cases z : i = j
              · subst z
                rw [List.getElem?_set_self hi] at ej
                exact .inl ⟨rfl, (Option.some.inj (Option.some.inj ej)).symm⟩
              · rw [List.getElem?_set_ne z] at ej
                exact .inr ⟨fun w => z w.symm, ej⟩
            refine ⟨Hs', r.shared kn n up sb (by simp) fun j s ej => ?_, dd, ⟨up, fun _ _ e _ => e, fun b u eb hb nm => ?_, fun b u e => ⟨u, e⟩⟩, fun j b ⟨s, ej, ow⟩ _ => ?_, fun j s ej p => ?_, fun j s ej l => ?_, fun j s ej p => ?_⟩
            · rcases at_ j s ej with ⟨rfl, rfl⟩ | ⟨ne, ej⟩
              · exact .inr ⟨_, ev, rfl, dd⟩
              · exact .inl ⟨ej, fun ow z => ne (r.inj j i _ ⟨s, ej, ow⟩ ⟨_, e, w⟩ z ev)⟩
            · by_cases z : b = a
              · subst z; exact absurd (.inl ⟨i, ⟨_, e, w, rfl⟩, ev⟩) nm
              · rw [n b z]; exact hb
            · rcases at_ j s ej with ⟨rfl, rfl⟩ | ⟨ne, ej⟩
              · cases ow
              · refine ⟨⟨s, ej, ow⟩, fun ⟨s', e', w', l'⟩ => ?_⟩
                rcases at_ j s' e' with ⟨rfl, _⟩ | ⟨_, e'⟩
                · exact absurd rfl ne
                · exact ⟨s', e', w', l'⟩
            · by_cases z : i = j
              · subst z
                rw [e] at ej
                cases ej
                exact ⟨_, List.getElem?_set_self hi, p, rfl⟩
              · exact ⟨s, by rw [List.getElem?_set_ne z]; exact ej, p, rfl⟩
            · have z : i ≠ j := fun z => by
                subst z
                rw [e] at ej
                cases ej
                cases l
              rw [List.getElem?_set_ne z]
              exact ej
            · rcases at_ j s ej with ⟨rfl, rfl⟩ | ⟨ne, ej⟩
              · exact ⟨_, e, p⟩
              · exact ⟨s, ej, p⟩
        cases so with
        | shr d' =>
          obtain ⟨rfl, rfl⟩ := Prod.mk.inj (Option.some.inj g)
          exact ⟨Hs, r, q, ident, fun i a o _ => ⟨o, id⟩, fun i s e p => ⟨s, e, p, rfl⟩, fun i s e _ => e, fun i s e p => ⟨s, e, p⟩⟩
        | ol ds => exact own_case rfl g
        | od ds => exact own_case rfl g
end
end PV

set_option maxRecDepth 100000
set_option maxHeartbeats 2000000
namespace PV
open PySem L2
abbrev EF := Sto → Option (Hnd × Sto)
abbrev DF := Sto → Option (D × Sto)
abbrev DsF := Sto → Option (List D × Sto)
abbrev HsF := Sto → Option (List Hnd × Sto)
abbrev BF := Sto → Option (Bool × Sto)

def SatE (K : PySem.W.Frag) (t : TE) (f : EF) : Prop := ∀ Hs H σ env h env', R K Hs H σ env → f env = some (h, env') →
  ∀ Q : VK, (∀ Hs' H' v, Po K Hs H σ env Hs' H' σ env' → HOk K Hs' H' σ env' v h → HFr H v h → Q v H') → t σ H Q
def SatD (K : PySem.W.Frag) (t : TE) (f : DF) : Prop := ∀ Hs H σ env d env', R K Hs H σ env → f env = some (d, env') →
  ∀ Q : VK, (∀ Hs' H' v, Po K Hs H σ env Hs' H' σ env' → Dd K Hs' d v → Q v H') → t σ H Q
def SatDs (K : PySem.W.Frag) (t : TA) (f : DsF) : Prop := ∀ Hs H σ env ds env', R K Hs H σ env → f env = some (ds, env') →
  ∀ Q : List V → Hp → Prop, (∀ Hs' H' vs, Po K Hs H σ env Hs' H' σ env' → DdAll K Hs' ds vs → Q vs H') → t σ H Q
def SatT (K : PySem.W.Frag) (t : TT) (f : BF) : Prop := ∀ Hs H σ env b env', R K Hs H σ env → f env = some (b, env') →
  ∀ Q : Bool → Hp → Prop, (∀ Hs' H', Po K Hs H σ env Hs' H' σ env' → Q b H') → t σ H Q
/-- handles in a row: no two new objects of one address -/
inductive HOks (K : PySem.W.Frag) (Hs H : Hp) (σ : L2.St) (env : Sto) : List V → List Hnd → Prop
  | nil : HOks K Hs H σ env [] []
  | cons {v : V} {h : Hnd} {vs : List V} {hs : List Hnd} : HOk K Hs H σ env v h → (∀ o, h = .tmp o → o.own = true → ∀ (j : Nat) o', hs[j]? = some (.tmp o') → o'.own = true → vs[j]? ≠ some v) → HOks K Hs H σ env vs hs → HOks K Hs H σ env (v :: vs) (h :: hs)
inductive HFrs (H : Hp) : List V → List Hnd → Prop
  | nil : HFrs H [] []
  | cons {v : V} {h : Hnd} {vs : List V} {hs : List Hnd} : HFr H v h → HFrs H vs hs → HFrs H (v :: vs) (h :: hs)
def SatHs (K : PySem.W.Frag) (t : TA) (f : HsF) : Prop := ∀ Hs H σ env hs env', R K Hs H σ env → f env = some (hs, env') →
  ∀ Q : List V → Hp → Prop, (∀ Hs' H' vs, Po K Hs H σ env Hs' H' σ env' → HOks K Hs' H' σ env' vs hs → HFrs H vs hs → Q vs H') → t σ H Q

/-! ### the pieces that only compute -/
def vVar (i : Nat) : EF := fun env => match env[i]? with
  | some (some _) => some (.var i, env)
  | _ => none
def vC (d : D) : EF := fun env => some (.tmp (.shr d), env)
def vO (o : O) : EF := fun env => some (.tmp o, env)
def vTake (f : EF) : DF := fun env => (f env).bind fun p => hTake p.2 p.1
def vRet (f : DF) : EF := fun env => (f env).bind fun p => some (.tmp (.shr p.1), p.2)
def vBin (op : O → O → Option O) (fa fb : EF) : EF := fun env => (fa env).bind fun p => (fb p.2).bind fun q => (hGet q.2 p.1).bind fun x => (hGet q.2 q.1).bind fun y => (op x y).bind fun o => some (.tmp o, q.2)
def vUn (op : O → Option O) (fa : EF) : EF := fun env => (fa env).bind fun p => (hGet p.2 p.1).bind fun x => (op x).bind fun o => some (.tmp o, p.2)
def vNilD : DsF := fun env => some ([], env)
def vConsD (f : DF) (r : DsF) : DsF := fun env => (f env).bind fun p => (r p.2).bind fun q => some (p.1 :: q.1, q.2)
def vNilH : HsF := fun env => some ([], env)
def vConsH (f : EF) (r : HsF) : HsF := fun env => (f env).bind fun p => (r p.2).bind fun q => some (p.1 :: q.1, q.2)
def vTup (f : DsF) : EF := fun env => (f env).bind fun p => if p.1.length ≤ 100000 then some (.tmp (.shr (.tup p.1)), p.2) else none
def vLst (f : DsF) : EF := fun env => (f env).bind fun p => if p.1.length ≤ 100000 then some (.tmp (.ol p.1), p.2) else none
def vIf (c : BF) (fa fb : EF) : EF := fun env => (c env).bind fun p => if p.1 then fa p.2 else fb p.2
def bAnd (a b : BF) : BF := fun env => (a env).bind fun p => if p.1 then b p.2 else some (false, p.2)
def bOr (a b : BF) : BF := fun env => (a env).bind fun p => if p.1 then some (true, p.2) else b p.2
def bNot (a : BF) : BF := fun env => (a env).bind fun p => some (!p.1, p.2)
def asB : O → Option Bool
  | .shr (.bl b) => some b
  | _ => none
/-- an expression that gives True or False, as a test -/
def bVal (f : EF) : BF := fun env => (f env).bind fun p => (hGet p.2 p.1).bind fun o => (asB o).bind fun b => some (b, p.2)
/-- a test as a value -/
def vB (b : BF) : EF := fun env => (b env).bind fun p => some (.tmp (.shr (.bl p.1)), p.2)
def hGets (env : Sto) : List Hnd → Option (List O)
  | [] => some []
  | h :: r => (hGet env h).bind fun o => (hGets env r).bind fun os => some (o :: os)
def vCallB (op : List O → Option O) (f : HsF) : EF := fun env => (f env).bind fun p => (hGets p.2 p.1).bind fun os => (op os).bind fun o => some (.tmp o, p.2)

/-- what an operation on values gives -/
def Res (K : PySem.W.Frag) (Hs H : Hp) (o : O) (Q : VK) : Prop := ∀ Hs' H' v, Ext (fun _ => False) Hs H Hs' H' → (∀ a u, Hs' a = some u → H' a = some u) → ROk K Hs' H' v o → Fre H v o → Q v H'
theorem Res.val {K : PySem.W.Frag} {Hs H : Hp} {d : D} {v : V} {Q : VK} (q : Res K Hs H (.shr d) Q) (sb : ∀ a u, Hs a = some u → H a = some u) (h : Dd K Hs d v) : Q v H :=
  q Hs H v Ext.refl sb h fun w => nomatch w
theorem ext_new {Hs H : Hp} {p : Addr} {o : HO} (n : H p = none) (sb : ∀ a u, Hs a = some u → H a = some u) : Ext (fun _ => False) Hs H Hs (upd H p o) :=
  ⟨fun _ _ h => h, fun a u h _ => by rw [upd_ne (ne_of_none h n)]; exact h, fun _ _ _ h _ => h, fun a u h => ⟨u, by rw [upd_ne (ne_of_none h n)]; exact h⟩⟩
theorem ext_newS {Hs H : Hp} {p : Addr} {o : HO} (n : H p = none) (sb : ∀ a u, Hs a = some u → H a = some u) : Ext (fun _ => False) Hs H (upd Hs p o) (upd H p o) := by
  have ns : Hs p = none := by
    cases e : Hs p with
    | none => rfl
    | some u => rw [sb _ _ e] at n; cases n
  exact ⟨fun a u h => by rw [upd_ne (ne_of_none h ns)]; exact h, fun a u h _ => by rw [upd_ne (ne_of_none h n)]; exact h, fun a u h k _ => by rw [upd_ne (ne_of_none h n)]; exact k, fun a u h => ⟨u, by rw [upd_ne (ne_of_none h n)]; exact h⟩⟩
theorem sub_new {Hs H : Hp} {p : Addr} {o : HO} (n : H p = none) (sb : ∀ a u, Hs a = some u → H a = some u) : ∀ a u, Hs a = some u → upd H p o a = some u := fun a u h => by
  rw [upd_ne (ne_of_none (sb _ _ h) n)]; exact sb _ _ h
theorem sub_newS {Hs H : Hp} {p : Addr} {o : HO} (sb : ∀ a u, Hs a = some u → H a = some u) : ∀ a u, upd Hs p o a = some u → upd H p o a = some u := fun a u h => by
  by_cases z : a = p
  · subst z; rw [upd_same] at h ⊢; exact h
  · rw [upd_ne z] at h ⊢; exact sb _ _ h
theorem none_s {Hs H : Hp} {p : Addr} (n : H p = none) (sb : ∀ a u, Hs a = some u → H a = some u) : Hs p = none := by
  cases e : Hs p with
  | none => rfl
  | some u => rw [sb _ _ e] at n; cases n
/-- a new list, a new tuple -/
theorem Res.lst {K : PySem.W.Frag} {Hs H : Hp} {ds : List D} {xs : List V} {Q : VK} (q : Res K Hs H (.ol ds) Q) (sb : ∀ a u, Hs a = some u → H a = some u) (h : DdAll K Hs ds xs) : ∀ p, H p = none → Q (.ref p) (upd H p (.lst xs)) := fun p n =>
  q Hs (upd H p (.lst xs)) (.ref p) (ext_new n sb) (sub_new n sb) ⟨p, xs, rfl, none_s n sb, upd_same, h⟩ fun _ a e => by cases e; exact n
theorem Res.tup {K : PySem.W.Frag} {Hs H : Hp} {ds : List D} {xs : List V} {Q : VK} (q : Res K Hs H (.shr (.tup ds)) Q) (sb : ∀ a u, Hs a = some u → H a = some u) (h : DdAll K Hs ds xs) : ∀ p, H p = none → Q (.ref p) (upd H p (.tup xs)) := fun p n =>
  q (upd Hs p (.tup xs)) (upd H p (.tup xs)) (.ref p) (ext_newS n sb) (sub_newS sb) (.tup upd_same (h.mono (ext_newS n sb).hs)) fun w => nomatch w
theorem Res.dic {K : PySem.W.Frag} {Hs H : Hp} {kvs : List (Key × D)} {xs : List (Key × V)} {Q : VK} (q : Res K Hs H (.od kvs) Q) (sb : ∀ a u, Hs a = some u → H a = some u) (h : DdKv K Hs kvs xs) : ∀ p, H p = none → Q (.ref p) (upd H p (.dK xs)) := fun p n =>
  q Hs (upd H p (.dK xs)) (.ref p) (ext_new n sb) (sub_new n sb) ⟨p, xs, rfl, none_s n sb, upd_same, h⟩ fun _ a e => by cases e; exact n
def OpSat (K : PySem.W.Frag) (r : R2) (op : O → O → Option O) : Prop := ∀ Hs H x y ox oy o, (∀ a u, Hs a = some u → H a = some u) → ROk K Hs H x ox → ROk K Hs H y oy → op ox oy = some o → ∀ Q, Res K Hs H o Q → r x y H Q
def UnSat (K : PySem.W.Frag) (r : V → Hp → VK → Prop) (op : O → Option O) : Prop := ∀ Hs H x ox o, (∀ a u, Hs a = some u → H a = some u) → ROk K Hs H x ox → op ox = some o → ∀ Q, Res K Hs H o Q → r x H Q
inductive ROks (K : PySem.W.Frag) (Hs H : Hp) : List V → List O → Prop
  | nil : ROks K Hs H [] []
  | cons {v : V} {o : O} {vs : List V} {os : List O} : ROk K Hs H v o → ROks K Hs H vs os → ROks K Hs H (v :: vs) (o :: os)
def CallSat (K : PySem.W.Frag) (r : List V → Hp → VK → Prop) (op : List O → Option O) : Prop := ∀ Hs H xs os o, (∀ a u, Hs a = some u → H a = some u) → ROks K Hs H xs os → op os = some o → ∀ Q, Res K Hs H o Q → r xs H Q

section
variable {K : PySem.W.Frag} {Hs H Hs' H' Hs1 H1 Hs2 H2 H0 Hs0 : Hp} {σ : L2.St} {env env' env0 env1 env2 : Sto} {v : V} {h : Hnd} {o : O} {d : D}
theorem Po.took (p : Po K Hs0 H0 σ env0 Hs H σ env) (k : HOk K Hs H σ env v h) (f : HFr H0 v h) (g : hTake env h = some (d, env')) : ∃ Hs', Po K Hs0 H0 σ env0 Hs' H σ env' ∧ Dd K Hs' d v := by
  obtain ⟨Hs', r, dd, e, ow, pi, lk, np⟩ := take_ok p.r k f g
  refine ⟨Hs', ⟨r, p.ext.trans e fun x z => z.elim (p.mu x) .inr, fun i a oi e => ?_, fun i s e1 k1 => ?_, fun i s e1 k1 => ?_, fun i s e1 k1 => ?_⟩, dd⟩
  · obtain ⟨o1, m1⟩ := ow i a oi e
    rcases p.own i a o1 e with ⟨o2, e2, m2⟩ | n
    · exact .inl ⟨o2, e2, fun m => m2 (m1 m)⟩
    · exact .inr n
  · obtain ⟨es, s1, h1, k2, l2⟩ := p.pin i s e1 k1
    obtain ⟨s2, h2, k3, l3⟩ := pi i s1 h1 k2
    exact ⟨es, s2, h2, k3, l3.trans l2⟩
  · obtain ⟨e2, es⟩ := p.lk i s e1 k1
    exact ⟨lk i s e2 k1, es⟩
  · obtain ⟨s1, e2, k2⟩ := np i s e1 k1
    exact p.np i s1 e2 k2
/-- behind an operation on values -/
theorem Po.res {Q : VK} (p : Po K Hs0 H0 σ env0 Hs H σ env) (q : ∀ Hs' H' v, Po K Hs0 H0 σ env0 Hs' H' σ env → HOk K Hs' H' σ env v (.tmp o) → HFr H0 v (.tmp o) → Q v H') : Res K Hs H o Q := fun Hs' H' v e sb k f =>
  q Hs' H' v (p.trans (Po.keep p.r e sb)) ⟨k, HOk.new p.r k f⟩ (Fre.back f p.ext)
theorem HOks.step {vs : List V} {hs : List Hnd} (k : HOks K Hs H σ env vs hs) (p : Po K Hs H σ env Hs' H' σ env') : HOks K Hs' H' σ env' vs hs := by
  induction k with
  | nil => exact .nil
  | cons a b _ ih => exact .cons (a.step p) b ih
theorem HOks.gets {vs : List V} {hs : List Hnd} (r : R K Hs H σ env) (k : HOks K Hs H σ env vs hs) : ∀ {os : List O}, hGets env hs = some os → ROks K Hs H vs os := by
  induction k with
  | nil => intro os g; cases g; exact .nil
  | cons a b _ ih =>
    intro os g
    simp only [hGets, Option.bind_eq_some_iff] at g
    obtain ⟨o, g1, os', g2, e⟩ := g
    cases e
    exact .cons (a.get r g1) (ih g2)
theorem HFrs.back {M : Mu} {vs : List V} {hs : List Hnd} (f : HFrs H' vs hs) (e : Ext M Hs H Hs' H') : HFrs H vs hs := by
  induction f with
  | nil => exact .nil
  | cons a _ ih => exact .cons (HFr.back a e) ih
theorem HFrs.get {vs : List V} {hs : List Hnd} (f : HFrs H vs hs) : ∀ {j : Nat} {v : V} {h : Hnd}, vs[j]? = some v → hs[j]? = some h → HFr H v h := by
  induction f with
  | nil => intro j v h e; simp at e
  | cons a _ ih =>
    intro j v h e1 e2
    cases j with
    | zero => simp at e1 e2; subst e1; subst e2; exact a
    | succ j => exact ih (by simpa using e1) (by simpa using e2)

variable {ta tb tc : TE} {fa fb fc : EF} {t : TA} {fd : DF} {fds : DsF} {fhs : HsF} {tt tu : TT} {ba bb : BF}
theorem sat_var {i : Nat} : SatE K (tVar i) (vVar i) := fun Hs H σ env h env' r g Q q => by
  unfold vVar at g
  cases e : env[i]? with
  | none => rw [e] at g; cases g
  | some x =>
    cases x with
    | none => rw [e] at g; cases g
    | some s =>
      rw [e] at g
      obtain ⟨rfl, rfl⟩ := Prod.mk.inj (Option.some.inj g)
      obtain ⟨v, ev, _⟩ := r.ok i s e
      exact ⟨v, ev, q Hs H v (Po.refl r) ev True.intro⟩
theorem sat_c {d : D} {v : V} (h : ∀ Hs, Dd K Hs d v) : SatE K (tC v) (vC d) := fun Hs H σ env hd env' r g Q q => by
  obtain ⟨rfl, rfl⟩ := Prod.mk.inj (Option.some.inj g)
  exact q Hs H v (Po.refl r) ⟨h Hs, fun w => nomatch w⟩ fun w => nomatch w
theorem sat_take (ha : SatE K ta fa) : SatD K ta (vTake fa) := fun Hs H σ env d env' r g Q q => by
  simp only [vTake, Option.bind_eq_some_iff] at g
  obtain ⟨⟨h, e1⟩, g1, g2⟩ := g
  refine ha Hs H σ env h e1 r g1 Q fun Hs1 H1 v p1 k1 f1 => ?_
  obtain ⟨Hs2, p2, dd⟩ := p1.took k1 f1 g2
  exact q Hs2 H1 v p2 dd
theorem sat_ret (ha : SatD K ta fd) : SatE K ta (vRet fd) := fun Hs H σ env h env' r g Q q => by
  simp only [vRet, Option.bind_eq_some_iff] at g
  obtain ⟨⟨d, e1⟩, g1, g2⟩ := g
  obtain ⟨rfl, rfl⟩ := Prod.mk.inj (Option.some.inj g2)
  exact ha Hs H σ env d e1 r g1 Q fun Hs1 H1 v p1 dd => q Hs1 H1 v p1 ⟨dd, fun w => nomatch w⟩ fun w => nomatch w
theorem sat_bin {r : R2} {op : O → O → Option O} (hop : OpSat K r op) (ha : SatE K ta fa) (hb : SatE K tb fb) : SatE K (tOp r ta tb) (vBin op fa fb) := fun Hs H σ env h env' rr g Q q => by
  simp only [vBin, Option.bind_eq_some_iff] at g
  obtain ⟨⟨x, e1⟩, g1, ⟨y, e2⟩, g2, ox, g3, oy, g4, o, g5, g6⟩ := g
  obtain ⟨rfl, rfl⟩ := Prod.mk.inj (Option.some.inj g6)
  refine ha Hs H σ env x e1 rr g1 _ fun Hs1 H1 v p1 k1 f1 => ?_
  refine hb Hs1 H1 σ e1 y _ p1.r g2 _ fun Hs2 H2 u p2 k2 f2 => ?_
  exact hop Hs2 H2 v u ox oy o p2.r.sub ((k1.step p2).get p2.r g3) (k2.get p2.r g4) g5 Q ((p1.trans p2).res q)
theorem sat_un {r : V → Hp → VK → Prop} {op : O → Option O} (hop : UnSat K r op) (ha : SatE K ta fa) : SatE K (tUn r ta) (vUn op fa) := fun Hs H σ env h env' rr g Q q => by
  simp only [vUn, Option.bind_eq_some_iff] at g
  obtain ⟨⟨x, e1⟩, g1, ox, g3, o, g5, g6⟩ := g
  obtain ⟨rfl, rfl⟩ := Prod.mk.inj (Option.some.inj g6)
  refine ha Hs H σ env x _ rr g1 _ fun Hs1 H1 v p1 k1 f1 => ?_
  exact hop Hs1 H1 v ox o p1.r.sub (k1.get p1.r g3) g5 Q (p1.res q)
theorem sat_nilD : SatDs K tNil vNilD := fun Hs H σ env ds env' r g Q q => by
  obtain ⟨rfl, rfl⟩ := Prod.mk.inj (Option.some.inj g)
  exact q Hs H [] (Po.refl r) .nil
theorem sat_consD (ha : SatD K ta fd) (hr : SatDs K t fds) : SatDs K (tCons ta t) (vConsD fd fds) := fun Hs H σ env ds env' r g Q q => by
  simp only [vConsD, Option.bind_eq_some_iff] at g
  obtain ⟨⟨d, e1⟩, g1, ⟨ds1, e2⟩, g2, g3⟩ := g
  obtain ⟨rfl, rfl⟩ := Prod.mk.inj (Option.some.inj g3)
  refine ha Hs H σ env d e1 r g1 _ fun Hs1 H1 v p1 d1 => ?_
  refine hr Hs1 H1 σ e1 ds1 _ p1.r g2 _ fun Hs2 H2 vs p2 d2 => ?_
  exact q Hs2 H2 _ (p1.trans p2) (.cons (d1.mono p2.ext.hs) d2)
theorem sat_nilH : SatHs K tNil vNilH := fun Hs H σ env ds env' r g Q q => by
  obtain ⟨rfl, rfl⟩ := Prod.mk.inj (Option.some.inj g)
  exact q Hs H [] (Po.refl r) .nil .nil
theorem sat_consH (ha : SatE K ta fa) (hr : SatHs K t fhs) : SatHs K (tCons ta t) (vConsH fa fhs) := fun Hs H σ env ds env' r g Q q => by
  simp only [vConsH, Option.bind_eq_some_iff] at g
  obtain ⟨⟨h, e1⟩, g1, ⟨hs, e2⟩, g2, g3⟩ := g
  obtain ⟨rfl, rfl⟩ := Prod.mk.inj (Option.some.inj g3)
  refine ha Hs H σ env h e1 r g1 _ fun Hs1 H1 v p1 d1 f1 => ?_
  refine hr Hs1 H1 σ e1 hs _ p1.r g2 _ fun Hs2 H2 vs p2 d2 f2 => ?_
  refine q Hs2 H2 _ (p1.trans p2) (.cons (d1.step p2) (fun o eo ow j o' ej ow' ev => ?_) d2) (.cons f1 (f2.back p1.ext))
  subst eo
  obtain ⟨a, u, rfl, n, hh⟩ := d1.1.ref ow
  have : H1 a = none := (f2.get ev ej) ow' a rfl
  rw [this] at hh
  cases hh
theorem sz100 {n : Nat} (h : n ≤ 100000) : n ≤ sizeLine := Nat.le_trans h (by decide)
theorem sat_tup (ha : SatDs K t fds) : SatE K (tTup t) (vTup fds) := fun Hs H σ env h env' r g Q q => by
  simp only [vTup, Option.bind_eq_some_iff] at g
  obtain ⟨⟨ds, e1⟩, g1, g2⟩ := g
  split at g2
  · next hl =>
    obtain ⟨rfl, rfl⟩ := Prod.mk.inj (Option.some.inj g2)
    refine ha Hs H σ env ds _ r g1 _ fun Hs1 H1 vs p1 d1 => ?_
    exact ⟨by rw [d1.length]; exact sz100 hl, (p1.res q).tup p1.r.sub d1⟩
  · cases g2
theorem sat_lst (ha : SatDs K t fds) : SatE K (tLst t) (vLst fds) := fun Hs H σ env h env' r g Q q => by
  simp only [vLst, Option.bind_eq_some_iff] at g
  obtain ⟨⟨ds, e1⟩, g1, g2⟩ := g
  split at g2
  · next hl =>
    obtain ⟨rfl, rfl⟩ := Prod.mk.inj (Option.some.inj g2)
    refine ha Hs H σ env ds _ r g1 _ fun Hs1 H1 vs p1 d1 => ?_
    exact ⟨by rw [d1.length]; exact sz100 hl, (p1.res q).lst p1.r.sub d1⟩
  · cases g2
theorem sat_if (hc : SatT K tt ba) (ha : SatE K ta fa) (hb : SatE K tb fb) : SatE K (tIf tt ta tb) (vIf ba fa fb) := fun Hs H σ env h env' r g Q q => by
  simp only [vIf, Option.bind_eq_some_iff] at g
  obtain ⟨⟨b, e1⟩, g1, g2⟩ := g
  refine hc Hs H σ env b e1 r g1 _ fun Hs1 H1 p1 => ?_
  cases b with
  | true => exact ha Hs1 H1 σ e1 h env' p1.r g2 Q fun Hs2 H2 v p2 k2 f2 => q Hs2 H2 v (p1.trans p2) k2 (HFr.back f2 p1.ext)
  | false => exact hb Hs1 H1 σ e1 h env' p1.r g2 Q fun Hs2 H2 v p2 k2 f2 => q Hs2 H2 v (p1.trans p2) k2 (HFr.back f2 p1.ext)
theorem sat_and (ha : SatT K tt ba) (hb : SatT K tu bb) : SatT K (tAnd tt tu) (bAnd ba bb) := fun Hs H σ env b env' r g Q q => by
  simp only [bAnd, Option.bind_eq_some_iff] at g
  obtain ⟨⟨b1, e1⟩, g1, g2⟩ := g
  refine ha Hs H σ env b1 e1 r g1 _ fun Hs1 H1 p1 => ?_
  cases b1 with
  | true => exact hb Hs1 H1 σ e1 b env' p1.r g2 Q fun Hs2 H2 p2 => q Hs2 H2 (p1.trans p2)
  | false =>
    obtain ⟨rfl, rfl⟩ := Prod.mk.inj (Option.some.inj g2)
    exact q Hs1 H1 p1
theorem sat_or (ha : SatT K tt ba) (hb : SatT K tu bb) : SatT K (tOr tt tu) (bOr ba bb) := fun Hs H σ env b env' r g Q q => by
  simp only [bOr, Option.bind_eq_some_iff] at g
  obtain ⟨⟨b1, e1⟩, g1, g2⟩ := g
  refine ha Hs H σ env b1 e1 r g1 _ fun Hs1 H1 p1 => ?_
  cases b1 with
  | false => exact hb Hs1 H1 σ e1 b env' p1.r g2 Q fun Hs2 H2 p2 => q Hs2 H2 (p1.trans p2)
  | true =>
    obtain ⟨rfl, rfl⟩ := Prod.mk.inj (Option.some.inj g2)
    exact q Hs1 H1 p1
theorem sat_not (ha : SatT K tt ba) : SatT K (tNot tt) (bNot ba) := fun Hs H σ env b env' r g Q q => by
  simp only [bNot, Option.bind_eq_some_iff] at g
  obtain ⟨⟨b1, e1⟩, g1, g2⟩ := g
  obtain ⟨rfl, rfl⟩ := Prod.mk.inj (Option.some.inj g2)
  exact ha Hs H σ env b1 _ r g1 _ fun Hs1 H1 p1 => q Hs1 H1 p1
theorem asB_ok {o : O} {b : Bool} (h : asB o = some b) (k : ROk K Hs H v o) : v = .bl b := by
  cases o with
  | shr d =>
    cases d with
    | bl c => cases h; cases k; rfl
    | _ => cases h
  | _ => cases h
theorem sat_B (ha : SatE K ta fa) : SatT K (tB ta) (bVal fa) := fun Hs H σ env b env' r g Q q => by
  simp only [bVal, Option.bind_eq_some_iff] at g
  obtain ⟨⟨h, e1⟩, g1, o, g2, b1, g3, g4⟩ := g
  obtain ⟨rfl, rfl⟩ := Prod.mk.inj (Option.some.inj g4)
  exact ha Hs H σ env h _ r g1 _ fun Hs1 H1 v p1 k1 f1 => ⟨b1, asB_ok g3 (k1.get p1.r g2), q Hs1 H1 p1⟩
theorem sat_test (ha : SatE K ta fa) : SatT K (tTest ta) (bVal fa) := sat_B ha
/-- and, or, not as values: their tests' values -/
theorem sat_andV (ha : SatT K (tB ta) ba) (hb : SatE K tb (vB bb)) : SatE K (tAndV ta tb) (vB (bAnd ba bb)) := fun Hs H σ env h env' r g Q q => by
  simp only [vB, bAnd, Option.bind_eq_some_iff] at g
  obtain ⟨⟨b1, e1⟩, ⟨⟨b2, e2⟩, g1, g2⟩, g3⟩ := g
  obtain ⟨rfl, rfl⟩ := Prod.mk.inj (Option.some.inj g3)
  refine ha Hs H σ env b2 e2 r g1 (fun c H1 => if c = true then tb σ H1 Q else Q (.bl false) H1) fun Hs1 H1 p1 => ?_
  cases b2 with
  | true => exact hb Hs1 H1 σ e2 _ _ p1.r (by simp only [vB, Option.bind_eq_some_iff]; exact ⟨_, g2, rfl⟩) Q fun Hs2 H2 v p2 k2 f2 => q Hs2 H2 v (p1.trans p2) k2 (HFr.back f2 p1.ext)
  | false =>
    obtain ⟨rfl, rfl⟩ := Prod.mk.inj (Option.some.inj g2)
    exact q Hs1 H1 _ p1 ⟨.bl _, fun w => nomatch w⟩ fun w => nomatch w
theorem sat_orV (ha : SatT K (tB ta) ba) (hb : SatE K tb (vB bb)) : SatE K (tOrV ta tb) (vB (bOr ba bb)) := fun Hs H σ env h env' r g Q q => by
  simp only [vB, bOr, Option.bind_eq_some_iff] at g
  obtain ⟨⟨b1, e1⟩, ⟨⟨b2, e2⟩, g1, g2⟩, g3⟩ := g
  obtain ⟨rfl, rfl⟩ := Prod.mk.inj (Option.some.inj g3)
  refine ha Hs H σ env b2 e2 r g1 (fun c H1 => if c = true then Q (.bl true) H1 else tb σ H1 Q) fun Hs1 H1 p1 => ?_
  cases b2 with
  | false => exact hb Hs1 H1 σ e2 _ _ p1.r (by simp only [vB, Option.bind_eq_some_iff]; exact ⟨_, g2, rfl⟩) Q fun Hs2 H2 v p2 k2 f2 => q Hs2 H2 v (p1.trans p2) k2 (HFr.back f2 p1.ext)
  | true =>
    obtain ⟨rfl, rfl⟩ := Prod.mk.inj (Option.some.inj g2)
    exact q Hs1 H1 _ p1 ⟨.bl _, fun w => nomatch w⟩ fun w => nomatch w
theorem sat_notV (ha : SatT K (tB ta) ba) : SatE K (tNotV ta) (vB (bNot ba)) := fun Hs H σ env h env' r g Q q => by
  simp only [vB, bNot, Option.bind_eq_some_iff] at g
  obtain ⟨⟨b1, e1⟩, ⟨⟨b2, e2⟩, g1, g2⟩, g3⟩ := g
  obtain ⟨rfl, rfl⟩ := Prod.mk.inj (Option.some.inj g2)
  obtain ⟨rfl, rfl⟩ := Prod.mk.inj (Option.some.inj g3)
  exact ha Hs H σ env b2 _ r g1 (fun c H1 => Q (.bl (!c)) H1) fun Hs1 H1 p1 => q Hs1 H1 _ p1 ⟨.bl _, fun w => nomatch w⟩ fun w => nomatch w
/-- a value that is True or False, as the value of a test -/
theorem sat_vb (ha : SatE K ta fa) : SatE K ta (vB (bVal fa)) := fun Hs H σ env h env' r g Q q => by
  simp only [vB, bVal, Option.bind_eq_some_iff] at g
  obtain ⟨⟨b1, e1⟩, ⟨⟨h2, e2⟩, g1, o, g2, b3, g3, g4⟩, g5⟩ := g
  obtain ⟨rfl, rfl⟩ := Prod.mk.inj (Option.some.inj g4)
  obtain ⟨rfl, rfl⟩ := Prod.mk.inj (Option.some.inj g5)
  refine ha Hs H σ env h2 _ r g1 _ fun Hs1 H1 v p1 k1 f1 => ?_
  have e := asB_ok g3 (k1.get p1.r g2)
  subst e
  exact q Hs1 H1 _ p1 ⟨.bl _, fun w => nomatch w⟩ fun w => nomatch w
theorem sat_callB {r : List V → Hp → VK → Prop} {op : List O → Option O} (hop : CallSat K r op) (ha : SatHs K t fhs) : SatE K (tCB r t) (vCallB op fhs) := fun Hs H σ env h env' rr g Q q => by
  simp only [vCallB, Option.bind_eq_some_iff] at g
  obtain ⟨⟨hs, e1⟩, g1, os, g2, o, g3, g4⟩ := g
  obtain ⟨rfl, rfl⟩ := Prod.mk.inj (Option.some.inj g4)
  refine ha Hs H σ env hs _ rr g1 _ fun Hs1 H1 vs p1 k1 f1 => ?_
  exact hop Hs1 H1 vs os o p1.r.sub (k1.gets p1.r g2) g3 Q (p1.res q)
end
end PV

set_option maxRecDepth 100000
set_option maxHeartbeats 2000000
namespace PV
open PySem L2

/-! ### what a thing is -/
def asI : O → Option Int
  | .shr (.int i) => some i
  | _ => none
def asS : O → Option Str
  | .shr (.str i) => some i
  | _ => none
def asL : O → Option (List D)
  | .ol ds => some ds
  | .shr (.lst ds) => some ds
  | _ => none
def asT : O → Option (List D)
  | .shr (.tup ds) => some ds
  | _ => none
/-- what can be indexed, walked, measured: a list, a tuple, the script -/
def asQ : O → Option (List D)
  | .ol ds => some ds
  | .shr (.lst ds) => some ds
  | .shr (.tup ds) => some ds
  | .shr (.scr ns) => some (ns.map .int)
  | _ => none
def asK : O → Option (List (Key × D))
  | .od kvs => some kvs
  | .shr (.dk kvs) => some kvs
  | _ => none
section
variable {K : PySem.W.Frag} {Hs H : Hp} {v : V} {o : O}
theorem asI_ok {i : Int} (h : asI o = some i) (k : ROk K Hs H v o) : v = .int i := by
  cases o with
  | shr d =>
    cases d with
    | int c => cases h; cases k; rfl
    | _ => cases h
  | _ => cases h
theorem asS_ok {i : Str} (h : asS o = some i) (k : ROk K Hs H v o) : v = .str i := by
  cases o with
  | shr d =>
    cases d with
    | str c => cases h; cases k; rfl
    | _ => cases h
  | _ => cases h
theorem asL_ok {ds : List D} (sb : ∀ a u, Hs a = some u → H a = some u) (h : asL o = some ds) (k : ROk K Hs H v o) : ∃ a xs, v = .ref a ∧ H a = some (.lst xs) ∧ DdAll K Hs ds xs := by
  cases o with
  | shr d =>
    cases d with
    | lst c =>
      cases h
      cases k with
      | lst e t => exact ⟨_, _, rfl, sb _ _ e, t⟩
    | _ => cases h
  | ol d =>
    cases h
    obtain ⟨a, xs, e, _, q, t⟩ := k
    exact ⟨a, xs, e, q, t⟩
  | _ => cases h
theorem asT_ok {ds : List D} (sb : ∀ a u, Hs a = some u → H a = some u) (h : asT o = some ds) (k : ROk K Hs H v o) : ∃ a xs, v = .ref a ∧ H a = some (.tup xs) ∧ DdAll K Hs ds xs := by
  cases o with
  | shr d =>
    cases d with
    | tup c =>
      cases h
      cases k with
      | tup e t => exact ⟨_, _, rfl, sb _ _ e, t⟩
    | _ => cases h
  | _ => cases h
theorem asQ_ok {ds : List D} (sb : ∀ a u, Hs a = some u → H a = some u) (h : asQ o = some ds) (k : ROk K Hs H v o) : ∃ a xs, v = .ref a ∧ (SqL K H a xs ∨ SqT K H a xs) ∧ DdAll K Hs ds xs := by
  cases o with
  | shr d =>
    cases d with
    | lst c =>
      cases h
      cases k with
      | lst e t => exact ⟨_, _, rfl, .inl (SqL.of (sb _ _ e)), t⟩
    | tup c =>
      cases h
      cases k with
      | tup e t => exact ⟨_, _, rfl, .inr (SqT.of (sb _ _ e)), t⟩
    | scr c =>
      cases h
      cases k with
      | scr e => exact ⟨_, _, rfl, .inl (sq_mono sb e), DdAll.ints c⟩
    | _ => cases h
  | ol d =>
    cases h
    obtain ⟨a, xs, e, _, q, t⟩ := k
    exact ⟨a, xs, e, .inl (SqL.of q), t⟩
  | _ => cases h
theorem asK_ok {kvs : List (Key × D)} (sb : ∀ a u, Hs a = some u → H a = some u) (h : asK o = some kvs) (k : ROk K Hs H v o) : ∃ a es, v = .ref a ∧ H a = some (.dK es) ∧ DdKv K Hs kvs es := by
  cases o with
  | shr d =>
    cases d with
    | dk c =>
      cases h
      cases k with
      | dk e t => exact ⟨_, _, rfl, sb _ _ e, t⟩
    | _ => cases h
  | od d =>
    cases h
    obtain ⟨a, xs, e, _, q, t⟩ := k
    exact ⟨a, xs, e, q, t⟩
  | _ => cases h
end

/-! ### operators -/
def oI2 (g : Int → Int → Option D) (x y : O) : Option O := (asI x).bind fun i => (asI y).bind fun j => (g i j).map .shr
def oI1 (g : Int → Option D) (x : O) : Option O := (asI x).bind fun i => (g i).map .shr
section
variable {K : PySem.W.Frag}
theorem sat_I2 {C : Int → Int → Prop} {g : Int → Int → V} {g' : Int → Int → Option D} (h : ∀ i j d, g' i j = some d → C i j ∧ ∀ Hs, Dd K Hs d (g i j)) : OpSat K (rI C g) (oI2 g') := by
  intro Hs H x y ox oy o sb kx ky e Q q
  simp only [oI2, Option.bind_eq_some_iff, Option.map_eq_some_iff] at e
  obtain ⟨i, hi, j, hj, d, hd, rfl⟩ := e
  obtain ⟨c, dd⟩ := h i j d hd
  exact ⟨i, j, asI_ok hi kx, asI_ok hj ky, c, q.val sb (dd Hs)⟩
theorem sat_I20 {g : Int → Int → V} {g' : Int → Int → Option D} (h : ∀ i j d, g' i j = some d → ∀ Hs, Dd K Hs d (g i j)) : OpSat K (rI0 g) (oI2 g') := by
  intro Hs H x y ox oy o sb kx ky e Q q
  simp only [oI2, Option.bind_eq_some_iff, Option.map_eq_some_iff] at e
  obtain ⟨i, hi, j, hj, d, hd, rfl⟩ := e
  exact ⟨i, j, asI_ok hi kx, asI_ok hj ky, q.val sb (h i j d hd Hs)⟩
theorem OpSat.or {r r' : R2} {op op' : O → O → Option O} (h : OpSat K r op) (h' : OpSat K r' op') : OpSat K (fun x y H Q => r x y H Q ∨ r' x y H Q) (fun x y => (op x y).or (op' x y)) := by
  intro Hs H x y ox oy o sb kx ky e Q q
  dsimp only at e
  cases e1 : op ox oy with
  | some z =>
    rw [e1] at e
    exact .inl (h Hs H x y ox oy o sb kx ky (e1.trans e) Q q)
  | none =>
    rw [e1] at e
    exact .inr (h' Hs H x y ox oy o sb kx ky e Q q)
theorem CallSat.or {r r' : List V → Hp → VK → Prop} {op op' : List O → Option O} (h : CallSat K r op) (h' : CallSat K r' op') : CallSat K (fun x H Q => r x H Q ∨ r' x H Q) (fun x => (op x).or (op' x)) := by
  intro Hs H x ox o sb kx e Q q
  dsimp only at e
  cases e1 : op ox with
  | some z =>
    rw [e1] at e
    exact .inl (h Hs H x ox o sb kx (e1.trans e) Q q)
  | none =>
    rw [e1] at e
    exact .inr (h' Hs H x ox o sb kx e Q q)

def CDivG (_ j : Int) : Prop := j ≠ 0 ∧ j.natAbs.log2 < 9000
theorem op_fdivG {X : Cx} : OpR X (binaryOp .FloorDiv) (rI CDivG fun i j => .int (i.fdiv j)) := opI fun i j _ _ _ _ _ hc q => PyProof.Rows.floordiv_int hc.1 q (.inl (PyProof.noPylong_of_log2 hc.2))
def CMulG (i j : Int) : Prop := CMul i j ∨ CMulW i j
theorem op_mulG {X : Cx} : OpR X (binaryOp .Mult) (rI CMulG fun i j => .int (i * j)) := opI fun _ _ _ _ _ _ _ hc q => PyProof.Rows.mul_int q (hc.elim CMul.ok CMulW.ok)
instance (i j : Int) : Decidable (CDivG i j) := by unfold CDivG; infer_instance
instance (i j : Int) : Decidable (CMulG i j) := by unfold CMulG CMul CMulW; infer_instance
instance (i j : Int) : Decidable (CPow i j) := by unfold CPow; infer_instance

def oAddI : O → O → Option O := oI2 fun i j => some (.int (i + j))
def oSub : O → O → Option O := oI2 fun i j => some (.int (i - j))
def oMul : O → O → Option O := oI2 fun i j => if CMulG i j then some (.int (i * j)) else none
def oDiv : O → O → Option O := oI2 fun i j => if CDivG i j then some (.int (i.fdiv j)) else none
def oMod : O → O → Option O := oI2 fun i j => if j ≠ 0 then some (.int (i.fmod j)) else none
def oPow : O → O → Option O := oI2 fun i j => if CPow i j then some (.int (i ^ j.toNat)) else none
def oLt : O → O → Option O := oI2 fun i j => some (.bl (decide (i < j)))
def oLe : O → O → Option O := oI2 fun i j => some (.bl (decide (i ≤ j)))
def oGt : O → O → Option O := oI2 fun i j => some (.bl (decide (j < i)))
def oGe : O → O → Option O := oI2 fun i j => some (.bl (decide (j ≤ i)))
theorem s_addI : OpSat K (rI0 fun i j => .int (i + j)) oAddI := sat_I20 fun i j d e Hs => by cases e; exact .int _
theorem s_sub : OpSat K (rI0 fun i j => .int (i - j)) oSub := sat_I20 fun i j d e Hs => by cases e; exact .int _
theorem s_mul : OpSat K (rI CMulG fun i j => .int (i * j)) oMul := sat_I2 fun i j d e => by
  split at e
  · next h => cases e; exact ⟨h, fun _ => .int _⟩
  · cases e
theorem s_div : OpSat K (rI CDivG fun i j => .int (i.fdiv j)) oDiv := sat_I2 fun i j d e => by
  split at e
  · next h => cases e; exact ⟨h, fun _ => .int _⟩
  · cases e
theorem s_mod : OpSat K (rI (fun _ j => j ≠ 0) fun i j => .int (i.fmod j)) oMod := sat_I2 fun i j d e => by
  split at e
  · next h => cases e; exact ⟨h, fun _ => .int _⟩
  · cases e
theorem s_pow : OpSat K (rI CPow fun i j => .int (i ^ j.toNat)) oPow := sat_I2 fun i j d e => by
  split at e
  · next h => cases e; exact ⟨h, fun _ => .int _⟩
  · cases e
theorem s_lt : OpSat K (rI0 fun i j => .bl (decide (i < j))) oLt := sat_I20 fun i j d e Hs => by cases e; exact .bl _
theorem s_le : OpSat K (rI0 fun i j => .bl (decide (i ≤ j))) oLe := sat_I20 fun i j d e Hs => by cases e; exact .bl _
theorem s_gt : OpSat K (rI0 fun i j => .bl (decide (j < i))) oGt := sat_I20 fun i j d e Hs => by cases e; exact .bl _
theorem s_ge : OpSat K (rI0 fun i j => .bl (decide (j ≤ i))) oGe := sat_I20 fun i j d e Hs => by cases e; exact .bl _
def oNeg : O → Option O := oI1 fun i => some (.int (-i))
theorem s_neg : UnSat K (rU fun i => .int (-i)) oNeg := by
  intro Hs H x ox o sb kx e Q q
  simp only [oNeg, oI1, Option.bind_eq_some_iff, Option.map_eq_some_iff] at e
  obtain ⟨i, hi, d, hd, rfl⟩ := e
  cases hd
  exact ⟨i, asI_ok hi kx, q.val sb (.int _)⟩

/-- + -/
def rAddS2 : R2 := fun x y H Q => ∃ i j, x = .str i ∧ y = .str j ∧ i.length + j.length ≤ sizeLine ∧ Q (.str (i ++ j)) H
def oAddS (x y : O) : Option O := (asS x).bind fun i => (asS y).bind fun j => if i.length + j.length ≤ 1000000 then some (.shr (.str (i ++ j))) else none
theorem sz6 {n : Nat} (h : n ≤ 1000000) : n ≤ sizeLine := Nat.le_trans h (by decide)
theorem s_addS : OpSat K rAddS2 oAddS := by
  intro Hs H x y ox oy o sb kx ky e Q q
  simp only [oAddS, Option.bind_eq_some_iff] at e
  obtain ⟨i, hi, j, hj, e⟩ := e
  split at e
  · next h => cases e; exact ⟨i, j, asS_ok hi kx, asS_ok hj ky, sz6 h, q.val sb (.str _)⟩
  · cases e
def oAddL (x y : O) : Option O := (asL x).bind fun i => (asL y).bind fun j => if i.length + j.length ≤ 1000000 then some (.ol (i ++ j)) else none
theorem s_addL : OpSat K rCat oAddL := by
  intro Hs H x y ox oy o sb kx ky e Q q
  simp only [oAddL, Option.bind_eq_some_iff] at e
  obtain ⟨i, hi, j, hj, e⟩ := e
  split at e
  · next h =>
    cases e
    obtain ⟨a, xs, rfl, ha, da⟩ := asL_ok sb hi kx
    obtain ⟨b, ys, rfl, hb, db⟩ := asL_ok sb hj ky
    exact ⟨a, b, xs, ys, rfl, rfl, ha, hb, by rw [da.length, db.length]; exact sz6 h, q.lst sb (da.append db)⟩
  · cases e
def oAddT (x y : O) : Option O := (asT x).bind fun i => (asT y).bind fun j => if i ≠ [] ∧ j ≠ [] ∧ i.length + j.length ≤ 1000000 then some (.shr (.tup (i ++ j))) else none
theorem s_addT : OpSat K (rCatT K) oAddT := by
  intro Hs H x y ox oy o sb kx ky e Q q
  simp only [oAddT, Option.bind_eq_some_iff] at e
  obtain ⟨i, hi, j, hj, e⟩ := e
  split at e
  · next h =>
    cases e
    obtain ⟨a, xs, rfl, ha, da⟩ := asT_ok sb hi kx
    obtain ⟨b, ys, rfl, hb, db⟩ := asT_ok sb hj ky
    refine ⟨a, b, xs, ys, rfl, rfl, SqT.of ha, SqT.of hb, fun z => ?_, by rw [da.length, db.length]; exact sz6 h.2.2, fun z => ?_, fun _ => q.tup sb (da.append db)⟩
    · subst z; cases da; exact h.1 rfl
    · subst z; cases db; exact absurd rfl h.2.1
  · cases e
def oAdd (x y : O) : Option O := (oAddI x y).or ((oAddS x y).or ((oAddL x y).or (oAddT x y)))
def rAddA (K : PySem.W.Frag) : R2 := fun x y H Q => rI0 (fun i j => .int (i + j)) x y H Q ∨ (rAddS2 x y H Q ∨ (rCat x y H Q ∨ rCatT K x y H Q))
theorem s_add : OpSat K (rAddA K) oAdd := s_addI.or (s_addS.or (s_addL.or s_addT))
theorem op_addA {X : Cx} : OpR X (binaryOp .Add) (rAddA X.K) := op_add.or (op_add_str.or (op_cat.or op_catT))

/-! ### == -/
mutual
def toPy : D → Option PyData
  | .non => some .none
  | .bl b => some (.bool b)
  | .int i => some (.int i)
  | .str x => some (.str x)
  | .tup ds => (toPys ds).map .tuple
  | .lst ds => (toPys ds).map .list
  | .scr ns => some (.list (ns.map .int))
  | .dk _ => none
  | .opq _ => none
def toPys : List D → Option (List PyData)
  | [] => some []
  | d :: r => (toPy d).bind fun p => (toPys r).bind fun q => some (p :: q)
end
end
theorem dp_ints {K : PySem.W.Frag} {H : Hp} : ∀ ns : List Int, DpAll K H (ns.map V.int) (ns.map PyData.int)
  | [] => .nil
  | n :: r => .cons (.int n) (dp_ints r)
mutual
theorem Dd.py {K : PySem.W.Frag} {Hs H : Hp} (sb : ∀ a u, Hs a = some u → H a = some u) : ∀ {d : D} {v : V} {p : PyData}, Dd K Hs d v → toPy d = some p → Dp K H v p
  | _, _, _, .non, e => by simp only [toPy] at e; cases e; exact .non
  | _, _, _, .bl b, e => by simp only [toPy] at e; cases e; exact .bl b
  | _, _, _, .int b, e => by simp only [toPy] at e; cases e; exact .int b
  | _, _, _, .str b, e => by simp only [toPy] at e; cases e; exact .str b
  | _, _, _, .tup h t, e => by
    simp only [toPy, Option.map_eq_some_iff] at e
    obtain ⟨ps, e, rfl⟩ := e
    exact .tup (SqT.of (sb _ _ h)) (DdAll.py sb t e)
  | _, _, _, .lst h t, e => by
    simp only [toPy, Option.map_eq_some_iff] at e
    obtain ⟨ps, e, rfl⟩ := e
    exact .lst (SqL.of (sb _ _ h)) (DdAll.py sb t e)
  | _, _, _, .scr h, e => by
    simp only [toPy] at e
    cases e
    exact .lst (sq_mono sb h) (dp_ints _)
  | _, _, _, .dk h t, e => by simp only [toPy] at e; cases e
  | _, _, _, .opq v, e => by simp only [toPy] at e; cases e
theorem DdAll.py {K : PySem.W.Frag} {Hs H : Hp} (sb : ∀ a u, Hs a = some u → H a = some u) : ∀ {d : List D} {v : List V} {p : List PyData}, DdAll K Hs d v → toPys d = some p → DpAll K H v p
  | _, _, _, .nil, e => by simp only [toPys] at e; cases e; exact .nil
  | _, _, _, .cons a b, e => by
    simp only [toPys, Option.bind_eq_some_iff] at e
    obtain ⟨p, e1, q, e2, e3⟩ := e
    cases e3
    exact .cons (Dd.py sb a e1) (DdAll.py sb b e2)
end
/-- flat data -/
def flat? : D → Option V
  | .non => some .non
  | .bl b => some (.bl b)
  | .int i => some (.int i)
  | .str x => some (.str x)
  | _ => none
theorem flat_ok {K : PySem.W.Frag} {Hs : Hp} {d : D} {v w : V} (h : flat? d = some w) (k : Dd K Hs d v) : v = w := by
  cases k <;> cases h <;> rfl
def asF : O → Option V
  | .shr d => flat? d
  | _ => none
theorem asF_ok {K : PySem.W.Frag} {Hs H : Hp} {o : O} {v w : V} (h : asF o = some w) (k : ROk K Hs H v o) : v = w := by
  cases o with
  | shr d => exact flat_ok h k
  | _ => cases h
/-- content as data; a list of one's own may be asked -/
theorem ROk.py {K : PySem.W.Frag} {Hs H : Hp} {o : O} {v : V} {p : PyData} (sb : ∀ a u, Hs a = some u → H a = some u) (k : ROk K Hs H v o) (e : toPy o.toD = some p) : Dp K H v p := by
  cases o with
  | shr d => exact Dd.py sb k e
  | ol ds =>
    obtain ⟨a, xs, rfl, _, q, t⟩ := k
    simp only [O.toD, toPy, Option.map_eq_some_iff] at e
    obtain ⟨ps, e, rfl⟩ := e
    exact .lst (SqL.of q) (DdAll.py sb t e)
  | od kvs => simp only [O.toD, toPy] at e; cases e
def eqS (x y : V) : Option Bool := if scal x y = true then some (decide (x = y)) else none
def eqP (p q : PyData) : Option Bool := if SeqAt.shaped p = true ∧ SeqAt.shaped q = true then some (PyData.eqv p q) else none
/-- what == says: of flat things, of nested ones -/
def eqO (x y : O) : Option Bool := ((asF x).bind fun i => (asF y).bind fun j => eqS i j).or ((toPy x.toD).bind fun p => (toPy y.toD).bind fun q => eqP p q)
def oEq (x y : O) : Option O := (eqO x y).map fun b => .shr (.bl b)
def oNe (x y : O) : Option O := (eqO x y).map fun b => .shr (.bl !b)
def rEqA (K : PySem.W.Frag) : R2 := fun x y H Q => rEq x y H Q ∨ rEqD K x y H Q
def rNeA (K : PySem.W.Frag) : R2 := fun x y H Q => rNe x y H Q ∨ rNeD K x y H Q
theorem op_eqA {X : Cx} (hu : X.A.units + 64 < cLine) : OpR X (compareOp .Eq) (rEqA X.K) := op_eq.or (op_eqD hu)
theorem op_neA {X : Cx} (hu : X.A.units + 64 < cLine) : OpR X (compareOp .NotEq) (rNeA X.K) := op_ne.or (op_neD hu)
section
variable {K : PySem.W.Frag}
theorem eqO_ok {Hs H : Hp} {x y : V} {ox oy : O} {b : Bool} (sb : ∀ a u, Hs a = some u → H a = some u) (kx : ROk K Hs H x ox) (ky : ROk K Hs H y oy) (e : eqO ox oy = some b) :
    (scal x y = true ∧ decide (x = y) = b) ∨ ∃ p q, Dp K H x p ∧ Dp K H y q ∧ SeqAt.shaped p = true ∧ SeqAt.shaped q = true ∧ PyData.eqv p q = b := by
  unfold eqO at e
  cases e1 : ((asF ox).bind fun i => (asF oy).bind fun j => eqS i j) with
  | some z =>
    rw [e1] at e
    cases e
    simp only [Option.bind_eq_some_iff] at e1
    obtain ⟨i, hi, j, hj, e2⟩ := e1
    unfold eqS at e2
    split at e2
    · next h =>
      cases e2
      have h1 := asF_ok hi kx
      have h2 := asF_ok hj ky
      subst h1 h2
      exact .inl ⟨h, rfl⟩
    · cases e2
  | none =>
    rw [e1] at e
    simp only [Option.none_or, Option.bind_eq_some_iff] at e
    obtain ⟨p, hp, q, hq, e2⟩ := e
    unfold eqP at e2
    split at e2
    · next h =>
      cases e2
      exact .inr ⟨p, q, kx.py sb hp, ky.py sb hq, h.1, h.2, rfl⟩
    · cases e2
theorem s_eq : OpSat K (rEqA K) oEq := by
  intro Hs H x y ox oy o sb kx ky e Q q
  simp only [oEq, Option.map_eq_some_iff] at e
  obtain ⟨b, hb, rfl⟩ := e
  have qq : Q (.bl b) H := q.val sb (.bl _)
  rcases eqO_ok sb kx ky hb with ⟨h1, h2⟩ | ⟨p, r, h1, h2, h3, h4, h5⟩
  · exact .inl ⟨h1, by rw [h2]; exact qq⟩
  · exact .inr ⟨p, r, h1, h2, h3, h4, by rw [h5]; exact qq⟩
theorem s_ne : OpSat K (rNeA K) oNe := by
  intro Hs H x y ox oy o sb kx ky e Q q
  simp only [oNe, Option.map_eq_some_iff] at e
  obtain ⟨b, hb, rfl⟩ := e
  have qq : Q (.bl !b) H := q.val sb (.bl _)
  rcases eqO_ok sb kx ky hb with ⟨h1, h2⟩ | ⟨p, r, h1, h2, h3, h4, h5⟩
  · exact .inl ⟨h1, by rw [h2]; exact qq⟩
  · exact .inr ⟨p, r, h1, h2, h3, h4, by rw [h5]; exact qq⟩
/-- is None -/
def isNon : O → Option Bool
  | .shr .non => some true
  | .shr (.opq _) => none
  | _ => some false
theorem isNon_ok {Hs H : Hp} {x : V} {ox : O} {b : Bool} (e : isNon ox = some b) (k : ROk K Hs H x ox) : decide (x = .non) = b := by
  cases ox with
  | shr d => cases k <;> cases e <;> rfl
  | ol d =>
    obtain ⟨a, xs, rfl, _⟩ := k
    cases e; rfl
  | od d =>
    obtain ⟨a, xs, rfl, _⟩ := k
    cases e; rfl
def oIsN (x y : O) : Option O := match y with
  | .shr .non => (isNon x).map fun b => .shr (.bl b)
  | _ => none
def oNotN (x y : O) : Option O := match y with
  | .shr .non => (isNon x).map fun b => .shr (.bl !b)
  | _ => none
def rIsN2 : R2 := fun x y H Q => y = .non ∧ Q (.bl (decide (x = .non))) H
def rNotN2 : R2 := fun x y H Q => y = .non ∧ Q (.bl (!decide (x = .non))) H
theorem s_isN : OpSat K rIsN2 oIsN := by
  intro Hs H x y ox oy o sb kx ky e Q q
  unfold oIsN at e
  split at e
  · simp only [Option.map_eq_some_iff] at e
    obtain ⟨b, hb, rfl⟩ := e
    cases ky
    exact ⟨rfl, by rw [isNon_ok hb kx]; exact q.val sb (.bl _)⟩
  · cases e
theorem s_notN : OpSat K rNotN2 oNotN := by
  intro Hs H x y ox oy o sb kx ky e Q q
  unfold oNotN at e
  split at e
  · simp only [Option.map_eq_some_iff] at e
    obtain ⟨b, hb, rfl⟩ := e
    cases ky
    exact ⟨rfl, by rw [isNon_ok hb kx]; exact q.val sb (.bl _)⟩
  · cases e
/-- in a list or tuple of flat things -/
def flats : List D → Option (List V)
  | [] => some []
  | d :: r => (flat? d).bind fun v => (flats r).bind fun vs => some (v :: vs)
theorem flat_flatV {d : D} {v : V} (h : flat? d = some v) : flatV v = true := by
  cases d <;> cases h <;> rfl
theorem flats_ok {Hs : Hp} : ∀ {ds : List D} {vs ws : List V}, flats ds = some ws → DdAll K Hs ds vs → vs = ws ∧ ws.all flatV = true
  | [], _, _, e, .nil => by simp only [flats] at e; cases e; exact ⟨rfl, rfl⟩
  | d :: r, _, _, e, .cons a b => by
    simp only [flats, Option.bind_eq_some_iff] at e
    obtain ⟨v, h1, vs, h2, h3⟩ := e
    cases h3
    obtain ⟨q1, q2⟩ := flats_ok h2 b
    rw [flat_ok h1 a, q1]
    exact ⟨rfl, by rw [List.all_cons, flat_flatV h1, q2] <;> rfl⟩
def inQ (x y : O) : Option Bool := (asF x).bind fun v => (asQ y).bind fun ds => (flats ds).map fun vs => inV v vs
theorem inQ_ok {Hs H : Hp} {x y : V} {ox oy : O} {b : Bool} (sb : ∀ a u, Hs a = some u → H a = some u) (kx : ROk K Hs H x ox) (ky : ROk K Hs H y oy) (e : inQ ox oy = some b) :
    ∃ p xs, y = .ref p ∧ (SqL K H p xs ∨ SqT K H p xs) ∧ flatV x = true ∧ xs.all flatV = true ∧ inV x xs = b := by
  simp only [inQ, Option.bind_eq_some_iff, Option.map_eq_some_iff] at e
  obtain ⟨v, hv, ds, hd, vs, hf, rfl⟩ := e
  obtain ⟨a, xs, rfl, hq, dd⟩ := asQ_ok sb hd ky
  obtain ⟨q1, q2⟩ := flats_ok hf dd
  subst q1
  have e1 := asF_ok hv kx
  subst e1
  refine ⟨a, xs, rfl, hq, ?_, q2, rfl⟩
  cases ox with
  | shr d => exact flat_flatV hv
  | _ => cases hv
def oInQ (x y : O) : Option O := (inQ x y).map fun b => .shr (.bl b)
def oNotInQ (x y : O) : Option O := (inQ x y).map fun b => .shr (.bl !b)
theorem s_inQ : OpSat K (rIn K false) oInQ := by
  intro Hs H x y ox oy o sb kx ky e Q q
  simp only [oInQ, Option.map_eq_some_iff] at e
  obtain ⟨b, hb, rfl⟩ := e
  obtain ⟨p, xs, h1, h2, h3, h4, h5⟩ := inQ_ok sb kx ky hb
  exact ⟨p, xs, h1, h2, h3, h4, (by show Q (.bl (inV x xs)) H; rw [h5]; exact q.val sb (.bl _))⟩
theorem s_notInQ : OpSat K (rIn K true) oNotInQ := by
  intro Hs H x y ox oy o sb kx ky e Q q
  simp only [oNotInQ, Option.map_eq_some_iff] at e
  obtain ⟨b, hb, rfl⟩ := e
  obtain ⟨p, xs, h1, h2, h3, h4, h5⟩ := inQ_ok sb kx ky hb
  exact ⟨p, xs, h1, h2, h3, h4, (by show Q (.bl (!inV x xs)) H; rw [h5]; exact q.val sb (.bl _))⟩

/-! ### subscripts -/
def oIx (x y : O) : Option O := (asI y).bind fun i => ((asQ x).bind fun ds => (atI ds i).map .shr).or ((asS x).bind fun s => if s.length ≤ 1000000 then (atI s.cps.toList i).map fun c => .shr (.str ⟨#[c]⟩) else none)
theorem atI_dd {Hs : Hp} {ds : List D} {xs : List V} {i : Int} {d : D} (t : DdAll K Hs ds xs) (h : atI ds i = some d) : ∃ v, atI xs i = some v ∧ Dd K Hs d v := by
  unfold atI at h ⊢
  rw [t.length]
  simp only [Option.bind_eq_some_iff] at h
  obtain ⟨j, h1, h2⟩ := h
  obtain ⟨v, h3, h4⟩ := t.get h2
  exact ⟨v, by rw [h1]; exact h3, h4⟩
theorem s_ix : OpSat K (rIx K) oIx := by
  intro Hs H x y ox oy o sb kx ky e Q q
  simp only [oIx, Option.bind_eq_some_iff] at e
  obtain ⟨i, hi, e⟩ := e
  have ei := asI_ok hi ky
  cases e1 : ((asQ ox).bind fun ds => (atI ds i).map O.shr) with
  | some z =>
    rw [e1] at e
    cases e
    simp only [Option.bind_eq_some_iff, Option.map_eq_some_iff] at e1
    obtain ⟨ds, h1, d, h2, rfl⟩ := e1
    obtain ⟨a, xs, rfl, hq, dd⟩ := asQ_ok sb h1 kx
    obtain ⟨v, h3, h4⟩ := atI_dd dd h2
    rcases hq with hq | hq
    · exact .inl ⟨a, xs, i, v, rfl, ei, hq, h3, q.val sb h4⟩
    · exact .inr (.inl ⟨a, xs, i, v, rfl, ei, hq, h3, q.val sb h4⟩)
  | none =>
    rw [e1] at e
    simp only [Option.none_or, Option.bind_eq_some_iff] at e
    obtain ⟨s, hs, e⟩ := e
    split at e
    · next hl =>
      simp only [Option.map_eq_some_iff] at e
      obtain ⟨c, hc, rfl⟩ := e
      exact .inr (.inr ⟨s, i, c, asS_ok hs kx, ei, sz6 hl, hc, q.val sb (.str _)⟩)
    · cases e
end
end PV

set_option maxRecDepth 100000
set_option maxHeartbeats 2000000
namespace PV
open PySem L2

/-! ### slices -/
abbrev OF := Sto → Option (Option Int × Sto)
def SatO (K : PySem.W.Frag) (t : TO) (f : OF) : Prop := ∀ Hs H σ env b env', R K Hs H σ env → f env = some (b, env') →
  ∀ Q : Option Int → Hp → Prop, (∀ Hs' H', Po K Hs H σ env Hs' H' σ env' → Q b H') → t σ H Q
def vNoP : OF := fun env => some (none, env)
def vP (f : EF) : OF := fun env => (f env).bind fun p => (hGet p.2 p.1).bind fun o => (asI o).bind fun i => some (some i, p.2)
def cutD {α : Type} (xs : List α) (lo hi : Option Int) : List α := (xs.drop (HT.sIx xs.length 0 lo)).take (HT.sIx xs.length xs.length hi - HT.sIx xs.length 0 lo)
def asLQ : O → Option (List D)
  | .ol ds => some ds
  | .shr (.lst ds) => some ds
  | .shr (.scr ns) => some (ns.map .int)
  | _ => none
def oSl (o : O) (lo hi : Option Int) : Option O := ((asLQ o).map fun ds => O.ol (cutD ds lo hi)).or
  (((asT o).bind fun ds => if ¬ (HT.sIx ds.length 0 lo = 0 ∧ HT.sIx ds.length ds.length hi = ds.length) then some (.shr (.tup (cutD ds lo hi))) else none).or
  ((asS o).bind fun s => if s.length ≤ 1000000 then some (.shr (.str (cutS s lo hi))) else none))
def vSl (fa : EF) (fl fh : OF) : EF := fun env => (fa env).bind fun p => (fl p.2).bind fun l => (fh l.2).bind fun h => (hGet h.2 p.1).bind fun o => (oSl o l.1 h.1).bind fun r => some (.tmp r, h.2)
def rSlA (K : PySem.W.Frag) : V → Option Int → Option Int → Hp → VK → Prop := fun x lo hi H Q => rSlL K x lo hi H Q ∨ (rSlT K x lo hi H Q ∨ rSlS x lo hi H Q)
theorem sl_A {X : Cx} : SlR X (rSlA X.K) := sl_list.or (sl_tup.or sl_str)
section
variable {K : PySem.W.Frag} {te : TE} {fe : EF}
theorem sat_noP : SatO K tNoPart vNoP := fun Hs H σ env b env' r g Q q => by
  obtain ⟨rfl, rfl⟩ := Prod.mk.inj (Option.some.inj g)
  exact q Hs H (Po.refl r)
theorem sat_P (h : SatE K te fe) : SatO K (tPart te) (vP fe) := fun Hs H σ env b env' r g Q q => by
  simp only [vP, Option.bind_eq_some_iff] at g
  obtain ⟨⟨x, e1⟩, g1, o, g2, i, g3, g4⟩ := g
  obtain ⟨rfl, rfl⟩ := Prod.mk.inj (Option.some.inj g4)
  exact h Hs H σ env x _ r g1 _ fun Hs1 H1 v p1 k1 f1 => ⟨i, asI_ok g3 (k1.get p1.r g2), q Hs1 H1 p1⟩
theorem asLQ_ok {Hs H : Hp} {v : V} {o : O} {ds : List D} (sb : ∀ a u, Hs a = some u → H a = some u) (h : asLQ o = some ds) (k : ROk K Hs H v o) : ∃ a xs, v = .ref a ∧ SqL K H a xs ∧ DdAll K Hs ds xs := by
  cases o with
  | shr d =>
    cases d with
    | lst c =>
      cases h
      cases k with
      | lst e t => exact ⟨_, _, rfl, SqL.of (sb _ _ e), t⟩
    | scr c =>
      cases h
      cases k with
      | scr e => exact ⟨_, _, rfl, sq_mono sb e, DdAll.ints c⟩
    | _ => cases h
  | ol d =>
    cases h
    obtain ⟨a, xs, e, _, q, t⟩ := k
    exact ⟨a, xs, e, SqL.of q, t⟩
  | _ => cases h
theorem cut_dd {Hs : Hp} {ds : List D} {xs : List V} (t : DdAll K Hs ds xs) (lo hi : Option Int) : DdAll K Hs (cutD ds lo hi) (cutV xs lo hi) := by
  unfold cutD cutV
  rw [t.length]
  exact (t.drop _).take _
theorem s_sl {Hs H : Hp} {x : V} {ox o : O} {lo hi : Option Int} (sb : ∀ a u, Hs a = some u → H a = some u) (k : ROk K Hs H x ox) (e : oSl ox lo hi = some o) (Q : VK) (q : Res K Hs H o Q) : rSlA K x lo hi H Q := by
  unfold oSl at e
  cases e1 : (asLQ ox).map fun ds => O.ol (cutD ds lo hi) with
  | some z =>
    rw [e1] at e
    cases e
    simp only [Option.map_eq_some_iff] at e1
    obtain ⟨ds, h1, rfl⟩ := e1
    obtain ⟨a, xs, rfl, hq, dd⟩ := asLQ_ok sb h1 k
    exact .inl ⟨a, xs, rfl, hq, q.lst sb (cut_dd dd lo hi)⟩
  | none =>
    rw [e1] at e
    simp only [Option.none_or] at e
    cases e2 : ((asT ox).bind fun ds => if ¬ (HT.sIx ds.length 0 lo = 0 ∧ HT.sIx ds.length ds.length hi = ds.length) then some (O.shr (.tup (cutD ds lo hi))) else none) with
    | some z =>
      rw [e2] at e
      cases e
      simp only [Option.bind_eq_some_iff] at e2
      obtain ⟨ds, h1, e2⟩ := e2
      split at e2
      · next hc =>
        cases e2
        obtain ⟨a, xs, rfl, hq, dd⟩ := asT_ok sb h1 k
        exact .inr (.inl ⟨a, xs, rfl, SqT.of hq, by rw [dd.length]; exact hc, q.tup sb (cut_dd dd lo hi)⟩)
      · cases e2
    | none =>
      rw [e2] at e
      simp only [Option.none_or, Option.bind_eq_some_iff] at e
      obtain ⟨s, hs, e⟩ := e
      split at e
      · next hl =>
        cases e
        exact .inr (.inr ⟨s, asS_ok hs k, sz6 hl, q.val sb (.str _)⟩)
      · cases e
theorem sat_sl {tl th : TO} {fl fh : OF} (ha : SatE K te fe) (hl : SatO K tl fl) (hh : SatO K th fh) : SatE K (tSl (rSlA K) te tl th) (vSl fe fl fh) := fun Hs H σ env h env' r g Q q => by
  simp only [vSl, Option.bind_eq_some_iff] at g
  obtain ⟨⟨x, e1⟩, g1, ⟨l, e2⟩, g2, ⟨u, e3⟩, g3, o, g4, o2, g5, g6⟩ := g
  obtain ⟨rfl, rfl⟩ := Prod.mk.inj (Option.some.inj g6)
  refine ha Hs H σ env x e1 r g1 _ fun Hs1 H1 v p1 k1 f1 => ?_
  refine hl Hs1 H1 σ e1 l e2 p1.r g2 _ fun Hs2 H2 p2 => ?_
  refine hh Hs2 H2 σ e2 u _ p2.r g3 _ fun Hs3 H3 p3 => ?_
  exact s_sl p3.r.sub (((k1.step p2).step p3).get p3.r g4) g5 Q (((p1.trans p2).trans p3).res q)

/-! ### truth -/
def truO : O → Option Bool
  | .shr .non => some false
  | .shr (.bl b) => some b
  | .shr (.int i) => some (i != 0)
  | .shr (.str s) => if s.length ≤ 1000000 then some ((s.length : Int) != 0) else none
  | .ol ds => some !ds.isEmpty
  | .od kvs => some !kvs.isEmpty
  | .shr (.lst ds) => some !ds.isEmpty
  | .shr (.tup ds) => some !ds.isEmpty
  | _ => none
theorem DdAll.empty {Hs : Hp} {ds : List D} {xs : List V} (t : DdAll K Hs ds xs) : xs.isEmpty = ds.isEmpty := by cases t <;> rfl
theorem DdKv.empty {Hs : Hp} {ds : List (Key × D)} {xs : List (Key × V)} (t : DdKv K Hs ds xs) : xs.isEmpty = ds.isEmpty := by cases t <;> rfl
theorem truO_ok {Hs H : Hp} {x : V} {o : O} {b : Bool} (sb : ∀ a u, Hs a = some u → H a = some u) (e : truO o = some b) (k : ROk K Hs H x o) : TruV K x H b := by
  cases o with
  | ol ds =>
    obtain ⟨a, xs, rfl, _, q, t⟩ := k
    cases e
    exact .inl ⟨xs, SqL.of q, by rw [t.empty]⟩
  | od ds =>
    obtain ⟨a, xs, rfl, _, q, t⟩ := k
    cases e
    exact .inr (.inr ⟨xs, q, by rw [t.empty]⟩)
  | shr d =>
    cases k with
    | non => cases e; exact rfl
    | bl b => cases e; exact rfl
    | int i => cases e; exact rfl
    | str s =>
      simp only [truO] at e
      split at e
      · next h => cases e; exact ⟨sz6 h, rfl⟩
      · cases e
    | tup h t => cases e; exact .inr (.inl ⟨_, SqT.of (sb _ _ h), by rw [t.empty]⟩)
    | lst h t => cases e; exact .inl ⟨_, SqL.of (sb _ _ h), by rw [t.empty]⟩
    | dk h t => cases e
    | scr h => cases e
    | opq v => cases e
def tTruV (K : PySem.W.Frag) (ta : TE) : TT := fun σ H Q => ta σ H fun x H' => ∃ k, TruV K x H' k ∧ Q k H'
def bTru (f : EF) : BF := fun env => (f env).bind fun p => (hGet p.2 p.1).bind fun o => (truO o).bind fun b => some (b, p.2)
theorem sat_tru (ha : SatE K te fe) : SatT K (tTruV K te) (bTru fe) := fun Hs H σ env b env' r g Q q => by
  simp only [bTru, Option.bind_eq_some_iff] at g
  obtain ⟨⟨h, e1⟩, g1, o, g2, b1, g3, g4⟩ := g
  obtain ⟨rfl, rfl⟩ := Prod.mk.inj (Option.some.inj g4)
  exact ha Hs H σ env h _ r g1 _ fun Hs1 H1 v p1 k1 f1 => ⟨b1, truO_ok p1.r.sub g3 (k1.get p1.r g2), q Hs1 H1 p1⟩
end

/-! ### built-in functions -/
def asInts : List D → Option (List Int)
  | [] => some []
  | .int i :: r => (asInts r).map (i :: ·)
  | _ => none
def asBls : List D → Option (List Bool)
  | [] => some []
  | .bl i :: r => (asBls r).map (i :: ·)
  | _ => none
def asStrs : List D → Option (List Str)
  | [] => some []
  | .str i :: r => (asStrs r).map (i :: ·)
  | _ => none
section
variable {K : PySem.W.Frag} {Hs H : Hp}
theorem asInts_ok : ∀ {ds : List D} {vs : List V} {ns : List Int}, asInts ds = some ns → DdAll K Hs ds vs → vs = ns.map V.int
  | [], _, _, e, .nil => by cases e; rfl
  | d :: r, _, _, e, .cons a b => by
    cases d with
    | int i =>
      simp only [asInts, Option.map_eq_some_iff] at e
      obtain ⟨ns, h, rfl⟩ := e
      cases a
      rw [asInts_ok h b]; rfl
    | _ => cases e
theorem asBls_ok : ∀ {ds : List D} {vs : List V} {ns : List Bool}, asBls ds = some ns → DdAll K Hs ds vs → vs = ns.map V.bl
  | [], _, _, e, .nil => by cases e; rfl
  | d :: r, _, _, e, .cons a b => by
    cases d with
    | bl i =>
      simp only [asBls, Option.map_eq_some_iff] at e
      obtain ⟨ns, h, rfl⟩ := e
      cases a
      rw [asBls_ok h b]; rfl
    | _ => cases e
theorem asStrs_ok : ∀ {ds : List D} {vs : List V} {ns : List Str}, asStrs ds = some ns → DdAll K Hs ds vs → vs = ns.map V.str
  | [], _, _, e, .nil => by cases e; rfl
  | d :: r, _, _, e, .cons a b => by
    cases d with
    | str i =>
      simp only [asStrs, Option.map_eq_some_iff] at e
      obtain ⟨ns, h, rfl⟩ := e
      cases a
      rw [asStrs_ok h b]; rfl
    | _ => cases e
theorem asInts_map (ns : List Int) : asInts (ns.map D.int) = some ns := by
  induction ns with
  | nil => rfl
  | cons n r ih => simp [asInts, ih]
theorem asBls_map (ns : List Bool) : asBls (ns.map D.bl) = some ns := by
  induction ns with
  | nil => rfl
  | cons n r ih => simp [asBls, ih]
theorem asStrs_map (ns : List Str) : asStrs (ns.map D.str) = some ns := by
  induction ns with
  | nil => rfl
  | cons n r ih => simp [asStrs, ih]
theorem ROks.one {xs : List V} {o : O} (k : ROks K Hs H xs [o]) : ∃ x, xs = [x] ∧ ROk K Hs H x o := by
  cases k with
  | cons a b => cases b; exact ⟨_, rfl, a⟩
theorem ROks.two {xs : List V} {o o' : O} (k : ROks K Hs H xs [o, o']) : ∃ x y, xs = [x, y] ∧ ROk K Hs H x o ∧ ROk K Hs H y o' := by
  cases k with
  | cons a b =>
    obtain ⟨y, rfl, q⟩ := b.one
    exact ⟨_, _, rfl, a, q⟩
end
def one1 (g : O → Option O) : List O → Option O
  | [o] => g o
  | _ => none
def two2 (g : O → O → Option O) : List O → Option O
  | [o, p] => g o p
  | _ => none
section
variable {K : PySem.W.Frag}
theorem sat_one {r : List V → Hp → VK → Prop} {g : O → Option O} (h : ∀ Hs H x ox o, (∀ a u, Hs a = some u → H a = some u) → ROk K Hs H x ox → g ox = some o → ∀ Q, Res K Hs H o Q → r [x] H Q) : CallSat K r (one1 g) := by
  intro Hs H xs os o sb k e Q q
  match os, e with
  | [o'], e =>
    obtain ⟨x, rfl, kx⟩ := k.one
    exact h Hs H x o' o sb kx e Q q
theorem sat_two {r : List V → Hp → VK → Prop} {g : O → O → Option O} (h : ∀ Hs H x y ox oy o, (∀ a u, Hs a = some u → H a = some u) → ROk K Hs H x ox → ROk K Hs H y oy → g ox oy = some o → ∀ Q, Res K Hs H o Q → r [x, y] H Q) : CallSat K r (two2 g) := by
  intro Hs H xs os o sb k e Q q
  match os, e with
  | [o1, o2], e =>
    obtain ⟨x, y, rfl, kx, ky⟩ := k.two
    exact h Hs H x y o1 o2 o sb kx ky e Q q
/-- len -/
def rLenQ (K : PySem.W.Frag) : List V → Hp → VK → Prop := fun xs H Q => ∃ p ys, xs = [.ref p] ∧ (SqL K H p ys ∨ SqT K H p ys) ∧ Q (.int ys.length) H
def rLenS : List V → Hp → VK → Prop := fun xs H Q => ∃ z, xs = [.str z] ∧ z.length ≤ sizeLine ∧ Q (.int z.length) H
def rLenK : List V → Hp → VK → Prop := fun xs H Q => ∃ a kvs, xs = [V.ref a] ∧ Rd H a (.dK kvs) ∧ Q (.int kvs.length) H
theorem call_lenK {X : Cx} : CallR X (.builtin "len") rLenK := by
  intro pins s σ H xs us Q I r h
  obtain ⟨a, kvs, rfl, ha, q⟩ := h
  obtain ⟨u, rfl, ru⟩ := vals1 r
  cases ru
  exact d_len I ha fun t s' I' => ⟨.int kvs.length, H, I', ⟨t, rfl⟩, q⟩
def rLenA (K : PySem.W.Frag) : List V → Hp → VK → Prop := fun xs H Q => rLenQ K xs H Q ∨ (rLenS xs H Q ∨ rLenK xs H Q)
theorem call_lenA {X : Cx} : CallR X (.builtin "len") (rLenA X.K) := call_len_seq.or (call_len_str.or call_lenK)
def oLen : List O → Option O := fun os => (one1 (fun o => (asQ o).map fun ds => O.shr (.int ds.length)) os).or ((one1 (fun o => (asS o).bind fun s => if s.length ≤ 1000000 then some (.shr (.int s.length)) else none) os).or (one1 (fun o => (asK o).map fun ds => O.shr (.int ds.length)) os))
theorem s_len : CallSat K (rLenA K) oLen := by
  refine CallSat.or (sat_one fun Hs H x ox o sb k e Q q => ?_) (CallSat.or (sat_one fun Hs H x ox o sb k e Q q => ?_) (sat_one fun Hs H x ox o sb k e Q q => ?_))
  · simp only [Option.map_eq_some_iff] at e
    obtain ⟨ds, hd, rfl⟩ := e
    obtain ⟨a, xs, rfl, hq, dd⟩ := asQ_ok sb hd k
    exact ⟨a, xs, rfl, hq, by rw [dd.length]; exact q.val sb (.int _)⟩
  · simp only [Option.bind_eq_some_iff] at e
    obtain ⟨s, hs, e⟩ := e
    split at e
    · next hl => cases e; exact ⟨s, by rw [asS_ok hs k], sz6 hl, q.val sb (.int _)⟩
    · cases e
  · simp only [Option.map_eq_some_iff] at e
    obtain ⟨ds, hd, rfl⟩ := e
    obtain ⟨a, xs, rfl, hq, dd⟩ := asK_ok sb hd k
    exact ⟨a, xs, rfl, .inl hq, by rw [dd.length]; exact q.val sb (.int _)⟩
/-- abs, min, max of two -/
def rAbs : List V → Hp → VK → Prop := fun xs H Q => ∃ i, xs = [.int i] ∧ Q (.int (if i < 0 then -i else i)) H
def oAbs : List O → Option O := one1 fun o => (asI o).map fun i => .shr (.int (if i < 0 then -i else i))
theorem s_abs : CallSat K rAbs oAbs := sat_one fun Hs H x ox o sb k e Q q => by
  simp only [Option.map_eq_some_iff] at e
  obtain ⟨i, hi, rfl⟩ := e
  exact ⟨i, by rw [asI_ok hi k], q.val sb (.int _)⟩
def rMax2' : List V → Hp → VK → Prop := fun xs H Q => ∃ i j, xs = [.int i, .int j] ∧ Q (.int (if j > i then j else i)) H
def rMin2' : List V → Hp → VK → Prop := fun xs H Q => ∃ i j, xs = [.int i, .int j] ∧ Q (.int (if j < i then j else i)) H
def oMax2 : List O → Option O := two2 fun o p => (asI o).bind fun i => (asI p).map fun j => .shr (.int (if j > i then j else i))
def oMin2 : List O → Option O := two2 fun o p => (asI o).bind fun i => (asI p).map fun j => .shr (.int (if j < i then j else i))
theorem s_max2 : CallSat K rMax2' oMax2 := sat_two fun Hs H x y ox oy o sb k ky e Q q => by
  simp only [Option.map_eq_some_iff, Option.bind_eq_some_iff] at e
  obtain ⟨i, hi, j, hj, rfl⟩ := e
  exact ⟨i, j, by rw [asI_ok hi k, asI_ok hj ky], q.val sb (.int _)⟩
theorem s_min2 : CallSat K rMin2' oMin2 := sat_two fun Hs H x y ox oy o sb k ky e Q q => by
  simp only [Option.map_eq_some_iff, Option.bind_eq_some_iff] at e
  obtain ⟨i, hi, j, hj, rfl⟩ := e
  exact ⟨i, j, by rw [asI_ok hi k, asI_ok hj ky], q.val sb (.int _)⟩
/-- min, max, sum, any, all, sorted of a list -/
def leastI : Int → List Int → Int
  | i, [] => i
  | i, j :: r => leastI (if j < i then j else i) r
def greatI : Int → List Int → Int
  | i, [] => i
  | i, j :: r => greatI (if i < j then j else i) r
theorem leastI_ok : ∀ (ns : List Int) (i : Int), (leastI i ns ∈ i :: ns) ∧ ∀ y ∈ i :: ns, leastI i ns ≤ y
  | [], i => ⟨by simp [leastI], fun y h => by simp at h; simp [leastI, h]⟩
  | j :: r, i => by
    obtain ⟨h1, h2⟩ := leastI_ok r (if j < i then j else i)
    show leastI (if j < i then j else i) r ∈ i :: j :: r ∧ ∀ y ∈ i :: j :: r, leastI (if j < i then j else i) r ≤ y
    have hb := h2 _ List.mem_cons_self
    refine ⟨?_, fun y h => ?_⟩
    · rcases List.mem_cons.mp h1 with e | e
      · rw [e]; split <;> simp
      · simp [e]
    · rcases List.mem_cons.mp h with e | e
      · subst e
        refine Int.le_trans hb ?_
        split <;> omega
      · rcases List.mem_cons.mp e with e | e
        · subst e
          refine Int.le_trans hb ?_
          split <;> omega
        · exact h2 y (List.mem_cons_of_mem _ e)
theorem greatI_ok : ∀ (ns : List Int) (i : Int), (greatI i ns ∈ i :: ns) ∧ ∀ y ∈ i :: ns, y ≤ greatI i ns
  | [], i => ⟨by simp [greatI], fun y h => by simp at h; simp [greatI, h]⟩
  | j :: r, i => by
    obtain ⟨h1, h2⟩ := greatI_ok r (if i < j then j else i)
    show greatI (if i < j then j else i) r ∈ i :: j :: r ∧ ∀ y ∈ i :: j :: r, y ≤ greatI (if i < j then j else i) r
    have hb := h2 _ List.mem_cons_self
    refine ⟨?_, fun y h => ?_⟩
    · rcases List.mem_cons.mp h1 with e | e
      · rw [e]; split <;> simp
      · simp [e]
    · rcases List.mem_cons.mp h with e | e
      · subst e
        refine Int.le_trans ?_ hb
        split <;> omega
      · rcases List.mem_cons.mp e with e | e
        · subst e
          refine Int.le_trans ?_ hb
          split <;> omega
        · exact h2 y (List.mem_cons_of_mem _ e)
def oSum : List O → Option O := one1 fun o => (asLQ o).bind fun ds => (asInts ds).map fun ns => .shr (.int ns.sum)
theorem s_sum : CallSat K (rSum K) oSum := sat_one fun Hs H x ox o sb k e Q q => by
  simp only [Option.map_eq_some_iff, Option.bind_eq_some_iff] at e
  obtain ⟨ds, hd, ns, hn, rfl⟩ := e
  obtain ⟨a, xs, rfl, hq, dd⟩ := asLQ_ok sb hd k
  rw [asInts_ok hn dd] at hq
  exact ⟨a, ns, rfl, hq, q.val sb (.int _)⟩
def oMinL : List O → Option O := one1 fun o => (asLQ o).bind fun ds => (asInts ds).bind fun ns => match ns with
  | [] => none
  | i :: r => some (.shr (.int (leastI i r)))
def oMaxL : List O → Option O := one1 fun o => (asLQ o).bind fun ds => (asInts ds).bind fun ns => match ns with
  | [] => none
  | i :: r => some (.shr (.int (greatI i r)))
theorem s_minL : CallSat K (rMin K) oMinL := sat_one fun Hs H x ox o sb k e Q q => by
  simp only [Option.bind_eq_some_iff] at e
  obtain ⟨ds, hd, ns, hn, e⟩ := e
  obtain ⟨a, xs, rfl, hq, dd⟩ := asLQ_ok sb hd k
  rw [asInts_ok hn dd] at hq
  cases ns with
  | nil => cases e
  | cons i r =>
    cases e
    obtain ⟨h1, h2⟩ := leastI_ok r i
    refine ⟨a, i :: r, rfl, hq, by simp, fun m hm hl => ?_⟩
    have em : m = leastI i r := Int.le_antisymm (hl _ h1) (h2 m hm)
    rw [em]
    exact q.val sb (.int _)
theorem s_maxL : CallSat K (rMax K) oMaxL := sat_one fun Hs H x ox o sb k e Q q => by
  simp only [Option.bind_eq_some_iff] at e
  obtain ⟨ds, hd, ns, hn, e⟩ := e
  obtain ⟨a, xs, rfl, hq, dd⟩ := asLQ_ok sb hd k
  rw [asInts_ok hn dd] at hq
  cases ns with
  | nil => cases e
  | cons i r =>
    cases e
    obtain ⟨h1, h2⟩ := greatI_ok r i
    refine ⟨a, i :: r, rfl, hq, by simp, fun m hm hl => ?_⟩
    have em : m = greatI i r := Int.le_antisymm (h2 m hm) (hl _ h1)
    rw [em]
    exact q.val sb (.int _)
def oMax (os : List O) : Option O := (oMax2 os).or (oMaxL os)
def oMin (os : List O) : Option O := (oMin2 os).or (oMinL os)
def rMaxA (K : PySem.W.Frag) : List V → Hp → VK → Prop := fun xs H Q => rMax2' xs H Q ∨ rMax K xs H Q
def rMinA (K : PySem.W.Frag) : List V → Hp → VK → Prop := fun xs H Q => rMin2' xs H Q ∨ rMin K xs H Q
theorem s_max : CallSat K (rMaxA K) oMax := s_max2.or s_maxL
theorem s_min : CallSat K (rMinA K) oMin := s_min2.or s_minL
theorem call_maxA {X : Cx} (hc : X.calm = true) : CallR X (.builtin "max") (rMaxA X.K) := (call_max2 hc).or (cr_max hc)
theorem call_minA {X : Cx} (hc : X.calm = true) : CallR X (.builtin "min") (rMinA X.K) := (call_min2 hc).or (cr_min hc)
def oAll : List O → Option O := one1 fun o => (asLQ o).bind fun ds => (asBls ds).map fun ns => .shr (.bl (ns.all id))
def oAny : List O → Option O := one1 fun o => (asLQ o).bind fun ds => (asBls ds).map fun ns => .shr (.bl (ns.any id))
theorem s_all : CallSat K (rAll K) oAll := sat_one fun Hs H x ox o sb k e Q q => by
  simp only [Option.map_eq_some_iff, Option.bind_eq_some_iff] at e
  obtain ⟨ds, hd, ns, hn, rfl⟩ := e
  obtain ⟨a, xs, rfl, hq, dd⟩ := asLQ_ok sb hd k
  rw [asBls_ok hn dd] at hq
  exact ⟨a, ns, rfl, hq, q.val sb (.bl _)⟩
theorem s_any : CallSat K (rAny K) oAny := sat_one fun Hs H x ox o sb k e Q q => by
  simp only [Option.map_eq_some_iff, Option.bind_eq_some_iff] at e
  obtain ⟨ds, hd, ns, hn, rfl⟩ := e
  obtain ⟨a, xs, rfl, hq, dd⟩ := asLQ_ok sb hd k
  rw [asBls_ok hn dd] at hq
  exact ⟨a, ns, rfl, hq, q.val sb (.bl _)⟩
/-- list(..) -/
def rListQ (K : PySem.W.Frag) : List V → Hp → VK → Prop := fun xs H Q => ∃ p ys, xs = [.ref p] ∧ (SqL K H p ys ∨ SqT K H p ys) ∧ ∀ l, H l = none → Q (.ref l) (upd H l (.lst ys))
def oList : List O → Option O := one1 fun o => (asQ o).map .ol
theorem s_list : CallSat K (rListQ K) oList := sat_one fun Hs H x ox o sb k e Q q => by
  simp only [Option.map_eq_some_iff] at e
  obtain ⟨ds, hd, rfl⟩ := e
  obtain ⟨a, xs, rfl, hq, dd⟩ := asQ_ok sb hd k
  exact ⟨a, xs, rfl, hq, q.lst sb dd⟩
/-- int(..), str(..) -/
def rInt1 : List V → Hp → VK → Prop := fun xs H Q => (∃ i, xs = [.int i] ∧ Q (.int i) H) ∨ ∃ k, xs = [.bl k] ∧ Q (.int (if k then 1 else 0)) H
def rIntS : List V → Hp → VK → Prop := fun xs H Q => ∃ a n, xs = [.str a] ∧ PySem.intText? a = some n ∧ a.length ≤ 640 ∧ Q (.int n) H
def rIntA : List V → Hp → VK → Prop := fun xs H Q => rInt1 xs H Q ∨ rIntS xs H Q
theorem call_intA {X : Cx} : CallR X (.type "int") rIntA := call_int1.or call_int_str
def oInt1 : List O → Option O := one1 fun o => match o with
  | .shr (.int i) => some (.shr (.int i))
  | .shr (.bl b) => some (.shr (.int (if b then 1 else 0)))
  | _ => none
def oIntS : List O → Option O := one1 fun o => (asS o).bind fun s => if s.length ≤ 640 then (PySem.intText? s).map fun n => .shr (.int n) else none
def oInt (os : List O) : Option O := (oInt1 os).or (oIntS os)
theorem s_int : CallSat K rIntA oInt := by
  refine CallSat.or (sat_one fun Hs H x ox o sb k e Q q => ?_) (sat_one fun Hs H x ox o sb k e Q q => ?_)
  · split at e
    · cases e; cases k; exact .inl ⟨_, rfl, q.val sb (.int _)⟩
    · cases e; cases k; exact .inr ⟨_, rfl, q.val sb (.int _)⟩
    · cases e
  · simp only [Option.bind_eq_some_iff] at e
    obtain ⟨s, hs, e⟩ := e
    split at e
    · next hl =>
      simp only [Option.map_eq_some_iff] at e
      obtain ⟨n, hn, rfl⟩ := e
      exact ⟨s, n, by rw [asS_ok hs k], hn, hl, q.val sb (.int _)⟩
    · cases e
def rStrI : List V → Hp → VK → Prop := fun xs H Q => ∃ i, xs = [.int i] ∧ i.natAbs.log2 < 1920 ∧ Q (.str (toString i)) H
def oStr : List O → Option O := one1 fun o => (asI o).bind fun i => if i.natAbs.log2 < 1920 then some (.shr (.str (toString i))) else none
theorem s_str : CallSat K rStrI oStr := sat_one fun Hs H x ox o sb k e Q q => by
  simp only [Option.bind_eq_some_iff] at e
  obtain ⟨i, hi, e⟩ := e
  split at e
  · next h => cases e; exact ⟨i, by rw [asI_ok hi k], h, q.val sb (.str _)⟩
  · cases e
/-- isinstance(x, T) -/
inductive Ty where
  | bool | int | str | dict | tuple | list
  deriving DecidableEq
def Ty.name : Ty → String
  | .bool => "bool" | .int => "int" | .str => "str" | .dict => "dict" | .tuple => "tuple" | .list => "list"
def tyO : O → Option (Option Ty)
  | .shr .non => some none
  | .shr (.bl _) => some (some .bool)
  | .shr (.int _) => some (some .int)
  | .shr (.str _) => some (some .str)
  | .shr (.tup _) => some (some .tuple)
  | .shr (.lst _) => some (some .list)
  | .ol _ => some (some .list)
  | .od _ => some (some .dict)
  | .shr (.dk _) => some (some .dict)
  | _ => none
def isTy : Option Ty → Ty → Bool
  | none, _ => false
  | some t, c => decide (t = c) || (decide (t = .bool) && decide (c = .int))
def tyV' : Option Ty → String
  | none => "NoneType"
  | some t => t.name
theorem isTy_ok (t : Option Ty) (c : Ty) : kitB (tyV' t) c.name = some (isTy t c) := by
  cases t with
  | none => cases c <;> decide +kernel
  | some t => cases t <;> cases c <;> decide +kernel
theorem tyO_ok {Hs H : Hp} {x : V} {o : O} {t : Option Ty} (sb : ∀ a u, Hs a = some u → H a = some u) (e : tyO o = some t) (k : ROk K Hs H x o) : TyX K H x (.type (tyV' t)) := by
  cases o with
  | ol ds =>
    obtain ⟨a, xs, rfl, _, q, _⟩ := k
    cases e
    exact .base (.lst q)
  | od ds =>
    obtain ⟨a, xs, rfl, _, q, _⟩ := k
    cases e
    exact .base (.dK q)
  | shr d =>
    cases k with
    | non => cases e; exact .base .non
    | bl b => cases e; exact .base (.bl b)
    | int b => cases e; exact .base (.int b)
    | str b => cases e; exact .base (.str b)
    | tup h t => cases e; exact .base (.tup (sb _ _ h))
    | lst h t => cases e; exact .base (.lst (sb _ _ h))
    | dk h t =>
      cases e
      exact .base (.dK (sb _ _ h))
    | scr h => cases e
    | opq v => cases e
def oIsi : List O → Option O := two2 fun o p => match p with
  | .shr (.opq (.ty n)) => (tyO o).bind fun t => match n with
    | "bool" => some (.shr (.bl (isTy t .bool)))
    | "int" => some (.shr (.bl (isTy t .int)))
    | "str" => some (.shr (.bl (isTy t .str)))
    | "dict" => some (.shr (.bl (isTy t .dict)))
    | "tuple" => some (.shr (.bl (isTy t .tuple)))
    | "list" => some (.shr (.bl (isTy t .list)))
    | _ => none
  | _ => none
theorem s_isi : CallSat K (rIsi K) oIsi := sat_two fun Hs H x y ox oy o sb k ky e Q q => by
  split at e
  · next n =>
    cases ky
    simp only [Option.bind_eq_some_iff] at e
    obtain ⟨t, ht, e⟩ := e
    have ty := tyO_ok sb ht k
    have go : ∀ c : Ty, n = c.name → some (O.shr (.bl (isTy t c))) = some o → rIsi K [x, .ty n] H Q := fun c hc e' => by
      subst hc
      cases e'
      exact ⟨x, _, _, _, _, rfl, .ty _, ty, kit_ty (isTy_ok t c), q.val sb (.bl _)⟩
    split at e
    · exact go .bool rfl e
    · exact go .int rfl e
    · exact go .str rfl e
    · exact go .dict rfl e
    · exact go .tuple rfl e
    · exact go .list rfl e
    · cases e
  · cases e
end
end PV

set_option maxRecDepth 100000
set_option maxHeartbeats 2000000
namespace PV
open PySem L2

/-! ### calls of the text's own defs -/
inductive Rs where
  | o (o : O) | par (j : Nat)
abbrev FF := List O → Option (Rs × List O)
def Dis (vs : List V) (os : List O) : Prop := ∀ (j k : Nat) (o p : O) (a : Addr), os[j]? = some o → o.own = true → os[k]? = some p → p.own = true → vs[j]? = some (.ref a) → vs[k]? = some (.ref a) → j = k
def ArgM (vs : List V) (os : List O) : Mu := fun a => ∃ (j : Nat) (o : O), os[j]? = some o ∧ o.own = true ∧ vs[j]? = some (.ref a)
def RetOk (K : PySem.W.Frag) (Hs' H' H : Hp) (vs : List V) (v : V) : Rs → Prop
  | .o o => ROk K Hs' H' v o ∧ Fre H v o
  | .par j => vs[j]? = some v
/-- what a def promises that computes F -/
def spV (K : PySem.W.Frag) (F : FF) : Sp := fun vs H Q _ => ∃ Hs os r fin, (∀ a u, Hs a = some u → H a = some u) ∧ ROks K Hs H vs os ∧ Dis vs os ∧ F os = some (r, fin) ∧
  ∀ Hs' H' v, Ext (ArgM vs os) Hs H Hs' H' → (∀ a u, Hs' a = some u → H' a = some u) → (∀ (j : Nat) (o f : O) (w : V), os[j]? = some o → o.own = true → fin[j]? = some f → vs[j]? = some w → ROk K Hs' H' w f) → RetOk K Hs' H' H vs v r → Q v H'
def fnd (i : Nat) : List Hnd → List O → List O → Option O
  | .var j :: hs, o :: os, f :: fs => if j = i ∧ o.own = true then some f else fnd i hs os fs
  | .tmp _ :: hs, _ :: os, _ :: fs => fnd i hs os fs
  | _, _, _ => none
def wb (env : Sto) (hs : List Hnd) (os fs : List O) : Sto := env.mapIdx fun i x => x.map fun s => match fnd i hs os fs with
  | some f => { s with o := f }
  | none => s
def isLk (env : Sto) (i : Nat) : Bool := match env[i]? with
  | some (some s) => s.lk
  | _ => true
def lent (i : Nat) : List Hnd → List O → Bool
  | .var j :: hs, o :: os => (decide (j = i) && o.own) || lent i hs os
  | .tmp _ :: hs, _ :: os => lent i hs os
  | _, _ => false
def lendOk (env : Sto) : List Hnd → List O → Bool
  | .var i :: hs, o :: os => (!o.own || (!isLk env i && !lent i hs os)) && lendOk env hs os
  | .tmp _ :: hs, _ :: os => lendOk env hs os
  | _, _ => true
def resH (hs : List Hnd) (os fin : List O) : Rs → Option Hnd
  | .o o => some (.tmp o)
  | .par j => match hs[j]?, os[j]?, fin[j]? with
    | some (.var i), some _, some _ => some (.var i)
    | some (.tmp _), some o, some f => if o.own then some (.tmp f) else none
    | _, _, _ => none
def vCall (F : FF) (fhs : HsF) : EF := fun env => (fhs env).bind fun p => (hGets p.2 p.1).bind fun os => if lendOk p.2 p.1 os then (F os).bind fun q => if q.2.length = os.length then (resH p.1 os q.2 q.1).bind fun h => some (h, wb p.2 p.1 os q.2) else none else none

section
variable {K : PySem.W.Frag} {Hs H : Hp} {σ : L2.St} {env : Sto}
theorem ROks.get {vs : List V} {os : List O} (k : ROks K Hs H vs os) : ∀ {j : Nat} {o : O}, os[j]? = some o → ∃ v, vs[j]? = some v ∧ ROk K Hs H v o := by
  induction k with
  | nil => intro j o e; simp at e
  | cons a b ih =>
    intro j o e
    cases j with
    | zero => simp at e; subst e; exact ⟨_, rfl, a⟩
    | succ j => exact ih (by simpa using e)
theorem ROks.length {vs : List V} {os : List O} (k : ROks K Hs H vs os) : vs.length = os.length := by
  induction k with
  | nil => rfl
  | cons a b ih => simp [ih]
theorem HOks.length {vs : List V} {hs : List Hnd} (k : HOks K Hs H σ env vs hs) : vs.length = hs.length := by
  induction k with
  | nil => rfl
  | cons a b c ih => simp [ih]
theorem HOks.get {vs : List V} {hs : List Hnd} (k : HOks K Hs H σ env vs hs) : ∀ {j : Nat} {h : Hnd}, hs[j]? = some h → ∃ v, vs[j]? = some v ∧ HOk K Hs H σ env v h := by
  induction k with
  | nil => intro j o e; simp at e
  | cons a b c ih =>
    intro j o e
    cases j with
    | zero => simp at e; subst e; exact ⟨_, rfl, a⟩
    | succ j => exact ih (by simpa using e)
/-- two new objects in a row stand apart -/
theorem HOks.apart {vs : List V} {hs : List Hnd} (k : HOks K Hs H σ env vs hs) : ∀ {i j : Nat} {o p : O} {v : V}, i < j → hs[i]? = some (.tmp o) → o.own = true → hs[j]? = some (.tmp p) → p.own = true → vs[i]? = some v → vs[j]? ≠ some v := by
  induction k with
  | nil => intro i j o p v _ e; simp at e
  | cons a b c ih =>
    intro i j o p v lt e1 w1 e2 w2 ev
    cases j with
    | zero => omega
    | succ j =>
      cases i with
      | zero =>
        simp at e1 ev e2
        subst ev
        simpa using b o e1 w1 j p e2 w2
      | succ i =>
        have := ih (i := i) (j := j) (o := o) (p := p) (v := v) (by omega) (by simpa using e1) w1 (by simpa using e2) w2 (by simpa using ev)
        simpa using this
theorem hGets_length : ∀ {hs : List Hnd} {os : List O}, hGets env hs = some os → os.length = hs.length
  | [], os, g => by cases g; rfl
  | h :: r, os, g => by
    simp only [hGets, Option.bind_eq_some_iff] at g
    obtain ⟨o, g1, os', g2, e⟩ := g
    cases e
    simp [hGets_length g2]
theorem hGets_get : ∀ {hs : List Hnd} {os : List O}, hGets env hs = some os → ∀ {j : Nat} {o : O}, os[j]? = some o → ∃ h, hs[j]? = some h ∧ hGet env h = some o
  | [], os, g, j, o, e => by cases g; simp at e
  | h :: r, os, g, j, o', e => by
    simp only [hGets, Option.bind_eq_some_iff] at g
    obtain ⟨o, g1, os', g2, e3⟩ := g
    cases e3
    cases j with
    | zero => simp at e; subst e; exact ⟨h, rfl, g1⟩
    | succ j =>
      obtain ⟨h', e1, e2⟩ := hGets_get g2 (j := j) (o := o') (by simpa using e)
      exact ⟨h', by simpa using e1, e2⟩
theorem lent_of : ∀ {hs : List Hnd} {os : List O} {j i : Nat} {o : O}, hs[j]? = some (.var i) → os[j]? = some o → o.own = true → lent i hs os = true
  | [], _, _, _, _, e, _, _ => by simp at e
  | _ :: _, [], _, _, _, _, e, _ => by simp at e
  | h :: hs, o' :: os, 0, i, o, e1, e2, w => by
    simp at e1 e2
    subst e1 e2
    simp [lent, w]
  | h :: hs, o' :: os, j + 1, i, o, e1, e2, w => by
    have q := lent_of (hs := hs) (os := os) (j := j) (i := i) (o := o) (by simpa using e1) (by simpa using e2) w
    cases h with
    | var k => simp [lent, q]
    | tmp k => simpa [lent] using q
theorem lendOk_get : ∀ {hs : List Hnd} {os : List O}, lendOk env hs os = true → ∀ {j i : Nat} {o : O}, hs[j]? = some (.var i) → os[j]? = some o → o.own = true → isLk env i = false
  | [], _, _, _, _, _, e, _, _ => by simp at e
  | _ :: _, [], _, _, _, _, _, e, _ => by simp at e
  | h :: hs, o' :: os, l, 0, i, o, e1, e2, w => by
    simp at e1 e2
    subst e1 e2
    simp [lendOk, w] at l
    exact l.1.1
  | h :: hs, o' :: os, l, j + 1, i, o, e1, e2, w => by
    have l' : lendOk env hs os = true := by
      cases h with
      | var k => simp [lendOk] at l; exact l.2
      | tmp k => simpa [lendOk] using l
    exact lendOk_get l' (j := j) (by simpa using e1) (by simpa using e2) w
theorem lendOk_once : ∀ {hs : List Hnd} {os : List O}, lendOk env hs os = true → ∀ {j k i : Nat} {o p : O}, hs[j]? = some (.var i) → os[j]? = some o → o.own = true → hs[k]? = some (.var i) → os[k]? = some p → p.own = true → j = k
  | [], _, _, _, _, _, _, _, e, _, _, _, _, _ => by simp at e
  | _ :: _, [], _, _, _, _, _, _, _, e, _, _, _, _ => by simp at e
  | h :: hs, o' :: os, l, 0, 0, i, o, p, e1, e2, w, e3, e4, w2 => rfl
  | h :: hs, o' :: os, l, 0, k + 1, i, o, p, e1, e2, w, e3, e4, w2 => by
    simp at e1 e2
    subst e1 e2
    simp [lendOk, w] at l
    have := lent_of (hs := hs) (os := os) (j := k) (i := i) (by simpa using e3) (by simpa using e4) w2
    rw [l.1.2] at this
    cases this
  | h :: hs, o' :: os, l, j + 1, 0, i, o, p, e1, e2, w, e3, e4, w2 => by
    simp at e3 e4
    subst e3 e4
    simp [lendOk, w2] at l
    have := lent_of (hs := hs) (os := os) (j := j) (i := i) (by simpa using e1) (by simpa using e2) w
    rw [l.1.2] at this
    cases this
  | h :: hs, o' :: os, l, j + 1, k + 1, i, o, p, e1, e2, w, e3, e4, w2 => by
    have l' : lendOk env hs os = true := by
      cases h with
      | var k => simp [lendOk] at l; exact l.2
      | tmp k => simpa [lendOk] using l
    rw [lendOk_once l' (j := j) (k := k) (by simpa using e1) (by simpa using e2) w (by simpa using e3) (by simpa using e4) w2]
theorem fnd_some : ∀ {hs : List Hnd} {os fs : List O} {i : Nat} {f : O}, fnd i hs os fs = some f → ∃ (j : Nat) (o : O), hs[j]? = some (.var i) ∧ os[j]? = some o ∧ o.own = true ∧ fs[j]? = some f
  | [], _, _, _, _, e => by simp [fnd] at e
  | h :: hs, [], _, _, _, e => by cases h <;> simp [fnd] at e
  | h :: hs, o :: os, [], _, _, e => by cases h <;> simp [fnd] at e
  | h :: hs, o :: os, g :: fs, i, f, e => by
    cases h with
    | var j =>
      simp only [fnd] at e
      split at e
      · next hc => cases e; exact ⟨0, o, by simp [hc.1], rfl, hc.2, rfl⟩
      · obtain ⟨j, o', a, b, c, d⟩ := fnd_some e
        exact ⟨j + 1, o', by simpa using a, by simpa using b, c, by simpa using d⟩
    | tmp t =>
      obtain ⟨j, o', a, b, c, d⟩ := fnd_some (hs := hs) (os := os) (fs := fs) (by simpa [fnd] using e)
      exact ⟨j + 1, o', by simpa using a, by simpa using b, c, by simpa using d⟩
theorem fnd_of : ∀ {hs : List Hnd} {os fs : List O} {i j : Nat} {o : O}, fs.length = os.length → hs[j]? = some (.var i) → os[j]? = some o → o.own = true → fnd i hs os fs ≠ none
  | [], _, _, _, _, _, _, e, _, _ => by simp at e
  | _ :: _, [], _, _, _, _, _, _, e, _ => by simp at e
  | _ :: _, _ :: _, [], _, _, _, l, _, _, _ => by simp at l
  | h :: hs, o' :: os, f :: fs, i, 0, o, l, e1, e2, w => by
    simp at e1 e2
    subst e1 e2
    simp [fnd, w]
  | h :: hs, o' :: os, f :: fs, i, j + 1, o, l, e1, e2, w => by
    have q := fnd_of (hs := hs) (os := os) (fs := fs) (i := i) (j := j) (o := o) (by simpa using l) (by simpa using e1) (by simpa using e2) w
    cases h with
    | var k =>
      simp only [fnd]
      split
      · simp
      · exact q
    | tmp k => simpa [fnd] using q
theorem wb_get {hs : List Hnd} {os fs : List O} {i : Nat} {s' : Slot} (e : (wb env hs os fs)[i]? = some (some s')) : ∃ s : Slot, env[i]? = some (some s) ∧ s'.pin = s.pin ∧ s'.lk = s.lk ∧ ((fnd i hs os fs = none ∧ s' = s) ∨ fnd i hs os fs = some s'.o) := by
  unfold wb at e
  rw [List.getElem?_mapIdx] at e
  cases h : env[i]? with
  | none => rw [h] at e; cases e
  | some x =>
    rw [h] at e
    cases x with
    | none => cases e
    | some s =>
      simp only [Option.map_some, Option.some.injEq] at e
      refine ⟨s, rfl, ?_⟩
      cases hf : fnd i hs os fs with
      | none => rw [hf] at e; subst e; exact ⟨rfl, rfl, .inl ⟨rfl, rfl⟩⟩
      | some f => rw [hf] at e; subst e; exact ⟨rfl, rfl, .inr rfl⟩
theorem wb_of {hs : List Hnd} {os fs : List O} {i : Nat} {s : Slot} (e : env[i]? = some (some s)) : ∃ s' : Slot, (wb env hs os fs)[i]? = some (some s') ∧ s'.pin = s.pin ∧ s'.lk = s.lk ∧ (fnd i hs os fs = none → s' = s) := by
  unfold wb
  rw [List.getElem?_mapIdx, e]
  simp only [Option.map_some]
  cases hf : fnd i hs os fs with
  | none => exact ⟨_, rfl, rfl, rfl, fun _ => rfl⟩
  | some f => exact ⟨_, rfl, rfl, rfl, fun z => nomatch z⟩
theorem ROk.own_ref {v : V} {o : O} (h : ROk K Hs H v o) (w : o.own = true) : ∃ a, v = .ref a := let ⟨a, _, e, _⟩ := h.ref w; ⟨a, e⟩
theorem sat_call {F : FF} {t : TA} {fhs : HsF} {E : XK} (ha : SatHs K t fhs) : SatE K (tCall (spV K F) [] E t) (vCall F fhs) := by
  intro Hs H σ env h env' r0 g Q q
  simp only [vCall, Option.bind_eq_some_iff] at g
  obtain ⟨⟨hs, e1⟩, g1, os, g2, g⟩ := g
  split at g
  · next hl =>
    simp only [Option.bind_eq_some_iff] at g
    obtain ⟨⟨r, fin⟩, g3, g⟩ := g
    split at g
    · next hlen =>
      simp only [Option.bind_eq_some_iff] at g
      obtain ⟨h', g4, g5⟩ := g
      obtain ⟨rfl, rfl⟩ := Prod.mk.inj (Option.some.inj g5)
      refine ha Hs H σ env hs e1 r0 g1 _ fun Hs1 H1 vs p1 k1 f1 => ?_
      have ks := k1.gets p1.r g2
      -- where an own argument stands
      have at_ : ∀ {j : Nat} {o : O} {a : Addr}, os[j]? = some o → o.own = true → vs[j]? = some (.ref a) → (∃ i, hs[j]? = some (.var i) ∧ owns e1 i ∧ muts e1 i ∧ σ[i]? = some (some (.ref a))) ∨ (∃ o', hs[j]? = some (.tmp o') ∧ o'.own = true ∧ H a = none ∧ ∀ i, owns e1 i → σ[i]? ≠ some (some (.ref a))) := by
        intro j o a eo w ev
        obtain ⟨hh, eh, eg⟩ := hGets_get g2 eo
        obtain ⟨v, ev', hk⟩ := k1.get eh
        rw [ev] at ev'
        cases ev'
        cases hh with
        | var i =>
          obtain ⟨s, es, rfl⟩ := hGet_var eg
          have l := lendOk_get hl eh eo w
          unfold isLk at l
          rw [es] at l
          exact .inl ⟨i, eh, ⟨s, es, w⟩, ⟨s, es, w, l⟩, hk⟩
        | tmp o' =>
          cases eg
          exact .inr ⟨_, eh, w, (f1.get ev eh) w a rfl, hk.2 w⟩
      have dis : Dis vs os := by
        intro j k o p a e1' w1 e2' w2 ev1 ev2
        rcases at_ e1' w1 ev1 with ⟨i, b1, b2, _, b3⟩ | ⟨o1, b1, b2, _, b3⟩
        · rcases at_ e2' w2 ev2 with ⟨i', c1, c2, _, c3⟩ | ⟨o2, c1, c2, _, c3⟩
          · have ei := p1.r.inj i i' _ b2 c2 b3 c3
            subst ei
            exact lendOk_once hl b1 e1' w1 c1 e2' w2
          · exact absurd b3 (c3 i b2)
        · rcases at_ e2' w2 ev2 with ⟨i', c1, c2, _, c3⟩ | ⟨o2, c1, c2, _, c3⟩
          · exact absurd c3 (b3 i' c2)
          · rcases Nat.lt_trichotomy j k with z | z | z
            · exact absurd ev2 (k1.apart z b1 b2 c1 c2 ev1)
            · exact z
            · exact absurd ev1 (k1.apart z c1 c2 b1 b2 ev2)
      show spV K F (vs ++ []) H1 Q E
      rw [List.append_nil]
      refine ⟨Hs1, os, r, fin, p1.r.sub, ks, dis, g3, fun Hs2 H2 v e2 s2 fo ro => ?_⟩
      have owb : ∀ {i : Nat}, owns (wb e1 hs os fin) i → owns e1 i := by
        rintro i ⟨s', es', w⟩
        obtain ⟨s, es, _, _, c⟩ := wb_get es'
        rcases c with ⟨_, rfl⟩ | c
        · exact ⟨s', es, w⟩
        · obtain ⟨j, o, a1, a2, a3, a4⟩ := fnd_some c
          obtain ⟨hh, eh, eg⟩ := hGets_get g2 a2
          rw [a1] at eh
          cases eh
          obtain ⟨s0, es0, rfl⟩ := hGet_var eg
          exact ⟨s0, es0, a3⟩
      have R2 : R K Hs2 H2 σ (wb e1 hs os fin) := by
        refine ⟨by unfold wb; rw [List.length_mapIdx]; exact p1.r.len, s2, fun i s' es' => ?_, fun i j v o1 o2 => p1.r.inj i j v (owb o1) (owb o2)⟩
        obtain ⟨s, es, _, _, c⟩ := wb_get es'
        obtain ⟨w, ew, kw⟩ := p1.r.ok i s es
        refine ⟨w, ew, ?_⟩
        rcases c with ⟨hn, rfl⟩ | c
        · refine kw.step e2 fun ow a ea ⟨j, o, b1, b2, b3⟩ => ?_
          subst ea
          rcases at_ b1 b2 b3 with ⟨i', c1, c2, _, c3⟩ | ⟨o1, c1, c2, _, c3⟩
          · have ei := p1.r.inj i i' _ ⟨s', es, ow⟩ c2 ew c3
            subst ei
            exact fnd_of hlen c1 b1 b2 hn
          · exact c3 i ⟨s', es, ow⟩ ew
        · obtain ⟨j, o, a1, a2, a3, a4⟩ := fnd_some c
          obtain ⟨v', ev', hk⟩ := k1.get a1
          have hk : σ[i]? = some (some v') := hk
          rw [ew] at hk
          cases hk
          exact fo j o _ _ a2 a3 a4 ev'
      have po : Po K Hs H σ env Hs2 H2 σ (wb e1 hs os fin) := by
        refine ⟨R2, p1.ext.trans e2 fun a ⟨j, o, b1, b2, b3⟩ => ?_, fun i a oi e => ?_, fun i s es pn => ?_, fun i s es lk => ?_, fun i s es pn => ?_⟩
        · rcases at_ b1 b2 b3 with ⟨i', c1, c2, c3, c4⟩ | ⟨o1, c1, c2, c3, c4⟩
          · exact p1.mu a ⟨i', c3, c4⟩
          · exact .inr c3
        · rcases p1.own i a (owb oi) e with ⟨x1, x2, x3⟩ | x
          · refine .inl ⟨x1, x2, fun ⟨s', es', w, l⟩ => x3 ?_⟩
            obtain ⟨s, es, _, sl, _⟩ := wb_get es'
            obtain ⟨s0, es0, w0⟩ := owb oi
            rw [es] at es0
            cases es0
            exact ⟨s, es, w0, by rw [← sl]; exact l⟩
          · exact .inr x
        · obtain ⟨eσ, s1, es1, pn1, lk1⟩ := p1.pin i s es pn
          obtain ⟨s2, es2, pn2, lk2, _⟩ := wb_of (hs := hs) (os := os) (fs := fin) es1
          exact ⟨rfl, s2, es2, pn2.trans pn1, lk2.trans lk1⟩
        · obtain ⟨es1, eσ⟩ := p1.lk i s es lk
          obtain ⟨s2, es2, _, _, c⟩ := wb_of (hs := hs) (os := os) (fs := fin) es1
          have hn : fnd i hs os fin = none := by
            cases hf : fnd i hs os fin with
            | none => rfl
            | some f =>
              obtain ⟨j, o, a1, a2, a3, _⟩ := fnd_some hf
              have := lendOk_get hl a1 a2 a3
              unfold isLk at this
              rw [es1] at this
              simp only at this
              rw [lk] at this
              cases this
          rw [c hn] at es2
          exact ⟨es2, rfl⟩
        · obtain ⟨s1, es1, pe, _, _⟩ := wb_get es
          exact p1.np i s1 es1 (by rw [← pe]; exact pn)
      have there : ∀ {i : Nat} {a : Addr}, owns (wb e1 hs os fin) i → σ[i]? = some (some (.ref a)) → ∃ u, H1 a = some u := fun oi e => (p1.r.there (owb oi) e).2
      cases r with
      | o o =>
        cases g4
        obtain ⟨ko, fo'⟩ := ro
        refine q Hs2 H2 v po ⟨ko, fun w i oi e => ?_⟩ (Fre.back fo' p1.ext)
        obtain ⟨a, rfl⟩ := ko.own_ref w
        obtain ⟨u, hu⟩ := there oi e
        rw [fo' w a rfl] at hu
        cases hu
      | par j =>
        have ro : vs[j]? = some v := ro
        unfold resH at g4
        dsimp only at g4
        split at g4
        · next i o f c1 c2 c3 =>
          cases g4
          obtain ⟨v', ev', hk⟩ := k1.get c1
          rw [ro] at ev'
          cases ev'
          exact q Hs2 H2 v po hk True.intro
        · next o' o f c1 c2 c3 =>
          split at g4
          · next w =>
            cases g4
            obtain ⟨v', ev', hk⟩ := k1.get c1
            rw [ro] at ev'
            cases ev'
            obtain ⟨hh, eh, eg⟩ := hGets_get g2 c2
            rw [c1] at eh
            cases eh
            cases eg
            exact q Hs2 H2 v po ⟨fo j _ f v c2 w c3 ro, fun _ i oi => hk.2 w i (owb oi)⟩ (fun _ a ea => (f1.get ro c1) w a ea)
          · cases g4
        · cases g4
    · cases g
  · cases g
end
end PV

set_option maxRecDepth 100000
set_option maxHeartbeats 2000000
namespace PV
open PySem L2

/-! ### statements -/
inductive Out where
  | nx (e : Sto) | rt (r : Rs) (e : Sto) | bk (e : Sto) | ct (e : Sto)
abbrev SF := Sto → Option Out
/-- what a return leaves -/
structure PoR (K : PySem.W.Frag) (Hs H : Hp) (σ : L2.St) (env : Sto) (Hs' H' : Hp) (σ' : L2.St) (env' : Sto) : Prop where
  r : R K Hs' H' σ' env'
  ext : Ext (Mof σ env) Hs H Hs' H'
  pin : ∀ (i : Nat) (s : Slot), env[i]? = some (some s) → s.pin = true → σ'[i]? = σ[i]? ∧ ∃ s' : Slot, env'[i]? = some (some s') ∧ s'.pin = true
/-- the value that is handed back -/
def ROut (K : PySem.W.Frag) (H : Hp) (σ : L2.St) (env : Sto) (Hs' H' : Hp) (σ' : L2.St) (v : V) : Rs → Prop
  | .o o => ROk K Hs' H' v o ∧ (o.own = true → ∀ a, v = .ref a → H a = none ∨ ∃ (i : Nat) (s : Slot), env[i]? = some (some s) ∧ s.o.own = true ∧ s.pin = false ∧ σ[i]? = some (some (.ref a)))
  | .par j => σ'[j]? = some (some v) ∧ ∃ s : Slot, env[j]? = some (some s) ∧ s.pin = true
def OkD (K : PySem.W.Frag) (Hs H : Hp) (σ : L2.St) (env : Sto) (DE : Ends) : Out → Prop
  | .nx e => ∀ Hs' H' σ', Po K Hs H σ env Hs' H' σ' e → DE.nx σ' H'
  | .bk e => ∀ Hs' H' σ', Po K Hs H σ env Hs' H' σ' e → DE.bk σ' H'
  | .ct e => ∀ Hs' H' σ', Po K Hs H σ env Hs' H' σ' e → DE.ct σ' H'
  | .rt r e => ∀ Hs' H' σ' v, PoR K Hs H σ env Hs' H' σ' e → ROut K H σ env Hs' H' σ' v r → DE.rt v H'
def SatS (K : PySem.W.Frag) (t : TS) (f : SF) : Prop := ∀ Hs H σ env out, R K Hs H σ env → f env = some out → ∀ DE : Ends, OkD K Hs H σ env DE out → t DE σ H
section
variable {K : PySem.W.Frag} {Hs H Hs' H' Hs1 H1 Hs2 H2 : Hp} {σ σ' σ1 σ2 : L2.St} {env env' env1 env2 : Sto} {DE : Ends} {out : Out}
theorem PoR.after (p : Po K Hs H σ env Hs1 H1 σ1 env1) (q : PoR K Hs1 H1 σ1 env1 Hs2 H2 σ2 env2) : PoR K Hs H σ env Hs2 H2 σ2 env2 :=
  ⟨q.r, p.ext.trans q.ext p.mu, fun i s e k => by
    obtain ⟨e1, s1, h1, k1, _⟩ := p.pin i s e k
    obtain ⟨e2, s2, h2, k2⟩ := q.pin i s1 h1 k1
    exact ⟨e2.trans e1, s2, h2, k2⟩⟩
theorem ROut.after {v : V} {r : Rs} (p : Po K Hs H σ env Hs1 H1 σ1 env1) (q : ROut K H1 σ1 env1 Hs2 H2 σ2 v r) : ROut K H σ env Hs2 H2 σ2 v r := by
  cases r with
  | par j =>
    obtain ⟨a, s, es, ps⟩ := q
    exact ⟨a, p.np j s es ps⟩
  | o o =>
    refine ⟨q.1, fun w a ea => ?_⟩
    rcases q.2 w a ea with n | ⟨i, s, es, ow, np, eσ⟩
    · exact .inl (p.ext.new n)
    · rcases p.own i a ⟨s, es, ow⟩ eσ with ⟨⟨s0, es0, ow0⟩, eσ0, _⟩ | n
      · refine .inr ⟨i, s0, es0, ow0, ?_, eσ0⟩
        cases hs : s0.pin with
        | false => rfl
        | true =>
          obtain ⟨_, s1, e1, p1, _⟩ := p.pin i s0 es0 hs
          rw [es] at e1
          cases e1
          rw [np] at p1
          cases p1
      · exact .inl n
end

/-! ### storing -/
def setS (env : Sto) (i : Nat) (x : O) : Option Sto := match env[i]? with
  | some (some s) => if s.pin || s.lk then none else some (env.set i (some { o := x }))
  | some none => some (env.set i (some { o := x }))
  | none => none
def bindH (i : Nat) (h : Hnd) (env : Sto) : Option Sto := match h with
  | .tmp o => setS env i o
  | .var j => (hTake env (.var j)).bind fun p => setS p.2 i (.shr p.1)
section
variable {K : PySem.W.Frag} {Hs H Hs' H' Hs1 H1 Hs2 H2 Hs0 H0 : Hp} {σ σ' σ1 σ2 σ0 : L2.St} {env env' env1 env2 env0 : Sto} {v : V} {x : O} {i : Nat} {h : Hnd}
theorem setS_some (e : setS env i x = some env') : i < env.length ∧ env' = env.set i (some { o := x }) ∧ ∀ s : Slot, env[i]? = some (some s) → s.pin = false ∧ s.lk = false := by
  unfold setS at e
  split at e
  · next s es =>
    split at e
    · cases e
    · next hc =>
      cases e
      simp only [Bool.or_eq_true, not_or, Bool.not_eq_true] at hc
      exact ⟨(List.getElem?_eq_some_iff.mp es).1, rfl, fun s' es' => by rw [es] at es'; cases es'; exact hc⟩
  · next es =>
    cases e
    exact ⟨(List.getElem?_eq_some_iff.mp es).1, rfl, fun s' es' => by rw [es] at es'; cases es'⟩
  · cases e
theorem set_at {i j : Nat} {s : Slot} (e : (env.set i (some { o := x }))[j]? = some (some s)) : (j = i ∧ s = { o := x }) ∨ (j ≠ i ∧ env[j]? = some (some s)) := by
  by_cases z : i = j
  · subst z
    by_cases hi : i < env.length
    · rw [List.getElem?_set_self hi] at e
      exact .inl ⟨rfl, (Option.some.inj (Option.some.inj e)).symm⟩
    · rw [List.getElem?_eq_none (by simpa using hi)] at e
      cases e
  · rw [List.getElem?_set_ne z] at e
    exact .inr ⟨fun w => z w.symm, e⟩
theorem σset {σ : L2.St} {i j : Nat} {v : V} (h : j ≠ i) : (σ.set i (some v))[j]? = σ[j]? := List.getElem?_set_ne (Ne.symm h)
/-- a value that stands apart from the slots is stored -/
theorem Po.setS (p : Po K Hs0 H0 σ0 env0 Hs H σ env) (k : ROk K Hs H v x) (ap : x.own = true → ∀ i, owns env i → σ[i]? ≠ some (some v)) (f : Fre H0 v x) (e : setS env i x = some env') : Po K Hs0 H0 σ0 env0 Hs H (σ.set i (some v)) env' := by
  obtain ⟨hi, rfl, hs⟩ := setS_some e
  have hiσ : i < σ.length := by rw [← p.r.len]; exact hi
  have self : (σ.set i (some v))[i]? = some (some v) := List.getElem?_set_self hiσ
  refine ⟨⟨by rw [List.length_set, List.length_set]; exact p.r.len, p.r.sub, fun j s es => ?_, fun j l w oj ol ej el => ?_⟩, p.ext, fun j a ⟨s, es, ow⟩ ea => ?_, fun j s es pn => ?_, fun j s es lk => ?_, fun j s es pn => ?_⟩
  · rcases set_at es with ⟨rfl, rfl⟩ | ⟨ne, es⟩
    · exact ⟨v, self, k⟩
    · obtain ⟨w, ew, kw⟩ := p.r.ok j s es
      exact ⟨w, by rw [σset ne]; exact ew, kw⟩
  · obtain ⟨sj, esj, owj⟩ := oj
    obtain ⟨sl, esl, owl⟩ := ol
    rcases set_at esj with ⟨zj, zs⟩ | ⟨nj, esj'⟩
    · rcases set_at esl with ⟨zl, _⟩ | ⟨nl, esl'⟩
      · exact zj.trans zl.symm
      · rw [zj, self] at ej
        cases ej
        rw [σset nl] at el
        rw [zs] at owj
        exact absurd el (ap owj l ⟨sl, esl', owl⟩)
    · rcases set_at esl with ⟨zl, zs⟩ | ⟨nl, esl'⟩
      · rw [zl, self] at el
        cases el
        rw [σset nj] at ej
        rw [zs] at owl
        exact absurd ej (ap owl j ⟨sj, esj', owj⟩)
      · rw [σset nj] at ej
        rw [σset nl] at el
        exact p.r.inj j l w ⟨sj, esj', owj⟩ ⟨sl, esl', owl⟩ ej el
  · rcases set_at es with ⟨rfl, rfl⟩ | ⟨ne, es⟩
    · rw [self] at ea
      cases ea
      exact .inr (f ow a rfl)
    · rw [σset ne] at ea
      rcases p.own j a ⟨s, es, ow⟩ ea with ⟨c1, c2, c3⟩ | c
      · refine .inl ⟨c1, c2, fun ⟨s', es', w', l'⟩ => ?_⟩
        rcases set_at es' with ⟨z, _⟩ | ⟨_, es'⟩
        · exact absurd z ne
        · exact c3 ⟨s', es', w', l'⟩
      · exact .inr c
  · obtain ⟨c1, s', c2, c3, c4⟩ := p.pin j s es pn
    have ne : j ≠ i := fun z => by
      subst z
      have := (hs s' c2).1
      rw [c3] at this
      cases this
    exact ⟨(σset ne).trans c1, s', by rw [List.getElem?_set_ne (Ne.symm ne)]; exact c2, c3, c4⟩
  · obtain ⟨c1, c2⟩ := p.lk j s es lk
    have ne : j ≠ i := fun z => by
      subst z
      have := (hs s c1).2
      rw [lk] at this
      cases this
    exact ⟨by rw [List.getElem?_set_ne (Ne.symm ne)]; exact c1, (σset ne).trans c2⟩
  · rcases set_at es with ⟨rfl, rfl⟩ | ⟨ne, es⟩
    · cases pn
    · exact p.np j s es pn
theorem Po.setD {d : D} (p : Po K Hs0 H0 σ0 env0 Hs H σ env) (k : Dd K Hs d v) (e : PV.setS env i (.shr d) = some env') : Po K Hs0 H0 σ0 env0 Hs H (σ.set i (some v)) env' :=
  p.setS (x := .shr d) k (fun w => nomatch w) (fun w => nomatch w) e
theorem Po.bind (p : Po K Hs0 H0 σ env0 Hs H σ env) (k : HOk K Hs H σ env v h) (f : HFr H0 v h) (e : bindH i h env = some env') : ∃ Hs', Po K Hs0 H0 σ env0 Hs' H (σ.set i (some v)) env' := by
  cases h with
  | tmp o => exact ⟨Hs, p.setS k.1 k.2 f e⟩
  | var j =>
    simp only [bindH, Option.bind_eq_some_iff] at e
    obtain ⟨⟨d, e1⟩, g1, g2⟩ := e
    obtain ⟨Hs', p', dd⟩ := p.took k True.intro g1
    exact ⟨Hs', p'.setD dd g2⟩
end

def sNil : SF := fun env => some (.nx env)
def sSeq (f g : SF) : SF := fun env => (f env).bind fun o => match o with
  | .nx e => g e
  | o => some o
def sSet (i : Nat) (f : EF) : SF := fun env => (f env).bind fun p => (bindH i p.1 p.2).bind fun e => some (.nx e)
def sDrop (f : EF) : SF := fun env => (f env).bind fun p => some (.nx p.2)
def sIf (c : BF) (f g : SF) : SF := fun env => (c env).bind fun p => if p.1 then f p.2 else g p.2
def sBrk : SF := fun env => some (.bk env)
def sCont : SF := fun env => some (.ct env)
def retH (h : Hnd) (env : Sto) : Option Out := match h with
  | .tmp o => some (.rt (.o o) env)
  | .var i => match env[i]? with
    | some (some s) => match s.o with
      | .shr d => some (.rt (.o (.shr d)) env)
      | o => if s.pin then some (.rt (.par i) env) else some (.rt (.o o) (env.set i none))
    | _ => none
def sRet (f : EF) : SF := fun env => (f env).bind fun p => retH p.1 p.2
def sRetN : SF := fun env => some (.rt (.o (.shr .non)) env)
abbrev GF := D → Sto → Option Sto
def SatG (K : PySem.W.Frag) (g : TG) (vs : List Nat) (f : GF) : Prop := ∀ Hs0 H0 σ0 env0 Hs H σ env d v env', Po K Hs0 H0 σ0 env0 Hs H σ env → Dd K Hs d v → f d env = some env' →
  ∀ Q : L2.St → Hp → Prop, (∀ Hs' H' σ', Po K Hs0 H0 σ0 env0 Hs' H' σ' env' → (∀ a u, Hs a = some u → Hs' a = some u) → (∀ i, i ∉ vs → σ'[i]? = σ[i]?) → σ'.length = σ.length → Q σ' H') → g v σ H Q
def SatGs (K : PySem.W.Frag) (g : TGs) (vs : List Nat) (f : List D → Sto → Option Sto) : Prop := ∀ Hs0 H0 σ0 env0 Hs H σ env ds ws env', Po K Hs0 H0 σ0 env0 Hs H σ env → DdAll K Hs ds ws → f ds env = some env' →
  ∀ Q : L2.St → Hp → Prop, (∀ Hs' H' σ', Po K Hs0 H0 σ0 env0 Hs' H' σ' env' → (∀ a u, Hs a = some u → Hs' a = some u) → (∀ i, i ∉ vs → σ'[i]? = σ[i]?) → σ'.length = σ.length → Q σ' H') → g ws σ H Q
def gN (i : Nat) : GF := fun d env => setS env i (.shr d)
def gNilF : List D → Sto → Option Sto := fun ds env => match ds with
  | [] => some env
  | _ => none
def gConsF (f : GF) (r : List D → Sto → Option Sto) : List D → Sto → Option Sto := fun ds env => match ds with
  | d :: ds => (f d env).bind fun e => r ds e
  | [] => none
def gT (n : Nat) (f : List D → Sto → Option Sto) : GF := fun d env => match d with
  | .tup ds => if ds.length = n then f ds env else none
  | _ => none
def sAsg (f : DF) (g : GF) : SF := fun env => (f env).bind fun p => (g p.1 p.2).bind fun e => some (.nx e)
def sPar (i j : Nat) (f : DsF) : SF := fun env => (f env).bind fun p => match p.1 with
  | [a, b] => (setS p.2 i (.shr a)).bind fun e1 => (setS e1 j (.shr b)).bind fun e2 => some (.nx e2)
  | _ => none
section
variable {K : PySem.W.Frag} {Hs H Hs' H' Hs1 H1 Hs2 H2 : Hp} {σ σ' σ1 σ2 : L2.St} {env env' env1 env2 : Sto} {DE : Ends} {out : Out} {ta tb te : TE} {fa fb fe : EF} {t t1 t2 : TS} {f f1 f2 : SF} {tc : TT} {fc : BF} {fd : DF}
theorem sat_nil : SatS K tNext sNil := fun Hs H σ env out r g DE k => by
  cases g
  exact k Hs H σ (Po.refl r)
/-- what holds behind a piece, held behind two -/
theorem OkD.after (p : Po K Hs H σ env Hs1 H1 σ1 env1) (k : OkD K Hs H σ env DE out) : OkD K Hs1 H1 σ1 env1 DE out := by
  cases out with
  | nx e => exact fun Hs' H' σ' q => k Hs' H' σ' (p.trans q)
  | bk e => exact fun Hs' H' σ' q => k Hs' H' σ' (p.trans q)
  | ct e => exact fun Hs' H' σ' q => k Hs' H' σ' (p.trans q)
  | rt r e => exact fun Hs' H' σ' v q w => k Hs' H' σ' v (q.after p) (w.after p)
theorem sat_seq (h1 : SatS K t1 f1) (h2 : SatS K t2 f2) : SatS K (tSeq t1 t2) (sSeq f1 f2) := fun Hs H σ env out r g DE k => by
  simp only [sSeq, Option.bind_eq_some_iff] at g
  obtain ⟨o, g1, g2⟩ := g
  refine h1 Hs H σ env o r g1 { DE with nx := t2 DE } ?_
  cases o with
  | nx e => exact fun Hs' H' σ' p => h2 Hs' H' σ' e out p.r g2 DE (k.after p)
  | bk e => cases g2; exact k
  | ct e => cases g2; exact k
  | rt r e => cases g2; exact k
theorem sat_set {i : Nat} (h : SatE K te fe) : SatS K (tAsg te (gName i)) (sSet i fe) := fun Hs H σ env out r g DE k => by
  simp only [sSet, Option.bind_eq_some_iff] at g
  obtain ⟨⟨x, e1⟩, g1, e2, g2, g3⟩ := g
  cases g3
  refine h Hs H σ env x e1 r g1 _ fun Hs1 H1 v p1 k1 f1 => ?_
  obtain ⟨Hs2, p2⟩ := p1.bind k1 f1 g2
  exact k Hs2 H1 _ p2
theorem sat_drop (h : SatE K te fe) : SatS K (tDrop te) (sDrop fe) := fun Hs H σ env out r g DE k => by
  simp only [sDrop, Option.bind_eq_some_iff] at g
  obtain ⟨⟨x, e1⟩, g1, g3⟩ := g
  cases g3
  exact h Hs H σ env x e1 r g1 _ fun Hs1 H1 v p1 k1 f1 => k Hs1 H1 _ p1
theorem sat_ifS (hc : SatT K tc fc) (h1 : SatS K t1 f1) (h2 : SatS K t2 f2) : SatS K (tIfS tc t1 t2) (sIf fc f1 f2) := fun Hs H σ env out r g DE k => by
  simp only [sIf, Option.bind_eq_some_iff] at g
  obtain ⟨⟨b, e1⟩, g1, g2⟩ := g
  refine hc Hs H σ env b e1 r g1 _ fun Hs1 H1 p1 => ?_
  cases b with
  | true => exact h1 Hs1 H1 σ e1 out p1.r g2 DE (k.after p1)
  | false => exact h2 Hs1 H1 σ e1 out p1.r g2 DE (k.after p1)
theorem sat_brk : SatS K tBreak sBrk := fun Hs H σ env out r g DE k => by cases g; exact k Hs H σ (Po.refl r)
theorem sat_cont : SatS K tCont sCont := fun Hs H σ env out r g DE k => by cases g; exact k Hs H σ (Po.refl r)
theorem Po.por (p : Po K Hs H σ env Hs' H' σ' env') : PoR K Hs H σ env Hs' H' σ' env' := ⟨p.r, p.ext, fun i s e k => let ⟨a, s', b, c, _⟩ := p.pin i s e k; ⟨a, s', b, c⟩⟩
theorem sat_retS (h : SatE K te fe) : SatS K (tRet te) (sRet fe) := fun Hs H σ env out r g DE k => by
  simp only [sRet, Option.bind_eq_some_iff] at g
  obtain ⟨⟨x, e1⟩, g1, g2⟩ := g
  refine h Hs H σ env x e1 r g1 _ fun Hs1 H1 v p1 k1 f1 => ?_
  cases x with
  | tmp o =>
    cases g2
    exact k Hs1 H1 σ v p1.por ⟨k1.1, fun w a ea => .inl (f1 w a ea)⟩
  | var i =>
    have kv : σ[i]? = some (some v) := k1
    dsimp only [retH] at g2
    cases es : e1[i]? with
    | none => rw [es] at g2; cases g2
    | some y =>
      cases y with
      | none => rw [es] at g2; cases g2
      | some s =>
        rw [es] at g2
        obtain ⟨w, ew, kw⟩ := p1.r.ok i s es
        rw [kv] at ew
        cases ew
        obtain ⟨so, sp, sl⟩ := s
        have own_case : so.own = true → (if sp = true then some (Out.rt (.par i) e1) else some (Out.rt (.o so) (e1.set i none))) = some out → DE.rt v H1 := by
          intro ow g2
          cases sp with
          | true =>
            cases g2
            exact k Hs1 H1 σ v p1.por ⟨kv, p1.np i _ es rfl⟩
          | false =>
            cases g2
            have at_ : ∀ {j : Nat} {s : Slot}, (e1.set i none)[j]? = some (some s) → j ≠ i ∧ e1[j]? = some (some s) := fun {j s} ej => by
              by_cases z : i = j
              · subst z
                rw [List.getElem?_set_self (List.getElem?_eq_some_iff.mp es).1] at ej
                cases ej
              · rw [List.getElem?_set_ne z] at ej
                exact ⟨fun w => z w.symm, ej⟩
            refine k Hs1 H1 σ v ⟨⟨by rw [List.length_set]; exact p1.r.len, p1.r.sub, fun j s ej => p1.r.ok j s (at_ ej).2, fun j l w ⟨s1, a1, b1⟩ ⟨s2, a2, b2⟩ => p1.r.inj j l w ⟨s1, (at_ a1).2, b1⟩ ⟨s2, (at_ a2).2, b2⟩⟩, p1.ext, fun j s ej pn => ?_⟩ ⟨kw, fun _ a ea => ?_⟩
            · obtain ⟨c1, s', c2, c3, _⟩ := p1.pin j s ej pn
              have ne : i ≠ j := fun z => by
                subst z
                rw [es] at c2
                cases c2
                cases c3
              exact ⟨c1, s', by rw [List.getElem?_set_ne ne]; exact c2, c3⟩
            · subst ea
              rcases p1.own i a ⟨_, es, ow⟩ kv with ⟨⟨s0, es0, ow0⟩, _, _⟩ | n
              · refine .inr ⟨i, s0, es0, ow0, ?_, kv⟩
                cases hp : s0.pin with
                | false => rfl
                | true =>
                  obtain ⟨_, s', c2, c3, _⟩ := p1.pin i s0 es0 hp
                  rw [es] at c2
                  cases c2
                  cases c3
              · exact .inl n
        cases so with
        | shr d =>
          cases g2
          exact k Hs1 H1 σ v p1.por ⟨kw, fun w => nomatch w⟩
        | ol ds => exact own_case rfl g2
        | od ds => exact own_case rfl g2
theorem sat_retN : SatS K tRetN sRetN := fun Hs H σ env out r g DE k => by
  cases g
  exact k Hs H σ .non (Po.refl r).por ⟨.non, fun w => nomatch w⟩
theorem sat_gN {i : Nat} : SatG K (gName i) [i] (gN i) := fun Hs0 H0 σ0 env0 Hs H σ env d v env' p dd e Q q =>
  q Hs H _ (p.setD dd e) (fun _ _ h => h) (fun j h => σset (by simpa using h)) (by simp)
theorem sat_gNil : SatGs K gNil [] gNilF := fun Hs0 H0 σ0 env0 Hs H σ env ds ws env' p dd e Q q => by
  cases dd with
  | nil => cases e; exact ⟨rfl, q Hs H σ p (fun _ _ h => h) (fun _ _ => rfl) rfl⟩
  | cons a b => cases e
theorem sat_gCons {g : TG} {gs : TGs} {vs ws : List Nat} {f : GF} {r : List D → Sto → Option Sto} (h : SatG K g vs f) (hr : SatGs K gs ws r) : SatGs K (gCons g gs) (vs ++ ws) (gConsF f r) := fun Hs0 H0 σ0 env0 Hs H σ env ds us env' p dd e Q q => by
  cases dd with
  | nil => cases e
  | cons a b =>
    simp only [gConsF, Option.bind_eq_some_iff] at e
    obtain ⟨e1, g1, g2⟩ := e
    refine ⟨_, _, rfl, h Hs0 H0 σ0 env0 Hs H σ env _ _ e1 p a g1 _ fun Hs1 H1 σ1 p1 u1 o1 l1 => ?_⟩
    refine hr Hs0 H0 σ0 env0 Hs1 H1 σ1 e1 _ _ env' p1 (b.mono u1) g2 Q fun Hs2 H2 σ2 p2 u2 o2 l2 => q Hs2 H2 σ2 p2 (fun a u h => u2 a u (u1 a u h)) (fun i hi => ?_) (l2.trans l1)
    · rw [List.mem_append, not_or] at hi
      exact (o2 i hi.2).trans (o1 i hi.1)
end
end PV

set_option maxRecDepth 100000
set_option maxHeartbeats 2000000
namespace PV
open PySem L2

def asTup (n : Nat) : D → Option (List D)
  | .tup ds => if ds.length = n then some ds else none
  | _ => none
section
variable {K : PySem.W.Frag} {Hs H Hs' H' Hs1 H1 Hs2 H2 Hs0 H0 : Hp} {σ σ' σ1 σ2 σ0 : L2.St} {env env' env1 env2 env0 : Sto} {DE : Ends} {out : Out} {ta tb te : TE} {fa fb fe : EF} {t t1 t2 : TS} {f f1 f2 : SF} {tc : TT} {fc : BF} {fd : DF} {v : V}
theorem sat_gT {n : Nat} {g : TGs} {vs : List Nat} {r : List D → Sto → Option Sto} (h : SatGs K g vs r) : SatG K (gTup K n g) vs (gT n r) := fun Hs0 H0 σ0 env0 Hs H σ env d v env' p dd e Q q => by
  cases dd with
  | tup hh t =>
    simp only [gT] at e
    split at e
    · next hl => exact ⟨_, _, rfl, SqT.of (p.r.sub _ _ hh), by rw [t.length]; exact hl, h Hs0 H0 σ0 env0 Hs H σ env _ _ env' p t e Q q⟩
    · cases e
  | _ => cases e
theorem sat_asg {g : TG} {vs : List Nat} {r : GF} (h : SatD K te fd) (hg : SatG K g vs r) : SatS K (tAsg te g) (sAsg fd r) := fun Hs H σ env out rr e DE k => by
  simp only [sAsg, Option.bind_eq_some_iff] at e
  obtain ⟨⟨d, e1⟩, g1, e2, g2, g3⟩ := e
  cases g3
  refine h Hs H σ env d e1 rr g1 _ fun Hs1 H1 v p1 d1 => ?_
  exact hg Hs H σ env Hs1 H1 σ e1 d v e2 p1 d1 g2 _ fun Hs2 H2 σ2 p2 _ _ _ => k Hs2 H2 σ2 p2
theorem sat_par {i j : Nat} {ta : TA} {fds : DsF} (h : SatDs K ta fds) : SatS K (tPar i j ta) (sPar i j fds) := fun Hs H σ env out rr e DE k => by
  simp only [sPar, Option.bind_eq_some_iff] at e
  obtain ⟨⟨ds, e1⟩, g1, e⟩ := e
  refine h Hs H σ env ds e1 rr g1 _ fun Hs1 H1 vs p1 d1 => ?_
  match ds, d1, e with
  | [a, b], .cons da (.cons db .nil), e =>
    simp only [Option.bind_eq_some_iff] at e
    obtain ⟨e2, g2, e3, g3, g4⟩ := e
    cases g4
    exact ⟨_, _, rfl, k Hs1 H1 _ ((p1.setD da g2).setD db g3)⟩
/-- an object of one's own is changed in place -/
theorem Po.mut (p : Po K Hs0 H0 σ0 env0 Hs H σ env) {i : Nat} {s : Slot} {a : Addr} {u : HO} {o' : O} (es : env[i]? = some (some s)) (ow : s.o.own = true) (l : s.lk = false) (ev : σ[i]? = some (some (.ref a))) (k : ROk K Hs (upd H a u) (.ref a) o') (w' : o'.own = true) :
    Po K Hs0 H0 σ0 env0 Hs (upd H a u) σ (env.set i (some { s with o := o' })) := by
  have hi : i < env.length := (List.getElem?_eq_some_iff.mp es).1
  obtain ⟨hs, u0, hu⟩ := p.r.there ⟨s, es, ow⟩ ev
  have at_ : ∀ {j : Nat} {s' : Slot}, (env.set i (some { s with o := o' }))[j]? = some (some s') → (j = i ∧ s' = { s with o := o' }) ∨ (j ≠ i ∧ env[j]? = some (some s')) := fun {j s'} ej => by
    by_cases z : i = j
    · subst z
      rw [List.getElem?_set_self hi] at ej
      exact .inl ⟨rfl, (Option.some.inj (Option.some.inj ej)).symm⟩
    · rw [List.getElem?_set_ne z] at ej
      exact .inr ⟨fun w => z w.symm, ej⟩
  have ow' : ∀ {j : Nat}, owns (env.set i (some { s with o := o' })) j → owns env j := fun {j} ⟨s', ej, wj⟩ => by
    rcases at_ ej with ⟨rfl, _⟩ | ⟨_, ej⟩
    · exact ⟨s, es, ow⟩
    · exact ⟨s', ej, wj⟩
  have e0 : Ext (fun b => b = a) Hs H Hs (upd H a u) := ⟨fun _ _ h => h, fun b w h n => by rw [upd_ne n]; exact h, fun _ _ _ h _ => h, fun b w h => by
      by_cases z : b = a
      · exact ⟨u, by rw [z]; exact upd_same⟩
      · exact ⟨w, by rw [upd_ne z]; exact h⟩⟩
  have e1 : Ext (Mof σ env) Hs H Hs (upd H a u) := e0.weak fun b z => by subst z; exact ⟨i, ⟨s, es, ow, l⟩, ev⟩
  refine ⟨⟨by rw [List.length_set]; exact p.r.len, fun b w h => ?_, fun j s' ej => ?_, fun j m w oj om => p.r.inj j m w (ow' oj) (ow' om)⟩, p.ext.trans e1 p.mu, fun j b oj eb => ?_, fun j s' ej pn => ?_, fun j s' ej lk => ?_, fun j s' ej pn => ?_⟩
  · have z : b ≠ a := fun z => by subst z; rw [hs] at h; cases h
    rw [upd_ne z]
    exact p.r.sub b w h
  · rcases at_ ej with ⟨rfl, rfl⟩ | ⟨ne, ej⟩
    · exact ⟨_, ev, k⟩
    · obtain ⟨w, ew, kw⟩ := p.r.ok j s' ej
      exact ⟨w, ew, kw.step e0 fun wo b eb z => by
        subst eb
        subst z
        exact ne (p.r.inj j i _ ⟨s', ej, wo⟩ ⟨s, es, ow⟩ ew ev)⟩
  · rcases p.own j b (ow' oj) eb with ⟨c1, c2, c3⟩ | c
    · refine .inl ⟨c1, c2, fun ⟨s', ej, wj, lj⟩ => c3 ?_⟩
      rcases at_ ej with ⟨rfl, rfl⟩ | ⟨_, ej⟩
      · exact ⟨s, es, ow, l⟩
      · exact ⟨s', ej, wj, lj⟩
    · exact .inr c
  · obtain ⟨c1, s1, c2, c3, c4⟩ := p.pin j s' ej pn
    by_cases z : i = j
    · subst z
      rw [es] at c2
      cases c2
      exact ⟨c1, _, List.getElem?_set_self hi, c3, c4⟩
    · exact ⟨c1, s1, by rw [List.getElem?_set_ne z]; exact c2, c3, c4⟩
  · obtain ⟨c1, c2⟩ := p.lk j s' ej lk
    have z : i ≠ j := fun z => by
      subst z
      rw [es] at c1
      cases c1
      rw [l] at lk
      cases lk
    exact ⟨by rw [List.getElem?_set_ne z]; exact c1, c2⟩
  · rcases at_ ej with ⟨rfl, rfl⟩ | ⟨_, ej⟩
    · exact p.np j s es pn
    · exact p.np j s' ej pn
end

/-! ### an object of one's own, changed by a method or a store -/
/-- slot i, its own, not walked: changed by g -/
def mutS (env : Sto) (i : Nat) (g : O → Option (D × O)) : Option (D × Sto) := match env[i]? with
  | some (some s) => if s.lk then none else (g s.o).bind fun p => if s.o.own && p.2.own then some (p.1, env.set i (some { s with o := p.2 })) else none
  | _ => none
theorem mutS_some {env env' : Sto} {i : Nat} {g : O → Option (D × O)} {d : D} (e : mutS env i g = some (d, env')) : ∃ (s : Slot) (o' : O), env[i]? = some (some s) ∧ s.lk = false ∧ s.o.own = true ∧ g s.o = some (d, o') ∧ o'.own = true ∧ env' = env.set i (some { s with o := o' }) := by
  unfold mutS at e
  split at e
  · next s es =>
    split at e
    · cases e
    · next hl =>
      simp only [Option.bind_eq_some_iff] at e
      obtain ⟨⟨d1, o1⟩, h1, h2⟩ := e
      split at h2
      · next hw =>
        cases h2
        simp only [Bool.and_eq_true] at hw
        exact ⟨s, o1, es, by simpa using hl, hw.1, h1, hw.2, rfl⟩
      · cases h2
  · cases e
def kindOf (o : O) : String := match o with
  | .ol _ => "list"
  | .od _ => "dict"
  | .shr _ => ""
def kindS (env : Sto) (i : Nat) : String := match env[i]? with
  | some (some s) => kindOf s.o
  | _ => ""
def vMt (i : Nat) (T : String) (m : List D → O → Option (D × O)) (f : DsF) : EF := fun env => if kindS env i = T then (f env).bind fun p => (mutS p.2 i (m p.1)).bind fun q => some (.tmp (.shr q.1), q.2) else none
def MtSat (K : PySem.W.Frag) (r : V → List V → Hp → VK → Prop) (m : List D → O → Option (D × O)) : Prop :=
  ∀ Hs H a o ds vs d o', (∀ b u, Hs b = some u → H b = some u) → ROk K Hs H (.ref a) o → o.own = true → DdAll K Hs ds vs → m ds o = some (d, o') →
    ∀ Q : VK, (∀ v u, Dd K Hs d v → ROk K Hs (upd H a u) (.ref a) o' → Q v (upd H a u)) → r (.ref a) vs H Q
section
variable {K : PySem.W.Frag} {T : String} {r : V → List V → Hp → VK → Prop} {m : List D → O → Option (D × O)} {t : TA} {fds : DsF} {i : Nat}
theorem own_ty {Hs H : Hp} {σ : L2.St} {env : Sto} {v : V} (r : R K Hs H σ env) (ev : σ[i]? = some (some v)) (e : kindS env i = T) (hT : T ≠ "") : tyV K T v H := by
  subst e
  unfold kindS at hT ⊢
  cases es : env[i]? with
  | none => rw [es] at hT; exact absurd rfl hT
  | some x =>
    cases x with
    | none => rw [es] at hT; exact absurd rfl hT
    | some s =>
      rw [es] at hT
      obtain ⟨w, ew, k⟩ := r.ok i s es
      rw [ev] at ew
      cases ew
      dsimp only at hT ⊢
      cases ho : s.o with
      | shr d => rw [ho] at hT; exact absurd rfl hT
      | ol ds =>
        rw [ho] at k
        obtain ⟨a, xs, rfl, _, q, _⟩ := k
        exact .inl ⟨rfl, _, SqL.of q⟩
      | od ds =>
        rw [ho] at k
        obtain ⟨a, xs, rfl, _, q, _⟩ := k
        exact .inr (.inr (.inl ⟨rfl, .inl ⟨_, q⟩⟩))
theorem slot_of {Hs H : Hp} {σ : L2.St} {env : Sto} (r : R K Hs H σ env) (e : kindS env i = T) (hT : T ≠ "") : ∃ v, σ[i]? = some (some v) := by
  subst e
  unfold kindS at hT
  cases es : env[i]? with
  | none => rw [es] at hT; exact absurd rfl hT
  | some x =>
    cases x with
    | none => rw [es] at hT; exact absurd rfl hT
    | some s =>
      obtain ⟨w, ew, k⟩ := r.ok i s es
      exact ⟨w, ew⟩
/-- changed, the value of the change new or shared -/
theorem Po.mutted {Hs0 H0 Hs H : Hp} {σ0 σ : L2.St} {env0 env env' : Sto} {g : O → Option (D × O)} {d : D} {v : V} (p : Po K Hs0 H0 σ0 env0 Hs H σ env) (ev : σ[i]? = some (some v)) (e : mutS env i g = some (d, env')) :
    ∃ a o o', v = .ref a ∧ ROk K Hs H (.ref a) o ∧ o.own = true ∧ g o = some (d, o') ∧ ∀ u, ROk K Hs (upd H a u) (.ref a) o' → Po K Hs0 H0 σ0 env0 Hs (upd H a u) σ env' := by
  obtain ⟨s, o', es, hl, ow, hg, ow', rfl⟩ := mutS_some e
  obtain ⟨w, ew, k⟩ := p.r.ok i s es
  rw [ev] at ew
  cases ew
  obtain ⟨a, rfl⟩ := k.own_ref ow
  exact ⟨a, s.o, o', rfl, k, ow, hg, fun u ku => p.mut es ow hl ev ku ow'⟩
theorem sat_mt (hm : MtSat K r m) (hT : T ≠ "") (ha : SatDs K t fds) : SatE K (tBM K T r (tVar i) t) (vMt i T m fds) := fun Hs H σ env h env' rr g Q q => by
  unfold vMt at g
  split at g
  · next hk =>
    simp only [Option.bind_eq_some_iff] at g
    obtain ⟨⟨ds, e1⟩, g1, ⟨d, e2⟩, g2, g3⟩ := g
    obtain ⟨rfl, rfl⟩ := Prod.mk.inj (Option.some.inj g3)
    obtain ⟨v, ev⟩ := slot_of rr hk hT
    refine ⟨v, ev, own_ty rr ev hk hT, ha Hs H σ env ds e1 rr g1 _ fun Hs1 H1 vs p1 d1 => ?_⟩
    obtain ⟨a, o, o', rfl, k, ow, hg, go⟩ := p1.mutted ev g2
    exact hm Hs1 H1 a o ds vs d o' p1.r.sub k ow d1 hg Q fun w u dw ku => q Hs1 _ w (go u ku) ⟨dw, fun z => nomatch z⟩ fun z => nomatch z
  · cases g
theorem sat_mt0 (hm : MtSat K r m) (hT : T ≠ "") : SatE K (tBM0 K T r (tVar i)) (vMt i T m vNilD) := fun Hs H σ env h env' rr g Q q => by
  unfold vMt vNilD at g
  split at g
  · next hk =>
    simp only [Option.bind_eq_some_iff] at g
    obtain ⟨⟨ds, e1⟩, g1, ⟨d, e2⟩, g2, g3⟩ := g
    obtain ⟨rfl, rfl⟩ := Prod.mk.inj (Option.some.inj g1)
    obtain ⟨rfl, rfl⟩ := Prod.mk.inj (Option.some.inj g3)
    obtain ⟨v, ev⟩ := slot_of rr hk hT
    refine ⟨v, ev, own_ty rr ev hk hT, ?_⟩
    obtain ⟨a, o, o', rfl, k, ow, hg, go⟩ := (Po.refl rr).mutted ev g2
    exact hm Hs H a o [] [] d o' rr.sub k ow .nil hg Q fun w u dw ku => q Hs _ w (go u ku) ⟨dw, fun z => nomatch z⟩ fun z => nomatch z
  · cases g
/-- the methods -/
def mAppend : List D → O → Option (D × O) := fun ds o => match ds, o with
  | [d], .ol es => if es.length ≤ 1000000 then some (.non, .ol (es ++ [d])) else none
  | _, _ => none
theorem s_append : MtSat K rAppend mAppend := fun Hs H a o ds vs d o' sb k ow dd e Q q => by
  unfold mAppend at e
  split at e
  · next d0 es =>
    split at e
    · next hl =>
      cases e
      obtain ⟨b, xs, eb, n, hx, tx⟩ := k
      cases eb
      cases dd with
      | cons d1 d2 =>
        cases d2
        refine ⟨a, xs, _, rfl, rfl, hx, by rw [tx.length]; exact Nat.lt_of_le_of_lt hl (by decide), q _ _ .non ⟨a, _, rfl, n, upd_same, tx.append (.cons d1 .nil)⟩⟩
    · cases e
  · cases e
def mPop : List D → O → Option (D × O) := fun ds o => match ds, o with
  | [], .ol es => (es[es.length - 1]?).map fun d => (d, .ol es.dropLast)
  | _, _ => none
theorem DdAll.dropLast {Hs : Hp} {ds : List D} {vs : List V} (t : DdAll K Hs ds vs) : DdAll K Hs ds.dropLast vs.dropLast := by
  rw [List.dropLast_eq_take, List.dropLast_eq_take, t.length]
  exact t.take _
theorem s_pop : MtSat K rPop mPop := fun Hs H a o ds vs d o' sb k ow dd e Q q => by
  unfold mPop at e
  split at e
  · next es =>
    simp only [Option.map_eq_some_iff] at e
    obtain ⟨d1, h1, h2⟩ := e
    cases h2
    obtain ⟨b, xs, eb, n, hx, tx⟩ := k
    cases eb
    cases dd
    obtain ⟨y, hy, dy⟩ := tx.get h1
    exact ⟨a, xs, y, rfl, rfl, hx, by rw [tx.length]; exact hy, q _ _ dy ⟨a, _, rfl, n, upd_same, tx.dropLast⟩⟩
  · cases e
def mReverse : List D → O → Option (D × O) := fun ds o => match ds, o with
  | [], .ol es => some (.non, .ol es.reverse)
  | _, _ => none
theorem s_reverse : MtSat K rReverse mReverse := fun Hs H a o ds vs d o' sb k ow dd e Q q => by
  unfold mReverse at e
  split at e
  · next es =>
    cases e
    obtain ⟨b, xs, eb, n, hx, tx⟩ := k
    cases eb
    cases dd
    exact ⟨a, xs, rfl, rfl, hx, q _ _ .non ⟨a, _, rfl, n, upd_same, tx.reverse⟩⟩
  · cases e

/-! ### xs[i] = e -/
def setL (k : Int) (d : D) : O → Option (D × O) := fun o => match o with
  | .ol ds => (ixN ds.length k).map fun j => (.non, .ol (ds.set j d))
  | _ => none
def sSetIx (i : Nat) (fv : DF) (fi : EF) : SF := fun env => (fv env).bind fun p => if kindS p.2 i = "list" then (fi p.2).bind fun q => (hGet q.2 q.1).bind fun o => (asI o).bind fun k => (mutS q.2 i (setL k p.1)).bind fun w => some (.nx w.2) else none
theorem sat_setIx {tv ti : TE} {fv : DF} {fi : EF} (hv : SatD K tv fv) (hi : SatE K ti fi) : SatS K (tAsg tv (gSub (tVar i) ti rSetL)) (sSetIx i fv fi) := fun Hs H σ env out rr g DE k => by
  simp only [sSetIx, Option.bind_eq_some_iff] at g
  obtain ⟨⟨d, e1⟩, g1, g⟩ := g
  split at g
  · next hk =>
    simp only [Option.bind_eq_some_iff] at g
    obtain ⟨⟨x, e2⟩, g2, o, g3, kk, g4, ⟨dn, e3⟩, g5, g6⟩ := g
    cases g6
    refine hv Hs H σ env d e1 rr g1 _ fun Hs1 H1 v p1 d1 => ?_
    obtain ⟨w, ew⟩ := slot_of p1.r hk (by decide)
    refine ⟨w, ew, hi Hs1 H1 σ e1 x e2 p1.r g2 _ fun Hs2 H2 iv p2 k2 f2 => ?_⟩
    obtain ⟨a, o, o', rfl, ko, ow, hg, go⟩ := (p1.trans p2).mutted ew g5
    unfold setL at hg
    split at hg
    · next ds =>
      simp only [Option.map_eq_some_iff] at hg
      obtain ⟨j, hj, e4⟩ := hg
      cases e4
      obtain ⟨b, xs, eb, n, hx, tx⟩ := ko
      cases eb
      refine ⟨a, xs, kk, j, rfl, asI_ok g4 (k2.get p2.r g3), hx, by rw [tx.length]; exact hj, ?_⟩
      exact k Hs2 _ σ (go _ ⟨a, _, rfl, n, upd_same, tx.set (d1.mono p2.ext.hs) j⟩)
    · cases hg
  · cases g
/-! ### xs[i] op= e -/
theorem pget_list {X : Cx} : PGet X (rIxL X.K) := by
  intro pins s σ H x y v u Q I rx ry h
  obtain ⟨p, xs, i, z, rfl, rfl, hq, he, q⟩ := h
  cases rx
  obtain ⟨t, rfl⟩ := ry
  obtain ⟨its, r, pl, hz⟩ := I.list hq
  obtain ⟨j, h1, h2, h3, h4, h5⟩ := atI_get he
  obtain ⟨w, ew, rw'⟩ := r.get h2
  have hl := r.length
  have hn := line63
  have fin : EP X pins σ Q w s := ⟨z, H, I, rw', q⟩
  by_cases h0 : 0 ≤ i
  · have hj : i.toNat = j := by
      rw [PySem.seqIndex_of h0 h5] at h1
      exact Option.some.inj h1
    exact wpAny_getItem_list pl.isList h0 (by omega) (by rw [hj]; simpa using ew) fin
  · have hj : (i + (its.toArray.size : Int)).toNat = j := by
      rw [PySem.seqIndex_neg (by omega) h4] at h1
      rw [List.size_toArray, ← hl]
      exact Option.some.inj h1
    exact wpAny_getItem_list_neg pl.isList (by omega) (by rw [List.size_toArray] <;> omega) (by omega) (by rw [hj]; simpa using ew) fin
def sAugIx (i : Nat) (fi : EF) (op : O → O → Option O) (fe : EF) : SF := fun env => if kindS env i = "list" then (fi env).bind fun q => (hGet q.2 q.1).bind fun oi => (asI oi).bind fun k => (hGet q.2 (.var i)).bind fun ol => (asL ol).bind fun ds => (atI ds k).bind fun d =>
    (fe q.2).bind fun w => (hGet w.2 w.1).bind fun y => (op (.shr d) y).bind fun z => (match z with
      | .shr dz => some dz
      | _ => none).bind fun dz => (mutS w.2 i (setL k dz)).bind fun w => some (.nx w.2) else none
theorem sat_augIx {ti te : TE} {fi fe : EF} {tip : TIp} {op : O → O → Option O} (hop : OpSat K tip op) (hi : SatE K ti fi) (he : SatE K te fe) : SatS K (tAugS (tVar i) ti te (rIxL K) tip rSetL) (sAugIx i fi op fe) := fun Hs H σ env out rr g DE k => by
  unfold sAugIx at g
  split at g
  · next hk =>
    simp only [Option.bind_eq_some_iff] at g
    obtain ⟨⟨x, e1⟩, g1, oi, g2, kk, g3, ol, g4, ds, g5, d, g6, ⟨y, e2⟩, g7, oy, g8, z, g9, dz, g10, ⟨dn, e3⟩, g11, g12⟩ := g
    cases g12
    cases z with
    | shr dz' =>
      cases g10
      obtain ⟨w, ew⟩ := slot_of rr hk (by decide)
      refine ⟨w, ew, hi Hs H σ env x e1 rr g1 _ fun Hs1 H1 iv p1 k1 f1 => ?_⟩
      have ei := asI_ok g3 (k1.get p1.r g2)
      subst ei
      have kw : HOk K Hs1 H1 σ e1 w (.var i) := ew
      obtain ⟨a, xs, rfl, hx, tx⟩ := asL_ok p1.r.sub g5 (kw.get p1.r g4)
      obtain ⟨v0, hv0, dv0⟩ := atI_dd tx g6
      refine ⟨a, xs, kk, v0, rfl, rfl, SqL.of hx, hv0, ?_⟩
      refine he Hs1 H1 σ e1 y e2 p1.r g7 _ fun Hs2 H2 yv p2 k2 f2 => ?_
      refine hop Hs2 H2 v0 yv (.shr d) oy _ p2.r.sub (dv0.mono p2.ext.hs) (k2.get p2.r g8) g9 _ fun Hs3 H3 zv x3 s3 kz fz => ?_
      have p3 := (p1.trans p2).trans (Po.keep p2.r x3 s3)
      obtain ⟨a', o, o', ea, ko, ow, hg, go⟩ := p3.mutted ew g11
      cases ea
      unfold setL at hg
      split at hg
      · next ds' =>
        simp only [Option.map_eq_some_iff] at hg
        obtain ⟨j, hj, e4⟩ := hg
        cases e4
        obtain ⟨b, xs', eb, n, hx', tx'⟩ := ko
        cases eb
        exact ⟨a, xs', kk, j, rfl, rfl, hx', by rw [tx'.length]; exact hj, k Hs3 _ σ (go _ ⟨a, _, rfl, n, upd_same, tx'.set kz j⟩)⟩
      · cases hg
    | ol _ => cases g10
    | od _ => cases g10
  · cases g
/-! ### x op= e -/
def sAug (i : Nat) (op : O → O → Option O) (fe : EF) : SF := fun env => (hGet env (.var i)).bind fun x => (match x with
    | .shr d => some d
    | _ => none).bind fun d => (fe env).bind fun w => (hGet w.2 w.1).bind fun y => (op (.shr d) y).bind fun z => (bindH i (.tmp z) w.2).bind fun e => some (.nx e)
theorem sat_aug {te : TE} {fe : EF} {tip : TIp} {op : O → O → Option O} (hop : OpSat K tip op) (he : SatE K te fe) : SatS K (tAug i te tip) (sAug i op fe) := fun Hs H σ env out rr g DE k => by
  simp only [sAug, Option.bind_eq_some_iff] at g
  obtain ⟨x, g1, d, g2, ⟨y, e2⟩, g3, oy, g4, z, g5, e3, g6, g7⟩ := g
  cases g7
  cases x with
  | shr d' =>
    cases g2
    obtain ⟨s, es, eo⟩ := hGet_var g1
    obtain ⟨w, ew, kw⟩ := rr.ok i s es
    rw [eo] at kw
    refine ⟨w, ew, he Hs H σ env y e2 rr g3 _ fun Hs1 H1 yv p1 k1 f1 => ?_⟩
    refine hop Hs1 H1 w yv (.shr d) oy z p1.r.sub (Dd.mono p1.ext.hs kw) (k1.get p1.r g4) g5 _ fun Hs2 H2 zv x2 s2 kz fz => ?_
    have p2 := p1.trans (Po.keep p1.r x2 s2)
    obtain ⟨Hs3, p3⟩ := p2.bind (h := .tmp z) ⟨kz, HOk.new p1.r kz fz⟩ (Fre.back fz p1.ext) g6
    exact k Hs3 H2 _ p3
  | ol _ => cases g2
  | od _ => cases g2
theorem s_ip {g : Int → Int → Int} : OpSat K (ipI g) (oI2 fun i j => some (.int (g i j))) := by
  intro Hs H x y ox oy o sb kx ky e Q q
  simp only [oI2, Option.bind_eq_some_iff, Option.map_eq_some_iff] at e
  obtain ⟨i, hi, j, hj, d, hd, rfl⟩ := e
  cases hd
  exact ⟨i, j, asI_ok hi kx, asI_ok hj ky, q.val sb (.int _)⟩
theorem s_ipadd : OpSat K (ipI fun i j => i + j) oAddI := s_ip
theorem s_ipsub : OpSat K (ipI fun i j => i - j) oSub := s_ip
end

/-! ### loops -/
/-- what a loop walks: at each turn the next datum, however the heap has gone on meanwhile -/
def Src (K : PySem.W.Frag) (J : It) (ds : List D) (Hs1 H1 : Hp) (M : Mu) : Prop := ∀ Hs2 H2, Ext M Hs1 H1 Hs2 H2 → (∀ a u, Hs2 a = some u → H2 a = some u) → ∀ i : Nat,
  (∀ d, ds[i]? = some d → J.go i H2 ∧ ∀ x H3, J.yld i H2 x H3 → ∃ Hs3, Ext (fun _ => False) Hs2 H2 Hs3 H3 ∧ (∀ a u, Hs3 a = some u → H3 a = some u) ∧ Dd K Hs3 d x) ∧ (ds.length ≤ i → J.stop i H2)
def lockS (env : Sto) : Option (Nat × Slot) → Sto
  | some (i, s) => env.set i (some { s with lk := true })
  | none => env
def unlockS (env : Sto) : Option (Nat × Slot) → Sto
  | some (i, s) => env.set i (some s)
  | none => env
abbrev IF := Sto → Option ((List D × Option (Nat × Slot)) × Sto)
def LkOk (env : Sto) : Option (Nat × Slot) → Prop
  | some (i, s) => env[i]? = some (some s)
  | none => True
def SatI (K : PySem.W.Frag) (wi : TI) (f : IF) : Prop := ∀ Hs H σ env ds l env1, R K Hs H σ env → f env = some ((ds, l), env1) →
  ∀ Rr : It → Hp → Prop, (∀ Hs1 H1 J, Po K Hs H σ env Hs1 H1 σ env1 → LkOk env1 l → Src K J ds Hs1 H1 (Mof σ (lockS env1 l)) → Rr J H1) → wi σ H Rr
section
variable {K : PySem.W.Frag} {Hs H Hs' H' Hs1 H1 Hs2 H2 Hs0 H0 : Hp} {σ σ' σ1 σ2 σ0 : L2.St} {env env' env1 env2 env0 : Sto} {DE : Ends} {out : Out} {te : TE} {fe : EF} {t : TS} {f : SF} {l : Option (Nat × Slot)}
theorem lock_at {i : Nat} {s : Slot} (e : env[i]? = some (some s)) {j : Nat} {s' : Slot} (ej : (env.set i (some { s with lk := true }))[j]? = some (some s')) : (j = i ∧ s' = { s with lk := true }) ∨ (j ≠ i ∧ env[j]? = some (some s')) := by
  by_cases z : i = j
  · subst z
    rw [List.getElem?_set_self (List.getElem?_eq_some_iff.mp e).1] at ej
    exact .inl ⟨rfl, (Option.some.inj (Option.some.inj ej)).symm⟩
  · rw [List.getElem?_set_ne z] at ej
    exact .inr ⟨fun w => z w.symm, ej⟩
theorem lock_owns (hl : LkOk env l) {i : Nat} (o : owns (lockS env l) i) : owns env i := by
  cases l with
  | none => exact o
  | some p =>
    obtain ⟨k, s⟩ := p
    obtain ⟨s', e, w⟩ := o
    rcases lock_at hl e with ⟨rfl, rfl⟩ | ⟨_, e⟩
    · exact ⟨s, hl, w⟩
    · exact ⟨s', e, w⟩
theorem lock_muts (hl : LkOk env l) {i : Nat} (o : muts (lockS env l) i) : muts env i := by
  cases l with
  | none => exact o
  | some p =>
    obtain ⟨k, s⟩ := p
    obtain ⟨s', e, w, n⟩ := o
    rcases lock_at hl e with ⟨rfl, rfl⟩ | ⟨_, e⟩
    · cases n
    · exact ⟨s', e, w, n⟩
theorem R.lock (r : R K Hs H σ env) (hl : LkOk env l) : R K Hs H σ (lockS env l) := by
  cases l with
  | none => exact r
  | some p =>
    obtain ⟨k, s⟩ := p
    refine ⟨by show (env.set _ _).length = _; rw [List.length_set]; exact r.len, r.sub, fun i s' e => ?_, fun i j v o1 o2 => r.inj i j v (lock_owns hl o1) (lock_owns hl o2)⟩
    rcases lock_at hl e with ⟨rfl, rfl⟩ | ⟨_, e⟩
    · exact r.ok _ s hl
    · exact r.ok i s' e
theorem mof_lock (hl : LkOk env l) : ∀ a, Mof σ (lockS env l) a → Mof σ env a := fun a ⟨i, m, e⟩ => ⟨i, lock_muts hl m, e⟩
/-- behind the loop the walked list is free again -/
theorem Po.unlock (hl : LkOk env l) (r : R K Hs H σ env) (p : Po K Hs H σ (lockS env l) Hs' H' σ' env') : Po K Hs H σ env Hs' H' σ' (unlockS env' l) := by
  cases l with
  | none => exact p
  | some q =>
    obtain ⟨k, s⟩ := q
    have e0 : env[k]? = some (some s) := hl
    have hk : k < env.length := (List.getElem?_eq_some_iff.mp e0).1
    have e1 : (lockS env (some (k, s)))[k]? = some (some { s with lk := true }) := List.getElem?_set_self hk
    obtain ⟨e2, eσ⟩ := p.lk k _ e1 rfl
    have hk' : k < env'.length := (List.getElem?_eq_some_iff.mp e2).1
    have at_ : ∀ {j : Nat} {s' : Slot}, (unlockS env' (some (k, s)))[j]? = some (some s') → (j = k ∧ s' = s) ∨ (j ≠ k ∧ env'[j]? = some (some s')) := fun {j s'} ej => by
      have ej : (env'.set k (some s))[j]? = some (some s') := ej
      by_cases z : k = j
      · subst z
        rw [List.getElem?_set_self hk'] at ej
        exact .inl ⟨rfl, (Option.some.inj (Option.some.inj ej)).symm⟩
      · rw [List.getElem?_set_ne z] at ej
        exact .inr ⟨fun w => z w.symm, ej⟩
    have ow : ∀ {j : Nat}, owns (unlockS env' (some (k, s))) j → owns env' j := fun {j} ⟨s', ej, w⟩ => by
      rcases at_ ej with ⟨rfl, rfl⟩ | ⟨_, ej⟩
      · exact ⟨_, e2, w⟩
      · exact ⟨s', ej, w⟩
    refine ⟨⟨by show (env'.set k (some s)).length = _; rw [List.length_set]; exact p.r.len, p.r.sub, fun j s' ej => ?_, fun i j v o1 o2 => p.r.inj i j v (ow o1) (ow o2)⟩, p.ext.weak (mof_lock hl), fun j a oj ea => ?_, fun j s' ej pn => ?_, fun j s' ej lk => ?_, fun j s' ej pn => ?_⟩
    · rcases at_ ej with ⟨rfl, rfl⟩ | ⟨_, ej⟩
      · exact p.r.ok j (Slot.mk s'.o s'.pin true) e2
      · exact p.r.ok j s' ej
    · rcases p.own j a (ow oj) ea with ⟨c1, c2, c3⟩ | c
      · refine .inl ⟨lock_owns hl c1, c2, fun ⟨s', ej, w, n⟩ => ?_⟩
        rcases at_ ej with ⟨rfl, rfl⟩ | ⟨ne, ej⟩
        · exact ⟨_, e0, w, n⟩
        · exact lock_muts hl (c3 ⟨s', ej, w, n⟩)
      · exact .inr c
    · by_cases z : j = k
      · subst z
        rw [e0] at ej
        cases ej
        exact ⟨eσ, _, List.getElem?_set_self hk', pn, rfl⟩
      · have ej' : (lockS env (some (k, s)))[j]? = some (some s') := by
          show (env.set k _)[j]? = _
          rw [List.getElem?_set_ne (Ne.symm z)]
          exact ej
        obtain ⟨c1, s2, c2, c3, c4⟩ := p.pin j s' ej' pn
        exact ⟨c1, s2, by show (env'.set k _)[j]? = _; rw [List.getElem?_set_ne (Ne.symm z)]; exact c2, c3, c4⟩
    · by_cases z : j = k
      · subst z
        rw [e0] at ej
        cases ej
        exact ⟨List.getElem?_set_self hk', eσ⟩
      · have ej' : (lockS env (some (k, s)))[j]? = some (some s') := by
          show (env.set k _)[j]? = _
          rw [List.getElem?_set_ne (Ne.symm z)]
          exact ej
        obtain ⟨c1, c2⟩ := p.lk j s' ej' lk
        exact ⟨by show (env'.set k _)[j]? = _; rw [List.getElem?_set_ne (Ne.symm z)]; exact c1, c2⟩
    · have back : ∀ {s3 : Slot}, env'[j]? = some (some s3) → s3.pin = true → ∃ s : Slot, env[j]? = some (some s) ∧ s.pin = true := fun {s3} e3 p3 => by
        obtain ⟨s4, e4, p4⟩ := p.np j s3 e3 p3
        rcases lock_at hl e4 with ⟨rfl, rfl⟩ | ⟨_, e4⟩
        · exact ⟨s, e0, p4⟩
        · exact ⟨s4, e4, p4⟩
      rcases at_ ej with ⟨rfl, rfl⟩ | ⟨_, ej⟩
      · exact ⟨_, e0, pn⟩
      · exact back ej pn
theorem PoR.unlock (hl : LkOk env l) (p : PoR K Hs H σ (lockS env l) Hs' H' σ' env') : PoR K Hs H σ env Hs' H' σ' env' := by
  refine ⟨p.r, p.ext.weak (mof_lock hl), fun j s' ej pn => ?_⟩
  cases l with
  | none => exact p.pin j s' ej pn
  | some q =>
    obtain ⟨k, s⟩ := q
    have e0 : env[k]? = some (some s) := hl
    by_cases z : k = j
    · subst z
      rw [e0] at ej
      cases ej
      exact p.pin k _ (List.getElem?_set_self (List.getElem?_eq_some_iff.mp e0).1) pn
    · exact p.pin j s' (by show (env.set k _)[j]? = _; rw [List.getElem?_set_ne z]; exact ej) pn
theorem ROut.unlock {v : V} {r : Rs} (hl : LkOk env l) (q : ROut K H σ (lockS env l) Hs' H' σ' v r) : ROut K H σ env Hs' H' σ' v r := by
  have back : ∀ {j : Nat} {s : Slot}, (lockS env l)[j]? = some (some s) → ∃ s' : Slot, env[j]? = some (some s') ∧ s'.o = s.o ∧ s'.pin = s.pin := fun {j s} e => by
    cases l with
    | none => exact ⟨s, e, rfl, rfl⟩
    | some ks =>
      obtain ⟨k, s0⟩ := ks
      rcases lock_at hl e with ⟨rfl, rfl⟩ | ⟨_, e⟩
      · exact ⟨s0, hl, rfl, rfl⟩
      · exact ⟨s, e, rfl, rfl⟩
  cases r with
  | par j =>
    obtain ⟨a, s, es, ps⟩ := q
    obtain ⟨s', es', _, ps'⟩ := back es
    exact ⟨a, s', es', ps'.trans ps⟩
  | o o =>
    refine ⟨q.1, fun w a ea => ?_⟩
    rcases q.2 w a ea with n | ⟨i, s, es, ow, np, eσ⟩
    · exact .inl n
    · obtain ⟨s', es', oe, pe⟩ := back es
      exact .inr ⟨i, s', es', by rw [oe]; exact ow, pe.trans np, eσ⟩
end
def loopF (g : GF) (b : SF) : List D → SF
  | [], e => some (.nx e)
  | d :: r, e => (g d e).bind fun e1 => (b e1).bind fun o => match o with
    | .nx e' => loopF g b r e'
    | .ct e' => loopF g b r e'
    | .bk e' => some (.nx e')
    | .rt x e' => some (.rt x e')
def unlockO (l : Option (Nat × Slot)) : Out → Out
  | .nx e => .nx (unlockS e l)
  | .bk e => .bk (unlockS e l)
  | .ct e => .ct (unlockS e l)
  | .rt r e => .rt r e
def sFor (fi : IF) (g : GF) (b : SF) : SF := fun env => (fi env).bind fun p => (loopF g b p.1.1 (lockS p.2 p.1.2)).bind fun o => some (unlockO p.1.2 o)
theorem sat_for {K : PySem.W.Frag} {wi : TI} {fi : IF} {tg : TG} {vs : List Nat} {g : GF} {tb : TS} {b : SF} (hi : SatI K wi fi) (hg : SatG K tg vs g) (hb : SatS K tb b) : SatS K (tFor wi tg tb) (sFor fi g b) := fun Hs H σ env out rr e DE k => by
  simp only [sFor, Option.bind_eq_some_iff] at e
  obtain ⟨⟨⟨ds, l⟩, env1⟩, g1, o, g2, g3⟩ := e
  cases g3
  refine hi Hs H σ env ds l env1 rr g1 _ fun Hs1 H1 J p1 hl src => ?_
  have r1 := p1.r.lock hl
  -- what is wanted behind the loop, from the locked state on
  have fin : OkD K Hs1 H1 σ (lockS env1 l) DE o := by
    cases o with
    | nx e => exact fun Hs' H' σ' q => k Hs' H' σ' (p1.trans (Po.unlock hl p1.r q))
    | bk e => exact fun Hs' H' σ' q => k Hs' H' σ' (p1.trans (Po.unlock hl p1.r q))
    | ct e => exact fun Hs' H' σ' q => k Hs' H' σ' (p1.trans (Po.unlock hl p1.r q))
    | rt r e => exact fun Hs' H' σ' v q w => k Hs' H' σ' v ((PoR.unlock hl q).after p1) ((ROut.unlock hl w).after p1)
  refine ⟨fun i m σ' H' => m = ds.length - i ∧ i ≤ ds.length ∧ ∃ Hs' env', Po K Hs1 H1 σ (lockS env1 l) Hs' H' σ' env' ∧ loopF g b (ds.drop i) env' = some o, ⟨ds.length, by simp, Nat.zero_le _, Hs1, _, Po.refl r1, g2⟩, ?_⟩
  rintro i m σ' H' ⟨rfl, hi', Hs', env', q, hr⟩
  obtain ⟨s1, s2⟩ := src Hs' H' q.ext q.r.sub i
  by_cases hlt : i < ds.length
  · have ed : ds[i]? = some ds[i] := List.getElem?_eq_getElem hlt
    rw [List.drop_eq_getElem_cons hlt] at hr
    simp only [loopF, Option.bind_eq_some_iff] at hr
    obtain ⟨e1, h1, o1, h2, h3⟩ := hr
    obtain ⟨go, yl⟩ := s1 _ ed
    refine .inr ⟨go, fun σ2 H2 => ∃ Hs2 env2, Po K Hs1 H1 σ (lockS env1 l) Hs2 H2 σ2 env2 ∧ loopF g b (ds.drop (i + 1)) env2 = some o, fun σ2 H2 ⟨Hs2, env2, q2, hr2⟩ => ⟨ds.length - (i + 1), by omega, rfl, hlt, Hs2, env2, q2, hr2⟩, fun x H3 y => ?_⟩
    obtain ⟨Hs3, x3, sb3, dx⟩ := yl x H3 y
    have q3 := q.trans (Po.keep q.r x3 sb3)
    refine hg Hs1 H1 σ (lockS env1 l) Hs3 H3 σ' env' _ x e1 q3 dx h1 _ fun Hs4 H4 σ4 q4 _ _ _ => ?_
    refine hb Hs4 H4 σ4 e1 o1 q4.r h2 _ ?_
    cases o1 with
    | nx e' => exact fun Hs5 H5 σ5 q5 => ⟨Hs5, e', q4.trans q5, h3⟩
    | ct e' => exact fun Hs5 H5 σ5 q5 => ⟨Hs5, e', q4.trans q5, h3⟩
    | bk e' => cases h3; exact fun Hs5 H5 σ5 q5 => fin Hs5 H5 σ5 (q4.trans q5)
    | rt r e' => cases h3; exact fun Hs5 H5 σ5 v q5 w => fin Hs5 H5 σ5 v (q5.after q4) (w.after q4)
  · have ei : i = ds.length := by omega
    subst ei
    rw [List.drop_length] at hr
    cases hr
    exact .inl ⟨s2 (Nat.le_refl _), fin Hs' H' σ' q⟩
end PV

set_option maxRecDepth 100000
set_option maxHeartbeats 2000000
namespace PV
open PySem L2

/-! ### what is walked -/
theorem PI.or {X : Cx} {tg e : Expr} {w1 w2 : TI} (h1 : PI X tg e w1) (h2 : PI X tg e w2) : PI X tg e (fun σ H Rr => w1 σ H Rr ∨ w2 σ H Rr) :=
  ⟨fun pins s σ H Rr I h => h.elim (h1.run pins s σ H Rr I) (h2.run pins s σ H Rr I)⟩
theorem PE.or {X : Cx} {e : Expr} {w1 w2 : TE} (h1 : PE X e w1) (h2 : PE X e w2) : PE X e (fun σ H Rr => w1 σ H Rr ∨ w2 σ H Rr) :=
  ⟨fun pins s σ H Rr I h => h.elim (h1.run pins s σ H Rr I) (h2.run pins s σ H Rr I)⟩
def inR (i : Int) : Bool := decide (-(2 ^ 62) ≤ i) && decide (i < 2 ^ 62)
def iR1 (f : HsF) : IF := fun env => (f env).bind fun p => (hGets p.2 p.1).bind fun os => match os with
  | [o] => (asI o).bind fun j => if inR j then some (((List.range j.toNat).map fun (k : Nat) => D.int (k : Int), none), p.2) else none
  | _ => none
def iR2 (f : HsF) : IF := fun env => (f env).bind fun p => (hGets p.2 p.1).bind fun os => match os with
  | [o, o'] => (asI o).bind fun i => (asI o').bind fun j => if inR i && inR j then some (((List.range (j - i).toNat).map fun (k : Nat) => D.int (i + (k : Int)), none), p.2) else none
  | _ => none
def lkOf (env : Sto) (h : Hnd) : Option (Nat × Slot) := match h with
  | .var i => match env[i]? with
    | some (some s) => if s.o.own then some (i, s) else none
    | _ => none
  | .tmp _ => none
def iSeq (f : EF) : IF := fun env => (f env).bind fun p => (hGet p.2 p.1).bind fun o => ((asLQ o).or (asT o)).bind fun ds => some ((ds, lkOf p.2 p.1), p.2)
section
variable {K : PySem.W.Frag} {te : TE} {fe : EF} {t : TA} {f : HsF}
theorem src_range {lo : Int} {n : Nat} {Hs H : Hp} {M : Mu} : Src K (Itr lo n) ((List.range n).map fun (k : Nat) => D.int (lo + (k : Int))) Hs H M := fun Hs2 H2 _ sb i => by
  refine ⟨fun d e => ?_, fun h => ?_⟩
  · rw [List.getElem?_map] at e
    cases hi : (List.range n)[i]? with
    | none => rw [hi] at e; cases e
    | some k =>
      rw [hi] at e
      cases e
      obtain ⟨h1, h2⟩ := List.getElem?_eq_some_iff.mp hi
      rw [List.length_range] at h1
      rw [List.getElem_range] at h2
      subst h2
      refine ⟨h1, fun x H3 y => ?_⟩
      obtain ⟨rfl, rfl⟩ := y
      exact ⟨Hs2, Ext.refl, sb, .int _⟩
  · rw [List.length_map, List.length_range] at h
    exact h
theorem inR_ok {i : Int} (h : inR i = true) : -(2 ^ 62) ≤ i ∧ i < 2 ^ 62 := by
  unfold inR at h
  simp only [Bool.and_eq_true, decide_eq_true_eq] at h
  exact h
theorem sat_R1 (h : SatHs K t f) : SatI K (iRng1 t) (iR1 f) := fun Hs H σ env ds l env1 r g Rr q => by
  simp only [iR1, Option.bind_eq_some_iff] at g
  obtain ⟨⟨hs, e1⟩, g1, os, g2, g3⟩ := g
  match os, g2, g3 with
  | [o], g2, g3 =>
    simp only [Option.bind_eq_some_iff] at g3
    obtain ⟨j, hj, g3⟩ := g3
    split at g3
    · next hr =>
      cases g3
      refine h Hs H σ env hs _ r g1 _ fun Hs1 H1 vs p1 k1 f1 => ?_
      obtain ⟨x, rfl, kx⟩ := (k1.gets p1.r g2).one
      have ex := asI_ok hj kx
      subst ex
      refine ⟨j, rfl, (inR_ok hr).1, (inR_ok hr).2, q Hs1 H1 _ p1 True.intro ?_⟩
      have := src_range (K := K) (lo := 0) (n := j.toNat) (Hs := Hs1) (H := H1) (M := Mof σ (lockS env1 none))
      simpa using this
    · cases g3
theorem sat_R2 (h : SatHs K t f) : SatI K (iRng2 t) (iR2 f) := fun Hs H σ env ds l env1 r g Rr q => by
  simp only [iR2, Option.bind_eq_some_iff] at g
  obtain ⟨⟨hs, e1⟩, g1, os, g2, g3⟩ := g
  match os, g2, g3 with
  | [o, o'], g2, g3 =>
    simp only [Option.bind_eq_some_iff] at g3
    obtain ⟨i, hi, j, hj, g3⟩ := g3
    split at g3
    · next hr =>
      cases g3
      simp only [Bool.and_eq_true] at hr
      refine h Hs H σ env hs _ r g1 _ fun Hs1 H1 vs p1 k1 f1 => ?_
      obtain ⟨x, y, rfl, kx, ky⟩ := (k1.gets p1.r g2).two
      have ex := asI_ok hi kx
      have ey := asI_ok hj ky
      subst ex ey
      exact ⟨i, j, rfl, ⟨(inR_ok hr.1).1, (inR_ok hr.1).2, (inR_ok hr.2).1, (inR_ok hr.2).2⟩, q Hs1 H1 _ p1 True.intro src_range⟩
    · cases g3
theorem lkOf_ok {env : Sto} {h : Hnd} : LkOk env (lkOf env h) := by
  cases h with
  | tmp o => exact True.intro
  | var i =>
    unfold lkOf
    dsimp only
    cases e : env[i]? with
    | none => exact True.intro
    | some x =>
      cases x with
      | none => exact True.intro
      | some s =>
        dsimp only
        split
        · exact e
        · exact True.intro
/-- a list that is walked is not changed meanwhile -/
theorem not_mof {Hs H : Hp} {σ : L2.St} {env : Sto} {h : Hnd} {v : V} {o : O} {a : Addr} (r : R K Hs H σ env) (k : HOk K Hs H σ env v h) (g : hGet env h = some o) (ow : o.own = true) (ev : v = .ref a) : ¬ Mof σ (lockS env (lkOf env h)) a := fun ⟨j, m, ej⟩ => by
  subst ev
  cases h with
  | tmp o' =>
    cases g
    exact k.2 ow j m.owns ej
  | var i =>
    obtain ⟨s, es, rfl⟩ := hGet_var g
    have eσ : σ[i]? = some (some (.ref a)) := k
    have hl : LkOk env (lkOf env (.var i)) := lkOf_ok
    have el : lkOf env (.var i) = some (i, s) := by
      unfold lkOf
      dsimp only
      rw [es]
      dsimp only
      rw [if_pos ow]
    rw [el] at m hl
    have z := r.inj j i _ (lock_owns hl m.owns) ⟨s, es, ow⟩ ej eσ
    subst z
    obtain ⟨s', es', _, l'⟩ := m
    rcases lock_at es es' with ⟨_, rfl⟩ | ⟨ne, _⟩
    · cases l'
    · exact ne rfl
theorem src_list {Hs H : Hp} {M : Mu} {a : Addr} {xs : List V} {ds : List D} (st : ∀ Hs2 H2, Ext M Hs H Hs2 H2 → (∀ a u, Hs2 a = some u → H2 a = some u) → SqL K H2 a xs) (dd : DdAll K Hs ds xs) : Src K (Itl K a) ds Hs H M := fun Hs2 H2 x sb i => by
  have q := st Hs2 H2 x sb
  refine ⟨fun d e => ?_, fun h => ⟨xs, q, by rw [dd.length]; exact h⟩⟩
  obtain ⟨v, ev, dv⟩ := dd.get e
  refine ⟨⟨xs, v, q, ev⟩, fun y H3 yl => ?_⟩
  obtain ⟨rfl, yl⟩ := yl
  have e2 := yl xs q
  rw [ev] at e2
  cases e2
  exact ⟨Hs2, x.trans Ext.refl (fun _ z => .inl z) |> fun _ => Ext.refl, sb, dv.mono x.hs⟩
theorem src_tup {Hs H : Hp} {M : Mu} {a : Addr} {xs : List V} {ds : List D} (st : ∀ Hs2 H2, Ext M Hs H Hs2 H2 → (∀ a u, Hs2 a = some u → H2 a = some u) → SqT K H2 a xs) (dd : DdAll K Hs ds xs) : Src K (Itt K a) ds Hs H M := fun Hs2 H2 x sb i => by
  have q := st Hs2 H2 x sb
  refine ⟨fun d e => ?_, fun h => ⟨xs, q, by rw [dd.length]; exact h⟩⟩
  obtain ⟨v, ev, dv⟩ := dd.get e
  refine ⟨⟨xs, v, q, ev⟩, fun y H3 yl => ?_⟩
  obtain ⟨rfl, yl⟩ := yl
  have e2 := yl xs q
  rw [ev] at e2
  cases e2
  exact ⟨Hs2, Ext.refl, sb, dv.mono x.hs⟩
def wSeq (K : PySem.W.Frag) (te : TE) : TI := fun σ H Rr => iList K te σ H Rr ∨ iTup K te σ H Rr
theorem pi_seq {X : Cx} {tg e : Expr} (h : PE X e te) : PI X tg e (wSeq X.K te) := PI.or (pi_list h) (pi_tup h)
theorem sat_seqI (h : SatE K te fe) : SatI K (wSeq K te) (iSeq fe) := fun Hs H σ env ds l env1 r g Rr q => by
  simp only [iSeq, Option.bind_eq_some_iff] at g
  obtain ⟨⟨hd, e1⟩, g1, o, g2, ds', g3, g4⟩ := g
  cases g4
  cases e3 : asLQ o with
  | some z =>
    rw [e3] at g3
    cases g3
    refine .inl (h Hs H σ env hd _ r g1 _ fun Hs1 H1 v p1 k1 f1 => ?_)
    have kk := k1.get p1.r g2
    have nm := fun a ev ow => not_mof (a := a) p1.r k1 g2 ow ev
    cases o with
    | ol es =>
      cases e3
      obtain ⟨a, xs, rfl, n, hx, dd⟩ := kk
      exact ⟨a, rfl, ⟨xs, SqL.of hx⟩, q Hs1 H1 _ p1 lkOf_ok (src_list (fun Hs2 H2 x sb => SqL.of (x.kp _ _ hx (nm a rfl rfl))) dd)⟩
    | od es => cases e3
    | shr d =>
      cases kk with
      | lst hx dd =>
        cases e3
        exact ⟨_, rfl, ⟨_, SqL.of (p1.r.sub _ _ hx)⟩, q Hs1 H1 _ p1 lkOf_ok (src_list (fun Hs2 H2 x sb => SqL.of (sb _ _ (x.hs _ _ hx))) dd)⟩
      | scr hx =>
        cases e3
        exact ⟨_, rfl, ⟨_, sq_mono p1.r.sub hx⟩, q Hs1 H1 _ p1 lkOf_ok (src_list (fun Hs2 H2 x sb => sq_mono (fun a u h => sb _ _ (x.hs _ _ h)) hx) (DdAll.ints _))⟩
      | _ => cases e3
  | none =>
    rw [e3] at g3
    simp only [Option.none_or] at g3
    refine .inr (h Hs H σ env hd _ r g1 _ fun Hs1 H1 v p1 k1 f1 => ?_)
    have kk := k1.get p1.r g2
    cases o with
    | ol es => cases g3
    | od es => cases g3
    | shr d =>
      cases kk with
      | tup hx dd =>
        cases g3
        exact ⟨_, rfl, ⟨_, SqT.of (p1.r.sub _ _ hx)⟩, q Hs1 H1 _ p1 lkOf_ok (src_tup (fun Hs2 H2 x sb => SqT.of (sb _ _ (x.hs _ _ hx))) dd)⟩
      | _ => cases g3
end

/-! ### comprehensions -/
def wipeE (env : Sto) : List Nat → Sto
  | [] => env
  | v :: vs => (wipeE env vs).set v none
def restE (e e0 : Sto) : List Nat → Sto
  | [] => e
  | v :: vs => (restE e e0 vs).set v (e0.getD v none)
theorem wipeE_len (env : Sto) : ∀ vs, (wipeE env vs).length = env.length
  | [] => rfl
  | v :: vs => by unfold wipeE; rw [List.length_set, wipeE_len env vs]
theorem restE_len (e e0 : Sto) : ∀ vs, (restE e e0 vs).length = e.length
  | [] => rfl
  | v :: vs => by unfold restE; rw [List.length_set, restE_len e e0 vs]
theorem wipeE_in {env : Sto} {i : Nat} : ∀ {vs : List Nat}, i ∈ vs → ∀ s : Slot, (wipeE env vs)[i]? ≠ some (some s)
  | v :: vs, h, s, e => by
    unfold wipeE at e
    by_cases z : v = i
    · subst z
      by_cases hi : v < (wipeE env vs).length
      · rw [List.getElem?_set_self hi] at e; cases e
      · rw [List.getElem?_eq_none (by simpa using hi)] at e; cases e
    · rw [List.getElem?_set_ne z] at e
      rcases List.mem_cons.mp h with w | w
      · exact z w.symm
      · exact wipeE_in w s e
theorem wipeE_out {env : Sto} {i : Nat} : ∀ {vs : List Nat}, i ∉ vs → (wipeE env vs)[i]? = env[i]?
  | [], _ => rfl
  | v :: vs, h => by
    unfold wipeE
    rw [List.getElem?_set_ne (fun z => h (by simp [z]))]
    exact wipeE_out fun w => h (List.mem_cons_of_mem _ w)
theorem wipe_out {σ : L2.St} {i : Nat} : ∀ {vs : List Nat}, i ∉ vs → (wipe σ vs)[i]? = σ[i]?
  | [], _ => rfl
  | v :: vs, h => by
    unfold wipe
    rw [List.getElem?_set_ne (fun z => h (by simp [z]))]
    exact wipe_out fun w => h (List.mem_cons_of_mem _ w)
theorem wipe_in {σ : L2.St} {i : Nat} : ∀ {vs : List Nat}, i ∈ vs → (wipe σ vs)[i]? = if i < σ.length then some none else none
  | v :: vs, h => by
    unfold wipe
    by_cases z : v = i
    · subst z
      by_cases hi : v < σ.length
      · rw [List.getElem?_set_self (by rw [wipe_length]; exact hi), if_pos hi]
      · rw [List.getElem?_eq_none (by rw [List.length_set, wipe_length]; omega), if_neg hi]
    · rw [List.getElem?_set_ne z]
      rcases List.mem_cons.mp h with w | w
      · exact absurd w.symm z
      · exact wipe_in w
theorem restE_in {e e0 : Sto} {i : Nat} (hl : e.length = e0.length) : ∀ {vs : List Nat}, i ∈ vs → (restE e e0 vs)[i]? = e0[i]?
  | v :: vs, h => by
    unfold restE
    by_cases z : v = i
    · subst z
      by_cases hi : v < e.length
      · rw [List.getElem?_set_self (by rw [restE_len]; exact hi), List.getElem?_eq_getElem (by rw [← hl]; exact hi)]
        congr 1
        rw [List.getD_eq_getElem?_getD, List.getElem?_eq_getElem (by rw [← hl]; exact hi)]
        rfl
      · rw [List.getElem?_eq_none (by rw [List.length_set, restE_len]; omega), List.getElem?_eq_none (by omega)]
    · rw [List.getElem?_set_ne z]
      rcases List.mem_cons.mp h with w | w
      · exact absurd w.symm z
      · exact restE_in hl w
theorem restE_out {e e0 : Sto} {i : Nat} : ∀ {vs : List Nat}, i ∉ vs → (restE e e0 vs)[i]? = e[i]?
  | [], _ => rfl
  | v :: vs, h => by
    unfold restE
    rw [List.getElem?_set_ne (fun z => h (by simp [z]))]
    exact restE_out fun w => h (List.mem_cons_of_mem _ w)
theorem wipe_same {σ1 σ2 : L2.St} {vs : List Nat} (hl : σ2.length = σ1.length) (h : ∀ i, i ∉ vs → σ2[i]? = σ1[i]?) : wipe σ2 vs = wipe σ1 vs := by
  apply List.ext_getElem?
  intro i
  by_cases m : i ∈ vs
  · rw [wipe_in m, wipe_in m, hl]
  · rw [wipe_out m, wipe_out m, h i m]
theorem wipe_wipe {σ : L2.St} {vs : List Nat} : wipe (wipe σ vs) vs = wipe σ vs := by
  apply List.ext_getElem?
  intro i
  by_cases m : i ∈ vs
  · rw [wipe_in m, wipe_in m, wipe_length]
  · rw [wipe_out m]
section
variable {K : PySem.W.Frag} {Hs H Hs' H' Hs1 H1 Hs2 H2 Hs0 H0 : Hp} {σ σ' σ1 σ2 σ0 : L2.St} {env env' env1 env2 env0 e : Sto} {vs : List Nat}
theorem R.wiped (r : R K Hs H σ env) (vs : List Nat) : R K Hs H (wipe σ vs) (wipeE env vs) := by
  have at_ : ∀ {i : Nat} {s : Slot}, (wipeE env vs)[i]? = some (some s) → i ∉ vs ∧ env[i]? = some (some s) := fun {i s} h => by
    have m : i ∉ vs := fun m => wipeE_in m s h
    exact ⟨m, by rw [wipeE_out m] at h; exact h⟩
  refine ⟨by rw [wipeE_len, wipe_length]; exact r.len, r.sub, fun i s h => ?_, fun i j v ⟨s, h1, w1⟩ ⟨s', h2, w2⟩ a b => ?_⟩
  · obtain ⟨m, h⟩ := at_ h
    obtain ⟨v, ev, k⟩ := r.ok i s h
    exact ⟨v, by rw [wipe_out m]; exact ev, k⟩
  · obtain ⟨m1, h1⟩ := at_ h1
    obtain ⟨m2, h2⟩ := at_ h2
    rw [wipe_out m1] at a
    rw [wipe_out m2] at b
    exact r.inj i j v ⟨s, h1, w1⟩ ⟨s', h2, w2⟩ a b
/-- the turn's own names are forgotten -/
theorem Po.wiped (p : Po K Hs1 H1 σ1 env1 Hs H σ2 e) (n1 : ∀ (i : Nat) (s : Slot), i ∈ vs → env1[i]? ≠ some (some s)) (w1 : wipe σ1 vs = σ1) (w2 : wipe σ2 vs = σ1) : Po K Hs1 H1 σ1 env1 Hs H σ1 (wipeE e vs) := by
  have at_ : ∀ {i : Nat} {s : Slot}, (wipeE e vs)[i]? = some (some s) → i ∉ vs ∧ e[i]? = some (some s) := fun {i s} h => by
    have m : i ∉ vs := fun m => wipeE_in m s h
    exact ⟨m, by rw [wipeE_out m] at h; exact h⟩
  have σe : ∀ {i : Nat}, i ∉ vs → σ1[i]? = σ2[i]? := fun {i} m => by
    rw [← w2]; exact wipe_out m
  have ow : ∀ {i : Nat}, owns (wipeE e vs) i → i ∉ vs ∧ owns e i := fun {i} ⟨s, h, w⟩ => ⟨(at_ h).1, s, (at_ h).2, w⟩
  have r' : R K Hs H σ1 (wipeE e vs) := by rw [← w2]; exact p.r.wiped vs
  refine ⟨r', p.ext, fun i a oi ea => ?_, fun i s es pn => ?_, fun i s es lk => ?_, fun i s es pn => p.np i s (at_ es).2 pn⟩
  · obtain ⟨m, oi'⟩ := ow oi
    rcases p.own i a oi' (by rw [← σe m]; exact ea) with ⟨c1, c2, c3⟩ | c
    · exact .inl ⟨c1, c2, fun ⟨s, h, w, l⟩ => c3 ⟨s, (at_ h).2, w, l⟩⟩
    · exact .inr c
  · have m : i ∉ vs := fun m => n1 i s m es
    obtain ⟨c1, s', c2, c3, c4⟩ := p.pin i s es pn
    exact ⟨rfl, s', by rw [wipeE_out m]; exact c2, c3, c4⟩
  · have m : i ∉ vs := fun m => n1 i s m es
    obtain ⟨c1, c2⟩ := p.lk i s es lk
    exact ⟨by rw [wipeE_out m]; exact c1, rfl⟩
/-- behind the comprehension the names outside are as they were -/
theorem Po.rest (r : R K Hs1 H1 σ env) (p : Po K Hs1 H1 (wipe σ vs) (wipeE env vs) Hs H (wipe σ vs) e) (ne : ∀ (i : Nat) (s : Slot), i ∈ vs → e[i]? ≠ some (some s)) : Po K Hs1 H1 σ env Hs H σ (restE e env vs) := by
  have hl : e.length = env.length := by rw [p.r.len, wipe_length, r.len]
  have muw : ∀ a, Mof (wipe σ vs) (wipeE env vs) a → ∃ i, i ∉ vs ∧ muts env i ∧ σ[i]? = some (some (.ref a)) := fun a ⟨i, ⟨s, h, w, l⟩, ea⟩ => by
    have m : i ∉ vs := fun m => wipeE_in m s h
    rw [wipeE_out m] at h
    rw [wipe_out m] at ea
    exact ⟨i, m, ⟨s, h, w, l⟩, ea⟩
  have at_ : ∀ {i : Nat} {s : Slot}, (restE e env vs)[i]? = some (some s) → (i ∈ vs ∧ env[i]? = some (some s)) ∨ (i ∉ vs ∧ e[i]? = some (some s)) := fun {i s} h => by
    by_cases m : i ∈ vs
    · rw [restE_in hl m] at h; exact .inl ⟨m, h⟩
    · rw [restE_out m] at h; exact .inr ⟨m, h⟩
  -- an object of a name that was set aside is not touched
  have aside : ∀ {i : Nat} {a : Addr}, i ∈ vs → owns env i → σ[i]? = some (some (.ref a)) → ¬ Mof (wipe σ vs) (wipeE env vs) a := fun {i a} m o ea z => by
    obtain ⟨j, mj, muj, ej⟩ := muw a z
    exact mj (r.inj i j _ o muj.owns ea ej ▸ m)
  have eo : ∀ {i : Nat} {a : Addr}, i ∉ vs → owns e i → σ[i]? = some (some (.ref a)) → (owns env i ∧ (muts e i → muts env i)) ∨ H1 a = none := fun {i a} m o ea => by
    rcases p.own i a o (by rw [wipe_out m]; exact ea) with ⟨⟨s, h, w⟩, c2, c3⟩ | c
    · rw [wipeE_out m] at h
      refine .inl ⟨⟨s, h, w⟩, fun mm => ?_⟩
      obtain ⟨s', h', w', l'⟩ := c3 mm
      rw [wipeE_out m] at h'
      exact ⟨s', h', w', l'⟩
    · exact .inr c
  refine ⟨⟨by rw [restE_len, hl]; exact r.len, p.r.sub, fun i s h => ?_, fun i j v ⟨s, h1, w1⟩ ⟨s', h2, w2⟩ a b => ?_⟩, p.ext.weak fun a z => let ⟨i, _, mu, ea⟩ := muw a z; ⟨i, mu, ea⟩, fun i a ⟨s, h, w⟩ ea => ?_, fun i s h pn => ?_, fun i s h lk => ?_, fun i s h pn => ?_⟩
  · rcases at_ h with ⟨m, h⟩ | ⟨m, h⟩
    · obtain ⟨v, ev, k⟩ := r.ok i s h
      exact ⟨v, ev, k.step p.ext fun ow a ea => aside m ⟨s, h, ow⟩ (ea ▸ ev)⟩
    · obtain ⟨v, ev, k⟩ := p.r.ok i s h
      rw [wipe_out m] at ev
      exact ⟨v, ev, k⟩
  · have ref_of : ∀ {i : Nat} {s : Slot} {v : V}, (restE e env vs)[i]? = some (some s) → s.o.own = true → σ[i]? = some (some v) → ∃ a, v = .ref a := fun {i s v} h w ev => by
      rcases at_ h with ⟨m, h⟩ | ⟨m, h⟩
      · obtain ⟨v', ev', k⟩ := r.ok i s h
        rw [ev] at ev'
        cases ev'
        exact k.own_ref w
      · obtain ⟨v', ev', k⟩ := p.r.ok i s h
        rw [wipe_out m, ev] at ev'
        cases ev'
        exact k.own_ref w
    obtain ⟨a', rfl⟩ := ref_of h1 w1 a
    rcases at_ h1 with ⟨m1, h1'⟩ | ⟨m1, h1'⟩
    · rcases at_ h2 with ⟨m2, h2'⟩ | ⟨m2, h2'⟩
      · exact r.inj i j _ ⟨s, h1', w1⟩ ⟨s', h2', w2⟩ a b
      · rcases eo m2 ⟨s', h2', w2⟩ b with ⟨c, _⟩ | c
        · exact r.inj i j _ ⟨s, h1', w1⟩ c a b
        · obtain ⟨_, u, hu⟩ := r.there ⟨s, h1', w1⟩ a
          rw [c] at hu
          cases hu
    · rcases at_ h2 with ⟨m2, h2'⟩ | ⟨m2, h2'⟩
      · rcases eo m1 ⟨s, h1', w1⟩ a with ⟨c, _⟩ | c
        · exact r.inj i j _ c ⟨s', h2', w2⟩ a b
        · obtain ⟨_, u, hu⟩ := r.there ⟨s', h2', w2⟩ b
          rw [c] at hu
          cases hu
      · exact p.r.inj i j _ ⟨s, h1', w1⟩ ⟨s', h2', w2⟩ (by rw [wipe_out m1]; exact a) (by rw [wipe_out m2]; exact b)
  · rcases at_ h with ⟨m, h⟩ | ⟨m, h⟩
    · refine .inl ⟨⟨s, h, w⟩, ea, fun ⟨s', h', w', l'⟩ => ?_⟩
      rcases at_ h' with ⟨_, h'⟩ | ⟨m', _⟩
      · exact ⟨s', h', w', l'⟩
      · exact absurd m m'
    · rcases eo m ⟨s, h, w⟩ ea with ⟨c1, c2⟩ | c
      · refine .inl ⟨c1, ea, fun ⟨s', h', w', l'⟩ => ?_⟩
        rcases at_ h' with ⟨m', _⟩ | ⟨_, h'⟩
        · exact absurd m' m
        · exact c2 ⟨s', h', w', l'⟩
      · exact .inr c
  · by_cases m : i ∈ vs
    · exact ⟨rfl, s, by rw [restE_in hl m]; exact h, pn, rfl⟩
    · obtain ⟨_, s', c2, c3, c4⟩ := p.pin i s (by rw [wipeE_out m]; exact h) pn
      exact ⟨rfl, s', by rw [restE_out m]; exact c2, c3, c4⟩
  · by_cases m : i ∈ vs
    · exact ⟨by rw [restE_in hl m]; exact h, rfl⟩
    · obtain ⟨c1, _⟩ := p.lk i s (by rw [wipeE_out m]; exact h) lk
      exact ⟨by rw [restE_out m]; exact c1, rfl⟩
  · rcases at_ h with ⟨m, h⟩ | ⟨m, h⟩
    · exact ⟨s, h, pn⟩
    · obtain ⟨s', c1, c2⟩ := p.np i s h pn
      rw [wipeE_out m] at c1
      exact ⟨s', c1, c2⟩
end
def loopC (g : GF) (c : BF) (f : DF) (vs : List Nat) : List D → List D → Sto → Option (List D × Sto)
  | [], acc, e => some (acc, e)
  | d :: r, acc, e => (g d e).bind fun e1 => (c e1).bind fun p => if p.1 then (f p.2).bind fun q => if acc.length < 1000000 then loopC g c f vs r (acc ++ [q.1]) (wipeE q.2 vs) else none else loopC g c f vs r acc (wipeE p.2 vs)
def bYes : BF := fun env => some (true, env)
def vLc (fi : IF) (g : GF) (c : BF) (f : DF) (vs : List Nat) : EF := fun env => (fi env).bind fun p => (loopC g c f vs p.1.1 [] (wipeE (lockS p.2 p.1.2) vs)).bind fun q => some (.tmp (.ol q.1), unlockS (restE q.2 (lockS p.2 p.1.2) vs) p.1.2)
theorem sat_yes {K : PySem.W.Frag} : SatT K tYes bYes := fun Hs H σ env b env' r g Q q => by
  obtain ⟨rfl, rfl⟩ := Prod.mk.inj (Option.some.inj g)
  exact q Hs H (Po.refl r)
end PV

set_option maxRecDepth 100000
set_option maxHeartbeats 2000000
namespace PV
open PySem L2 PySem.Spec PyProof.Rows

section
variable {K : PySem.W.Frag}
theorem sat_lc {wi : TI} {fi : IF} {g : TG} {ws vs : List Nat} {gf : GF} {tt : TT} {c : BF} {te : TE} {f : DF} (hi : SatI K wi fi) (hg : SatG K g ws gf) (hs : ∀ i ∈ ws, i ∈ vs) (ht : SatT K tt c) (he : SatD K te f) : SatE K (tLc wi g tt te vs) (vLc fi gf c f vs) := fun Hs H σ env h env' rr e Q q => by
  simp only [vLc, Option.bind_eq_some_iff] at e
  obtain ⟨⟨⟨ds, l⟩, env1⟩, g1, ⟨acc, e2⟩, g2, g3⟩ := e
  obtain ⟨rfl, rfl⟩ := Prod.mk.inj (Option.some.inj g3)
  refine hi Hs H σ env ds l env1 rr g1 _ fun Hs1 H1 J p1 hl src => ?_
  dsimp only at g2 q ⊢
  have r1 := p1.r.lock hl
  intro Da hD
  have hsD : Hs1 Da = none := none_s hD p1.r.sub
  have xD : Ext (fun _ => False) Hs1 H1 Hs1 (upd H1 Da (.lst [])) := ext_new hD p1.r.sub
  have rw1 := r1.wiped vs
  have nD : ∀ i, owns (wipeE (lockS env1 l) vs) i → (wipe σ vs)[i]? ≠ some (some (.ref Da)) := fun i o e => by
    obtain ⟨_, u, hu⟩ := rw1.there o e
    rw [hD] at hu
    cases hu
  refine ⟨fun i m H' => m = ds.length - i ∧ i ≤ ds.length ∧ ∃ Hs' e' acc' xs, Po K Hs1 H1 (wipe σ vs) (wipeE (lockS env1 l) vs) Hs' H' (wipe σ vs) e' ∧ (∀ (i : Nat) (s : Slot), i ∈ vs → e'[i]? ≠ some (some s)) ∧
      (∀ i, owns e' i → (wipe σ vs)[i]? ≠ some (some (.ref Da))) ∧ H' Da = some (.lst xs) ∧ DdAll K Hs' acc' xs ∧ Hs' Da = none ∧ loopC gf c f vs (ds.drop i) acc' e' = some (acc, e2),
    ⟨ds.length, by simp, Nat.zero_le _, Hs1, _, [], [], Po.keep rw1 xD (sub_new hD p1.r.sub), fun i s m => wipeE_in m s, nD, upd_same, .nil, hsD, g2⟩, ?_⟩
  rintro i m H' ⟨rfl, hi', Hs', e', acc', xs, p, nv, nd, hx, dx, sx, hr⟩
  have xt : Ext (Mof σ (lockS env1 l)) Hs1 H1 Hs' H' := p.ext.weak fun a ⟨j, ⟨s, hj, w, lk⟩, ea⟩ => by
    have mj : j ∉ vs := fun mj => wipeE_in mj s hj
    rw [wipeE_out mj] at hj
    rw [wipe_out mj] at ea
    exact ⟨j, ⟨s, hj, w, lk⟩, ea⟩
  obtain ⟨s1, s2⟩ := src Hs' H' xt p.r.sub i
  by_cases hlt : i < ds.length
  · have ed : ds[i]? = some ds[i] := List.getElem?_eq_getElem hlt
    rw [List.drop_eq_getElem_cons hlt] at hr
    simp only [loopC, Option.bind_eq_some_iff] at hr
    obtain ⟨ea, h1, ⟨b, eb⟩, h2, h3⟩ := hr
    obtain ⟨go, yl⟩ := s1 _ ed
    refine .inr ⟨go, fun H2 => ∃ Hs2 e3 acc3 xs3, Po K Hs1 H1 (wipe σ vs) (wipeE (lockS env1 l) vs) Hs2 H2 (wipe σ vs) e3 ∧ (∀ (i : Nat) (s : Slot), i ∈ vs → e3[i]? ≠ some (some s)) ∧
      (∀ i, owns e3 i → (wipe σ vs)[i]? ≠ some (some (.ref Da))) ∧ H2 Da = some (.lst xs3) ∧ DdAll K Hs2 acc3 xs3 ∧ Hs2 Da = none ∧ loopC gf c f vs (ds.drop (i + 1)) acc3 e3 = some (acc, e2),
      fun H2 ⟨Hs2, e3, acc3, xs3, z⟩ => ⟨ds.length - (i + 1), by omega, rfl, hlt, Hs2, e3, acc3, xs3, z⟩, fun x H3 y => ?_⟩
    obtain ⟨Hs3, x3, sb3, dx3⟩ := yl x H3 y
    -- the turn, seen from its own start
    have q3 := Po.keep p.r x3 sb3
    refine hg Hs' H' (wipe σ vs) e' Hs3 H3 (wipe σ vs) e' _ x ea q3 dx3 h1 _ fun Hs4 H4 σ4 q4 _ o4 l4 => ?_
    have w4 : wipe σ4 vs = wipe σ vs := by
      rw [← wipe_wipe (σ := σ) (vs := vs)]
      exact wipe_same l4 fun j mj => o4 j fun z => mj (hs j z)
    refine ⟨w4, ht Hs4 H4 σ4 ea b eb q4.r h2 _ fun Hs5 H5 q5 => ?_⟩
    have q5' := q4.trans q5
    -- the list that grows is not touched by a turn
    have stays : ∀ {Hsk Hk : Hp} {σk : L2.St} {ek : Sto}, Po K Hs' H' (wipe σ vs) e' Hsk Hk σk ek → Hk Da = some (.lst xs) ∧ Hsk Da = none ∧ ∀ i, owns ek i → σk[i]? ≠ some (some (.ref Da)) := fun {Hsk Hk σk ek} qk => by
      have nm : ¬ Mof (wipe σ vs) e' Da := fun ⟨j, mu, ej⟩ => nd j mu.owns ej
      refine ⟨qk.ext.kp _ _ hx nm, qk.ext.out _ _ hx sx nm, fun j oj ej => ?_⟩
      rcases qk.own j Da oj ej with ⟨c1, c2, _⟩ | c
      · exact nd j c1 c2
      · rw [hx] at c; cases c
    cases b with
    | true =>
      simp only [if_true, Option.bind_eq_some_iff] at h3
      obtain ⟨⟨d, ec⟩, h4, h5⟩ := h3
      split at h5
      · next hlen =>
        show te σ4 H5 _
        refine he Hs5 H5 σ4 eb d ec q5'.r h4 _ fun Hs6 H6 yv q6 d6 => ?_
        have q6' := q5'.trans q6
        obtain ⟨y1, y2, y3⟩ := stays q6'
        have pw := (p.trans q6').wiped (vs := vs) (fun j s mj => wipeE_in mj s) wipe_wipe w4
        have nD2 : ∀ i, owns (wipeE ec vs) i → (wipe σ vs)[i]? ≠ some (some (.ref Da)) := fun j ⟨s, hj, w⟩ ej => by
          have mj : j ∉ vs := fun mj => wipeE_in mj s hj
          rw [wipeE_out mj] at hj
          refine y3 j ⟨s, hj, w⟩ ?_
          rw [← w4, wipe_out mj] at ej
          exact ej
        have up : Ext (fun b => b = Da) Hs6 H6 Hs6 (upd H6 Da (.lst (xs ++ [yv]))) := ⟨fun _ _ h => h, fun b w h n => by rw [upd_ne n]; exact h, fun _ _ _ h _ => h, fun b w h => by
          by_cases z : b = Da
          · exact ⟨_, by rw [z]; exact upd_same⟩
          · exact ⟨w, by rw [upd_ne z]; exact h⟩⟩
        have sbu : ∀ a u, Hs6 a = some u → upd H6 Da (.lst (xs ++ [yv])) a = some u := fun a u ha => by
          have z : a ≠ Da := fun z => by rw [z, y2] at ha; cases ha
          rw [upd_ne z]
          exact pw.r.sub a u ha
        have pu : Po K Hs1 H1 (wipe σ vs) (wipeE (lockS env1 l) vs) Hs6 (upd H6 Da (.lst (xs ++ [yv]))) (wipe σ vs) (wipeE ec vs) := by
          refine ⟨⟨pw.r.len, sbu, fun j s hj => ?_, pw.r.inj⟩, pw.ext.trans up fun a z => .inr (by rw [z]; exact hD), pw.own, pw.pin, pw.lk, pw.np⟩
          obtain ⟨v, ev, kv⟩ := pw.r.ok j s hj
          exact ⟨v, ev, kv.step up fun ow a ea z => nD2 j ⟨s, hj, ow⟩ (by rw [ev, ea, z])⟩
        exact ⟨xs, y1, by rw [dx.length]; exact Nat.lt_of_lt_of_le hlen (by decide), Hs6, _, _, _, pu, fun j s mj => wipeE_in mj s, nD2, upd_same, (dx.mono q6'.ext.hs).append (.cons d6 .nil), y2, h5⟩
      · cases h5
    | false =>
      simp only [Bool.false_eq_true, if_false] at h3
      show ∃ Hs2 e3 acc3 xs3, _
      obtain ⟨y1, y2, y3⟩ := stays q5'
      have pw := (p.trans q5').wiped (vs := vs) (fun j s mj => wipeE_in mj s) wipe_wipe w4
      refine ⟨Hs5, _, acc', xs, pw, fun j s mj => wipeE_in mj s, fun j ⟨s, hj, w⟩ ej => ?_, y1, dx.mono q5'.ext.hs, y2, h3⟩
      have mj : j ∉ vs := fun mj => wipeE_in mj s hj
      rw [wipeE_out mj] at hj
      refine y3 j ⟨s, hj, w⟩ ?_
      rw [← w4, wipe_out mj] at ej
      exact ej
  · have ei : i = ds.length := by omega
    subst ei
    rw [List.drop_length] at hr
    cases hr
    refine .inl ⟨s2 (Nat.le_refl _), ?_⟩
    have pr := Po.rest r1 p nv
    have pu := Po.unlock hl p1.r pr
    refine q Hs' H' _ (p1.trans pu) ⟨⟨Da, xs, rfl, sx, hx, dx⟩, fun _ j oj ej => ?_⟩ fun _ a ea => by cases ea; exact p1.ext.new hD
    have back : owns (restE e2 (lockS env1 l) vs) j := by
      cases l with
      | none => exact oj
      | some ks =>
        obtain ⟨k, s⟩ := ks
        have e1 : (lockS env1 (some (k, s)))[k]? = some (some { s with lk := true }) := List.getElem?_set_self (List.getElem?_eq_some_iff.mp (show env1[k]? = some (some s) from hl)).1
        obtain ⟨e3, _⟩ := pr.lk k _ e1 rfl
        obtain ⟨s', hs', w⟩ := oj
        have hs' : ((restE e2 (lockS env1 (some (k, s))) vs).set k (some s))[j]? = some (some s') := hs'
        by_cases z : k = j
        · subst z
          rw [List.getElem?_set_self (List.getElem?_eq_some_iff.mp e3).1] at hs'
          cases hs'
          exact ⟨_, e3, w⟩
        · rw [List.getElem?_set_ne z] at hs'
          exact ⟨s', hs', w⟩
    have hl2 : e2.length = (lockS env1 l).length := by rw [p.r.len, wipe_length, r1.len]
    obtain ⟨s', hs', w⟩ := back
    by_cases mj : j ∈ vs
    · rw [restE_in hl2 mj] at hs'
      obtain ⟨_, u, hu⟩ := r1.there ⟨s', hs', w⟩ ej
      rw [hD] at hu
      cases hu
    · rw [restE_out mj] at hs'
      exact nd j ⟨s', hs', w⟩ (by rw [wipe_out mj]; exact ej)
end

/-! ### while -/
def sWhile (n : Nat) (c : BF) (b : SF) : SF := fun env => match n with
  | 0 => none
  | n + 1 => (c env).bind fun p => if p.1 then (b p.2).bind fun o => match o with
    | .nx e => sWhile n c b e
    | .ct e => sWhile n c b e
    | .bk e => some (.nx e)
    | .rt r e => some (.rt r e)
    else some (.nx p.2)
theorem sat_while {K : PySem.W.Frag} {n : Nat} {tc : TT} {c : BF} {tb : TS} {b : SF} (hc : SatT K tc c) (hb : SatS K tb b) : SatS K (tWhile tc tb) (sWhile n c b) := fun Hs H σ env out rr e DE k => by
  refine ⟨fun m σ' H' => ∃ Hs' env', Po K Hs H σ env Hs' H' σ' env' ∧ sWhile m c b env' = some out, ⟨n, Hs, env, Po.refl rr, e⟩, ?_⟩
  rintro m σ' H' ⟨Hs', env', p, g⟩
  match m, g with
  | 0, g => cases g
  | m + 1, g =>
    unfold sWhile at g
    simp only [Option.bind_eq_some_iff] at g
    obtain ⟨⟨bb, e1⟩, g1, g2⟩ := g
    refine hc Hs' H' σ' env' bb e1 p.r g1 _ fun Hs1 H1 p1 => ?_
    have q1 := p.trans p1
    cases bb with
    | true =>
      simp only [if_true, Option.bind_eq_some_iff] at g2
      obtain ⟨o, g3, g4⟩ := g2
      rw [if_pos rfl]
      refine ⟨fun σ2 H2 => ∃ Hs2 env2, Po K Hs H σ env Hs2 H2 σ2 env2 ∧ sWhile m c b env2 = some out, fun σ2 H2 ⟨Hs2, env2, p2, g5⟩ => ⟨m, Nat.lt_succ_self m, Hs2, env2, p2, g5⟩, ?_⟩
      refine hb Hs1 H1 σ' e1 o q1.r g3 _ ?_
      cases o with
      | nx e => exact fun Hs2 H2 σ2 p2 => ⟨Hs2, e, q1.trans p2, g4⟩
      | ct e => exact fun Hs2 H2 σ2 p2 => ⟨Hs2, e, q1.trans p2, g4⟩
      | bk e => cases g4; exact fun Hs2 H2 σ2 p2 => k Hs2 H2 σ2 (q1.trans p2)
      | rt r e => cases g4; exact fun Hs2 H2 σ2 v p2 w => k Hs2 H2 σ2 v (p2.after q1) (w.after q1)
    | false =>
      simp only [Bool.false_eq_true, if_false] at g2
      cases g2
      rw [if_neg Bool.false_ne_true]
      exact k Hs1 H1 σ' q1

/-! ### a def by its body -/
def initE (n : Nat) (os : List O) : Sto := os.map (fun o => some { o := o, pin := o.own }) ++ List.replicate (n - os.length) none
def contO : Option Slot → O
  | some s => s.o
  | none => .shr .non
/-- what the def computes; n: how many names, m: how many parameters -/
def defF (n m : Nat) (f : SF) : FF := fun os => if os.length = m then match f (initE n os) with
  | some (.rt r e) => some (r, (e.take m).map contO)
  | some (.nx e) => some (.o (.shr .non), (e.take m).map contO)
  | _ => none else none
section
variable {P : Program} {w : World} {K : PySem.W.Frag} {mg : Str → Option Value} {base : Heap}
theorem initE_at {n : Nat} {os : List O} {i : Nat} {s : Slot} (e : (initE n os)[i]? = some (some s)) : os[i]? = some s.o ∧ s.pin = s.o.own ∧ s.lk = false := by
  unfold initE at e
  by_cases hi : i < os.length
  · rw [List.getElem?_append_left (by simpa using hi), List.getElem?_map, List.getElem?_eq_getElem hi] at e
    cases e
    exact ⟨List.getElem?_eq_getElem hi, rfl, rfl⟩
  · rw [List.getElem?_append_right (by simpa using hi), List.getElem?_replicate] at e
    split at e <;> cases e
theorem initE_of {n : Nat} {os : List O} {i : Nat} {o : O} (e : os[i]? = some o) : (initE n os)[i]? = some (some { o := o, pin := o.own }) := by
  unfold initE
  have hi := (List.getElem?_eq_some_iff.mp e).1
  rw [List.getElem?_append_left (by simpa using hi), List.getElem?_map, e]
  rfl
theorem start_at {N : List Str} {vs : List V} {i : Nat} {v : V} (e : vs[i]? = some v) : (L2.start N vs)[i]? = some (some v) := by
  unfold L2.start
  have hi := (List.getElem?_eq_some_iff.mp e).1
  rw [List.getElem?_append_left (by simpa using hi), List.getElem?_map, e]
  rfl
theorem fnV {x qual : Str} {st : Stmt} {f : Addr} {fd : FuncData} {N ps : List Str} {k : Nat} {sf : SF} (F : Fun K x qual st f fd) (S : FnScope N ps (defScope st))
    (hbody : ∀ (cdv : Value) (A : Around) (outer : List PySem.Env) (s : Shared) (H : Hp) (E : XK), Room k (A.deeper (envOfC qual (defScope st) s.heap.objs.size f cdv)) →
      ∃ t, PSs (cxOf CX0 P w K mg base N qual (defScope st) f cdv A outer s H E).nox (defBody st) t ∧ SatS K t sf) : FnOk P w K mg base CX0 (k + 1) f fd ps (spV K (defF N.length ps.length sf)) := by
  refine F.ok S (fun vs H Q E h => ?_) (fun cdv A outer s H vs Q E hr h => ?_)
  · obtain ⟨Hs, os, r, fin, _, ks, _, hF, _⟩ := h
    unfold defF at hF
    split at hF
    · next hl => rw [ks.length]; exact hl
    · cases hF
  obtain ⟨Hs, os, r, fin, sb, ks, dis, hF, q⟩ := h
  obtain ⟨t, hp, hs⟩ := hbody cdv A outer s H E hr
  refine ⟨t, hp, ?_⟩
  unfold defF at hF
  split at hF
  · next hl =>
    have hvl : vs.length = os.length := ks.length
    have hN : ps.length ≤ N.length := by have := congrArg List.length S.pre; rw [List.length_take] at this; omega
    have rr : R K Hs H (L2.start N vs) (initE N.length os) := by
      refine ⟨by unfold L2.start initE; simp only [List.length_append, List.length_map, List.length_replicate]; omega, sb, fun i s e => ?_, fun i j v ⟨s1, e1, w1⟩ ⟨s2, e2, w2⟩ a b => ?_⟩
      · obtain ⟨eo, _, _⟩ := initE_at e
        obtain ⟨v, ev, kv⟩ := ks.get eo
        exact ⟨v, start_at ev, kv⟩
      · obtain ⟨eo1, _, _⟩ := initE_at e1
        obtain ⟨eo2, _, _⟩ := initE_at e2
        obtain ⟨v1, ev1, kv1⟩ := ks.get eo1
        obtain ⟨v2, ev2, kv2⟩ := ks.get eo2
        rw [start_at ev1] at a
        rw [start_at ev2] at b
        cases a
        cases b
        obtain ⟨ad, rfl⟩ := kv1.own_ref w1
        exact dis i j _ _ ad eo1 w1 eo2 w2 ev1 ev2
    have mu : ∀ a, Mof (L2.start N vs) (initE N.length os) a → ArgM vs os a := fun a ⟨i, ⟨s, e, w, _⟩, ea⟩ => by
      obtain ⟨eo, _, _⟩ := initE_at e
      obtain ⟨v1, ev1, kv1⟩ := ks.get eo
      rw [start_at ev1] at ea
      cases ea
      exact ⟨i, s.o, eo, w, ev1⟩
    have fins : ∀ {Hs' H' : Hp} {σ' : L2.St} {e : Sto}, PoR K Hs H (L2.start N vs) (initE N.length os) Hs' H' σ' e → ∀ (j : Nat) (o f : O) (w : V), os[j]? = some o → o.own = true → ((e.take ps.length).map contO)[j]? = some f → vs[j]? = some w → ROk K Hs' H' w f := fun {Hs' H' σ' e} p j o f w eo ow ef ew => by
      obtain ⟨c1, s', c2, _⟩ := p.pin j _ (initE_of eo) ow
      obtain ⟨v, ev, kv⟩ := p.r.ok j s' c2
      rw [c1, start_at ew] at ev
      cases ev
      have hj : j < ps.length := by have := (List.getElem?_eq_some_iff.mp eo).1; omega
      rw [List.getElem?_map, List.getElem?_take_of_lt hj, c2] at ef
      cases ef
      exact kv
    have go : ∀ (out : Out), sf (initE N.length os) = some out → (match out with
        | .rt r' e => r = r' ∧ fin = (e.take ps.length).map contO
        | .nx e => r = .o (.shr .non) ∧ fin = (e.take ps.length).map contO
        | _ => False) → t { nx := fun _ H' => Q .non H', rt := Q } (L2.start N vs) H := by
      intro out ho hm
      refine hs Hs H (L2.start N vs) (initE N.length os) out rr ho _ ?_
      cases out with
      | nx e =>
        obtain ⟨rfl, rfl⟩ := hm
        exact fun Hs' H' σ' p => q Hs' H' .non (p.ext.weak mu) p.r.sub (fins p.por) ⟨.non, fun w => nomatch w⟩
      | rt r' e =>
        obtain ⟨rfl, rfl⟩ := hm
        intro Hs' H' σ' v p ro
        refine q Hs' H' v (p.ext.weak mu) p.r.sub (fins p) ?_
        cases r with
        | o o =>
          refine ⟨ro.1, fun w a ea => ?_⟩
          rcases ro.2 w a ea with n | ⟨i, s, es, ow, np, _⟩
          · exact n
          · obtain ⟨_, pe, _⟩ := initE_at es
            rw [np, ow] at pe
            cases pe
        | par j =>
          obtain ⟨ev, s, es, pn⟩ := ro
          obtain ⟨eo, _, _⟩ := initE_at es
          obtain ⟨w, ew, _⟩ := ks.get eo
          obtain ⟨c1, _⟩ := p.pin j s es pn
          rw [c1, start_at ew] at ev
          cases ev
          exact ew
      | bk e => exact hm.elim
      | ct e => exact hm.elim
    cases ho : sf (initE N.length os) with
    | none => rw [ho] at hF; cases hF
    | some out =>
      rw [ho] at hF
      refine go out ho ?_
      cases out with
      | rt r' e => cases hF; exact ⟨rfl, rfl⟩
      | nx e => cases hF; exact ⟨rfl, rfl⟩
      | bk e => cases hF
      | ct e => cases hF
  · cases hF
end
end PV

set_option maxRecDepth 100000
set_option maxHeartbeats 2000000
namespace PV
open PySem L2 PySem.Spec PyProof.Rows

/-! ### a piece of text, its reading, what it computes -/
structure VE (X : Cx) (e : Expr) (t : TE) (f : EF) : Prop where
  pe : PE X e t
  sat : SatE X.K t f
structure VD (X : Cx) (e : Expr) (t : TE) (f : DF) : Prop where
  pe : PE X e t
  sat : SatD X.K t f
structure VT (X : Cx) (e : Expr) (t : TT) (f : BF) : Prop where
  pe : PT X e t
  sat : SatT X.K t f
structure VW (X : Cx) (e : Expr) (t : TT) (f : BF) : Prop where
  pe : PW X e t
  sat : SatT X.K t f
structure VDs (X : Cx) (e : List Expr) (t : TA) (f : DsF) : Prop where
  pe : PA X e t
  sat : SatDs X.K t f
structure VHs (X : Cx) (e : List Expr) (t : TA) (f : HsF) : Prop where
  pe : PA X e t
  sat : SatHs X.K t f
structure VO (X : Cx) (e : Option Expr) (t : TO) (f : OF) : Prop where
  pe : PO X e t
  sat : SatO X.K t f
structure VI (X : Cx) (tg e : Expr) (t : TI) (f : IF) : Prop where
  pe : PI X tg e t
  sat : SatI X.K t f
structure VG (X : Cx) (e : Expr) (t : TG) (vs : List Nat) (f : GF) : Prop where
  pe : PG X e t
  sat : SatG X.K t vs f
structure VGs (X : Cx) (e : List Expr) (t : TGs) (vs : List Nat) (f : List D → Sto → Option Sto) : Prop where
  pe : PGs X e t
  sat : SatGs X.K t vs f
structure VS (X : Cx) (e : Stmt) (t : TS) (f : SF) : Prop where
  pe : PS X e t
  sat : SatS X.K t f
structure VSs (X : Cx) (e : List Stmt) (t : TS) (f : SF) : Prop where
  pe : PSs X e t
  sat : SatS X.K t f
structure VTs (X : Cx) (e : List Expr) (t : TT) (f : BF) : Prop where
  pe : PTs X e t
  sat : SatT X.K t f

section
variable {X : Cx} {a b c e : Expr} {es : List Expr} {ta tb tc te : TE} {fa fb fc fe : EF} {pos : Pos} {tt tu : TT} {ba bb : BF} {t : TA} {fhs : HsF} {fds : DsF}
theorem v_var (i : Nat) {x : Str} (hN : X.N[i]? = some x := by rfl) (hv : Vis X.env.scope x := by first | exact Or.inl rfl | exact Or.inr (Or.inl rfl) | exact Or.inr (Or.inr rfl)) (hd : (x == ("__debug__" : Str)) = false := by decide)
    (hcd : (x == ("__classdict__" : Str)) = false := by decide) : VE X (.Name x pos) (tVar i) (vVar i) := ⟨pe_var hN hv hd hcd, sat_var⟩
theorem v_int {i j} : VE X (.Constant (.int i) j pos) (tC (.int i)) (vC (.int i)) := ⟨pe_int, sat_c fun _ => .int i⟩
theorem v_bl {i j} : VE X (.Constant (.bool i) j pos) (tC (.bl i)) (vC (.bl i)) := ⟨pe_bl, sat_c fun _ => .bl i⟩
theorem v_non {j} : VE X (.Constant .none j pos) (tC .non) (vC .non) := ⟨pe_non, sat_c fun _ => .non⟩
theorem v_str {x j} : VE X (.Constant (.str x) j pos) (tC (.str x)) (vC (.str x)) := ⟨pe_str, sat_c fun _ => .str x⟩
theorem v_globI {x : Str} {i : Int} {u : Value} (hg : Gl X x) (hm : X.mg x = some u) (r : RelV (.int i) u) (hd : (x == ("__debug__" : Str)) = false := by decide) : VE X (.Name x pos) (tC (.int i)) (vC (.int i)) := ⟨pe_glob hg hm r hd, sat_c fun _ => .int i⟩
theorem v_glob {x : Str} {v : V} {u : Value} (hg : Gl X x) (hm : X.mg x = some u) (r : RelV v u) (hd : (x == ("__debug__" : Str)) = false := by decide) : VE X (.Name x pos) (tC v) (vC (.opq v)) := ⟨pe_glob hg hm r hd, sat_c fun _ => .opq v⟩
theorem v_ty {x : Str} {n : String} (hm : X.mg x = none) (hv : bootBuiltins x = some (.type n)) (hg : Gl X x := by rfl) (hn : x ≠ "__name__" := by decide) (hd : (x == ("__debug__" : Str)) = false := by decide) : VE X (.Name x pos) (tC (.ty n)) (vC (.opq (.ty n))) :=
  ⟨pe_bltn hg hm hv rfl hn hd, sat_c fun _ => .opq _⟩
theorem v_take (h : VE X e te fe) : VD X e te (vTake fe) := ⟨h.pe, sat_take h.sat⟩
theorem vds_nil : VDs X [] tNil vNilD := ⟨pa_nil, sat_nilD⟩
theorem vds_cons (h : VE X e te fe) (r : VDs X es t fds) (hs : starEach (e :: es) X.env = (false, eval e X.env) :: starEach es X.env := by rfl) : VDs X (e :: es) (tCons te t) (vConsD (vTake fe) fds) := ⟨pa_cons h.pe r.pe hs, sat_consD (sat_take h.sat) r.sat⟩
theorem vhs_nil : VHs X [] tNil vNilH := ⟨pa_nil, sat_nilH⟩
theorem vhs_cons (h : VE X e te fe) (r : VHs X es t fhs) (hs : starEach (e :: es) X.env = (false, eval e X.env) :: starEach es X.env := by rfl) : VHs X (e :: es) (tCons te t) (vConsH fe fhs) := ⟨pa_cons h.pe r.pe hs, sat_consH h.sat r.sat⟩
theorem v_tup {x1} (h : VDs X es t fds) : VE X (.Tuple es x1 pos) (tTup t) (vTup fds) := ⟨pe_tup h.pe, sat_tup h.sat⟩
theorem v_lst (h : VDs X es t fds) : VE X (.List es pos) (tLst t) (vLst fds) := ⟨pe_lst h.pe, sat_lst h.sat⟩
/-! operators -/
theorem v_add {K : PySem.W.Frag} (ha : VE X a ta fa) (hb : VE X b tb fb) (eK : X.K = K := by rfl) : VE X (.BinOp a .Add b pos) (tOp (rAddA K) ta tb) (vBin oAdd fa fb) := by subst eK; exact ⟨pe_op op_addA ha.pe hb.pe, sat_bin s_add ha.sat hb.sat⟩
theorem v_sub (ha : VE X a ta fa) (hb : VE X b tb fb) : VE X (.BinOp a .Sub b pos) (tOp (rI0 fun i j => .int (i - j)) ta tb) (vBin oSub fa fb) := ⟨pe_op op_sub ha.pe hb.pe, sat_bin s_sub ha.sat hb.sat⟩
theorem v_mul (ha : VE X a ta fa) (hb : VE X b tb fb) : VE X (.BinOp a .Mult b pos) (tOp (rI CMulG fun i j => .int (i * j)) ta tb) (vBin oMul fa fb) := ⟨pe_op op_mulG ha.pe hb.pe, sat_bin s_mul ha.sat hb.sat⟩
theorem v_div (ha : VE X a ta fa) (hb : VE X b tb fb) : VE X (.BinOp a .FloorDiv b pos) (tOp (rI CDivG fun i j => .int (i.fdiv j)) ta tb) (vBin oDiv fa fb) := ⟨pe_op op_fdivG ha.pe hb.pe, sat_bin s_div ha.sat hb.sat⟩
theorem v_mod (ha : VE X a ta fa) (hb : VE X b tb fb) : VE X (.BinOp a .Mod b pos) (tOp (rI (fun _ j => j ≠ 0) fun i j => .int (i.fmod j)) ta tb) (vBin oMod fa fb) := ⟨pe_op op_modN ha.pe hb.pe, sat_bin s_mod ha.sat hb.sat⟩
theorem v_pow (ha : VE X a ta fa) (hb : VE X b tb fb) : VE X (.BinOp a .Pow b pos) (tOp (rI CPow fun i j => .int (i ^ j.toNat)) ta tb) (vBin oPow fa fb) := ⟨pe_op op_pow ha.pe hb.pe, sat_bin s_pow ha.sat hb.sat⟩
theorem v_neg (ha : VE X a ta fa) : VE X (.UnaryOp .USub a pos) (tUn (rU fun i => .int (-i)) ta) (vUn oNeg fa) := ⟨pe_un un_neg ha.pe, sat_un s_neg ha.sat⟩
/-! comparisons: a rule, its soundness -/
theorem v_cmp {op : CmpOp} {r : R2} {f : O → O → Option O} (ho : OpR X (compareOp op) r) (hs : ∀ K, X.K = K → OpSat K r f) (ha : VE X a ta fa) (hb : VE X b tb fb) (hm : behindInMarks op b = false := by first | exact nomark _ (by decide) (by decide) | rfl) : VE X (.Compare a [op] [b] pos) (tOp r ta tb) (vBin f fa fb) :=
  ⟨pe_cmpR ho ha.pe hb.pe hm, sat_bin (hs _ rfl) ha.sat hb.sat⟩
theorem vt_cmp {op : CmpOp} {r : R2} {f : O → O → Option O} (ho : OpR X (compareOp op) r) (hs : ∀ K, X.K = K → OpSat K r f) (ha : VE X a ta fa) (hb : VE X b tb fb) (hm : behindInMarks op b = false := by first | exact nomark _ (by decide) (by decide) | rfl) : VT X (.Compare a [op] [b] pos) (tTest (tOp r ta tb)) (bVal (vBin f fa fb)) :=
  ⟨pt_cmpR ho ha.pe hb.pe hm, sat_test (sat_bin (hs _ rfl) ha.sat hb.sat)⟩
theorem op_isN2 {X : Cx} : OpR X (compareOp .Is) rIsN2 := op_isN
theorem op_notN2 {X : Cx} : OpR X (compareOp .IsNot) rNotN2 := op_notN
/-! truth values -/
theorem v_b (h : VE X e te fe) : VE X e te (vB (bVal fe)) := ⟨h.pe, sat_vb h.sat⟩
theorem sat_ofB {K : PySem.W.Frag} (h : SatE K te (vB ba)) : SatT K (tB te) ba := fun Hs H σ env b env' r g Q q =>
  h Hs H σ env (.tmp (.shr (.bl b))) env' r (by simp only [vB, g, Option.bind_some]) _ fun Hs1 H1 v p k f => ⟨b, asB_ok (o := .shr (.bl b)) rfl k.1, q Hs1 H1 p⟩
theorem v_and {rest : List Expr} (ha : VE X a ta (vB ba)) (hb : VE X (.BoolOp .And (b :: rest) pos) tb (vB bb)) : VE X (.BoolOp .And (a :: b :: rest) pos) (tAndV ta tb) (vB (bAnd ba bb)) := ⟨pe_and ha.pe hb.pe, sat_andV (sat_ofB ha.sat) hb.sat⟩
theorem v_or {rest : List Expr} (ha : VE X a ta (vB ba)) (hb : VE X (.BoolOp .Or (b :: rest) pos) tb (vB bb)) : VE X (.BoolOp .Or (a :: b :: rest) pos) (tOrV ta tb) (vB (bOr ba bb)) := ⟨pe_or ha.pe hb.pe, sat_orV (sat_ofB ha.sat) hb.sat⟩
theorem v_one {op} (h : VE X a ta fa) : VE X (.BoolOp op [a] pos) ta fa := ⟨pe_one h.pe, h.sat⟩
theorem v_not (ha : VE X a ta (vB ba)) : VE X (.UnaryOp .Not a pos) (tNotV ta) (vB (bNot ba)) := ⟨pe_not ha.pe, sat_notV (sat_ofB ha.sat)⟩
/-! tests -/
theorem vt_val (h : VE X e te fe) (he : ∀ whole, isTrue e X.env whole = (do let v ← whole; standAt e.pos; holding [v] (truthy v)) := by intro _; rfl) : VT X e (tB te) (bVal fe) := ⟨pt_val h.pe he, sat_B h.sat⟩
theorem vt_tru {K : PySem.W.Frag} (h : VE X e te fe) (he : ∀ whole, isTrue e X.env whole = (do let v ← whole; standAt e.pos; holding [v] (truthy v)) := by intro _; rfl) (eK : X.K = K := by rfl) : VT X e (tTruV K te) (bTru fe) := by subst eK; exact ⟨pt_truth h.pe he, sat_tru h.sat⟩
theorem vt_not (h : VT X a tt ba) : VT X (.UnaryOp .Not a pos) (tNot tt) (bNot ba) := ⟨pt_not h.pe, sat_not h.sat⟩
theorem vw_and1 (h : VT X a tt ba) : VW X (.BoolOp .And [a] pos) tt ba := ⟨pw_and1 h.pe, h.sat⟩
theorem vw_or1 (h : VT X a tt ba) : VW X (.BoolOp .Or [a] pos) tt ba := ⟨pw_or1 h.pe, h.sat⟩
theorem vw_and {rest : List Expr} (h : VT X a tt ba) (h2 : VW X (.BoolOp .And (b :: rest) pos) tu bb) : VW X (.BoolOp .And (a :: b :: rest) pos) (tAnd tt tu) (bAnd ba bb) := ⟨pw_and h.pe h2.pe, sat_and h.sat h2.sat⟩
theorem vw_or {rest : List Expr} (h : VT X a tt ba) (h2 : VW X (.BoolOp .Or (b :: rest) pos) tu bb) : VW X (.BoolOp .Or (a :: b :: rest) pos) (tOr tt tu) (bOr ba bb) := ⟨pw_or h.pe h2.pe, sat_or h.sat h2.sat⟩
theorem vw_t (h : VW X a tt ba) : VT X a tt ba := ⟨h.pe.pt, h.sat⟩
theorem v_if (hc : VT X c tt ba) (ha : VE X a ta fa) (hb : VE X b tb fb) : VE X (.IfExp c a b pos) (tIf tt ta tb) (vIf ba fa fb) := ⟨pe_ifExp hc.pe ha.pe hb.pe, sat_if hc.sat ha.sat hb.sat⟩
/-! subscripts -/
theorem v_ix {K : PySem.W.Frag} (ha : VE X a ta fa) (hb : VE X b tb fb) (hs : PlainIx b := by exact fun _ _ => rfl) (eK : X.K = K := by rfl) : VE X (.Subscript a b pos) (tOp (rIx K) ta tb) (vBin oIx fa fb) := by subst eK; exact ⟨pe_ix ix_seq ha.pe hb.pe hs, sat_bin s_ix ha.sat hb.sat⟩
theorem vo_none : VO X none tNoPart vNoP := ⟨po_none, sat_noP⟩
theorem vo_some (h : VE X e te fe) : VO X (some e) (tPart te) (vP fe) := ⟨po_some h.pe, sat_P h.sat⟩
theorem v_sl {K : PySem.W.Frag} {lo hi : Option Expr} {p2 : Pos} {tl th : TO} {fl fh : OF} (ha : VE X a ta fa) (hl : VO X lo tl fl) (hh : VO X hi th fh) (eK : X.K = K := by rfl) : VE X (.Subscript a (.Slice lo hi none p2) pos) (tSl (rSlA K) ta tl th) (vSl fa fl fh) := by subst eK; exact ⟨pe_slice sl_A ha.pe hl.pe hh.pe, sat_sl ha.sat hl.sat hh.sat⟩
/-! calls -/
theorem v_callB {x : Str} {id : String} {p : Pos} {r : List V → Hp → VK → Prop} {op : List O → Option O} (hc : CallR X (.builtin id) r) (hs : ∀ K, X.K = K → CallSat K r op) (hv : bootBuiltins x = some (.builtin id)) (hm : X.mg x = none) (ha : VHs X (e :: es) t fhs) (hg : Gl X x := by rfl) (hn : x ≠ "__name__" := by decide) (hdb : (x == ("__debug__" : Str)) = false := by decide)
    (he : starEach (e :: es) X.env = (false, eval e X.env) :: starEach es X.env := by rfl) (hpl : (backTo pos (starEach es X.env)).any (·.1) = false := by rfl) : VE X (.Call (.Name x p) (e :: es) [] pos) (tCB r t) (vCallB op fhs) := ⟨pe_callB hc hg hm hv ha.pe hn hdb he hpl, sat_callB (hs _ rfl) ha.sat⟩
theorem v_callTy {x : Str} {T : String} {p : Pos} {r : List V → Hp → VK → Prop} {op : List O → Option O} (hc : CallR X (.type T) r) (hs : ∀ K, X.K = K → CallSat K r op) (hv : bootBuiltins x = some (.type T)) (hm : X.mg x = none) (ha : VHs X (e :: es) t fhs) (hg : Gl X x := by rfl) (hn : x ≠ "__name__" := by decide) (hdb : (x == ("__debug__" : Str)) = false := by decide)
    (he : starEach (e :: es) X.env = (false, eval e X.env) :: starEach es X.env := by rfl) (hpl : (backTo pos (starEach es X.env)).any (·.1) = false := by rfl) : VE X (.Call (.Name x p) (e :: es) [] pos) (tCB r t) (vCallB op fhs) := ⟨pe_callTy hc hg hm hv ha.pe hn hdb he hpl, sat_callB (hs _ rfl) ha.sat⟩
/-- a def of the text: where it stands, what it computes -/
structure Df (P : Program) (w : World) (K : PySem.W.Frag) (mg : Str → Option Value) (base : Heap) (k : Nat) (x : Str) (ps : List Str) (F : FF) : Prop where
  ex : ∃ (f : Addr) (fd : FuncData), FnOk P w K mg base CX0 k f fd ps (spV K F) ∧ mg x = some (.ref f) ∧ PySem.W.keepIn K (.ref f) = true ∧ Binds K fd ps []
theorem Df.mono {P : Program} {w : World} {K : PySem.W.Frag} {mg : Str → Option Value} {base : Heap} {j k : Nat} {x : Str} {ps : List Str} {F : FF} (h : Df P w K mg base j x ps F) (l : j ≤ k) : Df P w K mg base k x ps F :=
  let ⟨f, fd, a, b, c, d⟩ := h.ex; ⟨f, fd, a.mono l, b, c, d⟩
theorem pe_callE {x : Str} {p : Pos} {t : TA} {k : Nat} {ps : List Str} {F : FF} (hD : Df X.prog X.w X.K X.mg X.base k x ps F) (hr : Room k X.A) (ha : PA X (e :: es) t) (hg : Gl X x := by rfl) (hdb : (x == ("__debug__" : Str)) = false := by decide)
    (he : starEach (e :: es) X.env = (false, eval e X.env) :: starEach es X.env := by rfl) (hpl : (backTo pos (starEach es X.env)).any (·.1) = false := by rfl) : PE X (.Call (.Name x p) (e :: es) [] pos) (tCall (spV X.K F) [] (fun _ _ _ => False) t) := by
  obtain ⟨f, fd, h1, h2, h3, h4⟩ := hD.ex
  exact pe_call h1 hr hg h2 h3 h4 .nil pass0 ha hdb he hpl
theorem v_call {x : Str} {p : Pos} {k j : Nat} {ps : List Str} {F : FF} {P : Program} {w : World} {K : PySem.W.Frag} {mg : Str → Option Value} {base : Heap} {A : Around} (hD : Df P w K mg base j x ps F) (hr : Room k A) (ha : VHs X (e :: es) t fhs) (hk : j ≤ k := by omega) (hg : Gl X x := by rfl)
    (eP : X.prog = P := by rfl) (ew : X.w = w := by rfl) (eK : X.K = K := by rfl) (em : X.mg = mg := by rfl) (eb : X.base = base := by rfl) (eA : X.A = A := by rfl) (hdb : (x == ("__debug__" : Str)) = false := by decide)
    (he : starEach (e :: es) X.env = (false, eval e X.env) :: starEach es X.env := by rfl) (hpl : (backTo pos (starEach es X.env)).any (·.1) = false := by rfl) : VE X (.Call (.Name x p) (e :: es) [] pos) (tCall (spV K F) [] (fun _ _ _ => False) t) (vCall F fhs) := by
  subst eP ew eK em eb eA
  exact ⟨pe_callE (hD.mono hk) hr ha.pe hg hdb he hpl, sat_call ha.sat⟩
/-! methods of a list of one's own -/
theorem v_mt {T id : String} {name : Str} {x : Str} {p apos cpos : Pos} {r : V → List V → Hp → VK → Prop} {m : List D → O → Option (D × O)} (i : Nat) (pa : PlainAttrs T) (slot : PySem.Slot T name id) (hty : typeOf (.builtin id) = pure (.type "method_descriptor")) (hm : MtR X id r) (hs : MtSat X.K r m) (hT : T ≠ "") (ho : VE X (.Name x p) (tVar i) (vVar i)) (ha : VDs X (e :: es) t fds)
    (hbase : attributeBase (.Name x p) name X.env (eval (.Name x p) X.env) = eval (.Name x p) X.env := by rfl)
    (hfew : ((backTo cpos (starEach (e :: es) X.env)).all (fun x => !x.1) && (backToKw cpos (keywordEach [] X.env)).all (fun x => x.1.isSome)
      && decide ((e :: es).length + ([] : List Keyword).length + (if ([] : List Keyword).isEmpty then 0 else 1) < 30)) = true := by rfl)
    (hline : (apos.endLine == cpos.line) = true := by rfl) (hst : starEach (e :: es) X.env = (false, eval e X.env) :: starEach es X.env := by rfl) (hplain : (backTo cpos (starEach es X.env)).any (·.1) = false := by rfl) :
    VE X (.Call (.Attribute (.Name x p) name apos) (e :: es) [] cpos) (tBM X.K T r (tVar i) t) (vMt i T m fds) :=
  ⟨pe_bm pa slot hty hm ho.pe ha.pe hbase hfew hline hst hplain, sat_mt hs hT ha.sat⟩
theorem v_append {x : Str} {p apos cpos : Pos} (i : Nat) (ho : VE X (.Name x p) (tVar i) (vVar i)) (h : VE X e te fe)
    (hbase : attributeBase (.Name x p) "append" X.env (eval (.Name x p) X.env) = eval (.Name x p) X.env := by rfl)
    (hfew : ((backTo cpos (starEach [e] X.env)).all (fun x => !x.1) && (backToKw cpos (keywordEach [] X.env)).all (fun x => x.1.isSome)
      && decide (([e] : List Expr).length + ([] : List Keyword).length + (if ([] : List Keyword).isEmpty then 0 else 1) < 30)) = true := by rfl)
    (hline : (apos.endLine == cpos.line) = true := by rfl) (hst : starEach [e] X.env = (false, eval e X.env) :: starEach [] X.env := by rfl) (hplain : (backTo cpos (starEach [] X.env)).any (·.1) = false := by rfl) :
    VE X (.Call (.Attribute (.Name x p) "append" apos) [e] [] cpos) (tBM X.K "list" rAppend (tVar i) (tCons te tNil)) (vMt i "list" mAppend (vConsD (vTake fe) vNilD)) :=
  v_mt i PySem.F.plainAttrs_list PySem.F.slot_list_append PySem.F.type_list_append mt_append s_append (by decide) ho (vds_cons h vds_nil hst) hbase hfew hline hst hplain
/-! what is walked -/
theorem vi_seq {K : PySem.W.Frag} {tg : Expr} (h : VE X e te fe) (eK : X.K = K := by rfl) : VI X tg e (wSeq K te) (iSeq fe) := by subst eK; exact ⟨pi_seq h.pe, sat_seqI h.sat⟩
theorem vi_r1 {tg : Expr} {p : Pos} (hm : X.mg "range" = none) (ha : VHs X [a] t fhs) (hg : Gl X "range" := by rfl) (hs : starEach [a] X.env = [(false, eval a X.env)] := by rfl) : VI X tg (.Call (.Name "range" p) [a] [] pos) (iRng1 t) (iR1 fhs) := ⟨pi_range1 hg hm ha.pe hs, sat_R1 ha.sat⟩
theorem vi_r2 {tg : Expr} {p : Pos} (hm : X.mg "range" = none) (ha : VHs X [a, b] t fhs) (hg : Gl X "range" := by rfl) (hs : starEach [a, b] X.env = [(false, eval a X.env), (false, eval b X.env)] := by rfl) (hs2 : starEach [b] X.env = [(false, eval b X.env)] := by rfl) : VI X tg (.Call (.Name "range" p) [a, b] [] pos) (iRng2 t) (iR2 fhs) := ⟨pi_range2 hg hm ha.pe hs hs2, sat_R2 ha.sat⟩
/-! targets -/
theorem vg_name (i : Nat) {x : Str} (hN : X.N.Nodup) (hi : X.N[i]? = some x := by rfl) (hx : Loc X.env.scope x := by first | exact Or.inl rfl | exact Or.inr rfl) (hf : X.fn x = true ∨ X.env.scope.names.lookup x = some .local := by first | exact .inl rfl | exact .inr rfl | assumption) : VG X (.Name x pos) (gName i) [i] (gN i) := ⟨pg_name hN hi hx hf, sat_gN⟩
theorem vgs_nil : VGs X [] gNil [] gNilF := ⟨pgs_nil, sat_gNil⟩
theorem vgs_cons {g : TG} {gs : TGs} {vs ws : List Nat} {f : GF} {r : List D → Sto → Option Sto} (h1 : VG X e g vs f) (h2 : VGs X es gs ws r) (hs : (assignEach (e :: es) X.env).map (·.2) = assign e X.env :: (assignEach es X.env).map (·.2) := by rfl) : VGs X (e :: es) (gCons g gs) (vs ++ ws) (gConsF f r) := ⟨pgs_cons h1.pe h2.pe hs, sat_gCons h1.sat h2.sat⟩
theorem vg_tup {K : PySem.W.Frag} {k n : Nat} {gs : TGs} {vs : List Nat} {r : List D → Sto → Option Sto} (h : VGs X es gs vs r) (hc : X.calm = true := by rfl) (hn : (assignEach es X.env).length = n := by rfl) (hst : (assignEach es X.env).findIdx? (·.1) = none := by rfl) (eK : X.K = K := by rfl) : VG X (.Tuple es k pos) (gTup K n gs) vs (gT n r) := by subst eK; exact ⟨pg_tup hc h.pe hn hst, sat_gT h.sat⟩
/-! comprehensions -/
theorem vts_nil : VTs X [] tYes bYes := ⟨pts_nil, sat_yes⟩
theorem vts_one (h : VT X c tt ba) : VTs X [c] tt ba := ⟨pts_one h.pe, h.sat⟩
theorem v_lc {elt tg iter : Expr} {ifs : List Expr} {scope : Scope} (own : List (Str × Nat)) {wi : TI} {fi : IF} {g : TG} {ws : List Nat} {gf : GF} (hN : X.N.Nodup) (hi : VI X tg iter wi fi) (ok : blkC X.N X.env.scope scope own = true)
    (hg : ∀ (s : Shared) (H : Hp) (C : Addr) (cl : List (Str × Addr)) (fp : List Addr), VG (X.blk s H scope (compEnvC scope cl C X.env) fp) tg g ws gf) (ht : ∀ (s : Shared) (H : Hp) (C : Addr) (cl : List (Str × Addr)) (fp : List Addr), VTs (X.blk s H scope (compEnvC scope cl C X.env) fp) ifs tt ba)
    (he : ∀ (s : Shared) (H : Hp) (C : Addr) (cl : List (Str × Addr)) (fp : List Addr), VE (X.blk s H scope (compEnvC scope cl C X.env) fp) elt te fe) (hsub : ∀ i ∈ ws, i ∈ own.map (·.2) := by decide) (hc : X.calm = true := by rfl) (hs : ∀ x, foldedSetIterable iter X.env x = pure x := by intro _; rfl) :
    VE X (.ListComp elt [⟨tg, iter, ifs, 0⟩] scope pos) (tLc wi g tt te (own.map (·.2))) (vLc fi gf ba (vTake fe) (own.map (·.2))) :=
  ⟨pe_lc hc hN hi.pe (blkOk_by ok) (fun s H C cl fp => (hg s H C cl fp).pe) (fun s H C cl fp => (ht s H C cl fp).pe) (fun s H C cl fp => (he s H C cl fp).pe) hs,
   sat_lc hi.sat (hg {} (fun _ => none) 0 [] []).sat hsub (ht {} (fun _ => none) 0 [] []).sat (sat_take (he {} (fun _ => none) 0 [] []).sat)⟩
/-! statements -/
variable {st : Stmt} {sts : List Stmt} {ts ts2 : TS} {f f2 : SF} {sa sb : List Stmt}
theorem vs_nil : VSs X [] tNext sNil := ⟨pss_nil, sat_nil⟩
theorem vs_cons (h : VS X st ts f) (r : VSs X sts ts2 f2) : VSs X (st :: sts) (tSeq ts ts2) (sSeq f f2) := ⟨pss_cons h.pe r.pe, sat_seq h.sat r.sat⟩
theorem vs_one (h : VS X st ts f) : VSs X [st] ts f := ⟨pss_one h.pe, h.sat⟩
theorem v_set (i : Nat) {x : Str} {pos' : Pos} (hN : X.N.Nodup) (he : VE X e te fe) (hi : X.N[i]? = some x := by rfl) (hx : Loc X.env.scope x := by first | exact Or.inl rfl | exact Or.inr rfl) (hs : swapsWith e (some (.Name x pos')) pos.line X.env = pure false := by rfl) (hf : X.fn x = true ∨ X.env.scope.names.lookup x = some .local := by first | exact .inl rfl | exact .inr rfl | assumption) :
    VS X (.Assign [.Name x pos'] e pos) (tAsg te (gName i)) (sSet i fe) := ⟨ps_set hN hi hx he.pe hs hf, sat_set he.sat⟩
theorem v_setLc (i : Nat) {y : Str} {py : Pos} {elt tg iter : Expr} {ifs : List Expr} {scope : Scope} (own : List (Str × Nat)) {spos : Pos} {wi : TI} {fi : IF} {g : TG} {ws : List Nat} {gf : GF} (hN : X.N.Nodup)
    (hsw : swapsWith (.ListComp elt [⟨tg, iter, ifs, 0⟩] scope pos) (some (.Name y py)) spos.line X.env = pure true) (hi : VI X tg iter wi fi) (ok : blkC X.N X.env.scope scope own = true)
    (hg : ∀ (s : Shared) (H : Hp) (C : Addr) (cl : List (Str × Addr)) (fp : List Addr), VG (X.blk s H scope (compEnvC scope cl C X.env) fp) tg g ws gf) (ht : ∀ (s : Shared) (H : Hp) (C : Addr) (cl : List (Str × Addr)) (fp : List Addr), VTs (X.blk s H scope (compEnvC scope cl C X.env) fp) ifs tt ba)
    (he : ∀ (s : Shared) (H : Hp) (C : Addr) (cl : List (Str × Addr)) (fp : List Addr), VE (X.blk s H scope (compEnvC scope cl C X.env) fp) elt te fe) (hy : X.N[i]? = some y := by rfl) (hyl : X.env.scope.names.lookup y = some .local := by rfl) (hsub : ∀ i ∈ ws, i ∈ own.map (·.2) := by decide) (hc : X.calm = true := by rfl) (hs : ∀ x, foldedSetIterable iter X.env x = pure x := by intro _; rfl) :
    VS X (.Assign [.Name y py] (.ListComp elt [⟨tg, iter, ifs, 0⟩] scope pos) spos) (tAsg (tLc wi g tt te (own.map (·.2))) (gName i)) (sSet i (vLc fi gf ba (vTake fe) (own.map (·.2)))) :=
  ⟨ps_setLc hc hN hy hyl hsw hi.pe (blkOk_by ok) (fun s H C cl fp => (hg s H C cl fp).pe) (fun s H C cl fp => (ht s H C cl fp).pe) (fun s H C cl fp => (he s H C cl fp).pe) hs,
   sat_set (sat_lc hi.sat (hg {} (fun _ => none) 0 [] []).sat hsub (ht {} (fun _ => none) 0 [] []).sat (sat_take (he {} (fun _ => none) 0 [] []).sat))⟩
theorem v_asg {tg : Expr} {g : TG} {vs : List Nat} {gf : GF} (he : VE X e te fe) (hg : VG X tg g vs gf) (hs : swapsWithSole [tg] e pos.line X.env = pure false := by rfl) (hw : swappedStores [tg] e X.env = pure none := by rfl)
    (h1 : (assignEach [tg] X.env).map (·.2) = [assign tg X.env] := by rfl) : VS X (.Assign [tg] e pos) (tAsg te g) (sAsg (vTake fe) gf) := ⟨ps_asg he.pe hg.pe hs hw h1, sat_asg (sat_take he.sat) hg.sat⟩
theorem v_par (i j : Nat) {x y : Str} {px py pt : Pos} {kt k2 pt2} (hN : X.N.Nodup) (ha : VDs X [a, b] t fds) (hw : swappedStores [.Tuple [.Name x px, .Name y py] kt pt] (.Tuple [a, b] k2 pt2) X.env = pure (some [x, y]) := by rfl) (hi : X.N[i]? = some x := by rfl) (hj : X.N[j]? = some y := by rfl) (hij : i ≠ j := by decide)
    (hx : X.env.scope.names.lookup x = some .local := by rfl) (hy : X.env.scope.names.lookup y = some .local := by rfl) (hc : X.calm = true := by rfl)
    (hs : swapsWithSole [.Tuple [.Name x px, .Name y py] kt pt] (.Tuple [a, b] k2 pt2) pos.line X.env = pure false := by rfl) :
    VS X (.Assign [.Tuple [.Name x px, .Name y py] kt pt] (.Tuple [a, b] k2 pt2) pos) (tPar i j t) (sPar i j fds) := ⟨ps_par hc hN hi hj hij hx hy ha.pe hw hs, sat_par ha.sat⟩
theorem v_expr (h : VE X e te fe) (hs : swapsWith e none pos.line X.env = pure false := by rfl) : VS X (.Expr e pos) (tDrop te) (sDrop fe) := ⟨ps_expr h.pe hs, sat_drop h.sat⟩
theorem v_ret (h : VE X e te fe) : VS X (.Return (some e) pos) (tRet te) (sRet fe) := ⟨ps_ret h.pe, sat_retS h.sat⟩
theorem v_retN : VS X (.Return none pos) tRetN sRetN := ⟨ps_retN, sat_retN⟩
theorem v_ifS (hc : VT X c tt ba) (ha : VSs X sa ts f) (hb : VSs X sb ts2 f2) : VS X (.If c sa sb pos) (tIfS tt ts ts2) (sIf ba f f2) := ⟨ps_if hc.pe ha.pe hb.pe, sat_ifS hc.sat ha.sat hb.sat⟩
theorem v_pass : VS X (.Pass pos) tNext sNil := ⟨ps_pass, sat_nil⟩
theorem v_brk : VS X (.Break pos) tBreak sBrk := ⟨ps_break, sat_brk⟩
theorem v_cont : VS X (.Continue pos) tCont sCont := ⟨ps_continue, sat_cont⟩
def sNever : SF := fun _ => none
theorem v_never : VS X st tNever sNever := ⟨ps_never, fun _ _ _ _ _ _ g => nomatch g⟩
theorem vs_never : VSs X sts tNever sNever := ⟨pss_never, fun _ _ _ _ _ _ g => nomatch g⟩
theorem v_for {tg iter : Expr} {wi : TI} {fi : IF} {g : TG} {vs : List Nat} {gf : GF} (hi : VI X tg iter wi fi) (hg : VG X tg g vs gf) (hb : VSs X sa ts f) (hp : PassesOwn (model X.prog X.w) X.A X.env X.xe := by exact PassesOwn.never) (hc : X.calm = true := by rfl) (hs : ∀ x, foldedSetIterable iter X.env x = pure x := by intro _; rfl) :
    VS X (.For tg iter sa [] pos) (tFor wi g ts) (sFor fi gf f) := ⟨ps_for hp hc hi.pe hg.pe hb.pe hs, sat_for hi.sat hg.sat hb.sat⟩
theorem v_while (n : Nat) (hc : VT X c tt ba) (hb : VSs X sa ts f) (hp : PassesOwn (model X.prog X.w) X.A X.env X.xe := by exact PassesOwn.never) : VS X (.While c sa [] pos) (tWhile tt ts) (sWhile n ba f) := ⟨ps_while hp hc.pe hb.pe, sat_while hc.sat hb.sat⟩
theorem v_setIx (i : Nat) {x : Str} {px p2 : Pos} {ix : Expr} {ti : TE} {fi : EF} (ho : VE X (.Name x px) (tVar i) (vVar i)) (hi : VE X ix ti fi) (hv : VE X e te fe)
    (ha : ∀ v, assign (.Subscript (.Name x px) ix p2) X.env v = (do
      let ov ← holding [v] (eval (.Name x px) X.env)
      let iv ← holding [v, ov] (eval ix X.env)
      standAt p2
      holding [v, ov, iv] (setItem ov iv v)
      release [v, ov, iv] []) := by intro _; rfl) (hs : swapsWithSole [.Subscript (.Name x px) ix p2] e pos.line X.env = pure false := by rfl) (hw : swappedStores [.Subscript (.Name x px) ix p2] e X.env = pure none := by rfl)
    (h1 : (assignEach [.Subscript (.Name x px) ix p2] X.env).map (·.2) = [assign (.Subscript (.Name x px) ix p2) X.env] := by rfl) :
    VS X (.Assign [.Subscript (.Name x px) ix p2] e pos) (tAsg te (gSub (tVar i) ti rSetL)) (sSetIx i (vTake fe) fi) := ⟨ps_asg hv.pe (pg_sub ho.pe hi.pe set_list ha) hs hw h1, sat_setIx (sat_take hv.sat) hi.sat⟩
theorem v_augIx (i : Nat) {op : Operator} {x : Str} {px p2 : Pos} {ix : Expr} {ti : TE} {fi : EF} {tip : TIp} {g : O → O → Option O} (hp : PIp X op tip) (hs : OpSat X.K tip g) (ho : VE X (.Name x px) (tVar i) (vVar i)) (hi : VE X ix ti fi) (hv : VE X e te fe)
    (ha : ∀ ov iv new, augStore ix ov iv new = (do holding [new, ov, iv] (setItem ov iv new); release [new, ov, iv] []; pure .next) := by intros; rfl) :
    VS X (.AugAssign (.Subscript (.Name x px) ix p2) op e pos) (tAugS (tVar i) ti te (rIxL X.K) tip rSetL) (sAugIx i fi g fe) := ⟨ps_augS ho.pe hi.pe pget_list hv.pe hp set_list ha, sat_augIx hs hi.sat hv.sat⟩
theorem v_aug (i : Nat) {op : Operator} {x : Str} {p2 : Pos} {tip : TIp} {g : O → O → Option O} (hp : PIp X op tip) (hs : OpSat X.K tip g) (hN : X.N.Nodup) (hv : VE X e te fe) (hi : X.N[i]? = some x := by rfl) (hx : Loc X.env.scope x := by first | exact Or.inl rfl | exact Or.inr rfl) (hf : X.fn x = true ∨ X.env.scope.names.lookup x = some .local := by first | exact .inl rfl | exact .inr rfl | assumption) :
    VS X (.AugAssign (.Name x p2) op e pos) (tAug i te tip) (sAug i g fe) := ⟨ps_aug hN hi hx hv.pe hp hf, sat_aug hs hv.sat⟩
end
theorem VSs.ex {X : Cx} {sts : List Stmt} {t : TS} {f : SF} (h : VSs X sts t f) : ∃ t, PSs X sts t ∧ SatS X.K t f := ⟨t, h.pe, h.sat⟩
/-- a def that is never asked -/
theorem fn_none {P : Program} {w : World} {K : PySem.W.Frag} {mg : Str → Option Value} {base : Heap} {k : Nat} {f : Addr} {fd : FuncData} {ps : List Str} {F : FF} (h : ∀ os, F os = none) : FnOk P w K mg base CX0 k f fd ps (spV K F) := by
  have no : ∀ vs H Q E, ¬ spV K F vs H Q E := fun vs H Q E ⟨Hs, os, r, fin, _, _, _, hF, _⟩ => by rw [h] at hF; cases hF
  exact ⟨fun vs H Q E h => absurd h (no vs H Q E), fun A outer s H args us vs Q E _ _ _ _ h => absurd h (no vs H Q E)⟩
/-! the rules, the fragment told -/
section
variable {X : Cx} {K : PySem.W.Frag}
theorem op_eqK (e : X.K = K) (hu : X.A.units + 64 < cLine) : OpR X (compareOp .Eq) (rEqA K) := e ▸ op_eqA hu
theorem op_neK (e : X.K = K) (hu : X.A.units + 64 < cLine) : OpR X (compareOp .NotEq) (rNeA K) := e ▸ op_neA hu
theorem op_inK (e : X.K = K) : OpR X (compareOp .In) (rIn K false) := e ▸ op_in_seq
theorem op_notInK (e : X.K = K) : OpR X (compareOp .NotIn) (rIn K true) := e ▸ op_notIn_seq
theorem call_lenK2 (e : X.K = K) : CallR X (.builtin "len") (rLenA K) := e ▸ call_lenA
theorem call_maxK (e : X.K = K) (hc : X.calm = true) : CallR X (.builtin "max") (rMaxA K) := e ▸ call_maxA hc
theorem call_minK (e : X.K = K) (hc : X.calm = true) : CallR X (.builtin "min") (rMinA K) := e ▸ call_minA hc
theorem call_sumK (e : X.K = K) (hc : X.calm = true) : CallR X (.builtin "sum") (rSum K) := e ▸ cr_sum hc
theorem call_allK (e : X.K = K) (hc : X.calm = true) : CallR X (.builtin "all") (rAll K) := e ▸ cr_all hc
theorem call_anyK (e : X.K = K) (hc : X.calm = true) : CallR X (.builtin "any") (rAny K) := e ▸ cr_any hc
theorem call_isiK2 (e : X.K = K) : CallR X (.builtin "isinstance") (rIsi K) := e ▸ call_isi
theorem call_listK (e : X.K = K) : CallR X (.type "list") (rListQ K) := e ▸ call_list_of
end
end PV

set_option maxRecDepth 100000
set_option maxHeartbeats 2000000
namespace PV
open PySem L2
/-! ### running: from what a piece asks to what comes out -/
def XE (f : EF) (env : Sto) (Q : Hnd → Sto → Prop) : Prop := ∃ h e, f env = some (h, e) ∧ Q h e
def XD (f : DF) (env : Sto) (Q : D → Sto → Prop) : Prop := ∃ h e, f env = some (h, e) ∧ Q h e
def XDs (f : DsF) (env : Sto) (Q : List D → Sto → Prop) : Prop := ∃ h e, f env = some (h, e) ∧ Q h e
def XHs (f : HsF) (env : Sto) (Q : List Hnd → Sto → Prop) : Prop := ∃ h e, f env = some (h, e) ∧ Q h e
def XB (f : BF) (env : Sto) (Q : Bool → Sto → Prop) : Prop := ∃ h e, f env = some (h, e) ∧ Q h e
def XP (f : OF) (env : Sto) (Q : Option Int → Sto → Prop) : Prop := ∃ h e, f env = some (h, e) ∧ Q h e
def XI (f : IF) (env : Sto) (Q : List D → Option (Nat × Slot) → Sto → Prop) : Prop := ∃ ds l e, f env = some ((ds, l), e) ∧ Q ds l e
def XO {α : Type} (o : Option α) (Q : α → Prop) : Prop := ∃ x, o = some x ∧ Q x
def XS (f : SF) (env : Sto) (Q : Out → Prop) : Prop := ∃ o, f env = some o ∧ Q o
section
variable {env : Sto} {fa fb : EF} {i : Nat} {d : D} {o : O} {s : Slot} {α : Type} {v : α}
theorem xo {o : Option α} {Q : α → Prop} (h : o = some v) (q : Q v) : XO o Q := ⟨v, h, q⟩
theorem XO.mono {o : Option α} {Q Q' : α → Prop} (h : XO o Q) (k : ∀ x, Q x → Q' x) : XO o Q' := let ⟨x, e, q⟩ := h; ⟨x, e, k x q⟩
theorem XS.mono {f : SF} {Q Q' : Out → Prop} (h : XS f env Q) (k : ∀ x, Q x → Q' x) : XS f env Q' := let ⟨x, e, q⟩ := h; ⟨x, e, k x q⟩
theorem xe_var {Q : Hnd → Sto → Prop} (h : env[i]? = some (some s)) (q : Q (.var i) env) : XE (vVar i) env Q := ⟨_, _, by unfold vVar; rw [h], q⟩
theorem xe_c {Q : Hnd → Sto → Prop} (q : Q (.tmp (.shr d)) env) : XE (vC d) env Q := ⟨_, _, rfl, q⟩
theorem xe_bin {op : O → O → Option O} {Q : Hnd → Sto → Prop} (h : XE fa env fun a e => XE fb e fun b e' => XO (hGet e' a) fun x => XO (hGet e' b) fun y => XO (op x y) fun z => Q (.tmp z) e') : XE (vBin op fa fb) env Q := by
  obtain ⟨a, e, h1, b, e', h2, x, h3, y, h4, z, h5, q⟩ := h
  exact ⟨_, _, by simp only [vBin, h1, Option.bind_some, h2, h3, h4, h5], q⟩
theorem xe_un {op : O → Option O} {Q : Hnd → Sto → Prop} (h : XE fa env fun a e => XO (hGet e a) fun x => XO (op x) fun z => Q (.tmp z) e) : XE (vUn op fa) env Q := by
  obtain ⟨a, e, h1, x, h3, z, h5, q⟩ := h
  exact ⟨_, _, by simp only [vUn, h1, Option.bind_some, h3, h5], q⟩
theorem xd_take {Q : D → Sto → Prop} (h : XE fa env fun a e => XO (hTake e a) fun p => Q p.1 p.2) : XD (vTake fa) env Q := by
  obtain ⟨a, e, h1, ⟨d, e'⟩, h3, q⟩ := h
  exact ⟨_, _, by simp only [vTake, h1, Option.bind_some, h3], q⟩
theorem xds_nil {Q : List D → Sto → Prop} (q : Q [] env) : XDs vNilD env Q := ⟨_, _, rfl, q⟩
theorem xds_cons {f : DF} {r : DsF} {Q : List D → Sto → Prop} (h : XD f env fun d e => XDs r e fun ds e' => Q (d :: ds) e') : XDs (vConsD f r) env Q := by
  obtain ⟨a, e, h1, ds, e', h2, q⟩ := h
  exact ⟨_, _, by simp only [vConsD, h1, Option.bind_some, h2], q⟩
theorem xhs_nil {Q : List Hnd → Sto → Prop} (q : Q [] env) : XHs vNilH env Q := ⟨_, _, rfl, q⟩
theorem xhs_cons {r : HsF} {Q : List Hnd → Sto → Prop} (h : XE fa env fun d e => XHs r e fun ds e' => Q (d :: ds) e') : XHs (vConsH fa r) env Q := by
  obtain ⟨a, e, h1, ds, e', h2, q⟩ := h
  exact ⟨_, _, by simp only [vConsH, h1, Option.bind_some, h2], q⟩
theorem xe_tup {f : DsF} {Q : Hnd → Sto → Prop} (h : XDs f env fun ds e => ds.length ≤ 100000 ∧ Q (.tmp (.shr (.tup ds))) e) : XE (vTup f) env Q := by
  obtain ⟨ds, e, h1, h2, q⟩ := h
  exact ⟨_, _, by simp only [vTup, h1, Option.bind_some, if_pos h2], q⟩
theorem xe_lst {f : DsF} {Q : Hnd → Sto → Prop} (h : XDs f env fun ds e => ds.length ≤ 100000 ∧ Q (.tmp (.ol ds)) e) : XE (vLst f) env Q := by
  obtain ⟨ds, e, h1, h2, q⟩ := h
  exact ⟨_, _, by simp only [vLst, h1, Option.bind_some, if_pos h2], q⟩
theorem xe_if {c : BF} {Q : Hnd → Sto → Prop} (h : XB c env fun b e => (b = true → XE fa e Q) ∧ (b = false → XE fb e Q)) : XE (vIf c fa fb) env Q := by
  obtain ⟨b, e, h1, h2, h3⟩ := h
  cases b with
  | true =>
    obtain ⟨h, e', h4, q⟩ := h2 rfl
    exact ⟨h, e', by simp only [vIf, h1, Option.bind_some, if_true]; exact h4, q⟩
  | false =>
    obtain ⟨h, e', h4, q⟩ := h3 rfl
    exact ⟨h, e', by simp only [vIf, h1, Option.bind_some, Bool.false_eq_true, if_false]; exact h4, q⟩
theorem xb_and {a b : BF} {Q : Bool → Sto → Prop} (h : XB a env fun x e => (x = true → XB b e Q) ∧ (x = false → Q false e)) : XB (bAnd a b) env Q := by
  obtain ⟨x, e, h1, h2, h3⟩ := h
  cases x with
  | true =>
    obtain ⟨h, e', h4, q⟩ := h2 rfl
    exact ⟨h, e', by simp only [bAnd, h1, Option.bind_some, if_true]; exact h4, q⟩
  | false => exact ⟨false, e, by simp only [bAnd, h1, Option.bind_some, Bool.false_eq_true, if_false], h3 rfl⟩
theorem xb_or {a b : BF} {Q : Bool → Sto → Prop} (h : XB a env fun x e => (x = true → Q true e) ∧ (x = false → XB b e Q)) : XB (bOr a b) env Q := by
  obtain ⟨x, e, h1, h2, h3⟩ := h
  cases x with
  | false =>
    obtain ⟨h, e', h4, q⟩ := h3 rfl
    exact ⟨h, e', by simp only [bOr, h1, Option.bind_some, Bool.false_eq_true, if_false]; exact h4, q⟩
  | true => exact ⟨true, e, by simp only [bOr, h1, Option.bind_some, if_true], h2 rfl⟩
theorem xb_not {a : BF} {Q : Bool → Sto → Prop} (h : XB a env fun x e => Q (!x) e) : XB (bNot a) env Q := by
  obtain ⟨x, e, h1, q⟩ := h
  exact ⟨_, _, by simp only [bNot, h1, Option.bind_some], q⟩
theorem xb_val {Q : Bool → Sto → Prop} (h : XE fa env fun a e => XO (hGet e a) fun x => XO (asB x) fun b => Q b e) : XB (bVal fa) env Q := by
  obtain ⟨a, e, h1, x, h3, z, h5, q⟩ := h
  exact ⟨_, _, by simp only [bVal, h1, Option.bind_some, h3, h5], q⟩
theorem xb_tru {Q : Bool → Sto → Prop} (h : XE fa env fun a e => XO (hGet e a) fun x => XO (truO x) fun b => Q b e) : XB (bTru fa) env Q := by
  obtain ⟨a, e, h1, x, h3, z, h5, q⟩ := h
  exact ⟨_, _, by simp only [bTru, h1, Option.bind_some, h3, h5], q⟩
theorem xb_yes {Q : Bool → Sto → Prop} (q : Q true env) : XB bYes env Q := ⟨_, _, rfl, q⟩
theorem xe_B {b : BF} {Q : Hnd → Sto → Prop} (h : XB b env fun x e => Q (.tmp (.shr (.bl x))) e) : XE (vB b) env Q := by
  obtain ⟨x, e, h1, q⟩ := h
  exact ⟨_, _, by simp only [vB, h1, Option.bind_some], q⟩
theorem xe_callB {op : List O → Option O} {f : HsF} {Q : Hnd → Sto → Prop} (h : XHs f env fun hs e => XO (hGets e hs) fun os => XO (op os) fun z => Q (.tmp z) e) : XE (vCallB op f) env Q := by
  obtain ⟨a, e, h1, x, h3, z, h5, q⟩ := h
  exact ⟨_, _, by simp only [vCallB, h1, Option.bind_some, h3, h5], q⟩
theorem xe_call {F : FF} {f : HsF} {Q : Hnd → Sto → Prop} (h : XHs f env fun hs e => XO (hGets e hs) fun os => lendOk e hs os = true ∧ XO (F os) fun p => p.2.length = os.length ∧ XO (resH hs os p.2 p.1) fun r => Q r (wb e hs os p.2)) : XE (vCall F f) env Q := by
  obtain ⟨hs, e, h1, os, h3, h4, p, h5, h6, r, h7, q⟩ := h
  exact ⟨_, _, by simp only [vCall, h1, Option.bind_some, h3, h4, h5, h6, h7, if_true], q⟩
theorem xp_no {Q : Option Int → Sto → Prop} (q : Q none env) : XP vNoP env Q := ⟨_, _, rfl, q⟩
theorem xp_some {Q : Option Int → Sto → Prop} (h : XE fa env fun a e => XO (hGet e a) fun x => XO (asI x) fun b => Q (some b) e) : XP (vP fa) env Q := by
  obtain ⟨a, e, h1, x, h3, z, h5, q⟩ := h
  exact ⟨_, _, by simp only [vP, h1, Option.bind_some, h3, h5], q⟩
theorem xe_sl {l u : OF} {Q : Hnd → Sto → Prop} (h : XE fa env fun a e => XP l e fun lo e1 => XP u e1 fun hi e2 => XO (hGet e2 a) fun x => XO (oSl x lo hi) fun z => Q (.tmp z) e2) : XE (vSl fa l u) env Q := by
  obtain ⟨a, e, h1, lo, e1, h2, hi, e2, h3, x, h4, z, h5, q⟩ := h
  exact ⟨_, _, by simp only [vSl, h1, Option.bind_some, h2, h3, h4, h5], q⟩
theorem xe_mt {T : String} {m : List D → O → Option (D × O)} {f : DsF} {Q : Hnd → Sto → Prop} (hk : kindS env i = T) (h : XDs f env fun ds e => XO (mutS e i (m ds)) fun p => Q (.tmp (.shr p.1)) p.2) : XE (vMt i T m f) env Q := by
  obtain ⟨ds, e, h1, p, h2, q⟩ := h
  exact ⟨_, _, by simp only [vMt, if_pos hk, h1, Option.bind_some, h2], q⟩
/-! statements -/
theorem xs_nil {Q : Out → Prop} (q : Q (.nx env)) : XS sNil env Q := ⟨_, rfl, q⟩
theorem xs_seq {f g : SF} {Q : Out → Prop} (h : XS f env fun o => match o with
    | .nx e => XS g e Q
    | o => Q o) : XS (sSeq f g) env Q := by
  obtain ⟨o, h1, q⟩ := h
  cases o with
  | nx e =>
    obtain ⟨o', h2, q⟩ := q
    exact ⟨o', by simp only [sSeq, h1, Option.bind_some]; exact h2, q⟩
  | rt r e => exact ⟨_, by simp only [sSeq, h1, Option.bind_some], q⟩
  | bk e => exact ⟨_, by simp only [sSeq, h1, Option.bind_some], q⟩
  | ct e => exact ⟨_, by simp only [sSeq, h1, Option.bind_some], q⟩
theorem xs_set {Q : Out → Prop} (h : XE fa env fun a e => XO (bindH i a e) fun e' => Q (.nx e')) : XS (sSet i fa) env Q := by
  obtain ⟨a, e, h1, e', h2, q⟩ := h
  exact ⟨_, by simp only [sSet, h1, Option.bind_some, h2], q⟩
theorem xs_asg {f : DF} {g : GF} {Q : Out → Prop} (h : XD f env fun d e => XO (g d e) fun e' => Q (.nx e')) : XS (sAsg f g) env Q := by
  obtain ⟨a, e, h1, e', h2, q⟩ := h
  exact ⟨_, by simp only [sAsg, h1, Option.bind_some, h2], q⟩
theorem xs_par {j : Nat} {f : DsF} {Q : Out → Prop} (h : XDs f env fun ds e => match ds with
    | [a, b] => XO (setS e i (.shr a)) fun e1 => XO (setS e1 j (.shr b)) fun e2 => Q (.nx e2)
    | _ => False) : XS (sPar i j f) env Q := by
  obtain ⟨ds, e, h1, q⟩ := h
  match ds, q with
  | [a, b], q =>
    obtain ⟨e1, h2, e2, h3, q⟩ := q
    exact ⟨_, by simp only [sPar, h1, Option.bind_some, h2, h3], q⟩
theorem xs_drop {Q : Out → Prop} (h : XE fa env fun a e => Q (.nx e)) : XS (sDrop fa) env Q := by
  obtain ⟨a, e, h1, q⟩ := h
  exact ⟨_, by simp only [sDrop, h1, Option.bind_some], q⟩
theorem xs_ret {Q : Out → Prop} (h : XE fa env fun a e => XO (retH a e) Q) : XS (sRet fa) env Q := by
  obtain ⟨a, e, h1, x, h2, q⟩ := h
  exact ⟨_, by simp only [sRet, h1, Option.bind_some, h2], q⟩
theorem xs_retN {Q : Out → Prop} (q : Q (.rt (.o (.shr .non)) env)) : XS sRetN env Q := ⟨_, rfl, q⟩
theorem xs_if {c : BF} {f g : SF} {Q : Out → Prop} (h : XB c env fun b e => (b = true → XS f e Q) ∧ (b = false → XS g e Q)) : XS (sIf c f g) env Q := by
  obtain ⟨b, e, h1, h2, h3⟩ := h
  cases b with
  | true =>
    obtain ⟨o, h4, q⟩ := h2 rfl
    exact ⟨o, by simp only [sIf, h1, Option.bind_some, if_true]; exact h4, q⟩
  | false =>
    obtain ⟨o, h4, q⟩ := h3 rfl
    exact ⟨o, by simp only [sIf, h1, Option.bind_some, Bool.false_eq_true, if_false]; exact h4, q⟩
theorem xs_brk {Q : Out → Prop} (q : Q (.bk env)) : XS sBrk env Q := ⟨_, rfl, q⟩
theorem xs_cont {Q : Out → Prop} (q : Q (.ct env)) : XS sCont env Q := ⟨_, rfl, q⟩
theorem xs_setIx {fv : DF} {fi : EF} {Q : Out → Prop} (h : XD fv env fun d e => kindS e i = "list" ∧ XE fi e fun a e1 => XO (hGet e1 a) fun x => XO (asI x) fun k => XO (mutS e1 i (setL k d)) fun w => Q (.nx w.2)) : XS (sSetIx i fv fi) env Q := by
  obtain ⟨d, e, h1, hk, a, e1, h2, x, h3, k, h4, w, h5, q⟩ := h
  exact ⟨_, by simp only [sSetIx, h1, Option.bind_some, if_pos hk, h2, h3, h4, h5], q⟩
theorem xs_augIx {fi fe : EF} {op : O → O → Option O} {Q : Out → Prop} (hk : kindS env i = "list") (h : XE fi env fun a e => XO (hGet e a) fun x => XO (asI x) fun k => XO (hGet e (.var i)) fun ol => XO (asL ol) fun ds => XO (atI ds k) fun d =>
    XE fe e fun b e1 => XO (hGet e1 b) fun y => XO (op (.shr d) y) fun z => ∃ dz, z = .shr dz ∧ XO (mutS e1 i (setL k dz)) fun w => Q (.nx w.2)) : XS (sAugIx i fi op fe) env Q := by
  obtain ⟨a, e, h1, x, h2, k, h3, ol, h4, ds, h5, d, h6, b, e1, h7, y, h8, z, h9, dz, rfl, w, h10, q⟩ := h
  exact ⟨_, by simp only [sAugIx, h1, Option.bind_some, if_pos hk, h2, h3, h4, h5, h6, h7, h8, h9, h10], q⟩
theorem xs_aug {fe : EF} {op : O → O → Option O} {Q : Out → Prop} (h : XO (hGet env (.var i)) fun x => ∃ d, x = .shr d ∧ XE fe env fun b e1 => XO (hGet e1 b) fun y => XO (op (.shr d) y) fun z => XO (bindH i (.tmp z) e1) fun e2 => Q (.nx e2)) : XS (sAug i op fe) env Q := by
  obtain ⟨x, h1, d, rfl, b, e1, h2, y, h3, z, h4, e2, h5, q⟩ := h
  exact ⟨_, by simp only [sAug, h1, Option.bind_some, h2, h3, h4, h5], q⟩
/-! loops -/
def XL (g : GF) (b : SF) (ds : List D) (env : Sto) (Q : Out → Prop) : Prop := ∃ o, loopF g b ds env = some o ∧ Q o
theorem xs_for {fi : IF} {g : GF} {b : SF} {Q : Out → Prop} (h : XI fi env fun ds l e => XL g b ds (lockS e l) fun o => Q (unlockO l o)) : XS (sFor fi g b) env Q := by
  obtain ⟨ds, l, e, h1, o, h2, q⟩ := h
  exact ⟨_, by simp only [sFor, h1, Option.bind_some, h2], q⟩
theorem xl_nil {g : GF} {b : SF} {Q : Out → Prop} (q : Q (.nx env)) : XL g b [] env Q := ⟨_, rfl, q⟩
theorem xl_cons {g : GF} {b : SF} {ds : List D} {Q : Out → Prop} (h : XO (g d env) fun e => XS b e fun o => match o with
    | .nx e' => XL g b ds e' Q
    | .ct e' => XL g b ds e' Q
    | .bk e' => Q (.nx e')
    | .rt x e' => Q (.rt x e')) : XL g b (d :: ds) env Q := by
  obtain ⟨e, h1, o, h2, q⟩ := h
  cases o with
  | nx e' => obtain ⟨o', h3, q⟩ := q; exact ⟨o', by simp only [loopF, h1, Option.bind_some, h2]; exact h3, q⟩
  | ct e' => obtain ⟨o', h3, q⟩ := q; exact ⟨o', by simp only [loopF, h1, Option.bind_some, h2]; exact h3, q⟩
  | bk e' => exact ⟨_, by simp only [loopF, h1, Option.bind_some, h2], q⟩
  | rt x e' => exact ⟨_, by simp only [loopF, h1, Option.bind_some, h2], q⟩
/-- by what holds ahead of each turn, of what is left -/
theorem xl_inv {g : GF} {b : SF} {Q : Out → Prop} (I : List D → Sto → Prop) (hd : ∀ e, I [] e → Q (.nx e)) (hs : ∀ d r e, I (d :: r) e → XO (g d e) fun e1 => XS b e1 fun o => match o with
    | .nx e' => I r e'
    | .ct e' => I r e'
    | .bk e' => Q (.nx e')
    | .rt x e' => Q (.rt x e')) : ∀ (ds : List D) (env : Sto), I ds env → XL g b ds env Q
  | [], e, h => xl_nil (hd e h)
  | d :: r, e, h => by
    refine xl_cons ((hs d r e h).mono fun e1 h1 => h1.mono fun o h2 => ?_)
    cases o with
    | nx e' => exact xl_inv I hd hs r e' h2
    | ct e' => exact xl_inv I hd hs r e' h2
    | bk e' => exact h2
    | rt x e' => exact h2
theorem xi_r1 {f : HsF} {Q : List D → Option (Nat × Slot) → Sto → Prop} (h : XHs f env fun hs e => XO (hGets e hs) fun os => ∃ j, os = [.shr (.int j)] ∧ inR j = true ∧ Q ((List.range j.toNat).map fun (k : Nat) => D.int (k : Int)) none e) : XI (iR1 f) env Q := by
  obtain ⟨hs, e, h1, os, h2, j, rfl, h3, q⟩ := h
  exact ⟨_, _, _, by simp only [iR1, h1, Option.bind_some, h2, asI, h3, if_true], q⟩
theorem xi_r2 {f : HsF} {Q : List D → Option (Nat × Slot) → Sto → Prop} (h : XHs f env fun hs e => XO (hGets e hs) fun os => ∃ i j, os = [.shr (.int i), .shr (.int j)] ∧ inR i = true ∧ inR j = true ∧ Q ((List.range (j - i).toNat).map fun (k : Nat) => D.int (i + (k : Int))) none e) : XI (iR2 f) env Q := by
  obtain ⟨hs, e, h1, os, h2, i, j, rfl, h3, h4, q⟩ := h
  exact ⟨_, _, _, by simp only [iR2, h1, Option.bind_some, h2, asI, h3, h4, Bool.and_true, if_true], q⟩
theorem xi_seq {Q : List D → Option (Nat × Slot) → Sto → Prop} (h : XE fa env fun a e => XO (hGet e a) fun x => XO ((asLQ x).or (asT x)) fun ds => Q ds (lkOf e a) e) : XI (iSeq fa) env Q := by
  obtain ⟨a, e, h1, x, h2, ds, h3, q⟩ := h
  exact ⟨_, _, _, by simp only [iSeq, h1, Option.bind_some, h2, h3], q⟩
/-! comprehensions -/
def XC (g : GF) (c : BF) (f : DF) (vs : List Nat) (ds acc : List D) (env : Sto) (Q : List D → Sto → Prop) : Prop := ∃ a e, loopC g c f vs ds acc env = some (a, e) ∧ Q a e
theorem xe_lc {fi : IF} {g : GF} {c : BF} {f : DF} {vs : List Nat} {Q : Hnd → Sto → Prop} (h : XI fi env fun ds l e => XC g c f vs ds [] (wipeE (lockS e l) vs) fun acc e2 => Q (.tmp (.ol acc)) (unlockS (restE e2 (lockS e l) vs) l)) : XE (vLc fi g c f vs) env Q := by
  obtain ⟨ds, l, e, h1, acc, e2, h2, q⟩ := h
  exact ⟨_, _, by simp only [vLc, h1, Option.bind_some, h2], q⟩
theorem xc_nil {g : GF} {c : BF} {f : DF} {vs : List Nat} {acc : List D} {Q : List D → Sto → Prop} (q : Q acc env) : XC g c f vs [] acc env Q := ⟨_, _, rfl, q⟩
theorem xc_cons {g : GF} {c : BF} {f : DF} {vs : List Nat} {ds acc : List D} {Q : List D → Sto → Prop} (h : XO (g d env) fun e1 => XB c e1 fun b e2 => (b = true → XD f e2 fun y e3 => acc.length < 1000000 ∧ XC g c f vs ds (acc ++ [y]) (wipeE e3 vs) Q) ∧ (b = false → XC g c f vs ds acc (wipeE e2 vs) Q)) : XC g c f vs (d :: ds) acc env Q := by
  obtain ⟨e1, h1, b, e2, h2, h3, h4⟩ := h
  cases b with
  | true =>
    obtain ⟨y, e3, h5, h6, a, e, h7, q⟩ := h3 rfl
    exact ⟨a, e, by simp only [loopC, h1, Option.bind_some, h2, if_true, h5, if_pos h6]; exact h7, q⟩
  | false =>
    obtain ⟨a, e, h7, q⟩ := h4 rfl
    exact ⟨a, e, by simp only [loopC, h1, Option.bind_some, h2, Bool.false_eq_true, if_false]; exact h7, q⟩
theorem xc_inv {g : GF} {c : BF} {f : DF} {vs : List Nat} {Q : List D → Sto → Prop} (I : List D → List D → Sto → Prop) (hd : ∀ acc e, I [] acc e → Q acc e)
    (hs : ∀ d r acc e, I (d :: r) acc e → XO (g d e) fun e1 => XB c e1 fun b e2 => (b = true → XD f e2 fun y e3 => acc.length < 1000000 ∧ I r (acc ++ [y]) (wipeE e3 vs)) ∧ (b = false → I r acc (wipeE e2 vs))) : ∀ (ds acc : List D) (env : Sto), I ds acc env → XC g c f vs ds acc env Q
  | [], acc, e, h => xc_nil (hd acc e h)
  | d :: r, acc, e, h => by
    refine xc_cons ((hs d r acc e h).mono fun e1 h1 => ?_)
    obtain ⟨b, e2, h2, h3, h4⟩ := h1
    refine ⟨b, e2, h2, fun hb => ?_, fun hb => xc_inv I hd hs r acc _ (h4 hb)⟩
    obtain ⟨y, e3, h5, h6, h7⟩ := h3 hb
    exact ⟨y, e3, h5, h6, xc_inv I hd hs r _ _ h7⟩
/-! a def -/
theorem xf {n m : Nat} {f : SF} {os : List O} {Q : Rs × List O → Prop} (hl : os.length = m) (h : XS f (initE n os) fun o => match o with
    | .rt r e => Q (r, (e.take m).map contO)
    | .nx e => Q (.o (.shr .non), (e.take m).map contO)
    | _ => False) : XO (defF n m f os) Q := by
  obtain ⟨o, h1, q⟩ := h
  cases o with
  | rt r e => exact ⟨_, by simp only [defF, if_pos hl, h1], q⟩
  | nx e => exact ⟨_, by simp only [defF, if_pos hl, h1], q⟩
  | bk e => exact q.elim
  | ct e => exact q.elim
/-! operations on values -/
variable {Q : O → Prop} {a b : Int} {x y : Str}
theorem xo_addI (q : Q (.shr (.int (a + b)))) : XO (oAdd (.shr (.int a)) (.shr (.int b))) Q := ⟨_, rfl, q⟩
theorem xo_addI' (q : Q (.shr (.int (a + b)))) : XO (oAddI (.shr (.int a)) (.shr (.int b))) Q := ⟨_, rfl, q⟩
theorem xo_addS (h : x.length + y.length ≤ 1000000) (q : Q (.shr (.str (x ++ y)))) : XO (oAdd (.shr (.str x)) (.shr (.str y))) Q := ⟨_, by simp only [oAdd, oAddI, oI2, asI, oAddS, asS, Option.bind_some, Option.bind_none, Option.none_or, if_pos h, Option.some_or], q⟩
theorem xo_addL {ds es : List D} (h : ds.length + es.length ≤ 1000000) (q : Q (.ol (ds ++ es))) : XO (oAdd (.ol ds) (.ol es)) Q := ⟨_, by simp only [oAdd, oAddI, oI2, asI, oAddS, asS, oAddL, asL, Option.bind_some, Option.bind_none, Option.none_or, if_pos h, Option.some_or], q⟩
theorem xo_addT {ds es : List D} (h : ds ≠ [] ∧ es ≠ [] ∧ ds.length + es.length ≤ 1000000) (q : Q (.shr (.tup (ds ++ es)))) : XO (oAdd (.shr (.tup ds)) (.shr (.tup es))) Q := ⟨_, by simp only [oAdd, oAddI, oI2, asI, oAddS, asS, oAddL, asL, oAddT, asT, Option.bind_some, Option.bind_none, Option.none_or, if_pos h, Option.some_or], q⟩
theorem xo_sub (q : Q (.shr (.int (a - b)))) : XO (oSub (.shr (.int a)) (.shr (.int b))) Q := ⟨_, rfl, q⟩
theorem xo_mul (h : CMulG a b) (q : Q (.shr (.int (a * b)))) : XO (oMul (.shr (.int a)) (.shr (.int b))) Q := ⟨_, by simp only [oMul, oI2, asI, Option.bind_some, if_pos h, Option.map_some], q⟩
theorem xo_div (h : CDivG a b) (q : Q (.shr (.int (a.fdiv b)))) : XO (oDiv (.shr (.int a)) (.shr (.int b))) Q := ⟨_, by simp only [oDiv, oI2, asI, Option.bind_some, if_pos h, Option.map_some], q⟩
theorem xo_mod (h : b ≠ 0) (q : Q (.shr (.int (a.fmod b)))) : XO (oMod (.shr (.int a)) (.shr (.int b))) Q := ⟨_, by simp only [oMod, oI2, asI, Option.bind_some, if_pos h, Option.map_some], q⟩
theorem xo_pow (h : CPow a b) (q : Q (.shr (.int (a ^ b.toNat)))) : XO (oPow (.shr (.int a)) (.shr (.int b))) Q := ⟨_, by simp only [oPow, oI2, asI, Option.bind_some, if_pos h, Option.map_some], q⟩
theorem xo_lt (q : Q (.shr (.bl (decide (a < b))))) : XO (oLt (.shr (.int a)) (.shr (.int b))) Q := ⟨_, rfl, q⟩
theorem xo_le (q : Q (.shr (.bl (decide (a ≤ b))))) : XO (oLe (.shr (.int a)) (.shr (.int b))) Q := ⟨_, rfl, q⟩
theorem xo_gt (q : Q (.shr (.bl (decide (b < a))))) : XO (oGt (.shr (.int a)) (.shr (.int b))) Q := ⟨_, rfl, q⟩
theorem xo_ge (q : Q (.shr (.bl (decide (b ≤ a))))) : XO (oGe (.shr (.int a)) (.shr (.int b))) Q := ⟨_, rfl, q⟩
theorem xo_neg (q : Q (.shr (.int (-a)))) : XO (oNeg (.shr (.int a))) Q := ⟨_, rfl, q⟩
theorem eqO_int : eqO (.shr (.int a)) (.shr (.int b)) = some (decide (a = b)) := by
  have e : decide (V.int a = V.int b) = decide (a = b) := by
    by_cases h : a = b
    · rw [h]; simp
    · rw [decide_eq_false h, decide_eq_false fun z => h (V.int.inj z)]
  simp only [eqO, asF, flat?, Option.bind_some, eqS, scal, if_true, e, Option.some_or]
theorem eqO_str : eqO (.shr (.str x)) (.shr (.str y)) = some (decide (x = y)) := by
  have e : decide (V.str x = V.str y) = decide (x = y) := by
    by_cases h : x = y
    · rw [h]; simp
    · rw [decide_eq_false h, decide_eq_false fun z => h (V.str.inj z)]
  simp only [eqO, asF, flat?, Option.bind_some, eqS, scal, if_true, e, Option.some_or]
theorem xo_eq {ox oy : O} {c : Bool} (h : eqO ox oy = some c) (q : Q (.shr (.bl c))) : XO (oEq ox oy) Q := ⟨_, by rw [oEq, h]; rfl, q⟩
theorem xo_ne {ox oy : O} {c : Bool} (h : eqO ox oy = some c) (q : Q (.shr (.bl (!c)))) : XO (oNe ox oy) Q := ⟨_, by rw [oNe, h]; rfl, q⟩
theorem xo_ix {ox : O} {ds : List D} {e : D} (h1 : asQ ox = some ds) (h2 : atI ds a = some e) (q : Q (.shr e)) : XO (oIx ox (.shr (.int a))) Q := ⟨_, by simp only [oIx, asI, Option.bind_some, h1, h2, Option.map_some, Option.some_or], q⟩
theorem xo_ixS {c : Nat} (hl : x.length ≤ 1000000) (h2 : atI x.cps.toList a = some c) (q : Q (.shr (.str ⟨#[c]⟩))) : XO (oIx (.shr (.str x)) (.shr (.int a))) Q := ⟨_, by simp only [oIx, asI, Option.bind_some, asQ, asS, Option.bind_none, Option.none_or, if_pos hl, h2, Option.map_some], q⟩
theorem xo_len {ox : O} {ds : List D} (h1 : asQ ox = some ds) (q : Q (.shr (.int ds.length))) : XO (oLen [ox]) Q := ⟨_, by simp only [oLen, one1, h1, Option.map_some, Option.some_or], q⟩
theorem xo_lenS (hl : x.length ≤ 1000000) (q : Q (.shr (.int x.length))) : XO (oLen [.shr (.str x)]) Q := ⟨_, by simp only [oLen, one1, asQ, asS, Option.bind_some, Option.map_none, Option.none_or, if_pos hl, Option.some_or], q⟩
theorem xo_intI (q : Q (.shr (.int a))) : XO (oInt [.shr (.int a)]) Q := ⟨_, rfl, q⟩
theorem xo_intB {c : Bool} (q : Q (.shr (.int (if c then 1 else 0)))) : XO (oInt [.shr (.bl c)]) Q := ⟨_, rfl, q⟩
theorem xo_intS (hl : x.length ≤ 640) (h : PySem.intText? x = some a) (q : Q (.shr (.int a))) : XO (oInt [.shr (.str x)]) Q := ⟨_, by simp only [oInt, oInt1, one1, oIntS, asS, Option.bind_some, Option.none_or, if_pos hl, h, Option.map_some], q⟩
theorem xo_str (h : a.natAbs.log2 < 1920) (q : Q (.shr (.str (toString a)))) : XO (oStr [.shr (.int a)]) Q := ⟨_, by simp only [oStr, one1, asI, Option.bind_some, if_pos h], q⟩
theorem xo_abs (q : Q (.shr (.int (if a < 0 then -a else a)))) : XO (oAbs [.shr (.int a)]) Q := ⟨_, rfl, q⟩
theorem xo_max (q : Q (.shr (.int (if b > a then b else a)))) : XO (oMax [.shr (.int a), .shr (.int b)]) Q := ⟨_, rfl, q⟩
theorem xo_min (q : Q (.shr (.int (if b < a then b else a)))) : XO (oMin [.shr (.int a), .shr (.int b)]) Q := ⟨_, rfl, q⟩
theorem xo_list {ox : O} {ds : List D} (h1 : asQ ox = some ds) (q : Q (.ol ds)) : XO (oList [ox]) Q := ⟨_, by simp only [oList, one1, h1, Option.map_some], q⟩
theorem xo_sum {ox : O} {ds : List D} {ns : List Int} (h1 : asLQ ox = some ds) (h2 : asInts ds = some ns) (q : Q (.shr (.int ns.sum))) : XO (oSum [ox]) Q := ⟨_, by simp only [oSum, one1, h1, h2, Option.bind_some, Option.map_some], q⟩
theorem xo_all {ox : O} {ds : List D} {ns : List Bool} (h1 : asLQ ox = some ds) (h2 : asBls ds = some ns) (q : Q (.shr (.bl (ns.all id)))) : XO (oAll [ox]) Q := ⟨_, by simp only [oAll, one1, h1, h2, Option.bind_some, Option.map_some], q⟩
theorem xo_any {ox : O} {ds : List D} {ns : List Bool} (h1 : asLQ ox = some ds) (h2 : asBls ds = some ns) (q : Q (.shr (.bl (ns.any id)))) : XO (oAny [ox]) Q := ⟨_, by simp only [oAny, one1, h1, h2, Option.bind_some, Option.map_some], q⟩
theorem xo_isi {ox : O} {t : Option Ty} {n : String} {c : Ty} (h1 : tyO ox = some t) (hn : n = c.name) (q : Q (.shr (.bl (isTy t c)))) : XO (oIsi [ox, .shr (.opq (.ty n))]) Q := by
  subst hn
  refine ⟨_, ?_, q⟩
  cases c <;> simp only [oIsi, two2, h1, Option.bind_some, Ty.name]
end
end PV

set_option maxRecDepth 100000
set_option maxHeartbeats 2000000
namespace PV
open PySem L2
/-! ### slots, by steps that compute -/
inductive At : Sto → Nat → O → Bool → Bool → Prop
  | z {o : O} {p l : Bool} {e : Sto} : At (some ⟨o, p, l⟩ :: e) 0 o p l
  | s {x : Option Slot} {e : Sto} {i : Nat} {o : O} {p l : Bool} : At e i o p l → At (x :: e) (i + 1) o p l
theorem At.at {e : Sto} {i : Nat} {o : O} {p l : Bool} (h : At e i o p l) : e[i]? = some (some ⟨o, p, l⟩) := by
  induction h with
  | z => rfl
  | s _ ih => exact ih
inductive Slt : Sto → Nat → Option Slot → Prop
  | z {x : Option Slot} {e : Sto} : Slt (x :: e) 0 x
  | s {x y : Option Slot} {e : Sto} {i : Nat} : Slt e i y → Slt (x :: e) (i + 1) y
theorem Slt.at {e : Sto} {i : Nat} {x : Option Slot} (h : Slt e i x) : e.getD i none = x := by
  induction h with
  | z => rfl
  | s _ ih => exact ih
inductive SetAt : Sto → Nat → Option Slot → Sto → Prop
  | z {x y : Option Slot} {e : Sto} : SetAt (x :: e) 0 y (y :: e)
  | s {x y : Option Slot} {e e' : Sto} {i : Nat} : SetAt e i y e' → SetAt (x :: e) (i + 1) y (x :: e')
theorem SetAt.eq {e e' : Sto} {i : Nat} {x : Option Slot} (h : SetAt e i x e') : e.set i x = e' := by
  induction h with
  | z => rfl
  | s _ ih => exact congrArg _ ih
def Fre' (x : Option Slot) : Prop := x = none ∨ ∃ o, x = some ⟨o, false, false⟩
theorem Fre'.n : Fre' none := .inl rfl
theorem Fre'.s {o : O} : Fre' (some ⟨o, false, false⟩) := .inr ⟨_, rfl⟩
inductive Put : Sto → Nat → O → Sto → Prop
  | n {o : O} {e : Sto} : Put (none :: e) 0 o (some ⟨o, false, false⟩ :: e)
  | z {o o' : O} {e : Sto} : Put (some ⟨o', false, false⟩ :: e) 0 o (some ⟨o, false, false⟩ :: e)
  | f {x : Option Slot} {o : O} {e : Sto} : Fre' x → Put (x :: e) 0 o (some ⟨o, false, false⟩ :: e)
  | s {x : Option Slot} {e e' : Sto} {i : Nat} {o : O} : Put e i o e' → Put (x :: e) (i + 1) o (x :: e')
theorem setS_cons {x : Option Slot} {e : Sto} {i : Nat} {o : O} : setS (x :: e) (i + 1) o = (setS e i o).map (x :: ·) := by
  unfold setS
  rw [List.getElem?_cons_succ]
  cases e[i]? with
  | none => rfl
  | some y =>
    cases y with
    | none => rfl
    | some s => dsimp only; cases s.pin || s.lk <;> rfl
theorem Put.eq {e e' : Sto} {i : Nat} {o : O} (h : Put e i o e') : setS e i o = some e' := by
  induction h with
  | n => rfl
  | z => rfl
  | f h => rcases h with rfl | ⟨o, rfl⟩ <;> rfl
  | s _ ih => rw [setS_cons, ih]; rfl
inductive Chg : Sto → Nat → O → O → Sto → Prop
  | z {o o' : O} {p : Bool} {e : Sto} : Chg (some ⟨o, p, false⟩ :: e) 0 o o' (some ⟨o', p, false⟩ :: e)
  | s {x : Option Slot} {e e' : Sto} {i : Nat} {o o' : O} : Chg e i o o' e' → Chg (x :: e) (i + 1) o o' (x :: e')
theorem Chg.at {e e' : Sto} {i : Nat} {o o' : O} (h : Chg e i o o' e') : ∃ p, e[i]? = some (some ⟨o, p, false⟩) ∧ e' = e.set i (some ⟨o', p, false⟩) := by
  induction h with
  | z => exact ⟨_, rfl, rfl⟩
  | s _ ih => obtain ⟨p, h1, h2⟩ := ih; exact ⟨p, h1, by rw [h2]; rfl⟩
inductive Fin' : Sto → Nat → List O → Prop
  | z {e : Sto} : Fin' e 0 []
  | s {e : Sto} {o : O} {p l : Bool} {m : Nat} {os : List O} : Fin' e m os → Fin' (some ⟨o, p, l⟩ :: e) (m + 1) (o :: os)
theorem Fin'.eq {e : Sto} {m : Nat} {os : List O} (h : Fin' e m os) : (e.take m).map contO = os := by
  induction h with
  | z => rfl
  | s _ ih => rw [List.take_succ_cons, List.map_cons, ih]; rfl
inductive Ini : Nat → List O → Sto → Prop
  | z : Ini 0 [] []
  | n {m : Nat} {e : Sto} : Ini m [] e → Ini (m + 1) [] (none :: e)
  | shr {m : Nat} {d : D} {os : List O} {e : Sto} : Ini m os e → Ini (m + 1) (.shr d :: os) (some ⟨.shr d, false, false⟩ :: e)
  | ol {m : Nat} {d : List D} {os : List O} {e : Sto} : Ini m os e → Ini (m + 1) (.ol d :: os) (some ⟨.ol d, true, false⟩ :: e)
  | od {m : Nat} {d : List (Key × D)} {os : List O} {e : Sto} : Ini m os e → Ini (m + 1) (.od d :: os) (some ⟨.od d, true, false⟩ :: e)
theorem initE_cons {m : Nat} {o : O} {os : List O} : initE (m + 1) (o :: os) = some { o := o, pin := o.own } :: initE m os := by
  unfold initE
  rw [List.length_cons, Nat.add_sub_add_right]; rfl
theorem Ini.eq {m : Nat} {os : List O} {e : Sto} (h : Ini m os e) : initE m os = e := by
  induction h with
  | z => rfl
  | n _ ih => rw [← ih]; rfl
  | shr _ ih => rw [initE_cons, ih]; rfl
  | ol _ ih => rw [initE_cons, ih]; rfl
  | od _ ih => rw [initE_cons, ih]; rfl
inductive Wb : Sto → List Hnd → List O → List O → Sto → Prop
  | nil {e : Sto} : Wb e [] [] [] e
  | tmp {e e' : Sto} {hs : List Hnd} {os fs : List O} {t x f : O} : Wb e hs os fs e' → Wb e (.tmp t :: hs) (x :: os) (f :: fs) e'
  | shr {e e' : Sto} {hs : List Hnd} {os fs : List O} {j : Nat} {d : D} {f : O} : Wb e hs os fs e' → Wb e (.var j :: hs) (.shr d :: os) (f :: fs) e'
  | ol {e e1 e' : Sto} {hs : List Hnd} {os fs : List O} {j : Nat} {x : List D} {f y : O} : Wb e hs os fs e1 → Chg e1 j y f e' → lent j hs os = false → Wb e (.var j :: hs) (.ol x :: os) (f :: fs) e'
  | od {e e1 e' : Sto} {hs : List Hnd} {os fs : List O} {j : Nat} {x : List (Key × D)} {f y : O} : Wb e hs os fs e1 → Chg e1 j y f e' → lent j hs os = false → Wb e (.var j :: hs) (.od x :: os) (f :: fs) e'
theorem Wb.ol' {e e1 e' : Sto} {hs : List Hnd} {os fs : List O} {j : Nat} {x : List D} {f y : O} (l : lent j hs os = false) (h : Wb e hs os fs e1) (c : Chg e1 j y f e') : Wb e (.var j :: hs) (.ol x :: os) (f :: fs) e' := .ol h c l
theorem Wb.od' {e e1 e' : Sto} {hs : List Hnd} {os fs : List O} {j : Nat} {x : List (Key × D)} {f y : O} (l : lent j hs os = false) (h : Wb e hs os fs e1) (c : Chg e1 j y f e') : Wb e (.var j :: hs) (.od x :: os) (f :: fs) e' := .od h c l
theorem fnd_lent {j : Nat} : ∀ {hs : List Hnd} {os fs : List O}, lent j hs os = false → fnd j hs os fs = none
  | [], _, _, _ => by unfold fnd; rfl
  | .tmp t :: hs, [], _, h => by unfold fnd; rfl
  | .var i :: hs, [], _, h => by unfold fnd; rfl
  | .tmp t :: hs, _ :: _, [], h => by unfold fnd; rfl
  | .var i :: hs, _ :: _, [], h => by unfold fnd; rfl
  | .tmp t :: hs, o :: os, f :: fs, h => by
    unfold fnd
    unfold lent at h
    exact fnd_lent h
  | .var i :: hs, o :: os, f :: fs, h => by
    unfold fnd
    unfold lent at h
    rw [Bool.or_eq_false_iff] at h
    have h1 := h.1
    rw [if_neg, fnd_lent h.2]
    rintro ⟨e, w⟩
    rw [decide_eq_true e, w] at h1
    cases h1
theorem wb_own {e e1 e' : Sto} {hs : List Hnd} {os fs : List O} {j : Nat} {x f y : O} (hx : x.own = true) (ih : wb e hs os fs = e1) (c : Chg e1 j y f e') (hl : lent j hs os = false) : wb e (.var j :: hs) (x :: os) (f :: fs) = e' := by
  obtain ⟨p, h1, rfl⟩ := c.at
  subst ih
  apply List.ext_getElem?
  intro i
  rw [wb, List.getElem?_set]
  have hlen : (wb e hs os fs).length = e.length := by rw [wb, List.length_mapIdx]
  by_cases hji : j = i
  · subst hji
    have hlt : j < (wb e hs os fs).length := (List.getElem?_eq_some_iff.mp h1).1
    rw [if_pos rfl, if_pos hlt, List.getElem?_mapIdx]
    rw [wb, List.getElem?_mapIdx] at h1
    cases he : e[j]? with
    | none => rw [he] at h1; cases h1
    | some z =>
      rw [he] at h1
      cases z with
      | none => cases h1
      | some s =>
        simp only [Option.map_some, fnd_lent hl, Option.some.injEq] at h1
        subst h1
        simp only [Option.map_some, fnd, hx, and_self, if_true]
  · rw [if_neg hji, List.getElem?_mapIdx, wb, List.getElem?_mapIdx]
    have : fnd i (.var j :: hs) (x :: os) (f :: fs) = fnd i hs os fs := by
      rw [fnd, if_neg fun z => hji z.1]
    rw [this]
theorem Wb.eq {e e' : Sto} {hs : List Hnd} {os fs : List O} (h : Wb e hs os fs e') : wb e hs os fs = e' := by
  induction h with
  | @nil =>
    rw [wb]
    apply List.ext_getElem?
    intro i
    rw [List.getElem?_mapIdx]
    generalize (_ : Sto)[i]? = y
    cases y with
    | none => rfl
    | some x => cases x <;> rfl
  | tmp _ ih => rw [← ih, wb, wb]; rfl
  | shr _ ih =>
    rw [← ih, wb, wb]
    congr 1
    funext i x
    rw [fnd, if_neg fun z => by cases z.2]
  | ol _ c l ih => exact wb_own rfl ih c l
  | od _ c l ih => exact wb_own rfl ih c l
section
variable {env env' env1 env2 : Sto} {fa fb : EF} {i j : Nat} {d : D} {o x : O} {s : Slot} {p l : Bool} {ds : List D} {kvs : List (Key × D)}
/-! handles -/
theorem xv {Q : Hnd → Sto → Prop} (h : At env i o p l) (q : Q (.var i) env) : XE (vVar i) env Q := xe_var h.at q
theorem xg_v {Q : O → Prop} (h : At env i o p l) (q : Q o) : XO (hGet env (.var i)) Q := ⟨_, by rw [hGet, h.at], q⟩
theorem xg_t {Q : O → Prop} (q : Q o) : XO (hGet env (.tmp o)) Q := ⟨_, rfl, q⟩
def XT (a : Hnd) (e : Sto) (Q : D → Sto → Prop) : Prop := XO (hTake e a) fun p => Q p.1 p.2
theorem xd {Q : D → Sto → Prop} (h : XE fa env fun a e => XT a e Q) : XD (vTake fa) env Q := xd_take h
theorem xt_s {Q : D → Sto → Prop} (q : Q d env) : XT (.tmp (.shr d)) env Q := ⟨_, rfl, q⟩
theorem xt_l {Q : D → Sto → Prop} (q : Q (.lst ds) env) : XT (.tmp (.ol ds)) env Q := ⟨_, rfl, q⟩
theorem xt_k {Q : D → Sto → Prop} (q : Q (.dk kvs) env) : XT (.tmp (.od kvs)) env Q := ⟨_, rfl, q⟩
theorem xt_vs {Q : D → Sto → Prop} (h : At env i (.shr d) p l) (q : Q d env) : XT (.var i) env Q := ⟨(d, env), by rw [hTake, h.at], q⟩
theorem xt_vl {Q : D → Sto → Prop} (h : Chg env i (.ol ds) (.shr (.lst ds)) env') (q : Q (.lst ds) env') : XT (.var i) env Q := by
  obtain ⟨p, h', rfl⟩ := h.at
  exact ⟨(.lst ds, _), by rw [hTake, h']; rfl, q⟩
theorem xt_vk {Q : D → Sto → Prop} (h : Chg env i (.od kvs) (.shr (.dk kvs)) env') (q : Q (.dk kvs) env') : XT (.var i) env Q := by
  obtain ⟨p, h', rfl⟩ := h.at
  exact ⟨(.dk kvs, _), by rw [hTake, h']; rfl, q⟩
/-! storing -/
def XW (i : Nat) (a : Hnd) (e : Sto) (Q : Sto → Prop) : Prop := XO (bindH i a e) Q
theorem xw_t {Q : Sto → Prop} (h : Put env i o env') (q : Q env') : XW i (.tmp o) env Q := ⟨_, h.eq, q⟩
theorem xw_v {Q : Sto → Prop} (h : XT (.var j) env fun d e => XO (setS e i (.shr d)) Q) : XW i (.var j) env Q := by
  obtain ⟨p, h, e, h2, q⟩ := h
  exact ⟨_, by simp only [bindH, h, Option.bind_some, h2], q⟩
theorem xw_s {Q : Sto → Prop} (h : Put env i o env') (q : Q env') : XO (setS env i o) Q := ⟨_, h.eq, q⟩
theorem xs_set' {Q : Out → Prop} (h : XE fa env fun a e => XW i a e fun e' => Q (.nx e')) : XS (sSet i fa) env Q := xs_set h
/-! handed arguments -/
theorem xh_nil {Q : List O → Prop} (q : Q []) : XO (hGets env []) Q := ⟨_, rfl, q⟩
theorem xh_v {hs : List Hnd} {Q : List O → Prop} (h : At env i o p l) (q : XO (hGets env hs) fun os => Q (o :: os)) : XO (hGets env (.var i :: hs)) Q := by
  obtain ⟨os, h2, q⟩ := q
  exact ⟨_, by simp only [hGets, hGet, h.at, Option.bind_some, h2], q⟩
theorem xh_t {hs : List Hnd} {Q : List O → Prop} (q : XO (hGets env hs) fun os => Q (o :: os)) : XO (hGets env (.tmp o :: hs)) Q := by
  obtain ⟨os, h2, q⟩ := q
  exact ⟨_, by simp only [hGets, hGet, Option.bind_some, h2], q⟩
/-! a call -/
def XK (F : FF) (hs : List Hnd) (os : List O) (e : Sto) (Q : Hnd → Sto → Prop) : Prop := XO (F os) fun p => p.2.length = os.length ∧ XO (resH hs os p.2 p.1) fun r => Q r (wb e hs os p.2)
theorem xe_call' {F : FF} {f : HsF} {Q : Hnd → Sto → Prop} (h : XHs f env fun hs e => XO (hGets e hs) fun os => lendOk e hs os = true ∧ XK F hs os e Q) : XE (vCall F f) env Q := xe_call h
/-- F os, as what it leaves -/
def XF (F : FF) (os : List O) (Q : Rs → List O → Prop) : Prop := XO (F os) fun p => Q p.1 p.2
theorem XF.mk' {F : FF} {os fs : List O} {r : Rs} {Q : Rs → List O → Prop} (h : F os = some (r, fs)) (q : Q r fs) : XF F os Q := ⟨_, h, q⟩
theorem XF.mono {F : FF} {os : List O} {Q Q' : Rs → List O → Prop} (h : XF F os Q) (k : ∀ r fs, Q r fs → Q' r fs) : XF F os Q' := let ⟨x, e, q⟩ := h; ⟨x, e, k _ _ q⟩
theorem xk {F : FF} {hs : List Hnd} {os : List O} {e : Sto} {Q : Hnd → Sto → Prop} (h : XF F os fun r fs => XO (resH hs os fs r) fun a => ∃ e', Wb e hs os fs e' ∧ fs.length = os.length ∧ Q a e') : XK F hs os e Q := by
  obtain ⟨⟨r, fs⟩, h1, a, h2, e', h3, h4, q⟩ := h
  exact ⟨_, h1, h4, a, h2, by rw [h3.eq]; exact q⟩
theorem xr_o {hs : List Hnd} {os fs : List O} {Q : Hnd → Prop} (q : Q (.tmp o)) : XO (resH hs os fs (.o o)) Q := ⟨_, rfl, q⟩
/-! what follows -/
def seqQ (g : SF) (Q : Out → Prop) : Out → Prop
  | .nx e => XS g e Q
  | o => Q o
theorem xs_seq' {f g : SF} {Q : Out → Prop} (h : XS f env (seqQ g Q)) : XS (sSeq f g) env Q := by
  refine xs_seq (h.mono fun o q => ?_)
  cases o <;> exact q
theorem seq_nx {g : SF} {Q : Out → Prop} (q : XS g env Q) : seqQ g Q (.nx env) := q
theorem seq_rt {g : SF} {r : Rs} {Q : Out → Prop} (q : Q (.rt r env)) : seqQ g Q (.rt r env) := q
theorem seq_bk {g : SF} {Q : Out → Prop} (q : Q (.bk env)) : seqQ g Q (.bk env) := q
theorem seq_ct {g : SF} {Q : Out → Prop} (q : Q (.ct env)) : seqQ g Q (.ct env) := q
/-- after one turn: I what must hold ahead of the next, Q what holds after the loop -/
def turnQ (I : Sto → Prop) (Q : Out → Prop) : Out → Prop
  | .nx e => I e
  | .ct e => I e
  | .bk e => Q (.nx e)
  | .rt x e => Q (.rt x e)
theorem turn_nx {I : Sto → Prop} {Q : Out → Prop} (q : I env) : turnQ I Q (.nx env) := q
theorem turn_ct {I : Sto → Prop} {Q : Out → Prop} (q : I env) : turnQ I Q (.ct env) := q
theorem turn_bk {I : Sto → Prop} {Q : Out → Prop} (q : Q (.nx env)) : turnQ I Q (.bk env) := q
theorem turn_rt {I : Sto → Prop} {r : Rs} {Q : Out → Prop} (q : Q (.rt r env)) : turnQ I Q (.rt r env) := q
theorem xl_nil' {g : GF} {b : SF} {Q : Out → Prop} (q : Q (.nx env)) : XL g b [] env Q := xl_nil q
theorem xl_cons' {g : GF} {b : SF} {Q : Out → Prop} (h : XO (g d env) fun e => XS b e (turnQ (fun e' => XL g b ds e' Q) Q)) : XL g b (d :: ds) env Q := by
  refine xl_cons (h.mono fun e h => h.mono fun o q => ?_)
  cases o <;> exact q
theorem xl_inv' {g : GF} {b : SF} {Q : Out → Prop} (I : List D → Sto → Prop) (h0 : I ds env) (hd : ∀ e, I [] e → Q (.nx e)) (hs : ∀ d r e, I (d :: r) e → XO (g d e) fun e1 => XS b e1 (turnQ (I r) Q)) : XL g b ds env Q :=
  xl_inv I hd (fun d r e h => (hs d r e h).mono fun e1 h1 => h1.mono fun o q => by cases o <;> exact q) ds env h0
def unlQ (l : Option (Nat × Slot)) (Q : Out → Prop) : Out → Prop := fun o => Q (unlockO l o)
theorem unl_n {Q : Out → Prop} {o : Out} (q : Q o) : unlQ none Q o := by cases o <;> exact q
theorem unl_nx {Q : Out → Prop} {i : Nat} {s : Slot} (h : SetAt env i (some s) env') (q : Q (.nx env')) : unlQ (some (i, s)) Q (.nx env) := by
  have := h.eq; subst this; exact q
theorem unl_rt {Q : Out → Prop} {l : Option (Nat × Slot)} {r : Rs} (q : Q (.rt r env)) : unlQ l Q (.rt r env) := q
theorem xs_forN {fi : IF} {g : GF} {b : SF} {Q : Out → Prop} (h : XI fi env fun ds l e => match l with
    | none => XL g b ds e Q
    | some (i, s) => ∃ e', SetAt e i (some { s with lk := true }) e' ∧ XL g b ds e' (unlQ (some (i, s)) Q)) : XS (sFor fi g b) env Q := by
  refine xs_for ?_
  obtain ⟨ds, l, e, h1, h2⟩ := h
  refine ⟨ds, l, e, h1, ?_⟩
  match l, h2 with
  | none, ⟨o, h3, h4⟩ => exact ⟨o, h3, by cases o <;> exact h4⟩
  | some (i, s), ⟨e', h3, o, h4, h5⟩ =>
    have := h3.eq
    subst this
    exact ⟨o, h4, h5⟩
/-! where a loop comes from -/
def XJ (o : O) (Q : List D → Prop) : Prop := XO ((asLQ o).or (asT o)) Q
theorem xj_l {Q : List D → Prop} (q : Q ds) : XJ (.ol ds) Q := ⟨_, rfl, q⟩
theorem xj_ls {Q : List D → Prop} (q : Q ds) : XJ (.shr (.lst ds)) Q := ⟨_, rfl, q⟩
theorem xj_t {Q : List D → Prop} (q : Q ds) : XJ (.shr (.tup ds)) Q := ⟨_, rfl, q⟩
theorem xj_s {ns : List Int} {Q : List D → Prop} (q : Q (ns.map .int)) : XJ (.shr (.scr ns)) Q := ⟨_, rfl, q⟩
def XLk (e : Sto) (a : Hnd) (Q : Option (Nat × Slot) → Prop) : Prop := Q (lkOf e a)
theorem xlk_t {Q : Option (Nat × Slot) → Prop} (q : Q none) : XLk env (.tmp o) Q := q
theorem xlk_s {Q : Option (Nat × Slot) → Prop} (h : At env i (.shr d) p l) (q : Q none) : XLk env (.var i) Q := by
  show Q (lkOf _ _); rw [lkOf, h.at]; exact q
theorem xlk_l {Q : Option (Nat × Slot) → Prop} (h : At env i (.ol ds) p l) (q : Q (some (i, ⟨.ol ds, p, l⟩))) : XLk env (.var i) Q := by
  show Q (lkOf _ _); rw [lkOf, h.at]; exact q
theorem xlk_k {Q : Option (Nat × Slot) → Prop} (h : At env i (.od kvs) p l) (q : Q (some (i, ⟨.od kvs, p, l⟩))) : XLk env (.var i) Q := by
  show Q (lkOf _ _); rw [lkOf, h.at]; exact q
/-- a loop's source -/
def forQ (g : GF) (b : SF) (Q : Out → Prop) (ds : List D) (l : Option (Nat × Slot)) (e : Sto) : Prop := match l with
    | none => XL g b ds e Q
    | some (i, s) => ∃ e', SetAt e i (some { s with lk := true }) e' ∧ XL g b ds e' (unlQ (some (i, s)) Q)
theorem xs_for' {fi : IF} {g : GF} {b : SF} {Q : Out → Prop} (h : XI fi env (forQ g b Q)) : XS (sFor fi g b) env Q := xs_forN h
theorem for_n {g : GF} {b : SF} {Q : Out → Prop} (h : XL g b ds env Q) : forQ g b Q ds none env := h
theorem for_l {g : GF} {b : SF} {Q : Out → Prop} (h1 : SetAt env i (some ⟨o, p, true⟩) env') (h : XL g b ds env' (unlQ (some (i, ⟨o, p, l⟩)) Q)) : forQ g b Q ds (some (i, ⟨o, p, l⟩)) env := ⟨_, h1, h⟩
theorem xi_seq' {Q : List D → Option (Nat × Slot) → Sto → Prop} (h : XE fa env fun a e => XO (hGet e a) fun x => XJ x fun ds => XLk e a fun l => Q ds l e) : XI (iSeq fa) env Q := xi_seq h
def R1 (os : List O) (Q : List D → Prop) : Prop := ∃ j, os = [.shr (.int j)] ∧ inR j = true ∧ Q ((List.range j.toNat).map fun (k : Nat) => D.int (k : Int))
theorem r1 {j : Int} {Q : List D → Prop} (h : -(2 ^ 62) ≤ j ∧ j < 2 ^ 62) (q : Q ((List.range j.toNat).map fun (k : Nat) => D.int (k : Int))) : R1 [.shr (.int j)] Q := ⟨j, rfl, by rw [inR, decide_eq_true h.1, decide_eq_true h.2]; rfl, q⟩
theorem xi_r1' {f : HsF} {Q : List D → Option (Nat × Slot) → Sto → Prop} (h : XHs f env fun hs e => XO (hGets e hs) fun os => R1 os fun ds => Q ds none e) : XI (iR1 f) env Q := xi_r1 h
def R2' (os : List O) (Q : List D → Prop) : Prop := ∃ i j, os = [.shr (.int i), .shr (.int j)] ∧ inR i = true ∧ inR j = true ∧ Q ((List.range (j - i).toNat).map fun (k : Nat) => D.int (i + (k : Int)))
theorem r2 {i j : Int} {Q : List D → Prop} (h : -(2 ^ 62) ≤ i ∧ i < 2 ^ 62 ∧ -(2 ^ 62) ≤ j ∧ j < 2 ^ 62) (q : Q ((List.range (j - i).toNat).map fun (k : Nat) => D.int (i + (k : Int)))) : R2' [.shr (.int i), .shr (.int j)] Q := ⟨i, j, rfl, by rw [inR, decide_eq_true h.1, decide_eq_true h.2.1]; rfl, by rw [inR, decide_eq_true h.2.2.1, decide_eq_true h.2.2.2]; rfl, q⟩
theorem xi_r2' {f : HsF} {Q : List D → Option (Nat × Slot) → Sto → Prop} (h : XHs f env fun hs e => XO (hGets e hs) fun os => R2' os fun ds => Q ds none e) : XI (iR2 f) env Q := xi_r2 h
/-! comprehensions over one name -/
def lcQ (g : GF) (c : BF) (f : DF) (v : Nat) (Q : Hnd → Sto → Prop) (ds : List D) (l : Option (Nat × Slot)) (e : Sto) : Prop := match l with
    | none => ∃ e1 x, SetAt e v none e1 ∧ Slt e v x ∧ XC g c f [v] ds [] e1 fun acc e2 => ∃ e3, SetAt e2 v x e3 ∧ Q (.tmp (.ol acc)) e3
    | some (i, s) => ∃ e0 e1 x, SetAt e i (some { s with lk := true }) e0 ∧ SetAt e0 v none e1 ∧ Slt e0 v x ∧ XC g c f [v] ds [] e1 fun acc e2 => ∃ e3 e4, SetAt e2 v x e3 ∧ SetAt e3 i (some s) e4 ∧ Q (.tmp (.ol acc)) e4
theorem xe_lc' {fi : IF} {g : GF} {c : BF} {f : DF} {v : Nat} {Q : Hnd → Sto → Prop} (h : XI fi env (lcQ g c f v Q)) : XE (vLc fi g c f [v]) env Q := by
  refine xe_lc ?_
  obtain ⟨ds, l, e, h1, h2⟩ := h
  refine ⟨ds, l, e, h1, ?_⟩
  match l, h2 with
  | none, ⟨e1, x, h3, h4, acc, e2, h5, e3, h6, q⟩ =>
    have a := h3.eq
    subst a
    refine ⟨acc, e2, h5, ?_⟩
    have b : restE e2 e [v] = e3 := by rw [← h6.eq, ← h4.at]; rfl
    show Q _ (restE e2 e [v])
    rw [b]; exact q
  | some (i, s), ⟨e0, e1, x, h3, h3', h4, acc, e2, h5, e3, e4, h6, h7, q⟩ =>
    have a := h3.eq
    subst a
    have a := h3'.eq
    subst a
    refine ⟨acc, e2, h5, ?_⟩
    have b : restE e2 (e.set i (some { s with lk := true })) [v] = e3 := by rw [← h6.eq, ← h4.at]; rfl
    show Q _ ((restE e2 (e.set i (some { s with lk := true })) [v]).set i (some s))
    rw [b, h7.eq]; exact q
theorem lc_n {g : GF} {c : BF} {f : DF} {v : Nat} {Q : Hnd → Sto → Prop} {y : Option Slot} (h1 : SetAt env v none env1) (h2 : Slt env v y) (h : XC g c f [v] ds [] env1 fun acc e2 => ∃ e3, SetAt e2 v y e3 ∧ Q (.tmp (.ol acc)) e3) : lcQ g c f v Q ds none env := ⟨_, _, h1, h2, h⟩
theorem lc_l {g : GF} {c : BF} {f : DF} {v : Nat} {Q : Hnd → Sto → Prop} {y : Option Slot} (h0 : SetAt env i (some ⟨o, p, true⟩) env2) (h1 : SetAt env2 v none env1) (h2 : Slt env2 v y) (h : XC g c f [v] ds [] env1 fun acc e2 => ∃ e3 e4, SetAt e2 v y e3 ∧ SetAt e3 i (some ⟨o, p, l⟩) e4 ∧ Q (.tmp (.ol acc)) e4) : lcQ g c f v Q ds (some (i, ⟨o, p, l⟩)) env := ⟨_, _, _, h0, h1, h2, h⟩
/-- after one element -/
def accQ (acc : List D) (v : Nat) (I : List D → Sto → Prop) (y : D) (e : Sto) : Prop := acc.length < 1000000 ∧ ∃ e', SetAt e v none e' ∧ I (acc ++ [y]) e'
theorem acc_q {acc : List D} {v : Nat} {I : List D → Sto → Prop} {y : D} (h : acc.length < 1000000) (h2 : SetAt env v none env') (q : I (acc ++ [y]) env') : accQ acc v I y env := ⟨h, _, h2, q⟩
theorem xc_yes {g : GF} {f : DF} {v : Nat} {acc : List D} {Q : List D → Sto → Prop} (I : List D → List D → Sto → Prop) (h0 : I ds acc env) (hd : ∀ acc e, I [] acc e → Q acc e)
    (hs : ∀ d r acc e, I (d :: r) acc e → XO (g d e) fun e1 => XD f e1 (accQ acc v (I r))) : XC g bYes f [v] ds acc env Q :=
  xc_inv I hd (fun d r acc e h => (hs d r acc e h).mono fun e1 h1 => by
    obtain ⟨y, e3, h2, h3, e', h4, h5⟩ := h1
    refine ⟨true, e1, rfl, fun _ => ⟨y, e3, h2, h3, ?_⟩, fun z => nomatch z⟩
    have b := h4.eq
    subst b
    exact h5) ds acc env h0
theorem xc_nil' {g : GF} {c : BF} {f : DF} {v : Nat} {acc : List D} {Q : List D → Sto → Prop} (q : Q acc env) : XC g c f [v] [] acc env Q := xc_nil q
theorem xc_yes1 {g : GF} {f : DF} {v : Nat} {acc : List D} {Q : List D → Sto → Prop} (h : XO (g d env) fun e1 => XD f e1 (accQ acc v fun acc' e' => XC g bYes f [v] ds acc' e' Q)) : XC g bYes f [v] (d :: ds) acc env Q :=
  xc_cons (h.mono fun e1 h1 => by
    obtain ⟨y, e3, h2, h3, e', h4, h5⟩ := h1
    refine ⟨true, e1, rfl, fun _ => ⟨y, e3, h2, h3, ?_⟩, fun z => nomatch z⟩
    have b := h4.eq
    subst b
    exact h5)
theorem xp_g {Q : Sto → Prop} (h : Put env i (.shr d) env') (q : Q env') : XO (gN i d env) Q := ⟨_, h.eq, q⟩
/-! targets of several names -/
theorem xg_T {n : Nat} {f : List D → Sto → Option Sto} {Q : Sto → Prop} (hn : ds.length = n) (h : XO (f ds env) Q) : XO (gT n f (.tup ds) env) Q := by
  obtain ⟨e, h, q⟩ := h
  exact ⟨e, by simp only [gT, if_pos hn, h], q⟩
theorem xg_nil {Q : Sto → Prop} (q : Q env) : XO (gNilF [] env) Q := ⟨_, rfl, q⟩
theorem xg_cons {f : GF} {r : List D → Sto → Option Sto} {Q : Sto → Prop} (h : XO (f d env) fun e => XO (r ds e) Q) : XO (gConsF f r (d :: ds) env) Q := by
  obtain ⟨e, h, e', h', q⟩ := h
  exact ⟨e', by simp only [gConsF, h, Option.bind_some, h'], q⟩
theorem xs_par2 {f : DsF} {Q : Out → Prop} (h : XDs f env fun ds e => ∃ a b, ds = [a, b] ∧ XO (setS e i (.shr a)) fun e1 => XO (setS e1 j (.shr b)) fun e2 => Q (.nx e2)) : XS (sPar i j f) env Q := by
  refine xs_par ?_
  obtain ⟨ds, e, h1, a, b, rfl, h⟩ := h
  exact ⟨_, e, h1, h⟩
/-! returning -/
def XRt (a : Hnd) (e : Sto) (Q : Out → Prop) : Prop := XO (retH a e) Q
theorem xs_ret' {Q : Out → Prop} (h : XE fa env fun a e => XRt a e Q) : XS (sRet fa) env Q := xs_ret h
theorem xrt_t {Q : Out → Prop} (q : Q (.rt (.o o) env)) : XRt (.tmp o) env Q := ⟨_, rfl, q⟩
theorem xrt_s {Q : Out → Prop} (h : At env i (.shr d) p l) (q : Q (.rt (.o (.shr d)) env)) : XRt (.var i) env Q := ⟨_, by rw [retH, h.at], q⟩
theorem xrt_l {Q : Out → Prop} (h : At env i (.ol ds) false l) (h2 : SetAt env i none env') (q : Q (.rt (.o (.ol ds)) env')) : XRt (.var i) env Q := ⟨_, by simp only [retH, h.at, Bool.false_eq_true, if_false, h2.eq], q⟩
theorem xrt_k {Q : Out → Prop} (h : At env i (.od kvs) false l) (h2 : SetAt env i none env') (q : Q (.rt (.o (.od kvs)) env')) : XRt (.var i) env Q := ⟨_, by simp only [retH, h.at, Bool.false_eq_true, if_false, h2.eq], q⟩
theorem xrt_pl {Q : Out → Prop} (h : At env i (.ol ds) true l) (q : Q (.rt (.par i) env)) : XRt (.var i) env Q := ⟨_, by simp only [retH, h.at, if_true], q⟩
theorem xrt_pk {Q : Out → Prop} (h : At env i (.od kvs) true l) (q : Q (.rt (.par i) env)) : XRt (.var i) env Q := ⟨_, by simp only [retH, h.at, if_true], q⟩
/-! a def -/
def defQ (m : Nat) (Q : Rs → List O → Prop) : Out → Prop
  | .rt r e => ∃ fs, Fin' e m fs ∧ Q r fs
  | .nx e => ∃ fs, Fin' e m fs ∧ Q (.o (.shr .non)) fs
  | _ => False
theorem def_rt {m : Nat} {Q : Rs → List O → Prop} {r : Rs} {fs : List O} (h : Fin' env m fs) (q : Q r fs) : defQ m Q (.rt r env) := ⟨_, h, q⟩
theorem def_nx {m : Nat} {Q : Rs → List O → Prop} {fs : List O} (h : Fin' env m fs) (q : Q (.o (.shr .non)) fs) : defQ m Q (.nx env) := ⟨_, h, q⟩
theorem xf' {n m : Nat} {f : SF} {os : List O} {e : Sto} {Q : Rs → List O → Prop} (hl : os.length = m) (he : Ini n os e) (h : XS f e (defQ m Q)) : XF (defF n m f) os Q := by
  refine xf hl ?_
  have he := he.eq
  subst he
  refine h.mono fun o q => ?_
  cases o with
  | rt r e => obtain ⟨fs, h1, h2⟩ := q; show Q _ _; rw [h1.eq]; exact h2
  | nx e => obtain ⟨fs, h1, h2⟩ := q; show Q _ _; rw [h1.eq]; exact h2
  | bk e => exact q
  | ct e => exact q
/-! an object of one's own, changed -/
def XM (i : Nat) (g : O → Option (D × O)) (e : Sto) (Q : D → Sto → Prop) : Prop := XO (mutS e i g) fun p => Q p.1 p.2
theorem xm2 {g : O → Option (D × O)} {x x' : O} {d : D} {Q : D → Sto → Prop} (h : Chg env i x x' env') (hg : g x = some (d, x')) (h1 : x.own = true) (h2 : x'.own = true) (q : Q d env') : XM i g env Q := by
  obtain ⟨p, h3, rfl⟩ := h.at
  exact ⟨(d, _), by simp only [mutS, h3, Bool.false_eq_true, if_false, hg, Option.bind_some, h1, h2, Bool.and_self, if_true], q⟩
theorem xe_mt' {T : String} {m : List D → O → Option (D × O)} {f : DsF} {Q : Hnd → Sto → Prop} (h0 : At env i x p l) (hk : kindOf x = T) (h : XDs f env fun ds e => XM i (m ds) e fun d e => Q (.tmp (.shr d)) e) : XE (vMt i T m f) env Q := xe_mt (by rw [kindS, h0.at]; exact hk) h
theorem xs_setIx' {fv : DF} {fi : EF} {Q : Out → Prop} (h : XD fv env fun d e => ∃ o p l, At e i o p l ∧ kindOf o = "list" ∧ XE fi e fun a e1 => XO (hGet e1 a) fun x => XO (asI x) fun k => XM i (setL k d) e1 fun _ e => Q (.nx e)) : XS (sSetIx i fv fi) env Q := by
  refine xs_setIx ?_
  obtain ⟨d, e, h1, o, p, l, h2, h3, h4⟩ := h
  exact ⟨d, e, h1, by rw [kindS, h2.at]; exact h3, h4⟩
theorem xs_augIx' {fi fe : EF} {op : O → O → Option O} {Q : Out → Prop} (h0 : At env i x p l) (hk : kindOf x = "list") (h : XE fi env fun a e => XO (hGet e a) fun x => XO (asI x) fun k => XO (hGet e (.var i)) fun ol => XO (asL ol) fun ds => XO (atI ds k) fun d =>
    XE fe e fun b e1 => XO (hGet e1 b) fun y => XO (op (.shr d) y) fun z => ∃ dz, z = .shr dz ∧ XM i (setL k dz) e1 fun _ e => Q (.nx e)) : XS (sAugIx i fi op fe) env Q := xs_augIx (by rw [kindS, h0.at]; exact hk) h
theorem xs_aug' {fe : EF} {op : O → O → Option O} {Q : Out → Prop} (h : At env i (.shr d) p l) (h2 : XE fe env fun b e1 => XO (hGet e1 b) fun y => XO (op (.shr d) y) fun z => XW i (.tmp z) e1 fun e2 => Q (.nx e2)) : XS (sAug i op fe) env Q :=
  xs_aug ⟨.shr d, by rw [hGet, h.at], d, rfl, h2⟩
theorem xai {a : Int} {Q : Int → Prop} (q : Q a) : XO (asI (.shr (.int a))) Q := ⟨_, rfl, q⟩
theorem xab {a : Bool} {Q : Bool → Prop} (q : Q a) : XO (asB (.shr (.bl a))) Q := ⟨_, rfl, q⟩
theorem xal {Q : List D → Prop} (q : Q ds) : XO (asL (.ol ds)) Q := ⟨_, rfl, q⟩
theorem xals {Q : List D → Prop} (q : Q ds) : XO (asL (.shr (.lst ds))) Q := ⟨_, rfl, q⟩
theorem xat {k : Int} {Q : D → Prop} (h : atI ds k = some d) (q : Q d) : XO (atI ds k) Q := ⟨_, h, q⟩
namespace Nx
theorem ixN_nat {n k : Nat} (h : k < n) : ixN n (k : Int) = some k := by
  unfold ixN
  rw [if_pos (by omega), if_pos (by omega)]; rfl
end Nx
open Nx
theorem xe_mt'L {m : List D → O → Option (D × O)} {f : DsF} {Q : Hnd → Sto → Prop} (h0 : At env i (.ol ds) p l) (h : XDs f env fun ds e => XM i (m ds) e fun d e => Q (.tmp (.shr d)) e) : XE (vMt i "list" m f) env Q := xe_mt' h0 rfl h
theorem xs_augIx'L {fi fe : EF} {op : O → O → Option O} {Q : Out → Prop} (h0 : At env i (.ol ds) p l) (h : XE fi env fun a e => XO (hGet e a) fun x => XO (asI x) fun k => XO (hGet e (.var i)) fun ol => XO (asL ol) fun ds => XO (atI ds k) fun d =>
    XE fe e fun b e1 => XO (hGet e1 b) fun y => XO (op (.shr d) y) fun z => ∃ dz, z = .shr dz ∧ XM i (setL k dz) e1 fun _ e => Q (.nx e)) : XS (sAugIx i fi op fe) env Q := xs_augIx' h0 rfl h
def XSi (i : Nat) (d : D) (fi : EF) (e : Sto) (Q : Out → Prop) : Prop := ∃ o p l, At e i o p l ∧ kindOf o = "list" ∧ XE fi e fun a e1 => XO (hGet e1 a) fun x => XO (asI x) fun k => XM i (setL k d) e1 fun _ e => Q (.nx e)
theorem xs_setIx2 {fv : DF} {fi : EF} {Q : Out → Prop} (h : XD fv env fun d e => XSi i d fi e Q) : XS (sSetIx i fv fi) env Q := xs_setIx' h
theorem xsi {fi : EF} {Q : Out → Prop} (h0 : At env i (.ol ds) p l) (h : XE fi env fun a e1 => XO (hGet e1 a) fun x => XO (asI x) fun k => XM i (setL k d) e1 fun _ e => Q (.nx e)) : XSi i d fi env Q := ⟨_, _, _, h0, rfl, h⟩
theorem xm_set {k : Int} {es : List D} {Q : D → Sto → Prop} (h0 : At env i (.ol ds) p l) (hs : setL k d (.ol ds) = some (.non, .ol es)) (h : Chg env i (.ol ds) (.ol es) env') (q : Q .non env') : XM i (setL k d) env Q := xm2 h hs rfl rfl q
theorem xm_app {y : D} {Q : D → Sto → Prop} (h0 : At env i (.ol ds) p l) (hl : ds.length ≤ 1000000) (h : Chg env i (.ol ds) (.ol (ds ++ [y])) env') (q : Q .non env') : XM i (mAppend [y]) env Q := xm2 h (by simp only [mAppend, if_pos hl]) rfl rfl q
theorem setL_nat {k : Nat} {ds : List D} {d : D} (h : k < ds.length) : setL (k : Int) d (.ol ds) = some (.non, .ol (ds.set k d)) := by
  show Option.map _ (ixN ds.length (k : Int)) = _
  rw [Nx.ixN_nat h]; rfl
theorem setL0 {a : D} : setL 0 d (.ol (a :: ds)) = some (.non, .ol (d :: ds)) := setL_nat (k := 0) (by simp)
theorem setL1 {a b : D} : setL 1 d (.ol (a :: b :: ds)) = some (.non, .ol (a :: d :: ds)) := setL_nat (k := 1) (by simp)
theorem setL2 {a b c : D} : setL 2 d (.ol (a :: b :: c :: ds)) = some (.non, .ol (a :: b :: d :: ds)) := setL_nat (k := 2) (by simp)
theorem ex_shr {d : D} {Q : D → Prop} (q : Q d) : ∃ dz, O.shr d = .shr dz ∧ Q dz := ⟨_, rfl, q⟩
theorem lend_ok {F : FF} {hs : List Hnd} {os : List O} {Q : Hnd → Sto → Prop} (h : lendOk env hs os = true) (k : XF F os fun r fs => XO (resH hs os fs r) fun a => ∃ e', Wb env hs os fs e' ∧ fs.length = os.length ∧ Q a e') : lendOk env hs os = true ∧ XK F hs os env Q := ⟨h, xk k⟩
theorem wbx {hs : List Hnd} {os fs : List O} {Q : Sto → Prop} (h : Wb env hs os fs env') (hl : fs.length = os.length) (q : Q env') : ∃ e', Wb env hs os fs e' ∧ fs.length = os.length ∧ Q e' := ⟨_, h, hl, q⟩
theorem mulR {i j : Int} (h : -18446744073709551616 < j ∧ j < 18446744073709551616) : CMulG i j := .inl (.inr h)
theorem mulL {i j : Int} (h : -18446744073709551616 < i ∧ i < 18446744073709551616) : CMulG i j := .inl (.inl h)
theorem divK {a m : Int} (h : 0 < m ∧ m < 1152921504606846976) : CDivG a m := ⟨by omega, by
  have : m.natAbs < 2 ^ 60 := by omega
  have h := (Nat.log2_lt (n := m.natAbs) (k := 60) (by omega)).mpr this
  omega⟩
theorem powK {i j : Int} (h : 0 ≤ j ∧ j ≤ 1000000 ∧ i.natAbs < 18446744073709551616) : CPow i j := h
theorem par2 {a b : D} {P : D → D → Prop} (h : P a b) : ∃ x y, [a, b] = [x, y] ∧ P x y := ⟨_, _, rfl, h⟩
/-! tests -/
def TF (b : Bool) (p q : Prop) : Prop := (b = true → p) ∧ (b = false → q)
theorem tf_t {p q : Prop} (h : p) : TF true p q := ⟨fun _ => h, fun z => nomatch z⟩
theorem tf_f {p q : Prop} (h : q) : TF false p q := ⟨(fun z => nomatch z), fun _ => h⟩
theorem tf_d {c p q : Prop} [Decidable c] (h1 : c → p) (h2 : ¬ c → q) : TF (decide c) p q := ⟨fun h => h1 (of_decide_eq_true h), fun h => h2 (of_decide_eq_false h)⟩
theorem tf_nd {c p q : Prop} [Decidable c] (h1 : ¬ c → p) (h2 : c → q) : TF (!decide c) p q := ⟨fun h => h1 (by simpa using h), fun h => h2 (by simpa using h)⟩
theorem tf_b {b : Bool} {p q : Prop} (h1 : b = true → p) (h2 : b = false → q) : TF b p q := ⟨h1, h2⟩
theorem xs_if' {c : BF} {f g : SF} {Q : Out → Prop} (h : XB c env fun b e => TF b (XS f e Q) (XS g e Q)) : XS (sIf c f g) env Q := xs_if h
theorem xe_if' {c : BF} {Q : Hnd → Sto → Prop} (h : XB c env fun b e => TF b (XE fa e Q) (XE fb e Q)) : XE (vIf c fa fb) env Q := xe_if h
theorem xb_and' {a b : BF} {Q : Bool → Sto → Prop} (h : XB a env fun x e => TF x (XB b e Q) (Q false e)) : XB (bAnd a b) env Q := xb_and h
theorem xb_or' {a b : BF} {Q : Bool → Sto → Prop} (h : XB a env fun x e => TF x (Q true e) (XB b e Q)) : XB (bOr a b) env Q := xb_or h
/-- one definite answer of a test -/
theorem xb_is {b c : Bool} {Q : Bool → Sto → Prop} (h : b = c) (q : Q c env) : Q b env := h ▸ q
theorem trI {a : Int} {Q : Bool → Prop} (q : Q (a != 0)) : XO (truO (.shr (.int a))) Q := ⟨_, rfl, q⟩
theorem trB {a : Bool} {Q : Bool → Prop} (q : Q a) : XO (truO (.shr (.bl a))) Q := ⟨_, rfl, q⟩
theorem trN {Q : Bool → Prop} (q : Q false) : XO (truO (.shr .non)) Q := ⟨_, rfl, q⟩
theorem trL {Q : Bool → Prop} (q : Q !ds.isEmpty) : XO (truO (.ol ds)) Q := ⟨_, rfl, q⟩
theorem trLs {Q : Bool → Prop} (q : Q !ds.isEmpty) : XO (truO (.shr (.lst ds))) Q := ⟨_, rfl, q⟩
theorem isN {Q : O → Prop} (q : Q (.shr (.bl true))) : XO (oIsN (.shr .non) (.shr .non)) Q := ⟨_, rfl, q⟩
theorem isN0 {ds : List D} {Q : O → Prop} (q : Q (.shr (.bl false))) : XO (oIsN (.shr (.tup ds)) (.shr .non)) Q := ⟨_, rfl, q⟩
theorem isN1 {a : Int} {Q : O → Prop} (q : Q (.shr (.bl false))) : XO (oIsN (.shr (.int a)) (.shr .non)) Q := ⟨_, rfl, q⟩
theorem isN2 {a : Str} {Q : O → Prop} (q : Q (.shr (.bl false))) : XO (oIsN (.shr (.str a)) (.shr .non)) Q := ⟨_, rfl, q⟩
theorem isN3 {Q : O → Prop} (q : Q (.shr (.bl false))) : XO (oIsN (.shr (.lst ds)) (.shr .non)) Q := ⟨_, rfl, q⟩
theorem isN4 {a : Bool} {Q : O → Prop} (q : Q (.shr (.bl false))) : XO (oIsN (.shr (.bl a)) (.shr .non)) Q := ⟨_, rfl, q⟩
theorem isN5 {Q : O → Prop} (q : Q (.shr (.bl false))) : XO (oIsN (.ol ds) (.shr .non)) Q := ⟨_, rfl, q⟩
theorem noN {Q : O → Prop} (q : Q (.shr (.bl false))) : XO (oNotN (.shr .non) (.shr .non)) Q := ⟨_, rfl, q⟩
theorem noN0 {ds : List D} {Q : O → Prop} (q : Q (.shr (.bl true))) : XO (oNotN (.shr (.tup ds)) (.shr .non)) Q := ⟨_, rfl, q⟩
theorem noN1 {a : Int} {Q : O → Prop} (q : Q (.shr (.bl true))) : XO (oNotN (.shr (.int a)) (.shr .non)) Q := ⟨_, rfl, q⟩
theorem noN2 {a : Str} {Q : O → Prop} (q : Q (.shr (.bl true))) : XO (oNotN (.shr (.str a)) (.shr .non)) Q := ⟨_, rfl, q⟩
theorem ixL {k : Int} {e : D} {Q : O → Prop} (h : atI ds k = some e) (q : Q (.shr e)) : XO (oIx (.ol ds) (.shr (.int k))) Q := xo_ix rfl h q
theorem ixLs {k : Int} {e : D} {Q : O → Prop} (h : atI ds k = some e) (q : Q (.shr e)) : XO (oIx (.shr (.lst ds)) (.shr (.int k))) Q := xo_ix rfl h q
theorem ixT {k : Int} {e : D} {Q : O → Prop} (h : atI ds k = some e) (q : Q (.shr e)) : XO (oIx (.shr (.tup ds)) (.shr (.int k))) Q := xo_ix rfl h q
theorem lnL {Q : O → Prop} (q : Q (.shr (.int ds.length))) : XO (oLen [.ol ds]) Q := xo_len rfl q
theorem lnLs {Q : O → Prop} (q : Q (.shr (.int ds.length))) : XO (oLen [.shr (.lst ds)]) Q := xo_len rfl q
theorem lnT {Q : O → Prop} (q : Q (.shr (.int ds.length))) : XO (oLen [.shr (.tup ds)]) Q := xo_len rfl q
theorem lsL {Q : O → Prop} (q : Q (.ol ds)) : XO (oList [.ol ds]) Q := xo_list rfl q
theorem lsLs {Q : O → Prop} (q : Q (.ol ds)) : XO (oList [.shr (.lst ds)]) Q := xo_list rfl q
theorem lsT {Q : O → Prop} (q : Q (.ol ds)) : XO (oList [.shr (.tup ds)]) Q := xo_list rfl q
theorem slL {lo hi : Option Int} {Q : O → Prop} (q : Q (.ol (cutD ds lo hi))) : XO (oSl (.ol ds) lo hi) Q := ⟨_, rfl, q⟩
theorem slLs {lo hi : Option Int} {Q : O → Prop} (q : Q (.ol (cutD ds lo hi))) : XO (oSl (.shr (.lst ds)) lo hi) Q := ⟨_, rfl, q⟩
theorem xo_addLL {es : List D} {Q : O → Prop} (h : ds.length + es.length ≤ 1000000) (q : Q (.ol (ds ++ es))) : XO (oAdd (.ol ds) (.ol es)) Q := xo_addL h q
theorem eqI {a b : Int} {Q : O → Prop} (q : Q (.shr (.bl (decide (a = b))))) : XO (oEq (.shr (.int a)) (.shr (.int b))) Q := xo_eq eqO_int q
theorem neI {a b : Int} {Q : O → Prop} (q : Q (.shr (.bl (!decide (a = b))))) : XO (oNe (.shr (.int a)) (.shr (.int b))) Q := xo_ne eqO_int q
theorem eqSt {a b : Str} {Q : O → Prop} (q : Q (.shr (.bl (decide (a = b))))) : XO (oEq (.shr (.str a)) (.shr (.str b))) Q := xo_eq eqO_str q
theorem neSt {a b : Str} {Q : O → Prop} (q : Q (.shr (.bl (!decide (a = b))))) : XO (oNe (.shr (.str a)) (.shr (.str b))) Q := xo_ne eqO_str q
theorem at_nat {α : Type} {xs : List α} {k : Nat} (h : k < xs.length) : atI xs (k : Int) = some xs[k] := by
  unfold atI
  rw [ixN_nat h, Option.bind_some, List.getElem?_eq_getElem h]
theorem at_of {α : Type} {xs : List α} {k : Nat} {x : α} (h : xs[k]? = some x) : atI xs (k : Int) = some x := by
  obtain ⟨hl, e⟩ := List.getElem?_eq_some_iff.mp h
  rw [at_nat hl, e]
theorem at_int {α : Type} {xs : List α} {k : Int} (h0 : 0 ≤ k) (h1 : k < xs.length) : ∃ n : Nat, k = n ∧ ∃ h : n < xs.length, atI xs k = some xs[n] := by
  obtain ⟨n, rfl⟩ := Int.eq_ofNat_of_zero_le h0
  exact ⟨n, rfl, by omega, at_nat (by omega)⟩
theorem at0 {α : Type} {a : α} {xs : List α} : atI (a :: xs) 0 = some a := at_of (k := 0) rfl
theorem at1 {α : Type} {a b : α} {xs : List α} : atI (a :: b :: xs) 1 = some b := at_of (k := 1) rfl
theorem at2 {α : Type} {a b c : α} {xs : List α} : atI (a :: b :: c :: xs) 2 = some c := at_of (k := 2) rfl
end
end PV

set_option maxRecDepth 100000
set_option maxHeartbeats 2000000
namespace PV
open PySem L2
/-! ### plain data: == is equality -/
mutual
def pl : D → Bool
  | .non => true
  | .int _ => true
  | .str x => PyData.strOk x
  | .tup ds => decide (ds.length ≤ 1000) && pls ds
  | _ => false
def pls : List D → Bool
  | [] => true
  | d :: r => pl d && pls r
end
mutual
def dp : D → Nat
  | .tup ds => dps ds + 1
  | _ => 0
def dps : List D → Nat
  | [] => 0
  | d :: r => max (dp d) (dps r)
end
mutual
theorem py_pl : ∀ {d : D}, pl d = true → ∃ p, toPy d = some p ∧ p.canLay0 = true ∧ p.depth = dp d
  | .non, _ => ⟨_, by unfold toPy; rfl, by simp only [PyData.canLay0], by simp only [PyData.depth, dp]⟩
  | .int i, _ => ⟨_, by unfold toPy; rfl, by simp only [PyData.canLay0], by simp only [PyData.depth, dp]⟩
  | .str x, h => ⟨_, by unfold toPy; rfl, by rw [pl] at h; rw [PyData.canLay0]; exact h, by simp only [PyData.depth, dp]⟩
  | .tup ds, h => by
    rw [pl, Bool.and_eq_true] at h
    obtain ⟨ps, h1, h2, h3⟩ := pys_pl h.2
    exact ⟨.tuple ps, by rw [toPy, h1]; rfl, by rw [PyData.canLay0]; exact h2, by rw [PyData.depth, dp, h3]⟩
  | .bl _, h => nomatch h
  | .lst _, h => nomatch h
  | .dk _, h => nomatch h
  | .scr _, h => nomatch h
  | .opq _, h => nomatch h
theorem pys_pl : ∀ {ds : List D}, pls ds = true → ∃ ps, toPys ds = some ps ∧ PyData.canLayAll0 ps = true ∧ PyData.depthAll ps = dps ds
  | [], _ => ⟨[], by rw [toPys], by rw [PyData.canLayAll0], by rw [PyData.depthAll, dps]⟩
  | d :: r, h => by
    rw [pls, Bool.and_eq_true] at h
    obtain ⟨p, h1, h2, h3⟩ := py_pl h.1
    obtain ⟨ps, h4, h5, h6⟩ := pys_pl h.2
    exact ⟨p :: ps, by rw [toPys, h1, h4]; rfl, by rw [PyData.canLayAll0, h2, h5]; rfl, by rw [PyData.depthAll, dps, h3, h6]⟩
end
mutual
theorem eqv_pl : ∀ {x y : D} {p q : PyData}, pl x = true → pl y = true → toPy x = some p → toPy y = some q → (PyData.eqv p q = true ↔ x = y)
  | .tup xs, .tup ys, p, q, hx, hy, ex, ey => by
    rw [pl, Bool.and_eq_true] at hx hy
    obtain ⟨ps, h1, _⟩ := pys_pl hx.2
    obtain ⟨qs, h2, _⟩ := pys_pl hy.2
    rw [toPy, h1] at ex
    rw [toPy, h2] at ey
    cases ex
    cases ey
    rw [PyData.eqv, D.tup.injEq]
    exact eqvs_pl hx.2 hy.2 h1 h2
  | .tup xs, .non, p, q, hx, hy, ex, ey | .tup xs, .int _, p, q, hx, hy, ex, ey | .tup xs, .str _, p, q, hx, hy, ex, ey => by
    rw [pl, Bool.and_eq_true] at hx
    obtain ⟨ps, h1, _⟩ := pys_pl hx.2
    rw [toPy, h1] at ex
    simp only [toPy] at ey
    cases ex
    cases ey
    simp [PyData.eqv]
  | .non, .tup xs, p, q, hy, hx, ey, ex | .int _, .tup xs, p, q, hy, hx, ey, ex | .str _, .tup xs, p, q, hy, hx, ey, ex => by
    rw [pl, Bool.and_eq_true] at hx
    obtain ⟨ps, h1, _⟩ := pys_pl hx.2
    rw [toPy, h1] at ex
    simp only [toPy] at ey
    cases ex
    cases ey
    simp [PyData.eqv]
  | .non, .non, p, q, hx, hy, ex, ey | .non, .int _, p, q, hx, hy, ex, ey | .non, .str _, p, q, hx, hy, ex, ey
  | .int _, .non, p, q, hx, hy, ex, ey | .int _, .int _, p, q, hx, hy, ex, ey | .int _, .str _, p, q, hx, hy, ex, ey
  | .str _, .non, p, q, hx, hy, ex, ey | .str _, .int _, p, q, hx, hy, ex, ey | .str _, .str _, p, q, hx, hy, ex, ey => by
    simp only [toPy] at ex ey
    cases ex
    cases ey
    simp [PyData.eqv]
theorem eqvs_pl : ∀ {x y : List D} {p q : List PyData}, pls x = true → pls y = true → toPys x = some p → toPys y = some q → (PyData.eqvAll p q = true ↔ x = y)
  | [], [], p, q, hx, hy, ex, ey => by
    rw [toPys] at ex ey
    cases ex
    cases ey
    simp [PyData.eqvAll]
  | [], y :: ys, p, q, hx, hy, ex, ey => by
    rw [pls, Bool.and_eq_true] at hy
    obtain ⟨p1, h1, _⟩ := py_pl hy.1
    obtain ⟨ps, h4, _⟩ := pys_pl hy.2
    rw [toPys] at ex
    rw [toPys, h1, h4] at ey
    cases ex
    cases ey
    simp [PyData.eqvAll]
  | y :: ys, [], p, q, hy, hx, ey, ex => by
    rw [pls, Bool.and_eq_true] at hy
    obtain ⟨p1, h1, _⟩ := py_pl hy.1
    obtain ⟨ps, h4, _⟩ := pys_pl hy.2
    rw [toPys] at ex
    rw [toPys, h1, h4] at ey
    cases ex
    cases ey
    simp [PyData.eqvAll]
  | x :: xs, y :: ys, p, q, hx, hy, ex, ey => by
    rw [pls, Bool.and_eq_true] at hx hy
    obtain ⟨p1, h1, _⟩ := py_pl hx.1
    obtain ⟨ps, h4, _⟩ := pys_pl hx.2
    obtain ⟨q1, g1, _⟩ := py_pl hy.1
    obtain ⟨qs, g4, _⟩ := pys_pl hy.2
    rw [toPys, h1, h4] at ex
    rw [toPys, g1, g4] at ey
    cases ex
    cases ey
    rw [PyData.eqvAll, Bool.and_eq_true, eqv_pl hx.1 hy.1 h1 g1, eqvs_pl hx.2 hy.2 h4 g4, List.cons.injEq]
end
theorem eqP_pl {x y : D} (hx : pl x = true) (hy : pl y = true) (dx : dp x ≤ 64) (dy : dp y ≤ 64) : ∃ b : Bool, (toPy x).bind (fun p => (toPy y).bind fun q => eqP p q) = some b ∧ (b = true ↔ x = y) := by
  obtain ⟨p, h1, h2, h3⟩ := py_pl hx
  obtain ⟨q, g1, g2, g3⟩ := py_pl hy
  refine ⟨PyData.eqv p q, ?_, eqv_pl hx hy h1 g1⟩
  have a : SeqAt.shaped p = true := by rw [SeqAt.shaped, h2, h3, decide_eq_true dx]; rfl
  have b : SeqAt.shaped q = true := by rw [SeqAt.shaped, g2, g3, decide_eq_true dy]; rfl
  rw [h1, Option.bind_some, g1, Option.bind_some, eqP, if_pos ⟨a, b⟩]
theorem eqO_pl {x y : D} (hx : pl x = true) (hy : pl y = true) (dx : dp x ≤ 64) (dy : dp y ≤ 64) : ∃ b : Bool, eqO (.shr x) (.shr y) = some b ∧ (b = true ↔ x = y) := by
  have key := eqP_pl hx hy dx dy
  have gen : ((asF (.shr x)).bind fun i => (asF (.shr y)).bind fun j => eqS i j) = none → ∃ b : Bool, eqO (.shr x) (.shr y) = some b ∧ (b = true ↔ x = y) := fun h => by
    rw [eqO, h, Option.none_or]; exact key
  have flat : ∀ v w, asF (.shr x) = some v → asF (.shr y) = some w → scal v w = true → (v = w ↔ x = y) → ∃ b : Bool, eqO (.shr x) (.shr y) = some b ∧ (b = true ↔ x = y) := fun v w h1 h2 h3 h4 => ⟨decide (v = w), by rw [eqO, h1, h2, Option.bind_some, Option.bind_some, eqS, if_pos h3, Option.some_or], by rw [decide_eq_true_iff]; exact h4⟩
  cases x with
  | tup xs => exact gen rfl
  | non => cases y with
    | tup ys => exact gen rfl
    | non | int _ | str _ => exact flat _ _ rfl rfl rfl (by simp)
    | _ => cases hy
  | int _ => cases y with
    | tup ys => exact gen rfl
    | non | int _ | str _ => exact flat _ _ rfl rfl rfl (by simp)
    | _ => cases hy
  | str _ => cases y with
    | tup ys => exact gen rfl
    | non | int _ | str _ => exact flat _ _ rfl rfl rfl (by simp)
    | _ => cases hy
  | _ => cases hx
section
open Classical
theorem eqPl {x y : D} {Q : O → Prop} (hx : pl x = true) (hy : pl y = true) (dx : dp x ≤ 64) (dy : dp y ≤ 64) (q : Q (.shr (.bl (decide (x = y))))) : XO (oEq (.shr x) (.shr y)) Q := by
  obtain ⟨b, h, e⟩ := eqO_pl hx hy dx dy
  refine xo_eq h ?_
  have : b = decide (x = y) := by cases b <;> simp_all
  rw [this]; exact q
theorem nePl {x y : D} {Q : O → Prop} (hx : pl x = true) (hy : pl y = true) (dx : dp x ≤ 64) (dy : dp y ≤ 64) (q : Q (.shr (.bl (!decide (x = y))))) : XO (oNe (.shr x) (.shr y)) Q := by
  obtain ⟨b, h, e⟩ := eqO_pl hx hy dx dy
  refine xo_ne h ?_
  have : b = decide (x = y) := by cases b <;> simp_all
  rw [this]; exact q
end
/-! ### text -/
theorem ok_of (s : String) : PyData.strOk (Str.ofString s) = true := by
  rw [Str.ofString_eq_toList, PyData.strOk]
  simp only [List.all_toArray, List.all_map, List.all_eq_true]
  intro c _
  have := c.valid
  simp only [Function.comp, decide_eq_true_eq]
  have h : c.val.toNat < 0x110000 := by
    rcases this with h | h
    · omega
    · omega
  exact h
theorem ok_app {x y : Str} (h : PyData.strOk x = true) (g : PyData.strOk y = true) : PyData.strOk (x ++ y) = true := by
  show (x.cps ++ y.cps).all _ = true
  rw [Array.all_append, Bool.and_eq_true]
  exact ⟨h, g⟩
theorem len_num {n : Nat} (h : n < 1000000000000000000) : (Str.ofString (toString ((n : Nat) : Int))).length ≤ 18 := by
  have e : (Str.ofString (toString ((n : Nat) : Int))).length = (TL.tl (Str.ofString (toString ((n : Nat) : Int)))).length := by
    show Array.size _ = (Array.toList _).length
    rw [Array.length_toList]
  rw [e, TL.tl_num]
  exact TL.numL_len (by decide) (Nat.lt_of_lt_of_le h (by decide))
theorem len_int {i : Int} (h : 0 ≤ i ∧ i < 1000000000000000000) : (Str.ofString (toString i)).length ≤ 18 := by
  obtain ⟨n, rfl⟩ := Int.eq_ofNat_of_zero_le h.1
  exact len_num (by omega)
theorem strI {i : Int} {Q : O → Prop} (h : 0 ≤ i ∧ i < 1000000000000000000) (q : Q (.shr (.str (Str.ofString (toString i))))) : XO (oStr [.shr (.int i)]) Q := by
  refine xo_str ?_ q
  by_cases h0 : i.natAbs = 0
  · rw [h0]; decide
  · have h2 : i.natAbs < 2 ^ 64 := by
      have : (1000000000000000000:Int) < 2 ^ 64 := by decide
      omega
    have := (Nat.log2_lt h0).mpr h2
    omega
/-! ### which built-in class -/
theorem isiT {ox : O} {t : Option Ty} {n : String} {c : Ty} {Q : O → Prop} (h1 : tyO ox = some t) (hn : n = c.name) (hb : isTy t c = true) (q : Q (.shr (.bl true))) : XO (oIsi [ox, .shr (.opq (.ty n))]) Q := xo_isi h1 hn (hb ▸ q)
theorem isiF {ox : O} {t : Option Ty} {n : String} {c : Ty} {Q : O → Prop} (h1 : tyO ox = some t) (hn : n = c.name) (hb : isTy t c = false) (q : Q (.shr (.bl false))) : XO (oIsi [ox, .shr (.opq (.ty n))]) Q := xo_isi h1 hn (hb ▸ q)
theorem tf_T {b : Bool} {p q : Prop} (h : b = true) (k : p) : TF b p q := h ▸ tf_t k
theorem tf_F {b : Bool} {p q : Prop} (h : b = false) (k : q) : TF b p q := h ▸ tf_f k
theorem lnSc {ns : List Int} {Q : O → Prop} (q : Q (.shr (.int ns.length))) : XO (oLen [.shr (.scr ns)]) Q := xo_len (ds := ns.map .int) rfl (by rw [List.length_map]; exact q)
theorem ixSc {ns : List Int} {k i : Int} {Q : O → Prop} (h : atI ns k = some i) (q : Q (.shr (.int i))) : XO (oIx (.shr (.scr ns)) (.shr (.int k))) Q := xo_ix (ds := ns.map .int) rfl (by
  obtain ⟨j, h1, h2, h3, _⟩ := atI_get h
  unfold atI at h ⊢
  rw [List.length_map]
  cases e : ixN ns.length k with
  | none => rw [e] at h; cases h
  | some j =>
    rw [e] at h
    rw [Option.bind_some, List.getElem?_map]
    rw [Option.bind_some] at h
    rw [h]; rfl) q
theorem slSc {ns : List Int} {lo hi : Option Int} {Q : O → Prop} (q : Q (.ol (cutD (ns.map .int) lo hi))) : XO (oSl (.shr (.scr ns)) lo hi) Q := ⟨_, rfl, q⟩
theorem xo_sumL {ds : List D} {ns : List Int} {Q : O → Prop} (h2 : asInts ds = some ns) (q : Q (.shr (.int ns.sum))) : XO (oSum [.ol ds]) Q := xo_sum rfl h2 q
theorem mulW {i j : Int} (h : i.natAbs.log2 + j.natAbs.log2 < 1000000) : CMulG i j := .inr h
theorem lenAnd {ds : List D} {p : Prop} (h : ds.length ≤ 100000) (q : p) : ds.length ≤ 100000 ∧ p := ⟨h, q⟩
theorem xo_modP {a b : Int} {Q : O → Prop} (h : 0 < b) (q : ∀ r, 0 ≤ r → r < b → Q (.shr (.int r))) : XO (oMod (.shr (.int a)) (.shr (.int b))) Q := xo_mod (by omega) (q _ (Int.fmod_nonneg_of_pos a h) (Int.fmod_lt_of_pos a h))
theorem xo_addN {s : Str} {i : Int} {Q : O → Prop} (h : s.length ≤ 1000) (h2 : 0 ≤ i ∧ i < 1000000000000000000) (q : Q (.shr (.str (s ++ Str.ofString (toString i))))) : XO (oAdd (.shr (.str s)) (.shr (.str (Str.ofString (toString i))))) Q := xo_addS (by have := len_int h2; omega) q
theorem ixL3 {a b c : D} {r : Int} {Q : O → Prop} (h0 : 0 ≤ r) (h1 : r < 3) (q0 : Q (.shr a)) (q1 : Q (.shr b)) (q2 : Q (.shr c)) : XO (oIx (.ol [a, b, c]) (.shr (.int r))) Q := by
  have : r = 0 ∨ r = 1 ∨ r = 2 := by omega
  rcases this with rfl | rfl | rfl
  · exact ixL at0 q0
  · exact ixL at1 q1
  · exact ixL at2 q2
/-! ### loops by place -/
theorem xl_ix' {g : GF} {b : SF} {Q : Out → Prop} {ds : List D} {env : Sto} (J : Nat → Sto → Prop) (h0 : J 0 env) (hd : ∀ e, J ds.length e → Q (.nx e))
    (hs : ∀ (k : Nat) e (h : k < ds.length), J k e → XO (g ds[k] e) fun e1 => XS b e1 (turnQ (J (k + 1)) Q)) : XL g b ds env Q := by
  refine xl_inv' (fun r e => ∃ k, k ≤ ds.length ∧ r = ds.drop k ∧ J k e) ⟨0, Nat.zero_le _, rfl, h0⟩ ?_ ?_
  · rintro e ⟨k, hk, hr, j⟩
    have : ds.length ≤ k := by
      have := congrArg List.length hr
      simp at this; omega
    have : k = ds.length := by omega
    exact hd e (this ▸ j)
  · rintro d r e ⟨k, hk, hr, j⟩
    have hl : k < ds.length := by
      have := congrArg List.length hr
      simp at this; omega
    rw [List.drop_eq_getElem_cons hl] at hr
    obtain ⟨rfl, rfl⟩ := List.cons.inj hr
    refine (hs k e hl j).mono fun e1 h1 => h1.mono fun o q => ?_
    cases o with
    | nx e => exact ⟨k + 1, hl, rfl, q⟩
    | ct e => exact ⟨k + 1, hl, rfl, q⟩
    | bk e => exact q
    | rt x e => exact q
theorem xl_rng {g : GF} {b : SF} {Q : Out → Prop} {n : Nat} {env : Sto} (J : Nat → Sto → Prop) (h0 : J 0 env) (hd : ∀ e, J n e → Q (.nx e))
    (hs : ∀ (k : Nat) e, k < n → J k e → XO (g (.int k) e) fun e1 => XS b e1 (turnQ (J (k + 1)) Q)) : XL g b ((List.range n).map fun (k : Nat) => D.int (k : Int)) env Q :=
  xl_ix' J h0 (by simpa using hd) fun k e h j => by
    rw [List.getElem_map, List.getElem_range]
    exact hs k e (by simpa using h) j
theorem xl_rng2 {g : GF} {b : SF} {Q : Out → Prop} {n : Nat} {lo : Int} {env : Sto} (J : Nat → Sto → Prop) (h0 : J 0 env) (hd : ∀ e, J n e → Q (.nx e))
    (hs : ∀ (k : Nat) e, k < n → J k e → XO (g (.int (lo + k)) e) fun e1 => XS b e1 (turnQ (J (k + 1)) Q)) : XL g b ((List.range n).map fun (k : Nat) => D.int (lo + (k : Int))) env Q :=
  xl_ix' J h0 (by simpa using hd) fun k e h j => by
    rw [List.getElem_map, List.getElem_range]
    exact hs k e (by simpa using h) j
theorem xc_ix {g : GF} {f : DF} {v : Nat} {ds : List D} {env : Sto} {Q : List D → Sto → Prop} (J : Nat → List D → Sto → Prop) (h0 : J 0 [] env) (hd : ∀ acc e, J ds.length acc e → Q acc e)
    (hs : ∀ (k : Nat) acc e (h : k < ds.length), J k acc e → XO (g ds[k] e) fun e1 => XD f e1 (accQ acc v (J (k + 1)))) : XC g bYes f [v] ds [] env Q := by
  refine xc_yes (fun r acc e => ∃ k, k ≤ ds.length ∧ r = ds.drop k ∧ J k acc e) ⟨0, Nat.zero_le _, rfl, h0⟩ ?_ ?_
  · rintro acc e ⟨k, hk, hr, j⟩
    have : ds.length ≤ k := by
      have := congrArg List.length hr
      simp at this; omega
    have : k = ds.length := by omega
    exact hd acc e (this ▸ j)
  · rintro d r acc e ⟨k, hk, hr, j⟩
    have hl : k < ds.length := by
      have := congrArg List.length hr
      simp at this; omega
    rw [List.drop_eq_getElem_cons hl] at hr
    obtain ⟨rfl, rfl⟩ := List.cons.inj hr
    refine (hs k acc e hl j).mono fun e1 h1 => ?_
    obtain ⟨y, e2, h2, h3, e', h4, h5⟩ := h1
    exact ⟨y, e2, h2, h3, e', h4, k + 1, hl, rfl, h5⟩
theorem xc_rng {g : GF} {f : DF} {v : Nat} {n : Nat} {env : Sto} {Q : List D → Sto → Prop} (J : Nat → List D → Sto → Prop) (h0 : J 0 [] env) (hd : ∀ acc e, J n acc e → Q acc e)
    (hs : ∀ (k : Nat) acc e, k < n → J k acc e → XO (g (.int k) e) fun e1 => XD f e1 (accQ acc v (J (k + 1)))) : XC g bYes f [v] ((List.range n).map fun (k : Nat) => D.int (k : Int)) [] env Q :=
  xc_ix J h0 (by simpa using hd) fun k acc e h j => by
    rw [List.getElem_map, List.getElem_range]
    exact hs k acc e (by simpa using h) j
theorem xl_map {g : GF} {b : SF} {Q : Out → Prop} {n : Nat} {f : Nat → D} {env : Sto} (J : Nat → Sto → Prop) (h0 : J 0 env) (hd : ∀ e, J n e → Q (.nx e))
    (hs : ∀ (k : Nat) e, k < n → J k e → XO (g (f k) e) fun e1 => XS b e1 (turnQ (J (k + 1)) Q)) : XL g b ((List.range n).map f) env Q :=
  xl_ix' J h0 (by simpa using hd) fun k e h j => by
    rw [List.getElem_map, List.getElem_range]
    exact hs k e (by simpa using h) j
theorem xo_minN {a b : Nat} {Q : O → Prop} (q : Q (.shr (.int ((min a b : Nat) : Int)))) : XO (oMin [.shr (.int (a : Int)), .shr (.int (b : Int))]) Q := xo_min (by
  have : (if (b : Int) < (a : Int) then (b : Int) else (a : Int)) = ((min a b : Nat) : Int) := by split <;> omega
  rw [this]; exact q)
theorem xo_maxN {a b : Nat} {Q : O → Prop} (q : Q (.shr (.int ((max a b : Nat) : Int)))) : XO (oMax [.shr (.int (a : Int)), .shr (.int (b : Int))]) Q := xo_max (by
  have : (if (b : Int) > (a : Int) then (b : Int) else (a : Int)) = ((max a b : Nat) : Int) := by split <;> omega
  rw [this]; exact q)
theorem xo_max1 {n : Nat} {Q : O → Prop} (q : Q (.shr (.int ((max 1 n : Nat) : Int)))) : XO (oMax [.shr (.int 1), .shr (.int (n : Int))]) Q := xo_maxN (a := 1) q
theorem cut_take {ps : List D} {k : Nat} : cutD ps none (some (k : Int)) = ps.take k := by
  unfold cutD
  rw [HT.sIx_none, HT.sIx_nat, List.drop_zero, Nat.sub_zero]
  by_cases h : k ≤ ps.length
  · rw [Nat.min_eq_left h]
  · rw [Nat.min_eq_right (by omega), List.take_length, List.take_of_length_le (by omega)]
theorem r1N {n : Nat} {Q : List D → Prop} (h : n < 4611686018427387904) (q : Q ((List.range n).map fun (k : Nat) => D.int (k : Int))) : R1 [.shr (.int (n : Int))] Q := r1 (by omega) (by rw [Int.toNat_natCast]; exact q)
theorem r2S {i n : Nat} {Q : List D → Prop} (h : i < 4611686018427387903 ∧ n < 4611686018427387904) (q : Q ((List.range (n - (i + 1))).map fun (k : Nat) => D.int ((i + 1 + k : Nat) : Int))) : R2' [.shr (.int ((i : Int) + 1)), .shr (.int (n : Int))] Q := r2 (by omega) (by
  have e : ((n : Int) - ((i : Int) + 1)).toNat = n - (i + 1) := by omega
  rw [e]
  exact q)
theorem nd_T {c : Prop} [Decidable c] (h : ¬ c) : (!decide c) = true := by simp [h]
theorem nd_F {c : Prop} [Decidable c] (h : c) : (!decide c) = false := by simp [h]
end PV

set_option maxRecDepth 100000
set_option maxHeartbeats 2000000
namespace PV
open PySem L2
/-! ### dicts with keys that are ints and texts -/
def keyO : O → Option Key
  | .shr (.int i) => some (.inl i)
  | .shr (.str s) => some (.inr s)
  | _ => none
def valD (kvs : List (Key × D)) (k : Key) : Option D := (kvs.find? fun kv => decide (kv.1 = k)).map (·.2)
def putD (kvs : List (Key × D)) (k : Key) (d : D) : List (Key × D) :=
  if (kvs.any fun kv => decide (kv.1 = k)) = true then kvs.map (fun kv => if kv.1 = k then (kv.1, d) else kv) else kvs ++ [(k, d)]
section
variable {K : PySem.W.Frag} {Hs H : Hp} {v : V} {o : O}
theorem keyO_ok {k : Key} (h : keyO o = some k) (r : ROk K Hs H v o) : v = kV k := by
  cases o with
  | shr d =>
    cases d with
    | int i => cases h; cases r; rfl
    | str i => cases h; cases r; rfl
    | _ => cases h
  | _ => cases h
theorem dd_val {kvs : List (Key × D)} {es : List (Key × V)} (h : DdKv K Hs kvs es) (k : Key) : (valD kvs k = none → valV es k = none) ∧ ∀ d, valD kvs k = some d → ∃ v, valV es k = some v ∧ Dd K Hs d v := by
  induction kvs generalizing es with
  | nil => cases h; exact ⟨fun _ => rfl, fun d z => nomatch z⟩
  | cons p r ih =>
    cases h with
    | @cons k' d v ds vs hd ht =>
      by_cases e : k' = k
      · refine ⟨fun z => ?_, fun d' z => ⟨v, ?_, ?_⟩⟩
        · simp [valD, List.find?_cons, e] at z
        · exact valV_pos e
        · simp [valD, List.find?_cons, e] at z
          exact z ▸ hd
      · obtain ⟨h1, h2⟩ := ih ht
        have e1 : valD ((k', d) :: r) k = valD r k := by simp [valD, List.find?_cons, e]
        have e2 : valV ((k', v) :: vs) k = valV vs k := valV_neg e
        rw [e1, e2]
        exact ⟨h1, h2⟩
theorem dd_any {kvs : List (Key × D)} {es : List (Key × V)} (h : DdKv K Hs kvs es) (k : Key) : (kvs.any fun kv => decide (kv.1 = k)) = (es.any fun kv => decide (kv.1 = k)) := by
  induction kvs generalizing es with
  | nil => cases h; rfl
  | cons p r ih =>
    cases h with
    | cons hd ht => rw [List.any_cons, List.any_cons, ih ht]
theorem dd_app {kvs : List (Key × D)} {es : List (Key × V)} {k : Key} {d : D} {v : V} (h : DdKv K Hs kvs es) (hd : Dd K Hs d v) : DdKv K Hs (kvs ++ [(k, d)]) (es ++ [(k, v)]) := by
  induction kvs generalizing es with
  | nil => cases h; exact .cons hd .nil
  | cons p r ih =>
    cases h with
    | cons h1 ht => exact .cons h1 (ih ht)
theorem dd_map {kvs : List (Key × D)} {es : List (Key × V)} {k : Key} {d : D} {v : V} (h : DdKv K Hs kvs es) (hd : Dd K Hs d v) : DdKv K Hs (kvs.map fun kv => if kv.1 = k then (kv.1, d) else kv) (es.map fun kv => if kv.1 = k then (kv.1, v) else kv) := by
  induction kvs generalizing es with
  | nil => cases h; exact .nil
  | cons p r ih =>
    cases h with
    | @cons k' d' v' ds vs h1 ht =>
      by_cases e : k' = k
      · simp only [List.map_cons, e, if_true]; exact .cons hd (ih ht)
      · simp only [List.map_cons, e, if_false]; exact .cons h1 (ih ht)
theorem dd_put {kvs : List (Key × D)} {es : List (Key × V)} {d : D} {v : V} (h : DdKv K Hs kvs es) (k : Key) (hd : Dd K Hs d v) : DdKv K Hs (putD kvs k d) (putK es k v) := by
  unfold putD putK
  rw [← dd_any h k]
  split
  · exact dd_map h hd
  · exact dd_app h hd
theorem dd_len {kvs : List (Key × D)} {es : List (Key × V)} (h : DdKv K Hs kvs es) : es.length = kvs.length := by
  induction kvs generalizing es with
  | nil => cases h; rfl
  | cons p r ih =>
    cases h with
    | cons h1 ht => simp [ih ht]
end
def oDGet (x y : O) : Option O := (asK x).bind fun kvs => (keyO y).bind fun k => (valD kvs k).map .shr
def rDGet : R2 := fun x y H Q => ∃ a v, x = .ref a ∧ DGet H a y (some v) ∧ Q v H
theorem s_dget {K : PySem.W.Frag} : OpSat K rDGet oDGet := fun Hs H x y ox oy o sb kx ky e Q q => by
  simp only [oDGet, Option.bind_eq_some_iff, Option.map_eq_some_iff] at e
  obtain ⟨kvs, h1, k, h2, d, h3, rfl⟩ := e
  obtain ⟨a, es, rfl, ha, dd⟩ := asK_ok sb h1 kx
  obtain ⟨v, hv, dv⟩ := (dd_val dd k).2 d h3
  refine ⟨a, v, rfl, ?_, q.val sb dv⟩
  rw [keyO_ok h2 ky, ← hv]
  exact DGet.k ha
def oDIn (y x : O) : Option O := (asK x).bind fun kvs => (keyO y).map fun k => .shr (.bl (valD kvs k).isSome)
def rDIn : R2 := fun y x H Q => ∃ a o, x = .ref a ∧ DGet H a y o ∧ Q (.bl o.isSome) H
theorem s_din {K : PySem.W.Frag} : OpSat K rDIn oDIn := fun Hs H y x oy ox o sb ky kx e Q q => by
  simp only [oDIn, Option.bind_eq_some_iff, Option.map_eq_some_iff] at e
  obtain ⟨kvs, h1, k, h2, rfl⟩ := e
  obtain ⟨a, es, rfl, ha, dd⟩ := asK_ok sb h1 kx
  refine ⟨a, valV es k, rfl, ?_, ?_⟩
  · rw [keyO_ok h2 ky]
    exact DGet.k ha
  · have e : (valV es k).isSome = (valD kvs k).isSome := by
      cases h : valD kvs k with
      | none => rw [(dd_val dd k).1 h]; rfl
      | some d => obtain ⟨v, hv, _⟩ := (dd_val dd k).2 d h; rw [hv]; rfl
    rw [e]
    exact q.val sb (.bl _)
/-- o.get(k, x) -/
def vGet2 (fo fk fx : EF) : EF := fun env => (fo env).bind fun p => (hGet p.2 p.1).bind fun o0 => (asK o0).bind fun _ => (fk p.2).bind fun q => (fx q.2).bind fun r => (hGet r.2 p.1).bind fun o => (asK o).bind fun kvs => (hGet r.2 q.1).bind fun ok => (keyO ok).bind fun k =>
  match valD kvs k with
  | some d => some (.tmp (.shr d), r.2)
  | none => some (r.1, r.2)
theorem sat_get2 {K : PySem.W.Frag} {td ty tx : TE} {fo fk fx : EF} (ho : SatE K td fo) (hk : SatE K ty fk) (hx : SatE K tx fx) : SatE K (tDGet2 td ty tx) (vGet2 fo fk fx) := fun Hs H σ env h env' rr g Q q => by
  simp only [vGet2, Option.bind_eq_some_iff] at g
  obtain ⟨⟨x, e1⟩, g1, o0, g2, k0, g3, ⟨y, e2⟩, g4, ⟨z, e3⟩, g5, o, g6, kvs, g7, ok, g8, k, g9, g10⟩ := g
  refine ho Hs H σ env x e1 rr g1 _ fun Hs1 H1 v p1 k1 f1 => ?_
  obtain ⟨a, es0, rfl, ha0, _⟩ := asK_ok p1.r.sub g3 (k1.get p1.r g2)
  refine ⟨a, rfl, .inl ⟨es0, .inl ha0⟩, hk Hs1 H1 σ e1 y e2 p1.r g4 _ fun Hs2 H2 u p2 k2 f2 => hx Hs2 H2 σ e2 z e3 p2.r g5 _ fun Hs3 H3 w p3 k3 f3 => ?_⟩
  obtain ⟨a', es, ea, ha, dd⟩ := asK_ok p3.r.sub g7 (((k1.step p2).step p3).get p3.r g6)
  cases ea
  have ey := keyO_ok g9 ((k2.step p3).get p3.r g8)
  refine ⟨valV es k, by rw [ey]; exact DGet.k ha, ?_⟩
  have pp := (p1.trans p2).trans p3
  cases hv : valD kvs k with
  | none =>
    rw [hv] at g10
    obtain ⟨rfl, rfl⟩ := Prod.mk.inj (Option.some.inj g10)
    rw [(dd_val dd k).1 hv]
    exact q Hs3 H3 w pp k3 (HFr.back f3 (p1.trans p2).ext)
  | some d =>
    rw [hv] at g10
    obtain ⟨rfl, rfl⟩ := Prod.mk.inj (Option.some.inj g10)
    obtain ⟨v, hv', dv⟩ := (dd_val dd k).2 d hv
    rw [hv']
    exact q Hs3 H3 v pp ⟨dv, fun z => nomatch z⟩ fun z => nomatch z
/-- o.get(k) -/
def vGet1 (fo fk : EF) : EF := fun env => (fo env).bind fun p => (hGet p.2 p.1).bind fun o0 => (asK o0).bind fun _ => (fk p.2).bind fun q => (hGet q.2 p.1).bind fun o => (asK o).bind fun kvs => (hGet q.2 q.1).bind fun ok => (keyO ok).bind fun k =>
  some (.tmp (.shr ((valD kvs k).getD .non)), q.2)
theorem sat_get1 {K : PySem.W.Frag} {td ty : TE} {fo fk : EF} (ho : SatE K td fo) (hk : SatE K ty fk) : SatE K (tDGet1 td ty) (vGet1 fo fk) := fun Hs H σ env h env' rr g Q q => by
  simp only [vGet1, Option.bind_eq_some_iff] at g
  obtain ⟨⟨x, e1⟩, g1, o0, g2, k0, g3, ⟨y, e2⟩, g4, o, g6, kvs, g7, ok, g8, k, g9, g10⟩ := g
  refine ho Hs H σ env x e1 rr g1 _ fun Hs1 H1 v p1 k1 f1 => ?_
  obtain ⟨a, es0, rfl, ha0, _⟩ := asK_ok p1.r.sub g3 (k1.get p1.r g2)
  refine ⟨a, rfl, .inl ⟨es0, .inl ha0⟩, hk Hs1 H1 σ e1 y e2 p1.r g4 _ fun Hs2 H2 u p2 k2 f2 => ?_⟩
  obtain ⟨a', es, ea, ha, dd⟩ := asK_ok p2.r.sub g7 ((k1.step p2).get p2.r g6)
  cases ea
  have ey := keyO_ok g9 (k2.get p2.r g8)
  refine ⟨valV es k, by rw [ey]; exact DGet.k ha, ?_⟩
  obtain ⟨rfl, rfl⟩ := Prod.mk.inj (Option.some.inj g10)
  have dv : Dd K Hs2 ((valD kvs k).getD .non) ((valV es k).getD .non) := by
    cases hv : valD kvs k with
    | none => rw [(dd_val dd k).1 hv]; exact .non
    | some d => obtain ⟨v, hv', dv⟩ := (dd_val dd k).2 d hv; rw [hv']; exact dv
  exact q Hs2 H2 _ (p1.trans p2) ⟨dv, fun z => nomatch z⟩ fun z => nomatch z
/-- dict(x) -/
def rDictD : List V → Hp → VK → Prop := fun xs H Q => ∃ (a : Addr) (kvs : List (Key × V)), xs = [.ref a] ∧ Rd H a (.dK kvs) ∧ ∀ p, H p = none → Q (.ref p) (upd H p (.dK kvs))
def oDict : List O → Option O := one1 fun o => (asK o).map .od
theorem s_dict {K : PySem.W.Frag} : CallSat K rDictD oDict := sat_one fun Hs H x ox o sb k e Q q => by
  simp only [Option.map_eq_some_iff] at e
  obtain ⟨ds, hd, rfl⟩ := e
  obtain ⟨a, xs, rfl, hq, dd⟩ := asK_ok sb hd k
  exact ⟨a, xs, rfl, .inl hq, q.dic sb dd⟩
/-- {} -/
theorem sat_dnew {K : PySem.W.Frag} : SatE K tDNewK (vO (.od [])) := fun Hs H σ env h env' rr g Q q => by
  obtain ⟨rfl, rfl⟩ := Prod.mk.inj (Option.some.inj g)
  exact ((Po.refl rr).res q).dic rr.sub .nil
/-- d1 == d2, d1 != d2: where they are the same -/
def dEq (ks ls : List (Key × D)) : Bool := decide (ks.length = ls.length) && ks.all fun p => match flat? p.2, (valD ls p.1).bind flat? with
  | some v, some w => decide (v = w) && flatB v
  | _, _ => false
def oNeD (x y : O) : Option O := (asK x).bind fun ks => (asK y).bind fun ls => if dEq ks ls then some (.shr (.bl false)) else none
def oEqD (x y : O) : Option O := (asK x).bind fun ks => (asK y).bind fun ls => if dEq ks ls then some (.shr (.bl true)) else none
theorem flat_vd {K : PySem.W.Frag} {Hs : Hp} {d : D} {v w : V} (h : flat? d = some w) (k : Dd K Hs d v) : v = w := by
  cases d with
  | non => cases h; cases k; rfl
  | bl _ => cases h; cases k; rfl
  | int _ => cases h; cases k; rfl
  | str _ => cases h; cases k; rfl
  | _ => cases h
theorem dEq_ok {K : PySem.W.Frag} {Hs : Hp} {ks ls : List (Key × D)} {es fs : List (Key × V)} (h : dEq ks ls = true) (hk : DdKv K Hs ks es) (hl : DdKv K Hs ls fs) : es.length = fs.length ∧ ∀ p ∈ es, valV fs p.1 = some p.2 ∧ flatB p.2 = true := by
  unfold dEq at h
  rw [Bool.and_eq_true, decide_eq_true_eq] at h
  refine ⟨by rw [dd_len hk, dd_len hl, h.1], ?_⟩
  have h2 := h.2
  clear h
  induction ks generalizing es with
  | nil => cases hk; intro p hp; cases hp
  | cons q r ih =>
    cases hk with
    | @cons k d v ds vs h1 ht =>
      rw [List.all_cons, Bool.and_eq_true] at h2
      intro p hp
      rcases List.mem_cons.mp hp with rfl | hp
      · have h3 := h2.1
        split at h3
        · next v' w' e1 e2 =>
          rw [Bool.and_eq_true, decide_eq_true_eq] at h3
          simp only [Option.bind_eq_some_iff] at e2
          obtain ⟨d', e3, e4⟩ := e2
          obtain ⟨u, e5, e6⟩ := (dd_val hl k).2 d' e3
          have a := flat_vd e1 h1
          have b := flat_vd e4 e6
          refine ⟨?_, ?_⟩
          · show valV fs k = some v
            rw [e5, b, a, h3.1]
          · show flatB v = true
            rw [a]; exact h3.2
        · cases h3
      · exact ih ht h2.2 p hp
theorem s_neD {K : PySem.W.Frag} : OpSat K rNeDA oNeD := fun Hs H x y ox oy o sb kx ky e Q q => by
  simp only [oNeD, Option.bind_eq_some_iff] at e
  obtain ⟨ks, h1, ls, h2, h3⟩ := e
  split at h3
  · next c =>
    cases h3
    obtain ⟨a, es, rfl, ha, dd⟩ := asK_ok sb h1 kx
    obtain ⟨b, fs, rfl, hb, de⟩ := asK_ok sb h2 ky
    obtain ⟨l1, l2⟩ := dEq_ok c dd de
    exact ⟨a, b, es, fs, rfl, rfl, ha, hb, l1, l2, q.val sb (.bl _)⟩
  · cases h3
theorem s_eqD {K : PySem.W.Frag} : OpSat K rEqDA oEqD := fun Hs H x y ox oy o sb kx ky e Q q => by
  simp only [oEqD, Option.bind_eq_some_iff] at e
  obtain ⟨ks, h1, ls, h2, h3⟩ := e
  split at h3
  · next c =>
    cases h3
    obtain ⟨a, es, rfl, ha, dd⟩ := asK_ok sb h1 kx
    obtain ⟨b, fs, rfl, hb, de⟩ := asK_ok sb h2 ky
    obtain ⟨l1, l2⟩ := dEq_ok c dd de
    exact ⟨a, b, es, fs, rfl, rfl, ha, hb, l1, l2, q.val sb (.bl _)⟩
  · cases h3
/-- sep.join(xs) -/
def oJoin (x y : O) : Option O := (asS x).bind fun s => ((asLQ y).or (asT y)).bind fun ds => (asStrs ds).bind fun ys => if (ys.map (·.length)).sum + ys.length * s.length ≤ 16777216 then some (.shr (.str (Txt.join s ys))) else none
def rJoin (K : PySem.W.Frag) : V → List V → Hp → VK → Prop := fun x xs H Q => ∃ a p, ∃ ys : List Str, x = .str a ∧ xs = [.ref p] ∧ (SqL K H p (ys.map V.str) ∨ SqT K H p (ys.map V.str)) ∧ (ys.map (·.length)).sum + ys.length * a.length ≤ 16777216 ∧ Q (.str (Txt.join a ys)) H
def vJoin (fo fe : EF) : EF := fun env => (fo env).bind fun p => (hGet p.2 p.1).bind fun ox => (asS ox).bind fun s => (fe p.2).bind fun q => (hGet q.2 q.1).bind fun oy => (oJoin (.shr (.str s)) oy).bind fun o => some (.tmp o, q.2)
theorem sat_join {K : PySem.W.Frag} {to te : TE} {fo fe : EF} (ho : SatE K to fo) (he : SatE K te fe) : SatE K (tM1 (rJoin K) to te) (vJoin fo fe) := fun Hs H σ env h env' rr g Q q => by
  simp only [vJoin, Option.bind_eq_some_iff] at g
  obtain ⟨⟨x, e1⟩, g1, ox, g3, s, g5, ⟨y, e2⟩, g2, oy, g4, o, g6, g7⟩ := g
  obtain ⟨rfl, rfl⟩ := Prod.mk.inj (Option.some.inj g7)
  refine ho Hs H σ env x e1 rr g1 _ fun Hs1 H1 v p1 k1 f1 => ?_
  have ev := asS_ok g5 (k1.get p1.r g3)
  subst ev
  refine ⟨⟨s, rfl⟩, he Hs1 H1 σ e1 y _ p1.r g2 _ fun Hs2 H2 u p2 k2 f2 => ?_⟩
  simp only [oJoin, asS, Option.bind_some, Option.bind_eq_some_iff] at g6
  obtain ⟨ds, h1, ys, h2, h3⟩ := g6
  split at h3
  · next c =>
    cases h3
    have kk := k2.get p2.r g4
    cases e : asLQ oy with
    | some zs =>
      rw [e] at h1
      cases h1
      obtain ⟨a, xs, rfl, hq, dd⟩ := asLQ_ok p2.r.sub e kk
      have ex := asStrs_ok h2 dd
      subst ex
      exact ⟨s, a, ys, rfl, rfl, .inl hq, c, ((p1.trans p2).res q).val p2.r.sub (.str _)⟩
    | none =>
      rw [e] at h1
      obtain ⟨a, xs, rfl, hq, dd⟩ := asT_ok p2.r.sub h1 kk
      have ex := asStrs_ok h2 dd
      subst ex
      exact ⟨s, a, ys, rfl, rfl, .inr (SqT.of hq), c, ((p1.trans p2).res q).val p2.r.sub (.str _)⟩
  · cases h3
/-! ### {k: v, ..} -/
abbrev PsF := Sto → Option (List (Key × D) × Sto)
def SatPs (K : PySem.W.Frag) (trs : List (TE × TE)) (f : PsF) : Prop := ∀ Hs H σ env kvs env', R K Hs H σ env → f env = some (kvs, env') →
  ∀ Q : List (V × V) → Hp → Prop, (∀ Hs' H' es, Po K Hs H σ env Hs' H' σ env' → DdKv K Hs' kvs es → Q (es.map fun kv => (kV kv.1, kv.2)) H') → tPairs trs σ H Q
def pNil : PsF := fun env => some ([], env)
def pCons (fk : EF) (fv : DF) (r : PsF) : PsF := fun env => (fk env).bind fun p => (hGet p.2 p.1).bind fun ok => (keyO ok).bind fun k => (fv p.2).bind fun q => (r q.2).bind fun w => some ((k, q.1) :: w.1, w.2)
section
variable {K : PySem.W.Frag}
theorem sat_pNil : SatPs K [] pNil := fun Hs H σ env kvs env' rr g Q q => by
  obtain ⟨rfl, rfl⟩ := Prod.mk.inj (Option.some.inj g)
  exact q Hs H [] (Po.refl rr) .nil
theorem sat_pCons {tk tv : TE} {trs : List (TE × TE)} {fk : EF} {fv : DF} {r : PsF} (hk : SatE K tk fk) (hv : SatD K tv fv) (hr : SatPs K trs r) : SatPs K ((tk, tv) :: trs) (pCons fk fv r) := fun Hs H σ env kvs env' rr g Q q => by
  simp only [pCons, Option.bind_eq_some_iff] at g
  obtain ⟨⟨x, e1⟩, g1, ok, g2, k, g3, ⟨d, e2⟩, g4, ⟨w, e3⟩, g5, g6⟩ := g
  obtain ⟨rfl, rfl⟩ := Prod.mk.inj (Option.some.inj g6)
  refine hk Hs H σ env x e1 rr g1 _ fun Hs1 H1 v p1 k1 f1 => ?_
  have ev := keyO_ok g3 (k1.get p1.r g2)
  subst ev
  exact hv Hs1 H1 σ e1 d e2 p1.r g4 _ fun Hs2 H2 y p2 d2 => hr Hs2 H2 σ e2 w e3 p2.r g5 _ fun Hs3 H3 es p3 dd => q Hs3 H3 ((k, y) :: es) ((p1.trans p2).trans p3) (.cons (d2.mono p3.ext.hs) dd)
def mergeD (kvs more : List (Key × D)) : List (Key × D) := more.foldl (fun acc kv => putD acc kv.1 kv.2) kvs
theorem dd_merge {Hs : Hp} {more : List (Key × D)} : ∀ {ms : List (Key × V)} {kvs : List (Key × D)} {es : List (Key × V)}, DdKv K Hs more ms → DdKv K Hs kvs es → DdKv K Hs (mergeD kvs more) (mergeK es ms) := by
  induction more with
  | nil => intro ms kvs es h h2; cases h; exact h2
  | cons p r ih => intro ms kvs es h h2; cases h with | @cons k d v ds vs h1 ht => have z := ih ht (dd_put h2 k h1); exact z
def vDisp (f : PsF) : EF := fun env => (f env).bind fun p => if p.1.length ≤ 15 then some (.tmp (.od (mergeD [] p.1)), p.2) else none
/-- a new cell that nobody else has may be written -/
theorem Po.cell {Hs H Hs2 H2 : Hp} {σ : L2.St} {env env2 : Sto} {p : Addr} {u u0 : HO} (n : H p = none) (sb : ∀ a o, Hs a = some o → H a = some o) (rr : R K Hs H σ env) (p2 : Po K Hs (upd H p u0) σ env Hs2 H2 σ env2) (hs : Hs2 p = none) : Po K Hs H σ env Hs2 (upd H2 p u) σ env2 ∧ (∀ i, owns env2 i → σ[i]? ≠ some (some (.ref p))) := by
  have e0 : Po K Hs H σ env Hs (upd H p u0) σ env := Po.keep rr (ext_new n sb) (sub_new n sb)
  have pp := e0.trans p2
  have no : ∀ i, owns env i → σ[i]? ≠ some (some (.ref p)) := fun i ⟨s, es, ow⟩ ev => by
    obtain ⟨v, e, k⟩ := rr.ok i s es
    rw [ev] at e
    cases e
    obtain ⟨a, w, ea, _, hu⟩ := k.ref ow
    cases ea
    rw [n] at hu; cases hu
  have no2 : ∀ i, owns env2 i → σ[i]? ≠ some (some (.ref p)) := fun i oi ev => by
    rcases p2.own i p oi ev with ⟨o, e, _⟩ | z
    · exact no i o e
    · rw [upd_same] at z; cases z
  refine ⟨⟨⟨pp.r.len, fun a o h => ?_, fun i s es => ?_, pp.r.inj⟩, ⟨pp.ext.hs, fun a o h m => ?_, pp.ext.out, fun a o h => ?_⟩, pp.own, pp.pin, pp.lk, pp.np⟩, no2⟩
  · have : a ≠ p := fun z => by rw [z, hs] at h; cases h
    rw [upd_ne this]; exact pp.r.sub a o h
  · obtain ⟨v, ev, k⟩ := pp.r.ok i s es
    refine ⟨v, ev, ?_⟩
    cases hw : s.o.own with
    | false =>
      cases ho : s.o with
      | shr d => rw [ho] at k; exact k
      | ol _ => rw [ho] at hw; cases hw
      | od _ => rw [ho] at hw; cases hw
    | true =>
      have hne : v ≠ .ref p := fun z => no2 i ⟨s, es, hw⟩ (z ▸ ev)
      cases ho : s.o with
      | shr d => rw [ho] at hw; cases hw
      | ol ds =>
        rw [ho] at k
        obtain ⟨a, xs, rfl, k1, k2, k3⟩ := k
        exact ⟨a, xs, rfl, k1, by rw [upd_ne fun z => hne (by rw [z])]; exact k2, k3⟩
      | od ds =>
        rw [ho] at k
        obtain ⟨a, xs, rfl, k1, k2, k3⟩ := k
        exact ⟨a, xs, rfl, k1, by rw [upd_ne fun z => hne (by rw [z])]; exact k2, k3⟩
  · have : a ≠ p := fun z => by rw [z, n] at h; cases h
    rw [upd_ne this]; exact pp.ext.kp a o h m
  · by_cases z : a = p
    · exact ⟨u, by rw [z, upd_same]⟩
    · rw [upd_ne z]; exact pp.ext.dom a o h
theorem sat_disp {trs : List (TE × TE)} {f : PsF} (hf : SatPs K trs f) : SatE K (tDisp trs) (vDisp f) := fun Hs H σ env h env' rr g Q q => by
  simp only [vDisp, Option.bind_eq_some_iff] at g
  obtain ⟨⟨kvs, e1⟩, g1, g2⟩ := g
  split at g2
  · next hl =>
    obtain ⟨rfl, rfl⟩ := Prod.mk.inj (Option.some.inj g2)
    intro p n
    have e0 : Po K Hs H σ env Hs (upd H p (.dK [])) σ env := Po.keep rr (ext_new n rr.sub) (sub_new n rr.sub)
    refine hf Hs (upd H p (.dK [])) σ env kvs e1 e0.r g1 _ fun Hs2 H2 es p2 dd => ?_
    have nm : ¬ Mof σ env p := fun ⟨i, m, e⟩ => by
      obtain ⟨s, es, ow⟩ := m.owns
      obtain ⟨v, e', k⟩ := rr.ok i s es
      rw [e] at e'
      cases e'
      obtain ⟨a, w, ea, _, hu⟩ := k.ref ow
      cases ea
      rw [n] at hu; cases hu
    have hp := p2.ext.kp p _ upd_same nm
    have hs := p2.ext.out p _ upd_same (none_s n rr.sub) nm
    refine ⟨hp, es, rfl, by rw [dd_len dd]; exact hl, ?_⟩
    obtain ⟨p3, no⟩ := Po.cell (u := .dK (mergeK [] es)) n rr.sub rr p2 hs
    refine q Hs2 _ (.ref p) p3 ⟨⟨p, _, rfl, hs, upd_same, dd_merge dd .nil⟩, fun _ => no⟩ fun _ a e => ?_
    cases e
    exact n
  · cases g2
/-! ### d[k] = v, d one's own -/
def putO (k : Key) (d : D) : O → Option (D × O) := fun o => match o with
  | .od kvs => if kvs.length < 1000000 then some (.non, .od (putD kvs k d)) else none
  | _ => none
def sSetDx (i : Nat) (fv : DF) (fi : EF) : SF := fun env => (fv env).bind fun p => if kindS p.2 i = "dict" then (fi p.2).bind fun q => (hGet q.2 q.1).bind fun o => (keyO o).bind fun k => (mutS q.2 i (putO k p.1)).bind fun w => some (.nx w.2) else none
theorem sat_setDx {i : Nat} {tv ti : TE} {fv : DF} {fi : EF} (hv : SatD K tv fv) (hi : SatE K ti fi) : SatS K (sDPut (tVar i) ti tv) (sSetDx i fv fi) := fun Hs H σ env out rr g DE k => by
  simp only [sSetDx, Option.bind_eq_some_iff] at g
  obtain ⟨⟨d, e1⟩, g1, g⟩ := g
  split at g
  · next hk =>
    simp only [Option.bind_eq_some_iff] at g
    obtain ⟨⟨x, e2⟩, g2, o, g3, kk, g4, ⟨dn, e3⟩, g5, g6⟩ := g
    cases g6
    refine hv Hs H σ env d e1 rr g1 _ fun Hs1 H1 v p1 d1 => ?_
    obtain ⟨w, ew⟩ := slot_of p1.r hk (by decide)
    refine ⟨w, ew, hi Hs1 H1 σ e1 x e2 p1.r g2 _ fun Hs2 H2 iv p2 k2 f2 => ?_⟩
    obtain ⟨a, o, o', rfl, ko, ow, hg, go⟩ := (p1.trans p2).mutted ew g5
    have ey := keyO_ok g4 (k2.get p2.r g3)
    subst ey
    unfold putO at hg
    split at hg
    · next kvs =>
      split at hg
      · next hl =>
        cases hg
        obtain ⟨b, es, eb, n, hx, tx⟩ := ko
        cases eb
        have hz : es.length < sizeLine := by rw [dd_len tx, sizeLine_eq]; omega
        exact ⟨a, _, rfl, DPut.k hx hz, k Hs2 _ σ (go _ ⟨a, _, rfl, n, upd_same, dd_put tx kk (d1.mono p2.ext.hs)⟩)⟩
      · cases hg
    · cases hg
  · cases g
end
/-! ### the rules for the text -/
section
variable {X : Cx} {a b c o e k v : Expr} {es : List Expr} {ta tb tc te to tk tv : TE} {fa fb fc fo fe fk : EF} {fv : DF} {pos apos cpos : Pos}
theorem v_dget (hu : X.A.units + 64 < cLine) (ha : VE X a ta fa) (hb : VE X b tb fb) (hs : NoSl b := by exact fun _ _ => rfl) : VE X (.Subscript a b pos) (tDGet ta tb) (vBin oDGet fa fb) := ⟨pe_dget (by omega) ha.pe hb.pe hs, sat_bin s_dget ha.sat hb.sat⟩
theorem v_get2 (hu : X.A.units + 64 < cLine) (ha : VE X a ta fa) (hb : VE X b tb fb) (hc : VE X c tc fc) (m1 : attributeBase a "get" X.env (eval a X.env) = eval a X.env := by rfl) (m2 : ((backTo cpos (starEach [b, c] X.env)).all (fun x => !x.1) && (backToKw cpos (keywordEach [] X.env)).all (fun x => x.1.isSome)
    && decide (([b, c] : List Expr).length + ([] : List Keyword).length + (if ([] : List Keyword).isEmpty then 0 else 1) < 30)) = true := by rfl) (m3 : (apos.endLine == cpos.line) = true := by rfl) (m4 : backTo cpos (starEach [b, c] X.env) = [(false, eval b X.env), (false, eval c X.env)] := by rfl) :
    VE X (.Call (.Attribute a "get" apos) [b, c] [] cpos) (tDGet2 ta tb tc) (vGet2 fa fb fc) := ⟨pe_dget2 (by omega) ha.pe hb.pe hc.pe ⟨m1, m2, m3, m4⟩, sat_get2 ha.sat hb.sat hc.sat⟩
theorem v_get1 (hu : X.A.units + 64 < cLine) (ha : VE X a ta fa) (hb : VE X b tb fb) (m1 : attributeBase a "get" X.env (eval a X.env) = eval a X.env := by rfl) (m2 : ((backTo cpos (starEach [b] X.env)).all (fun x => !x.1) && (backToKw cpos (keywordEach [] X.env)).all (fun x => x.1.isSome)
    && decide (([b] : List Expr).length + ([] : List Keyword).length + (if ([] : List Keyword).isEmpty then 0 else 1) < 30)) = true := by rfl) (m3 : (apos.endLine == cpos.line) = true := by rfl) (m4 : backTo cpos (starEach [b] X.env) = [(false, eval b X.env)] := by rfl) :
    VE X (.Call (.Attribute a "get" apos) [b] [] cpos) (tDGet1 ta tb) (vGet1 fa fb) := ⟨pe_dget1 (by omega) ha.pe hb.pe ⟨m1, m2, m3, m4⟩, sat_get1 ha.sat hb.sat⟩
theorem v_dnew : VE X (.Dict [] [] pos) tDNewK (vO (.od [])) := ⟨pe_dnewK, sat_dnew⟩
structure VPs (X : Cx) (pos : Pos) (keys : List (Option Expr)) (values : List Expr) (trs : List (TE × TE)) (f : PsF) : Prop where
  pe : PPs X pos keys values trs
  sat : SatPs X.K trs f
theorem vps_nil : VPs X pos [] [] [] pNil := ⟨pps_nil, sat_pNil⟩
theorem vps_cons {ks : List (Option Expr)} {vs : List Expr} {trs : List (TE × TE)} {f : PsF} (hk : VE X k tk fk) (hv : VE X v tv fe) (hr : VPs X pos ks vs trs f) : VPs X pos (some k :: ks) (v :: vs) ((tk, tv) :: trs) (pCons fk (vTake fe) f) := ⟨pps_cons hk.pe hv.pe hr.pe, sat_pCons hk.sat (sat_take hv.sat) hr.sat⟩
theorem v_disp {keys : List (Option Expr)} {values : List Expr} {trs : List (TE × TE)} {f : PsF} (h : VPs X pos keys values trs f) (h1 : keys.all (·.isSome) = true := by rfl) (h2 : keys.length = values.length := by rfl) (h3 : keys ≠ [] := by exact List.cons_ne_nil _ _) (h4 : keys.length ≤ 15 := by decide) : VE X (.Dict keys values pos) (tDisp trs) (vDisp f) := ⟨pe_disp h.pe h1 h2 h3 h4, sat_disp h.sat⟩
theorem v_join {K : PySem.W.Frag} (ho : VE X o to fo) (he : VE X e te fe) (hs : starEach [e] X.env = [(false, eval e X.env)] := by rfl) (hbase : attributeBase o "join" X.env (eval o X.env) = eval o X.env := by rfl) (hline : (apos.endLine == pos.line) = true := by rfl) (eK : X.K = K := by rfl) :
    VE X (.Call (.Attribute o "join" apos) [e] [] pos) (tM1 (rJoin K) to te) (vJoin fo fe) := by subst eK; exact ⟨pe_join ho.pe he.pe hs hbase hline, sat_join ho.sat he.sat⟩
theorem v_setDx (i : Nat) {x : Str} {px p2 : Pos} {ix : Expr} {ti : TE} {fi : EF} (hu : X.A.units + 64 < cLine) (ho : VE X (.Name x px) (tVar i) (vVar i)) (hi : VE X ix ti fi) (hv : VE X e te fe) (hs : swapsWith e (some (.Subscript (.Name x px) ix p2)) pos.line X.env = pure false := by rfl) :
    VS X (.Assign [.Subscript (.Name x px) ix p2] e pos) (sDPut (tVar i) ti te) (sSetDx i (vTake fe) fi) := ⟨ps_dput (by omega) ho.pe hi.pe hv.pe hs, sat_setDx (sat_take hv.sat) hi.sat⟩
theorem call_dictR {X : Cx} : CallR X (.type "dict") rDictD := call_dictD
theorem op_neDK {X : Cx} (hu : X.A.units + 64 < cLine) : OpR X (compareOp .NotEq) rNeDA := op_ne_dictA (by omega)
theorem op_eqDK {X : Cx} (hu : X.A.units + 64 < cLine) : OpR X (compareOp .Eq) rEqDA := op_eq_dictA (by omega)
theorem v_globC {x : Str} {i : Int} (h : ∃ t, X.mg x = some (.int i t)) (hg : Gl X x := by rfl) (hd : (x == ("__debug__" : Str)) = false := by decide) : VE X (.Name x pos) (tC (.int i)) (vC (.int i)) := by
  obtain ⟨t, e⟩ := h
  exact v_globI hg e ⟨t, rfl⟩ hd
def sPar3 (i j l : Nat) (f : DsF) : SF := fun env => (f env).bind fun p => match p.1 with
  | [a, b, c] => (setS p.2 i (.shr a)).bind fun e1 => (setS e1 j (.shr b)).bind fun e2 => (setS e2 l (.shr c)).bind fun e3 => some (.nx e3)
  | _ => none
theorem sat_par3 {K : PySem.W.Frag} {i j l : Nat} {t : TA} {fds : DsF} (h : SatDs K t fds) : SatS K (tPar3 i j l t) (sPar3 i j l fds) := fun Hs H σ env out rr e DE k => by
  simp only [sPar3, Option.bind_eq_some_iff] at e
  obtain ⟨⟨ds, e1⟩, g1, g2⟩ := e
  refine h Hs H σ env ds e1 rr g1 _ fun Hs1 H1 vs p1 d1 => ?_
  match ds, d1, g2 with
  | [a, b, c], .cons da (.cons db (.cons dc .nil)), g2 =>
    simp only [Option.bind_eq_some_iff] at g2
    obtain ⟨e2, g3, e3, g4, e4, g5, g6⟩ := g2
    cases g6
    exact ⟨_, _, _, rfl, k Hs1 H1 _ (((p1.setD da g3).setD db g4).setD dc g5)⟩
theorem v_par3 (i j l : Nat) {x y z : Str} {fds : DsF} {t : TA} {px py pz pt : Pos} {kt k2 pt2} (hN : X.N.Nodup) (ha : VDs X [a, b, c] t fds) (hw : swappedStores [.Tuple [.Name x px, .Name y py, .Name z pz] kt pt] (.Tuple [a, b, c] k2 pt2) X.env = pure (some [x, y, z]) := by rfl) (hi : X.N[i]? = some x := by rfl) (hj : X.N[j]? = some y := by rfl) (hl : X.N[l]? = some z := by rfl) (hij : i ≠ j := by decide) (hil : i ≠ l := by decide) (hjl : j ≠ l := by decide)
    (hx : X.env.scope.names.lookup x = some .local := by rfl) (hy : X.env.scope.names.lookup y = some .local := by rfl) (hz : X.env.scope.names.lookup z = some .local := by rfl) (hc : X.calm = true := by rfl)
    (hs : swapsWithSole [.Tuple [.Name x px, .Name y py, .Name z pz] kt pt] (.Tuple [a, b, c] k2 pt2) pos.line X.env = pure false := by rfl) :
    VS X (.Assign [.Tuple [.Name x px, .Name y py, .Name z pz] kt pt] (.Tuple [a, b, c] k2 pt2) pos) (tPar3 i j l t) (sPar3 i j l fds) := ⟨ps_par3 hc hN hi hj hl hij hil hjl hx hy hz ha.pe hw hs, sat_par3 ha.sat⟩
end
end PV

set_option maxRecDepth 100000
set_option maxHeartbeats 2000000
namespace PV
open PySem L2
/-! ### running rules: dicts, join, three names at once -/
section
variable {env env' env1 : Sto} {fa fb fc : EF} {i j l : Nat} {d : D} {kvs ks : List (Key × D)} {k : Key} {p lk : Bool}
theorem xe_o {o : O} {Q : Hnd → Sto → Prop} (q : Q (.tmp o) env) : XE (vO o) env Q := ⟨_, _, rfl, q⟩
def getQ (kvs : List (Key × D)) (k : Key) (c : Hnd) (e : Sto) (Q : Hnd → Sto → Prop) : Prop := match valD kvs k with
  | some d => Q (.tmp (.shr d)) e
  | none => Q c e
theorem get_s {c : Hnd} {Q : Hnd → Sto → Prop} (h : valD kvs k = some d) (q : Q (.tmp (.shr d)) env) : getQ kvs k c env Q := by unfold getQ; rw [h]; exact q
theorem get_n {c : Hnd} {Q : Hnd → Sto → Prop} (h : valD kvs k = none) (q : Q c env) : getQ kvs k c env Q := by unfold getQ; rw [h]; exact q
theorem xe_get2 {Q : Hnd → Sto → Prop} (h : XE fa env fun a e => XO (hGet e a) fun x0 => XO (asK x0) fun _ => XE fb e fun b e1 => XE fc e1 fun c e2 => XO (hGet e2 a) fun x => XO (asK x) fun kvs => XO (hGet e2 b) fun y => XO (keyO y) fun k => getQ kvs k c e2 Q) : XE (vGet2 fa fb fc) env Q := by
  obtain ⟨a, e, h1, x0, h2, k0, h3, b, e1, h4, c, e2, h5, x, h6, kvs, h7, y, h8, k, h9, q⟩ := h
  unfold getQ at q
  cases hv : valD kvs k with
  | none => rw [hv] at q; exact ⟨c, e2, by simp only [vGet2, h1, Option.bind_some, h2, h3, h4, h5, h6, h7, h8, h9, hv], q⟩
  | some d => rw [hv] at q; exact ⟨.tmp (.shr d), e2, by simp only [vGet2, h1, Option.bind_some, h2, h3, h4, h5, h6, h7, h8, h9, hv], q⟩
theorem xe_get1 {Q : Hnd → Sto → Prop} (h : XE fa env fun a e => XO (hGet e a) fun x0 => XO (asK x0) fun _ => XE fb e fun b e1 => XO (hGet e1 a) fun x => XO (asK x) fun kvs => XO (hGet e1 b) fun y => XO (keyO y) fun k => Q (.tmp (.shr ((valD kvs k).getD .non))) e1) : XE (vGet1 fa fb) env Q := by
  obtain ⟨a, e, h1, x0, h2, k0, h3, b, e1, h4, x, h6, kvs, h7, y, h8, k, h9, q⟩ := h
  exact ⟨_, _, by simp only [vGet1, h1, Option.bind_some, h2, h3, h4, h6, h7, h8, h9], q⟩
theorem ak_o {Q : List (Key × D) → Prop} (q : Q kvs) : XO (asK (.od kvs)) Q := ⟨_, rfl, q⟩
theorem ak_s {Q : List (Key × D) → Prop} (q : Q kvs) : XO (asK (.shr (.dk kvs))) Q := ⟨_, rfl, q⟩
theorem ko_s {s : Str} {Q : Key → Prop} (q : Q (.inr s)) : XO (keyO (.shr (.str s))) Q := ⟨_, rfl, q⟩
theorem ko_i {s : Int} {Q : Key → Prop} (q : Q (.inl s)) : XO (keyO (.shr (.int s))) Q := ⟨_, rfl, q⟩
theorem xo_dget {x y : O} {Q : O → Prop} (h : XO (asK x) fun kvs => XO (keyO y) fun k => XO (valD kvs k) fun d => Q (.shr d)) : XO (oDGet x y) Q := by
  obtain ⟨kvs, h1, k, h2, d, h3, q⟩ := h
  exact ⟨_, by simp only [oDGet, h1, Option.bind_some, h2, h3, Option.map_some], q⟩
theorem xo_din {x y : O} {Q : O → Prop} (h : XO (asK x) fun kvs => XO (keyO y) fun k => Q (.shr (.bl (valD kvs k).isSome))) : XO (oDIn y x) Q := by
  obtain ⟨kvs, h1, k, h2, q⟩ := h
  exact ⟨_, by simp only [oDIn, h1, Option.bind_some, h2, Option.map_some], q⟩
theorem xo_dict {x : O} {Q : O → Prop} (h : XO (asK x) fun kvs => Q (.od kvs)) : XO (oDict [x]) Q := by
  obtain ⟨kvs, h1, q⟩ := h
  exact ⟨_, by simp only [oDict, one1, h1, Option.map_some], q⟩
theorem xo_neD {x y : O} {Q : O → Prop} (h : XO (asK x) fun ks => XO (asK y) fun ls => dEq ks ls = true ∧ Q (.shr (.bl false))) : XO (oNeD x y) Q := by
  obtain ⟨ks, h1, ls, h2, h3, q⟩ := h
  exact ⟨_, by simp only [oNeD, h1, Option.bind_some, h2, h3, if_true], q⟩
theorem xo_eqD {x y : O} {Q : O → Prop} (h : XO (asK x) fun ks => XO (asK y) fun ls => dEq ks ls = true ∧ Q (.shr (.bl true))) : XO (oEqD x y) Q := by
  obtain ⟨ks, h1, ls, h2, h3, q⟩ := h
  exact ⟨_, by simp only [oEqD, h1, Option.bind_some, h2, h3, if_true], q⟩
def XPs (f : PsF) (env : Sto) (Q : List (Key × D) → Sto → Prop) : Prop := ∃ h e, f env = some (h, e) ∧ Q h e
theorem xps_nil {Q : List (Key × D) → Sto → Prop} (q : Q [] env) : XPs pNil env Q := ⟨_, _, rfl, q⟩
theorem xps_cons {fv : DF} {r : PsF} {Q : List (Key × D) → Sto → Prop} (h : XE fa env fun a e => XO (hGet e a) fun x => XO (keyO x) fun k => XD fv e fun d e1 => XPs r e1 fun kvs e2 => Q ((k, d) :: kvs) e2) : XPs (pCons fa fv r) env Q := by
  obtain ⟨a, e, h1, x, h2, k, h3, d, e1, h4, kvs, e2, h5, q⟩ := h
  exact ⟨_, _, by simp only [pCons, h1, Option.bind_some, h2, h3, h4, h5], q⟩
theorem xe_disp {f : PsF} {Q : Hnd → Sto → Prop} (h : XPs f env fun kvs e => kvs.length ≤ 15 ∧ Q (.tmp (.od (mergeD [] kvs))) e) : XE (vDisp f) env Q := by
  obtain ⟨kvs, e, h1, h2, q⟩ := h
  exact ⟨_, _, by simp only [vDisp, h1, Option.bind_some, if_pos h2], q⟩
theorem len15 {kvs : List (Key × D)} {p : Prop} (h : kvs.length ≤ 15) (q : p) : kvs.length ≤ 15 ∧ p := ⟨h, q⟩
theorem xe_join {Q : Hnd → Sto → Prop} (h : XE fa env fun a e => XO (hGet e a) fun x => XO (asS x) fun s => XE fb e fun b e1 => XO (hGet e1 b) fun y => XO (oJoin (.shr (.str s)) y) fun z => Q (.tmp z) e1) : XE (vJoin fa fb) env Q := by
  obtain ⟨a, e, h1, x, h2, s, h3, b, e1, h4, y, h5, z, h6, q⟩ := h
  exact ⟨_, _, by simp only [vJoin, h1, Option.bind_some, h2, h3, h4, h5, h6], q⟩
theorem xas {s : Str} {Q : Str → Prop} (q : Q s) : XO (asS (.shr (.str s))) Q := ⟨_, rfl, q⟩
theorem xo_joinL {s : Str} {ds : List D} {ys : List Str} {Q : O → Prop} (h : asStrs ds = some ys) (hl : (ys.map (·.length)).sum + ys.length * s.length ≤ 16777216) (q : Q (.shr (.str (Txt.join s ys)))) : XO (oJoin (.shr (.str s)) (.ol ds)) Q :=
  ⟨_, by simp only [oJoin, asS, Option.bind_some, asLQ, Option.some_or, h, if_pos hl], q⟩
def XSd (i : Nat) (d : D) (fi : EF) (e : Sto) (Q : Out → Prop) : Prop := kindS e i = "dict" ∧ XE fi e fun a e1 => XO (hGet e1 a) fun x => XO (keyO x) fun k => XM i (putO k d) e1 fun _ e => Q (.nx e)
theorem xs_setDx {fv : DF} {fi : EF} {Q : Out → Prop} (h : XD fv env fun d e => XSd i d fi e Q) : XS (sSetDx i fv fi) env Q := by
  obtain ⟨d, e, h1, hk, a, e1, h2, x, h3, k, h4, w, h5, q⟩ := h
  exact ⟨_, by simp only [sSetDx, h1, Option.bind_some, if_pos hk, h2, h3, h4, h5], q⟩
theorem xsd {fi : EF} {Q : Out → Prop} (h0 : At env i (.od kvs) p lk) (h : XE fi env fun a e1 => XO (hGet e1 a) fun x => XO (keyO x) fun k => XM i (putO k d) e1 fun _ e => Q (.nx e)) : XSd i d fi env Q := ⟨by rw [kindS, h0.at]; rfl, h⟩
theorem xm_put {Q : D → Sto → Prop} (h0 : At env i (.od kvs) p lk) (hl : kvs.length < 1000000) (h : Chg env i (.od kvs) (.od (putD kvs k d)) env') (q : Q .non env') : XM i (putO k d) env Q := xm2 h (by simp only [putO, if_pos hl]) rfl rfl q
theorem xs_par3 {f : DsF} {Q : Out → Prop} (h : XDs f env fun ds e => ∃ a b c, ds = [a, b, c] ∧ XO (setS e i (.shr a)) fun e1 => XO (setS e1 j (.shr b)) fun e2 => XO (setS e2 l (.shr c)) fun e3 => Q (.nx e3)) : XS (sPar3 i j l f) env Q := by
  obtain ⟨ds, e, h1, a, b, c, rfl, e1, h2, e2, h3, e3, h4, q⟩ := h
  exact ⟨_, by simp only [sPar3, h1, Option.bind_some, h2, h3, h4], q⟩
theorem par3 {a b c : D} {P : D → D → D → Prop} (h : P a b c) : ∃ x y z, [a, b, c] = [x, y, z] ∧ P x y z := ⟨_, _, _, rfl, h⟩
/-! comprehensions over two names -/
def lcQ2 (g : GF) (f : DF) (v w : Nat) (Q : Hnd → Sto → Prop) (ds : List D) (lk : Option (Nat × Slot)) (e : Sto) : Prop := match lk with
    | none => ∃ e1 e1' x y, SetAt e w none e1 ∧ SetAt e1 v none e1' ∧ Slt e w x ∧ Slt e v y ∧ XC g bYes f [v, w] ds [] e1' fun acc e2 => ∃ e3 e3', SetAt e2 w x e3 ∧ SetAt e3 v y e3' ∧ Q (.tmp (.ol acc)) e3'
    | some (i, s) => ∃ e0 e1 e1' x y, SetAt e i (some { s with lk := true }) e0 ∧ SetAt e0 w none e1 ∧ SetAt e1 v none e1' ∧ Slt e0 w x ∧ Slt e0 v y ∧ XC g bYes f [v, w] ds [] e1' fun acc e2 => ∃ e3 e3' e4, SetAt e2 w x e3 ∧ SetAt e3 v y e3' ∧ SetAt e3' i (some s) e4 ∧ Q (.tmp (.ol acc)) e4
theorem xe_lc2 {fi : IF} {g : GF} {f : DF} {v w : Nat} {Q : Hnd → Sto → Prop} (h : XI fi env (lcQ2 g f v w Q)) : XE (vLc fi g bYes f [v, w]) env Q := by
  refine xe_lc ?_
  obtain ⟨ds, lk, e, h1, h2⟩ := h
  refine ⟨ds, lk, e, h1, ?_⟩
  match lk, h2 with
  | none, ⟨e1, e1', x, y, h3, h3', h4, h4', acc, e2, h5, e3, e3', h6, h6', q⟩ =>
    have a := h3.eq
    subst a
    have a := h3'.eq
    subst a
    refine ⟨acc, e2, h5, ?_⟩
    have b : restE e2 e [v, w] = e3' := by rw [← h6'.eq, ← h6.eq, ← h4.at, ← h4'.at]; rfl
    show Q _ (restE e2 e [v, w])
    rw [b]; exact q
  | some (i, s), ⟨e0, e1, e1', x, y, h3, h7, h8, h4, h4', acc, e2, h5, e3, e3', e4, h6, h6', h9, q⟩ =>
    have a := h3.eq
    subst a
    have a := h7.eq
    subst a
    have a := h8.eq
    subst a
    refine ⟨acc, e2, h5, ?_⟩
    have b : restE e2 (e.set i (some { s with lk := true })) [v, w] = e3' := by rw [← h6'.eq, ← h6.eq, ← h4.at, ← h4'.at]; rfl
    show Q _ ((restE e2 (e.set i (some { s with lk := true })) [v, w]).set i (some s))
    rw [b, h9.eq]; exact q
theorem lc2_n {g : GF} {f : DF} {v w : Nat} {Q : Hnd → Sto → Prop} {ds : List D} {x y : Option Slot} {e1 e1' : Sto} (h1 : SetAt env w none e1) (h2 : SetAt e1 v none e1') (h3 : Slt env w x) (h4 : Slt env v y) (h : XC g bYes f [v, w] ds [] e1' fun acc e2 => ∃ e3 e3', SetAt e2 w x e3 ∧ SetAt e3 v y e3' ∧ Q (.tmp (.ol acc)) e3') : lcQ2 g f v w Q ds none env := ⟨_, _, _, _, h1, h2, h3, h4, h⟩
theorem lc2_l {g : GF} {f : DF} {v w : Nat} {Q : Hnd → Sto → Prop} {ds : List D} {x y : Option Slot} {o : O} {e0 e1 e1' : Sto} (h0 : SetAt env i (some ⟨o, p, true⟩) e0) (h1 : SetAt e0 w none e1) (h2 : SetAt e1 v none e1') (h3 : Slt e0 w x) (h4 : Slt e0 v y) (h : XC g bYes f [v, w] ds [] e1' fun acc e2 => ∃ e3 e3' e4, SetAt e2 w x e3 ∧ SetAt e3 v y e3' ∧ SetAt e3' i (some ⟨o, p, lk⟩) e4 ∧ Q (.tmp (.ol acc)) e4) : lcQ2 g f v w Q ds (some (i, ⟨o, p, lk⟩)) env := ⟨_, _, _, _, _, h0, h1, h2, h3, h4, h⟩
def accQ2 (acc : List D) (v w : Nat) (I : List D → Sto → Prop) (y : D) (e : Sto) : Prop := acc.length < 1000000 ∧ ∃ e' e'', SetAt e w none e' ∧ SetAt e' v none e'' ∧ I (acc ++ [y]) e''
theorem xc2_cons {g : GF} {f : DF} {v w : Nat} {ds acc : List D} {Q : List D → Sto → Prop} (h : XO (g d env) fun e1 => XD f e1 (accQ2 acc v w fun acc' e' => XC g bYes f [v, w] ds acc' e' Q)) : XC g bYes f [v, w] (d :: ds) acc env Q :=
  xc_cons (h.mono fun e1 h1 => by
    obtain ⟨y, e3, h2, h3, e', e'', h4, h4', h5⟩ := h1
    refine ⟨true, e1, rfl, fun _ => ⟨y, e3, h2, h3, ?_⟩, fun z => nomatch z⟩
    have b := h4.eq
    subst b
    have b := h4'.eq
    subst b
    exact h5)
theorem xc2_nil {g : GF} {f : DF} {v w : Nat} {acc : List D} {Q : List D → Sto → Prop} (q : Q acc env) : XC g bYes f [v, w] [] acc env Q := xc_nil q
theorem acc2 {acc : List D} {v w : Nat} {I : List D → Sto → Prop} {y : D} {e' e'' : Sto} (h : acc.length < 1000000) (h2 : SetAt env w none e') (h3 : SetAt e' v none e'') (q : I (acc ++ [y]) e'') : accQ2 acc v w I y env := ⟨h, _, _, h2, h3, q⟩
/-! the same -/
theorem dEq_self {kvs : List (Key × D)} (h : (kvs.map (·.1)).Nodup) (hf : ∀ p ∈ kvs, ∃ v, flat? p.2 = some v ∧ flatB v = true) : dEq kvs kvs = true := by
  unfold dEq
  rw [Bool.and_eq_true]
  refine ⟨decide_eq_true rfl, ?_⟩
  have key : ∀ (l : List (Key × D)), (l.map (·.1)).Nodup → ∀ p ∈ l, valD l p.1 = some p.2 := by
    intro l
    induction l with
    | nil => intro _ p hp; cases hp
    | cons q r ih =>
      intro hn p hp
      rw [List.map_cons, List.nodup_cons] at hn
      rcases List.mem_cons.mp hp with rfl | hp
      · simp [valD, List.find?_cons]
      · have hne : ¬ q.1 = p.1 := fun z => hn.1 (z ▸ List.mem_map.mpr ⟨p, hp, rfl⟩)
        have := ih hn.2 p hp
        simpa [valD, List.find?_cons, hne] using this
  rw [List.all_eq_true]
  intro p hp
  obtain ⟨v, h1, h2⟩ := hf p hp
  rw [key kvs h p hp, Option.bind_some, h1]
  simp [h2]
end
end PV

set_option maxRecDepth 100000
set_option maxHeartbeats 2000000
namespace PV
open PySem L2 PySem.Spec PyProof.Rows
/-! ### pop(), pop(0), str.index, str of a text, a list times a number, a text in a text, a written dict of the module -/
section
variable {K : PySem.W.Frag}
def mPop0 : List D → O → Option (D × O) := fun ds o => match ds, o with
  | [.int 0], .ol (e :: es) => some (e, .ol es)
  | _, _ => none
theorem s_pop0 : MtSat K rPopAt mPop0 := fun Hs H a o ds vs d o' sb k ow dd e Q q => by
  unfold mPop0 at e
  split at e
  · next x es =>
    cases e
    obtain ⟨b, xs, eb, n, hx, tx⟩ := k
    cases eb
    cases dd with
    | cons d1 d2 =>
      cases d2
      cases d1
      cases tx with
      | @cons _ y _ ys h1 h2 =>
        refine ⟨a, y :: ys, 0, 0, y, rfl, rfl, hx, by decide, by decide, ?_, rfl, q _ _ h1 ⟨a, _, rfl, n, upd_same, h2⟩⟩
        simp [seqIndex?]
  · cases e
def oStrS : List O → Option O := one1 fun o => (asS o).map fun s => .shr (.str s)
def oStrA (os : List O) : Option O := (oStr os).or (oStrS os)
def rStrA : List V → Hp → VK → Prop := fun xs H Q => rStrI xs H Q ∨ ∃ a, xs = [.str a] ∧ Q (.str a) H
theorem s_strA : CallSat K rStrA oStrA := by
  refine CallSat.or s_str (sat_one fun Hs H x ox o sb k e Q q => ?_)
  simp only [Option.map_eq_some_iff] at e
  obtain ⟨s, hs, rfl⟩ := e
  exact ⟨s, by rw [asS_ok hs k], q.val sb (.str _)⟩
theorem call_strA {X : Cx} : CallR X (.type "str") rStrA := call_str_int.or SkE.call_str_str
def oRep (x y : O) : Option O := (asL x).bind fun ds => (asI y).bind fun k => if ds.length ≤ 1000 ∧ -1000 ≤ k ∧ k ≤ 1000 then some (.ol (List.replicate k.toNat ds).flatten) else none
theorem DdAll.rep {Hs : Hp} {ds : List D} {xs : List V} (h : DdAll K Hs ds xs) : ∀ n : Nat, DdAll K Hs (List.replicate n ds).flatten (List.replicate n xs).flatten
  | 0 => .nil
  | n + 1 => by
    rw [List.replicate_succ, List.replicate_succ, List.flatten_cons, List.flatten_cons]
    exact h.append (DdAll.rep h n)
theorem s_rep : OpSat K rRep oRep := by
  intro Hs H x y ox oy o sb kx ky e Q q
  simp only [oRep, Option.bind_eq_some_iff] at e
  obtain ⟨ds, h1, k, h2, e⟩ := e
  split at e
  · next h =>
    cases e
    obtain ⟨a, xs, rfl, ha, da⟩ := asL_ok sb h1 kx
    refine ⟨a, k, xs, rfl, asI_ok h2 ky, ha, by omega, by omega, ?_, q.lst sb (da.rep _)⟩
    rw [da.length]
    have z : k.toNat ≤ 1000 := by omega
    exact Nat.le_trans (Nat.mul_le_mul h.1 z) (by decide)
  · cases e
def oInStr (x y : O) : Option O := (asS x).bind fun i => (asS y).map fun j => .shr (.bl (!(Builtin.Str.occurrences j i 0 j.length 1).isEmpty))
def rInStr : R2 := fun x y H Q => ∃ i j, x = .str i ∧ y = .str j ∧ Q (.bl (!(Builtin.Str.occurrences j i 0 j.length 1).isEmpty)) H
theorem s_inStr : OpSat K rInStr oInStr := by
  intro Hs H x y ox oy o sb kx ky e Q q
  simp only [oInStr, Option.bind_eq_some_iff, Option.map_eq_some_iff] at e
  obtain ⟨i, hi, j, hj, rfl⟩ := e
  exact ⟨i, j, asS_ok hi kx, asS_ok hj ky, q.val sb (.bl _)⟩
theorem op_inStrR {X : Cx} : OpR X (compareOp .In) rInStr := op_in_str
def oNotInStr (x y : O) : Option O := (asS x).bind fun i => (asS y).map fun j => .shr (.bl (!(!(Builtin.Str.occurrences j i 0 j.length 1).isEmpty)))
def rNotInStr : R2 := fun x y H Q => ∃ i j, x = .str i ∧ y = .str j ∧ Q (.bl (!(!(Builtin.Str.occurrences j i 0 j.length 1).isEmpty))) H
theorem s_notInStr : OpSat K rNotInStr oNotInStr := by
  intro Hs H x y ox oy o sb kx ky e Q q
  simp only [oNotInStr, Option.bind_eq_some_iff, Option.map_eq_some_iff] at e
  obtain ⟨i, hi, j, hj, rfl⟩ := e
  exact ⟨i, j, asS_ok hi kx, asS_ok hj ky, q.val sb (.bl _)⟩
theorem op_notInStrR {X : Cx} : OpR X (compareOp .NotIn) rNotInStr := op_notIn_str
/-! a.index(b), texts -/
def oSidx (x y : O) : Option O := (asS x).bind fun a => (asS y).bind fun b => match Builtin.Str.occurrences a b 0 a.length 1 with
  | i :: _ => some (.shr (.int (i : Nat)))
  | [] => none
def rSidx : V → List V → Hp → VK → Prop := fun x xs H Q => ∃ a b i rest, x = .str a ∧ xs = [.str b] ∧ Builtin.Str.occurrences a b 0 a.length 1 = i :: rest ∧ Q (.int (i : Nat)) H
def vSidx (fo fe : EF) : EF := fun env => (fo env).bind fun p => (hGet p.2 p.1).bind fun ox => (asS ox).bind fun s => (fe p.2).bind fun q => (hGet q.2 q.1).bind fun oy => (oSidx (.shr (.str s)) oy).bind fun o => some (.tmp o, q.2)
theorem sat_sidx {to te : TE} {fo fe : EF} (ho : SatE K to fo) (he : SatE K te fe) : SatE K (tM1 rSidx to te) (vSidx fo fe) := fun Hs H σ env h env' rr g Q q => by
  simp only [vSidx, Option.bind_eq_some_iff] at g
  obtain ⟨⟨x, e1⟩, g1, ox, g3, s, g5, ⟨y, e2⟩, g2, oy, g4, o, g6, g7⟩ := g
  obtain ⟨rfl, rfl⟩ := Prod.mk.inj (Option.some.inj g7)
  refine ho Hs H σ env x e1 rr g1 _ fun Hs1 H1 v p1 k1 f1 => ?_
  have ev := asS_ok g5 (k1.get p1.r g3)
  subst ev
  refine ⟨⟨s, rfl⟩, he Hs1 H1 σ e1 y _ p1.r g2 _ fun Hs2 H2 u p2 k2 f2 => ?_⟩
  simp only [oSidx, asS, Option.bind_some, Option.bind_eq_some_iff] at g6
  obtain ⟨b, h1, h2⟩ := g6
  have kk := k2.get p2.r g4
  have eu := asS_ok (o := oy) h1 kk
  subst eu
  split at h2
  · next i rest hh =>
    cases h2
    exact ⟨s, b, i, rest, rfl, rfl, hh, ((p1.trans p2).res q).val p2.r.sub (.int _)⟩
  · cases h2
/-! a written dict of the module: texts to texts -/
def TabOk : List DictEntry → List (Str × Str) → Prop
  | [], [] => True
  | e :: r, p :: s => (∃ t, e.key = .str p.1 t) ∧ (∃ t, e.val = .str p.2 t) ∧ TabOk r s
  | _, _ => False
theorem TabOk.find {z : Str} : ∀ {l : List DictEntry} {kvs : List (Str × Str)}, TabOk l kvs → (match kvs.lookup z with
    | some v => ∃ e t, l.find? (·.key.isStr z) = some e ∧ e.val = .str v t
    | none => l.find? (·.key.isStr z) = none ∧ l.any (·.refKey) = false)
  | [], [], _ => ⟨rfl, rfl⟩
  | [], _ :: _, h => h.elim
  | _ :: _, [], h => h.elim
  | e :: r, p :: s, ⟨⟨t, h1⟩, ⟨t2, h2⟩, h3⟩ => by
    obtain ⟨k, v⟩ := p
    have ih := TabOk.find (z := z) h3
    have ek : e.key.isStr z = (k == z) := by rw [h1]; rfl
    have er : e.refKey = false := by unfold DictEntry.refKey; rw [h1]
    by_cases c : z = k
    · subst c
      have e1 : (z == z) = true := by simp
      rw [List.lookup_cons, e1]
      exact ⟨e, t2, by rw [List.find?_cons, ek, e1], h2⟩
    · have e1 : (z == k) = false := by simpa using c
      have e2 : (k == z) = false := by simpa using fun w : k = z => c w.symm
      rw [List.lookup_cons, e1]
      dsimp only
      cases hl : s.lookup z with
      | some w =>
        rw [hl] at ih
        obtain ⟨e', t', h4, h5⟩ := ih
        exact ⟨e', t', by rw [List.find?_cons, ek, e2]; exact h4, h5⟩
      | none =>
        rw [hl] at ih
        exact ⟨by rw [List.find?_cons, ek, e2]; exact ih.1, by rw [List.any_cons, er, ih.2] <;> rfl⟩
/-- where it stands -/
structure TabAt (K : PySem.W.Frag) (w : World) (d : Addr) (kvs : List (Str × Str)) : Prop where
  ex : ∃ es n, KDict K w d es n ∧ TabOk es.toList kvs
theorem TabAt.some {w : World} {d : Addr} {kvs : List (Str × Str)} {z v : Str} {es : Array DictEntry} {n : Nat} (D : KDict K w d es n) (h : TabOk es.toList kvs) (hl : kvs.lookup z = some v) : ∃ t, PySem.W.nsIn K d z = some (some (.str v t)) := by
  have q := h.find (z := z)
  rw [hl] at q
  obtain ⟨e, t, h1, h2⟩ := q
  refine ⟨t, ?_⟩
  unfold PySem.W.nsIn
  rw [D.at_]
  dsimp only
  rw [h1, ← h2]
theorem TabAt.none {w : World} {d : Addr} {kvs : List (Str × Str)} {z : Str} {es : Array DictEntry} {n : Nat} (D : KDict K w d es n) (h : TabOk es.toList kvs) (hl : kvs.lookup z = none) : PySem.W.nsIn K d z = Option.some Option.none := by
  have q := h.find (z := z)
  rw [hl] at q
  unfold PySem.W.nsIn
  rw [D.at_]
  dsimp only
  rw [q.1, q.2] <;> rfl
def oInG (kvs : List (Str × Str)) (x : O) : Option O := (asS x).map fun s => .shr (.bl (kvs.lookup s).isSome)
def oIxG (kvs : List (Str × Str)) (x : O) : Option O := (asS x).bind fun s => (kvs.lookup s).map fun t => .shr (.str t)
def rInG (K : PySem.W.Frag) (d : Addr) : R2 := fun x y H Q => ∃ (z : Str) (r : Option Value), x = .str z ∧ y = .ref d ∧ PySem.W.nsIn K d z = some r ∧ Q (.bl r.isSome) H
theorem s_inG {w : World} {d : Addr} {kvs : List (Str × Str)} (T : TabAt K w d kvs) : UnSat K (fun x H Q => rInG K d x (.ref d) H Q) (oInG kvs) := by
  intro Hs H x ox o sb kx e Q q
  obtain ⟨es, n, D, h⟩ := T.ex
  simp only [oInG, Option.map_eq_some_iff] at e
  obtain ⟨z, hz, rfl⟩ := e
  have ex := asS_ok hz kx
  cases hl : kvs.lookup z with
  | some v =>
    rw [hl] at q
    obtain ⟨t, ht⟩ := TabAt.some D h hl
    exact ⟨z, _, ex, rfl, ht, q.val sb (.bl _)⟩
  | none =>
    rw [hl] at q
    exact ⟨z, _, ex, rfl, TabAt.none D h hl, q.val sb (.bl _)⟩
theorem s_ixG {w : World} {d : Addr} {kvs : List (Str × Str)} (T : TabAt K w d kvs) : UnSat K (fun x H Q => rIxD K w (.ref d) x H Q) (oIxG kvs) := by
  intro Hs H x ox o sb kx e Q q
  obtain ⟨es, n, D, h⟩ := T.ex
  simp only [oIxG, Option.bind_eq_some_iff, Option.map_eq_some_iff] at e
  obtain ⟨z, hz, v, hl, rfl⟩ := e
  have ex := asS_ok hz kx
  obtain ⟨t, ht⟩ := TabAt.some D h hl
  exact ⟨d, z, .str v, rfl, ex, ⟨es, n, _, D.at_, D.lit, ht, ⟨t, rfl⟩⟩, q.val sb (.str _)⟩
end
/-! ### the rules for the text -/
section
variable {X : Cx} {a b c o e k v : Expr} {es : List Expr} {ta tb tc te to tk tv : TE} {fa fb fc fo fe fk : EF} {pos apos cpos : Pos}
theorem v_pop {x : Str} {p : Pos} (i : Nat) (ho : VE X (.Name x p) (tVar i) (vVar i)) (hbase : attributeBase (.Name x p) "pop" X.env (eval (.Name x p) X.env) = eval (.Name x p) X.env := by rfl) (hline : (apos.endLine == cpos.line) = true := by rfl) :
    VE X (.Call (.Attribute (.Name x p) "pop" apos) [] [] cpos) (tBM0 X.K "list" rPop (tVar i)) (vMt i "list" mPop vNilD) :=
  ⟨pe_bm0 PySem.F.plainAttrs_list PySem.F.slot_list_pop PySem.F.type_list_pop mt_pop ho.pe hbase hline, sat_mt0 s_pop (by decide)⟩
theorem v_pop0 {x : Str} {p : Pos} (i : Nat) (ho : VE X (.Name x p) (tVar i) (vVar i)) (h : VE X e te fe)
    (hbase : attributeBase (.Name x p) "pop" X.env (eval (.Name x p) X.env) = eval (.Name x p) X.env := by rfl)
    (hfew : ((backTo cpos (starEach [e] X.env)).all (fun x => !x.1) && (backToKw cpos (keywordEach [] X.env)).all (fun x => x.1.isSome)
      && decide (([e] : List Expr).length + ([] : List Keyword).length + (if ([] : List Keyword).isEmpty then 0 else 1) < 30)) = true := by rfl)
    (hline : (apos.endLine == cpos.line) = true := by rfl) (hst : starEach [e] X.env = (false, eval e X.env) :: starEach [] X.env := by rfl) (hplain : (backTo cpos (starEach [] X.env)).any (·.1) = false := by rfl) :
    VE X (.Call (.Attribute (.Name x p) "pop" apos) [e] [] cpos) (tBM X.K "list" rPopAt (tVar i) (tCons te tNil)) (vMt i "list" mPop0 (vConsD (vTake fe) vNilD)) :=
  v_mt i PySem.F.plainAttrs_list PySem.F.slot_list_pop PySem.F.type_list_pop mt_popAt s_pop0 (by decide) ho (vds_cons h vds_nil hst) hbase hfew hline hst hplain
theorem v_sidx (ho : VE X o to fo) (he : VE X e te fe) (hs : starEach [e] X.env = [(false, eval e X.env)] := by rfl) (hbase : attributeBase o "index" X.env (eval o X.env) = eval o X.env := by rfl) (hline : (apos.endLine == pos.line) = true := by rfl) :
    VE X (.Call (.Attribute o "index" apos) [e] [] pos) (tM1 rSidx to te) (vSidx fo fe) := ⟨pe_m1 PySem.F.slot_str_index PySem.F.type_str_index mt_sindex ho.pe he.pe hs hbase hline, sat_sidx ho.sat he.sat⟩
theorem v_rep (ha : VE X a ta fa) (hb : VE X b tb fb) : VE X (.BinOp a .Mult b pos) (tOp rRep ta tb) (vBin oRep fa fb) := ⟨pe_op op_rep ha.pe hb.pe, sat_bin s_rep ha.sat hb.sat⟩
/-- the dict of the module under the name x -/
structure TabG (K : PySem.W.Frag) (w : World) (mg : Str → Option Value) (x : Str) (kvs : List (Str × Str)) : Prop where
  ex : ∃ d, mg x = some (.ref d) ∧ TabAt K w d kvs
theorem v_inG {x : Str} {p : Pos} {kvs : List (Str × Str)} {K : PySem.W.Frag} {w : World} {mg : Str → Option Value} (T : TabG K w mg x kvs) (ha : VE X a ta fa) (hg : Gl X x := by rfl) (hd : (x == ("__debug__" : Str)) = false := by decide) (hm : behindInMarks .In (.Name x p) = false := by first | exact nomark _ (by decide) (by decide) | rfl)
    (eK : X.K = K := by rfl) (ew : X.w = w := by rfl) (em : X.mg = mg := by rfl) :
    VE X (.Compare a [.In] [.Name x p] pos) (tOp (rInG K T.ex.choose) ta (tC (.ref T.ex.choose))) (vUn (oInG kvs) fa) := by
  subst eK ew em
  obtain ⟨h1, h2⟩ := T.ex.choose_spec
  obtain ⟨es, n, D, _⟩ := h2.ex
  exact ⟨pe_cmpR (op_in_kd D) ha.pe (pe_glob hg h1 rfl hd) hm, sat_un (s_inG h2) ha.sat⟩
theorem vt_inG {x : Str} {p : Pos} {kvs : List (Str × Str)} {K : PySem.W.Frag} {w : World} {mg : Str → Option Value} (T : TabG K w mg x kvs) (ha : VE X a ta fa) (hg : Gl X x := by rfl) (hd : (x == ("__debug__" : Str)) = false := by decide) (hm : behindInMarks .In (.Name x p) = false := by first | exact nomark _ (by decide) (by decide) | rfl)
    (eK : X.K = K := by rfl) (ew : X.w = w := by rfl) (em : X.mg = mg := by rfl) :
    VT X (.Compare a [.In] [.Name x p] pos) (tTest (tOp (rInG K T.ex.choose) ta (tC (.ref T.ex.choose)))) (bVal (vUn (oInG kvs) fa)) := by
  subst eK ew em
  obtain ⟨h1, h2⟩ := T.ex.choose_spec
  obtain ⟨es, n, D, _⟩ := h2.ex
  exact ⟨pt_cmpR (op_in_kd D) ha.pe (pe_glob hg h1 rfl hd) hm, sat_test (sat_un (s_inG h2) ha.sat)⟩
theorem v_ixG {x : Str} {p : Pos} {kvs : List (Str × Str)} {K : PySem.W.Frag} {w : World} {mg : Str → Option Value} (T : TabG K w mg x kvs) (hb : VE X b tb fb) (hg : Gl X x := by rfl) (hd : (x == ("__debug__" : Str)) = false := by decide) (hs : PlainIx b := by exact fun _ _ => rfl)
    (eK : X.K = K := by rfl) (ew : X.w = w := by rfl) (em : X.mg = mg := by rfl) :
    VE X (.Subscript (.Name x p) b pos) (tOp (rIxD K w) (tC (.ref T.ex.choose)) tb) (vUn (oIxG kvs) fb) := by
  subst eK ew em
  obtain ⟨h1, h2⟩ := T.ex.choose_spec
  exact ⟨pe_ix ix_kdict (pe_glob hg h1 rfl hd) hb.pe hs, sat_un (s_ixG h2) hb.sat⟩
end
/-! ### running rules -/
section
variable {env env' env1 : Sto} {fa fb fc : EF} {i j l : Nat} {d : D} {p lk : Bool}
theorem xo_strAS {s : Str} {Q : O → Prop} (q : Q (.shr (.str s))) : XO (oStrA [.shr (.str s)]) Q := ⟨_, by simp [oStrA, oStr, oStrS, one1, asI, asS], q⟩
theorem xo_strAI {x : Int} {Q : O → Prop} (h : x.natAbs.log2 < 1920) (q : Q (.shr (.str (toString x)))) : XO (oStrA [.shr (.int x)]) Q := ⟨_, by simp [oStrA, oStr, oStrS, one1, asI, asS, h], q⟩
theorem xo_rep {x : O} {ds : List D} {k : Int} {Q : O → Prop} (h : asL x = some ds) (hl : ds.length ≤ 1000 ∧ -1000 ≤ k ∧ k ≤ 1000) (q : Q (.ol (List.replicate k.toNat ds).flatten)) : XO (oRep x (.shr (.int k))) Q := ⟨_, by simp only [oRep, h, asI, Option.bind_some, if_pos hl], q⟩
theorem xo_inStr {s t : Str} {Q : O → Prop} (q : Q (.shr (.bl (!(Builtin.Str.occurrences t s 0 t.length 1).isEmpty)))) : XO (oInStr (.shr (.str s)) (.shr (.str t))) Q := ⟨_, rfl, q⟩
theorem xo_notInStr {s t : Str} {Q : O → Prop} (q : Q (.shr (.bl (!(!(Builtin.Str.occurrences t s 0 t.length 1).isEmpty))))) : XO (oNotInStr (.shr (.str s)) (.shr (.str t))) Q := ⟨_, rfl, q⟩
theorem xo_inG {kvs : List (Str × Str)} {s : Str} {Q : O → Prop} (q : Q (.shr (.bl (kvs.lookup s).isSome))) : XO (oInG kvs (.shr (.str s))) Q := ⟨_, rfl, q⟩
theorem xo_ixG {kvs : List (Str × Str)} {s t : Str} {Q : O → Prop} (h : kvs.lookup s = some t) (q : Q (.shr (.str t))) : XO (oIxG kvs (.shr (.str s))) Q := ⟨_, by simp only [oIxG, asS, Option.bind_some, h, Option.map_some], q⟩
theorem xe_sidx {Q : Hnd → Sto → Prop} (h : XE fa env fun a e => XO (hGet e a) fun x => XO (asS x) fun s => XE fb e fun b e1 => XO (hGet e1 b) fun y => XO (oSidx (.shr (.str s)) y) fun z => Q (.tmp z) e1) : XE (vSidx fa fb) env Q := by
  obtain ⟨a, e, h1, x, h2, s, h3, b, e1, h4, y, h5, z, h6, q⟩ := h
  exact ⟨_, _, by simp only [vSidx, h1, Option.bind_some, h2, h3, h4, h5, h6], q⟩
theorem xo_sidx {s t : Str} {n : Nat} {r : List Nat} {Q : O → Prop} (h : Builtin.Str.occurrences s t 0 s.length 1 = n :: r) (q : Q (.shr (.int (n : Nat)))) : XO (oSidx (.shr (.str s)) (.shr (.str t))) Q := ⟨_, by simp only [oSidx, asS, Option.bind_some, h], q⟩
theorem xm_pop0 {ds : List D} {e : D} {Q : D → Sto → Prop} (h0 : At env i (.ol (e :: ds)) p lk) (h : Chg env i (.ol (e :: ds)) (.ol ds) env') (q : Q e env') : XM i (mPop0 [.int 0]) env Q := xm2 h (by rfl) rfl rfl q
theorem xm_pop {ds : List D} {e : D} {Q : D → Sto → Prop} (h0 : At env i (.ol (ds ++ [e])) p lk) (h : Chg env i (.ol (ds ++ [e])) (.ol ds) env') (q : Q e env') : XM i (mPop []) env Q := xm2 h (by simp [mPop]) rfl rfl q
end
end PV

set_option maxRecDepth 100000
set_option maxHeartbeats 4000000
namespace K50
open PV PySem L2 PySem.Spec PyProof.Rows
def top (i : Nat) : Stmt := PySem.Challenge.pw_knewbetter_k50_folding_of_words.main.body.getD i (.Pass ⟨0, 0, 0, 0⟩)
/-! ### the built-ins that the text leaves as they are -/
def T_OP_SIGNS : List (Str × Str) := [("add", "+"), ("sub", "-"), ("mul", "*"), ("div", "/"), ("less", "<"), ("same", "="), ("more", ">")]
structure Gb (mg : Str → Option Value) (K : PySem.W.Frag) (w : World) : Prop where
  b_abs : mg "abs" = none
  b_GREAT : ∃ t, mg "GREAT" = some (.int (10000000000000000000000000000000000000000) t)
  b_len : mg "len" = none
  b_all : mg "all" = none
  b_OP_SIGNS : TabG K w mg "OP_SIGNS" T_OP_SIGNS
  b_int : mg "int" = none
  b_sum : mg "sum" = none
  b_bool : mg "bool" = none
  b_isinstance : mg "isinstance" = none
  b_str : mg "str" = none
  b_dict : mg "dict" = none
  b_tuple : mg "tuple" = none
  b_list : mg "list" = none
  b_range : mg "range" = none
  b_max : mg "max" = none
section
variable {P : Program} {w : World} {K : PySem.W.Frag} {mg : Str → Option Value} {base : Heap} {f : Addr} {fd : FuncData}
/-! ### checked_number -/
abbrev tx_checked_number : Stmt := top 3
theorem sc_checked_number : FnScope ["number"] ["number"] (defScope tx_checked_number) := ⟨rfl, rfl, rfl, by decide +kernel, rfl, by decide +kernel, by decide +kernel⟩
def f_checked_number : SF :=
    (sSeq (sIf (bVal (vBin oGe (vCallB oAbs (vConsH (vVar 0) vNilH)) (vC (.int (10000000000000000000000000000000000000000)))))
      (sRet (vTup (vConsD (vTake (vC (.str "halt"))) (vConsD (vTake (vC (.str "great"))) vNilD))))
      sNil)
    (sRet (vTup (vConsD (vTake (vC (.str "is"))) (vConsD (vTake (vVar 0)) vNilD)))))
def F_checked_number : FF := defF 1 1 f_checked_number
theorem df_checked_number (g : Gb mg K w) (F' : Fun K "checked_number" "checked_number" tx_checked_number f fd) (m : mg "checked_number" = some (.ref f))  : Df P w K mg base 1 "checked_number" ["number"] F_checked_number :=
  ⟨f, fd, fnV F' sc_checked_number (fun cdv A outer s H E hr => VSs.ex (have hu := hr.units; have sc := sc_checked_number;
    (vs_cons (v_ifS (vt_cmp op_ge (fun _ _ => s_ge) (v_callB call_abs (fun _ _ => s_abs) boot_abs g.b_abs (vhs_cons (v_var 0) vhs_nil)) (v_globC g.b_GREAT))
      (vs_one (v_ret (v_tup (vds_cons v_str (vds_cons v_str vds_nil)))))
      vs_nil)
    (vs_one (v_ret (v_tup (vds_cons v_str (vds_cons (v_var 0) vds_nil)))))))), m, F'.kp, F'.binds (ps := ["number"]) fun _ _ _ _ _ _ us hl => match us, hl with | [_], _ => rfl⟩
/-! ### apply_sign -/
abbrev tx_apply_sign : Stmt := top 4
theorem sc_apply_sign : FnScope ["sign", "left", "right"] ["sign", "left", "right"] (defScope tx_apply_sign) := ⟨rfl, rfl, rfl, by decide +kernel, rfl, by decide +kernel, by decide +kernel⟩
def f_apply_sign : SF :=
    (sSeq (sIf (bVal (vBin oEq (vVar 0) (vC (.str "+"))))
      (sRet (vCall F_checked_number (vConsH (vBin oAdd (vVar 1) (vVar 2)) vNilH)))
      sNil)
    (sSeq (sIf (bVal (vBin oEq (vVar 0) (vC (.str "-"))))
      (sRet (vCall F_checked_number (vConsH (vBin oSub (vVar 1) (vVar 2)) vNilH)))
      sNil)
    (sSeq (sIf (bVal (vBin oEq (vVar 0) (vC (.str "*"))))
      (sRet (vCall F_checked_number (vConsH (vBin oMul (vVar 1) (vVar 2)) vNilH)))
      sNil)
    (sSeq (sIf (bVal (vBin oEq (vVar 0) (vC (.str "/"))))
      (sSeq (sIf (bVal (vBin oEq (vVar 2) (vC (.int 0))))
      (sRet (vTup (vConsD (vTake (vC (.str "halt"))) (vConsD (vTake (vC (.str "zero"))) vNilD))))
      sNil)
    (sRet (vCall F_checked_number (vConsH (vBin oDiv (vVar 1) (vVar 2)) vNilH))))
      sNil)
    (sSeq (sIf (bVal (vBin oEq (vVar 0) (vC (.str "<"))))
      (sRet (vTup (vConsD (vTake (vC (.str "is"))) (vConsD (vTake (vIf (bVal (vBin oLt (vVar 1) (vVar 2))) (vC (.int 1)) (vC (.int 0)))) vNilD))))
      sNil)
    (sSeq (sIf (bVal (vBin oEq (vVar 0) (vC (.str "="))))
      (sRet (vTup (vConsD (vTake (vC (.str "is"))) (vConsD (vTake (vIf (bVal (vBin oEq (vVar 1) (vVar 2))) (vC (.int 1)) (vC (.int 0)))) vNilD))))
      sNil)
    (sRet (vTup (vConsD (vTake (vC (.str "is"))) (vConsD (vTake (vIf (bVal (vBin oGt (vVar 1) (vVar 2))) (vC (.int 1)) (vC (.int 0)))) vNilD))))))))))
def F_apply_sign : FF := defF 3 3 f_apply_sign
theorem df_apply_sign (g : Gb mg K w) (F' : Fun K "apply_sign" "apply_sign" tx_apply_sign f fd) (m : mg "apply_sign" = some (.ref f)) (d_checked_number : Df P w K mg base 1 "checked_number" ["number"] F_checked_number) : Df P w K mg base 2 "apply_sign" ["sign", "left", "right"] F_apply_sign :=
  ⟨f, fd, fnV F' sc_apply_sign (fun cdv A outer s H E hr => VSs.ex (have hu := hr.units; have sc := sc_apply_sign;
    (vs_cons (v_ifS (vt_cmp (op_eqK (K := K) rfl hu) (fun _ e => e ▸ s_eq) (v_var 0) v_str)
      (vs_one (v_ret (v_call d_checked_number hr (vhs_cons (v_add (K := K) (v_var 1) (v_var 2)) vhs_nil))))
      vs_nil)
    (vs_cons (v_ifS (vt_cmp (op_eqK (K := K) rfl hu) (fun _ e => e ▸ s_eq) (v_var 0) v_str)
      (vs_one (v_ret (v_call d_checked_number hr (vhs_cons (v_sub (v_var 1) (v_var 2)) vhs_nil))))
      vs_nil)
    (vs_cons (v_ifS (vt_cmp (op_eqK (K := K) rfl hu) (fun _ e => e ▸ s_eq) (v_var 0) v_str)
      (vs_one (v_ret (v_call d_checked_number hr (vhs_cons (v_mul (v_var 1) (v_var 2)) vhs_nil))))
      vs_nil)
    (vs_cons (v_ifS (vt_cmp (op_eqK (K := K) rfl hu) (fun _ e => e ▸ s_eq) (v_var 0) v_str)
      (vs_cons (v_ifS (vt_cmp (op_eqK (K := K) rfl hu) (fun _ e => e ▸ s_eq) (v_var 2) v_int)
      (vs_one (v_ret (v_tup (vds_cons v_str (vds_cons v_str vds_nil)))))
      vs_nil)
    (vs_one (v_ret (v_call d_checked_number hr (vhs_cons (v_div (v_var 1) (v_var 2)) vhs_nil)))))
      vs_nil)
    (vs_cons (v_ifS (vt_cmp (op_eqK (K := K) rfl hu) (fun _ e => e ▸ s_eq) (v_var 0) v_str)
      (vs_one (v_ret (v_tup (vds_cons v_str (vds_cons (v_if (vt_cmp op_lt (fun _ _ => s_lt) (v_var 1) (v_var 2)) v_int v_int) vds_nil)))))
      vs_nil)
    (vs_cons (v_ifS (vt_cmp (op_eqK (K := K) rfl hu) (fun _ e => e ▸ s_eq) (v_var 0) v_str)
      (vs_one (v_ret (v_tup (vds_cons v_str (vds_cons (v_if (vt_cmp (op_eqK (K := K) rfl hu) (fun _ e => e ▸ s_eq) (v_var 1) (v_var 2)) v_int v_int) vds_nil)))))
      vs_nil)
    (vs_one (v_ret (v_tup (vds_cons v_str (vds_cons (v_if (vt_cmp op_gt (fun _ _ => s_gt) (v_var 1) (v_var 2)) v_int v_int) vds_nil))))))))))))), m, F'.kp, F'.binds (ps := ["sign", "left", "right"]) fun _ _ _ _ _ _ us hl => match us, hl with | [_, _, _], _ => rfl⟩
/-! ### is_pushed -/
abbrev tx_is_pushed : Stmt := top 6
theorem sc_is_pushed : FnScope ["words", "many", "word"] ["words", "many"] (defScope tx_is_pushed) := ⟨rfl, rfl, rfl, by decide +kernel, rfl, by decide +kernel, by decide +kernel⟩
def f_is_pushed : SF :=
    (sRet (vB (bAnd (bVal (vBin oGe (vCallB oLen (vConsH (vVar 0) vNilH)) (vVar 1))) (bVal (vCallB oAll (vConsH (vLc (iSeq (vSl (vVar 0) (vP (vBin oSub (vCallB oLen (vConsH (vVar 0) vNilH)) (vVar 1))) vNoP)) (gN 2) bYes (vTake (vBin oEq (vBin oIx (vVar 2) (vC (.int 0))) (vC (.str "push")))) [2]) vNilH))))))
def F_is_pushed : FF := defF 3 2 f_is_pushed
theorem df_is_pushed (g : Gb mg K w) (F' : Fun K "is_pushed" "is_pushed" tx_is_pushed f fd) (m : mg "is_pushed" = some (.ref f))  : Df P w K mg base 1 "is_pushed" ["words", "many"] F_is_pushed :=
  ⟨f, fd, fnV F' sc_is_pushed (fun cdv A outer s H E hr => VSs.ex (have hu := hr.units; have sc := sc_is_pushed;
    (vs_one (v_ret (v_and (v_b (v_cmp op_ge (fun _ _ => s_ge) (v_callB (call_lenK2 (K := K) rfl) (fun _ e => e ▸ s_len) PySem.boot_len g.b_len (vhs_cons (v_var 0) vhs_nil)) (v_var 1))) (v_one (v_b (v_callB (call_allK (K := K) rfl rfl) (fun _ e => e ▸ s_all) boot_all g.b_all (vhs_cons (v_lc [("word", 2)] sc.nd (vi_seq (K := K) (v_sl (K := K) (v_var 0) (vo_some (v_sub (v_callB (call_lenK2 (K := K) rfl) (fun _ e => e ▸ s_len) PySem.boot_len g.b_len (vhs_cons (v_var 0) vhs_nil)) (v_var 1))) vo_none)) (by kernel_rfl) (fun _ _ _ _ _ => (vg_name 2 sc.nd)) (fun _ _ _ _ _ => by exact vts_nil) (fun _ _ _ _ _ => by exact (v_cmp (op_eqK (K := K) rfl hu) (fun _ e => e ▸ s_eq) (v_ix (K := K) (v_var 2) v_int) v_str))) vhs_nil))))))))), m, F'.kp, F'.binds (ps := ["words", "many"]) fun _ _ _ _ _ _ us hl => match us, hl with | [_, _], _ => rfl⟩
/-! ### fold_words -/
abbrev tx_fold_words : Stmt := top 7
theorem sc_fold_words : FnScope ["words", "found", "op", "argument", "first", "last", "worth", "many"] ["words"] (defScope tx_fold_words) := ⟨rfl, rfl, rfl, by decide +kernel, rfl, by decide +kernel, by decide +kernel⟩
def f_fold_words : SF :=
    (sSeq (sSet 1 (vLst vNilD))
    (sSeq (sFor (iSeq (vVar 0)) (gT 4 (gConsF (gN 2) (gConsF (gN 3) (gConsF (gN 4) (gConsF (gN 5) gNilF)))))
      (sSeq (sSet 6 (vTup (vConsD (vTake (vC (.str "halt"))) (vConsD (vTake (vC (.str ""))) vNilD))))
    (sSeq (sSet 7 (vC (.int 0)))
    (sSeq (sIf (bAnd (bVal (vBin oEq (vVar 2) (vC (.str "neg")))) (bTru (vCall F_is_pushed (vConsH (vVar 1) (vConsH (vC (.int 1)) vNilH)))))
      (sSeq (sSet 7 (vC (.int 1)))
    (sSet 6 (vCall F_checked_number (vConsH (vUn oNeg (vBin oIx (vBin oIx (vVar 1) (vUn oNeg (vC (.int 1)))) (vC (.int 1)))) vNilH))))
      (sIf (bAnd (bVal (vUn (oInG T_OP_SIGNS) (vVar 2))) (bTru (vCall F_is_pushed (vConsH (vVar 1) (vConsH (vC (.int 2)) vNilH)))))
      (sSeq (sSet 7 (vC (.int 2)))
    (sSet 6 (vCall F_apply_sign (vConsH (vUn (oIxG T_OP_SIGNS) (vVar 2)) (vConsH (vBin oIx (vBin oIx (vVar 1) (vUn oNeg (vC (.int 2)))) (vC (.int 1))) (vConsH (vBin oIx (vBin oIx (vVar 1) (vUn oNeg (vC (.int 1)))) (vC (.int 1))) vNilH))))))
      sNil))
    (sIf (bVal (vBin oEq (vBin oIx (vVar 6) (vC (.int 0))) (vC (.str "is"))))
      (sSet 1 (vBin oAdd (vSl (vVar 1) vNoP (vP (vBin oSub (vCallB oLen (vConsH (vVar 1) vNilH)) (vVar 7)))) (vLst (vConsD (vTake (vTup (vConsD (vTake (vC (.str "push"))) (vConsD (vTake (vBin oIx (vVar 6) (vC (.int 1)))) (vConsD (vTake (vVar 4)) (vConsD (vTake (vVar 5)) vNilD)))))) vNilD))))
      (sDrop (vMt 1 "list" mAppend (vConsD (vTake (vTup (vConsD (vTake (vVar 2)) (vConsD (vTake (vVar 3)) (vConsD (vTake (vVar 4)) (vConsD (vTake (vVar 5)) vNilD)))))) vNilD))))))))
    (sRet (vVar 1))))
def F_fold_words : FF := defF 8 1 f_fold_words
theorem df_fold_words (g : Gb mg K w) (F' : Fun K "fold_words" "fold_words" tx_fold_words f fd) (m : mg "fold_words" = some (.ref f)) (d_is_pushed : Df P w K mg base 1 "is_pushed" ["words", "many"] F_is_pushed) (d_checked_number : Df P w K mg base 1 "checked_number" ["number"] F_checked_number) (d_apply_sign : Df P w K mg base 2 "apply_sign" ["sign", "left", "right"] F_apply_sign) : Df P w K mg base 3 "fold_words" ["words"] F_fold_words :=
  ⟨f, fd, fnV F' sc_fold_words (fun cdv A outer s H E hr => VSs.ex (have hu := hr.units; have sc := sc_fold_words;
    (vs_cons (v_set 1 sc.nd (v_lst vds_nil))
    (vs_cons (v_for (vi_seq (K := K) (v_var 0)) (vg_tup (K := K) (vgs_cons (vg_name 2 sc.nd) (vgs_cons (vg_name 3 sc.nd) (vgs_cons (vg_name 4 sc.nd) (vgs_cons (vg_name 5 sc.nd) vgs_nil)))))
      (vs_cons (v_set 6 sc.nd (v_tup (vds_cons v_str (vds_cons v_str vds_nil))))
    (vs_cons (v_set 7 sc.nd v_int)
    (vs_cons (v_ifS (vw_t (vw_and (vt_cmp (op_eqK (K := K) rfl hu) (fun _ e => e ▸ s_eq) (v_var 2) v_str) (vw_and1 (vt_tru (K := K) (v_call d_is_pushed hr (vhs_cons (v_var 1) (vhs_cons v_int vhs_nil)))))))
      (vs_cons (v_set 7 sc.nd v_int)
    (vs_one (v_set 6 sc.nd (v_call d_checked_number hr (vhs_cons (v_neg (v_ix (K := K) (v_ix (K := K) (v_var 1) (v_neg v_int)) v_int)) vhs_nil)))))
      (vs_one (v_ifS (vw_t (vw_and (vt_inG g.b_OP_SIGNS (v_var 2)) (vw_and1 (vt_tru (K := K) (v_call d_is_pushed hr (vhs_cons (v_var 1) (vhs_cons v_int vhs_nil)))))))
      (vs_cons (v_set 7 sc.nd v_int)
    (vs_one (v_set 6 sc.nd (v_call d_apply_sign hr (vhs_cons (v_ixG g.b_OP_SIGNS (v_var 2)) (vhs_cons (v_ix (K := K) (v_ix (K := K) (v_var 1) (v_neg v_int)) v_int) (vhs_cons (v_ix (K := K) (v_ix (K := K) (v_var 1) (v_neg v_int)) v_int) vhs_nil)))))))
      vs_nil)))
    (vs_one (v_ifS (vt_cmp (op_eqK (K := K) rfl hu) (fun _ e => e ▸ s_eq) (v_ix (K := K) (v_var 6) v_int) v_str)
      (vs_one (v_set 1 sc.nd (v_add (K := K) (v_sl (K := K) (v_var 1) vo_none (vo_some (v_sub (v_callB (call_lenK2 (K := K) rfl) (fun _ e => e ▸ s_len) PySem.boot_len g.b_len (vhs_cons (v_var 1) vhs_nil)) (v_var 7)))) (v_lst (vds_cons (v_tup (vds_cons v_str (vds_cons (v_ix (K := K) (v_var 6) v_int) (vds_cons (v_var 4) (vds_cons (v_var 5) vds_nil))))) vds_nil)))))
      (vs_one (v_expr (v_append 1 (v_var 1) (v_tup (vds_cons (v_var 2) (vds_cons (v_var 3) (vds_cons (v_var 4) (vds_cons (v_var 5) vds_nil))))))))))))))
    (vs_one (v_ret (v_var 1))))))), m, F'.kp, F'.binds (ps := ["words"]) fun _ _ _ _ _ _ us hl => match us, hl with | [_], _ => rfl⟩
/-! ### _law_source -/
abbrev tx_source : Stmt := top 9
theorem sc_source : FnScope ["script", "at", "cell", "size", "small", "one"] ["script", "at"] (defScope tx_source) := ⟨rfl, rfl, rfl, by decide +kernel, rfl, by decide +kernel, by decide +kernel⟩
def f_source : SF :=
    (sSeq (sSet 2 (vIf (bVal (vBin oLt (vVar 1) (vCallB oLen (vConsH (vVar 0) vNilH)))) (vCallB oInt (vConsH (vBin oIx (vVar 0) (vVar 1)) vNilH)) (vBin oAdd (vBin oMul (vC (.int 41)) (vCallB oSum (vConsH (vLc (iSeq (vSl (vVar 0) vNoP (vP (vC (.int 6))))) (gN 5) bYes (vTake (vBin oMod (vCallB oInt (vConsH (vVar 5) vNilH)) (vC (.int 999961)))) [5]) vNilH))) (vC (.int 29)))))
    (sSeq (sSet 3 (vBin oMod (vCallB oAbs (vConsH (vVar 2) vNilH)) (vBin oMul (vBin oPow (vC (.int 10)) (vC (.int 60))) (vBin oPow (vC (.int 10)) (vC (.int 60))))))
    (sSeq (sSet 4 (vBin oMod (vCallB oInt (vConsH (vBin oAdd (vBin oAdd (vBin oAdd (vBin oMul (vC (.int 2)) (vVar 3)) (vIf (bVal (vBin oLt (vVar 2) (vC (.int 0)))) (vC (.int 1)) (vC (.int 0)))) (vBin oMul (vVar 1) (vC (.int 120011)))) (vC (.int 70019))) vNilH)) (vC (.int 2147483629))))
    (sRet (vLst (vConsD (vTake (vIf (bVal (vBin oGe (vVar 3) (vBin oPow (vC (.int 10)) (vC (.int 18))))) (vVar 3) (vC (.int 0)))) (vConsD (vTake (vBin oMod (vCallB oInt (vConsH (vBin oMul (vBin oAdd (vVar 4) (vC (.int 6101))) (vBin oAdd (vVar 4) (vC (.int 90011)))) vNilH)) (vC (.int 2147483629)))) (vConsD (vTake (vVar 1)) vNilD))))))))
def F_source : FF := defF 6 2 f_source
theorem df_source (g : Gb mg K w) (F' : Fun K "_law_source" "_law_source" tx_source f fd) (m : mg "_law_source" = some (.ref f))  : Df P w K mg base 1 "_law_source" ["script", "at"] F_source :=
  ⟨f, fd, fnV F' sc_source (fun cdv A outer s H E hr => VSs.ex (have hu := hr.units; have sc := sc_source;
    (vs_cons (v_set 2 sc.nd (v_if (vt_cmp op_lt (fun _ _ => s_lt) (v_var 1) (v_callB (call_lenK2 (K := K) rfl) (fun _ e => e ▸ s_len) PySem.boot_len g.b_len (vhs_cons (v_var 0) vhs_nil))) (v_callTy call_intA (fun _ _ => s_int) PyProof.Rows.boot_int g.b_int (vhs_cons (v_ix (K := K) (v_var 0) (v_var 1)) vhs_nil)) (v_add (K := K) (v_mul v_int (v_callB (call_sumK (K := K) rfl rfl) (fun _ e => e ▸ s_sum) boot_sum g.b_sum (vhs_cons (v_lc [("one", 5)] sc.nd (vi_seq (K := K) (v_sl (K := K) (v_var 0) vo_none (vo_some v_int))) (by kernel_rfl) (fun _ _ _ _ _ => (vg_name 5 sc.nd)) (fun _ _ _ _ _ => by exact vts_nil) (fun _ _ _ _ _ => by exact (v_mod (v_callTy call_intA (fun _ _ => s_int) PyProof.Rows.boot_int g.b_int (vhs_cons (v_var 5) vhs_nil)) v_int))) vhs_nil))) v_int)))
    (vs_cons (v_set 3 sc.nd (v_mod (v_callB call_abs (fun _ _ => s_abs) boot_abs g.b_abs (vhs_cons (v_var 2) vhs_nil)) (v_mul (v_pow v_int v_int) (v_pow v_int v_int))))
    (vs_cons (v_set 4 sc.nd (v_mod (v_callTy call_intA (fun _ _ => s_int) PyProof.Rows.boot_int g.b_int (vhs_cons (v_add (K := K) (v_add (K := K) (v_add (K := K) (v_mul v_int (v_var 3)) (v_if (vt_cmp op_lt (fun _ _ => s_lt) (v_var 2) v_int) v_int v_int)) (v_mul (v_var 1) v_int)) v_int) vhs_nil)) v_int))
    (vs_one (v_ret (v_lst (vds_cons (v_if (vt_cmp op_ge (fun _ _ => s_ge) (v_var 3) (v_pow v_int v_int)) (v_var 3) v_int) (vds_cons (v_mod (v_callTy call_intA (fun _ _ => s_int) PyProof.Rows.boot_int g.b_int (vhs_cons (v_mul (v_add (K := K) (v_var 4) v_int) (v_add (K := K) (v_var 4) v_int)) vhs_nil)) v_int) (vds_cons (v_var 1) vds_nil))))))))))), m, F'.kp, F'.binds (ps := ["script", "at"]) fun _ _ _ _ _ _ us hl => match us, hl with | [_, _], _ => rfl⟩
/-! ### _law_pick -/
abbrev tx_pick : Stmt := top 10
theorem sc_pick : FnScope ["source", "many", "found"] ["source", "many"] (defScope tx_pick) := ⟨rfl, rfl, rfl, by decide +kernel, rfl, by decide +kernel, by decide +kernel⟩
def f_pick : SF :=
    (sSeq (sIf (bVal (vBin oGt (vBin oIx (vVar 0) (vC (.int 0))) (vC (.int 0))))
      (sSeq (sSet 2 (vBin oMod (vCallB oInt (vConsH (vBin oIx (vVar 0) (vC (.int 0))) vNilH)) (vVar 1)))
    (sSeq (sSetIx 0 (vTake (vBin oDiv (vBin oIx (vVar 0) (vC (.int 0))) (vVar 1))) (vC (.int 0)))
    (sRet (vVar 2))))
      sNil)
    (sSeq (sAugIx 0 (vC (.int 2)) oAddI (vC (.int 1)))
    (sSeq (sSetIx 0 (vTake (vBin oMod (vCallB oInt (vConsH (vBin oAdd (vBin oMul (vBin oIx (vVar 0) (vC (.int 1))) (vC (.int 48271))) (vBin oMul (vBin oIx (vVar 0) (vC (.int 2))) (vC (.int 70001)))) vNilH)) (vC (.int 2147483647)))) (vC (.int 1)))
    (sRet (vBin oMod (vBin oDiv (vBin oMod (vCallB oInt (vConsH (vBin oAdd (vBin oMul (vBin oIx (vVar 0) (vC (.int 1))) (vC (.int 16807))) (vBin oMul (vBin oIx (vVar 0) (vC (.int 2))) (vC (.int 6301)))) vNilH)) (vC (.int 2147483629))) (vC (.int 8))) (vVar 1))))))
def F_pick : FF := defF 3 2 f_pick
theorem df_pick (g : Gb mg K w) (F' : Fun K "_law_pick" "_law_pick" tx_pick f fd) (m : mg "_law_pick" = some (.ref f))  : Df P w K mg base 1 "_law_pick" ["source", "many"] F_pick :=
  ⟨f, fd, fnV F' sc_pick (fun cdv A outer s H E hr => VSs.ex (have hu := hr.units; have sc := sc_pick;
    (vs_cons (v_ifS (vt_cmp op_gt (fun _ _ => s_gt) (v_ix (K := K) (v_var 0) v_int) v_int)
      (vs_cons (v_set 2 sc.nd (v_mod (v_callTy call_intA (fun _ _ => s_int) PyProof.Rows.boot_int g.b_int (vhs_cons (v_ix (K := K) (v_var 0) v_int) vhs_nil)) (v_var 1)))
    (vs_cons (v_setIx 0 (v_var 0) v_int (v_div (v_ix (K := K) (v_var 0) v_int) (v_var 1)))
    (vs_one (v_ret (v_var 2)))))
      vs_nil)
    (vs_cons (v_augIx 0 ip_add s_ipadd (v_var 0) v_int v_int)
    (vs_cons (v_setIx 0 (v_var 0) v_int (v_mod (v_callTy call_intA (fun _ _ => s_int) PyProof.Rows.boot_int g.b_int (vhs_cons (v_add (K := K) (v_mul (v_ix (K := K) (v_var 0) v_int) v_int) (v_mul (v_ix (K := K) (v_var 0) v_int) v_int)) vhs_nil)) v_int))
    (vs_one (v_ret (v_mod (v_div (v_mod (v_callTy call_intA (fun _ _ => s_int) PyProof.Rows.boot_int g.b_int (vhs_cons (v_add (K := K) (v_mul (v_ix (K := K) (v_var 0) v_int) v_int) (v_mul (v_ix (K := K) (v_var 0) v_int) v_int)) vhs_nil)) v_int) v_int) (v_var 1))))))))), m, F'.kp, F'.binds (ps := ["source", "many"]) fun _ _ _ _ _ _ us hl => match us, hl with | [_, _], _ => rfl⟩
/-! ### _law_same -/
abbrev tx_same : Stmt := top 11
theorem sc_same : FnScope ["answer", "due", "key", "at"] ["answer", "due"] (defScope tx_same) := ⟨rfl, rfl, rfl, by decide +kernel, rfl, by decide +kernel, by decide +kernel⟩
def f_same (F_same : FF) : SF :=
    (sSeq (sIf (bOr (bVal (vBin oIsN (vVar 1) (vC .non))) (bVal (vBin oIsN (vVar 0) (vC .non))))
      (sRet (vB (bAnd (bVal (vBin oIsN (vVar 1) (vC .non))) (bVal (vBin oIsN (vVar 0) (vC .non))))))
      sNil)
    (sSeq (sIf (bOr (bTru (vCallB oIsi (vConsH (vVar 1) (vConsH (vC (.opq (.ty "bool"))) vNilH)))) (bTru (vCallB oIsi (vConsH (vVar 0) (vConsH (vC (.opq (.ty "bool"))) vNilH)))))
      (sRet (vB (bAnd (bVal (vCallB oIsi (vConsH (vVar 1) (vConsH (vC (.opq (.ty "bool"))) vNilH)))) (bAnd (bVal (vCallB oIsi (vConsH (vVar 0) (vConsH (vC (.opq (.ty "bool"))) vNilH)))) (bVal (vBin oEq (vVar 0) (vVar 1)))))))
      sNil)
    (sSeq (sIf (bTru (vCallB oIsi (vConsH (vVar 1) (vConsH (vC (.opq (.ty "int"))) vNilH))))
      (sRet (vB (bAnd (bVal (vCallB oIsi (vConsH (vVar 0) (vConsH (vC (.opq (.ty "int"))) vNilH)))) (bVal (vBin oEq (vVar 0) (vVar 1))))))
      sNil)
    (sSeq (sIf (bTru (vCallB oIsi (vConsH (vVar 1) (vConsH (vC (.opq (.ty "str"))) vNilH))))
      (sRet (vB (bAnd (bVal (vCallB oIsi (vConsH (vVar 0) (vConsH (vC (.opq (.ty "str"))) vNilH)))) (bVal (vBin oEq (vVar 0) (vVar 1))))))
      sNil)
    (sSeq (sIf (bTru (vCallB oIsi (vConsH (vVar 1) (vConsH (vC (.opq (.ty "dict"))) vNilH))))
      (sSeq sNever
    sNever)
      sNil)
    (sSeq (sIf (bAnd (bTru (vCallB oIsi (vConsH (vVar 1) (vConsH (vC (.opq (.ty "tuple"))) vNilH)))) (bNot (bTru (vCallB oIsi (vConsH (vVar 0) (vConsH (vC (.opq (.ty "tuple"))) vNilH))))))
      (sRet (vC (.bl false)))
      sNil)
    (sSeq (sIf (bAnd (bTru (vCallB oIsi (vConsH (vVar 1) (vConsH (vC (.opq (.ty "list"))) vNilH)))) (bNot (bTru (vCallB oIsi (vConsH (vVar 0) (vConsH (vC (.opq (.ty "list"))) vNilH))))))
      (sRet (vC (.bl false)))
      sNil)
    (sRet (vB (bAnd (bVal (vBin oEq (vCallB oLen (vConsH (vVar 0) vNilH)) (vCallB oLen (vConsH (vVar 1) vNilH)))) (bVal (vCallB oAll (vConsH (vLc (iR1 (vConsH (vCallB oLen (vConsH (vVar 1) vNilH)) vNilH)) (gN 3) bYes (vTake (vCall F_same (vConsH (vBin oIx (vVar 0) (vVar 3)) (vConsH (vBin oIx (vVar 1) (vVar 3)) vNilH)))) [3]) vNilH)))))))))))))
def F_same : Nat → FF
  | 0 => fun _ => none
  | k + 1 => defF 4 2 (f_same (F_same k))
theorem st_same (g : Gb mg K w) (F' : Fun K "_law_same" "_law_same" tx_same f fd) (m : mg "_law_same" = some (.ref f)) {F : FF} {k : Nat} (hk : 0 ≤ k) (d_same : Df P w K mg base k "_law_same" ["answer", "due"] F) : Df P w K mg base (k + 1) "_law_same" ["answer", "due"] (defF 4 2 (f_same F)) :=
  ⟨f, fd, fnV F' sc_same (fun cdv A outer s H E hr => VSs.ex (have hu := hr.units; have sc := sc_same;
    (vs_cons (v_ifS (vw_t (vw_or (vt_cmp op_isN2 (fun _ _ => s_isN) (v_var 1) v_non) (vw_or1 (vt_cmp op_isN2 (fun _ _ => s_isN) (v_var 0) v_non))))
      (vs_one (v_ret (v_and (v_b (v_cmp op_isN2 (fun _ _ => s_isN) (v_var 1) v_non)) (v_one (v_b (v_cmp op_isN2 (fun _ _ => s_isN) (v_var 0) v_non))))))
      vs_nil)
    (vs_cons (v_ifS (vw_t (vw_or (vt_tru (K := K) (v_callB (call_isiK2 (K := K) rfl) (fun _ e => e ▸ s_isi) boot_isinstance g.b_isinstance (vhs_cons (v_var 1) (vhs_cons (v_ty g.b_bool PyProof.Rows.boot_bool) vhs_nil)))) (vw_or1 (vt_tru (K := K) (v_callB (call_isiK2 (K := K) rfl) (fun _ e => e ▸ s_isi) boot_isinstance g.b_isinstance (vhs_cons (v_var 0) (vhs_cons (v_ty g.b_bool PyProof.Rows.boot_bool) vhs_nil)))))))
      (vs_one (v_ret (v_and (v_b (v_callB (call_isiK2 (K := K) rfl) (fun _ e => e ▸ s_isi) boot_isinstance g.b_isinstance (vhs_cons (v_var 1) (vhs_cons (v_ty g.b_bool PyProof.Rows.boot_bool) vhs_nil)))) (v_and (v_b (v_callB (call_isiK2 (K := K) rfl) (fun _ e => e ▸ s_isi) boot_isinstance g.b_isinstance (vhs_cons (v_var 0) (vhs_cons (v_ty g.b_bool PyProof.Rows.boot_bool) vhs_nil)))) (v_one (v_b (v_cmp (op_eqK (K := K) rfl hu) (fun _ e => e ▸ s_eq) (v_var 0) (v_var 1))))))))
      vs_nil)
    (vs_cons (v_ifS (vt_tru (K := K) (v_callB (call_isiK2 (K := K) rfl) (fun _ e => e ▸ s_isi) boot_isinstance g.b_isinstance (vhs_cons (v_var 1) (vhs_cons (v_ty g.b_int PyProof.Rows.boot_int) vhs_nil))))
      (vs_one (v_ret (v_and (v_b (v_callB (call_isiK2 (K := K) rfl) (fun _ e => e ▸ s_isi) boot_isinstance g.b_isinstance (vhs_cons (v_var 0) (vhs_cons (v_ty g.b_int PyProof.Rows.boot_int) vhs_nil)))) (v_one (v_b (v_cmp (op_eqK (K := K) rfl hu) (fun _ e => e ▸ s_eq) (v_var 0) (v_var 1)))))))
      vs_nil)
    (vs_cons (v_ifS (vt_tru (K := K) (v_callB (call_isiK2 (K := K) rfl) (fun _ e => e ▸ s_isi) boot_isinstance g.b_isinstance (vhs_cons (v_var 1) (vhs_cons (v_ty g.b_str PyProof.Rows.boot_str) vhs_nil))))
      (vs_one (v_ret (v_and (v_b (v_callB (call_isiK2 (K := K) rfl) (fun _ e => e ▸ s_isi) boot_isinstance g.b_isinstance (vhs_cons (v_var 0) (vhs_cons (v_ty g.b_str PyProof.Rows.boot_str) vhs_nil)))) (v_one (v_b (v_cmp (op_eqK (K := K) rfl hu) (fun _ e => e ▸ s_eq) (v_var 0) (v_var 1)))))))
      vs_nil)
    (vs_cons (v_ifS (vt_tru (K := K) (v_callB (call_isiK2 (K := K) rfl) (fun _ e => e ▸ s_isi) boot_isinstance g.b_isinstance (vhs_cons (v_var 1) (vhs_cons (v_ty g.b_dict PyProof.Rows.boot_dict) vhs_nil))))
      (vs_cons v_never
    (vs_one v_never))
      vs_nil)
    (vs_cons (v_ifS (vw_t (vw_and (vt_tru (K := K) (v_callB (call_isiK2 (K := K) rfl) (fun _ e => e ▸ s_isi) boot_isinstance g.b_isinstance (vhs_cons (v_var 1) (vhs_cons (v_ty g.b_tuple PyProof.Rows.boot_tuple) vhs_nil)))) (vw_and1 (vt_not (vt_tru (K := K) (v_callB (call_isiK2 (K := K) rfl) (fun _ e => e ▸ s_isi) boot_isinstance g.b_isinstance (vhs_cons (v_var 0) (vhs_cons (v_ty g.b_tuple PyProof.Rows.boot_tuple) vhs_nil))))))))
      (vs_one (v_ret v_bl))
      vs_nil)
    (vs_cons (v_ifS (vw_t (vw_and (vt_tru (K := K) (v_callB (call_isiK2 (K := K) rfl) (fun _ e => e ▸ s_isi) boot_isinstance g.b_isinstance (vhs_cons (v_var 1) (vhs_cons (v_ty g.b_list PyProof.Rows.boot_list) vhs_nil)))) (vw_and1 (vt_not (vt_tru (K := K) (v_callB (call_isiK2 (K := K) rfl) (fun _ e => e ▸ s_isi) boot_isinstance g.b_isinstance (vhs_cons (v_var 0) (vhs_cons (v_ty g.b_list PyProof.Rows.boot_list) vhs_nil))))))))
      (vs_one (v_ret v_bl))
      vs_nil)
    (vs_one (v_ret (v_and (v_b (v_cmp (op_eqK (K := K) rfl hu) (fun _ e => e ▸ s_eq) (v_callB (call_lenK2 (K := K) rfl) (fun _ e => e ▸ s_len) PySem.boot_len g.b_len (vhs_cons (v_var 0) vhs_nil)) (v_callB (call_lenK2 (K := K) rfl) (fun _ e => e ▸ s_len) PySem.boot_len g.b_len (vhs_cons (v_var 1) vhs_nil)))) (v_one (v_b (v_callB (call_allK (K := K) rfl rfl) (fun _ e => e ▸ s_all) boot_all g.b_all (vhs_cons (v_lc [("at", 3)] sc.nd (vi_r1 g.b_range (vhs_cons (v_callB (call_lenK2 (K := K) rfl) (fun _ e => e ▸ s_len) PySem.boot_len g.b_len (vhs_cons (v_var 1) vhs_nil)) vhs_nil)) (by kernel_rfl) (fun _ _ _ _ _ => (vg_name 3 sc.nd)) (fun _ _ _ _ _ => by exact vts_nil) (fun _ _ _ _ _ => by exact (v_call d_same hr (vhs_cons (v_ix (K := K) (v_var 0) (v_var 3)) (vhs_cons (v_ix (K := K) (v_var 1) (v_var 3)) vhs_nil))))) vhs_nil)))))))))))))))), m, F'.kp, F'.binds (ps := ["answer", "due"]) fun _ _ _ _ _ _ us hl => match us, hl with | [_, _], _ => rfl⟩
theorem df_same (g : Gb mg K w) (F' : Fun K "_law_same" "_law_same" tx_same f fd) (m : mg "_law_same" = some (.ref f))  : ∀ k, Df P w K mg base (0 + k) "_law_same" ["answer", "due"] (F_same k)
  | 0 => ⟨f, fd, fn_none (fun _ => rfl), m, F'.kp, F'.binds (ps := ["answer", "due"]) fun _ _ _ _ _ _ us hl => match us, hl with | [_, _], _ => rfl⟩
  | k + 1 => st_same (k := 0 + k) g F' m (by omega) (df_same g F' m  k)
/-! ### _law_m_ops -/
abbrev tx_m_ops : Stmt := top 12
theorem sc_m_ops : FnScope ["tree"] ["tree"] (defScope tx_m_ops) := ⟨rfl, rfl, rfl, by decide +kernel, rfl, by decide +kernel, by decide +kernel⟩
def f_m_ops (F_m_ops : FF) : SF :=
    (sSeq (sIf (bOr (bVal (vBin oEq (vBin oIx (vVar 0) (vC (.int 0))) (vC (.str "number")))) (bVal (vBin oEq (vBin oIx (vVar 0) (vC (.int 0))) (vC (.str "name")))))
      (sRet (vLst (vConsD (vTake (vTup (vConsD (vTake (vIf (bVal (vBin oEq (vBin oIx (vVar 0) (vC (.int 0))) (vC (.str "number")))) (vC (.str "push")) (vC (.str "get")))) (vConsD (vTake (vBin oIx (vVar 0) (vC (.int 1)))) vNilD)))) vNilD)))
      sNil)
    (sSeq (sIf (bVal (vBin oEq (vBin oIx (vVar 0) (vC (.int 0))) (vC (.str "minus"))))
      (sRet (vBin oAdd (vCall F_m_ops (vConsH (vBin oIx (vVar 0) (vC (.int 1))) vNilH)) (vLst (vConsD (vTake (vTup (vConsD (vTake (vC (.str "neg"))) (vConsD (vTake (vC .non)) vNilD)))) vNilD))))
      sNil)
    (sRet (vBin oAdd (vBin oAdd (vCall F_m_ops (vConsH (vBin oIx (vVar 0) (vC (.int 1))) vNilH)) (vCall F_m_ops (vConsH (vBin oIx (vVar 0) (vC (.int 2))) vNilH))) (vLst (vConsD (vTake (vTup (vConsD (vTake (vBin oIx (vLst (vConsD (vTake (vC (.str "add"))) (vConsD (vTake (vC (.str "sub"))) (vConsD (vTake (vC (.str "mul"))) (vConsD (vTake (vC (.str "div"))) (vConsD (vTake (vC (.str "less"))) (vConsD (vTake (vC (.str "same"))) (vConsD (vTake (vC (.str "more"))) vNilD)))))))) (vSidx (vC (.str "+-*/<=>")) (vBin oIx (vVar 0) (vC (.int 0)))))) (vConsD (vTake (vC .non)) vNilD)))) vNilD))))))
def F_m_ops : Nat → FF
  | 0 => fun _ => none
  | k + 1 => defF 1 1 (f_m_ops (F_m_ops k))
theorem st_m_ops (g : Gb mg K w) (F' : Fun K "_law_m_ops" "_law_m_ops" tx_m_ops f fd) (m : mg "_law_m_ops" = some (.ref f)) {F : FF} {k : Nat} (hk : 0 ≤ k) (d_m_ops : Df P w K mg base k "_law_m_ops" ["tree"] F) : Df P w K mg base (k + 1) "_law_m_ops" ["tree"] (defF 1 1 (f_m_ops F)) :=
  ⟨f, fd, fnV F' sc_m_ops (fun cdv A outer s H E hr => VSs.ex (have hu := hr.units; have sc := sc_m_ops;
    (vs_cons (v_ifS (vw_t (vw_or (vt_cmp (op_eqK (K := K) rfl hu) (fun _ e => e ▸ s_eq) (v_ix (K := K) (v_var 0) v_int) v_str) (vw_or1 (vt_cmp (op_eqK (K := K) rfl hu) (fun _ e => e ▸ s_eq) (v_ix (K := K) (v_var 0) v_int) v_str))))
      (vs_one (v_ret (v_lst (vds_cons (v_tup (vds_cons (v_if (vt_cmp (op_eqK (K := K) rfl hu) (fun _ e => e ▸ s_eq) (v_ix (K := K) (v_var 0) v_int) v_str) v_str v_str) (vds_cons (v_ix (K := K) (v_var 0) v_int) vds_nil))) vds_nil))))
      vs_nil)
    (vs_cons (v_ifS (vt_cmp (op_eqK (K := K) rfl hu) (fun _ e => e ▸ s_eq) (v_ix (K := K) (v_var 0) v_int) v_str)
      (vs_one (v_ret (v_add (K := K) (v_call d_m_ops hr (vhs_cons (v_ix (K := K) (v_var 0) v_int) vhs_nil)) (v_lst (vds_cons (v_tup (vds_cons v_str (vds_cons v_non vds_nil))) vds_nil)))))
      vs_nil)
    (vs_one (v_ret (v_add (K := K) (v_add (K := K) (v_call d_m_ops hr (vhs_cons (v_ix (K := K) (v_var 0) v_int) vhs_nil)) (v_call d_m_ops hr (vhs_cons (v_ix (K := K) (v_var 0) v_int) vhs_nil))) (v_lst (vds_cons (v_tup (vds_cons (v_ix (K := K) (v_lst (vds_cons v_str (vds_cons v_str (vds_cons v_str (vds_cons v_str (vds_cons v_str (vds_cons v_str (vds_cons v_str vds_nil)))))))) (v_sidx v_str (v_ix (K := K) (v_var 0) v_int))) (vds_cons v_non vds_nil))) vds_nil))))))))), m, F'.kp, F'.binds (ps := ["tree"]) fun _ _ _ _ _ _ us hl => match us, hl with | [_], _ => rfl⟩
theorem df_m_ops (g : Gb mg K w) (F' : Fun K "_law_m_ops" "_law_m_ops" tx_m_ops f fd) (m : mg "_law_m_ops" = some (.ref f))  : ∀ k, Df P w K mg base (0 + k) "_law_m_ops" ["tree"] (F_m_ops k)
  | 0 => ⟨f, fd, fn_none (fun _ => rfl), m, F'.kp, F'.binds (ps := ["tree"]) fun _ _ _ _ _ _ us hl => match us, hl with | [_], _ => rfl⟩
  | k + 1 => st_m_ops (k := 0 + k) g F' m (by omega) (df_m_ops g F' m  k)
/-! ### _law_m_words -/
abbrev tx_m_words : Stmt := top 13
theorem sc_m_words : FnScope ["tree", "places", "word", "parts", "ops", "part", "at"] ["tree", "places"] (defScope tx_m_words) := ⟨rfl, rfl, rfl, by decide +kernel, rfl, by decide +kernel, by decide +kernel⟩
def f_m_words : SF :=
    (sSeq (sSet 2 (vBin oIx (vVar 0) (vC (.int 0))))
    (sSeq (sSet 3 (vIf (bVal (vBin oEq (vVar 2) (vC (.str "call")))) (vBin oIx (vVar 0) (vC (.int 2))) (vIf (bVal (vBin oInQ (vVar 2) (vLst (vConsD (vTake (vC (.str "set"))) (vConsD (vTake (vC (.str "go"))) vNilD))))) (vLst (vConsD (vTake (vBin oIx (vVar 0) (vC (.int 2)))) vNilD)) (vIf (bVal (vBin oInQ (vVar 2) (vLst (vConsD (vTake (vC (.str "back"))) (vConsD (vTake (vC (.str "tell"))) (vConsD (vTake (vC (.str "give"))) (vConsD (vTake (vC (.str "put"))) vNilD))))))) (vLst (vConsD (vTake (vBin oIx (vVar 0) (vC (.int 1)))) vNilD)) (vLst vNilD)))))
    (sSeq (sSet 4 (vLst vNilD))
    (sSeq (sFor (iSeq (vVar 3)) (gN 5)
      (sIf (bVal (vBin oNotN (vVar 5) (vC .non)))
      (sSet 4 (vBin oAdd (vVar 4) (vCall (F_m_ops 6) (vConsH (vVar 5) vNilH))))
      sNil))
    (sSeq (sIf (bAnd (bVal (vBin oEq (vVar 2) (vC (.str "go")))) (bVal (vBin oNotN (vBin oIx (vVar 0) (vC (.int 2))) (vC .non))))
      (sDrop (vMt 4 "list" mAppend (vConsD (vTake (vTup (vConsD (vTake (vC (.str "if"))) (vConsD (vTake (vBin oIx (vVar 0) (vC (.int 1)))) vNilD)))) vNilD)))
      (sIf (bVal (vBin oInQ (vVar 2) (vLst (vConsD (vTake (vC (.str "set"))) (vConsD (vTake (vC (.str "take"))) (vConsD (vTake (vC (.str "go"))) vNilD))))))
      (sDrop (vMt 4 "list" mAppend (vConsD (vTake (vTup (vConsD (vTake (vVar 2)) (vConsD (vTake (vBin oIx (vVar 0) (vC (.int 1)))) vNilD)))) vNilD)))
      (sIf (bVal (vBin oEq (vVar 2) (vC (.str "call"))))
      (sDrop (vMt 4 "list" mAppend (vConsD (vTake (vTup (vConsD (vTake (vC (.str "call"))) (vConsD (vTake (vTup (vConsD (vTake (vBin oIx (vVar 0) (vC (.int 1)))) (vConsD (vTake (vCallB oLen (vConsH (vBin oIx (vVar 0) (vC (.int 2))) vNilH))) (vConsD (vTake (vBin oIx (vVar 0) (vC (.int 3)))) vNilD))))) vNilD)))) vNilD)))
      (sIf (bVal (vBin oEq (vVar 2) (vC (.str "back"))))
      (sDrop (vMt 4 "list" mAppend (vConsD (vTake (vTup (vConsD (vTake (vC (.str "back"))) (vConsD (vTake (vIf (bVal (vBin oIsN (vBin oIx (vVar 0) (vC (.int 1))) (vC .non))) (vC (.int 0)) (vC (.int 1)))) vNilD)))) vNilD)))
      (sIf (bVal (vBin oEq (vVar 2) (vC (.str "hear"))))
      (sDrop (vMt 4 "list" mAppend (vConsD (vTake (vTup (vConsD (vTake (vC (.str "hear"))) (vConsD (vTake (vTup (vConsD (vTake (vBin oIx (vVar 0) (vC (.int 1)))) (vConsD (vTake (vBin oIx (vVar 0) (vC (.int 2)))) vNilD)))) vNilD)))) vNilD)))
      (sDrop (vMt 4 "list" mAppend (vConsD (vTake (vTup (vConsD (vTake (vVar 2)) (vConsD (vTake (vC .non)) vNilD)))) vNilD))))))))
    (sRet (vLc (iR1 (vConsH (vCallB oLen (vConsH (vVar 4) vNilH)) vNilH)) (gN 6) bYes (vTake (vTup (vConsD (vTake (vBin oIx (vBin oIx (vVar 4) (vVar 6)) (vC (.int 0)))) (vConsD (vTake (vBin oIx (vBin oIx (vVar 4) (vVar 6)) (vC (.int 1)))) (vConsD (vTake (vBin oIx (vBin oIx (vVar 1) (vVar 6)) (vC (.int 0)))) (vConsD (vTake (vBin oIx (vBin oIx (vVar 1) (vVar 6)) (vC (.int 1)))) vNilD)))))) [6])))))))
def F_m_words : FF := defF 7 2 f_m_words
theorem df_m_words (g : Gb mg K w) (F' : Fun K "_law_m_words" "_law_m_words" tx_m_words f fd) (m : mg "_law_m_words" = some (.ref f)) (d_m_ops : Df P w K mg base 6 "_law_m_ops" ["tree"] (F_m_ops 6)) : Df P w K mg base 7 "_law_m_words" ["tree", "places"] F_m_words :=
  ⟨f, fd, fnV F' sc_m_words (fun cdv A outer s H E hr => VSs.ex (have hu := hr.units; have sc := sc_m_words;
    (vs_cons (v_set 2 sc.nd (v_ix (K := K) (v_var 0) v_int))
    (vs_cons (v_set 3 sc.nd (v_if (vt_cmp (op_eqK (K := K) rfl hu) (fun _ e => e ▸ s_eq) (v_var 2) v_str) (v_ix (K := K) (v_var 0) v_int) (v_if (vt_cmp (op_inK (K := K) rfl) (fun _ e => e ▸ s_inQ) (v_var 2) (v_lst (vds_cons v_str (vds_cons v_str vds_nil)))) (v_lst (vds_cons (v_ix (K := K) (v_var 0) v_int) vds_nil)) (v_if (vt_cmp (op_inK (K := K) rfl) (fun _ e => e ▸ s_inQ) (v_var 2) (v_lst (vds_cons v_str (vds_cons v_str (vds_cons v_str (vds_cons v_str vds_nil)))))) (v_lst (vds_cons (v_ix (K := K) (v_var 0) v_int) vds_nil)) (v_lst vds_nil)))))
    (vs_cons (v_set 4 sc.nd (v_lst vds_nil))
    (vs_cons (v_for (vi_seq (K := K) (v_var 3)) (vg_name 5 sc.nd)
      (vs_one (v_ifS (vt_cmp op_notN2 (fun _ _ => s_notN) (v_var 5) v_non)
      (vs_one (v_set 4 sc.nd (v_add (K := K) (v_var 4) (v_call d_m_ops hr (vhs_cons (v_var 5) vhs_nil)))))
      vs_nil)))
    (vs_cons (v_ifS (vw_t (vw_and (vt_cmp (op_eqK (K := K) rfl hu) (fun _ e => e ▸ s_eq) (v_var 2) v_str) (vw_and1 (vt_cmp op_notN2 (fun _ _ => s_notN) (v_ix (K := K) (v_var 0) v_int) v_non))))
      (vs_one (v_expr (v_append 4 (v_var 4) (v_tup (vds_cons v_str (vds_cons (v_ix (K := K) (v_var 0) v_int) vds_nil))))))
      (vs_one (v_ifS (vt_cmp (op_inK (K := K) rfl) (fun _ e => e ▸ s_inQ) (v_var 2) (v_lst (vds_cons v_str (vds_cons v_str (vds_cons v_str vds_nil)))))
      (vs_one (v_expr (v_append 4 (v_var 4) (v_tup (vds_cons (v_var 2) (vds_cons (v_ix (K := K) (v_var 0) v_int) vds_nil))))))
      (vs_one (v_ifS (vt_cmp (op_eqK (K := K) rfl hu) (fun _ e => e ▸ s_eq) (v_var 2) v_str)
      (vs_one (v_expr (v_append 4 (v_var 4) (v_tup (vds_cons v_str (vds_cons (v_tup (vds_cons (v_ix (K := K) (v_var 0) v_int) (vds_cons (v_callB (call_lenK2 (K := K) rfl) (fun _ e => e ▸ s_len) PySem.boot_len g.b_len (vhs_cons (v_ix (K := K) (v_var 0) v_int) vhs_nil)) (vds_cons (v_ix (K := K) (v_var 0) v_int) vds_nil)))) vds_nil))))))
      (vs_one (v_ifS (vt_cmp (op_eqK (K := K) rfl hu) (fun _ e => e ▸ s_eq) (v_var 2) v_str)
      (vs_one (v_expr (v_append 4 (v_var 4) (v_tup (vds_cons v_str (vds_cons (v_if (vt_cmp op_isN2 (fun _ _ => s_isN) (v_ix (K := K) (v_var 0) v_int) v_non) v_int v_int) vds_nil))))))
      (vs_one (v_ifS (vt_cmp (op_eqK (K := K) rfl hu) (fun _ e => e ▸ s_eq) (v_var 2) v_str)
      (vs_one (v_expr (v_append 4 (v_var 4) (v_tup (vds_cons v_str (vds_cons (v_tup (vds_cons (v_ix (K := K) (v_var 0) v_int) (vds_cons (v_ix (K := K) (v_var 0) v_int) vds_nil))) vds_nil))))))
      (vs_one (v_expr (v_append 4 (v_var 4) (v_tup (vds_cons (v_var 2) (vds_cons v_non vds_nil)))))))))))))))
    (vs_one (v_ret (v_lc [("at", 6)] sc.nd (vi_r1 g.b_range (vhs_cons (v_callB (call_lenK2 (K := K) rfl) (fun _ e => e ▸ s_len) PySem.boot_len g.b_len (vhs_cons (v_var 4) vhs_nil)) vhs_nil)) (by kernel_rfl) (fun _ _ _ _ _ => (vg_name 6 sc.nd)) (fun _ _ _ _ _ => by exact vts_nil) (fun _ _ _ _ _ => by exact (v_tup (vds_cons (v_ix (K := K) (v_ix (K := K) (v_var 4) (v_var 6)) v_int) (vds_cons (v_ix (K := K) (v_ix (K := K) (v_var 4) (v_var 6)) v_int) (vds_cons (v_ix (K := K) (v_ix (K := K) (v_var 1) (v_var 6)) v_int) (vds_cons (v_ix (K := K) (v_ix (K := K) (v_var 1) (v_var 6)) v_int) vds_nil)))))))))))))))), m, F'.kp, F'.binds (ps := ["tree", "places"]) fun _ _ _ _ _ _ us hl => match us, hl with | [_, _], _ => rfl⟩
/-! ### _law_m_work -/
abbrev tx_m_work : Stmt := top 14
theorem sc_m_work : FnScope ["op", "left", "right", "number"] ["op", "left", "right"] (defScope tx_m_work) := ⟨rfl, rfl, rfl, by decide +kernel, rfl, by decide +kernel, by decide +kernel⟩
def f_m_work : SF :=
    (sSeq (sIf (bOr (bVal (vBin oEq (vVar 0) (vC (.str "less")))) (bOr (bVal (vBin oEq (vVar 0) (vC (.str "same")))) (bVal (vBin oEq (vVar 0) (vC (.str "more"))))))
      (sRet (vCallB oInt (vConsH (vIf (bVal (vBin oEq (vVar 0) (vC (.str "less")))) (vBin oLt (vVar 1) (vVar 2)) (vIf (bVal (vBin oEq (vVar 0) (vC (.str "same")))) (vBin oEq (vVar 1) (vVar 2)) (vBin oGt (vVar 1) (vVar 2)))) vNilH)))
      sNil)
    (sSeq (sIf (bAnd (bVal (vBin oEq (vVar 0) (vC (.str "div")))) (bVal (vBin oEq (vVar 2) (vC (.int 0)))))
      (sRet (vC (.str "zero")))
      sNil)
    (sSeq (sSet 3 (vIf (bVal (vBin oEq (vVar 0) (vC (.str "add")))) (vBin oAdd (vVar 1) (vVar 2)) (vIf (bVal (vBin oEq (vVar 0) (vC (.str "sub")))) (vBin oSub (vVar 1) (vVar 2)) (vBin oMul (vVar 1) (vVar 2)))))
    (sSeq (sIf (bVal (vBin oEq (vVar 0) (vC (.str "div"))))
      (sSet 3 (vBin oDiv (vVar 1) (vVar 2)))
      sNil)
    (sRet (vIf (bVal (vBin oGe (vCallB oAbs (vConsH (vVar 3) vNilH)) (vBin oPow (vC (.int 10)) (vC (.int 40))))) (vC (.str "great")) (vVar 3)))))))
def F_m_work : FF := defF 4 3 f_m_work
theorem df_m_work (g : Gb mg K w) (F' : Fun K "_law_m_work" "_law_m_work" tx_m_work f fd) (m : mg "_law_m_work" = some (.ref f))  : Df P w K mg base 1 "_law_m_work" ["op", "left", "right"] F_m_work :=
  ⟨f, fd, fnV F' sc_m_work (fun cdv A outer s H E hr => VSs.ex (have hu := hr.units; have sc := sc_m_work;
    (vs_cons (v_ifS (vw_t (vw_or (vt_cmp (op_eqK (K := K) rfl hu) (fun _ e => e ▸ s_eq) (v_var 0) v_str) (vw_or (vt_cmp (op_eqK (K := K) rfl hu) (fun _ e => e ▸ s_eq) (v_var 0) v_str) (vw_or1 (vt_cmp (op_eqK (K := K) rfl hu) (fun _ e => e ▸ s_eq) (v_var 0) v_str)))))
      (vs_one (v_ret (v_callTy call_intA (fun _ _ => s_int) PyProof.Rows.boot_int g.b_int (vhs_cons (v_if (vt_cmp (op_eqK (K := K) rfl hu) (fun _ e => e ▸ s_eq) (v_var 0) v_str) (v_cmp op_lt (fun _ _ => s_lt) (v_var 1) (v_var 2)) (v_if (vt_cmp (op_eqK (K := K) rfl hu) (fun _ e => e ▸ s_eq) (v_var 0) v_str) (v_cmp (op_eqK (K := K) rfl hu) (fun _ e => e ▸ s_eq) (v_var 1) (v_var 2)) (v_cmp op_gt (fun _ _ => s_gt) (v_var 1) (v_var 2)))) vhs_nil))))
      vs_nil)
    (vs_cons (v_ifS (vw_t (vw_and (vt_cmp (op_eqK (K := K) rfl hu) (fun _ e => e ▸ s_eq) (v_var 0) v_str) (vw_and1 (vt_cmp (op_eqK (K := K) rfl hu) (fun _ e => e ▸ s_eq) (v_var 2) v_int))))
      (vs_one (v_ret v_str))
      vs_nil)
    (vs_cons (v_set 3 sc.nd (v_if (vt_cmp (op_eqK (K := K) rfl hu) (fun _ e => e ▸ s_eq) (v_var 0) v_str) (v_add (K := K) (v_var 1) (v_var 2)) (v_if (vt_cmp (op_eqK (K := K) rfl hu) (fun _ e => e ▸ s_eq) (v_var 0) v_str) (v_sub (v_var 1) (v_var 2)) (v_mul (v_var 1) (v_var 2)))))
    (vs_cons (v_ifS (vt_cmp (op_eqK (K := K) rfl hu) (fun _ e => e ▸ s_eq) (v_var 0) v_str)
      (vs_one (v_set 3 sc.nd (v_div (v_var 1) (v_var 2))))
      vs_nil)
    (vs_one (v_ret (v_if (vt_cmp op_ge (fun _ _ => s_ge) (v_callB call_abs (fun _ _ => s_abs) boot_abs g.b_abs (vhs_cons (v_var 3) vhs_nil)) (v_pow v_int v_int)) v_str (v_var 3)))))))))), m, F'.kp, F'.binds (ps := ["op", "left", "right"]) fun _ _ _ _ _ _ us hl => match us, hl with | [_, _, _], _ => rfl⟩
/-! ### _law_m_fold -/
abbrev tx_m_fold : Stmt := top 15
theorem sc_m_fold : FnScope ["words", "found", "word", "many", "worth", "one"] ["words"] (defScope tx_m_fold) := ⟨rfl, rfl, rfl, by decide +kernel, rfl, by decide +kernel, by decide +kernel⟩
def f_m_fold : SF :=
    (sSeq (sSet 1 (vLst vNilD))
    (sSeq (sFor (iSeq (vVar 0)) (gN 2)
      (sSeq (sSet 3 (vIf (bVal (vBin oEq (vBin oIx (vVar 2) (vC (.int 0))) (vC (.str "neg")))) (vC (.int 1)) (vIf (bVal (vBin oInQ (vBin oIx (vVar 2) (vC (.int 0))) (vLst (vConsD (vTake (vC (.str "add"))) (vConsD (vTake (vC (.str "sub"))) (vConsD (vTake (vC (.str "mul"))) (vConsD (vTake (vC (.str "div"))) (vConsD (vTake (vC (.str "less"))) (vConsD (vTake (vC (.str "same"))) (vConsD (vTake (vC (.str "more"))) vNilD)))))))))) (vC (.int 2)) (vC (.int 0)))))
    (sSeq (sSet 4 (vC (.str "none")))
    (sSeq (sIf (bAnd (bVal (vBin oGt (vVar 3) (vC (.int 0)))) (bAnd (bVal (vBin oGe (vCallB oLen (vConsH (vVar 1) vNilH)) (vVar 3))) (bTru (vCallB oAll (vConsH (vLc (iSeq (vSl (vVar 1) (vP (vBin oSub (vCallB oLen (vConsH (vVar 1) vNilH)) (vVar 3))) vNoP)) (gN 5) bYes (vTake (vBin oEq (vBin oIx (vVar 5) (vC (.int 0))) (vC (.str "push")))) [5]) vNilH)))))
      (sSet 4 (vIf (bVal (vBin oEq (vVar 3) (vC (.int 1)))) (vBin oSub (vC (.int 0)) (vBin oIx (vBin oIx (vVar 1) (vUn oNeg (vC (.int 1)))) (vC (.int 1)))) (vCall F_m_work (vConsH (vBin oIx (vVar 2) (vC (.int 0))) (vConsH (vBin oIx (vBin oIx (vVar 1) (vUn oNeg (vC (.int 2)))) (vC (.int 1))) (vConsH (vBin oIx (vBin oIx (vVar 1) (vUn oNeg (vC (.int 1)))) (vC (.int 1))) vNilH))))))
      sNil)
    (sIf (bTru (vCallB oIsi (vConsH (vVar 4) (vConsH (vC (.opq (.ty "str"))) vNilH))))
      (sDrop (vMt 1 "list" mAppend (vConsD (vTake (vVar 2)) vNilD)))
      (sSet 1 (vBin oAdd (vSl (vVar 1) vNoP (vP (vBin oSub (vCallB oLen (vConsH (vVar 1) vNilH)) (vVar 3)))) (vLst (vConsD (vTake (vTup (vConsD (vTake (vC (.str "push"))) (vConsD (vTake (vVar 4)) (vConsD (vTake (vBin oIx (vVar 2) (vC (.int 2)))) (vConsD (vTake (vBin oIx (vVar 2) (vC (.int 3)))) vNilD)))))) vNilD)))))))))
    (sRet (vVar 1))))
def F_m_fold : FF := defF 6 1 f_m_fold
theorem df_m_fold (g : Gb mg K w) (F' : Fun K "_law_m_fold" "_law_m_fold" tx_m_fold f fd) (m : mg "_law_m_fold" = some (.ref f)) (d_m_work : Df P w K mg base 1 "_law_m_work" ["op", "left", "right"] F_m_work) : Df P w K mg base 2 "_law_m_fold" ["words"] F_m_fold :=
  ⟨f, fd, fnV F' sc_m_fold (fun cdv A outer s H E hr => VSs.ex (have hu := hr.units; have sc := sc_m_fold;
    (vs_cons (v_set 1 sc.nd (v_lst vds_nil))
    (vs_cons (v_for (vi_seq (K := K) (v_var 0)) (vg_name 2 sc.nd)
      (vs_cons (v_set 3 sc.nd (v_if (vt_cmp (op_eqK (K := K) rfl hu) (fun _ e => e ▸ s_eq) (v_ix (K := K) (v_var 2) v_int) v_str) v_int (v_if (vt_cmp (op_inK (K := K) rfl) (fun _ e => e ▸ s_inQ) (v_ix (K := K) (v_var 2) v_int) (v_lst (vds_cons v_str (vds_cons v_str (vds_cons v_str (vds_cons v_str (vds_cons v_str (vds_cons v_str (vds_cons v_str vds_nil))))))))) v_int v_int)))
    (vs_cons (v_set 4 sc.nd v_str)
    (vs_cons (v_ifS (vw_t (vw_and (vt_cmp op_gt (fun _ _ => s_gt) (v_var 3) v_int) (vw_and (vt_cmp op_ge (fun _ _ => s_ge) (v_callB (call_lenK2 (K := K) rfl) (fun _ e => e ▸ s_len) PySem.boot_len g.b_len (vhs_cons (v_var 1) vhs_nil)) (v_var 3)) (vw_and1 (vt_tru (K := K) (v_callB (call_allK (K := K) rfl rfl) (fun _ e => e ▸ s_all) boot_all g.b_all (vhs_cons (v_lc [("one", 5)] sc.nd (vi_seq (K := K) (v_sl (K := K) (v_var 1) (vo_some (v_sub (v_callB (call_lenK2 (K := K) rfl) (fun _ e => e ▸ s_len) PySem.boot_len g.b_len (vhs_cons (v_var 1) vhs_nil)) (v_var 3))) vo_none)) (by kernel_rfl) (fun _ _ _ _ _ => (vg_name 5 sc.nd)) (fun _ _ _ _ _ => by exact vts_nil) (fun _ _ _ _ _ => by exact (v_cmp (op_eqK (K := K) rfl hu) (fun _ e => e ▸ s_eq) (v_ix (K := K) (v_var 5) v_int) v_str))) vhs_nil)))))))
      (vs_one (v_set 4 sc.nd (v_if (vt_cmp (op_eqK (K := K) rfl hu) (fun _ e => e ▸ s_eq) (v_var 3) v_int) (v_sub v_int (v_ix (K := K) (v_ix (K := K) (v_var 1) (v_neg v_int)) v_int)) (v_call d_m_work hr (vhs_cons (v_ix (K := K) (v_var 2) v_int) (vhs_cons (v_ix (K := K) (v_ix (K := K) (v_var 1) (v_neg v_int)) v_int) (vhs_cons (v_ix (K := K) (v_ix (K := K) (v_var 1) (v_neg v_int)) v_int) vhs_nil)))))))
      vs_nil)
    (vs_one (v_ifS (vt_tru (K := K) (v_callB (call_isiK2 (K := K) rfl) (fun _ e => e ▸ s_isi) boot_isinstance g.b_isinstance (vhs_cons (v_var 4) (vhs_cons (v_ty g.b_str PyProof.Rows.boot_str) vhs_nil))))
      (vs_one (v_expr (v_append 1 (v_var 1) (v_var 2))))
      (vs_one (v_set 1 sc.nd (v_add (K := K) (v_sl (K := K) (v_var 1) vo_none (vo_some (v_sub (v_callB (call_lenK2 (K := K) rfl) (fun _ e => e ▸ s_len) PySem.boot_len g.b_len (vhs_cons (v_var 1) vhs_nil)) (v_var 3)))) (v_lst (vds_cons (v_tup (vds_cons v_str (vds_cons (v_var 4) (vds_cons (v_ix (K := K) (v_var 2) v_int) (vds_cons (v_ix (K := K) (v_var 2) v_int) vds_nil))))) vds_nil)))))))))))
    (vs_one (v_ret (v_var 1))))))), m, F'.kp, F'.binds (ps := ["words"]) fun _ _ _ _ _ _ us hl => match us, hl with | [_], _ => rfl⟩
/-! ### _law_big -/
abbrev tx_big : Stmt := top 16
theorem sc_big : FnScope ["source", "many", "text", "k"] ["source"] (defScope tx_big) := ⟨rfl, rfl, rfl, by decide +kernel, rfl, by decide +kernel, by decide +kernel⟩
def f_big : SF :=
    (sSeq (sSet 1 (vBin oIx (vLst (vConsD (vTake (vC (.int 1))) (vConsD (vTake (vC (.int 1))) (vConsD (vTake (vC (.int 2))) (vConsD (vTake (vC (.int 3))) (vConsD (vTake (vC (.int 30))) (vConsD (vTake (vBin oAdd (vC (.int 1)) (vCall F_pick (vConsH (vVar 0) (vConsH (vC (.int 30)) vNilH))))) vNilD))))))) (vCall F_pick (vConsH (vVar 0) (vConsH (vC (.int 6)) vNilH)))))
    (sSeq (sSet 2 (vBin oAdd (vCallB oStr (vConsH (vBin oAdd (vC (.int 1)) (vCall F_pick (vConsH (vVar 0) (vConsH (vC (.int 9)) vNilH)))) vNilH)) (vJoin (vC (.str "")) (vLc (iR1 (vConsH (vBin oSub (vVar 1) (vC (.int 1))) vNilH)) (gN 3) bYes (vTake (vCallB oStr (vConsH (vCall F_pick (vConsH (vVar 0) (vConsH (vC (.int 10)) vNilH))) vNilH))) [3]))))
    (sRet (vIf (bVal (vBin oGt (vCall F_pick (vConsH (vVar 0) (vConsH (vC (.int 8)) vNilH))) (vC (.int 0)))) (vCallB oInt (vConsH (vVar 2) vNilH)) (vC (.int 0))))))
def F_big : FF := defF 4 1 f_big
theorem df_big (g : Gb mg K w) (F' : Fun K "_law_big" "_law_big" tx_big f fd) (m : mg "_law_big" = some (.ref f)) (d_pick : Df P w K mg base 1 "_law_pick" ["source", "many"] F_pick) : Df P w K mg base 2 "_law_big" ["source"] F_big :=
  ⟨f, fd, fnV F' sc_big (fun cdv A outer s H E hr => VSs.ex (have hu := hr.units; have sc := sc_big;
    (vs_cons (v_set 1 sc.nd (v_ix (K := K) (v_lst (vds_cons v_int (vds_cons v_int (vds_cons v_int (vds_cons v_int (vds_cons v_int (vds_cons (v_add (K := K) v_int (v_call d_pick hr (vhs_cons (v_var 0) (vhs_cons v_int vhs_nil)))) vds_nil))))))) (v_call d_pick hr (vhs_cons (v_var 0) (vhs_cons v_int vhs_nil)))))
    (vs_cons (v_set 2 sc.nd (v_add (K := K) (v_callTy call_str_int (fun _ _ => s_str) PyProof.Rows.boot_str g.b_str (vhs_cons (v_add (K := K) v_int (v_call d_pick hr (vhs_cons (v_var 0) (vhs_cons v_int vhs_nil)))) vhs_nil)) (v_join (K := K) v_str (v_lc [("k", 3)] sc.nd (vi_r1 g.b_range (vhs_cons (v_sub (v_var 1) v_int) vhs_nil)) (by kernel_rfl) (fun _ _ _ _ _ => (vg_name 3 sc.nd)) (fun _ _ _ _ _ => by exact vts_nil) (fun _ _ _ _ _ => by exact (v_callTy call_str_int (fun _ _ => s_str) PyProof.Rows.boot_str g.b_str (vhs_cons (v_call d_pick hr (vhs_cons (v_var 0) (vhs_cons v_int vhs_nil))) vhs_nil)))))))
    (vs_one (v_ret (v_if (vt_cmp op_gt (fun _ _ => s_gt) (v_call d_pick hr (vhs_cons (v_var 0) (vhs_cons v_int vhs_nil))) v_int) (v_callTy call_intA (fun _ _ => s_int) PyProof.Rows.boot_int g.b_int (vhs_cons (v_var 2) vhs_nil)) v_int))))))), m, F'.kp, F'.binds (ps := ["source"]) fun _ _ _ _ _ _ us hl => match us, hl with | [_], _ => rfl⟩
/-! ### _law_spelled -/
abbrev tx_spelled : Stmt := top 17
theorem sc_spelled : FnScope ["source", "tree", "least", "count", "sign", "rank", "found", "inner", "left", "right", "extra", "k"] ["source", "tree", "least", "count"] (defScope tx_spelled) := ⟨rfl, rfl, rfl, by decide +kernel, rfl, by decide +kernel, by decide +kernel⟩
def f_spelled (F_spelled : FF) : SF :=
    (sSeq (sSet 4 (vBin oIx (vVar 1) (vC (.int 0))))
    (sSeq (sSet 5 (vC (.int 5)))
    (sSeq (sIf (bOr (bVal (vBin oEq (vVar 4) (vC (.str "number")))) (bVal (vBin oEq (vVar 4) (vC (.str "name")))))
      (sSet 6 (vLst (vConsD (vTake (vTup (vConsD (vTake (vCallB oStrA (vConsH (vBin oIx (vVar 1) (vC (.int 1))) vNilH))) (vConsD (vTake (vBin oIx (vVar 3) (vC (.int 0)))) vNilD)))) vNilD)))
      (sIf (bVal (vBin oEq (vVar 4) (vC (.str "minus"))))
      (sSeq (sSet 5 (vC (.int 4)))
    (sSeq (sSet 7 (vCall F_spelled (vConsH (vVar 0) (vConsH (vBin oIx (vVar 1) (vC (.int 1))) (vConsH (vC (.int 4)) (vConsH (vVar 3) vNilH))))))
    (sSet 6 (vBin oAdd (vLst (vConsD (vTake (vTup (vConsD (vTake (vC (.str "-"))) (vConsD (vTake (vBin oIx (vVar 3) (vC (.int 0)))) vNilD)))) vNilD)) (vVar 7)))))
      (sSeq (sSet 5 (vIf (bVal (vBin oInQ (vVar 4) (vLst (vConsD (vTake (vC (.str "<"))) (vConsD (vTake (vC (.str "="))) (vConsD (vTake (vC (.str ">"))) vNilD)))))) (vC (.int 1)) (vIf (bVal (vBin oInQ (vVar 4) (vLst (vConsD (vTake (vC (.str "+"))) (vConsD (vTake (vC (.str "-"))) vNilD))))) (vC (.int 2)) (vC (.int 3)))))
    (sSeq (sSet 8 (vCall F_spelled (vConsH (vVar 0) (vConsH (vBin oIx (vVar 1) (vC (.int 1))) (vConsH (vCallB oMax (vConsH (vC (.int 2)) (vConsH (vVar 5) vNilH))) (vConsH (vVar 3) vNilH))))))
    (sSeq (sSet 9 (vCall F_spelled (vConsH (vVar 0) (vConsH (vBin oIx (vVar 1) (vC (.int 2))) (vConsH (vBin oAdd (vVar 5) (vC (.int 1))) (vConsH (vVar 3) vNilH))))))
    (sSet 6 (vBin oAdd (vBin oAdd (vVar 8) (vLst (vConsD (vTake (vTup (vConsD (vTake (vVar 4)) (vConsD (vTake (vBin oIx (vVar 3) (vC (.int 0)))) vNilD)))) vNilD))) (vVar 9))))))))
    (sSeq (sAugIx 3 (vC (.int 0)) oAddI (vC (.int 1)))
    (sSeq (sSet 10 (vIf (bAnd (bVal (vBin oNotN (vVar 0) (vC .non))) (bVal (vBin oEq (vCall F_pick (vConsH (vVar 0) (vConsH (vC (.int 6)) vNilH))) (vC (.int 0))))) (vC (.int 1)) (vC (.int 0))))
    (sSeq (sFor (iR1 (vConsH (vBin oAdd (vVar 10) (vCallB oInt (vConsH (vBin oLt (vVar 5) (vVar 2)) vNilH))) vNilH)) (gN 11)
      (sSet 6 (vBin oAdd (vBin oAdd (vLst (vConsD (vTake (vTup (vConsD (vTake (vC (.str "("))) (vConsD (vTake (vC .non)) vNilD)))) vNilD)) (vVar 6)) (vLst (vConsD (vTake (vTup (vConsD (vTake (vC (.str ")"))) (vConsD (vTake (vC .non)) vNilD)))) vNilD)))))
    (sRet (vVar 6))))))))
def F_spelled : Nat → FF
  | 0 => fun _ => none
  | k + 1 => defF 12 4 (f_spelled (F_spelled k))
theorem st_spelled (g : Gb mg K w) (F' : Fun K "_law_spelled" "_law_spelled" tx_spelled f fd) (m : mg "_law_spelled" = some (.ref f)) {F : FF} {k : Nat} (hk : 1 ≤ k) (d_spelled : Df P w K mg base k "_law_spelled" ["source", "tree", "least", "count"] F) (d_pick : Df P w K mg base 1 "_law_pick" ["source", "many"] F_pick) : Df P w K mg base (k + 1) "_law_spelled" ["source", "tree", "least", "count"] (defF 12 4 (f_spelled F)) :=
  ⟨f, fd, fnV F' sc_spelled (fun cdv A outer s H E hr => VSs.ex (have hu := hr.units; have sc := sc_spelled;
    (vs_cons (v_set 4 sc.nd (v_ix (K := K) (v_var 1) v_int))
    (vs_cons (v_set 5 sc.nd v_int)
    (vs_cons (v_ifS (vw_t (vw_or (vt_cmp (op_eqK (K := K) rfl hu) (fun _ e => e ▸ s_eq) (v_var 4) v_str) (vw_or1 (vt_cmp (op_eqK (K := K) rfl hu) (fun _ e => e ▸ s_eq) (v_var 4) v_str))))
      (vs_one (v_set 6 sc.nd (v_lst (vds_cons (v_tup (vds_cons (v_callTy call_strA (fun _ _ => s_strA) PyProof.Rows.boot_str g.b_str (vhs_cons (v_ix (K := K) (v_var 1) v_int) vhs_nil)) (vds_cons (v_ix (K := K) (v_var 3) v_int) vds_nil))) vds_nil))))
      (vs_one (v_ifS (vt_cmp (op_eqK (K := K) rfl hu) (fun _ e => e ▸ s_eq) (v_var 4) v_str)
      (vs_cons (v_set 5 sc.nd v_int)
    (vs_cons (v_set 7 sc.nd (v_call d_spelled hr (vhs_cons (v_var 0) (vhs_cons (v_ix (K := K) (v_var 1) v_int) (vhs_cons v_int (vhs_cons (v_var 3) vhs_nil))))))
    (vs_one (v_set 6 sc.nd (v_add (K := K) (v_lst (vds_cons (v_tup (vds_cons v_str (vds_cons (v_ix (K := K) (v_var 3) v_int) vds_nil))) vds_nil)) (v_var 7))))))
      (vs_cons (v_set 5 sc.nd (v_if (vt_cmp (op_inK (K := K) rfl) (fun _ e => e ▸ s_inQ) (v_var 4) (v_lst (vds_cons v_str (vds_cons v_str (vds_cons v_str vds_nil))))) v_int (v_if (vt_cmp (op_inK (K := K) rfl) (fun _ e => e ▸ s_inQ) (v_var 4) (v_lst (vds_cons v_str (vds_cons v_str vds_nil)))) v_int v_int)))
    (vs_cons (v_set 8 sc.nd (v_call d_spelled hr (vhs_cons (v_var 0) (vhs_cons (v_ix (K := K) (v_var 1) v_int) (vhs_cons (v_callB (call_maxK (K := K) rfl rfl) (fun _ e => e ▸ s_max) boot_max g.b_max (vhs_cons v_int (vhs_cons (v_var 5) vhs_nil))) (vhs_cons (v_var 3) vhs_nil))))))
    (vs_cons (v_set 9 sc.nd (v_call d_spelled hr (vhs_cons (v_var 0) (vhs_cons (v_ix (K := K) (v_var 1) v_int) (vhs_cons (v_add (K := K) (v_var 5) v_int) (vhs_cons (v_var 3) vhs_nil))))))
    (vs_one (v_set 6 sc.nd (v_add (K := K) (v_add (K := K) (v_var 8) (v_lst (vds_cons (v_tup (vds_cons (v_var 4) (vds_cons (v_ix (K := K) (v_var 3) v_int) vds_nil))) vds_nil))) (v_var 9))))))))))
    (vs_cons (v_augIx 3 ip_add s_ipadd (v_var 3) v_int v_int)
    (vs_cons (v_set 10 sc.nd (v_if (vw_t (vw_and (vt_cmp op_notN2 (fun _ _ => s_notN) (v_var 0) v_non) (vw_and1 (vt_cmp (op_eqK (K := K) rfl hu) (fun _ e => e ▸ s_eq) (v_call d_pick hr (vhs_cons (v_var 0) (vhs_cons v_int vhs_nil))) v_int)))) v_int v_int))
    (vs_cons (v_for (vi_r1 g.b_range (vhs_cons (v_add (K := K) (v_var 10) (v_callTy call_intA (fun _ _ => s_int) PyProof.Rows.boot_int g.b_int (vhs_cons (v_cmp op_lt (fun _ _ => s_lt) (v_var 5) (v_var 2)) vhs_nil))) vhs_nil)) (vg_name 11 sc.nd)
      (vs_one (v_set 6 sc.nd (v_add (K := K) (v_add (K := K) (v_lst (vds_cons (v_tup (vds_cons v_str (vds_cons v_non vds_nil))) vds_nil)) (v_var 6)) (v_lst (vds_cons (v_tup (vds_cons v_str (vds_cons v_non vds_nil))) vds_nil))))))
    (vs_one (v_ret (v_var 6))))))))))), m, F'.kp, F'.binds (ps := ["source", "tree", "least", "count"]) fun _ _ _ _ _ _ us hl => match us, hl with | [_, _, _, _], _ => rfl⟩
theorem df_spelled (g : Gb mg K w) (F' : Fun K "_law_spelled" "_law_spelled" tx_spelled f fd) (m : mg "_law_spelled" = some (.ref f)) (d_pick : Df P w K mg base 1 "_law_pick" ["source", "many"] F_pick) : ∀ k, Df P w K mg base (1 + k) "_law_spelled" ["source", "tree", "least", "count"] (F_spelled k)
  | 0 => ⟨f, fd, fn_none (fun _ => rfl), m, F'.kp, F'.binds (ps := ["source", "tree", "least", "count"]) fun _ _ _ _ _ _ us hl => match us, hl with | [_, _, _, _], _ => rfl⟩
  | k + 1 => st_spelled (k := 1 + k) g F' m (by omega) (df_spelled g F' m d_pick k) d_pick
/-! ### _law_tokened -/
abbrev tx_tokened : Stmt := top 18
theorem sc_tokened : FnScope ["source", "tree", "count", "word", "found", "part"] ["source", "tree"] (defScope tx_tokened) := ⟨rfl, rfl, rfl, by decide +kernel, rfl, by decide +kernel, by decide +kernel⟩
def f_tokened : SF :=
    (sSeq (sSet 2 (vLst (vConsD (vTake (vC (.int 0))) vNilD)))
    (sSeq (sSet 3 (vBin oIx (vVar 1) (vC (.int 0))))
    (sSeq (sIf (bVal (vBin oEq (vVar 3) (vC (.str "rem"))))
      (sRet (vTup (vConsD (vTake (vLst vNilD)) (vConsD (vTake (vC (.int 1))) vNilD))))
      sNil)
    (sSeq (sSet 4 (vLst vNilD))
    (sSeq (sIf (bAnd (bVal (vBin oInQ (vVar 3) (vLst (vConsD (vTake (vC (.str "set"))) (vConsD (vTake (vC (.str "go"))) vNilD))))) (bVal (vBin oNotN (vBin oIx (vVar 1) (vC (.int 2))) (vC .non))))
      (sSet 4 (vCall (F_spelled 6) (vConsH (vVar 0) (vConsH (vBin oIx (vVar 1) (vC (.int 2))) (vConsH (vC (.int 1)) (vConsH (vVar 2) vNilH))))))
      sNil)
    (sSeq (sIf (bAnd (bVal (vBin oInQ (vVar 3) (vLst (vConsD (vTake (vC (.str "back"))) (vConsD (vTake (vC (.str "tell"))) (vConsD (vTake (vC (.str "give"))) (vConsD (vTake (vC (.str "put"))) vNilD))))))) (bVal (vBin oNotN (vBin oIx (vVar 1) (vC (.int 1))) (vC .non))))
      (sSet 4 (vCall (F_spelled 6) (vConsH (vVar 0) (vConsH (vBin oIx (vVar 1) (vC (.int 1))) (vConsH (vC (.int 1)) (vConsH (vVar 2) vNilH))))))
      sNil)
    (sSeq (sIf (bVal (vBin oEq (vVar 3) (vC (.str "call"))))
      (sSeq (sFor (iSeq (vBin oIx (vVar 1) (vC (.int 2)))) (gN 5)
      (sSet 4 (vBin oAdd (vBin oAdd (vVar 4) (vIf (bVal (vBin oGt (vCallB oLen (vConsH (vVar 4) vNilH)) (vC (.int 0)))) (vLst (vConsD (vTake (vTup (vConsD (vTake (vC (.str ","))) (vConsD (vTake (vC .non)) vNilD)))) vNilD)) (vLst vNilD))) (vCall (F_spelled 6) (vConsH (vVar 0) (vConsH (vVar 5) (vConsH (vC (.int 1)) (vConsH (vVar 2) vNilH))))))))
    (sSet 4 (vBin oAdd (vBin oAdd (vBin oAdd (vLst (vConsD (vTake (vTup (vConsD (vTake (vC (.str "("))) (vConsD (vTake (vC .non)) vNilD)))) vNilD)) (vVar 4)) (vLst (vConsD (vTake (vTup (vConsD (vTake (vC (.str ")"))) (vConsD (vTake (vC .non)) vNilD)))) vNilD))) (vIf (bVal (vBin oNotN (vBin oIx (vVar 1) (vC (.int 3))) (vC .non))) (vLst (vConsD (vTake (vTup (vConsD (vTake (vC (.str "as"))) (vConsD (vTake (vC .non)) vNilD)))) (vConsD (vTake (vTup (vConsD (vTake (vBin oIx (vVar 1) (vC (.int 3)))) (vConsD (vTake (vC .non)) vNilD)))) vNilD))) (vLst vNilD)))))
      sNil)
    (sSeq (sIf (bVal (vBin oEq (vVar 3) (vC (.str "set"))))
      (sSet 4 (vBin oAdd (vLst (vConsD (vTake (vTup (vConsD (vTake (vBin oIx (vVar 1) (vC (.int 1)))) (vConsD (vTake (vBin oIx (vVar 2) (vC (.int 0)))) vNilD)))) (vConsD (vTake (vTup (vConsD (vTake (vC (.str "="))) (vConsD (vTake (vC .non)) vNilD)))) vNilD))) (vVar 4)))
      sNil)
    (sSeq (sIf (bVal (vBin oEq (vVar 3) (vC (.str "go"))))
      (sSet 4 (vBin oAdd (vBin oAdd (vLst (vConsD (vTake (vTup (vConsD (vTake (vCallB oStrA (vConsH (vBin oIx (vVar 1) (vC (.int 1))) vNilH))) (vConsD (vTake (vBin oIx (vVar 2) (vC (.int 0)))) vNilD)))) vNilD)) (vIf (bVal (vBin oGt (vCallB oLen (vConsH (vVar 4) vNilH)) (vC (.int 0)))) (vLst (vConsD (vTake (vTup (vConsD (vTake (vC (.str "if"))) (vConsD (vTake (vC .non)) vNilD)))) vNilD)) (vLst vNilD))) (vVar 4)))
      sNil)
    (sSeq (sIf (bVal (vBin oEq (vVar 3) (vC (.str "take"))))
      (sSet 4 (vLst (vConsD (vTake (vTup (vConsD (vTake (vBin oIx (vVar 1) (vC (.int 1)))) (vConsD (vTake (vC (.int 0))) vNilD)))) vNilD)))
      sNil)
    (sSeq (sIf (bVal (vBin oEq (vVar 3) (vC (.str "hear"))))
      (sSet 4 (vLst (vConsD (vTake (vTup (vConsD (vTake (vBin oIx (vVar 1) (vC (.int 1)))) (vConsD (vTake (vC (.int 0))) vNilD)))) (vConsD (vTake (vTup (vConsD (vTake (vC (.str "="))) (vConsD (vTake (vC .non)) vNilD)))) (vConsD (vTake (vTup (vConsD (vTake (vBin oIx (vVar 1) (vC (.int 2)))) (vConsD (vTake (vC .non)) vNilD)))) vNilD)))))
      sNil)
    (sRet (vTup (vConsD (vTake (vVar 4)) (vConsD (vTake (vBin oAdd (vBin oIx (vVar 2) (vC (.int 0))) (vC (.int 1)))) vNilD)))))))))))))))
def F_tokened : FF := defF 6 2 f_tokened
theorem df_tokened (g : Gb mg K w) (F' : Fun K "_law_tokened" "_law_tokened" tx_tokened f fd) (m : mg "_law_tokened" = some (.ref f)) (d_spelled : Df P w K mg base 7 "_law_spelled" ["source", "tree", "least", "count"] (F_spelled 6)) : Df P w K mg base 8 "_law_tokened" ["source", "tree"] F_tokened :=
  ⟨f, fd, fnV F' sc_tokened (fun cdv A outer s H E hr => VSs.ex (have hu := hr.units; have sc := sc_tokened;
    (vs_cons (v_set 2 sc.nd (v_lst (vds_cons v_int vds_nil)))
    (vs_cons (v_set 3 sc.nd (v_ix (K := K) (v_var 1) v_int))
    (vs_cons (v_ifS (vt_cmp (op_eqK (K := K) rfl hu) (fun _ e => e ▸ s_eq) (v_var 3) v_str)
      (vs_one (v_ret (v_tup (vds_cons (v_lst vds_nil) (vds_cons v_int vds_nil)))))
      vs_nil)
    (vs_cons (v_set 4 sc.nd (v_lst vds_nil))
    (vs_cons (v_ifS (vw_t (vw_and (vt_cmp (op_inK (K := K) rfl) (fun _ e => e ▸ s_inQ) (v_var 3) (v_lst (vds_cons v_str (vds_cons v_str vds_nil)))) (vw_and1 (vt_cmp op_notN2 (fun _ _ => s_notN) (v_ix (K := K) (v_var 1) v_int) v_non))))
      (vs_one (v_set 4 sc.nd (v_call d_spelled hr (vhs_cons (v_var 0) (vhs_cons (v_ix (K := K) (v_var 1) v_int) (vhs_cons v_int (vhs_cons (v_var 2) vhs_nil)))))))
      vs_nil)
    (vs_cons (v_ifS (vw_t (vw_and (vt_cmp (op_inK (K := K) rfl) (fun _ e => e ▸ s_inQ) (v_var 3) (v_lst (vds_cons v_str (vds_cons v_str (vds_cons v_str (vds_cons v_str vds_nil)))))) (vw_and1 (vt_cmp op_notN2 (fun _ _ => s_notN) (v_ix (K := K) (v_var 1) v_int) v_non))))
      (vs_one (v_set 4 sc.nd (v_call d_spelled hr (vhs_cons (v_var 0) (vhs_cons (v_ix (K := K) (v_var 1) v_int) (vhs_cons v_int (vhs_cons (v_var 2) vhs_nil)))))))
      vs_nil)
    (vs_cons (v_ifS (vt_cmp (op_eqK (K := K) rfl hu) (fun _ e => e ▸ s_eq) (v_var 3) v_str)
      (vs_cons (v_for (vi_seq (K := K) (v_ix (K := K) (v_var 1) v_int)) (vg_name 5 sc.nd)
      (vs_one (v_set 4 sc.nd (v_add (K := K) (v_add (K := K) (v_var 4) (v_if (vt_cmp op_gt (fun _ _ => s_gt) (v_callB (call_lenK2 (K := K) rfl) (fun _ e => e ▸ s_len) PySem.boot_len g.b_len (vhs_cons (v_var 4) vhs_nil)) v_int) (v_lst (vds_cons (v_tup (vds_cons v_str (vds_cons v_non vds_nil))) vds_nil)) (v_lst vds_nil))) (v_call d_spelled hr (vhs_cons (v_var 0) (vhs_cons (v_var 5) (vhs_cons v_int (vhs_cons (v_var 2) vhs_nil)))))))))
    (vs_one (v_set 4 sc.nd (v_add (K := K) (v_add (K := K) (v_add (K := K) (v_lst (vds_cons (v_tup (vds_cons v_str (vds_cons v_non vds_nil))) vds_nil)) (v_var 4)) (v_lst (vds_cons (v_tup (vds_cons v_str (vds_cons v_non vds_nil))) vds_nil))) (v_if (vt_cmp op_notN2 (fun _ _ => s_notN) (v_ix (K := K) (v_var 1) v_int) v_non) (v_lst (vds_cons (v_tup (vds_cons v_str (vds_cons v_non vds_nil))) (vds_cons (v_tup (vds_cons (v_ix (K := K) (v_var 1) v_int) (vds_cons v_non vds_nil))) vds_nil))) (v_lst vds_nil))))))
      vs_nil)
    (vs_cons (v_ifS (vt_cmp (op_eqK (K := K) rfl hu) (fun _ e => e ▸ s_eq) (v_var 3) v_str)
      (vs_one (v_set 4 sc.nd (v_add (K := K) (v_lst (vds_cons (v_tup (vds_cons (v_ix (K := K) (v_var 1) v_int) (vds_cons (v_ix (K := K) (v_var 2) v_int) vds_nil))) (vds_cons (v_tup (vds_cons v_str (vds_cons v_non vds_nil))) vds_nil))) (v_var 4))))
      vs_nil)
    (vs_cons (v_ifS (vt_cmp (op_eqK (K := K) rfl hu) (fun _ e => e ▸ s_eq) (v_var 3) v_str)
      (vs_one (v_set 4 sc.nd (v_add (K := K) (v_add (K := K) (v_lst (vds_cons (v_tup (vds_cons (v_callTy call_strA (fun _ _ => s_strA) PyProof.Rows.boot_str g.b_str (vhs_cons (v_ix (K := K) (v_var 1) v_int) vhs_nil)) (vds_cons (v_ix (K := K) (v_var 2) v_int) vds_nil))) vds_nil)) (v_if (vt_cmp op_gt (fun _ _ => s_gt) (v_callB (call_lenK2 (K := K) rfl) (fun _ e => e ▸ s_len) PySem.boot_len g.b_len (vhs_cons (v_var 4) vhs_nil)) v_int) (v_lst (vds_cons (v_tup (vds_cons v_str (vds_cons v_non vds_nil))) vds_nil)) (v_lst vds_nil))) (v_var 4))))
      vs_nil)
    (vs_cons (v_ifS (vt_cmp (op_eqK (K := K) rfl hu) (fun _ e => e ▸ s_eq) (v_var 3) v_str)
      (vs_one (v_set 4 sc.nd (v_lst (vds_cons (v_tup (vds_cons (v_ix (K := K) (v_var 1) v_int) (vds_cons v_int vds_nil))) vds_nil))))
      vs_nil)
    (vs_cons (v_ifS (vt_cmp (op_eqK (K := K) rfl hu) (fun _ e => e ▸ s_eq) (v_var 3) v_str)
      (vs_one (v_set 4 sc.nd (v_lst (vds_cons (v_tup (vds_cons (v_ix (K := K) (v_var 1) v_int) (vds_cons v_int vds_nil))) (vds_cons (v_tup (vds_cons v_str (vds_cons v_non vds_nil))) (vds_cons (v_tup (vds_cons (v_ix (K := K) (v_var 1) v_int) (vds_cons v_non vds_nil))) vds_nil))))))
      vs_nil)
    (vs_one (v_ret (v_tup (vds_cons (v_var 4) (vds_cons (v_add (K := K) (v_ix (K := K) (v_var 2) v_int) v_int) vds_nil)))))))))))))))))), m, F'.kp, F'.binds (ps := ["source", "tree"]) fun _ _ _ _ _ _ us hl => match us, hl with | [_, _], _ => rfl⟩
/-! ### _law_spread -/
abbrev tx_spread : Stmt := top 19
theorem sc_spread : FnScope ["source", "tree", "figures", "letters", "tokens", "many", "text", "places", "last", "token", "mark", "glued"] ["source", "tree"] (defScope tx_spread) := ⟨rfl, rfl, rfl, by decide +kernel, rfl, by decide +kernel, by decide +kernel⟩
def f_spread : SF :=
    (sSeq (sAsg (vTake (vTup (vConsD (vTake (vC (.str "0123456789"))) (vConsD (vTake (vC (.str "abcdefghijklmnopqrstuvwxyz0123456789"))) vNilD)))) (gT 2 (gConsF (gN 2) (gConsF (gN 3) gNilF))))
    (sSeq (sAsg (vTake (vCall F_tokened (vConsH (vVar 0) (vConsH (vVar 1) vNilH)))) (gT 2 (gConsF (gN 4) (gConsF (gN 5) gNilF))))
    (sSeq (sSet 6 (vBin oAdd (vBin oIx (vVar 1) (vC (.int 0))) (vIf (bVal (vBin oEq (vBin oIx (vVar 1) (vC (.int 0))) (vC (.str "call")))) (vBin oAdd (vC (.str " ")) (vBin oIx (vVar 1) (vC (.int 1)))) (vC (.str "")))))
    (sSeq (sSet 7 (vBin oRep (vLst (vConsD (vTake (vIf (bVal (vBin oEq (vBin oIx (vVar 1) (vC (.int 0))) (vC (.str "call")))) (vTup (vConsD (vTake (vC (.int 6))) (vConsD (vTake (vCallB oLen (vConsH (vVar 6) vNilH))) vNilD))) (vTup (vConsD (vTake (vC (.int 1))) (vConsD (vTake (vCallB oLen (vConsH (vVar 6) vNilH))) vNilD))))) vNilD)) (vVar 5)))
    (sSeq (sSet 8 (vIf (bVal (vBin oEq (vBin oIx (vVar 1) (vC (.int 0))) (vC (.str "call")))) (vC (.str ")")) (vC (.str "a"))))
    (sSeq (sFor (iSeq (vVar 4)) (gT 2 (gConsF (gN 9) (gConsF (gN 10) gNilF)))
      (sSeq (sSet 11 (vB (bAnd (bVal (vBin oInStr (vBin oIx (vVar 8) (vUn oNeg (vC (.int 1)))) (vVar 3))) (bAnd (bVal (vBin oInStr (vBin oIx (vVar 9) (vC (.int 0))) (vVar 3))) (bOr (bVal (vBin oNotInStr (vBin oIx (vVar 8) (vC (.int 0))) (vVar 2))) (bVal (vBin oInStr (vBin oIx (vVar 9) (vC (.int 0))) (vVar 2))))))))
    (sSeq (sIf (bOr (bVal (vBin oEq (vCallB oLen (vConsH (vVar 6) vNilH)) (vCallB oLen (vConsH (vBin oIx (vVar 1) (vC (.int 0))) vNilH)))) (bOr (bTru (vVar 11)) (bVal (vBin oEq (vCall F_pick (vConsH (vVar 0) (vConsH (vC (.int 2)) vNilH))) (vC (.int 0))))))
      (sSet 6 (vBin oAdd (vVar 6) (vC (.str " "))))
      sNil)
    (sSeq (sIf (bVal (vBin oNotN (vVar 10) (vC .non)))
      (sSetIx 7 (vTake (vTup (vConsD (vTake (vBin oAdd (vCallB oLen (vConsH (vVar 6) vNilH)) (vC (.int 1)))) (vConsD (vTake (vBin oAdd (vCallB oLen (vConsH (vVar 6) vNilH)) (vCallB oLen (vConsH (vVar 9) vNilH)))) vNilD)))) (vVar 10))
      sNil)
    (sSeq (sSet 6 (vBin oAdd (vVar 6) (vVar 9)))
    (sSet 8 (vVar 9)))))))
    (sSeq (sIf (bAnd (bVal (vBin oEq (vBin oIx (vVar 1) (vC (.int 0))) (vC (.str "rem")))) (bVal (vBin oEq (vCall F_pick (vConsH (vVar 0) (vConsH (vC (.int 2)) vNilH))) (vC (.int 0)))))
      (sSet 6 (vBin oAdd (vBin oAdd (vBin oAdd (vVar 6) (vC (.str " "))) (vCallB oStr (vConsH (vCall F_big (vConsH (vVar 0) vNilH)) vNilH))) (vC (.str " $ A!"))))
      sNil)
    (sRet (vTup (vConsD (vTake (vVar 6)) (vConsD (vTake (vVar 7)) vNilD)))))))))))
def F_spread : FF := defF 12 2 f_spread
theorem df_spread (g : Gb mg K w) (F' : Fun K "_law_spread" "_law_spread" tx_spread f fd) (m : mg "_law_spread" = some (.ref f)) (d_tokened : Df P w K mg base 8 "_law_tokened" ["source", "tree"] F_tokened) (d_pick : Df P w K mg base 1 "_law_pick" ["source", "many"] F_pick) (d_big : Df P w K mg base 2 "_law_big" ["source"] F_big) : Df P w K mg base 9 "_law_spread" ["source", "tree"] F_spread :=
  ⟨f, fd, fnV F' sc_spread (fun cdv A outer s H E hr => VSs.ex (have hu := hr.units; have sc := sc_spread;
    (vs_cons (v_asg (v_tup (vds_cons v_str (vds_cons v_str vds_nil))) (vg_tup (K := K) (vgs_cons (vg_name 2 sc.nd) (vgs_cons (vg_name 3 sc.nd) vgs_nil))))
    (vs_cons (v_asg (v_call d_tokened hr (vhs_cons (v_var 0) (vhs_cons (v_var 1) vhs_nil))) (vg_tup (K := K) (vgs_cons (vg_name 4 sc.nd) (vgs_cons (vg_name 5 sc.nd) vgs_nil))))
    (vs_cons (v_set 6 sc.nd (v_add (K := K) (v_ix (K := K) (v_var 1) v_int) (v_if (vt_cmp (op_eqK (K := K) rfl hu) (fun _ e => e ▸ s_eq) (v_ix (K := K) (v_var 1) v_int) v_str) (v_add (K := K) v_str (v_ix (K := K) (v_var 1) v_int)) v_str)))
    (vs_cons (v_set 7 sc.nd (v_rep (v_lst (vds_cons (v_if (vt_cmp (op_eqK (K := K) rfl hu) (fun _ e => e ▸ s_eq) (v_ix (K := K) (v_var 1) v_int) v_str) (v_tup (vds_cons v_int (vds_cons (v_callB (call_lenK2 (K := K) rfl) (fun _ e => e ▸ s_len) PySem.boot_len g.b_len (vhs_cons (v_var 6) vhs_nil)) vds_nil))) (v_tup (vds_cons v_int (vds_cons (v_callB (call_lenK2 (K := K) rfl) (fun _ e => e ▸ s_len) PySem.boot_len g.b_len (vhs_cons (v_var 6) vhs_nil)) vds_nil)))) vds_nil)) (v_var 5)))
    (vs_cons (v_set 8 sc.nd (v_if (vt_cmp (op_eqK (K := K) rfl hu) (fun _ e => e ▸ s_eq) (v_ix (K := K) (v_var 1) v_int) v_str) v_str v_str))
    (vs_cons (v_for (vi_seq (K := K) (v_var 4)) (vg_tup (K := K) (vgs_cons (vg_name 9 sc.nd) (vgs_cons (vg_name 10 sc.nd) vgs_nil)))
      (vs_cons (v_set 11 sc.nd (v_and (v_b (v_cmp op_inStrR (fun _ _ => s_inStr) (v_ix (K := K) (v_var 8) (v_neg v_int)) (v_var 3))) (v_and (v_b (v_cmp op_inStrR (fun _ _ => s_inStr) (v_ix (K := K) (v_var 9) v_int) (v_var 3))) (v_one (v_or (v_b (v_cmp op_notInStrR (fun _ _ => s_notInStr) (v_ix (K := K) (v_var 8) v_int) (v_var 2))) (v_one (v_b (v_cmp op_inStrR (fun _ _ => s_inStr) (v_ix (K := K) (v_var 9) v_int) (v_var 2)))))))))
    (vs_cons (v_ifS (vw_t (vw_or (vt_cmp (op_eqK (K := K) rfl hu) (fun _ e => e ▸ s_eq) (v_callB (call_lenK2 (K := K) rfl) (fun _ e => e ▸ s_len) PySem.boot_len g.b_len (vhs_cons (v_var 6) vhs_nil)) (v_callB (call_lenK2 (K := K) rfl) (fun _ e => e ▸ s_len) PySem.boot_len g.b_len (vhs_cons (v_ix (K := K) (v_var 1) v_int) vhs_nil))) (vw_or (vt_tru (K := K) (v_var 11)) (vw_or1 (vt_cmp (op_eqK (K := K) rfl hu) (fun _ e => e ▸ s_eq) (v_call d_pick hr (vhs_cons (v_var 0) (vhs_cons v_int vhs_nil))) v_int)))))
      (vs_one (v_set 6 sc.nd (v_add (K := K) (v_var 6) v_str)))
      vs_nil)
    (vs_cons (v_ifS (vt_cmp op_notN2 (fun _ _ => s_notN) (v_var 10) v_non)
      (vs_one (v_setIx 7 (v_var 7) (v_var 10) (v_tup (vds_cons (v_add (K := K) (v_callB (call_lenK2 (K := K) rfl) (fun _ e => e ▸ s_len) PySem.boot_len g.b_len (vhs_cons (v_var 6) vhs_nil)) v_int) (vds_cons (v_add (K := K) (v_callB (call_lenK2 (K := K) rfl) (fun _ e => e ▸ s_len) PySem.boot_len g.b_len (vhs_cons (v_var 6) vhs_nil)) (v_callB (call_lenK2 (K := K) rfl) (fun _ e => e ▸ s_len) PySem.boot_len g.b_len (vhs_cons (v_var 9) vhs_nil))) vds_nil)))))
      vs_nil)
    (vs_cons (v_set 6 sc.nd (v_add (K := K) (v_var 6) (v_var 9)))
    (vs_one (v_set 8 sc.nd (v_var 9))))))))
    (vs_cons (v_ifS (vw_t (vw_and (vt_cmp (op_eqK (K := K) rfl hu) (fun _ e => e ▸ s_eq) (v_ix (K := K) (v_var 1) v_int) v_str) (vw_and1 (vt_cmp (op_eqK (K := K) rfl hu) (fun _ e => e ▸ s_eq) (v_call d_pick hr (vhs_cons (v_var 0) (vhs_cons v_int vhs_nil))) v_int))))
      (vs_one (v_set 6 sc.nd (v_add (K := K) (v_add (K := K) (v_add (K := K) (v_var 6) v_str) (v_callTy call_str_int (fun _ _ => s_str) PyProof.Rows.boot_str g.b_str (vhs_cons (v_call d_big hr (vhs_cons (v_var 0) vhs_nil)) vhs_nil))) v_str)))
      vs_nil)
    (vs_one (v_ret (v_tup (vds_cons (v_var 6) (vds_cons (v_var 7) vds_nil)))))))))))))), m, F'.kp, F'.binds (ps := ["source", "tree"]) fun _ _ _ _ _ _ us hl => match us, hl with | [_, _], _ => rfl⟩
/-! ### _law_rich -/
abbrev tx_rich : Stmt := top 20
theorem sc_rich : FnScope ["source", "depth", "kind", "left"] ["source", "depth"] (defScope tx_rich) := ⟨rfl, rfl, rfl, by decide +kernel, rfl, by decide +kernel, by decide +kernel⟩
def f_rich (F_rich : FF) : SF :=
    (sSeq (sIf (bOr (bVal (vBin oEq (vVar 1) (vC (.int 0)))) (bVal (vBin oEq (vCall F_pick (vConsH (vVar 0) (vConsH (vC (.int 5)) vNilH))) (vC (.int 0)))))
      (sSeq (sSet 2 (vCall F_pick (vConsH (vVar 0) (vConsH (vC (.int 6)) vNilH))))
    (sSeq (sIf (bVal (vBin oEq (vVar 2) (vC (.int 0))))
      (sRet (vTup (vConsD (vTake (vC (.str "name"))) (vConsD (vTake (vBin oIx (vLst (vConsD (vTake (vC (.str "x"))) (vConsD (vTake (vC (.str "y"))) (vConsD (vTake (vC (.str "@g"))) vNilD)))) (vCall F_pick (vConsH (vVar 0) (vConsH (vC (.int 3)) vNilH))))) vNilD))))
      sNil)
    (sRet (vTup (vConsD (vTake (vC (.str "number"))) (vConsD (vTake (vBin oIx (vLst (vConsD (vTake (vC (.int 0))) (vConsD (vTake (vCall F_pick (vConsH (vVar 0) (vConsH (vC (.int 10)) vNilH)))) (vConsD (vTake (vBin oAdd (vBin oPow (vC (.int 10)) (vC (.int 20))) (vCall F_pick (vConsH (vVar 0) (vConsH (vC (.int 9)) vNilH))))) (vConsD (vTake (vBin oSub (vBin oPow (vC (.int 10)) (vC (.int 30))) (vC (.int 1)))) (vConsD (vTake (vCall F_big (vConsH (vVar 0) vNilH))) vNilD)))))) (vBin oSub (vVar 2) (vC (.int 1))))) vNilD))))))
      sNil)
    (sSeq (sSet 2 (vCall F_pick (vConsH (vVar 0) (vConsH (vC (.int 8)) vNilH))))
    (sSeq (sSet 3 (vCall F_rich (vConsH (vVar 0) (vConsH (vBin oSub (vVar 1) (vC (.int 1))) vNilH))))
    (sRet (vIf (bVal (vBin oEq (vVar 2) (vC (.int 7)))) (vTup (vConsD (vTake (vC (.str "minus"))) (vConsD (vTake (vVar 3)) vNilD))) (vTup (vConsD (vTake (vBin oIx (vLst (vConsD (vTake (vC (.str "+"))) (vConsD (vTake (vC (.str "-"))) (vConsD (vTake (vC (.str "*"))) (vConsD (vTake (vC (.str "/"))) (vConsD (vTake (vC (.str "<"))) (vConsD (vTake (vC (.str "="))) (vConsD (vTake (vC (.str ">"))) vNilD)))))))) (vVar 2))) (vConsD (vTake (vVar 3)) (vConsD (vTake (vCall F_rich (vConsH (vVar 0) (vConsH (vBin oSub (vVar 1) (vC (.int 1))) vNilH)))) vNilD)))))))))
def F_rich : Nat → FF
  | 0 => fun _ => none
  | k + 1 => defF 4 2 (f_rich (F_rich k))
theorem st_rich (g : Gb mg K w) (F' : Fun K "_law_rich" "_law_rich" tx_rich f fd) (m : mg "_law_rich" = some (.ref f)) {F : FF} {k : Nat} (hk : 2 ≤ k) (d_pick : Df P w K mg base 1 "_law_pick" ["source", "many"] F_pick) (d_big : Df P w K mg base 2 "_law_big" ["source"] F_big) (d_rich : Df P w K mg base k "_law_rich" ["source", "depth"] F) : Df P w K mg base (k + 1) "_law_rich" ["source", "depth"] (defF 4 2 (f_rich F)) :=
  ⟨f, fd, fnV F' sc_rich (fun cdv A outer s H E hr => VSs.ex (have hu := hr.units; have sc := sc_rich;
    (vs_cons (v_ifS (vw_t (vw_or (vt_cmp (op_eqK (K := K) rfl hu) (fun _ e => e ▸ s_eq) (v_var 1) v_int) (vw_or1 (vt_cmp (op_eqK (K := K) rfl hu) (fun _ e => e ▸ s_eq) (v_call d_pick hr (vhs_cons (v_var 0) (vhs_cons v_int vhs_nil))) v_int))))
      (vs_cons (v_set 2 sc.nd (v_call d_pick hr (vhs_cons (v_var 0) (vhs_cons v_int vhs_nil))))
    (vs_cons (v_ifS (vt_cmp (op_eqK (K := K) rfl hu) (fun _ e => e ▸ s_eq) (v_var 2) v_int)
      (vs_one (v_ret (v_tup (vds_cons v_str (vds_cons (v_ix (K := K) (v_lst (vds_cons v_str (vds_cons v_str (vds_cons v_str vds_nil)))) (v_call d_pick hr (vhs_cons (v_var 0) (vhs_cons v_int vhs_nil)))) vds_nil)))))
      vs_nil)
    (vs_one (v_ret (v_tup (vds_cons v_str (vds_cons (v_ix (K := K) (v_lst (vds_cons v_int (vds_cons (v_call d_pick hr (vhs_cons (v_var 0) (vhs_cons v_int vhs_nil))) (vds_cons (v_add (K := K) (v_pow v_int v_int) (v_call d_pick hr (vhs_cons (v_var 0) (vhs_cons v_int vhs_nil)))) (vds_cons (v_sub (v_pow v_int v_int) v_int) (vds_cons (v_call d_big hr (vhs_cons (v_var 0) vhs_nil)) vds_nil)))))) (v_sub (v_var 2) v_int)) vds_nil)))))))
      vs_nil)
    (vs_cons (v_set 2 sc.nd (v_call d_pick hr (vhs_cons (v_var 0) (vhs_cons v_int vhs_nil))))
    (vs_cons (v_set 3 sc.nd (v_call d_rich hr (vhs_cons (v_var 0) (vhs_cons (v_sub (v_var 1) v_int) vhs_nil))))
    (vs_one (v_ret (v_if (vt_cmp (op_eqK (K := K) rfl hu) (fun _ e => e ▸ s_eq) (v_var 2) v_int) (v_tup (vds_cons v_str (vds_cons (v_var 3) vds_nil))) (v_tup (vds_cons (v_ix (K := K) (v_lst (vds_cons v_str (vds_cons v_str (vds_cons v_str (vds_cons v_str (vds_cons v_str (vds_cons v_str (vds_cons v_str vds_nil)))))))) (v_var 2)) (vds_cons (v_var 3) (vds_cons (v_call d_rich hr (vhs_cons (v_var 0) (vhs_cons (v_sub (v_var 1) v_int) vhs_nil))) vds_nil)))))))))))), m, F'.kp, F'.binds (ps := ["source", "depth"]) fun _ _ _ _ _ _ us hl => match us, hl with | [_, _], _ => rfl⟩
theorem df_rich (g : Gb mg K w) (F' : Fun K "_law_rich" "_law_rich" tx_rich f fd) (m : mg "_law_rich" = some (.ref f)) (d_pick : Df P w K mg base 1 "_law_pick" ["source", "many"] F_pick) (d_big : Df P w K mg base 2 "_law_big" ["source"] F_big) : ∀ k, Df P w K mg base (2 + k) "_law_rich" ["source", "depth"] (F_rich k)
  | 0 => ⟨f, fd, fn_none (fun _ => rfl), m, F'.kp, F'.binds (ps := ["source", "depth"]) fun _ _ _ _ _ _ us hl => match us, hl with | [_, _], _ => rfl⟩
  | k + 1 => st_rich (k := 2 + k) g F' m (by omega) d_pick d_big (df_rich g F' m d_pick d_big k)
/-! ### _law_worths -/
abbrev tx_worths : Stmt := top 21
theorem sc_worths : FnScope ["words", "names", "stack", "word", "right", "worth"] ["words", "names"] (defScope tx_worths) := ⟨rfl, rfl, rfl, by decide +kernel, rfl, by decide +kernel, by decide +kernel⟩
def f_worths : SF :=
    (sSeq (sSet 2 (vLst vNilD))
    (sSeq (sFor (iSeq (vVar 0)) (gN 3)
      (sIf (bVal (vBin oEq (vBin oIx (vVar 3) (vC (.int 0))) (vC (.str "push"))))
      (sDrop (vMt 2 "list" mAppend (vConsD (vTake (vBin oIx (vVar 3) (vC (.int 1)))) vNilD)))
      (sIf (bVal (vBin oEq (vBin oIx (vVar 3) (vC (.int 0))) (vC (.str "get"))))
      (sDrop (vMt 2 "list" mAppend (vConsD (vTake (vBin oDGet (vVar 1) (vBin oIx (vVar 3) (vC (.int 1))))) vNilD)))
      (sIf (bVal (vBin oEq (vBin oIx (vVar 3) (vC (.int 0))) (vC (.str "neg"))))
      (sDrop (vMt 2 "list" mAppend (vConsD (vTake (vBin oSub (vC (.int 0)) (vMt 2 "list" mPop vNilD))) vNilD)))
      (sSeq (sSet 4 (vMt 2 "list" mPop vNilD))
    (sSeq (sSet 5 (vCall F_m_work (vConsH (vBin oIx (vVar 3) (vC (.int 0))) (vConsH (vMt 2 "list" mPop vNilD) (vConsH (vVar 4) vNilH)))))
    (sSeq (sIf (bTru (vCallB oIsi (vConsH (vVar 5) (vConsH (vC (.opq (.ty "str"))) vNilH))))
      (sRet (vVar 5))
      sNil)
    (sDrop (vMt 2 "list" mAppend (vConsD (vTake (vVar 5)) vNilD))))))))))
    (sRet (vVar 2))))
def F_worths : FF := defF 6 2 f_worths
theorem df_worths (g : Gb mg K w) (F' : Fun K "_law_worths" "_law_worths" tx_worths f fd) (m : mg "_law_worths" = some (.ref f)) (d_m_work : Df P w K mg base 1 "_law_m_work" ["op", "left", "right"] F_m_work) : Df P w K mg base 2 "_law_worths" ["words", "names"] F_worths :=
  ⟨f, fd, fnV F' sc_worths (fun cdv A outer s H E hr => VSs.ex (have hu := hr.units; have sc := sc_worths;
    (vs_cons (v_set 2 sc.nd (v_lst vds_nil))
    (vs_cons (v_for (vi_seq (K := K) (v_var 0)) (vg_name 3 sc.nd)
      (vs_one (v_ifS (vt_cmp (op_eqK (K := K) rfl hu) (fun _ e => e ▸ s_eq) (v_ix (K := K) (v_var 3) v_int) v_str)
      (vs_one (v_expr (v_append 2 (v_var 2) (v_ix (K := K) (v_var 3) v_int))))
      (vs_one (v_ifS (vt_cmp (op_eqK (K := K) rfl hu) (fun _ e => e ▸ s_eq) (v_ix (K := K) (v_var 3) v_int) v_str)
      (vs_one (v_expr (v_append 2 (v_var 2) (v_dget hu (v_var 1) (v_ix (K := K) (v_var 3) v_int)))))
      (vs_one (v_ifS (vt_cmp (op_eqK (K := K) rfl hu) (fun _ e => e ▸ s_eq) (v_ix (K := K) (v_var 3) v_int) v_str)
      (vs_one (v_expr (v_append 2 (v_var 2) (v_sub v_int (v_pop 2 (v_var 2))))))
      (vs_cons (v_set 4 sc.nd (v_pop 2 (v_var 2)))
    (vs_cons (v_set 5 sc.nd (v_call d_m_work hr (vhs_cons (v_ix (K := K) (v_var 3) v_int) (vhs_cons (v_pop 2 (v_var 2)) (vhs_cons (v_var 4) vhs_nil)))))
    (vs_cons (v_ifS (vt_tru (K := K) (v_callB (call_isiK2 (K := K) rfl) (fun _ e => e ▸ s_isi) boot_isinstance g.b_isinstance (vhs_cons (v_var 5) (vhs_cons (v_ty g.b_str PyProof.Rows.boot_str) vhs_nil))))
      (vs_one (v_ret (v_var 5)))
      vs_nil)
    (vs_one (v_expr (v_append 2 (v_var 2) (v_var 5))))))))))))))
    (vs_one (v_ret (v_var 2))))))), m, F'.kp, F'.binds (ps := ["words", "names"]) fun _ _ _ _ _ _ us hl => match us, hl with | [_, _], _ => rfl⟩
/-! ### _law_left -/
abbrev tx_left : Stmt := top 22
theorem sc_left : FnScope ["words", "at", "op"] ["words"] (defScope tx_left) := ⟨rfl, rfl, rfl, by decide +kernel, rfl, by decide +kernel, by decide +kernel⟩
def f_left : SF :=
    (sSeq (sFor (iR1 (vConsH (vCallB oLen (vConsH (vVar 0) vNilH)) vNilH)) (gN 1)
      (sSeq (sSet 2 (vBin oIx (vBin oIx (vVar 0) (vVar 1)) (vC (.int 0))))
    (sSeq (sIf (bAnd (bVal (vBin oEq (vVar 2) (vC (.str "neg")))) (bAnd (bVal (vBin oGt (vVar 1) (vC (.int 0)))) (bVal (vBin oEq (vBin oIx (vBin oIx (vVar 0) (vBin oSub (vVar 1) (vC (.int 1)))) (vC (.int 0))) (vC (.str "push"))))))
      (sRet (vC (.bl true)))
      sNil)
    (sIf (bAnd (bVal (vBin oInQ (vVar 2) (vLst (vConsD (vTake (vC (.str "add"))) (vConsD (vTake (vC (.str "sub"))) (vConsD (vTake (vC (.str "mul"))) (vConsD (vTake (vC (.str "div"))) (vConsD (vTake (vC (.str "less"))) (vConsD (vTake (vC (.str "same"))) (vConsD (vTake (vC (.str "more"))) vNilD)))))))))) (bAnd (bVal (vBin oGt (vVar 1) (vC (.int 1)))) (bAnd (bVal (vBin oEq (vBin oIx (vBin oIx (vVar 0) (vBin oSub (vVar 1) (vC (.int 1)))) (vC (.int 0))) (vC (.str "push")))) (bVal (vBin oEq (vBin oIx (vBin oIx (vVar 0) (vBin oSub (vVar 1) (vC (.int 2)))) (vC (.int 0))) (vC (.str "push")))))))
      (sIf (bNot (bTru (vCallB oIsi (vConsH (vCall F_m_work (vConsH (vVar 2) (vConsH (vBin oIx (vBin oIx (vVar 0) (vBin oSub (vVar 1) (vC (.int 2)))) (vC (.int 1))) (vConsH (vBin oIx (vBin oIx (vVar 0) (vBin oSub (vVar 1) (vC (.int 1)))) (vC (.int 1))) vNilH)))) (vConsH (vC (.opq (.ty "str"))) vNilH)))))
      (sRet (vC (.bl true)))
      sNil)
      sNil))))
    (sRet (vC (.bl false))))
def F_left : FF := defF 3 1 f_left
theorem df_left (g : Gb mg K w) (F' : Fun K "_law_left" "_law_left" tx_left f fd) (m : mg "_law_left" = some (.ref f)) (d_m_work : Df P w K mg base 1 "_law_m_work" ["op", "left", "right"] F_m_work) : Df P w K mg base 2 "_law_left" ["words"] F_left :=
  ⟨f, fd, fnV F' sc_left (fun cdv A outer s H E hr => VSs.ex (have hu := hr.units; have sc := sc_left;
    (vs_cons (v_for (vi_r1 g.b_range (vhs_cons (v_callB (call_lenK2 (K := K) rfl) (fun _ e => e ▸ s_len) PySem.boot_len g.b_len (vhs_cons (v_var 0) vhs_nil)) vhs_nil)) (vg_name 1 sc.nd)
      (vs_cons (v_set 2 sc.nd (v_ix (K := K) (v_ix (K := K) (v_var 0) (v_var 1)) v_int))
    (vs_cons (v_ifS (vw_t (vw_and (vt_cmp (op_eqK (K := K) rfl hu) (fun _ e => e ▸ s_eq) (v_var 2) v_str) (vw_and (vt_cmp op_gt (fun _ _ => s_gt) (v_var 1) v_int) (vw_and1 (vt_cmp (op_eqK (K := K) rfl hu) (fun _ e => e ▸ s_eq) (v_ix (K := K) (v_ix (K := K) (v_var 0) (v_sub (v_var 1) v_int)) v_int) v_str)))))
      (vs_one (v_ret v_bl))
      vs_nil)
    (vs_one (v_ifS (vw_t (vw_and (vt_cmp (op_inK (K := K) rfl) (fun _ e => e ▸ s_inQ) (v_var 2) (v_lst (vds_cons v_str (vds_cons v_str (vds_cons v_str (vds_cons v_str (vds_cons v_str (vds_cons v_str (vds_cons v_str vds_nil))))))))) (vw_and (vt_cmp op_gt (fun _ _ => s_gt) (v_var 1) v_int) (vw_and (vt_cmp (op_eqK (K := K) rfl hu) (fun _ e => e ▸ s_eq) (v_ix (K := K) (v_ix (K := K) (v_var 0) (v_sub (v_var 1) v_int)) v_int) v_str) (vw_and1 (vt_cmp (op_eqK (K := K) rfl hu) (fun _ e => e ▸ s_eq) (v_ix (K := K) (v_ix (K := K) (v_var 0) (v_sub (v_var 1) v_int)) v_int) v_str))))))
      (vs_one (v_ifS (vt_not (vt_tru (K := K) (v_callB (call_isiK2 (K := K) rfl) (fun _ e => e ▸ s_isi) boot_isinstance g.b_isinstance (vhs_cons (v_call d_m_work hr (vhs_cons (v_var 2) (vhs_cons (v_ix (K := K) (v_ix (K := K) (v_var 0) (v_sub (v_var 1) v_int)) v_int) (vhs_cons (v_ix (K := K) (v_ix (K := K) (v_var 0) (v_sub (v_var 1) v_int)) v_int) vhs_nil)))) (vhs_cons (v_ty g.b_str PyProof.Rows.boot_str) vhs_nil)))))
      (vs_one (v_ret v_bl))
      vs_nil))
      vs_nil)))))
    (vs_one (v_ret v_bl))))), m, F'.kp, F'.binds (ps := ["words"]) fun _ _ _ _ _ _ us hl => match us, hl with | [_], _ => rfl⟩
/-! ### _law_tree_fold -/
abbrev tx_tree_fold : Stmt := top 23
theorem sc_tree_fold : FnScope ["tree", "marks", "place", "sides", "op", "worth", "found", "side"] ["tree", "marks"] (defScope tx_tree_fold) := ⟨rfl, rfl, rfl, by decide +kernel, rfl, by decide +kernel, by decide +kernel⟩
def f_tree_fold (F_tree_fold : FF) : SF :=
    (sSeq (sIf (bVal (vBin oInQ (vBin oIx (vVar 0) (vC (.int 0))) (vLst (vConsD (vTake (vC (.str "number"))) (vConsD (vTake (vC (.str "name"))) vNilD)))))
      (sSeq (sSet 2 (vMt 1 "list" mPop0 (vConsD (vTake (vC (.int 0))) vNilD)))
    (sRet (vLst (vConsD (vTake (vTup (vConsD (vTake (vIf (bVal (vBin oEq (vBin oIx (vVar 0) (vC (.int 0))) (vC (.str "number")))) (vC (.str "push")) (vC (.str "get")))) (vConsD (vTake (vBin oIx (vVar 0) (vC (.int 1)))) (vConsD (vTake (vBin oIx (vVar 2) (vC (.int 0)))) (vConsD (vTake (vBin oIx (vVar 2) (vC (.int 1)))) vNilD)))))) vNilD))))
      sNil)
    (sSeq (sSet 3 (vBin oAdd (vLst (vConsD (vTake (vCall F_tree_fold (vConsH (vBin oIx (vVar 0) (vC (.int 1))) (vConsH (vVar 1) vNilH)))) vNilD)) (vIf (bVal (vBin oNe (vBin oIx (vVar 0) (vC (.int 0))) (vC (.str "minus")))) (vLst (vConsD (vTake (vCall F_tree_fold (vConsH (vBin oIx (vVar 0) (vC (.int 2))) (vConsH (vVar 1) vNilH)))) vNilD)) (vLst vNilD))))
    (sSeq (sSet 2 (vMt 1 "list" mPop0 (vConsD (vTake (vC (.int 0))) vNilD)))
    (sSeq (sSet 4 (vIf (bVal (vBin oEq (vBin oIx (vVar 0) (vC (.int 0))) (vC (.str "minus")))) (vC (.str "neg")) (vBin oIx (vLst (vConsD (vTake (vC (.str "add"))) (vConsD (vTake (vC (.str "sub"))) (vConsD (vTake (vC (.str "mul"))) (vConsD (vTake (vC (.str "div"))) (vConsD (vTake (vC (.str "less"))) (vConsD (vTake (vC (.str "same"))) (vConsD (vTake (vC (.str "more"))) vNilD)))))))) (vSidx (vC (.str "+-*/<=>")) (vBin oIx (vVar 0) (vC (.int 0)))))))
    (sSeq (sSet 5 (vC (.str "none")))
    (sSeq (sIf (bTru (vCallB oAll (vConsH (vLc (iSeq (vVar 3)) (gN 7) bYes (vTake (vB (bAnd (bVal (vBin oEq (vCallB oLen (vConsH (vVar 7) vNilH)) (vC (.int 1)))) (bVal (vBin oEq (vBin oIx (vBin oIx (vVar 7) (vC (.int 0))) (vC (.int 0))) (vC (.str "push"))))))) [7]) vNilH)))
      (sSet 5 (vIf (bVal (vBin oEq (vVar 4) (vC (.str "neg")))) (vBin oSub (vC (.int 0)) (vBin oIx (vBin oIx (vBin oIx (vVar 3) (vC (.int 0))) (vC (.int 0))) (vC (.int 1)))) (vCall F_m_work (vConsH (vVar 4) (vConsH (vBin oIx (vBin oIx (vBin oIx (vVar 3) (vC (.int 0))) (vC (.int 0))) (vC (.int 1))) (vConsH (vBin oIx (vBin oIx (vBin oIx (vVar 3) (vC (.int 1))) (vC (.int 0))) (vC (.int 1))) vNilH))))))
      sNil)
    (sSeq (sIf (bNot (bTru (vCallB oIsi (vConsH (vVar 5) (vConsH (vC (.opq (.ty "str"))) vNilH)))))
      (sRet (vLst (vConsD (vTake (vTup (vConsD (vTake (vC (.str "push"))) (vConsD (vTake (vVar 5)) (vConsD (vTake (vBin oIx (vVar 2) (vC (.int 0)))) (vConsD (vTake (vBin oIx (vVar 2) (vC (.int 1)))) vNilD)))))) vNilD)))
      sNil)
    (sSeq (sSet 6 (vLst vNilD))
    (sSeq (sFor (iSeq (vVar 3)) (gN 7)
      (sSet 6 (vBin oAdd (vVar 6) (vVar 7))))
    (sRet (vBin oAdd (vVar 6) (vLst (vConsD (vTake (vTup (vConsD (vTake (vVar 4)) (vConsD (vTake (vC .non)) (vConsD (vTake (vBin oIx (vVar 2) (vC (.int 0)))) (vConsD (vTake (vBin oIx (vVar 2) (vC (.int 1)))) vNilD)))))) vNilD)))))))))))))
def F_tree_fold : Nat → FF
  | 0 => fun _ => none
  | k + 1 => defF 8 2 (f_tree_fold (F_tree_fold k))
theorem st_tree_fold (g : Gb mg K w) (F' : Fun K "_law_tree_fold" "_law_tree_fold" tx_tree_fold f fd) (m : mg "_law_tree_fold" = some (.ref f)) {F : FF} {k : Nat} (hk : 1 ≤ k) (d_tree_fold : Df P w K mg base k "_law_tree_fold" ["tree", "marks"] F) (d_m_work : Df P w K mg base 1 "_law_m_work" ["op", "left", "right"] F_m_work) : Df P w K mg base (k + 1) "_law_tree_fold" ["tree", "marks"] (defF 8 2 (f_tree_fold F)) :=
  ⟨f, fd, fnV F' sc_tree_fold (fun cdv A outer s H E hr => VSs.ex (have hu := hr.units; have sc := sc_tree_fold;
    (vs_cons (v_ifS (vt_cmp (op_inK (K := K) rfl) (fun _ e => e ▸ s_inQ) (v_ix (K := K) (v_var 0) v_int) (v_lst (vds_cons v_str (vds_cons v_str vds_nil))))
      (vs_cons (v_set 2 sc.nd (v_pop0 1 (v_var 1) v_int))
    (vs_one (v_ret (v_lst (vds_cons (v_tup (vds_cons (v_if (vt_cmp (op_eqK (K := K) rfl hu) (fun _ e => e ▸ s_eq) (v_ix (K := K) (v_var 0) v_int) v_str) v_str v_str) (vds_cons (v_ix (K := K) (v_var 0) v_int) (vds_cons (v_ix (K := K) (v_var 2) v_int) (vds_cons (v_ix (K := K) (v_var 2) v_int) vds_nil))))) vds_nil)))))
      vs_nil)
    (vs_cons (v_set 3 sc.nd (v_add (K := K) (v_lst (vds_cons (v_call d_tree_fold hr (vhs_cons (v_ix (K := K) (v_var 0) v_int) (vhs_cons (v_var 1) vhs_nil))) vds_nil)) (v_if (vt_cmp (op_neK (K := K) rfl hu) (fun _ e => e ▸ s_ne) (v_ix (K := K) (v_var 0) v_int) v_str) (v_lst (vds_cons (v_call d_tree_fold hr (vhs_cons (v_ix (K := K) (v_var 0) v_int) (vhs_cons (v_var 1) vhs_nil))) vds_nil)) (v_lst vds_nil))))
    (vs_cons (v_set 2 sc.nd (v_pop0 1 (v_var 1) v_int))
    (vs_cons (v_set 4 sc.nd (v_if (vt_cmp (op_eqK (K := K) rfl hu) (fun _ e => e ▸ s_eq) (v_ix (K := K) (v_var 0) v_int) v_str) v_str (v_ix (K := K) (v_lst (vds_cons v_str (vds_cons v_str (vds_cons v_str (vds_cons v_str (vds_cons v_str (vds_cons v_str (vds_cons v_str vds_nil)))))))) (v_sidx v_str (v_ix (K := K) (v_var 0) v_int)))))
    (vs_cons (v_set 5 sc.nd v_str)
    (vs_cons (v_ifS (vt_tru (K := K) (v_callB (call_allK (K := K) rfl rfl) (fun _ e => e ▸ s_all) boot_all g.b_all (vhs_cons (v_lc [("side", 7)] sc.nd (vi_seq (K := K) (v_var 3)) (by kernel_rfl) (fun _ _ _ _ _ => (vg_name 7 sc.nd)) (fun _ _ _ _ _ => by exact vts_nil) (fun _ _ _ _ _ => by exact (v_and (v_b (v_cmp (op_eqK (K := K) rfl hu) (fun _ e => e ▸ s_eq) (v_callB (call_lenK2 (K := K) rfl) (fun _ e => e ▸ s_len) PySem.boot_len g.b_len (vhs_cons (v_var 7) vhs_nil)) v_int)) (v_one (v_b (v_cmp (op_eqK (K := K) rfl hu) (fun _ e => e ▸ s_eq) (v_ix (K := K) (v_ix (K := K) (v_var 7) v_int) v_int) v_str)))))) vhs_nil)))
      (vs_one (v_set 5 sc.nd (v_if (vt_cmp (op_eqK (K := K) rfl hu) (fun _ e => e ▸ s_eq) (v_var 4) v_str) (v_sub v_int (v_ix (K := K) (v_ix (K := K) (v_ix (K := K) (v_var 3) v_int) v_int) v_int)) (v_call d_m_work hr (vhs_cons (v_var 4) (vhs_cons (v_ix (K := K) (v_ix (K := K) (v_ix (K := K) (v_var 3) v_int) v_int) v_int) (vhs_cons (v_ix (K := K) (v_ix (K := K) (v_ix (K := K) (v_var 3) v_int) v_int) v_int) vhs_nil)))))))
      vs_nil)
    (vs_cons (v_ifS (vt_not (vt_tru (K := K) (v_callB (call_isiK2 (K := K) rfl) (fun _ e => e ▸ s_isi) boot_isinstance g.b_isinstance (vhs_cons (v_var 5) (vhs_cons (v_ty g.b_str PyProof.Rows.boot_str) vhs_nil)))))
      (vs_one (v_ret (v_lst (vds_cons (v_tup (vds_cons v_str (vds_cons (v_var 5) (vds_cons (v_ix (K := K) (v_var 2) v_int) (vds_cons (v_ix (K := K) (v_var 2) v_int) vds_nil))))) vds_nil))))
      vs_nil)
    (vs_cons (v_set 6 sc.nd (v_lst vds_nil))
    (vs_cons (v_for (vi_seq (K := K) (v_var 3)) (vg_name 7 sc.nd)
      (vs_one (v_set 6 sc.nd (v_add (K := K) (v_var 6) (v_var 7)))))
    (vs_one (v_ret (v_add (K := K) (v_var 6) (v_lst (vds_cons (v_tup (vds_cons (v_var 4) (vds_cons v_non (vds_cons (v_ix (K := K) (v_var 2) v_int) (vds_cons (v_ix (K := K) (v_var 2) v_int) vds_nil))))) vds_nil)))))))))))))))), m, F'.kp, F'.binds (ps := ["tree", "marks"]) fun _ _ _ _ _ _ us hl => match us, hl with | [_, _], _ => rfl⟩
theorem df_tree_fold (g : Gb mg K w) (F' : Fun K "_law_tree_fold" "_law_tree_fold" tx_tree_fold f fd) (m : mg "_law_tree_fold" = some (.ref f)) (d_m_work : Df P w K mg base 1 "_law_m_work" ["op", "left", "right"] F_m_work) : ∀ k, Df P w K mg base (1 + k) "_law_tree_fold" ["tree", "marks"] (F_tree_fold k)
  | 0 => ⟨f, fd, fn_none (fun _ => rfl), m, F'.kp, F'.binds (ps := ["tree", "marks"]) fun _ _ _ _ _ _ us hl => match us, hl with | [_, _], _ => rfl⟩
  | k + 1 => st_tree_fold (k := 1 + k) g F' m (by omega) (df_tree_fold g F' m d_m_work k) d_m_work
/-! ### _law_line_right -/
abbrev tx_line_right : Stmt := top 24
theorem sc_line_right : FnScope ["source", "form", "names", "parts", "tree", "places", "words", "marks", "due", "part", "given", "told", "turn"] ["source", "form", "names"] (defScope tx_line_right) := ⟨rfl, rfl, rfl, by decide +kernel, rfl, by decide +kernel, by decide +kernel⟩
def f_line_right : SF :=
    (sSeq (sSet 3 (vLc (iR1 (vConsH (vIf (bVal (vBin oLt (vVar 1) (vC (.int 3)))) (vC (.int 1)) (vBin oAdd (vC (.int 2)) (vCall F_pick (vConsH (vVar 0) (vConsH (vC (.int 3)) vNilH))))) vNilH)) (gN 12) bYes (vTake (vCall (F_rich 6) (vConsH (vVar 0) (vConsH (vBin oAdd (vC (.int 1)) (vCall F_pick (vConsH (vVar 0) (vConsH (vC (.int 3)) vNilH)))) vNilH)))) [12]))
    (sSeq (sSet 4 (vBin oIx (vLst (vConsD (vTake (vTup (vConsD (vTake (vC (.str "tell"))) (vConsD (vTake (vBin oIx (vVar 3) (vC (.int 0)))) vNilD)))) (vConsD (vTake (vTup (vConsD (vTake (vC (.str "set"))) (vConsD (vTake (vC (.str "x"))) (vConsD (vTake (vBin oIx (vVar 3) (vC (.int 0)))) vNilD))))) (vConsD (vTake (vTup (vConsD (vTake (vC (.str "go"))) (vConsD (vTake (vC (.int 10))) (vConsD (vTake (vBin oIx (vVar 3) (vC (.int 0)))) vNilD))))) (vConsD (vTake (vTup (vConsD (vTake (vC (.str "call"))) (vConsD (vTake (vC (.str "p/q"))) (vConsD (vTake (vVar 3)) (vConsD (vTake (vC (.str "y"))) vNilD)))))) vNilD))))) (vVar 1)))
    (sSeq (sSet 5 (vBin oIx (vCall F_spread (vConsH (vVar 0) (vConsH (vVar 4) vNilH))) (vC (.int 1))))
    (sSeq (sSet 6 (vCall F_m_words (vConsH (vVar 4) (vConsH (vVar 5) vNilH))))
    (sSeq (sSet 7 (vCallB oList (vConsH (vVar 5) vNilH)))
    (sSeq (sSet 8 (vLst vNilD))
    (sSeq (sFor (iSeq (vVar 3)) (gN 9)
      (sSet 8 (vBin oAdd (vVar 8) (vCall (F_tree_fold 6) (vConsH (vVar 9) (vConsH (vVar 7) vNilH))))))
    (sSeq (sDrop (vMt 8 "list" mAppend (vConsD (vTake (vBin oIx (vVar 6) (vUn oNeg (vC (.int 1))))) vNilD)))
    (sSeq (sSet 10 (vCallB oList (vConsH (vVar 6) vNilH)))
    (sSeq (sSet 11 (vCall F_fold_words (vConsH (vVar 10) vNilH)))
    (sSeq (sIf (bOr (bNot (bTru (vCall (F_same 6) (vConsH (vVar 11) (vConsH (vVar 8) vNilH))))) (bNot (bTru (vCall (F_same 6) (vConsH (vVar 10) (vConsH (vVar 6) vNilH))))))
      (sRet (vC (.bl false)))
      sNil)
    (sSeq (sIf (bOr (bNot (bTru (vCall (F_same 6) (vConsH (vCall F_fold_words (vConsH (vVar 11) vNilH)) (vConsH (vVar 8) vNilH))))) (bTru (vCall F_left (vConsH (vVar 11) vNilH))))
      (sRet (vC (.bl false)))
      sNil)
    (sRet (vBin oEq (vCall F_worths (vConsH (vSl (vVar 6) vNoP (vP (vUn oNeg (vC (.int 1))))) (vConsH (vVar 2) vNilH))) (vCall F_worths (vConsH (vSl (vVar 11) vNoP (vP (vUn oNeg (vC (.int 1))))) (vConsH (vVar 2) vNilH)))))))))))))))))
def F_line_right : FF := defF 13 3 f_line_right
theorem df_line_right (g : Gb mg K w) (F' : Fun K "_law_line_right" "_law_line_right" tx_line_right f fd) (m : mg "_law_line_right" = some (.ref f)) (d_pick : Df P w K mg base 1 "_law_pick" ["source", "many"] F_pick) (d_rich : Df P w K mg base 8 "_law_rich" ["source", "depth"] (F_rich 6)) (d_spread : Df P w K mg base 9 "_law_spread" ["source", "tree"] F_spread) (d_m_words : Df P w K mg base 7 "_law_m_words" ["tree", "places"] F_m_words) (d_tree_fold : Df P w K mg base 7 "_law_tree_fold" ["tree", "marks"] (F_tree_fold 6)) (d_fold_words : Df P w K mg base 3 "fold_words" ["words"] F_fold_words) (d_same : Df P w K mg base 6 "_law_same" ["answer", "due"] (F_same 6)) (d_left : Df P w K mg base 2 "_law_left" ["words"] F_left) (d_worths : Df P w K mg base 2 "_law_worths" ["words", "names"] F_worths) : Df P w K mg base 10 "_law_line_right" ["source", "form", "names"] F_line_right :=
  ⟨f, fd, fnV F' sc_line_right (fun cdv A outer s H E hr => VSs.ex (have hu := hr.units; have sc := sc_line_right;
    (vs_cons (v_setLc 3 [("turn", 12)] sc.nd (sw_true rfl rfl rfl (by decide +kernel)) (vi_r1 g.b_range (vhs_cons (v_if (vt_cmp op_lt (fun _ _ => s_lt) (v_var 1) v_int) v_int (v_add (K := K) v_int (v_call d_pick hr (vhs_cons (v_var 0) (vhs_cons v_int vhs_nil))))) vhs_nil)) (by kernel_rfl) (fun _ _ _ _ _ => (vg_name 12 sc.nd)) (fun _ _ _ _ _ => by exact vts_nil) (fun _ _ _ _ _ => by exact (v_call d_rich hr (vhs_cons (v_var 0) (vhs_cons (v_add (K := K) v_int (v_call d_pick hr (vhs_cons (v_var 0) (vhs_cons v_int vhs_nil)))) vhs_nil)))))
    (vs_cons (v_set 4 sc.nd (v_ix (K := K) (v_lst (vds_cons (v_tup (vds_cons v_str (vds_cons (v_ix (K := K) (v_var 3) v_int) vds_nil))) (vds_cons (v_tup (vds_cons v_str (vds_cons v_str (vds_cons (v_ix (K := K) (v_var 3) v_int) vds_nil)))) (vds_cons (v_tup (vds_cons v_str (vds_cons v_int (vds_cons (v_ix (K := K) (v_var 3) v_int) vds_nil)))) (vds_cons (v_tup (vds_cons v_str (vds_cons v_str (vds_cons (v_var 3) (vds_cons v_str vds_nil))))) vds_nil))))) (v_var 1)))
    (vs_cons (v_set 5 sc.nd (v_ix (K := K) (v_call d_spread hr (vhs_cons (v_var 0) (vhs_cons (v_var 4) vhs_nil))) v_int))
    (vs_cons (v_set 6 sc.nd (v_call d_m_words hr (vhs_cons (v_var 4) (vhs_cons (v_var 5) vhs_nil))))
    (vs_cons (v_set 7 sc.nd (v_callTy (call_listK (K := K) rfl) (fun _ e => e ▸ s_list) PyProof.Rows.boot_list g.b_list (vhs_cons (v_var 5) vhs_nil)))
    (vs_cons (v_set 8 sc.nd (v_lst vds_nil))
    (vs_cons (v_for (vi_seq (K := K) (v_var 3)) (vg_name 9 sc.nd)
      (vs_one (v_set 8 sc.nd (v_add (K := K) (v_var 8) (v_call d_tree_fold hr (vhs_cons (v_var 9) (vhs_cons (v_var 7) vhs_nil)))))))
    (vs_cons (v_expr (v_append 8 (v_var 8) (v_ix (K := K) (v_var 6) (v_neg v_int))))
    (vs_cons (v_set 10 sc.nd (v_callTy (call_listK (K := K) rfl) (fun _ e => e ▸ s_list) PyProof.Rows.boot_list g.b_list (vhs_cons (v_var 6) vhs_nil)))
    (vs_cons (v_set 11 sc.nd (v_call d_fold_words hr (vhs_cons (v_var 10) vhs_nil)))
    (vs_cons (v_ifS (vw_t (vw_or (vt_not (vt_tru (K := K) (v_call d_same hr (vhs_cons (v_var 11) (vhs_cons (v_var 8) vhs_nil))))) (vw_or1 (vt_not (vt_tru (K := K) (v_call d_same hr (vhs_cons (v_var 10) (vhs_cons (v_var 6) vhs_nil))))))))
      (vs_one (v_ret v_bl))
      vs_nil)
    (vs_cons (v_ifS (vw_t (vw_or (vt_not (vt_tru (K := K) (v_call d_same hr (vhs_cons (v_call d_fold_words hr (vhs_cons (v_var 11) vhs_nil)) (vhs_cons (v_var 8) vhs_nil))))) (vw_or1 (vt_tru (K := K) (v_call d_left hr (vhs_cons (v_var 11) vhs_nil))))))
      (vs_one (v_ret v_bl))
      vs_nil)
    (vs_one (v_ret (v_cmp (op_eqK (K := K) rfl hu) (fun _ e => e ▸ s_eq) (v_call d_worths hr (vhs_cons (v_sl (K := K) (v_var 6) vo_none (vo_some (v_neg v_int))) (vhs_cons (v_var 2) vhs_nil))) (v_call d_worths hr (vhs_cons (v_sl (K := K) (v_var 11) vo_none (vo_some (v_neg v_int))) (vhs_cons (v_var 2) vhs_nil)))))))))))))))))))), m, F'.kp, F'.binds (ps := ["source", "form", "names"]) fun _ _ _ _ _ _ us hl => match us, hl with | [_, _, _], _ => rfl⟩
/-! ### law -/
abbrev tx_law : Stmt := top 25
theorem sc_law : FnScope ["script", "source", "names", "turn", "drawn", "words", "op", "worth", "told", "kept", "again"] ["script"] (defScope tx_law) := ⟨rfl, rfl, rfl, by decide +kernel, rfl, by decide +kernel, by decide +kernel⟩
def f_law : SF :=
    (sSeq (sSet 1 (vCall F_source (vConsH (vVar 0) (vConsH (vC (.int 0)) vNilH))))
    (sSeq (sSet 2 (vDisp (pCons (vC (.str "x")) (vTake (vBin oSub (vCall F_pick (vConsH (vVar 1) (vConsH (vC (.int 9)) vNilH))) (vC (.int 4)))) (pCons (vC (.str "y")) (vTake (vBin oAdd (vBin oPow (vC (.int 10)) (vC (.int 39))) (vCall F_pick (vConsH (vVar 1) (vConsH (vC (.int 99)) vNilH))))) (pCons (vC (.str "@g")) (vTake (vCall F_pick (vConsH (vVar 1) (vConsH (vC (.int 1000)) vNilH)))) pNil)))))
    (sSeq (sFor (iR1 (vConsH (vC (.int 3)) vNilH)) (gN 3)
      (sIf (bNot (bTru (vCall F_line_right (vConsH (vVar 1) (vConsH (vCall F_pick (vConsH (vVar 1) (vConsH (vC (.int 4)) vNilH))) (vConsH (vVar 2) vNilH))))))
      (sRet (vC (.bl false)))
      sNil))
    (sSeq (sSet 4 (vCall F_source (vConsH (vVar 0) (vConsH (vC (.int 1)) vNilH))))
    (sSeq (sSet 5 (vLst vNilD))
    (sSeq (sFor (iR1 (vConsH (vBin oAdd (vC (.int 4)) (vCall F_pick (vConsH (vVar 4) (vConsH (vC (.int 20)) vNilH)))) vNilH)) (gN 3)
      (sSeq (sSet 6 (vBin oIx (vLst (vConsD (vTake (vC (.str "push"))) (vConsD (vTake (vC (.str "push"))) (vConsD (vTake (vC (.str "push"))) (vConsD (vTake (vC (.str "push"))) (vConsD (vTake (vC (.str "get"))) (vConsD (vTake (vC (.str "neg"))) (vConsD (vTake (vC (.str "add"))) (vConsD (vTake (vC (.str "sub"))) (vConsD (vTake (vC (.str "mul"))) (vConsD (vTake (vC (.str "div"))) (vConsD (vTake (vC (.str "less"))) (vConsD (vTake (vC (.str "same"))) (vConsD (vTake (vC (.str "more"))) (vConsD (vTake (vC (.str "tell"))) (vConsD (vTake (vC (.str "rem"))) vNilD)))))))))))))))) (vCall F_pick (vConsH (vVar 4) (vConsH (vC (.int 15)) vNilH)))))
    (sSeq (sSet 7 (vBin oMul (vBin oIx (vLst (vConsD (vTake (vCall F_pick (vConsH (vVar 4) (vConsH (vC (.int 5)) vNilH)))) (vConsD (vTake (vBin oSub (vBin oSub (vBin oPow (vC (.int 10)) (vC (.int 40))) (vC (.int 1))) (vCall F_pick (vConsH (vVar 4) (vConsH (vC (.int 3)) vNilH))))) (vConsD (vTake (vBin oPow (vC (.int 10)) (vC (.int 20)))) (vConsD (vTake (vCall F_big (vConsH (vVar 4) vNilH))) vNilD))))) (vCall F_pick (vConsH (vVar 4) (vConsH (vC (.int 4)) vNilH)))) (vBin oSub (vC (.int 1)) (vBin oMul (vC (.int 2)) (vCall F_pick (vConsH (vVar 4) (vConsH (vC (.int 2)) vNilH)))))))
    (sDrop (vMt 5 "list" mAppend (vConsD (vTake (vTup (vConsD (vTake (vVar 6)) (vConsD (vTake (vIf (bVal (vBin oEq (vVar 6) (vC (.str "push")))) (vVar 7) (vIf (bVal (vBin oEq (vVar 6) (vC (.str "get")))) (vC (.str "x")) (vC .non)))) (vConsD (vTake (vBin oAdd (vVar 3) (vC (.int 1)))) (vConsD (vTake (vBin oAdd (vBin oAdd (vVar 3) (vC (.int 1))) (vCall F_pick (vConsH (vVar 4) (vConsH (vC (.int 3)) vNilH))))) vNilD)))))) vNilD))))))
    (sSeq (sSet 8 (vCall F_fold_words (vConsH (vVar 5) vNilH)))
    (sSeq (sIf (bOr (bNot (bTru (vCall (F_same 6) (vConsH (vVar 8) (vConsH (vCall F_m_fold (vConsH (vVar 5) vNilH)) vNilH))))) (bTru (vCall F_left (vConsH (vVar 8) vNilH))))
      (sRet (vC (.bl false)))
      sNil)
    (sSeq (sSet 9 (vCallB oList (vConsH (vVar 8) vNilH)))
    (sSeq (sDrop (vMt 8 "list" mAppend (vConsD (vTake (vBin oIx (vVar 5) (vC (.int 0)))) vNilD)))
    (sSeq (sSet 10 (vCall F_fold_words (vConsH (vVar 5) vNilH)))
    (sSeq (sIf (bOr (bNot (bTru (vCall (F_same 6) (vConsH (vVar 10) (vConsH (vVar 9) vNilH))))) (bNot (bTru (vCall (F_same 6) (vConsH (vCall F_fold_words (vConsH (vVar 10) vNilH)) (vConsH (vVar 9) vNilH))))))
      (sRet (vC (.bl false)))
      sNil)
    (sRet (vCall (F_same 6) (vConsH (vCall F_fold_words (vConsH (vLst vNilD) vNilH)) (vConsH (vLst vNilD) vNilH))))))))))))))))
def F_law : FF := defF 11 1 f_law
theorem ok_law (g : Gb mg K w) (F' : Fun K "law" "law" tx_law f fd) (d_source : Df P w K mg base 1 "_law_source" ["script", "at"] F_source) (d_pick : Df P w K mg base 1 "_law_pick" ["source", "many"] F_pick) (d_line_right : Df P w K mg base 10 "_law_line_right" ["source", "form", "names"] F_line_right) (d_big : Df P w K mg base 2 "_law_big" ["source"] F_big) (d_fold_words : Df P w K mg base 3 "fold_words" ["words"] F_fold_words) (d_m_fold : Df P w K mg base 2 "_law_m_fold" ["words"] F_m_fold) (d_same : Df P w K mg base 6 "_law_same" ["answer", "due"] (F_same 6)) (d_left : Df P w K mg base 2 "_law_left" ["words"] F_left) : FnOk P w K mg base CX0 11 f fd ["script"] (spV K F_law) :=
  fnV F' sc_law (fun cdv A outer s H E hr => VSs.ex (have hu := hr.units; have sc := sc_law;
    (vs_cons (v_set 1 sc.nd (v_call d_source hr (vhs_cons (v_var 0) (vhs_cons v_int vhs_nil))))
    (vs_cons (v_set 2 sc.nd (v_disp (vps_cons v_str (v_sub (v_call d_pick hr (vhs_cons (v_var 1) (vhs_cons v_int vhs_nil))) v_int) (vps_cons v_str (v_add (K := K) (v_pow v_int v_int) (v_call d_pick hr (vhs_cons (v_var 1) (vhs_cons v_int vhs_nil)))) (vps_cons v_str (v_call d_pick hr (vhs_cons (v_var 1) (vhs_cons v_int vhs_nil))) vps_nil)))))
    (vs_cons (v_for (vi_r1 g.b_range (vhs_cons v_int vhs_nil)) (vg_name 3 sc.nd)
      (vs_one (v_ifS (vt_not (vt_tru (K := K) (v_call d_line_right hr (vhs_cons (v_var 1) (vhs_cons (v_call d_pick hr (vhs_cons (v_var 1) (vhs_cons v_int vhs_nil))) (vhs_cons (v_var 2) vhs_nil))))))
      (vs_one (v_ret v_bl))
      vs_nil)))
    (vs_cons (v_set 4 sc.nd (v_call d_source hr (vhs_cons (v_var 0) (vhs_cons v_int vhs_nil))))
    (vs_cons (v_set 5 sc.nd (v_lst vds_nil))
    (vs_cons (v_for (vi_r1 g.b_range (vhs_cons (v_add (K := K) v_int (v_call d_pick hr (vhs_cons (v_var 4) (vhs_cons v_int vhs_nil)))) vhs_nil)) (vg_name 3 sc.nd)
      (vs_cons (v_set 6 sc.nd (v_ix (K := K) (v_lst (vds_cons v_str (vds_cons v_str (vds_cons v_str (vds_cons v_str (vds_cons v_str (vds_cons v_str (vds_cons v_str (vds_cons v_str (vds_cons v_str (vds_cons v_str (vds_cons v_str (vds_cons v_str (vds_cons v_str (vds_cons v_str (vds_cons v_str vds_nil)))))))))))))))) (v_call d_pick hr (vhs_cons (v_var 4) (vhs_cons v_int vhs_nil)))))
    (vs_cons (v_set 7 sc.nd (v_mul (v_ix (K := K) (v_lst (vds_cons (v_call d_pick hr (vhs_cons (v_var 4) (vhs_cons v_int vhs_nil))) (vds_cons (v_sub (v_sub (v_pow v_int v_int) v_int) (v_call d_pick hr (vhs_cons (v_var 4) (vhs_cons v_int vhs_nil)))) (vds_cons (v_pow v_int v_int) (vds_cons (v_call d_big hr (vhs_cons (v_var 4) vhs_nil)) vds_nil))))) (v_call d_pick hr (vhs_cons (v_var 4) (vhs_cons v_int vhs_nil)))) (v_sub v_int (v_mul v_int (v_call d_pick hr (vhs_cons (v_var 4) (vhs_cons v_int vhs_nil)))))))
    (vs_one (v_expr (v_append 5 (v_var 5) (v_tup (vds_cons (v_var 6) (vds_cons (v_if (vt_cmp (op_eqK (K := K) rfl hu) (fun _ e => e ▸ s_eq) (v_var 6) v_str) (v_var 7) (v_if (vt_cmp (op_eqK (K := K) rfl hu) (fun _ e => e ▸ s_eq) (v_var 6) v_str) v_str v_non)) (vds_cons (v_add (K := K) (v_var 3) v_int) (vds_cons (v_add (K := K) (v_add (K := K) (v_var 3) v_int) (v_call d_pick hr (vhs_cons (v_var 4) (vhs_cons v_int vhs_nil)))) vds_nil)))))))))))
    (vs_cons (v_set 8 sc.nd (v_call d_fold_words hr (vhs_cons (v_var 5) vhs_nil)))
    (vs_cons (v_ifS (vw_t (vw_or (vt_not (vt_tru (K := K) (v_call d_same hr (vhs_cons (v_var 8) (vhs_cons (v_call d_m_fold hr (vhs_cons (v_var 5) vhs_nil)) vhs_nil))))) (vw_or1 (vt_tru (K := K) (v_call d_left hr (vhs_cons (v_var 8) vhs_nil))))))
      (vs_one (v_ret v_bl))
      vs_nil)
    (vs_cons (v_set 9 sc.nd (v_callTy (call_listK (K := K) rfl) (fun _ e => e ▸ s_list) PyProof.Rows.boot_list g.b_list (vhs_cons (v_var 8) vhs_nil)))
    (vs_cons (v_expr (v_append 8 (v_var 8) (v_ix (K := K) (v_var 5) v_int)))
    (vs_cons (v_set 10 sc.nd (v_call d_fold_words hr (vhs_cons (v_var 5) vhs_nil)))
    (vs_cons (v_ifS (vw_t (vw_or (vt_not (vt_tru (K := K) (v_call d_same hr (vhs_cons (v_var 10) (vhs_cons (v_var 9) vhs_nil))))) (vw_or1 (vt_not (vt_tru (K := K) (v_call d_same hr (vhs_cons (v_call d_fold_words hr (vhs_cons (v_var 10) vhs_nil)) (vhs_cons (v_var 9) vhs_nil))))))))
      (vs_one (v_ret v_bl))
      vs_nil)
    (vs_one (v_ret (v_call d_same hr (vhs_cons (v_call d_fold_words hr (vhs_cons (v_lst vds_nil) vhs_nil)) (vhs_cons (v_lst vds_nil) vhs_nil)))))))))))))))))))
end
end K50

set_option maxRecDepth 100000
set_option maxHeartbeats 4000000
namespace K50
open PV PySem L2
local macro_rules | `(tactic| walk_at "all") => `(tactic| repeat' (first | walk_at "1" | ((with_reducible refine lend_ok ?_ ?_); (focus rfl)) | ((with_reducible apply wbx); (focus (walk_at "wb"; done)); (focus rfl)) | walk_at "tf" | walk_at "isi" | walk_at "both" | with_reducible refine ixL3 (by omega) (by omega) ?_ ?_ ?_))
local macro_rules | `(tactic| walk_at "run") => `(tactic| repeat (first | walk_at "1" | ((with_reducible refine lend_ok ?_ ?_); (focus rfl)) | ((with_reducible apply wbx); (focus (walk_at "wb"; done)); (focus rfl)) | walk_at "tf" | walk_at "isi"))
local macro_rules | `(tactic| walk_at "isi") => `(tactic| ((with_reducible show XO (oIsi _) _); first
  | refine isiT (c := .bool) rfl rfl rfl ?_ | refine isiF (c := .bool) rfl rfl rfl ?_ | refine isiT (c := .int) rfl rfl rfl ?_ | refine isiF (c := .int) rfl rfl rfl ?_ | refine isiT (c := .str) rfl rfl rfl ?_ | refine isiF (c := .str) rfl rfl rfl ?_
  | refine isiT (c := .dict) rfl rfl rfl ?_ | refine isiF (c := .dict) rfl rfl rfl ?_ | refine isiT (c := .tuple) rfl rfl rfl ?_ | refine isiF (c := .tuple) rfl rfl rfl ?_ | refine isiT (c := .list) rfl rfl rfl ?_ | refine isiF (c := .list) rfl rfl rfl ?_))
local macro_rules | `(tactic| walk_at "both") => `(tactic| with_reducible first | refine tf_d (fun _ => ?_) fun _ => ?_ | refine tf_nd (fun _ => ?_) fun _ => ?_ | refine tf_b (fun _ => ?_) fun _ => ?_)
local macro_rules | `(tactic| walk_at "tf") => `(tactic| with_reducible first | refine tf_T (by decide +kernel) ?_ | refine tf_F (by decide +kernel) ?_ | refine tf_T (decide_eq_true (by omega)) ?_ | refine tf_T (decide_eq_true (by simp only [List.length_cons]; omega)) ?_ | refine tf_F (decide_eq_false (by omega)) ?_ | refine tf_F (decide_eq_false (by assumption)) ?_ | refine tf_T (decide_eq_true (by assumption)) ?_ | refine tf_T (nd_T (by omega)) ?_ | refine tf_F (nd_F (by omega)) ?_ | refine tf_T (nd_T (by assumption)) ?_ | refine tf_F (nd_F (by assumption)) ?_)
local macro_rules | `(tactic| walk_at "wb") => `(tactic| (repeat (first | exact Wb.nil | apply Wb.tmp | apply Wb.shr | (apply Wb.ol'; (focus rfl)) | (apply Wb.od'; (focus rfl)) | (exact Chg.z) | apply Chg.s)))
local macro_rules | `(tactic| walk_at "op") => `(tactic| with_reducible first | refine xal ?_ | refine xals ?_ | (apply xat; (focus (first | exact at0 | exact at1 | exact at2 | assumption))) | refine trI ?_ | refine trB ?_ | refine trN ?_ | refine trL ?_ | refine trLs ?_)
local macro_rules | `(tactic| walk_at "op") => `(tactic| with_reducible first | refine xo_minN ?_ | refine xo_max ?_ | refine xo_min ?_ | (apply strI; (focus omega)) | (apply xo_addN; (focus decide +kernel); (focus omega)) | (apply xo_addS; (focus decide +kernel)) | (apply xo_addT; (focus (refine ⟨List.cons_ne_nil _ _, List.cons_ne_nil _ _, ?_⟩; simp only [List.length_cons, List.length_nil]; omega))) | refine xai ?_ | refine xab ?_)
local macro_rules | `(tactic| walk_at "op") => `(tactic| with_reducible first | refine lsL ?_ | refine lsLs ?_ | refine lsT ?_ | refine slL ?_ | refine slLs ?_ | refine xo_intI ?_ | refine xo_abs ?_ | refine xo_maxN ?_ | refine xo_max1 ?_)
local macro_rules | `(tactic| walk_at "op") => `(tactic| with_reducible first | (apply ixLs; (focus (first | exact at0 | exact at1 | exact at2 | assumption))) | (apply ixT; (focus (first | exact at0 | exact at1 | exact at2 | assumption))) | refine lnL ?_ | refine lnLs ?_ | refine lnT ?_ | refine lnSc ?_ | refine slSc ?_ | (apply ixSc; (focus (first | exact at0 | exact at1 | exact at2 | assumption))) | (apply xo_sumL rfl))
local macro_rules | `(tactic| walk_at "op") => `(tactic| with_reducible first | refine isN2 ?_ | refine isN3 ?_ | refine isN4 ?_ | refine isN5 ?_ | refine noN ?_ | refine noN0 ?_ | refine noN1 ?_ | refine noN2 ?_ | (apply ixL; (focus (first | exact at0 | exact at1 | exact at2 | assumption))))
local macro_rules | `(tactic| walk_at "op") => `(tactic| with_reducible first | refine xo_ge ?_ | refine xo_neg ?_ | refine eqI ?_ | refine neI ?_ | refine eqSt ?_ | refine neSt ?_ | refine isN ?_ | refine isN0 ?_ | refine isN1 ?_)
local macro_rules | `(tactic| walk_at "op") => `(tactic| with_reducible first | refine xo_sub ?_ | (apply xo_mul; (focus (first | exact mulR (by decide) | exact mulL (by decide) | exact mulR (by omega) | exact mulL (by omega) | exact mulW (by decide +kernel)))) | (apply xo_div; (focus (first | exact divK (by decide) | exact divK (by omega)))) | (apply xo_modP; (focus (first | decide | omega | decide +kernel)); intro _ _ _) | (apply xo_mod; (focus (first | decide | omega | decide +kernel))) | (apply xo_pow; focus exact powK (by decide)) | refine xo_lt ?_ | refine xo_le ?_ | refine xo_gt ?_)
local macro_rules | `(tactic| walk_at "op") => `(tactic| with_reducible first | refine xo_neD ?_ | refine xo_eqD ?_ | refine xas ?_ | refine xo_strAS ?_ | refine xo_inStr ?_ | refine xo_notInStr ?_ | refine xo_inG ?_ | refine xo_addI ?_ | refine xo_addI' ?_)
local macro_rules | `(tactic| walk_at "op") => `(tactic| with_reducible first | (apply xp_g; (focus (walk_at "at"; done))) | refine xr_o ?_ | refine ak_o ?_ | refine ak_s ?_ | refine ko_s ?_ | refine ko_i ?_ | refine xo_dget ?_ | refine xo_din ?_ | refine xo_dict ?_)
local macro_rules | `(tactic| walk_at "op") => `(tactic| with_reducible first | (apply xg_v; (focus (walk_at "at"; done))) | refine xg_t ?_ | refine xh_nil ?_ | (apply xh_v; (focus (walk_at "at"; done))) | refine xh_t ?_ | (refine xg_T rfl ?_) | refine xg_nil ?_ | refine xg_cons ?_ | (apply xw_s; (focus (walk_at "at"; done))))
local macro_rules | `(tactic| walk_at "1") => `(tactic| with_reducible first | refine par2 ?_ | refine lenAnd (by simp only [List.length_cons, List.length_nil]; omega) ?_ | (apply r1N; (focus omega)) | (apply r2S; (focus omega)) | (apply r1; (focus omega)) | (apply r2; (focus omega)) | refine xl_nil' ?_ | (apply def_rt; (focus (walk_at "at"; done))) | (apply def_nx; (focus (walk_at "at"; done))))
local macro_rules | `(tactic| walk_at "1") => `(tactic| with_reducible first | (apply xsi; (focus (walk_at "at"; done))) | refine ex_shr ?_ | refine len15 (by simp only [List.length_cons, List.length_nil]; omega) ?_ | (apply xsd; (focus (walk_at "at"; done))) | refine par3 ?_ | (apply acc2; (focus (first | omega | (simp only [List.length_cons, List.length_nil, List.length_append]; omega))); (focus (walk_at "at"; done)); (focus (walk_at "at"; done))))
local macro_rules | `(tactic| walk_at "1") => `(tactic| with_reducible ((show XPs _ _ _); (first | refine xps_nil ?_ | refine xps_cons ?_)))
local macro_rules | `(tactic| walk_at "1") => `(tactic| with_reducible ((show XLk _ _ _); (first | refine xlk_t ?_ | (apply xlk_s; (focus (walk_at "at"; done))) | (apply xlk_l; (focus (walk_at "at"; done))))))
local macro_rules | `(tactic| walk_at "1") => `(tactic| with_reducible ((show XJ _ _); (first | refine xj_l ?_ | refine xj_ls ?_ | refine xj_t ?_ | refine xj_s ?_)))
local macro_rules | `(tactic| walk_at "1") => `(tactic| with_reducible ((show lcQ2 _ _ _ _ _ _ _ _); (first | (apply lc2_n; (focus (walk_at "at"; done)); (focus (walk_at "at"; done)); (focus (walk_at "at"; done)); (focus (walk_at "at"; done))) | (apply lc2_l; (focus (walk_at "at"; done)); (focus (walk_at "at"; done)); (focus (walk_at "at"; done)); (focus (walk_at "at"; done)); (focus (walk_at "at"; done))))))
local macro_rules | `(tactic| walk_at "1") => `(tactic| with_reducible ((show lcQ _ _ _ _ _ _ _ _); (first | (apply lc_n; (focus (walk_at "at"; done)); (focus (walk_at "at"; done))) | (apply lc_l; (focus (walk_at "at"; done)); (focus (walk_at "at"; done)); (focus (walk_at "at"; done))))))
local macro_rules | `(tactic| walk_at "1") => `(tactic| with_reducible ((show forQ _ _ _ _ _ _); (first | refine for_n ?_ | (apply for_l; (focus (walk_at "at"; done))))))
local macro_rules | `(tactic| walk_at "1") => `(tactic| with_reducible ((show unlQ _ _ _); (first | refine unl_n ?_ | (apply unl_nx; (focus (walk_at "at"; done))) | refine unl_rt ?_)))
local macro_rules | `(tactic| walk_at "1") => `(tactic| with_reducible ((show turnQ _ _ _); (first | refine turn_nx ?_ | refine turn_ct ?_ | refine turn_bk ?_ | refine turn_rt ?_)))
local macro_rules | `(tactic| walk_at "1") => `(tactic| with_reducible ((show XC _ _ _ _ _ _ _ _); (first | refine xc_nil' ?_ | refine xc2_nil ?_ | refine xc2_cons ?_ | refine xc_yes1 ?_)))
local macro_rules | `(tactic| walk_at "1") => `(tactic| with_reducible ((show XM _ _ _ _); (first | (apply xm_set; (focus (walk_at "at"; done)); (focus (first | exact setL0 | exact setL1 | exact setL2 | assumption)); (focus (walk_at "at"; done))) | (apply xm_app; (focus (walk_at "at"; done)); (focus (first | assumption | omega | decide | (simp only [List.length_append, List.length_cons, List.length_nil]; omega))); (focus (walk_at "at"; done))) | (apply xm_put; (focus (walk_at "at"; done)); (focus omega); (focus (walk_at "at"; done))) | (apply xm_pop0; (focus (walk_at "at"; done)); (focus (walk_at "at"; done))) | (apply xm_pop; (focus (walk_at "at"; done)); (focus (walk_at "at"; done))))))
local macro_rules | `(tactic| walk_at "1") => `(tactic| with_reducible ((show XRt _ _ _); (first | refine xrt_t ?_ | (apply xrt_s; (focus (walk_at "at"; done))) | (apply xrt_pl; (focus (walk_at "at"; done))) | (apply xrt_l; (focus (walk_at "at"; done)); (focus (walk_at "at"; done))) | (apply xrt_k; (focus (walk_at "at"; done)); (focus (walk_at "at"; done))) | (apply xrt_pk; (focus (walk_at "at"; done))))))
local macro_rules | `(tactic| walk_at "1") => `(tactic| with_reducible ((show XI _ _ _); (first | refine xi_r1' ?_ | refine xi_r2' ?_ | refine xi_seq' ?_)))
local macro_rules | `(tactic| walk_at "1") => `(tactic| with_reducible ((show XP _ _ _); (first | refine xp_no ?_ | refine xp_some ?_)))
local macro_rules | `(tactic| walk_at "1") => `(tactic| with_reducible ((show seqQ _ _ _); (first | refine seq_nx ?_ | refine seq_rt ?_ | refine seq_bk ?_ | refine seq_ct ?_)))
local macro_rules | `(tactic| walk_at "1") => `(tactic| with_reducible ((show XW _ _ _ _); (first | (apply xw_t; (focus (walk_at "at"; done))) | refine xw_v ?_)))
local macro_rules | `(tactic| walk_at "1") => `(tactic| with_reducible ((show XT _ _ _); (first | refine xt_s ?_ | refine xt_l ?_ | refine xt_k ?_ | (apply xt_vs; (focus (walk_at "at"; done))) | (apply xt_vl; (focus (walk_at "at"; done))) | (apply xt_vk; (focus (walk_at "at"; done))))))
local macro_rules | `(tactic| walk_at "1") => `(tactic| with_reducible ((show XD _ _ _); (first | refine xd ?_)))
local macro_rules | `(tactic| walk_at "1") => `(tactic| with_reducible ((show TF _ _ _); (first | refine tf_t ?_ | refine tf_f ?_)))
local macro_rules | `(tactic| walk_at "1") => `(tactic| with_reducible ((show XHs _ _ _); (first | refine xhs_nil ?_ | refine xhs_cons ?_)))
local macro_rules | `(tactic| walk_at "1") => `(tactic| with_reducible ((show XDs _ _ _); (first | refine xds_nil ?_ | refine xds_cons ?_)))
local macro_rules | `(tactic| walk_at "1") => `(tactic| with_reducible ((show XB _ _ _); (first | refine xb_and' ?_ | refine xb_or' ?_ | refine xb_not ?_ | refine xb_val ?_ | refine xb_tru ?_ | refine xb_yes ?_)))
local macro_rules | `(tactic| walk_at "1") => `(tactic| with_reducible ((show XS _ _ _); (first | refine xs_seq' ?_ | refine xs_nil ?_ | refine xs_set' ?_ | refine xs_asg ?_ | refine xs_par2 ?_ | refine xs_drop ?_ | refine xs_ret' ?_ | refine xs_retN ?_ | refine xs_if' ?_ | refine xs_brk ?_ | refine xs_cont ?_ | refine xs_for' ?_ | (refine xs_setIx2 ?_) | (apply xs_augIx'L; (focus (walk_at "at"; done))) | (apply xs_aug'; (focus (walk_at "at"; done))) | refine xs_setDx ?_ | refine xs_par3 ?_)))
local macro_rules | `(tactic| walk_at "1") => `(tactic| with_reducible ((show XE _ _ _); (first | (apply xv; (focus (walk_at "at"; done))) | refine xe_c ?_ | refine xe_bin ?_ | refine xe_un ?_ | refine xe_if' ?_ | refine xe_B ?_ | refine xe_callB ?_ | refine xe_tup ?_ | refine xe_lst ?_ | refine xe_sl ?_ | (apply xe_mt'L; (focus (walk_at "at"; done))) | refine xe_lc' ?_ | (refine xe_call' ?_) | refine xe_o ?_ | refine xe_get2 ?_ | refine xe_get1 ?_ | refine xe_disp ?_ | refine xe_join ?_ | refine xe_lc2 ?_ | refine xe_sidx ?_)))
local macro_rules | `(tactic| walk_at "1") => `(tactic| with_reducible ((show XO _ _); (walk_at "op")))
local macro_rules | `(tactic| walk_at "at") => `(tactic| with_reducible first | ((repeat (apply At.s)); (exact At.z)) | ((repeat (apply Put.s)); (first | exact Put.n | exact Put.z | exact Put.f (by assumption))) | ((repeat (apply Chg.s)); (exact Chg.z)) | ((repeat (apply SetAt.s)); (exact SetAt.z)) | ((repeat (apply Slt.s)); (exact Slt.z)) | ((repeat (apply Fin'.s)); (exact Fin'.z)) | ((repeat (first | apply Ini.shr | apply Ini.n | apply Ini.ol | apply Ini.od)); (exact Ini.z)) | exact Wb.nil)
-- END MACRO
def Src3 (ds : List D) : Prop := ∃ a b c : Int, ds = [.int a, .int b, .int c]
theorem divOk {a m : Int} (h0 : 0 < m) (h1 : m < 2 ^ 60) : CDivG a m := ⟨by omega, by
  have : m.natAbs < 2 ^ 60 := by omega
  have h := (Nat.log2_lt (n := m.natAbs) (k := 60) (by omega)).mpr this
  omega⟩
theorem fmod_rng {a m : Int} (h0 : 0 < m) : 0 ≤ a.fmod m ∧ a.fmod m < m := ⟨Int.fmod_nonneg_of_pos a h0, Int.fmod_lt_of_pos a h0⟩
theorem x_pick {ds : List D} {m : Int} (hs : Src3 ds) (h0 : 0 < m) (h1 : m < 2 ^ 60) {Q : Rs → List O → Prop} (q : ∀ r ds', Src3 ds' → 0 ≤ r → r < m → Q (.o (.shr (.int r))) [.ol ds', .shr (.int m)]) : XF F_pick [.ol ds, .shr (.int m)] Q := by
  obtain ⟨a, b, c, rfl⟩ := hs
  refine xf' rfl (by walk_at "at") ?_
  unfold f_pick
  walk_at "run"
  refine tf_d (fun h => ?_) fun h => ?_
  · walk_at "run"
    exact q _ _ ⟨_, _, _, rfl⟩ (by assumption) (by assumption)
  · walk_at "run"
    exact q _ _ ⟨_, _, _, rfl⟩ (by assumption) (by assumption)

theorem asInts_app {ds : List D} {ns : List Int} {i : Int} (h : asInts ds = some ns) : asInts (ds ++ [.int i]) = some (ns ++ [i]) := by
  induction ds generalizing ns with
  | nil => cases h; rfl
  | cons d r ih =>
    cases d with
    | int j =>
      rw [asInts, Option.map_eq_some_iff] at h
      obtain ⟨ms, h1, rfl⟩ := h
      rw [List.cons_append, asInts, ih h1]; rfl
    | _ => simp [asInts] at h
def JSc (ns : List Int) (at' : Nat) (k : Nat) (acc : List D) (e : Sto) : Prop := (∃ ms, asInts acc = some ms) ∧ acc.length = k ∧ e = [some ⟨.shr (.scr ns), false, false⟩, some ⟨.shr (.int at'), false, false⟩, none, none, none, none]
theorem x_source (ns : List Int) (at' : Nat) (h63 : ns.length ≤ 63) (hat : at' ≤ 1000) {Q : Rs → List O → Prop} (q : ∀ ds', Src3 ds' → Q (.o (.ol ds')) [.shr (.scr ns), .shr (.int at')]) : XF F_source [.shr (.scr ns), .shr (.int at')] Q := by
  refine xf' rfl (by walk_at "at") ?_
  unfold f_source
  by_cases hl : at' < ns.length
  · have hx := at_nat hl
    walk_at "all" <;> exact q _ ⟨_, _, _, rfl⟩
  · walk_at "run"
    have hc : ∀ d ∈ cutD (ns.map D.int) none (some 6), ∃ i, d = .int i := fun d hd => by
      have := List.mem_of_mem_drop (List.mem_of_mem_take hd)
      obtain ⟨i, _, rfl⟩ := List.mem_map.mp this
      exact ⟨i, rfl⟩
    have hcl : (cutD (ns.map D.int) none (some 6)).length ≤ 63 := by
      unfold cutD
      rw [List.length_take, List.length_drop, List.length_map]; omega
    generalize cutD (ns.map D.int) none (some 6) = cs at hc hcl
    refine xc_ix (JSc ns at') ⟨⟨[], rfl⟩, rfl, rfl⟩ ?_ ?_
    · rintro acc e ⟨⟨ms, hm⟩, hk, rfl⟩
      refine ⟨_, by walk_at "at", ?_⟩
      walk_at "run"
      refine xo_sumL hm ?_
      walk_at "all" <;> exact q _ ⟨_, _, _, rfl⟩
    · rintro k acc e hk ⟨⟨ms, hm⟩, hk', rfl⟩
      obtain ⟨i, hi⟩ := hc _ (List.getElem_mem hk)
      rw [hi]
      walk_at "run"
      exact acc_q (by omega) (by walk_at "at") ⟨⟨_, asInts_app hm⟩, by simp [hk'], rfl⟩

end K50

set_option maxRecDepth 100000
set_option maxHeartbeats 4000000
namespace K50
open PV PySem L2
local macro_rules | `(tactic| walk_at "all") => `(tactic| repeat' (first | walk_at "1" | ((with_reducible refine lend_ok ?_ ?_); (focus rfl)) | ((with_reducible apply wbx); (focus (walk_at "wb"; done)); (focus rfl)) | walk_at "tf" | walk_at "isi" | walk_at "both" | with_reducible refine ixL3 (by omega) (by omega) ?_ ?_ ?_))
local macro_rules | `(tactic| walk_at "run") => `(tactic| repeat (first | walk_at "1" | ((with_reducible refine lend_ok ?_ ?_); (focus rfl)) | ((with_reducible apply wbx); (focus (walk_at "wb"; done)); (focus rfl)) | walk_at "tf" | walk_at "isi"))
local macro_rules | `(tactic| walk_at "isi") => `(tactic| ((with_reducible show XO (oIsi _) _); first
  | refine isiT (c := .bool) rfl rfl rfl ?_ | refine isiF (c := .bool) rfl rfl rfl ?_ | refine isiT (c := .int) rfl rfl rfl ?_ | refine isiF (c := .int) rfl rfl rfl ?_ | refine isiT (c := .str) rfl rfl rfl ?_ | refine isiF (c := .str) rfl rfl rfl ?_
  | refine isiT (c := .dict) rfl rfl rfl ?_ | refine isiF (c := .dict) rfl rfl rfl ?_ | refine isiT (c := .tuple) rfl rfl rfl ?_ | refine isiF (c := .tuple) rfl rfl rfl ?_ | refine isiT (c := .list) rfl rfl rfl ?_ | refine isiF (c := .list) rfl rfl rfl ?_))
local macro_rules | `(tactic| walk_at "both") => `(tactic| with_reducible first | refine tf_d (fun _ => ?_) fun _ => ?_ | refine tf_nd (fun _ => ?_) fun _ => ?_ | refine tf_b (fun _ => ?_) fun _ => ?_)
local macro_rules | `(tactic| walk_at "tf") => `(tactic| with_reducible first | refine tf_T (by decide +kernel) ?_ | refine tf_F (by decide +kernel) ?_ | refine tf_T (decide_eq_true (by omega)) ?_ | refine tf_T (decide_eq_true (by simp only [List.length_cons]; omega)) ?_ | refine tf_F (decide_eq_false (by omega)) ?_ | refine tf_F (decide_eq_false (by assumption)) ?_ | refine tf_T (decide_eq_true (by assumption)) ?_ | refine tf_T (nd_T (by omega)) ?_ | refine tf_F (nd_F (by omega)) ?_ | refine tf_T (nd_T (by assumption)) ?_ | refine tf_F (nd_F (by assumption)) ?_)
local macro_rules | `(tactic| walk_at "wb") => `(tactic| (repeat (first | exact Wb.nil | apply Wb.tmp | apply Wb.shr | (apply Wb.ol'; (focus rfl)) | (apply Wb.od'; (focus rfl)) | (exact Chg.z) | apply Chg.s)))
local macro_rules | `(tactic| walk_at "op") => `(tactic| with_reducible first | refine xal ?_ | refine xals ?_ | (apply xat; (focus (first | exact at0 | exact at1 | exact at2 | assumption))) | refine trI ?_ | refine trB ?_ | refine trN ?_ | refine trL ?_ | refine trLs ?_)
local macro_rules | `(tactic| walk_at "op") => `(tactic| with_reducible first | refine xo_minN ?_ | refine xo_max ?_ | refine xo_min ?_ | (apply strI; (focus omega)) | (apply xo_addN; (focus decide +kernel); (focus omega)) | (apply xo_addS; (focus decide +kernel)) | (apply xo_addT; (focus (refine ⟨List.cons_ne_nil _ _, List.cons_ne_nil _ _, ?_⟩; simp only [List.length_cons, List.length_nil]; omega))) | refine xai ?_ | refine xab ?_)
local macro_rules | `(tactic| walk_at "op") => `(tactic| with_reducible first | refine lsL ?_ | refine lsLs ?_ | refine lsT ?_ | refine slL ?_ | refine slLs ?_ | refine xo_intI ?_ | refine xo_abs ?_ | refine xo_maxN ?_ | refine xo_max1 ?_)
local macro_rules | `(tactic| walk_at "op") => `(tactic| with_reducible first | (apply ixLs; (focus (first | exact at0 | exact at1 | exact at2 | assumption))) | (apply ixT; (focus (first | exact at0 | exact at1 | exact at2 | assumption))) | refine lnL ?_ | refine lnLs ?_ | refine lnT ?_ | refine lnSc ?_ | refine slSc ?_ | (apply ixSc; (focus (first | exact at0 | exact at1 | exact at2 | assumption))) | (apply xo_sumL rfl))
local macro_rules | `(tactic| walk_at "op") => `(tactic| with_reducible first | refine isN2 ?_ | refine isN3 ?_ | refine isN4 ?_ | refine isN5 ?_ | refine noN ?_ | refine noN0 ?_ | refine noN1 ?_ | refine noN2 ?_ | (apply ixL; (focus (first | exact at0 | exact at1 | exact at2 | assumption))))
local macro_rules | `(tactic| walk_at "op") => `(tactic| with_reducible first | refine xo_ge ?_ | refine xo_neg ?_ | refine eqI ?_ | refine neI ?_ | refine eqSt ?_ | refine neSt ?_ | refine isN ?_ | refine isN0 ?_ | refine isN1 ?_)
local macro_rules | `(tactic| walk_at "op") => `(tactic| with_reducible first | refine xo_sub ?_ | (apply xo_mul; (focus (first | exact mulR (by decide) | exact mulL (by decide) | exact mulR (by omega) | exact mulL (by omega) | exact mulW (by decide +kernel)))) | (apply xo_div; (focus (first | exact divK (by decide) | exact divK (by omega)))) | (apply xo_modP; (focus (first | decide | omega | decide +kernel)); intro _ _ _) | (apply xo_mod; (focus (first | decide | omega | decide +kernel))) | (apply xo_pow; focus exact powK (by decide)) | refine xo_lt ?_ | refine xo_le ?_ | refine xo_gt ?_)
local macro_rules | `(tactic| walk_at "op") => `(tactic| with_reducible first | refine xo_neD ?_ | refine xo_eqD ?_ | refine xas ?_ | refine xo_strAS ?_ | refine xo_inStr ?_ | refine xo_notInStr ?_ | refine xo_inG ?_ | refine xo_addI ?_ | refine xo_addI' ?_)
local macro_rules | `(tactic| walk_at "op") => `(tactic| with_reducible first | (apply xp_g; (focus (walk_at "at"; done))) | refine xr_o ?_ | refine ak_o ?_ | refine ak_s ?_ | refine ko_s ?_ | refine ko_i ?_ | refine xo_dget ?_ | refine xo_din ?_ | refine xo_dict ?_)
local macro_rules | `(tactic| walk_at "op") => `(tactic| with_reducible first | (apply xg_v; (focus (walk_at "at"; done))) | refine xg_t ?_ | refine xh_nil ?_ | (apply xh_v; (focus (walk_at "at"; done))) | refine xh_t ?_ | (refine xg_T rfl ?_) | refine xg_nil ?_ | refine xg_cons ?_ | (apply xw_s; (focus (walk_at "at"; done))))
local macro_rules | `(tactic| walk_at "1") => `(tactic| with_reducible first | refine par2 ?_ | refine lenAnd (by simp only [List.length_cons, List.length_nil]; omega) ?_ | (apply r1N; (focus omega)) | (apply r2S; (focus omega)) | (apply r1; (focus omega)) | (apply r2; (focus omega)) | refine xl_nil' ?_ | (apply def_rt; (focus (walk_at "at"; done))) | (apply def_nx; (focus (walk_at "at"; done))))
local macro_rules | `(tactic| walk_at "1") => `(tactic| with_reducible first | (apply xsi; (focus (walk_at "at"; done))) | refine ex_shr ?_ | refine len15 (by simp only [List.length_cons, List.length_nil]; omega) ?_ | (apply xsd; (focus (walk_at "at"; done))) | refine par3 ?_ | (apply acc2; (focus (first | omega | (simp only [List.length_cons, List.length_nil, List.length_append]; omega))); (focus (walk_at "at"; done)); (focus (walk_at "at"; done))))
local macro_rules | `(tactic| walk_at "1") => `(tactic| with_reducible ((show XPs _ _ _); (first | refine xps_nil ?_ | refine xps_cons ?_)))
local macro_rules | `(tactic| walk_at "1") => `(tactic| with_reducible ((show XLk _ _ _); (first | refine xlk_t ?_ | (apply xlk_s; (focus (walk_at "at"; done))) | (apply xlk_l; (focus (walk_at "at"; done))))))
local macro_rules | `(tactic| walk_at "1") => `(tactic| with_reducible ((show XJ _ _); (first | refine xj_l ?_ | refine xj_ls ?_ | refine xj_t ?_ | refine xj_s ?_)))
local macro_rules | `(tactic| walk_at "1") => `(tactic| with_reducible ((show lcQ2 _ _ _ _ _ _ _ _); (first | (apply lc2_n; (focus (walk_at "at"; done)); (focus (walk_at "at"; done)); (focus (walk_at "at"; done)); (focus (walk_at "at"; done))) | (apply lc2_l; (focus (walk_at "at"; done)); (focus (walk_at "at"; done)); (focus (walk_at "at"; done)); (focus (walk_at "at"; done)); (focus (walk_at "at"; done))))))
local macro_rules | `(tactic| walk_at "1") => `(tactic| with_reducible ((show lcQ _ _ _ _ _ _ _ _); (first | (apply lc_n; (focus (walk_at "at"; done)); (focus (walk_at "at"; done))) | (apply lc_l; (focus (walk_at "at"; done)); (focus (walk_at "at"; done)); (focus (walk_at "at"; done))))))
local macro_rules | `(tactic| walk_at "1") => `(tactic| with_reducible ((show forQ _ _ _ _ _ _); (first | refine for_n ?_ | (apply for_l; (focus (walk_at "at"; done))))))
local macro_rules | `(tactic| walk_at "1") => `(tactic| with_reducible ((show unlQ _ _ _); (first | refine unl_n ?_ | (apply unl_nx; (focus (walk_at "at"; done))) | refine unl_rt ?_)))
local macro_rules | `(tactic| walk_at "1") => `(tactic| with_reducible ((show turnQ _ _ _); (first | refine turn_nx ?_ | refine turn_ct ?_ | refine turn_bk ?_ | refine turn_rt ?_)))
local macro_rules | `(tactic| walk_at "1") => `(tactic| with_reducible ((show XC _ _ _ _ _ _ _ _); (first | refine xc_nil' ?_ | refine xc2_nil ?_ | refine xc2_cons ?_ | refine xc_yes1 ?_)))
local macro_rules | `(tactic| walk_at "1") => `(tactic| with_reducible ((show XM _ _ _ _); (first | (apply xm_set; (focus (walk_at "at"; done)); (focus (first | exact setL0 | exact setL1 | exact setL2 | assumption)); (focus (walk_at "at"; done))) | (apply xm_app; (focus (walk_at "at"; done)); (focus (first | assumption | omega | decide | (simp only [List.length_append, List.length_cons, List.length_nil]; omega))); (focus (walk_at "at"; done))) | (apply xm_put; (focus (walk_at "at"; done)); (focus omega); (focus (walk_at "at"; done))) | (apply xm_pop0; (focus (walk_at "at"; done)); (focus (walk_at "at"; done))) | (apply xm_pop; (focus (walk_at "at"; done)); (focus (walk_at "at"; done))))))
local macro_rules | `(tactic| walk_at "1") => `(tactic| with_reducible ((show XRt _ _ _); (first | refine xrt_t ?_ | (apply xrt_s; (focus (walk_at "at"; done))) | (apply xrt_pl; (focus (walk_at "at"; done))) | (apply xrt_l; (focus (walk_at "at"; done)); (focus (walk_at "at"; done))) | (apply xrt_k; (focus (walk_at "at"; done)); (focus (walk_at "at"; done))) | (apply xrt_pk; (focus (walk_at "at"; done))))))
local macro_rules | `(tactic| walk_at "1") => `(tactic| with_reducible ((show XI _ _ _); (first | refine xi_r1' ?_ | refine xi_r2' ?_ | refine xi_seq' ?_)))
local macro_rules | `(tactic| walk_at "1") => `(tactic| with_reducible ((show XP _ _ _); (first | refine xp_no ?_ | refine xp_some ?_)))
local macro_rules | `(tactic| walk_at "1") => `(tactic| with_reducible ((show seqQ _ _ _); (first | refine seq_nx ?_ | refine seq_rt ?_ | refine seq_bk ?_ | refine seq_ct ?_)))
local macro_rules | `(tactic| walk_at "1") => `(tactic| with_reducible ((show XW _ _ _ _); (first | (apply xw_t; (focus (walk_at "at"; done))) | refine xw_v ?_)))
local macro_rules | `(tactic| walk_at "1") => `(tactic| with_reducible ((show XT _ _ _); (first | refine xt_s ?_ | refine xt_l ?_ | refine xt_k ?_ | (apply xt_vs; (focus (walk_at "at"; done))) | (apply xt_vl; (focus (walk_at "at"; done))) | (apply xt_vk; (focus (walk_at "at"; done))))))
local macro_rules | `(tactic| walk_at "1") => `(tactic| with_reducible ((show XD _ _ _); (first | refine xd ?_)))
local macro_rules | `(tactic| walk_at "1") => `(tactic| with_reducible ((show TF _ _ _); (first | refine tf_t ?_ | refine tf_f ?_)))
local macro_rules | `(tactic| walk_at "1") => `(tactic| with_reducible ((show XHs _ _ _); (first | refine xhs_nil ?_ | refine xhs_cons ?_)))
local macro_rules | `(tactic| walk_at "1") => `(tactic| with_reducible ((show XDs _ _ _); (first | refine xds_nil ?_ | refine xds_cons ?_)))
local macro_rules | `(tactic| walk_at "1") => `(tactic| with_reducible ((show XB _ _ _); (first | refine xb_and' ?_ | refine xb_or' ?_ | refine xb_not ?_ | refine xb_val ?_ | refine xb_tru ?_ | refine xb_yes ?_)))
local macro_rules | `(tactic| walk_at "1") => `(tactic| with_reducible ((show XS _ _ _); (first | refine xs_seq' ?_ | refine xs_nil ?_ | refine xs_set' ?_ | refine xs_asg ?_ | refine xs_par2 ?_ | refine xs_drop ?_ | refine xs_ret' ?_ | refine xs_retN ?_ | refine xs_if' ?_ | refine xs_brk ?_ | refine xs_cont ?_ | refine xs_for' ?_ | (refine xs_setIx2 ?_) | (apply xs_augIx'L; (focus (walk_at "at"; done))) | (apply xs_aug'; (focus (walk_at "at"; done))) | refine xs_setDx ?_ | refine xs_par3 ?_)))
local macro_rules | `(tactic| walk_at "1") => `(tactic| with_reducible ((show XE _ _ _); (first | (apply xv; (focus (walk_at "at"; done))) | refine xe_c ?_ | refine xe_bin ?_ | refine xe_un ?_ | refine xe_if' ?_ | refine xe_B ?_ | refine xe_callB ?_ | refine xe_tup ?_ | refine xe_lst ?_ | refine xe_sl ?_ | (apply xe_mt'L; (focus (walk_at "at"; done))) | refine xe_lc' ?_ | (refine xe_call' ?_) | refine xe_o ?_ | refine xe_get2 ?_ | refine xe_get1 ?_ | refine xe_disp ?_ | refine xe_join ?_ | refine xe_lc2 ?_ | refine xe_sidx ?_)))
local macro_rules | `(tactic| walk_at "1") => `(tactic| with_reducible ((show XO _ _); (walk_at "op")))
local macro_rules | `(tactic| walk_at "at") => `(tactic| with_reducible first | ((repeat (apply At.s)); (exact At.z)) | ((repeat (apply Put.s)); (first | exact Put.n | exact Put.z | exact Put.f (by assumption))) | ((repeat (apply Chg.s)); (exact Chg.z)) | ((repeat (apply SetAt.s)); (exact SetAt.z)) | ((repeat (apply Slt.s)); (exact Slt.z)) | ((repeat (apply Fin'.s)); (exact Fin'.z)) | ((repeat (first | apply Ini.shr | apply Ini.n | apply Ini.ol | apply Ini.od)); (exact Ini.z)) | exact Wb.nil)
-- END MACRO
/-! ### the seven operations -/
inductive Op | add | sub | mul | div | lt | eq | gt
  deriving DecidableEq
def Op.str : Op → Str
  | .add => "+" | .sub => "-" | .mul => "*" | .div => "/" | .lt => "<" | .eq => "=" | .gt => ">"
def Op.nam : Op → Str
  | .add => "add" | .sub => "sub" | .mul => "mul" | .div => "div" | .lt => "less" | .eq => "same" | .gt => "more"
def Bd (i : Int) : Prop := -100000000000000000000000000000000000000000 < i ∧ i < 100000000000000000000000000000000000000000
/-- within 40 figures -/
def Sm (i : Int) : Prop := -10000000000000000000000000000000000000000 < i ∧ i < 10000000000000000000000000000000000000000
theorem Sm.bd {i : Int} (h : Sm i) : Bd i := by unfold Sm at h; unfold Bd; omega
theorem Sm.neg {i : Int} (h : Sm i) : Sm (-i) := by unfold Sm at h ⊢; omega
theorem Sm.neg0 {i : Int} (h : Sm i) : Sm (0 - i) := by unfold Sm at h ⊢; omega
inductive W | ok (i : Int) | zero | great
def W.sm : W → Prop
  | .ok i => Sm i
  | _ => True
def chk (n : Int) : W := if 10000000000000000000000000000000000000000 ≤ (if n < 0 then -n else n) then .great else .ok n
theorem chk_sm (n : Int) : (chk n).sm := by
  by_cases h : 10000000000000000000000000000000000000000 ≤ (if n < 0 then -n else n)
  · rw [chk, if_pos h]; trivial
  · rw [chk, if_neg h]
    show Sm n
    unfold Sm
    by_cases c : n < 0
    · rw [if_pos c] at h; omega
    · rw [if_neg c] at h; omega
theorem chk_ok {n : Int} (h : Sm n) : chk n = .ok n := by
  rw [chk, if_neg]
  unfold Sm at h
  split <;> omega
def ap : Op → Int → Int → W
  | .add, i, j => chk (i + j)
  | .sub, i, j => chk (i - j)
  | .mul, i, j => chk (i * j)
  | .div, i, j => if j = 0 then .zero else chk (i.fdiv j)
  | .lt, i, j => .ok (if i < j then 1 else 0)
  | .eq, i, j => .ok (if i = j then 1 else 0)
  | .gt, i, j => .ok (if j < i then 1 else 0)
theorem bit_sm {p : Prop} [Decidable p] : Sm (if p then 1 else 0) := by split <;> (unfold Sm; omega)
theorem ap_sm (s : Op) (i j : Int) : (ap s i j).sm := by
  cases s <;> simp only [ap]
  · exact chk_sm _
  · exact chk_sm _
  · exact chk_sm _
  · split
    · trivial
    · exact chk_sm _
  · exact bit_sm
  · exact bit_sm
  · exact bit_sm
def wD : W → D
  | .ok i => .tup [.str "is", .int i]
  | .zero => .tup [.str "halt", .str "zero"]
  | .great => .tup [.str "halt", .str "great"]
def wO : W → D
  | .ok i => .int i
  | .zero => .str "zero"
  | .great => .str "great"
theorem log_lt {i : Int} (h : Bd i) : i.natAbs.log2 < 200 := by
  by_cases h0 : i.natAbs = 0
  · rw [h0]; decide
  · refine (Nat.log2_lt h0).mpr ?_
    obtain ⟨h1, h2⟩ := h
    have : i.natAbs < 100000000000000000000000000000000000000000 := by omega
    exact Nat.lt_trans this (by decide)
theorem mulB {i j : Int} (h : Bd i) (g : Bd j) : CMulG i j := .inr (by
  have a := log_lt h
  have b := log_lt g
  show i.natAbs.log2 + j.natAbs.log2 < 1000000
  omega)
theorem divB {i j : Int} (g : Bd j) (h : ¬ j = 0) : CDivG i j := ⟨h, by
  have := log_lt g
  omega⟩
theorem x_checked {n : Int} {Q : Rs → List O → Prop} (q : Q (.o (.shr (wD (chk n)))) [.shr (.int n)]) : XF F_checked_number [.shr (.int n)] Q := by
  refine xf' rfl (by walk_at "at") ?_
  unfold f_checked_number
  walk_at "run"
  refine tf_d (fun h => ?_) fun h => ?_
  · walk_at "run"
    rw [chk, if_pos h] at q
    exact q
  · walk_at "run"
    rw [chk, if_neg h] at q
    exact q
local macro_rules | `(tactic| walk_at "law") => `(tactic| repeat' (first | walk_at "1" | ((with_reducible refine lend_ok ?_ ?_); (focus rfl)) | ((with_reducible apply wbx); (focus (walk_at "wb"; done)); (focus rfl)) | walk_at "tf" | walk_at "isi" | with_reducible refine x_checked ?_ | with_reducible refine xo_mul (mulB (by assumption) (by assumption)) ?_ | with_reducible refine xo_div (divB (by assumption) (by assumption)) ?_ | walk_at "both"))
theorem x_apply {s : Op} {i j : Int} (hi : Bd i) (hj : Bd j) {Q : Rs → List O → Prop} (q : Q (.o (.shr (wD (ap s i j)))) [.shr (.str s.str), .shr (.int i), .shr (.int j)]) : XF F_apply_sign [.shr (.str s.str), .shr (.int i), .shr (.int j)] Q := by
  refine xf' rfl (by walk_at "at") ?_
  unfold f_apply_sign
  cases s <;> simp only [Op.str, ap] at q ⊢
  · walk_at "law"
    exact q
  · walk_at "law"
    exact q
  · walk_at "law"
    exact q
  · by_cases h : j = 0
    · rw [if_pos h] at q
      walk_at "law"
      exact q
    · rw [if_neg h] at q
      walk_at "law"
      exact q
  · walk_at "law"
    · next c => rw [if_pos c] at q; exact q
    · next c => rw [if_neg c] at q; exact q
  · walk_at "law"
    · next c => rw [if_pos c] at q; exact q
    · next c => rw [if_neg c] at q; exact q
  · walk_at "law"
    · next c => rw [if_pos c] at q; exact q
    · next c => rw [if_neg c] at q; exact q
theorem xo_intD {p : Prop} [Decidable p] {Q : O → Prop} (q : Q (.shr (.int (if p then 1 else 0)))) : XO (oInt [.shr (.bl (decide p))]) Q := xo_intB (by
  by_cases h : p
  · simpa [h] using q
  · simpa [h] using q)
theorem pow40 {Q : O → Prop} (q : Q (.shr (.int 10000000000000000000000000000000000000000))) : XO (oPow (.shr (.int 10)) (.shr (.int 40))) Q := xo_pow (powK (by decide)) (by
  have : (10:Int) ^ (40:Int).toNat = 10000000000000000000000000000000000000000 := by decide +kernel
  rw [this]; exact q)
local macro_rules | `(tactic| walk_at "law") => `(tactic| repeat' (first | with_reducible refine pow40 ?_ | with_reducible refine xo_intD ?_ | walk_at "1" | ((with_reducible refine lend_ok ?_ ?_); (focus rfl)) | ((with_reducible apply wbx); (focus (walk_at "wb"; done)); (focus rfl)) | walk_at "tf" | walk_at "isi" | with_reducible refine xo_mul (mulB (by assumption) (by assumption)) ?_ | with_reducible refine xo_div (divB (by assumption) (by assumption)) ?_ | walk_at "both"))
theorem x_work {s : Op} {i j : Int} (hi : Bd i) (hj : Bd j) {Q : Rs → List O → Prop} (q : Q (.o (.shr (wO (ap s i j)))) [.shr (.str s.nam), .shr (.int i), .shr (.int j)]) : XF F_m_work [.shr (.str s.nam), .shr (.int i), .shr (.int j)] Q := by
  refine xf' rfl (by walk_at "at") ?_
  unfold f_m_work
  cases s <;> simp only [Op.nam, ap] at q ⊢
  all_goals
    walk_at "law"
    all_goals first
      | exact q
      | (rename_i c; rw [chk, if_pos c] at q; exact q)
      | (rename_i c; rw [chk, if_neg c] at q; exact q)
      | (rename_i c; simp only [if_pos c] at q; exact q)
      | (rename_i z c; simp only [if_neg z] at q; rw [chk, if_pos c] at q; exact q)
      | (rename_i z c; simp only [if_neg z] at q; rw [chk, if_neg c] at q; exact q)
end K50

set_option maxRecDepth 100000
set_option maxHeartbeats 4000000
namespace K50
open PV PySem L2
local macro_rules | `(tactic| walk_at "all") => `(tactic| repeat' (first | walk_at "1" | ((with_reducible refine lend_ok ?_ ?_); (focus rfl)) | ((with_reducible apply wbx); (focus (walk_at "wb"; done)); (focus rfl)) | walk_at "tf" | walk_at "isi" | walk_at "both" | with_reducible refine ixL3 (by omega) (by omega) ?_ ?_ ?_))
local macro_rules | `(tactic| walk_at "run") => `(tactic| repeat (first | walk_at "1" | ((with_reducible refine lend_ok ?_ ?_); (focus rfl)) | ((with_reducible apply wbx); (focus (walk_at "wb"; done)); (focus rfl)) | walk_at "tf" | walk_at "isi"))
local macro_rules | `(tactic| walk_at "isi") => `(tactic| ((with_reducible show XO (oIsi _) _); first
  | refine isiT (c := .bool) rfl rfl rfl ?_ | refine isiF (c := .bool) rfl rfl rfl ?_ | refine isiT (c := .int) rfl rfl rfl ?_ | refine isiF (c := .int) rfl rfl rfl ?_ | refine isiT (c := .str) rfl rfl rfl ?_ | refine isiF (c := .str) rfl rfl rfl ?_
  | refine isiT (c := .dict) rfl rfl rfl ?_ | refine isiF (c := .dict) rfl rfl rfl ?_ | refine isiT (c := .tuple) rfl rfl rfl ?_ | refine isiF (c := .tuple) rfl rfl rfl ?_ | refine isiT (c := .list) rfl rfl rfl ?_ | refine isiF (c := .list) rfl rfl rfl ?_))
local macro_rules | `(tactic| walk_at "both") => `(tactic| with_reducible first | refine tf_d (fun _ => ?_) fun _ => ?_ | refine tf_nd (fun _ => ?_) fun _ => ?_ | refine tf_b (fun _ => ?_) fun _ => ?_)
local macro_rules | `(tactic| walk_at "tf") => `(tactic| with_reducible first | refine tf_T (by decide +kernel) ?_ | refine tf_F (by decide +kernel) ?_ | refine tf_T (decide_eq_true (by omega)) ?_ | refine tf_T (decide_eq_true (by simp only [List.length_cons]; omega)) ?_ | refine tf_F (decide_eq_false (by omega)) ?_ | refine tf_F (decide_eq_false (by assumption)) ?_ | refine tf_T (decide_eq_true (by assumption)) ?_ | refine tf_T (nd_T (by omega)) ?_ | refine tf_F (nd_F (by omega)) ?_ | refine tf_T (nd_T (by assumption)) ?_ | refine tf_F (nd_F (by assumption)) ?_)
local macro_rules | `(tactic| walk_at "wb") => `(tactic| (repeat (first | exact Wb.nil | apply Wb.tmp | apply Wb.shr | (apply Wb.ol'; (focus rfl)) | (apply Wb.od'; (focus rfl)) | (exact Chg.z) | apply Chg.s)))
local macro_rules | `(tactic| walk_at "op") => `(tactic| with_reducible first | refine xal ?_ | refine xals ?_ | (apply xat; (focus (first | exact at0 | exact at1 | exact at2 | assumption))) | refine trI ?_ | refine trB ?_ | refine trN ?_ | refine trL ?_ | refine trLs ?_)
local macro_rules | `(tactic| walk_at "op") => `(tactic| with_reducible first | refine xo_minN ?_ | refine xo_max ?_ | refine xo_min ?_ | (apply strI; (focus omega)) | (apply xo_addN; (focus decide +kernel); (focus omega)) | (apply xo_addS; (focus decide +kernel)) | (apply xo_addT; (focus (refine ⟨List.cons_ne_nil _ _, List.cons_ne_nil _ _, ?_⟩; simp only [List.length_cons, List.length_nil]; omega))) | refine xai ?_ | refine xab ?_)
local macro_rules | `(tactic| walk_at "op") => `(tactic| with_reducible first | refine lsL ?_ | refine lsLs ?_ | refine lsT ?_ | refine slL ?_ | refine slLs ?_ | refine xo_intI ?_ | refine xo_abs ?_ | refine xo_maxN ?_ | refine xo_max1 ?_)
local macro_rules | `(tactic| walk_at "op") => `(tactic| with_reducible first | (apply ixLs; (focus (first | exact at0 | exact at1 | exact at2 | assumption))) | (apply ixT; (focus (first | exact at0 | exact at1 | exact at2 | assumption))) | refine lnL ?_ | refine lnLs ?_ | refine lnT ?_ | refine lnSc ?_ | refine slSc ?_ | (apply ixSc; (focus (first | exact at0 | exact at1 | exact at2 | assumption))) | (apply xo_sumL rfl))
local macro_rules | `(tactic| walk_at "op") => `(tactic| with_reducible first | refine isN2 ?_ | refine isN3 ?_ | refine isN4 ?_ | refine isN5 ?_ | refine noN ?_ | refine noN0 ?_ | refine noN1 ?_ | refine noN2 ?_ | (apply ixL; (focus (first | exact at0 | exact at1 | exact at2 | assumption))))
local macro_rules | `(tactic| walk_at "op") => `(tactic| with_reducible first | refine xo_ge ?_ | refine xo_neg ?_ | refine eqI ?_ | refine neI ?_ | refine eqSt ?_ | refine neSt ?_ | refine isN ?_ | refine isN0 ?_ | refine isN1 ?_)
local macro_rules | `(tactic| walk_at "op") => `(tactic| with_reducible first | refine xo_sub ?_ | (apply xo_mul; (focus (first | exact mulR (by decide) | exact mulL (by decide) | exact mulR (by omega) | exact mulL (by omega) | exact mulW (by decide +kernel)))) | (apply xo_div; (focus (first | exact divK (by decide) | exact divK (by omega)))) | (apply xo_modP; (focus (first | decide | omega | decide +kernel)); intro _ _ _) | (apply xo_mod; (focus (first | decide | omega | decide +kernel))) | (apply xo_pow; focus exact powK (by decide)) | refine xo_lt ?_ | refine xo_le ?_ | refine xo_gt ?_)
local macro_rules | `(tactic| walk_at "op") => `(tactic| with_reducible first | refine xo_neD ?_ | refine xo_eqD ?_ | refine xas ?_ | refine xo_strAS ?_ | refine xo_inStr ?_ | refine xo_notInStr ?_ | refine xo_inG ?_ | refine xo_addI ?_ | refine xo_addI' ?_)
local macro_rules | `(tactic| walk_at "op") => `(tactic| with_reducible first | (apply xp_g; (focus (walk_at "at"; done))) | refine xr_o ?_ | refine ak_o ?_ | refine ak_s ?_ | refine ko_s ?_ | refine ko_i ?_ | refine xo_dget ?_ | refine xo_din ?_ | refine xo_dict ?_)
local macro_rules | `(tactic| walk_at "op") => `(tactic| with_reducible first | (apply xg_v; (focus (walk_at "at"; done))) | refine xg_t ?_ | refine xh_nil ?_ | (apply xh_v; (focus (walk_at "at"; done))) | refine xh_t ?_ | (refine xg_T rfl ?_) | refine xg_nil ?_ | refine xg_cons ?_ | (apply xw_s; (focus (walk_at "at"; done))))
local macro_rules | `(tactic| walk_at "1") => `(tactic| with_reducible first | refine par2 ?_ | refine lenAnd (by simp only [List.length_cons, List.length_nil]; omega) ?_ | (apply r1N; (focus omega)) | (apply r2S; (focus omega)) | (apply r1; (focus omega)) | (apply r2; (focus omega)) | refine xl_nil' ?_ | (apply def_rt; (focus (walk_at "at"; done))) | (apply def_nx; (focus (walk_at "at"; done))))
local macro_rules | `(tactic| walk_at "1") => `(tactic| with_reducible first | (apply xsi; (focus (walk_at "at"; done))) | refine ex_shr ?_ | refine len15 (by simp only [List.length_cons, List.length_nil]; omega) ?_ | (apply xsd; (focus (walk_at "at"; done))) | refine par3 ?_ | (apply acc2; (focus (first | omega | (simp only [List.length_cons, List.length_nil, List.length_append]; omega))); (focus (walk_at "at"; done)); (focus (walk_at "at"; done))))
local macro_rules | `(tactic| walk_at "1") => `(tactic| with_reducible ((show XPs _ _ _); (first | refine xps_nil ?_ | refine xps_cons ?_)))
local macro_rules | `(tactic| walk_at "1") => `(tactic| with_reducible ((show XLk _ _ _); (first | refine xlk_t ?_ | (apply xlk_s; (focus (walk_at "at"; done))) | (apply xlk_l; (focus (walk_at "at"; done))))))
local macro_rules | `(tactic| walk_at "1") => `(tactic| with_reducible ((show XJ _ _); (first | refine xj_l ?_ | refine xj_ls ?_ | refine xj_t ?_ | refine xj_s ?_)))
local macro_rules | `(tactic| walk_at "1") => `(tactic| with_reducible ((show lcQ2 _ _ _ _ _ _ _ _); (first | (apply lc2_n; (focus (walk_at "at"; done)); (focus (walk_at "at"; done)); (focus (walk_at "at"; done)); (focus (walk_at "at"; done))) | (apply lc2_l; (focus (walk_at "at"; done)); (focus (walk_at "at"; done)); (focus (walk_at "at"; done)); (focus (walk_at "at"; done)); (focus (walk_at "at"; done))))))
local macro_rules | `(tactic| walk_at "1") => `(tactic| with_reducible ((show lcQ _ _ _ _ _ _ _ _); (first | (apply lc_n; (focus (walk_at "at"; done)); (focus (walk_at "at"; done))) | (apply lc_l; (focus (walk_at "at"; done)); (focus (walk_at "at"; done)); (focus (walk_at "at"; done))))))
local macro_rules | `(tactic| walk_at "1") => `(tactic| with_reducible ((show forQ _ _ _ _ _ _); (first | refine for_n ?_ | (apply for_l; (focus (walk_at "at"; done))))))
local macro_rules | `(tactic| walk_at "1") => `(tactic| with_reducible ((show unlQ _ _ _); (first | refine unl_n ?_ | (apply unl_nx; (focus (walk_at "at"; done))) | refine unl_rt ?_)))
local macro_rules | `(tactic| walk_at "1") => `(tactic| with_reducible ((show turnQ _ _ _); (first | refine turn_nx ?_ | refine turn_ct ?_ | refine turn_bk ?_ | refine turn_rt ?_)))
local macro_rules | `(tactic| walk_at "1") => `(tactic| with_reducible ((show XC _ _ _ _ _ _ _ _); (first | refine xc_nil' ?_ | refine xc2_nil ?_ | refine xc2_cons ?_ | refine xc_yes1 ?_)))
local macro_rules | `(tactic| walk_at "1") => `(tactic| with_reducible ((show XM _ _ _ _); (first | (apply xm_set; (focus (walk_at "at"; done)); (focus (first | exact setL0 | exact setL1 | exact setL2 | assumption)); (focus (walk_at "at"; done))) | (apply xm_app; (focus (walk_at "at"; done)); (focus (first | assumption | omega | decide | (simp only [List.length_append, List.length_cons, List.length_nil]; omega))); (focus (walk_at "at"; done))) | (apply xm_put; (focus (walk_at "at"; done)); (focus omega); (focus (walk_at "at"; done))) | (apply xm_pop0; (focus (walk_at "at"; done)); (focus (walk_at "at"; done))) | (apply xm_pop; (focus (walk_at "at"; done)); (focus (walk_at "at"; done))))))
local macro_rules | `(tactic| walk_at "1") => `(tactic| with_reducible ((show XRt _ _ _); (first | refine xrt_t ?_ | (apply xrt_s; (focus (walk_at "at"; done))) | (apply xrt_pl; (focus (walk_at "at"; done))) | (apply xrt_l; (focus (walk_at "at"; done)); (focus (walk_at "at"; done))) | (apply xrt_k; (focus (walk_at "at"; done)); (focus (walk_at "at"; done))) | (apply xrt_pk; (focus (walk_at "at"; done))))))
local macro_rules | `(tactic| walk_at "1") => `(tactic| with_reducible ((show XI _ _ _); (first | refine xi_r1' ?_ | refine xi_r2' ?_ | refine xi_seq' ?_)))
local macro_rules | `(tactic| walk_at "1") => `(tactic| with_reducible ((show XP _ _ _); (first | refine xp_no ?_ | refine xp_some ?_)))
local macro_rules | `(tactic| walk_at "1") => `(tactic| with_reducible ((show seqQ _ _ _); (first | refine seq_nx ?_ | refine seq_rt ?_ | refine seq_bk ?_ | refine seq_ct ?_)))
local macro_rules | `(tactic| walk_at "1") => `(tactic| with_reducible ((show XW _ _ _ _); (first | (apply xw_t; (focus (walk_at "at"; done))) | refine xw_v ?_)))
local macro_rules | `(tactic| walk_at "1") => `(tactic| with_reducible ((show XT _ _ _); (first | refine xt_s ?_ | refine xt_l ?_ | refine xt_k ?_ | (apply xt_vs; (focus (walk_at "at"; done))) | (apply xt_vl; (focus (walk_at "at"; done))) | (apply xt_vk; (focus (walk_at "at"; done))))))
local macro_rules | `(tactic| walk_at "1") => `(tactic| with_reducible ((show XD _ _ _); (first | refine xd ?_)))
local macro_rules | `(tactic| walk_at "1") => `(tactic| with_reducible ((show TF _ _ _); (first | refine tf_t ?_ | refine tf_f ?_)))
local macro_rules | `(tactic| walk_at "1") => `(tactic| with_reducible ((show XHs _ _ _); (first | refine xhs_nil ?_ | refine xhs_cons ?_)))
local macro_rules | `(tactic| walk_at "1") => `(tactic| with_reducible ((show XDs _ _ _); (first | refine xds_nil ?_ | refine xds_cons ?_)))
local macro_rules | `(tactic| walk_at "1") => `(tactic| with_reducible ((show XB _ _ _); (first | refine xb_and' ?_ | refine xb_or' ?_ | refine xb_not ?_ | refine xb_val ?_ | refine xb_tru ?_ | refine xb_yes ?_)))
local macro_rules | `(tactic| walk_at "1") => `(tactic| with_reducible ((show XS _ _ _); (first | refine xs_seq' ?_ | refine xs_nil ?_ | refine xs_set' ?_ | refine xs_asg ?_ | refine xs_par2 ?_ | refine xs_drop ?_ | refine xs_ret' ?_ | refine xs_retN ?_ | refine xs_if' ?_ | refine xs_brk ?_ | refine xs_cont ?_ | refine xs_for' ?_ | (refine xs_setIx2 ?_) | (apply xs_augIx'L; (focus (walk_at "at"; done))) | (apply xs_aug'; (focus (walk_at "at"; done))) | refine xs_setDx ?_ | refine xs_par3 ?_)))
local macro_rules | `(tactic| walk_at "1") => `(tactic| with_reducible ((show XE _ _ _); (first | (apply xv; (focus (walk_at "at"; done))) | refine xe_c ?_ | refine xe_bin ?_ | refine xe_un ?_ | refine xe_if' ?_ | refine xe_B ?_ | refine xe_callB ?_ | refine xe_tup ?_ | refine xe_lst ?_ | refine xe_sl ?_ | (apply xe_mt'L; (focus (walk_at "at"; done))) | refine xe_lc' ?_ | (refine xe_call' ?_) | refine xe_o ?_ | refine xe_get2 ?_ | refine xe_get1 ?_ | refine xe_disp ?_ | refine xe_join ?_ | refine xe_lc2 ?_ | refine xe_sidx ?_)))
local macro_rules | `(tactic| walk_at "1") => `(tactic| with_reducible ((show XO _ _); (walk_at "op")))
local macro_rules | `(tactic| walk_at "at") => `(tactic| with_reducible first | ((repeat (apply At.s)); (exact At.z)) | ((repeat (apply Put.s)); (first | exact Put.n | exact Put.z | exact Put.f (by assumption))) | ((repeat (apply Chg.s)); (exact Chg.z)) | ((repeat (apply SetAt.s)); (exact SetAt.z)) | ((repeat (apply Slt.s)); (exact Slt.z)) | ((repeat (apply Fin'.s)); (exact Fin'.z)) | ((repeat (first | apply Ini.shr | apply Ini.n | apply Ini.ol | apply Ini.od)); (exact Ini.z)) | exact Wb.nil)
-- END MACRO
/-! ### digits -/
def Bg (i : Int) : Prop := Sm i ∧ 0 ≤ i
def Dg (x : Str) (n : Nat) : Prop := x.cps.toList.length = n ∧ ∀ c ∈ x.cps.toList, 48 ≤ c ∧ c ≤ 57
theorem dg_num {i : Int} (h : 0 ≤ i ∧ i < 10) : Dg (Str.ofString (toString i)) 1 := by
  obtain ⟨n, rfl⟩ := Int.eq_ofNat_of_zero_le h.1
  have e : (Str.ofString (toString ((n : Nat) : Int))).cps.toList = [48 + n] := by
    have := TL.tl_num n
    rw [TL.numL_lt (by omega)] at this
    exact this
  refine ⟨by rw [e]; rfl, fun c hc => ?_⟩
  rw [e, List.mem_singleton] at hc
  omega
theorem dg_app {x y : Str} {m n : Nat} (h : Dg x m) (g : Dg y n) : Dg (x ++ y) (m + n) := by
  have e : (x ++ y).cps.toList = x.cps.toList ++ y.cps.toList := by
    show (x.cps ++ y.cps).toList = _
    rw [Array.toList_append]
  refine ⟨by rw [e, List.length_append, h.1, g.1], fun c hc => ?_⟩
  rw [e, List.mem_append] at hc
  rcases hc with hc | hc
  · exact h.2 c hc
  · exact g.2 c hc
theorem dg_len {x : Str} {n : Nat} (h : Dg x n) : x.length = n := by
  rw [← h.1, Array.length_toList]; rfl
theorem join_tl (ys : List Str) : (Txt.join (Str.ofString "") ys).cps.toList = (ys.map fun y => y.cps.toList).flatten := by
  rw [TL.join_eq]
  have := TL.tl_join (Str.ofString "") ys
  have e0 : TL.tl (Str.ofString "") = [] := by decide +kernel
  rw [e0] at this
  refine this.trans ?_
  clear this
  have key : ∀ l : List (List Nat), TL.joinL [] l = l.flatten := by
    intro l
    induction l with
    | nil => rfl
    | cons p r ih =>
      cases r with
      | nil => simp [TL.joinL]
      | cons q r => rw [TL.joinL, ih]; simp
  rw [key]
theorem dg_join {ys : List Str} (h : ∀ y ∈ ys, Dg y 1) : Dg (Txt.join (Str.ofString "") ys) ys.length := by
  unfold Dg
  rw [join_tl]
  induction ys with
  | nil => exact ⟨rfl, fun c hc => nomatch hc⟩
  | cons y r ih =>
    obtain ⟨h1, h2⟩ := ih fun z hz => h z (List.mem_cons_of_mem _ hz)
    obtain ⟨g1, g2⟩ := h y (List.mem_cons_self ..)
    rw [List.map_cons, List.flatten_cons]
    refine ⟨by rw [List.length_append, h1, g1, List.length_cons]; omega, fun c hc => ?_⟩
    rcases List.mem_append.mp hc with hc | hc
    · exact g2 c hc
    · exact h2 c hc
theorem digits_lt (cs : List Nat) (h : ∀ c ∈ cs, 48 ≤ c ∧ c ≤ 57) : NumText.digitsVal cs < 10 ^ cs.length := by
  have key : ∀ (l : List Nat) (a : Nat), (∀ c ∈ l, 48 ≤ c ∧ c ≤ 57) → l.foldl (fun acc c => acc * 10 + (c - 48)) a < (a + 1) * 10 ^ l.length := by
    intro l
    induction l with
    | nil => intro a _; simp
    | cons c r ih =>
      intro a hc
      have h1 := hc c (List.mem_cons_self ..)
      have h2 := ih (a * 10 + (c - 48)) fun d hd => hc d (List.mem_cons_of_mem _ hd)
      rw [List.foldl_cons, List.length_cons, Nat.pow_succ]
      refine Nat.lt_of_lt_of_le h2 ?_
      calc (a * 10 + (c - 48) + 1) * 10 ^ r.length ≤ ((a + 1) * 10) * 10 ^ r.length := Nat.mul_le_mul_right _ (by omega)
        _ = (a + 1) * (10 ^ r.length * 10) := by rw [Nat.mul_assoc, Nat.mul_comm 10]
  have := key cs 0 h
  simpa [NumText.digitsVal] using this
theorem dg_int {x : Str} {n : Nat} (h : Dg x n) (h0 : 0 < n) (hn : n ≤ 31) : ∃ i : Int, intText? x = some i ∧ Bg i := by
  have e := SX.int_S (a := x.cps.toList) (by
    rw [List.all_eq_true]
    intro c hc
    have := h.2 c hc
    simp; exact this) (by intro z; have w := h.1; rw [z] at w; simp at w; omega) (by rw [h.1]; omega)
  rw [SX.S_tl] at e
  refine ⟨_, e, ?_⟩
  have l := digits_lt x.cps.toList h.2
  rw [h.1] at l
  have l2 : NumText.digitsVal x.cps.toList < 10 ^ 31 := Nat.lt_of_lt_of_le l (Nat.pow_le_pow_right (by decide) hn)
  have : (10:Nat) ^ 31 = 10000000000000000000000000000000 := by decide
  unfold Bg Sm
  omega
theorem strD {i : Int} {Q : O → Prop} (h : 0 ≤ i ∧ i < 10) (q : ∀ s, Dg s 1 → Q (.shr (.str s))) : XO (oStr [.shr (.int i)]) Q := strI (by omega) (q _ (dg_num h))
theorem ixAll {ds : List D} {r : Int} {Q : O → Prop} (h0 : 0 ≤ r) (h1 : r < ds.length) (q : ∀ d ∈ ds, Q (.shr d)) : XO (oIx (.ol ds) (.shr (.int r))) Q := by
  obtain ⟨n, rfl, h, e⟩ := at_int h0 h1
  exact ixL e (q _ (List.getElem_mem h))
local macro_rules | `(tactic| walk_at "law") => `(tactic| repeat' (first | with_reducible refine strD (by omega) fun _ _ => ?_ | walk_at "1" | ((with_reducible refine lend_ok ?_ ?_); (focus rfl)) | ((with_reducible apply wbx); (focus (walk_at "wb"; done)); (focus rfl)) | walk_at "tf" | walk_at "isi" | with_reducible refine x_pick (by assumption) (by omega) (by omega) fun _ _ _ _ _ => ?_ | walk_at "both"))
def JBg (many : Int) (k : Nat) (acc : List D) (e : Sto) : Prop := ∃ (src : List D) (ys : List Str), Src3 src ∧ acc = ys.map D.str ∧ ys.length = k ∧ (∀ y ∈ ys, Dg y 1) ∧ e = [some ⟨.ol src, true, false⟩, some ⟨.shr (.int many), false, false⟩, none, none]
theorem x_big {src : List D} (hs : Src3 src) {Q : Rs → List O → Prop} (q : ∀ i src', Bg i → Src3 src' → Q (.o (.shr (.int i))) [.ol src']) : XF F_big [.ol src] Q := by
  refine xf' rfl (by walk_at "at") ?_
  unfold f_big
  walk_at "law"
  refine ixAll (by assumption) (by assumption) fun d hd => ?_
  have hd : ∃ i : Int, d = .int i ∧ 1 ≤ i ∧ i ≤ 30 := by
    simp only [List.mem_cons, List.mem_nil_iff, or_false] at hd
    rcases hd with rfl | rfl | rfl | rfl | rfl | rfl <;> exact ⟨_, rfl, by omega, by omega⟩
  obtain ⟨many, rfl, m1, m2⟩ := hd
  walk_at "law"
  rename_i r _ _ _ _ s1 hs1
  clear hd
  refine r1 ⟨by omega, by omega⟩ ?_
  walk_at "law"
  refine xc_rng (JBg many) ⟨_, [], by assumption, rfl, rfl, (fun y hy => nomatch hy), rfl⟩ ?_ ?_
  · rintro acc e ⟨src, ys, hs, rfl, hl, hy, rfl⟩
    refine ⟨_, by walk_at "at", ?_⟩
    have hj := dg_join hy
    walk_at "law"
    refine xo_joinL (asStrs_map ys) ?_ ?_
    · have : (ys.map (·.length)).sum = ys.length := by
        clear hj hl
        induction ys with
        | nil => rfl
        | cons y r ih =>
          rw [List.map_cons, List.sum_cons, ih fun z hz => hy z (List.mem_cons_of_mem _ hz), dg_len (hy y (List.mem_cons_self ..)), List.length_cons]; omega
      have e0 : (Str.ofString "").length = 0 := by decide +kernel
      rw [this, e0]; omega
    · walk_at "law"
      have ha := dg_app hs1 hj
      refine xo_addS (by rw [dg_len hs1, dg_len hj]; omega) ?_
      walk_at "law"
      · obtain ⟨i, e, b⟩ := dg_int ha (by omega) (by omega)
        refine xo_intS (by rw [dg_len ha]; omega) e ?_
        walk_at "law"
        exact q _ _ b (by assumption)
      · exact q _ _ ⟨⟨by decide, by decide⟩, by decide⟩ (by assumption)
  · rintro k acc e hk ⟨src, ys, hs, rfl, hl, hy, rfl⟩
    walk_at "law"
    rename_i s2 hs2
    refine acc_q (by rw [List.length_map]; omega) (by walk_at "at") ⟨_, ys ++ [s2], by assumption, by simp, by simp [hl], ?_, rfl⟩
    intro y hy'
    rcases List.mem_append.mp hy' with h | h
    · exact hy y h
    · rw [List.mem_singleton.mp h]; exact hs2

end K50

set_option maxRecDepth 100000
set_option maxHeartbeats 4000000
namespace K50
open PV PySem L2
/-! ### trees, words, folding: plain -/
inductive T | num (n : Int) | nam (s : Str) | neg (t : T) | bin (o : Op) (l r : T)
def toD : T → D
  | .num i => .tup [.str "number", .int i]
  | .nam s => .tup [.str "name", .str s]
  | .neg t => .tup [.str "minus", toD t]
  | .bin s l r => .tup [.str s.str, toD l, toD r]
def T.n : T → Nat
  | .neg t => t.n + 1
  | .bin _ l r => l.n + r.n + 1
  | _ => 1
def T.dep : T → Nat
  | .neg t => t.dep + 1
  | .bin _ l r => max l.dep r.dep + 1
  | _ => 0
def nms : List Str := ["x", "y", "@g"]
def T.sm : T → Prop
  | .num i => Sm i ∧ 0 ≤ i
  | .nam s => s ∈ nms
  | .neg t => t.sm
  | .bin _ l r => l.sm ∧ r.sm
inductive Oth | tell | set | go | call | rem
def Oth.str : Oth → Str
  | .tell => "tell" | .set => "set" | .go => "if" | .call => "call" | .rem => "rem"
inductive Kd | push (n : Int) | get (s : Str) | neg | op (o : Op) | oth (x : Oth) (d : D)
def Kd.str : Kd → Str
  | .push _ => "push" | .get _ => "get" | .neg => "neg" | .op o => o.nam | .oth x _ => x.str
def Kd.arg : Kd → D
  | .push n => .int n | .get s => .str s | .neg => .non | .op _ => .non | .oth _ d => d
structure Wd where
  k : Kd
  a : D
  b : D
def Wd.d (w : Wd) : D := .tup [.str w.k.str, w.k.arg, w.a, w.b]
def Wd.sm (w : Wd) : Prop := match w.k with
  | .push n => Sm n
  | _ => True
def step (acc : List Wd) (w : Wd) : List Wd := match w.k, acc with
  | .neg, ⟨.push n, _, _⟩ :: r => (match chk (-n) with | .ok v => ⟨.push v, w.a, w.b⟩ :: r | _ => w :: acc)
  | .op o, ⟨.push j, _, _⟩ :: ⟨.push i, _, _⟩ :: r => (match ap o i j with | .ok v => ⟨.push v, w.a, w.b⟩ :: r | _ => w :: acc)
  | _, _ => w :: acc
def fold (ws : List Wd) : List Wd := ws.foldl step []
theorem step_cases (acc : List Wd) (w : Wd) : step acc w = w :: acc ∨ ∃ v x r, Sm v ∧ (acc = x :: r ∨ ∃ y, acc = x :: y :: r) ∧ step acc w = ⟨.push v, w.a, w.b⟩ :: r := by
  unfold step
  split
  · next n _ _ r _ =>
    have c := chk_sm (-n)
    split
    · next v e => rw [e] at c; exact .inr ⟨v, _, r, c, .inl rfl, rfl⟩
    · exact .inl rfl
  · next o j _ _ i _ _ r _ =>
    have c := ap_sm o i j
    split
    · next v e => rw [e] at c; exact .inr ⟨v, _, r, c, .inr ⟨_, rfl⟩, rfl⟩
    · exact .inl rfl
  · exact .inl rfl
theorem step_push (acc : List Wd) (v : Int) (a b : D) : step acc ⟨.push v, a, b⟩ = ⟨.push v, a, b⟩ :: acc := by unfold step; rfl
theorem step_oth (acc : List Wd) (x : Oth) (d a b : D) : step acc ⟨.oth x d, a, b⟩ = ⟨.oth x d, a, b⟩ :: acc := by unfold step; rfl
theorem step_get (acc : List Wd) (s : Str) (a b : D) : step acc ⟨.get s, a, b⟩ = ⟨.get s, a, b⟩ :: acc := by unfold step; rfl
/-- nothing is left to fold -/
def Nl : List Wd → Prop
  | [] => True
  | x :: r => step r x = x :: r ∧ Nl r
theorem step_nl {acc : List Wd} {w : Wd} (h : Nl acc) : Nl (step acc w) := by
  rcases step_cases acc w with e | ⟨v, x, r, _, hr, e⟩
  · rw [e]; exact ⟨e, h⟩
  · rw [e]
    refine ⟨step_push _ _ _ _, ?_⟩
    rcases hr with rfl | ⟨y, rfl⟩
    · exact h.2
    · exact h.2.2
theorem fold_nl : ∀ (ws acc : List Wd), Nl acc → Nl (ws.foldl step acc)
  | [], _, h => h
  | w :: r, acc, h => fold_nl r _ (step_nl h)
theorem fold_id : ∀ {acc : List Wd}, Nl acc → fold acc.reverse = acc
  | [], _ => rfl
  | x :: r, h => by
    unfold fold
    rw [List.reverse_cons, List.foldl_append]
    have := fold_id h.2
    unfold fold at this
    rw [this]
    exact h.1
theorem step_sm {acc : List Wd} {w : Wd} (h : ∀ x ∈ acc, x.sm) (hw : w.sm) : ∀ x ∈ step acc w, x.sm := by
  rcases step_cases acc w with e | ⟨v, x, r, sv, hr, e⟩
  · rw [e]
    intro x hx
    rcases List.mem_cons.mp hx with rfl | hx
    · exact hw
    · exact h x hx
  · rw [e]
    intro x hx
    rcases List.mem_cons.mp hx with rfl | hx
    · exact sv
    · refine h x ?_
      rcases hr with rfl | ⟨y, rfl⟩
      · exact List.mem_cons_of_mem _ hx
      · exact List.mem_cons_of_mem _ (List.mem_cons_of_mem _ hx)
theorem fold_sm : ∀ (ws acc : List Wd), (∀ x ∈ acc, x.sm) → (∀ x ∈ ws, x.sm) → ∀ x ∈ ws.foldl step acc, x.sm
  | [], _, h, _ => h
  | w :: r, acc, h, g => fold_sm r _ (step_sm h (g w (List.mem_cons_self ..))) fun x hx => g x (List.mem_cons_of_mem _ hx)
theorem step_len (acc : List Wd) (w : Wd) : (step acc w).length ≤ acc.length + 1 := by
  rcases step_cases acc w with e | ⟨v, x, r, sv, hr, e⟩
  · rw [e]; simp
  · rw [e]
    rcases hr with rfl | ⟨y, rfl⟩ <;> simp <;> omega
theorem fold_len : ∀ (ws acc : List Wd), (ws.foldl step acc).length ≤ acc.length + ws.length
  | [], _ => by simp
  | w :: r, acc => by
    have := fold_len r (step acc w)
    have h2 := step_len acc w
    rw [List.foldl_cons, List.length_cons]
    omega
/-! trees -/
def hd (ps : List (D × D)) : D × D := ps.headD (.non, .non)
def at' (k : Kd) (p : D × D) : Wd := ⟨k, p.1, p.2⟩
def kds : T → List Kd
  | .num n => [.push n]
  | .nam s => [.get s]
  | .neg t => kds t ++ [.neg]
  | .bin o l r => kds l ++ kds r ++ [.op o]
theorem kds_len : ∀ t : T, (kds t).length = t.n
  | .num _ => rfl
  | .nam _ => rfl
  | .neg t => by simp [kds, T.n, kds_len t]
  | .bin _ l r => by simp [kds, T.n, kds_len l, kds_len r]; omega
def mwt : T → List (D × D) → List Wd
  | .num n, ps => [at' (.push n) (hd ps)]
  | .nam s, ps => [at' (.get s) (hd ps)]
  | .neg t, ps => mwt t ps ++ [at' .neg (hd (ps.drop t.n))]
  | .bin o l r, ps => mwt l ps ++ mwt r (ps.drop l.n) ++ [at' (.op o) (hd (ps.drop (l.n + r.n)))]
def fin1 : List Wd → Option Int
  | [⟨.push n, _, _⟩] => some n
  | _ => none
def tf : T → List (D × D) → List Wd
  | .num n, ps => [at' (.push n) (hd ps)]
  | .nam s, ps => [at' (.get s) (hd ps)]
  | .neg t, ps => match fin1 (tf t ps) with
    | some n => [at' (.push (0 - n)) (hd (ps.drop t.n))]
    | none => tf t ps ++ [at' .neg (hd (ps.drop t.n))]
  | .bin o l r, ps => match fin1 (tf l ps), fin1 (tf r (ps.drop l.n)) with
    | some i, some j => (match ap o i j with
      | .ok v => [at' (.push v) (hd (ps.drop (l.n + r.n)))]
      | _ => tf l ps ++ tf r (ps.drop l.n) ++ [at' (.op o) (hd (ps.drop (l.n + r.n)))])
    | _, _ => tf l ps ++ tf r (ps.drop l.n) ++ [at' (.op o) (hd (ps.drop (l.n + r.n)))]
def NoP (w : Wd) : Prop := ∀ n, w.k ≠ .push n
theorem npN {p : D × D} : NoP (at' .neg p) := fun n z => Kd.noConfusion z
theorem npO {o : Op} {p : D × D} : NoP (at' (.op o) p) := fun n z => Kd.noConfusion z
theorem npG {s : Str} {p : D × D} : NoP (at' (.get s) p) := fun n z => Kd.noConfusion z
/-- one number, or the last is none -/
def Bk (l : List Wd) : Prop := (∃ n a b, l = [⟨.push n, a, b⟩] ∧ Sm n) ∨ (fin1 l = none ∧ ∃ s x, l = s ++ [x] ∧ NoP x)
theorem fin_app {s : List Wd} {x : Wd} (h : NoP x) : fin1 (s ++ [x]) = none := by
  unfold fin1
  split
  · next n a b e =>
    have : x = ⟨.push n, a, b⟩ := by
      have e2 := congrArg List.getLast? e
      simpa using e2
    exact absurd (by rw [this]) (h n)
  · rfl
theorem bk_app {s : List Wd} {x : Wd} (h : NoP x) : Bk (s ++ [x]) := .inr ⟨fin_app h, s, x, rfl, h⟩
theorem tf_bk : ∀ (t : T) (ps : List (D × D)), t.sm → Bk (tf t ps)
  | .num n, ps, h => .inl ⟨n, _, _, rfl, h.1⟩
  | .nam s, ps, h => bk_app (s := []) npG
  | .neg t, ps, h => by
    rcases tf_bk t ps h with ⟨n, a, b, e, sn⟩ | ⟨e, _⟩
    · unfold tf; rw [e]; exact .inl ⟨_, _, _, rfl, sn.neg0⟩
    · unfold tf; rw [e]; exact bk_app npN
  | .bin o l r, ps, h => by
    have fall : Bk (tf l ps ++ tf r (ps.drop l.n) ++ [at' (.op o) (hd (ps.drop (l.n + r.n)))]) := bk_app npO
    unfold tf
    split
    · next i j _ _ =>
      have c := ap_sm o i j
      split
      · next v e => rw [e] at c; exact .inl ⟨v, _, _, rfl, c⟩
      · exact fall
    · exact fall
theorem step_neg_no {acc : List Wd} {x : Wd} {a b : D} (h : NoP x) : step (x :: acc) ⟨.neg, a, b⟩ = ⟨.neg, a, b⟩ :: x :: acc := by
  obtain ⟨k, c, d⟩ := x
  cases k with
  | push n => exact absurd rfl (h n)
  | _ => rfl
theorem step_op_no1 {acc : List Wd} {x : Wd} {o : Op} {a b : D} (h : NoP x) : step (x :: acc) ⟨.op o, a, b⟩ = ⟨.op o, a, b⟩ :: x :: acc := by
  obtain ⟨k, c, d⟩ := x
  cases k with
  | push n => exact absurd rfl (h n)
  | _ => rfl
theorem step_op_no2 {acc : List Wd} {x y : Wd} {o : Op} {a b : D} (h : NoP y) : step (x :: y :: acc) ⟨.op o, a, b⟩ = ⟨.op o, a, b⟩ :: x :: y :: acc := by
  obtain ⟨k, c, d⟩ := y
  obtain ⟨k2, c2, d2⟩ := x
  cases k with
  | push n => exact absurd rfl (h n)
  | _ => cases k2 <;> rfl
theorem foldA : ∀ (t : T) (ps : List (D × D)) (acc : List Wd), t.sm → (mwt t ps).foldl step acc = (tf t ps).reverse ++ acc
  | .num n, ps, acc, _ => step_push _ _ _ _
  | .nam s, ps, acc, _ => step_get _ _ _ _
  | .neg t, ps, acc, h => by
    have ih := foldA t ps acc h
    unfold mwt
    rw [List.foldl_append, ih, List.foldl_cons, List.foldl_nil]
    rcases tf_bk t ps h with ⟨n, a, b, e, sn⟩ | ⟨e, s, x, e2, hx⟩
    · have e3 : tf (.neg t) ps = [at' (.push (0 - n)) (hd (ps.drop t.n))] := by
        conv => lhs; unfold tf
        rw [e]; rfl
      rw [e3, e]
      have : chk (-n) = .ok (-n) := chk_ok sn.neg
      show step (⟨.push n, a, b⟩ :: acc) ⟨.neg, _, _⟩ = _
      unfold step
      dsimp only
      rw [this, Int.zero_sub]
      rfl
    · have e3 : tf (.neg t) ps = tf t ps ++ [at' .neg (hd (ps.drop t.n))] := by
        conv => lhs; unfold tf
        rw [e]
      rw [e3, List.reverse_append, e2, List.reverse_append]
      exact step_neg_no hx
  | .bin o l r, ps, acc, h => by
    have ih1 := foldA l ps acc h.1
    have ih2 := foldA r (ps.drop l.n) ((tf l ps).reverse ++ acc) h.2
    unfold mwt
    rw [List.foldl_append, List.foldl_append, ih1, ih2, List.foldl_cons, List.foldl_nil]
    have hgen : ∀ z : List Wd, tf (.bin o l r) ps = z → (tf (.bin o l r) ps).reverse ++ acc = z.reverse ++ acc := fun z e => by rw [e]
    rcases tf_bk r (ps.drop l.n) h.2 with ⟨j, a, b, e, sj⟩ | ⟨e, s, x, e2, hx⟩
    · rcases tf_bk l ps h.1 with ⟨i, a', b', e', si⟩ | ⟨e', s, x, e2, hx⟩
      · cases ha : ap o i j with
        | ok v =>
          have e3 : tf (.bin o l r) ps = [at' (.push v) (hd (ps.drop (l.n + r.n)))] := by
            conv => lhs; unfold tf
            rw [e, e']; simp only [fin1, ha]
          rw [e3, e, e']
          show step (⟨.push j, a, b⟩ :: ⟨.push i, a', b'⟩ :: acc) ⟨.op o, _, _⟩ = _
          unfold step
          dsimp only
          rw [ha]
          rfl
        | zero =>
          have e3 : tf (.bin o l r) ps = tf l ps ++ tf r (ps.drop l.n) ++ [at' (.op o) (hd (ps.drop (l.n + r.n)))] := by
            conv => lhs; unfold tf
            rw [e, e']; simp only [fin1, ha]
          rw [e3, e, e']
          show step (⟨.push j, a, b⟩ :: ⟨.push i, a', b'⟩ :: acc) ⟨.op o, _, _⟩ = _
          unfold step
          dsimp only
          rw [ha]
          rfl
        | great =>
          have e3 : tf (.bin o l r) ps = tf l ps ++ tf r (ps.drop l.n) ++ [at' (.op o) (hd (ps.drop (l.n + r.n)))] := by
            conv => lhs; unfold tf
            rw [e, e']; simp only [fin1, ha]
          rw [e3, e, e']
          show step (⟨.push j, a, b⟩ :: ⟨.push i, a', b'⟩ :: acc) ⟨.op o, _, _⟩ = _
          unfold step
          dsimp only
          rw [ha]
          rfl
      · have e3 : tf (.bin o l r) ps = tf l ps ++ tf r (ps.drop l.n) ++ [at' (.op o) (hd (ps.drop (l.n + r.n)))] := by
          conv => lhs; unfold tf
          rw [e']
        rw [e3, e, e2]
        simp only [List.reverse_append, List.reverse_cons, List.reverse_nil, List.nil_append, List.append_assoc, List.cons_append]
        exact step_op_no2 hx
    · have e3 : tf (.bin o l r) ps = tf l ps ++ tf r (ps.drop l.n) ++ [at' (.op o) (hd (ps.drop (l.n + r.n)))] := by
        conv => lhs; unfold tf
        rw [e]
        cases fin1 (tf l ps) <;> rfl
      rw [e3, e2]
      simp only [List.reverse_append, List.reverse_cons, List.reverse_nil, List.nil_append, List.append_assoc, List.cons_append]
      exact step_op_no1 hx
def mwl : List T → List (D × D) → List Wd
  | [], _ => []
  | t :: r, ps => mwt t ps ++ mwl r (ps.drop t.n)
def tfl : List T → List (D × D) → List Wd
  | [], _ => []
  | t :: r, ps => tf t ps ++ tfl r (ps.drop t.n)
theorem foldL : ∀ (ts : List T) (ps : List (D × D)) (acc : List Wd), (∀ t ∈ ts, t.sm) → (mwl ts ps).foldl step acc = (tfl ts ps).reverse ++ acc
  | [], _, _, _ => rfl
  | t :: r, ps, acc, h => by
    rw [mwl, tfl, List.foldl_append, foldA t ps acc (h t (List.mem_cons_self ..)), foldL r _ _ fun x hx => h x (List.mem_cons_of_mem _ hx), List.reverse_append, List.append_assoc]
theorem fold_line {ts : List T} {ps : List (D × D)} {x : Oth} {d a b : D} (h : ∀ t ∈ ts, t.sm) : fold (mwl ts ps ++ ([⟨.oth x d, a, b⟩] : List Wd)) = (tfl ts ps ++ ([⟨.oth x d, a, b⟩] : List Wd)).reverse := by
  unfold fold
  rw [List.foldl_append, foldL ts ps [] h, List.foldl_cons, List.foldl_nil, step_oth, List.append_nil, List.reverse_append]
  rfl
theorem mwt_sm : ∀ (t : T) (ps : List (D × D)), t.sm → ∀ x ∈ mwt t ps, x.sm
  | .num n, ps, h, x, hx => by
    rw [mwt, List.mem_singleton] at hx; subst hx; exact h.1
  | .nam s, ps, h, x, hx => by
    rw [mwt, List.mem_singleton] at hx; subst hx; trivial
  | .neg t, ps, h, x, hx => by
    rw [mwt, List.mem_append, List.mem_singleton] at hx
    rcases hx with hx | rfl
    · exact mwt_sm t ps h x hx
    · trivial
  | .bin o l r, ps, h, x, hx => by
    rw [mwt, List.mem_append, List.mem_append, List.mem_singleton] at hx
    rcases hx with (hx | hx) | rfl
    · exact mwt_sm l ps h.1 x hx
    · exact mwt_sm r _ h.2 x hx
    · trivial
theorem mwl_sm : ∀ (ts : List T) (ps : List (D × D)), (∀ t ∈ ts, t.sm) → ∀ x ∈ mwl ts ps, x.sm
  | [], _, _, x, hx => nomatch hx
  | t :: r, ps, h, x, hx => by
    rw [mwl, List.mem_append] at hx
    rcases hx with hx | hx
    · exact mwt_sm t ps (h t (List.mem_cons_self ..)) x hx
    · exact mwl_sm r _ (fun y hy => h y (List.mem_cons_of_mem _ hy)) x hx
/-! worths -/
inductive Rn | ok (st : List Int) | er (w : W)
def runW (nm : Str → Int) : List Wd → List Int → Option Rn
  | [], st => some (.ok st)
  | w :: r, st => match w.k with
    | .push n => runW nm r (n :: st)
    | .get s => runW nm r (nm s :: st)
    | .neg => (match st with
      | v :: st => runW nm r ((0 - v) :: st)
      | _ => none)
    | .op o => (match st with
      | j :: i :: st => (match ap o i j with
        | .ok v => runW nm r (v :: st)
        | e => some (.er e))
      | _ => none)
    | .oth _ _ => none
def ev (nm : Str → Int) : T → W
  | .num n => .ok n
  | .nam s => .ok (nm s)
  | .neg t => match ev nm t with
    | .ok v => .ok (0 - v)
    | e => e
  | .bin o l r => match ev nm l with
    | .ok i => (match ev nm r with
      | .ok j => ap o i j
      | e => e)
    | e => e
def thenW (nm : Str → Int) (w : W) (rest : List Wd) (st : List Int) : Option Rn := match w with
  | .ok v => runW nm rest (v :: st)
  | e => some (.er e)
variable {nm : Str → Int}
theorem run_neg {p : D × D} {rest : List Wd} {v : Int} {st : List Int} : runW nm (at' .neg p :: rest) (v :: st) = runW nm rest ((0 - v) :: st) := rfl
theorem run_op {o : Op} {p : D × D} {rest : List Wd} {i j : Int} {st : List Int} : runW nm (at' (.op o) p :: rest) (j :: i :: st) = thenW nm (ap o i j) rest st := by
  show (match ap o i j with | .ok v => runW nm rest (v :: st) | e => some (.er e)) = _
  cases ap o i j <;> rfl
theorem run_mwt : ∀ (t : T) (ps : List (D × D)) (rest : List Wd) (st : List Int), runW nm (mwt t ps ++ rest) st = thenW nm (ev nm t) rest st
  | .num n, ps, rest, st => rfl
  | .nam s, ps, rest, st => rfl
  | .neg t, ps, rest, st => by
    rw [mwt, List.append_assoc, run_mwt t ps, ev]
    cases ev nm t with
    | ok v => exact run_neg (p := hd (ps.drop t.n))
    | zero => rfl
    | great => rfl
  | .bin o l r, ps, rest, st => by
    rw [mwt, List.append_assoc, List.append_assoc, run_mwt l ps, ev]
    cases ev nm l with
    | ok i =>
      show runW nm (mwt r _ ++ _) (i :: st) = _
      rw [run_mwt r]
      cases ev nm r with
      | ok j => exact run_op (p := hd (ps.drop (l.n + r.n)))
      | zero => rfl
      | great => rfl
    | zero => rfl
    | great => rfl
theorem fin_ev : ∀ (t : T) (ps : List (D × D)) (n : Int), fin1 (tf t ps) = some n → ev nm t = .ok n
  | .num m, ps, n, h => by
    have : m = n := Option.some.inj h
    rw [this]; rfl
  | .nam s, ps, n, h => nomatch h
  | .neg t, ps, n, h => by
    cases e : fin1 (tf t ps) with
    | some m =>
      have h2 : tf (.neg t) ps = [at' (.push (0 - m)) (hd (ps.drop t.n))] := by
        conv => lhs; unfold tf
        rw [e]
      rw [h2] at h
      have : 0 - m = n := Option.some.inj h
      rw [ev, fin_ev t ps m e]
      show W.ok (0 - m) = W.ok n
      rw [this]
    | none =>
      have h2 : tf (.neg t) ps = tf t ps ++ [at' .neg (hd (ps.drop t.n))] := by
        conv => lhs; unfold tf
        rw [e]
      rw [h2, fin_app npN] at h
      cases h
  | .bin o l r, ps, n, h => by
    have bad : tf (.bin o l r) ps = tf l ps ++ tf r (ps.drop l.n) ++ [at' (.op o) (hd (ps.drop (l.n + r.n)))] → ev nm (.bin o l r) = .ok n := fun h2 => by
      rw [h2, fin_app npO] at h
      cases h
    cases e : fin1 (tf l ps) with
    | none =>
      refine bad ?_
      conv => lhs; unfold tf
      rw [e]
    | some i =>
      cases e' : fin1 (tf r (ps.drop l.n)) with
      | none =>
        refine bad ?_
        conv => lhs; unfold tf
        rw [e, e']
      | some j =>
        cases ha : ap o i j with
        | ok v =>
          have h2 : tf (.bin o l r) ps = [at' (.push v) (hd (ps.drop (l.n + r.n)))] := by
            conv => lhs; unfold tf
            rw [e, e']; simp only [ha]
          rw [h2] at h
          have : v = n := Option.some.inj h
          rw [ev, fin_ev l ps i e, fin_ev r _ j e']
          simp only [ha, this]
        | zero =>
          refine bad ?_
          conv => lhs; unfold tf
          rw [e, e']; simp only [ha]
        | great =>
          refine bad ?_
          conv => lhs; unfold tf
          rw [e, e']; simp only [ha]
theorem run_tf : ∀ (t : T) (ps : List (D × D)) (rest : List Wd) (st : List Int), runW nm (tf t ps ++ rest) st = thenW nm (ev nm t) rest st
  | .num n, ps, rest, st => rfl
  | .nam s, ps, rest, st => rfl
  | .neg t, ps, rest, st => by
    cases e : fin1 (tf t ps) with
    | some m =>
      have h2 : tf (.neg t) ps = [at' (.push (0 - m)) (hd (ps.drop t.n))] := by
        conv => lhs; unfold tf
        rw [e]
      rw [h2, ev, fin_ev t ps m e]
      rfl
    | none =>
      have h2 : tf (.neg t) ps = tf t ps ++ [at' .neg (hd (ps.drop t.n))] := by
        conv => lhs; unfold tf
        rw [e]
      rw [h2, List.append_assoc, run_tf t ps, ev]
      cases ev nm t with
      | ok v => exact run_neg (p := hd (ps.drop t.n))
      | zero => rfl
      | great => rfl
  | .bin o l r, ps, rest, st => by
    have fall : tf (.bin o l r) ps = tf l ps ++ tf r (ps.drop l.n) ++ [at' (.op o) (hd (ps.drop (l.n + r.n)))] → runW nm (tf (.bin o l r) ps ++ rest) st = thenW nm (ev nm (.bin o l r)) rest st := fun h2 => by
      rw [h2, List.append_assoc, List.append_assoc, run_tf l ps, ev]
      cases ev nm l with
      | ok i =>
        show runW nm (tf r _ ++ _) (i :: st) = _
        rw [run_tf r]
        cases ev nm r with
        | ok j => exact run_op (p := hd (ps.drop (l.n + r.n)))
        | zero => rfl
        | great => rfl
      | zero => rfl
      | great => rfl
    cases e : fin1 (tf l ps) with
    | none =>
      refine fall ?_
      conv => lhs; unfold tf
      rw [e]
    | some i =>
      cases e' : fin1 (tf r (ps.drop l.n)) with
      | none =>
        refine fall ?_
        conv => lhs; unfold tf
        rw [e, e']
      | some j =>
        cases ha : ap o i j with
        | ok v =>
          have h2 : tf (.bin o l r) ps = [at' (.push v) (hd (ps.drop (l.n + r.n)))] := by
            conv => lhs; unfold tf
            rw [e, e']; simp only [ha]
          rw [h2, ev, fin_ev l ps i e, fin_ev r _ j e']
          simp only [ha]
          rfl
        | zero =>
          refine fall ?_
          conv => lhs; unfold tf
          rw [e, e']; simp only [ha]
        | great =>
          refine fall ?_
          conv => lhs; unfold tf
          rw [e, e']; simp only [ha]
theorem run_same : ∀ (ts : List T) (ps : List (D × D)) (st : List Int), runW nm (mwl ts ps) st = runW nm (tfl ts ps) st ∧ ∃ r, runW nm (mwl ts ps) st = some r
  | [], ps, st => ⟨rfl, _, rfl⟩
  | t :: r, ps, st => by
    rw [mwl, tfl, run_mwt, run_tf]
    cases ev nm t with
    | ok v => exact run_same r _ (v :: st)
    | zero => exact ⟨rfl, _, rfl⟩
    | great => exact ⟨rfl, _, rfl⟩
/-- the names of the words -/
def GetIn (w : Wd) : Prop := match w.k with
  | .get s => s ∈ nms
  | .oth _ _ => True
  | _ => True
theorem mwt_get : ∀ (t : T) (ps : List (D × D)), t.sm → ∀ x ∈ mwt t ps, GetIn x
  | .num n, ps, h, x, hx => by
    rw [mwt, List.mem_singleton] at hx; subst hx; trivial
  | .nam s, ps, h, x, hx => by
    rw [mwt, List.mem_singleton] at hx; subst hx; exact h
  | .neg t, ps, h, x, hx => by
    rw [mwt, List.mem_append, List.mem_singleton] at hx
    rcases hx with hx | rfl
    · exact mwt_get t ps h x hx
    · trivial
  | .bin o l r, ps, h, x, hx => by
    rw [mwt, List.mem_append, List.mem_append, List.mem_singleton] at hx
    rcases hx with (hx | hx) | rfl
    · exact mwt_get l ps h.1 x hx
    · exact mwt_get r _ h.2 x hx
    · trivial
theorem mwl_get : ∀ (ts : List T) (ps : List (D × D)), (∀ t ∈ ts, t.sm) → ∀ x ∈ mwl ts ps, GetIn x
  | [], _, _, x, hx => nomatch hx
  | t :: r, ps, h, x, hx => by
    rw [mwl, List.mem_append] at hx
    rcases hx with hx | hx
    · exact mwt_get t ps (h t (List.mem_cons_self ..)) x hx
    · exact mwl_get r _ (fun y hy => h y (List.mem_cons_of_mem _ hy)) x hx
theorem step_get_in {acc : List Wd} {w : Wd} (h : ∀ x ∈ acc, GetIn x) (hw : GetIn w) : ∀ x ∈ step acc w, GetIn x := by
  rcases step_cases acc w with e | ⟨v, x, r, sv, hr, e⟩
  · rw [e]
    intro x hx
    rcases List.mem_cons.mp hx with rfl | hx
    · exact hw
    · exact h x hx
  · rw [e]
    intro x hx
    rcases List.mem_cons.mp hx with rfl | hx
    · trivial
    · refine h x ?_
      rcases hr with rfl | ⟨y, rfl⟩
      · exact List.mem_cons_of_mem _ hx
      · exact List.mem_cons_of_mem _ (List.mem_cons_of_mem _ hx)
theorem fold_get : ∀ (ws acc : List Wd), (∀ x ∈ acc, GetIn x) → (∀ x ∈ ws, GetIn x) → ∀ x ∈ ws.foldl step acc, GetIn x
  | [], _, h, _ => h
  | w :: r, acc, h, g => fold_get r _ (step_get_in h (g w (List.mem_cons_self ..))) fun x hx => g x (List.mem_cons_of_mem _ hx)
end K50

set_option maxRecDepth 100000
set_option maxHeartbeats 4000000
namespace K50
open PV PySem L2
local macro_rules | `(tactic| walk_at "all") => `(tactic| repeat' (first | walk_at "1" | ((with_reducible refine lend_ok ?_ ?_); (focus rfl)) | ((with_reducible apply wbx); (focus (walk_at "wb"; done)); (focus rfl)) | walk_at "tf" | walk_at "isi" | walk_at "both" | with_reducible refine ixL3 (by omega) (by omega) ?_ ?_ ?_))
local macro_rules | `(tactic| walk_at "run") => `(tactic| repeat (first | walk_at "1" | ((with_reducible refine lend_ok ?_ ?_); (focus rfl)) | ((with_reducible apply wbx); (focus (walk_at "wb"; done)); (focus rfl)) | walk_at "tf" | walk_at "isi"))
local macro_rules | `(tactic| walk_at "isi") => `(tactic| ((with_reducible show XO (oIsi _) _); first
  | refine isiT (c := .bool) rfl rfl rfl ?_ | refine isiF (c := .bool) rfl rfl rfl ?_ | refine isiT (c := .int) rfl rfl rfl ?_ | refine isiF (c := .int) rfl rfl rfl ?_ | refine isiT (c := .str) rfl rfl rfl ?_ | refine isiF (c := .str) rfl rfl rfl ?_
  | refine isiT (c := .dict) rfl rfl rfl ?_ | refine isiF (c := .dict) rfl rfl rfl ?_ | refine isiT (c := .tuple) rfl rfl rfl ?_ | refine isiF (c := .tuple) rfl rfl rfl ?_ | refine isiT (c := .list) rfl rfl rfl ?_ | refine isiF (c := .list) rfl rfl rfl ?_))
local macro_rules | `(tactic| walk_at "both") => `(tactic| with_reducible first | refine tf_d (fun _ => ?_) fun _ => ?_ | refine tf_nd (fun _ => ?_) fun _ => ?_ | refine tf_b (fun _ => ?_) fun _ => ?_)
local macro_rules | `(tactic| walk_at "tf") => `(tactic| with_reducible first | refine tf_T (by decide +kernel) ?_ | refine tf_F (by decide +kernel) ?_ | refine tf_T (decide_eq_true (by omega)) ?_ | refine tf_T (decide_eq_true (by simp only [List.length_cons]; omega)) ?_ | refine tf_F (decide_eq_false (by omega)) ?_ | refine tf_F (decide_eq_false (by assumption)) ?_ | refine tf_T (decide_eq_true (by assumption)) ?_ | refine tf_T (nd_T (by omega)) ?_ | refine tf_F (nd_F (by omega)) ?_ | refine tf_T (nd_T (by assumption)) ?_ | refine tf_F (nd_F (by assumption)) ?_)
local macro_rules | `(tactic| walk_at "wb") => `(tactic| (repeat (first | exact Wb.nil | apply Wb.tmp | apply Wb.shr | (apply Wb.ol'; (focus rfl)) | (apply Wb.od'; (focus rfl)) | (exact Chg.z) | apply Chg.s)))
local macro_rules | `(tactic| walk_at "op") => `(tactic| with_reducible first | refine xal ?_ | refine xals ?_ | (apply xat; (focus (first | exact at0 | exact at1 | exact at2 | assumption))) | refine trI ?_ | refine trB ?_ | refine trN ?_ | refine trL ?_ | refine trLs ?_)
local macro_rules | `(tactic| walk_at "op") => `(tactic| with_reducible first | refine xo_minN ?_ | refine xo_max ?_ | refine xo_min ?_ | (apply strI; (focus omega)) | (apply xo_addN; (focus decide +kernel); (focus omega)) | (apply xo_addS; (focus decide +kernel)) | (apply xo_addT; (focus (refine ⟨List.cons_ne_nil _ _, List.cons_ne_nil _ _, ?_⟩; simp only [List.length_cons, List.length_nil]; omega))) | refine xai ?_ | refine xab ?_)
local macro_rules | `(tactic| walk_at "op") => `(tactic| with_reducible first | refine lsL ?_ | refine lsLs ?_ | refine lsT ?_ | refine slL ?_ | refine slLs ?_ | refine xo_intI ?_ | refine xo_abs ?_ | refine xo_maxN ?_ | refine xo_max1 ?_)
local macro_rules | `(tactic| walk_at "op") => `(tactic| with_reducible first | (apply ixLs; (focus (first | exact at0 | exact at1 | exact at2 | assumption))) | (apply ixT; (focus (first | exact at0 | exact at1 | exact at2 | assumption))) | refine lnL ?_ | refine lnLs ?_ | refine lnT ?_ | refine lnSc ?_ | refine slSc ?_ | (apply ixSc; (focus (first | exact at0 | exact at1 | exact at2 | assumption))) | (apply xo_sumL rfl))
local macro_rules | `(tactic| walk_at "op") => `(tactic| with_reducible first | refine isN2 ?_ | refine isN3 ?_ | refine isN4 ?_ | refine isN5 ?_ | refine noN ?_ | refine noN0 ?_ | refine noN1 ?_ | refine noN2 ?_ | (apply ixL; (focus (first | exact at0 | exact at1 | exact at2 | assumption))))
local macro_rules | `(tactic| walk_at "op") => `(tactic| with_reducible first | refine xo_ge ?_ | refine xo_neg ?_ | refine eqI ?_ | refine neI ?_ | refine eqSt ?_ | refine neSt ?_ | refine isN ?_ | refine isN0 ?_ | refine isN1 ?_)
local macro_rules | `(tactic| walk_at "op") => `(tactic| with_reducible first | refine xo_sub ?_ | (apply xo_mul; (focus (first | exact mulR (by decide) | exact mulL (by decide) | exact mulR (by omega) | exact mulL (by omega) | exact mulW (by decide +kernel)))) | (apply xo_div; (focus (first | exact divK (by decide) | exact divK (by omega)))) | (apply xo_modP; (focus (first | decide | omega | decide +kernel)); intro _ _ _) | (apply xo_mod; (focus (first | decide | omega | decide +kernel))) | (apply xo_pow; focus exact powK (by decide)) | refine xo_lt ?_ | refine xo_le ?_ | refine xo_gt ?_)
local macro_rules | `(tactic| walk_at "op") => `(tactic| with_reducible first | refine xo_neD ?_ | refine xo_eqD ?_ | refine xas ?_ | refine xo_strAS ?_ | refine xo_inStr ?_ | refine xo_notInStr ?_ | refine xo_inG ?_ | refine xo_addI ?_ | refine xo_addI' ?_)
local macro_rules | `(tactic| walk_at "op") => `(tactic| with_reducible first | (apply xp_g; (focus (walk_at "at"; done))) | refine xr_o ?_ | refine ak_o ?_ | refine ak_s ?_ | refine ko_s ?_ | refine ko_i ?_ | refine xo_dget ?_ | refine xo_din ?_ | refine xo_dict ?_)
local macro_rules | `(tactic| walk_at "op") => `(tactic| with_reducible first | (apply xg_v; (focus (walk_at "at"; done))) | refine xg_t ?_ | refine xh_nil ?_ | (apply xh_v; (focus (walk_at "at"; done))) | refine xh_t ?_ | (refine xg_T rfl ?_) | refine xg_nil ?_ | refine xg_cons ?_ | (apply xw_s; (focus (walk_at "at"; done))))
local macro_rules | `(tactic| walk_at "1") => `(tactic| with_reducible first | refine par2 ?_ | refine lenAnd (by simp only [List.length_cons, List.length_nil]; omega) ?_ | (apply r1N; (focus omega)) | (apply r2S; (focus omega)) | (apply r1; (focus omega)) | (apply r2; (focus omega)) | refine xl_nil' ?_ | (apply def_rt; (focus (walk_at "at"; done))) | (apply def_nx; (focus (walk_at "at"; done))))
local macro_rules | `(tactic| walk_at "1") => `(tactic| with_reducible first | (apply xsi; (focus (walk_at "at"; done))) | refine ex_shr ?_ | refine len15 (by simp only [List.length_cons, List.length_nil]; omega) ?_ | (apply xsd; (focus (walk_at "at"; done))) | refine par3 ?_ | (apply acc2; (focus (first | omega | (simp only [List.length_cons, List.length_nil, List.length_append]; omega))); (focus (walk_at "at"; done)); (focus (walk_at "at"; done))))
local macro_rules | `(tactic| walk_at "1") => `(tactic| with_reducible ((show XPs _ _ _); (first | refine xps_nil ?_ | refine xps_cons ?_)))
local macro_rules | `(tactic| walk_at "1") => `(tactic| with_reducible ((show XLk _ _ _); (first | refine xlk_t ?_ | (apply xlk_s; (focus (walk_at "at"; done))) | (apply xlk_l; (focus (walk_at "at"; done))))))
local macro_rules | `(tactic| walk_at "1") => `(tactic| with_reducible ((show XJ _ _); (first | refine xj_l ?_ | refine xj_ls ?_ | refine xj_t ?_ | refine xj_s ?_)))
local macro_rules | `(tactic| walk_at "1") => `(tactic| with_reducible ((show lcQ2 _ _ _ _ _ _ _ _); (first | (apply lc2_n; (focus (walk_at "at"; done)); (focus (walk_at "at"; done)); (focus (walk_at "at"; done)); (focus (walk_at "at"; done))) | (apply lc2_l; (focus (walk_at "at"; done)); (focus (walk_at "at"; done)); (focus (walk_at "at"; done)); (focus (walk_at "at"; done)); (focus (walk_at "at"; done))))))
local macro_rules | `(tactic| walk_at "1") => `(tactic| with_reducible ((show lcQ _ _ _ _ _ _ _ _); (first | (apply lc_n; (focus (walk_at "at"; done)); (focus (walk_at "at"; done))) | (apply lc_l; (focus (walk_at "at"; done)); (focus (walk_at "at"; done)); (focus (walk_at "at"; done))))))
local macro_rules | `(tactic| walk_at "1") => `(tactic| with_reducible ((show forQ _ _ _ _ _ _); (first | refine for_n ?_ | (apply for_l; (focus (walk_at "at"; done))))))
local macro_rules | `(tactic| walk_at "1") => `(tactic| with_reducible ((show unlQ _ _ _); (first | refine unl_n ?_ | (apply unl_nx; (focus (walk_at "at"; done))) | refine unl_rt ?_)))
local macro_rules | `(tactic| walk_at "1") => `(tactic| with_reducible ((show turnQ _ _ _); (first | refine turn_nx ?_ | refine turn_ct ?_ | refine turn_bk ?_ | refine turn_rt ?_)))
local macro_rules | `(tactic| walk_at "1") => `(tactic| with_reducible ((show XC _ _ _ _ _ _ _ _); (first | refine xc_nil' ?_ | refine xc2_nil ?_ | refine xc2_cons ?_ | refine xc_yes1 ?_)))
local macro_rules | `(tactic| walk_at "1") => `(tactic| with_reducible ((show XM _ _ _ _); (first | (apply xm_set; (focus (walk_at "at"; done)); (focus (first | exact setL0 | exact setL1 | exact setL2 | assumption)); (focus (walk_at "at"; done))) | (apply xm_app; (focus (walk_at "at"; done)); (focus (first | assumption | omega | decide | (simp only [List.length_append, List.length_cons, List.length_nil]; omega))); (focus (walk_at "at"; done))) | (apply xm_put; (focus (walk_at "at"; done)); (focus omega); (focus (walk_at "at"; done))) | (apply xm_pop0; (focus (walk_at "at"; done)); (focus (walk_at "at"; done))) | (apply xm_pop; (focus (walk_at "at"; done)); (focus (walk_at "at"; done))))))
local macro_rules | `(tactic| walk_at "1") => `(tactic| with_reducible ((show XRt _ _ _); (first | refine xrt_t ?_ | (apply xrt_s; (focus (walk_at "at"; done))) | (apply xrt_pl; (focus (walk_at "at"; done))) | (apply xrt_l; (focus (walk_at "at"; done)); (focus (walk_at "at"; done))) | (apply xrt_k; (focus (walk_at "at"; done)); (focus (walk_at "at"; done))) | (apply xrt_pk; (focus (walk_at "at"; done))))))
local macro_rules | `(tactic| walk_at "1") => `(tactic| with_reducible ((show XI _ _ _); (first | refine xi_r1' ?_ | refine xi_r2' ?_ | refine xi_seq' ?_)))
local macro_rules | `(tactic| walk_at "1") => `(tactic| with_reducible ((show XP _ _ _); (first | refine xp_no ?_ | refine xp_some ?_)))
local macro_rules | `(tactic| walk_at "1") => `(tactic| with_reducible ((show seqQ _ _ _); (first | refine seq_nx ?_ | refine seq_rt ?_ | refine seq_bk ?_ | refine seq_ct ?_)))
local macro_rules | `(tactic| walk_at "1") => `(tactic| with_reducible ((show XW _ _ _ _); (first | (apply xw_t; (focus (walk_at "at"; done))) | refine xw_v ?_)))
local macro_rules | `(tactic| walk_at "1") => `(tactic| with_reducible ((show XT _ _ _); (first | refine xt_s ?_ | refine xt_l ?_ | refine xt_k ?_ | (apply xt_vs; (focus (walk_at "at"; done))) | (apply xt_vl; (focus (walk_at "at"; done))) | (apply xt_vk; (focus (walk_at "at"; done))))))
local macro_rules | `(tactic| walk_at "1") => `(tactic| with_reducible ((show XD _ _ _); (first | refine xd ?_)))
local macro_rules | `(tactic| walk_at "1") => `(tactic| with_reducible ((show TF _ _ _); (first | refine tf_t ?_ | refine tf_f ?_)))
local macro_rules | `(tactic| walk_at "1") => `(tactic| with_reducible ((show XHs _ _ _); (first | refine xhs_nil ?_ | refine xhs_cons ?_)))
local macro_rules | `(tactic| walk_at "1") => `(tactic| with_reducible ((show XDs _ _ _); (first | refine xds_nil ?_ | refine xds_cons ?_)))
local macro_rules | `(tactic| walk_at "1") => `(tactic| with_reducible ((show XB _ _ _); (first | refine xb_and' ?_ | refine xb_or' ?_ | refine xb_not ?_ | refine xb_val ?_ | refine xb_tru ?_ | refine xb_yes ?_)))
local macro_rules | `(tactic| walk_at "1") => `(tactic| with_reducible ((show XS _ _ _); (first | refine xs_seq' ?_ | refine xs_nil ?_ | refine xs_set' ?_ | refine xs_asg ?_ | refine xs_par2 ?_ | refine xs_drop ?_ | refine xs_ret' ?_ | refine xs_retN ?_ | refine xs_if' ?_ | refine xs_brk ?_ | refine xs_cont ?_ | refine xs_for' ?_ | (refine xs_setIx2 ?_) | (apply xs_augIx'L; (focus (walk_at "at"; done))) | (apply xs_aug'; (focus (walk_at "at"; done))) | refine xs_setDx ?_ | refine xs_par3 ?_)))
local macro_rules | `(tactic| walk_at "1") => `(tactic| with_reducible ((show XE _ _ _); (first | (apply xv; (focus (walk_at "at"; done))) | refine xe_c ?_ | refine xe_bin ?_ | refine xe_un ?_ | refine xe_if' ?_ | refine xe_B ?_ | refine xe_callB ?_ | refine xe_tup ?_ | refine xe_lst ?_ | refine xe_sl ?_ | (apply xe_mt'L; (focus (walk_at "at"; done))) | refine xe_lc' ?_ | (refine xe_call' ?_) | refine xe_o ?_ | refine xe_get2 ?_ | refine xe_get1 ?_ | refine xe_disp ?_ | refine xe_join ?_ | refine xe_lc2 ?_ | refine xe_sidx ?_)))
local macro_rules | `(tactic| walk_at "1") => `(tactic| with_reducible ((show XO _ _); (walk_at "op")))
local macro_rules | `(tactic| walk_at "at") => `(tactic| with_reducible first | ((repeat (apply At.s)); (exact At.z)) | ((repeat (apply Put.s)); (first | exact Put.n | exact Put.z | exact Put.f (by assumption))) | ((repeat (apply Chg.s)); (exact Chg.z)) | ((repeat (apply SetAt.s)); (exact SetAt.z)) | ((repeat (apply Slt.s)); (exact Slt.z)) | ((repeat (apply Fin'.s)); (exact Fin'.z)) | ((repeat (first | apply Ini.shr | apply Ini.n | apply Ini.ol | apply Ini.od)); (exact Ini.z)) | exact Wb.nil)
-- END MACRO
/-! ### lists by their end -/
theorem at_m1 {α : Type} {xs : List α} {x : α} : atI (xs ++ [x]) (-1) = some x := by
  unfold atI ixN
  rw [if_neg (by decide), if_pos (by simp; omega), Option.bind_some]
  have : ((-1 : Int) + ((xs ++ [x]).length : Nat)).toNat = xs.length := by simp; omega
  rw [this]; simp
theorem at_m1' {α : Type} {xs : List α} {x y : α} : atI (xs ++ [x, y]) (-1) = some y := by
  have : xs ++ [x, y] = (xs ++ [x]) ++ [y] := by simp
  rw [this]; exact at_m1
theorem at_m2 {α : Type} {xs : List α} {x y : α} : atI (xs ++ [x, y]) (-2) = some x := by
  unfold atI ixN
  rw [if_neg (by decide), if_pos (by simp; omega), Option.bind_some]
  have : ((-2 : Int) + ((xs ++ [x, y]).length : Nat)).toNat = xs.length := by simp; omega
  rw [this]; simp
theorem cut_from {ps : List D} {k : Nat} : cutD ps (some (k : Int)) none = ps.drop k := by
  unfold cutD
  rw [HT.sIx_none, HT.sIx_nat]
  by_cases h : k ≤ ps.length
  · rw [Nat.min_eq_left h, List.take_of_length_le (by simp)]
  · rw [Nat.min_eq_right (by omega), Nat.sub_self, List.take_zero, List.drop_eq_nil_of_le (by omega)]
theorem cutF {xs ys ds : List D} {m : Int} (h : ds = xs ++ ys) (hm : m = ys.length) : cutD ds (some ((ds.length : Int) - m)) none = ys := by
  have e : (ds.length : Int) - m = (xs.length : Nat) := by subst h hm; rw [List.length_append]; omega
  rw [e, cut_from, h, List.drop_left]
theorem cutT {xs ys ds : List D} {m : Int} (h : ds = xs ++ ys) (hm : m = ys.length) : cutD ds none (some ((ds.length : Int) - m)) = xs := by
  have e : (ds.length : Int) - m = (xs.length : Nat) := by subst h hm; rw [List.length_append]; omega
  rw [e, cut_take, h, List.take_left]
theorem xo_allB {bs : List Bool} {Q : O → Prop} (q : Q (.shr (.bl (bs.all id)))) : XO (oAll [.ol (bs.map D.bl)]) Q := by
  refine xo_all (ds := bs.map D.bl) (ns := bs) rfl ?_ q
  clear q
  induction bs with
  | nil => rfl
  | cons b r ih => rw [List.map_cons, asBls, ih]; rfl
theorem xo_all1 {b : Bool} {Q : O → Prop} (q : Q (.shr (.bl b))) : XO (oAll [.ol [.bl b]]) Q := xo_allB (bs := [b]) (by simpa using q)
theorem xo_all2 {a b : Bool} {Q : O → Prop} (q : Q (.shr (.bl (a && b)))) : XO (oAll [.ol [.bl a, .bl b]]) Q := xo_allB (bs := [a, b]) (by simpa using q)
local macro_rules | `(tactic| walk_at "law") => `(tactic| repeat' (first | walk_at "1" | ((with_reducible refine lend_ok ?_ ?_); (focus rfl)) | ((with_reducible apply wbx); (focus (walk_at "wb"; done)); (focus rfl)) | walk_at "tf" | walk_at "isi" | with_reducible refine xo_all1 ?_ | with_reducible refine xo_all2 ?_ | walk_at "both"))
/-! ### is_pushed -/
theorem x_pushed0 {ds : List D} {m : Int} (h : (ds.length : Int) < m) {Q : Rs → List O → Prop} (q : Q (.o (.shr (.bl false))) [.ol ds, .shr (.int m)]) : XF F_is_pushed [.ol ds, .shr (.int m)] Q := by
  refine xf' rfl (by walk_at "at") ?_
  unfold f_is_pushed
  walk_at "law"
  exact q
theorem x_pushed1 {xs : List D} {x : Wd} {Q : Rs → List O → Prop} (q : Q (.o (.shr (.bl (decide (x.k.str = Str.ofString "push"))))) [.ol (xs ++ [x.d]), .shr (.int 1)]) : XF F_is_pushed [.ol (xs ++ [x.d]), .shr (.int 1)] Q := by
  refine xf' rfl (by walk_at "at") ?_
  unfold f_is_pushed
  have hl : (1 : Int) ≤ ((xs ++ [x.d]).length : Int) := by simp; omega
  generalize hz : xs ++ [x.d] = ds at q hl ⊢
  walk_at "law"
  rw [cutF (m := 1) (xs := xs) (ys := [x.d]) hz.symm rfl]
  walk_at "law"
  unfold Wd.d
  walk_at "law"
  refine acc_q (by simp) (by walk_at "at") ?_
  walk_at "law"
  refine ⟨_, by walk_at "at", ?_⟩
  walk_at "law"
  refine xo_all1 ?_
  walk_at "law"
  exact q
theorem x_pushed2 {xs : List D} {x y : Wd} {Q : Rs → List O → Prop} (q : Q (.o (.shr (.bl (decide (x.k.str = Str.ofString "push") && decide (y.k.str = Str.ofString "push"))))) [.ol (xs ++ [x.d, y.d]), .shr (.int 2)]) : XF F_is_pushed [.ol (xs ++ [x.d, y.d]), .shr (.int 2)] Q := by
  refine xf' rfl (by walk_at "at") ?_
  unfold f_is_pushed
  have hl : (2 : Int) ≤ ((xs ++ [x.d, y.d]).length : Int) := by simp; omega
  generalize hz : xs ++ [x.d, y.d] = ds at q hl ⊢
  walk_at "law"
  rw [cutF (m := 2) (xs := xs) (ys := [x.d, y.d]) hz.symm rfl]
  walk_at "law"
  unfold Wd.d
  walk_at "law"
  refine acc_q (by simp) (by walk_at "at") ?_
  walk_at "law"
  refine acc_q (by simp) (by walk_at "at") ?_
  walk_at "law"
  refine ⟨_, by walk_at "at", ?_⟩
  walk_at "law"
  refine xo_all2 ?_
  walk_at "law"
  exact q
end K50

set_option maxRecDepth 100000
set_option maxHeartbeats 4000000
namespace K50
open PV PySem L2
local macro_rules | `(tactic| walk_at "all") => `(tactic| repeat' (first | walk_at "1" | ((with_reducible refine lend_ok ?_ ?_); (focus rfl)) | ((with_reducible apply wbx); (focus (walk_at "wb"; done)); (focus rfl)) | walk_at "tf" | walk_at "isi" | walk_at "both" | with_reducible refine ixL3 (by omega) (by omega) ?_ ?_ ?_))
local macro_rules | `(tactic| walk_at "run") => `(tactic| repeat (first | walk_at "1" | ((with_reducible refine lend_ok ?_ ?_); (focus rfl)) | ((with_reducible apply wbx); (focus (walk_at "wb"; done)); (focus rfl)) | walk_at "tf" | walk_at "isi"))
local macro_rules | `(tactic| walk_at "isi") => `(tactic| ((with_reducible show XO (oIsi _) _); first
  | refine isiT (c := .bool) rfl rfl rfl ?_ | refine isiF (c := .bool) rfl rfl rfl ?_ | refine isiT (c := .int) rfl rfl rfl ?_ | refine isiF (c := .int) rfl rfl rfl ?_ | refine isiT (c := .str) rfl rfl rfl ?_ | refine isiF (c := .str) rfl rfl rfl ?_
  | refine isiT (c := .dict) rfl rfl rfl ?_ | refine isiF (c := .dict) rfl rfl rfl ?_ | refine isiT (c := .tuple) rfl rfl rfl ?_ | refine isiF (c := .tuple) rfl rfl rfl ?_ | refine isiT (c := .list) rfl rfl rfl ?_ | refine isiF (c := .list) rfl rfl rfl ?_))
local macro_rules | `(tactic| walk_at "both") => `(tactic| with_reducible first | refine tf_d (fun _ => ?_) fun _ => ?_ | refine tf_nd (fun _ => ?_) fun _ => ?_ | refine tf_b (fun _ => ?_) fun _ => ?_)
local macro_rules | `(tactic| walk_at "tf") => `(tactic| with_reducible first | refine tf_T (by decide +kernel) ?_ | refine tf_F (by decide +kernel) ?_ | refine tf_T (decide_eq_true (by omega)) ?_ | refine tf_T (decide_eq_true (by simp only [List.length_cons]; omega)) ?_ | refine tf_F (decide_eq_false (by omega)) ?_ | refine tf_F (decide_eq_false (by assumption)) ?_ | refine tf_T (decide_eq_true (by assumption)) ?_ | refine tf_T (nd_T (by omega)) ?_ | refine tf_F (nd_F (by omega)) ?_ | refine tf_T (nd_T (by assumption)) ?_ | refine tf_F (nd_F (by assumption)) ?_)
local macro_rules | `(tactic| walk_at "wb") => `(tactic| (repeat (first | exact Wb.nil | apply Wb.tmp | apply Wb.shr | (apply Wb.ol'; (focus rfl)) | (apply Wb.od'; (focus rfl)) | (exact Chg.z) | apply Chg.s)))
local macro_rules | `(tactic| walk_at "op") => `(tactic| with_reducible first | refine xal ?_ | refine xals ?_ | (apply xat; (focus (first | exact at0 | exact at1 | exact at2 | assumption))) | refine trI ?_ | refine trB ?_ | refine trN ?_ | refine trL ?_ | refine trLs ?_)
local macro_rules | `(tactic| walk_at "op") => `(tactic| with_reducible first | refine xo_minN ?_ | refine xo_max ?_ | refine xo_min ?_ | (apply strI; (focus omega)) | (apply xo_addN; (focus decide +kernel); (focus omega)) | (apply xo_addS; (focus decide +kernel)) | (apply xo_addT; (focus (refine ⟨List.cons_ne_nil _ _, List.cons_ne_nil _ _, ?_⟩; simp only [List.length_cons, List.length_nil]; omega))) | refine xai ?_ | refine xab ?_)
local macro_rules | `(tactic| walk_at "op") => `(tactic| with_reducible first | refine lsL ?_ | refine lsLs ?_ | refine lsT ?_ | refine slL ?_ | refine slLs ?_ | refine xo_intI ?_ | refine xo_abs ?_ | refine xo_maxN ?_ | refine xo_max1 ?_)
local macro_rules | `(tactic| walk_at "op") => `(tactic| with_reducible first | (apply ixLs; (focus (first | exact at0 | exact at1 | exact at2 | assumption))) | (apply ixT; (focus (first | exact at0 | exact at1 | exact at2 | assumption))) | refine lnL ?_ | refine lnLs ?_ | refine lnT ?_ | refine lnSc ?_ | refine slSc ?_ | (apply ixSc; (focus (first | exact at0 | exact at1 | exact at2 | assumption))) | (apply xo_sumL rfl))
local macro_rules | `(tactic| walk_at "op") => `(tactic| with_reducible first | refine isN2 ?_ | refine isN3 ?_ | refine isN4 ?_ | refine isN5 ?_ | refine noN ?_ | refine noN0 ?_ | refine noN1 ?_ | refine noN2 ?_ | (apply ixL; (focus (first | exact at0 | exact at1 | exact at2 | assumption))))
local macro_rules | `(tactic| walk_at "op") => `(tactic| with_reducible first | refine xo_ge ?_ | refine xo_neg ?_ | refine eqI ?_ | refine neI ?_ | refine eqSt ?_ | refine neSt ?_ | refine isN ?_ | refine isN0 ?_ | refine isN1 ?_)
local macro_rules | `(tactic| walk_at "op") => `(tactic| with_reducible first | refine xo_sub ?_ | (apply xo_mul; (focus (first | exact mulR (by decide) | exact mulL (by decide) | exact mulR (by omega) | exact mulL (by omega) | exact mulW (by decide +kernel)))) | (apply xo_div; (focus (first | exact divK (by decide) | exact divK (by omega)))) | (apply xo_modP; (focus (first | decide | omega | decide +kernel)); intro _ _ _) | (apply xo_mod; (focus (first | decide | omega | decide +kernel))) | (apply xo_pow; focus exact powK (by decide)) | refine xo_lt ?_ | refine xo_le ?_ | refine xo_gt ?_)
local macro_rules | `(tactic| walk_at "op") => `(tactic| with_reducible first | refine xo_neD ?_ | refine xo_eqD ?_ | refine xas ?_ | refine xo_strAS ?_ | refine xo_inStr ?_ | refine xo_notInStr ?_ | refine xo_inG ?_ | refine xo_addI ?_ | refine xo_addI' ?_)
local macro_rules | `(tactic| walk_at "op") => `(tactic| with_reducible first | (apply xp_g; (focus (walk_at "at"; done))) | refine xr_o ?_ | refine ak_o ?_ | refine ak_s ?_ | refine ko_s ?_ | refine ko_i ?_ | refine xo_dget ?_ | refine xo_din ?_ | refine xo_dict ?_)
local macro_rules | `(tactic| walk_at "op") => `(tactic| with_reducible first | (apply xg_v; (focus (walk_at "at"; done))) | refine xg_t ?_ | refine xh_nil ?_ | (apply xh_v; (focus (walk_at "at"; done))) | refine xh_t ?_ | (refine xg_T rfl ?_) | refine xg_nil ?_ | refine xg_cons ?_ | (apply xw_s; (focus (walk_at "at"; done))))
local macro_rules | `(tactic| walk_at "1") => `(tactic| with_reducible first | refine par2 ?_ | refine lenAnd (by simp only [List.length_cons, List.length_nil]; omega) ?_ | (apply r1N; (focus omega)) | (apply r2S; (focus omega)) | (apply r1; (focus omega)) | (apply r2; (focus omega)) | refine xl_nil' ?_ | (apply def_rt; (focus (walk_at "at"; done))) | (apply def_nx; (focus (walk_at "at"; done))))
local macro_rules | `(tactic| walk_at "1") => `(tactic| with_reducible first | (apply xsi; (focus (walk_at "at"; done))) | refine ex_shr ?_ | refine len15 (by simp only [List.length_cons, List.length_nil]; omega) ?_ | (apply xsd; (focus (walk_at "at"; done))) | refine par3 ?_ | (apply acc2; (focus (first | omega | (simp only [List.length_cons, List.length_nil, List.length_append]; omega))); (focus (walk_at "at"; done)); (focus (walk_at "at"; done))))
local macro_rules | `(tactic| walk_at "1") => `(tactic| with_reducible ((show XPs _ _ _); (first | refine xps_nil ?_ | refine xps_cons ?_)))
local macro_rules | `(tactic| walk_at "1") => `(tactic| with_reducible ((show XLk _ _ _); (first | refine xlk_t ?_ | (apply xlk_s; (focus (walk_at "at"; done))) | (apply xlk_l; (focus (walk_at "at"; done))))))
local macro_rules | `(tactic| walk_at "1") => `(tactic| with_reducible ((show XJ _ _); (first | refine xj_l ?_ | refine xj_ls ?_ | refine xj_t ?_ | refine xj_s ?_)))
local macro_rules | `(tactic| walk_at "1") => `(tactic| with_reducible ((show lcQ2 _ _ _ _ _ _ _ _); (first | (apply lc2_n; (focus (walk_at "at"; done)); (focus (walk_at "at"; done)); (focus (walk_at "at"; done)); (focus (walk_at "at"; done))) | (apply lc2_l; (focus (walk_at "at"; done)); (focus (walk_at "at"; done)); (focus (walk_at "at"; done)); (focus (walk_at "at"; done)); (focus (walk_at "at"; done))))))
local macro_rules | `(tactic| walk_at "1") => `(tactic| with_reducible ((show lcQ _ _ _ _ _ _ _ _); (first | (apply lc_n; (focus (walk_at "at"; done)); (focus (walk_at "at"; done))) | (apply lc_l; (focus (walk_at "at"; done)); (focus (walk_at "at"; done)); (focus (walk_at "at"; done))))))
local macro_rules | `(tactic| walk_at "1") => `(tactic| with_reducible ((show forQ _ _ _ _ _ _); (first | refine for_n ?_ | (apply for_l; (focus (walk_at "at"; done))))))
local macro_rules | `(tactic| walk_at "1") => `(tactic| with_reducible ((show unlQ _ _ _); (first | refine unl_n ?_ | (apply unl_nx; (focus (walk_at "at"; done))) | refine unl_rt ?_)))
local macro_rules | `(tactic| walk_at "1") => `(tactic| with_reducible ((show turnQ _ _ _); (first | refine turn_nx ?_ | refine turn_ct ?_ | refine turn_bk ?_ | refine turn_rt ?_)))
local macro_rules | `(tactic| walk_at "1") => `(tactic| with_reducible ((show XC _ _ _ _ _ _ _ _); (first | refine xc_nil' ?_ | refine xc2_nil ?_ | refine xc2_cons ?_ | refine xc_yes1 ?_)))
local macro_rules | `(tactic| walk_at "1") => `(tactic| with_reducible ((show XM _ _ _ _); (first | (apply xm_set; (focus (walk_at "at"; done)); (focus (first | exact setL0 | exact setL1 | exact setL2 | assumption)); (focus (walk_at "at"; done))) | (apply xm_app; (focus (walk_at "at"; done)); (focus (first | assumption | omega | decide | (simp only [List.length_append, List.length_cons, List.length_nil]; omega))); (focus (walk_at "at"; done))) | (apply xm_put; (focus (walk_at "at"; done)); (focus omega); (focus (walk_at "at"; done))) | (apply xm_pop0; (focus (walk_at "at"; done)); (focus (walk_at "at"; done))) | (apply xm_pop; (focus (walk_at "at"; done)); (focus (walk_at "at"; done))))))
local macro_rules | `(tactic| walk_at "1") => `(tactic| with_reducible ((show XRt _ _ _); (first | refine xrt_t ?_ | (apply xrt_s; (focus (walk_at "at"; done))) | (apply xrt_pl; (focus (walk_at "at"; done))) | (apply xrt_l; (focus (walk_at "at"; done)); (focus (walk_at "at"; done))) | (apply xrt_k; (focus (walk_at "at"; done)); (focus (walk_at "at"; done))) | (apply xrt_pk; (focus (walk_at "at"; done))))))
local macro_rules | `(tactic| walk_at "1") => `(tactic| with_reducible ((show XI _ _ _); (first | refine xi_r1' ?_ | refine xi_r2' ?_ | refine xi_seq' ?_)))
local macro_rules | `(tactic| walk_at "1") => `(tactic| with_reducible ((show XP _ _ _); (first | refine xp_no ?_ | refine xp_some ?_)))
local macro_rules | `(tactic| walk_at "1") => `(tactic| with_reducible ((show seqQ _ _ _); (first | refine seq_nx ?_ | refine seq_rt ?_ | refine seq_bk ?_ | refine seq_ct ?_)))
local macro_rules | `(tactic| walk_at "1") => `(tactic| with_reducible ((show XW _ _ _ _); (first | (apply xw_t; (focus (walk_at "at"; done))) | refine xw_v ?_)))
local macro_rules | `(tactic| walk_at "1") => `(tactic| with_reducible ((show XT _ _ _); (first | refine xt_s ?_ | refine xt_l ?_ | refine xt_k ?_ | (apply xt_vs; (focus (walk_at "at"; done))) | (apply xt_vl; (focus (walk_at "at"; done))) | (apply xt_vk; (focus (walk_at "at"; done))))))
local macro_rules | `(tactic| walk_at "1") => `(tactic| with_reducible ((show XD _ _ _); (first | refine xd ?_)))
local macro_rules | `(tactic| walk_at "1") => `(tactic| with_reducible ((show TF _ _ _); (first | refine tf_t ?_ | refine tf_f ?_)))
local macro_rules | `(tactic| walk_at "1") => `(tactic| with_reducible ((show XHs _ _ _); (first | refine xhs_nil ?_ | refine xhs_cons ?_)))
local macro_rules | `(tactic| walk_at "1") => `(tactic| with_reducible ((show XDs _ _ _); (first | refine xds_nil ?_ | refine xds_cons ?_)))
local macro_rules | `(tactic| walk_at "1") => `(tactic| with_reducible ((show XB _ _ _); (first | refine xb_and' ?_ | refine xb_or' ?_ | refine xb_not ?_ | refine xb_val ?_ | refine xb_tru ?_ | refine xb_yes ?_)))
local macro_rules | `(tactic| walk_at "1") => `(tactic| with_reducible ((show XS _ _ _); (first | refine xs_seq' ?_ | refine xs_nil ?_ | refine xs_set' ?_ | refine xs_asg ?_ | refine xs_par2 ?_ | refine xs_drop ?_ | refine xs_ret' ?_ | refine xs_retN ?_ | refine xs_if' ?_ | refine xs_brk ?_ | refine xs_cont ?_ | refine xs_for' ?_ | (refine xs_setIx2 ?_) | (apply xs_augIx'L; (focus (walk_at "at"; done))) | (apply xs_aug'; (focus (walk_at "at"; done))) | refine xs_setDx ?_ | refine xs_par3 ?_)))
local macro_rules | `(tactic| walk_at "1") => `(tactic| with_reducible ((show XE _ _ _); (first | (apply xv; (focus (walk_at "at"; done))) | refine xe_c ?_ | refine xe_bin ?_ | refine xe_un ?_ | refine xe_if' ?_ | refine xe_B ?_ | refine xe_callB ?_ | refine xe_tup ?_ | refine xe_lst ?_ | refine xe_sl ?_ | (apply xe_mt'L; (focus (walk_at "at"; done))) | refine xe_lc' ?_ | (refine xe_call' ?_) | refine xe_o ?_ | refine xe_get2 ?_ | refine xe_get1 ?_ | refine xe_disp ?_ | refine xe_join ?_ | refine xe_lc2 ?_ | refine xe_sidx ?_)))
local macro_rules | `(tactic| walk_at "1") => `(tactic| with_reducible ((show XO _ _); (walk_at "op")))
local macro_rules | `(tactic| walk_at "at") => `(tactic| with_reducible first | ((repeat (apply At.s)); (exact At.z)) | ((repeat (apply Put.s)); (first | exact Put.n | exact Put.z | exact Put.f (by assumption))) | ((repeat (apply Chg.s)); (exact Chg.z)) | ((repeat (apply SetAt.s)); (exact SetAt.z)) | ((repeat (apply Slt.s)); (exact Slt.z)) | ((repeat (apply Fin'.s)); (exact Fin'.z)) | ((repeat (first | apply Ini.shr | apply Ini.n | apply Ini.ol | apply Ini.od)); (exact Ini.z)) | exact Wb.nil)
-- END MACRO
/-! ### fold_words -/
theorem lk (o : Op) : T_OP_SIGNS.lookup o.nam = some o.str := by cases o <;> decide +kernel
theorem nam_neg (o : Op) : ¬ o.nam = Str.ofString "neg" := by cases o <;> decide +kernel
theorem oth_neg (o : Oth) : ¬ o.str = Str.ofString "neg" := by cases o <;> decide +kernel
theorem oth_lk (o : Oth) : (T_OP_SIGNS.lookup o.str).isSome = false := by cases o <;> decide +kernel
theorem lkS (o : Op) : (T_OP_SIGNS.lookup o.nam).isSome = true := by rw [lk]; rfl
theorem nam_push (o : Op) : decide (o.nam = Str.ofString "push") = false := by cases o <;> decide +kernel
theorem oth_push (o : Oth) : decide (o.str = Str.ofString "push") = false := by cases o <;> decide +kernel
def isP (w : Wd) : Bool := match w.k with
  | .push _ => true
  | _ => false
theorem isP_str (w : Wd) : decide (w.k.str = Str.ofString "push") = isP w := by
  obtain ⟨k, a, b⟩ := w
  cases k with
  | push n => exact decide_eq_true rfl
  | get s => show decide (Str.ofString "get" = Str.ofString "push") = false; decide +kernel
  | neg => show decide (Str.ofString "neg" = Str.ofString "push") = false; decide +kernel
  | op o => exact nam_push o
  | oth x d => exact oth_push x
theorem isP_T {w : Wd} (h : isP w = true) : ∃ n a b, w = ⟨.push n, a, b⟩ := by
  obtain ⟨k, a, b⟩ := w
  cases k with
  | push n => exact ⟨n, a, b, rfl⟩
  | _ => cases h
theorem isP_F {w : Wd} (h : isP w = false) : NoP w := by
  obtain ⟨k, a, b⟩ := w
  cases k with
  | push n => cases h
  | _ => intro n z; cases z
theorem x_p1 {xs : List D} {x : Wd} {c : Bool} (h : isP x = c) {Q : Rs → List O → Prop} (q : Q (.o (.shr (.bl c))) [.ol (xs ++ [x.d]), .shr (.int 1)]) : XF F_is_pushed [.ol (xs ++ [x.d]), .shr (.int 1)] Q :=
  x_pushed1 (by rw [isP_str, h]; exact q)
theorem x_p2 {xs : List D} {x y : Wd} {c : Bool} (h : (isP x && isP y) = c) {Q : Rs → List O → Prop} (q : Q (.o (.shr (.bl c))) [.ol (xs ++ [x.d, y.d]), .shr (.int 2)]) : XF F_is_pushed [.ol (xs ++ [x.d, y.d]), .shr (.int 2)] Q :=
  x_pushed2 (by rw [isP_str, isP_str, h]; exact q)
def dl (acc : List Wd) : List D := acc.reverse.map Wd.d
theorem dl_cons (x : Wd) (r : List Wd) : dl (x :: r) = dl r ++ [x.d] := by simp [dl]
theorem dl_cons2 (x y : Wd) (r : List Wd) : dl (y :: x :: r) = dl r ++ [x.d, y.d] := by simp [dl]
theorem dl_len (r : List Wd) : (dl r).length = r.length := by simp [dl]
theorem ixm1 {xs : List D} {x : D} {Q : O → Prop} (q : Q (.shr x)) : XO (oIx (.ol (xs ++ [x])) (.shr (.int (-1)))) Q := ixL at_m1 q
theorem ixm1' {xs : List D} {x y : D} {Q : O → Prop} (q : Q (.shr y)) : XO (oIx (.ol (xs ++ [x, y])) (.shr (.int (-1)))) Q := ixL at_m1' q
theorem ixm2 {xs : List D} {x y : D} {Q : O → Prop} (q : Q (.shr x)) : XO (oIx (.ol (xs ++ [x, y])) (.shr (.int (-2)))) Q := ixL at_m2 q
theorem at3 {α : Type} {a b c d : α} {xs : List α} : atI (a :: b :: c :: d :: xs) 3 = some d := at_of (k := 3) rfl
local macro_rules | `(tactic| walk_at "law") => `(tactic| repeat' (first | walk_at "1" | ((with_reducible refine lend_ok ?_ ?_); (focus rfl)) | ((with_reducible apply wbx); (focus (walk_at "wb"; done)); (focus rfl)) | walk_at "tf" | walk_at "isi" | with_reducible refine tf_T (lkS _) ?_ | with_reducible refine tf_F (oth_lk _) ?_ | with_reducible refine tf_F (decide_eq_false (nam_neg _)) ?_ | with_reducible refine tf_F (decide_eq_false (oth_neg _)) ?_ | with_reducible refine ixm1 ?_ | with_reducible refine ixm1' ?_ | with_reducible refine ixm2 ?_ | with_reducible refine x_checked ?_ | with_reducible refine x_apply (by assumption) (by assumption) ?_ | with_reducible refine xo_ixG (lk _) ?_ | (with_reducible apply ixT; (focus exact at3)) | walk_at "both"))
def JF (ws : List Wd) (k : Nat) (e : Sto) : Prop := ∃ x2 x3 x4 x5 x6 x7, Fre' x2 ∧ Fre' x3 ∧ Fre' x4 ∧ Fre' x5 ∧ Fre' x6 ∧ Fre' x7 ∧ e = [some ⟨.ol (ws.map Wd.d), true, true⟩, some ⟨.ol (dl ((ws.take k).foldl step [])), false, false⟩, x2, x3, x4, x5, x6, x7]
theorem jf_next {ws : List Wd} {k : Nat} (hk : k < ws.length) {w : Wd} (hw : ws[k] = w) {acc : List Wd} (ha : (ws.take k).foldl step [] = acc) {y : List D} {x2 x3 x4 x5 x6 x7 : Option Slot} (f2 : Fre' x2) (f3 : Fre' x3) (f4 : Fre' x4) (f5 : Fre' x5) (f6 : Fre' x6) (f7 : Fre' x7) (hy : y = dl (step acc w)) :
    JF ws (k + 1) [some ⟨.ol (ws.map Wd.d), true, true⟩, some ⟨.ol y, false, false⟩, x2, x3, x4, x5, x6, x7] := by
  refine ⟨x2, x3, x4, x5, x6, x7, f2, f3, f4, f5, f6, f7, ?_⟩
  rw [List.take_succ_eq_append_getElem hk, List.foldl_append, ha, hw, hy]
  rfl
theorem x_fold {ws : List Wd} (hs : ∀ w ∈ ws, w.sm) (hl : ws.length ≤ 1000) {Q : Rs → List O → Prop} (q : Q (.o (.ol (dl (fold ws)))) [.ol (ws.map Wd.d)]) : XF F_fold_words [.ol (ws.map Wd.d)] Q := by
  refine xf' rfl (by walk_at "at") ?_
  unfold f_fold_words
  walk_at "law"
  refine xl_ix' (JF ws) ⟨none, none, none, none, none, none, .n, .n, .n, .n, .n, .n, rfl⟩ ?_ ?_
  · rintro e ⟨x2, x3, x4, x5, x6, x7, f2, f3, f4, f5, f6, f7, rfl⟩
    rw [List.length_map, List.take_length]
    walk_at "law"
    exact q
  · rintro k e hk ⟨x2, x3, x4, x5, x6, x7, f2, f3, f4, f5, f6, f7, rfl⟩
    rw [List.getElem_map]
    rw [List.length_map] at hk
    have hsm : ∀ x ∈ (ws.take k).foldl step [], x.sm := fold_sm _ _ (fun x hx => nomatch hx) fun x hx => hs x (List.mem_of_mem_take hx)
    have hlen := fold_len (ws.take k) []
    rw [List.length_take] at hlen
    have hw := fun y x2 x3 x4 x5 x6 x7 => @jf_next ws k hk ws[k] rfl _ rfl y x2 x3 x4 x5 x6 x7
    generalize (ws.take k).foldl step [] = acc at hsm hlen hw ⊢
    have hla : acc.length ≤ 1000 := by simp at hlen; omega
    have hwm := hs _ (List.getElem_mem hk)
    generalize ws[k] = w at hw hwm ⊢
    obtain ⟨kd, a, b⟩ := w
    have hla2 := dl_len acc
    cases kd with
    | push n =>
      simp only [Wd.d, Kd.str, Kd.arg]
      walk_at "law"
      exact hw _ _ _ _ _ _ _ .s .s .s .s .s .s (by unfold step; rw [dl_cons]; rfl)
    | get n =>
      simp only [Wd.d, Kd.str, Kd.arg]
      walk_at "law"
      exact hw _ _ _ _ _ _ _ .s .s .s .s .s .s (by unfold step; rw [dl_cons]; rfl)
    | oth n d =>
      simp only [Wd.d, Kd.str, Kd.arg]
      walk_at "law"
      exact hw _ _ _ _ _ _ _ .s .s .s .s .s .s (by unfold step; rw [dl_cons]; rfl)
    | neg =>
      simp only [Wd.d, Kd.str, Kd.arg]
      cases acc with
      | nil =>
        walk_at "law"
        refine x_pushed0 (by simp [dl]) ?_
        walk_at "law"
        exact hw _ _ _ _ _ _ _ .s .s .s .s .s .s (by unfold step; rfl)
      | cons x r =>
        rw [dl_cons] at hla2 ⊢
        have hlr : (dl r).length ≤ 1000 := by rw [dl_len]; simp at hla; omega
        walk_at "law"
        cases hp : isP x with
        | true =>
          refine x_p1 hp ?_
          walk_at "law"
          obtain ⟨n, xa, xb, rfl⟩ := isP_T hp
          have sn : Sm n := hsm _ (List.mem_cons_self ..)
          have hc := chk_ok sn.neg
          simp only [Wd.d, Kd.str, Kd.arg]
          walk_at "law"
          rw [hc]
          walk_at "law"
          simp only [wD]
          walk_at "law"
          rw [cutT (m := 1) (xs := dl r) rfl rfl]
          refine xo_addL (by simp; omega) ?_
          walk_at "law"
          exact hw _ _ _ _ _ _ _ .s .s .s .s .s .s (by unfold step; dsimp only; rw [hc, dl_cons]; rfl)
        | false =>
          refine x_p1 hp ?_
          walk_at "law"
          exact hw _ _ _ _ _ _ _ .s .s .s .s .s .s (by rw [step_neg_no (isP_F hp), dl_cons, dl_cons]; rfl)
    | op o =>
      simp only [Wd.d, Kd.str, Kd.arg]
      match acc, hsm, hlen, hw, hla, hla2 with
      | [], hsm, hlen, hw, hla, hla2 =>
        walk_at "law"
        refine x_pushed0 (by simp [dl]) ?_
        walk_at "law"
        exact hw _ _ _ _ _ _ _ .s .s .s .s .s .s rfl
      | [x], hsm, hlen, hw, hla, hla2 =>
        walk_at "law"
        refine x_pushed0 (by simp [dl]) ?_
        walk_at "law"
        exact hw _ _ _ _ _ _ _ .s .s .s .s .s .s (by
          obtain ⟨k, xa, xb⟩ := x
          cases k <;> rfl)
      | y :: x :: r, hsm, hlen, hw, hla, hla2 =>
        rw [dl_cons2] at hla2 ⊢
        have hlr : (dl r).length ≤ 1000 := by rw [dl_len]; simp at hla; omega
        walk_at "law"
        cases hp : isP x && isP y with
        | true =>
          refine x_p2 hp ?_
          walk_at "law"
          rw [Bool.and_eq_true] at hp
          obtain ⟨n, xa, xb, rfl⟩ := isP_T hp.1
          obtain ⟨m, ya, yb, rfl⟩ := isP_T hp.2
          have sm : Sm m := hsm _ (List.mem_cons_self ..)
          have sn : Sm n := hsm _ (List.mem_cons_of_mem _ (List.mem_cons_self ..))
          have bn := sn.bd
          have bm := sm.bd
          simp only [Wd.d, Kd.str, Kd.arg]
          walk_at "law"
          cases ha : ap o n m with
          | ok v =>
            walk_at "law"
            simp only [wD]
            walk_at "law"
            rw [cutT (m := 2) (xs := dl r) rfl rfl]
            refine xo_addL (by simp; omega) ?_
            walk_at "law"
            exact hw _ _ _ _ _ _ _ .s .s .s .s .s .s (by unfold step; dsimp only; rw [ha, dl_cons]; rfl)
          | zero =>
            walk_at "law"
            simp only [wD]
            walk_at "law"
            exact hw _ _ _ _ _ _ _ .s .s .s .s .s .s (by unfold step; dsimp only; rw [ha, dl_cons, dl_cons2]; rfl)
          | great =>
            walk_at "law"
            simp only [wD]
            walk_at "law"
            exact hw _ _ _ _ _ _ _ .s .s .s .s .s .s (by unfold step; dsimp only; rw [ha, dl_cons, dl_cons2]; rfl)
        | false =>
          refine x_p2 hp ?_
          walk_at "law"
          refine hw _ _ _ _ _ _ _ .s .s .s .s .s .s ?_
          rw [Bool.and_eq_false_iff] at hp
          rcases hp with hp | hp
          · rw [step_op_no2 (isP_F hp), dl_cons, dl_cons2]; rfl
          · rw [step_op_no1 (isP_F hp), dl_cons, dl_cons2]; rfl
end K50

set_option maxRecDepth 100000
set_option maxHeartbeats 4000000
namespace K50
open PV PySem L2
local macro_rules | `(tactic| walk_at "all") => `(tactic| repeat' (first | walk_at "1" | ((with_reducible refine lend_ok ?_ ?_); (focus rfl)) | ((with_reducible apply wbx); (focus (walk_at "wb"; done)); (focus rfl)) | walk_at "tf" | walk_at "isi" | walk_at "both" | with_reducible refine ixL3 (by omega) (by omega) ?_ ?_ ?_))
local macro_rules | `(tactic| walk_at "run") => `(tactic| repeat (first | walk_at "1" | ((with_reducible refine lend_ok ?_ ?_); (focus rfl)) | ((with_reducible apply wbx); (focus (walk_at "wb"; done)); (focus rfl)) | walk_at "tf" | walk_at "isi"))
local macro_rules | `(tactic| walk_at "isi") => `(tactic| ((with_reducible show XO (oIsi _) _); first
  | refine isiT (c := .bool) rfl rfl rfl ?_ | refine isiF (c := .bool) rfl rfl rfl ?_ | refine isiT (c := .int) rfl rfl rfl ?_ | refine isiF (c := .int) rfl rfl rfl ?_ | refine isiT (c := .str) rfl rfl rfl ?_ | refine isiF (c := .str) rfl rfl rfl ?_
  | refine isiT (c := .dict) rfl rfl rfl ?_ | refine isiF (c := .dict) rfl rfl rfl ?_ | refine isiT (c := .tuple) rfl rfl rfl ?_ | refine isiF (c := .tuple) rfl rfl rfl ?_ | refine isiT (c := .list) rfl rfl rfl ?_ | refine isiF (c := .list) rfl rfl rfl ?_))
local macro_rules | `(tactic| walk_at "both") => `(tactic| with_reducible first | refine tf_d (fun _ => ?_) fun _ => ?_ | refine tf_nd (fun _ => ?_) fun _ => ?_ | refine tf_b (fun _ => ?_) fun _ => ?_)
local macro_rules | `(tactic| walk_at "tf") => `(tactic| with_reducible first | refine tf_T (by decide +kernel) ?_ | refine tf_F (by decide +kernel) ?_ | refine tf_T (decide_eq_true (by omega)) ?_ | refine tf_T (decide_eq_true (by simp only [List.length_cons]; omega)) ?_ | refine tf_F (decide_eq_false (by omega)) ?_ | refine tf_F (decide_eq_false (by assumption)) ?_ | refine tf_T (decide_eq_true (by assumption)) ?_ | refine tf_T (nd_T (by omega)) ?_ | refine tf_F (nd_F (by omega)) ?_ | refine tf_T (nd_T (by assumption)) ?_ | refine tf_F (nd_F (by assumption)) ?_)
local macro_rules | `(tactic| walk_at "wb") => `(tactic| (repeat (first | exact Wb.nil | apply Wb.tmp | apply Wb.shr | (apply Wb.ol'; (focus rfl)) | (apply Wb.od'; (focus rfl)) | (exact Chg.z) | apply Chg.s)))
local macro_rules | `(tactic| walk_at "op") => `(tactic| with_reducible first | refine xal ?_ | refine xals ?_ | (apply xat; (focus (first | exact at0 | exact at1 | exact at2 | assumption))) | refine trI ?_ | refine trB ?_ | refine trN ?_ | refine trL ?_ | refine trLs ?_)
local macro_rules | `(tactic| walk_at "op") => `(tactic| with_reducible first | refine xo_minN ?_ | refine xo_max ?_ | refine xo_min ?_ | (apply strI; (focus omega)) | (apply xo_addN; (focus decide +kernel); (focus omega)) | (apply xo_addS; (focus decide +kernel)) | (apply xo_addT; (focus (refine ⟨List.cons_ne_nil _ _, List.cons_ne_nil _ _, ?_⟩; simp only [List.length_cons, List.length_nil]; omega))) | refine xai ?_ | refine xab ?_)
local macro_rules | `(tactic| walk_at "op") => `(tactic| with_reducible first | refine lsL ?_ | refine lsLs ?_ | refine lsT ?_ | refine slL ?_ | refine slLs ?_ | refine xo_intI ?_ | refine xo_abs ?_ | refine xo_maxN ?_ | refine xo_max1 ?_)
local macro_rules | `(tactic| walk_at "op") => `(tactic| with_reducible first | (apply ixLs; (focus (first | exact at0 | exact at1 | exact at2 | assumption))) | (apply ixT; (focus (first | exact at0 | exact at1 | exact at2 | assumption))) | refine lnL ?_ | refine lnLs ?_ | refine lnT ?_ | refine lnSc ?_ | refine slSc ?_ | (apply ixSc; (focus (first | exact at0 | exact at1 | exact at2 | assumption))) | (apply xo_sumL rfl))
local macro_rules | `(tactic| walk_at "op") => `(tactic| with_reducible first | refine isN2 ?_ | refine isN3 ?_ | refine isN4 ?_ | refine isN5 ?_ | refine noN ?_ | refine noN0 ?_ | refine noN1 ?_ | refine noN2 ?_ | (apply ixL; (focus (first | exact at0 | exact at1 | exact at2 | assumption))))
local macro_rules | `(tactic| walk_at "op") => `(tactic| with_reducible first | refine xo_ge ?_ | refine xo_neg ?_ | refine eqI ?_ | refine neI ?_ | refine eqSt ?_ | refine neSt ?_ | refine isN ?_ | refine isN0 ?_ | refine isN1 ?_)
local macro_rules | `(tactic| walk_at "op") => `(tactic| with_reducible first | refine xo_sub ?_ | (apply xo_mul; (focus (first | exact mulR (by decide) | exact mulL (by decide) | exact mulR (by omega) | exact mulL (by omega) | exact mulW (by decide +kernel)))) | (apply xo_div; (focus (first | exact divK (by decide) | exact divK (by omega)))) | (apply xo_modP; (focus (first | decide | omega | decide +kernel)); intro _ _ _) | (apply xo_mod; (focus (first | decide | omega | decide +kernel))) | (apply xo_pow; focus exact powK (by decide)) | refine xo_lt ?_ | refine xo_le ?_ | refine xo_gt ?_)
local macro_rules | `(tactic| walk_at "op") => `(tactic| with_reducible first | refine xo_neD ?_ | refine xo_eqD ?_ | refine xas ?_ | refine xo_strAS ?_ | refine xo_inStr ?_ | refine xo_notInStr ?_ | refine xo_inG ?_ | refine xo_addI ?_ | refine xo_addI' ?_)
local macro_rules | `(tactic| walk_at "op") => `(tactic| with_reducible first | (apply xp_g; (focus (walk_at "at"; done))) | refine xr_o ?_ | refine ak_o ?_ | refine ak_s ?_ | refine ko_s ?_ | refine ko_i ?_ | refine xo_dget ?_ | refine xo_din ?_ | refine xo_dict ?_)
local macro_rules | `(tactic| walk_at "op") => `(tactic| with_reducible first | (apply xg_v; (focus (walk_at "at"; done))) | refine xg_t ?_ | refine xh_nil ?_ | (apply xh_v; (focus (walk_at "at"; done))) | refine xh_t ?_ | (refine xg_T rfl ?_) | refine xg_nil ?_ | refine xg_cons ?_ | (apply xw_s; (focus (walk_at "at"; done))))
local macro_rules | `(tactic| walk_at "1") => `(tactic| with_reducible first | refine par2 ?_ | refine lenAnd (by simp only [List.length_cons, List.length_nil]; omega) ?_ | (apply r1N; (focus omega)) | (apply r2S; (focus omega)) | (apply r1; (focus omega)) | (apply r2; (focus omega)) | refine xl_nil' ?_ | (apply def_rt; (focus (walk_at "at"; done))) | (apply def_nx; (focus (walk_at "at"; done))))
local macro_rules | `(tactic| walk_at "1") => `(tactic| with_reducible first | (apply xsi; (focus (walk_at "at"; done))) | refine ex_shr ?_ | refine len15 (by simp only [List.length_cons, List.length_nil]; omega) ?_ | (apply xsd; (focus (walk_at "at"; done))) | refine par3 ?_ | (apply acc2; (focus (first | omega | (simp only [List.length_cons, List.length_nil, List.length_append]; omega))); (focus (walk_at "at"; done)); (focus (walk_at "at"; done))))
local macro_rules | `(tactic| walk_at "1") => `(tactic| with_reducible ((show XPs _ _ _); (first | refine xps_nil ?_ | refine xps_cons ?_)))
local macro_rules | `(tactic| walk_at "1") => `(tactic| with_reducible ((show XLk _ _ _); (first | refine xlk_t ?_ | (apply xlk_s; (focus (walk_at "at"; done))) | (apply xlk_l; (focus (walk_at "at"; done))))))
local macro_rules | `(tactic| walk_at "1") => `(tactic| with_reducible ((show XJ _ _); (first | refine xj_l ?_ | refine xj_ls ?_ | refine xj_t ?_ | refine xj_s ?_)))
local macro_rules | `(tactic| walk_at "1") => `(tactic| with_reducible ((show lcQ2 _ _ _ _ _ _ _ _); (first | (apply lc2_n; (focus (walk_at "at"; done)); (focus (walk_at "at"; done)); (focus (walk_at "at"; done)); (focus (walk_at "at"; done))) | (apply lc2_l; (focus (walk_at "at"; done)); (focus (walk_at "at"; done)); (focus (walk_at "at"; done)); (focus (walk_at "at"; done)); (focus (walk_at "at"; done))))))
local macro_rules | `(tactic| walk_at "1") => `(tactic| with_reducible ((show lcQ _ _ _ _ _ _ _ _); (first | (apply lc_n; (focus (walk_at "at"; done)); (focus (walk_at "at"; done))) | (apply lc_l; (focus (walk_at "at"; done)); (focus (walk_at "at"; done)); (focus (walk_at "at"; done))))))
local macro_rules | `(tactic| walk_at "1") => `(tactic| with_reducible ((show forQ _ _ _ _ _ _); (first | refine for_n ?_ | (apply for_l; (focus (walk_at "at"; done))))))
local macro_rules | `(tactic| walk_at "1") => `(tactic| with_reducible ((show unlQ _ _ _); (first | refine unl_n ?_ | (apply unl_nx; (focus (walk_at "at"; done))) | refine unl_rt ?_)))
local macro_rules | `(tactic| walk_at "1") => `(tactic| with_reducible ((show turnQ _ _ _); (first | refine turn_nx ?_ | refine turn_ct ?_ | refine turn_bk ?_ | refine turn_rt ?_)))
local macro_rules | `(tactic| walk_at "1") => `(tactic| with_reducible ((show XC _ _ _ _ _ _ _ _); (first | refine xc_nil' ?_ | refine xc2_nil ?_ | refine xc2_cons ?_ | refine xc_yes1 ?_)))
local macro_rules | `(tactic| walk_at "1") => `(tactic| with_reducible ((show XM _ _ _ _); (first | (apply xm_set; (focus (walk_at "at"; done)); (focus (first | exact setL0 | exact setL1 | exact setL2 | assumption)); (focus (walk_at "at"; done))) | (apply xm_app; (focus (walk_at "at"; done)); (focus (first | assumption | omega | decide | (simp only [List.length_append, List.length_cons, List.length_nil]; omega))); (focus (walk_at "at"; done))) | (apply xm_put; (focus (walk_at "at"; done)); (focus omega); (focus (walk_at "at"; done))) | (apply xm_pop0; (focus (walk_at "at"; done)); (focus (walk_at "at"; done))) | (apply xm_pop; (focus (walk_at "at"; done)); (focus (walk_at "at"; done))))))
local macro_rules | `(tactic| walk_at "1") => `(tactic| with_reducible ((show XRt _ _ _); (first | refine xrt_t ?_ | (apply xrt_s; (focus (walk_at "at"; done))) | (apply xrt_pl; (focus (walk_at "at"; done))) | (apply xrt_l; (focus (walk_at "at"; done)); (focus (walk_at "at"; done))) | (apply xrt_k; (focus (walk_at "at"; done)); (focus (walk_at "at"; done))) | (apply xrt_pk; (focus (walk_at "at"; done))))))
local macro_rules | `(tactic| walk_at "1") => `(tactic| with_reducible ((show XI _ _ _); (first | refine xi_r1' ?_ | refine xi_r2' ?_ | refine xi_seq' ?_)))
local macro_rules | `(tactic| walk_at "1") => `(tactic| with_reducible ((show XP _ _ _); (first | refine xp_no ?_ | refine xp_some ?_)))
local macro_rules | `(tactic| walk_at "1") => `(tactic| with_reducible ((show seqQ _ _ _); (first | refine seq_nx ?_ | refine seq_rt ?_ | refine seq_bk ?_ | refine seq_ct ?_)))
local macro_rules | `(tactic| walk_at "1") => `(tactic| with_reducible ((show XW _ _ _ _); (first | (apply xw_t; (focus (walk_at "at"; done))) | refine xw_v ?_)))
local macro_rules | `(tactic| walk_at "1") => `(tactic| with_reducible ((show XT _ _ _); (first | refine xt_s ?_ | refine xt_l ?_ | refine xt_k ?_ | (apply xt_vs; (focus (walk_at "at"; done))) | (apply xt_vl; (focus (walk_at "at"; done))) | (apply xt_vk; (focus (walk_at "at"; done))))))
local macro_rules | `(tactic| walk_at "1") => `(tactic| with_reducible ((show XD _ _ _); (first | refine xd ?_)))
local macro_rules | `(tactic| walk_at "1") => `(tactic| with_reducible ((show TF _ _ _); (first | refine tf_t ?_ | refine tf_f ?_)))
local macro_rules | `(tactic| walk_at "1") => `(tactic| with_reducible ((show XHs _ _ _); (first | refine xhs_nil ?_ | refine xhs_cons ?_)))
local macro_rules | `(tactic| walk_at "1") => `(tactic| with_reducible ((show XDs _ _ _); (first | refine xds_nil ?_ | refine xds_cons ?_)))
local macro_rules | `(tactic| walk_at "1") => `(tactic| with_reducible ((show XB _ _ _); (first | refine xb_and' ?_ | refine xb_or' ?_ | refine xb_not ?_ | refine xb_val ?_ | refine xb_tru ?_ | refine xb_yes ?_)))
local macro_rules | `(tactic| walk_at "1") => `(tactic| with_reducible ((show XS _ _ _); (first | refine xs_seq' ?_ | refine xs_nil ?_ | refine xs_set' ?_ | refine xs_asg ?_ | refine xs_par2 ?_ | refine xs_drop ?_ | refine xs_ret' ?_ | refine xs_retN ?_ | refine xs_if' ?_ | refine xs_brk ?_ | refine xs_cont ?_ | refine xs_for' ?_ | (refine xs_setIx2 ?_) | (apply xs_augIx'L; (focus (walk_at "at"; done))) | (apply xs_aug'; (focus (walk_at "at"; done))) | refine xs_setDx ?_ | refine xs_par3 ?_)))
local macro_rules | `(tactic| walk_at "1") => `(tactic| with_reducible ((show XE _ _ _); (first | (apply xv; (focus (walk_at "at"; done))) | refine xe_c ?_ | refine xe_bin ?_ | refine xe_un ?_ | refine xe_if' ?_ | refine xe_B ?_ | refine xe_callB ?_ | refine xe_tup ?_ | refine xe_lst ?_ | refine xe_sl ?_ | (apply xe_mt'L; (focus (walk_at "at"; done))) | refine xe_lc' ?_ | (refine xe_call' ?_) | refine xe_o ?_ | refine xe_get2 ?_ | refine xe_get1 ?_ | refine xe_disp ?_ | refine xe_join ?_ | refine xe_lc2 ?_ | refine xe_sidx ?_)))
local macro_rules | `(tactic| walk_at "1") => `(tactic| with_reducible ((show XO _ _); (walk_at "op")))
local macro_rules | `(tactic| walk_at "at") => `(tactic| with_reducible first | ((repeat (apply At.s)); (exact At.z)) | ((repeat (apply Put.s)); (first | exact Put.n | exact Put.z | exact Put.f (by assumption))) | ((repeat (apply Chg.s)); (exact Chg.z)) | ((repeat (apply SetAt.s)); (exact SetAt.z)) | ((repeat (apply Slt.s)); (exact Slt.z)) | ((repeat (apply Fin'.s)); (exact Fin'.z)) | ((repeat (first | apply Ini.shr | apply Ini.n | apply Ini.ol | apply Ini.od)); (exact Ini.z)) | exact Wb.nil)
-- END MACRO
/-! ### the law's own fold -/
theorem in_T {x y : O} {Q : O → Prop} (h : inQ x y = some true) (q : Q (.shr (.bl true))) : XO (oInQ x y) Q := ⟨_, by rw [oInQ, h]; rfl, q⟩
theorem in_F {x y : O} {Q : O → Prop} (h : inQ x y = some false) (q : Q (.shr (.bl false))) : XO (oInQ x y) Q := ⟨_, by rw [oInQ, h]; rfl, q⟩
theorem in_nam (o : Op) {Q : O → Prop} (q : Q (.shr (.bl true))) : XO (oInQ (.shr (.str o.nam)) (.ol [.str (Str.ofString "add"), .str (Str.ofString "sub"), .str (Str.ofString "mul"), .str (Str.ofString "div"), .str (Str.ofString "less"), .str (Str.ofString "same"), .str (Str.ofString "more")])) Q := in_T (by cases o <;> decide +kernel) q
theorem in_oth (o : Oth) {Q : O → Prop} (q : Q (.shr (.bl false))) : XO (oInQ (.shr (.str o.str)) (.ol [.str (Str.ofString "add"), .str (Str.ofString "sub"), .str (Str.ofString "mul"), .str (Str.ofString "div"), .str (Str.ofString "less"), .str (Str.ofString "same"), .str (Str.ofString "more")])) Q := in_F (by cases o <;> decide +kernel) q
theorem wO_str {w : W} : (∃ v, w = .ok v) ∨ ∃ s, wO w = .str s := by
  cases w with
  | ok v => exact .inl ⟨v, rfl⟩
  | zero => exact .inr ⟨_, rfl⟩
  | great => exact .inr ⟨_, rfl⟩
local macro_rules | `(tactic| walk_at "law") => `(tactic| repeat' (first | walk_at "1" | ((with_reducible refine lend_ok ?_ ?_); (focus rfl)) | ((with_reducible apply wbx); (focus (walk_at "wb"; done)); (focus rfl)) | walk_at "tf" | walk_at "isi" | with_reducible refine in_nam _ ?_ | with_reducible refine in_oth _ ?_ | with_reducible refine in_T (by decide +kernel) ?_ | with_reducible refine in_F (by decide +kernel) ?_ | with_reducible refine tf_T (lkS _) ?_ | with_reducible refine tf_F (oth_lk _) ?_ | with_reducible refine tf_F (decide_eq_false (nam_neg _)) ?_ | with_reducible refine tf_F (decide_eq_false (oth_neg _)) ?_ | with_reducible refine ixm1 ?_ | with_reducible refine ixm1' ?_ | with_reducible refine ixm2 ?_ | with_reducible refine x_work (by assumption) (by assumption) ?_ | (with_reducible apply ixT; (focus exact at3)) | walk_at "both"))
def JM (ws : List Wd) (k : Nat) (e : Sto) : Prop := ∃ x2 x3 x4, Fre' x2 ∧ Fre' x3 ∧ Fre' x4 ∧ e = [some ⟨.ol (ws.map Wd.d), true, true⟩, some ⟨.ol (dl ((ws.take k).foldl step [])), false, false⟩, x2, x3, x4, none]
theorem jm_next {ws : List Wd} {k : Nat} (hk : k < ws.length) {w : Wd} (hw : ws[k] = w) {acc : List Wd} (ha : (ws.take k).foldl step [] = acc) {y : List D} {x2 x3 x4 : Option Slot} (f2 : Fre' x2) (f3 : Fre' x3) (f4 : Fre' x4) (hy : y = dl (step acc w)) :
    JM ws (k + 1) [some ⟨.ol (ws.map Wd.d), true, true⟩, some ⟨.ol y, false, false⟩, x2, x3, x4, none] := by
  refine ⟨x2, x3, x4, f2, f3, f4, ?_⟩
  rw [List.take_succ_eq_append_getElem hk, List.foldl_append, ha, hw, hy]
  rfl
theorem x_mfold {ws : List Wd} (hs : ∀ w ∈ ws, w.sm) (hl : ws.length ≤ 1000) {Q : Rs → List O → Prop} (q : Q (.o (.ol (dl (fold ws)))) [.ol (ws.map Wd.d)]) : XF F_m_fold [.ol (ws.map Wd.d)] Q := by
  refine xf' rfl (by walk_at "at") ?_
  unfold f_m_fold
  walk_at "law"
  refine xl_ix' (JM ws) ⟨none, none, none, .n, .n, .n, rfl⟩ ?_ ?_
  · rintro e ⟨x2, x3, x4, f2, f3, f4, rfl⟩
    rw [List.length_map, List.take_length]
    walk_at "law"
    exact q
  · rintro k e hk ⟨x2, x3, x4, f2, f3, f4, rfl⟩
    rw [List.getElem_map]
    rw [List.length_map] at hk
    have hsm : ∀ x ∈ (ws.take k).foldl step [], x.sm := fold_sm _ _ (fun x hx => nomatch hx) fun x hx => hs x (List.mem_of_mem_take hx)
    have hlen := fold_len (ws.take k) []
    rw [List.length_take] at hlen
    have hw := fun y x2 x3 x4 => @jm_next ws k hk ws[k] rfl _ rfl y x2 x3 x4
    generalize (ws.take k).foldl step [] = acc at hsm hlen hw ⊢
    have hla : acc.length ≤ 1000 := by simp at hlen; omega
    have hwm := hs _ (List.getElem_mem hk)
    generalize ws[k] = w at hw hwm ⊢
    obtain ⟨kd, a, b⟩ := w
    have hla2 := dl_len acc
    cases kd with
    | push n =>
      simp only [Wd.d, Kd.str, Kd.arg]
      walk_at "law"
      exact hw _ _ _ _ .s .s .s (by unfold step; rw [dl_cons]; rfl)
    | get n =>
      simp only [Wd.d, Kd.str, Kd.arg]
      walk_at "law"
      exact hw _ _ _ _ .s .s .s (by unfold step; rw [dl_cons]; rfl)
    | oth n d =>
      simp only [Wd.d, Kd.str, Kd.arg]
      walk_at "law"
      exact hw _ _ _ _ .s .s .s (by unfold step; rw [dl_cons]; rfl)
    | neg =>
      simp only [Wd.d, Kd.str, Kd.arg]
      cases acc with
      | nil =>
        have h0 : ¬ (1 : Int) ≤ ((dl []).length : Int) := by simp [dl]
        walk_at "law"
        exact hw _ _ _ _ .s .s .s (by unfold step; rfl)
      | cons x r =>
        rw [dl_cons] at hla2 ⊢
        have hlr : (dl r).length ≤ 1000 := by rw [dl_len]; simp at hla; omega
        have h0 : (1 : Int) ≤ ((dl r ++ [x.d]).length : Int) := by simp; omega
        walk_at "law"
        rw [cutF (m := 1) (xs := dl r) (ys := [x.d]) rfl rfl]
        have ex : x.d = .tup [.str x.k.str, x.k.arg, x.a, x.b] := rfl
        refine xc_yes1 ?_
        rw [ex]
        walk_at "law"
        rw [isP_str]
        refine acc_q (by simp) (by walk_at "at") ?_
        walk_at "law"
        refine ⟨_, by walk_at "at", ?_⟩
        walk_at "law"
        refine xo_all1 ?_
        cases hp : isP x with
        | true =>
          walk_at "law"
          obtain ⟨n, xa, xb, rfl⟩ := isP_T hp
          have sn : Sm n := hsm _ (List.mem_cons_self ..)
          have hc := chk_ok sn.neg
          simp only [Kd.str, Kd.arg]
          walk_at "law"
          rw [cutT (m := 1) (xs := dl r) rfl rfl]
          refine xo_addL (by simp; omega) ?_
          walk_at "law"
          exact hw _ _ _ _ .s .s .s (by unfold step; dsimp only; rw [hc, dl_cons, Int.zero_sub]; rfl)
        | false =>
          walk_at "law"
          exact hw _ _ _ _ .s .s .s (by rw [step_neg_no (isP_F hp), dl_cons, dl_cons]; rfl)
    | op o =>
      simp only [Wd.d, Kd.str, Kd.arg]
      match acc, hsm, hlen, hw, hla, hla2 with
      | [], hsm, hlen, hw, hla, hla2 =>
        have h0 : ¬ (2 : Int) ≤ ((dl []).length : Int) := by simp [dl]
        walk_at "law"
        exact hw _ _ _ _ .s .s .s rfl
      | [x], hsm, hlen, hw, hla, hla2 =>
        have h0 : ¬ (2 : Int) ≤ ((dl [x]).length : Int) := by simp [dl]
        walk_at "law"
        exact hw _ _ _ _ .s .s .s (by
          obtain ⟨k, xa, xb⟩ := x
          cases k <;> rfl)
      | y :: x :: r, hsm, hlen, hw, hla, hla2 =>
        rw [dl_cons2] at hla2 ⊢
        have hlr : (dl r).length ≤ 1000 := by rw [dl_len]; simp at hla; omega
        have h0 : (2 : Int) ≤ ((dl r ++ [x.d, y.d]).length : Int) := by simp; omega
        walk_at "law"
        rw [cutF (m := 2) (xs := dl r) (ys := [x.d, y.d]) rfl rfl]
        have ex : x.d = .tup [.str x.k.str, x.k.arg, x.a, x.b] := rfl
        have ey : y.d = .tup [.str y.k.str, y.k.arg, y.a, y.b] := rfl
        refine xc_yes1 ?_
        rw [ex, ey]
        walk_at "law"
        rw [isP_str]
        refine acc_q (by simp) (by walk_at "at") ?_
        refine xc_yes1 ?_
        walk_at "law"
        rw [isP_str]
        refine acc_q (by simp) (by walk_at "at") ?_
        walk_at "law"
        refine ⟨_, by walk_at "at", ?_⟩
        walk_at "law"
        refine xo_all2 ?_
        cases hp : isP x && isP y with
        | true =>
          walk_at "law"
          rw [Bool.and_eq_true] at hp
          obtain ⟨n, xa, xb, rfl⟩ := isP_T hp.1
          obtain ⟨m, ya, yb, rfl⟩ := isP_T hp.2
          have sm : Sm m := hsm _ (List.mem_cons_self ..)
          have sn : Sm n := hsm _ (List.mem_cons_of_mem _ (List.mem_cons_self ..))
          have bn := sn.bd
          have bm := sm.bd
          simp only [Kd.str, Kd.arg]
          walk_at "law"
          cases ha : ap o n m with
          | ok v =>
            walk_at "law"
            simp only [wO]
            walk_at "law"
            rw [cutT (m := 2) (xs := dl r) rfl rfl]
            refine xo_addL (by simp; omega) ?_
            walk_at "law"
            exact hw _ _ _ _ .s .s .s (by unfold step; dsimp only; rw [ha, dl_cons]; rfl)
          | zero =>
            walk_at "law"
            simp only [wO]
            walk_at "law"
            exact hw _ _ _ _ .s .s .s (by unfold step; dsimp only; rw [ha, dl_cons, dl_cons2]; rfl)
          | great =>
            walk_at "law"
            simp only [wO]
            walk_at "law"
            exact hw _ _ _ _ .s .s .s (by unfold step; dsimp only; rw [ha, dl_cons, dl_cons2]; rfl)
        | false =>
          walk_at "law"
          refine hw _ _ _ _ .s .s .s ?_
          rw [Bool.and_eq_false_iff] at hp
          rcases hp with hp | hp
          · rw [step_op_no2 (isP_F hp), dl_cons, dl_cons2]; rfl
          · rw [step_op_no1 (isP_F hp), dl_cons, dl_cons2]; rfl
end K50

set_option maxRecDepth 100000
set_option maxHeartbeats 4000000
namespace K50
open PV PySem L2
local macro_rules | `(tactic| walk_at "all") => `(tactic| repeat' (first | walk_at "1" | ((with_reducible refine lend_ok ?_ ?_); (focus rfl)) | ((with_reducible apply wbx); (focus (walk_at "wb"; done)); (focus rfl)) | walk_at "tf" | walk_at "isi" | walk_at "both" | with_reducible refine ixL3 (by omega) (by omega) ?_ ?_ ?_))
local macro_rules | `(tactic| walk_at "run") => `(tactic| repeat (first | walk_at "1" | ((with_reducible refine lend_ok ?_ ?_); (focus rfl)) | ((with_reducible apply wbx); (focus (walk_at "wb"; done)); (focus rfl)) | walk_at "tf" | walk_at "isi"))
local macro_rules | `(tactic| walk_at "isi") => `(tactic| ((with_reducible show XO (oIsi _) _); first
  | refine isiT (c := .bool) rfl rfl rfl ?_ | refine isiF (c := .bool) rfl rfl rfl ?_ | refine isiT (c := .int) rfl rfl rfl ?_ | refine isiF (c := .int) rfl rfl rfl ?_ | refine isiT (c := .str) rfl rfl rfl ?_ | refine isiF (c := .str) rfl rfl rfl ?_
  | refine isiT (c := .dict) rfl rfl rfl ?_ | refine isiF (c := .dict) rfl rfl rfl ?_ | refine isiT (c := .tuple) rfl rfl rfl ?_ | refine isiF (c := .tuple) rfl rfl rfl ?_ | refine isiT (c := .list) rfl rfl rfl ?_ | refine isiF (c := .list) rfl rfl rfl ?_))
local macro_rules | `(tactic| walk_at "both") => `(tactic| with_reducible first | refine tf_d (fun _ => ?_) fun _ => ?_ | refine tf_nd (fun _ => ?_) fun _ => ?_ | refine tf_b (fun _ => ?_) fun _ => ?_)
local macro_rules | `(tactic| walk_at "tf") => `(tactic| with_reducible first | refine tf_T (by decide +kernel) ?_ | refine tf_F (by decide +kernel) ?_ | refine tf_T (decide_eq_true (by omega)) ?_ | refine tf_T (decide_eq_true (by simp only [List.length_cons]; omega)) ?_ | refine tf_F (decide_eq_false (by omega)) ?_ | refine tf_F (decide_eq_false (by assumption)) ?_ | refine tf_T (decide_eq_true (by assumption)) ?_ | refine tf_T (nd_T (by omega)) ?_ | refine tf_F (nd_F (by omega)) ?_ | refine tf_T (nd_T (by assumption)) ?_ | refine tf_F (nd_F (by assumption)) ?_)
local macro_rules | `(tactic| walk_at "wb") => `(tactic| (repeat (first | exact Wb.nil | apply Wb.tmp | apply Wb.shr | (apply Wb.ol'; (focus rfl)) | (apply Wb.od'; (focus rfl)) | (exact Chg.z) | apply Chg.s)))
local macro_rules | `(tactic| walk_at "op") => `(tactic| with_reducible first | refine xal ?_ | refine xals ?_ | (apply xat; (focus (first | exact at0 | exact at1 | exact at2 | assumption))) | refine trI ?_ | refine trB ?_ | refine trN ?_ | refine trL ?_ | refine trLs ?_)
local macro_rules | `(tactic| walk_at "op") => `(tactic| with_reducible first | refine xo_minN ?_ | refine xo_max ?_ | refine xo_min ?_ | (apply strI; (focus omega)) | (apply xo_addN; (focus decide +kernel); (focus omega)) | (apply xo_addS; (focus decide +kernel)) | (apply xo_addT; (focus (refine ⟨List.cons_ne_nil _ _, List.cons_ne_nil _ _, ?_⟩; simp only [List.length_cons, List.length_nil]; omega))) | refine xai ?_ | refine xab ?_)
local macro_rules | `(tactic| walk_at "op") => `(tactic| with_reducible first | refine lsL ?_ | refine lsLs ?_ | refine lsT ?_ | refine slL ?_ | refine slLs ?_ | refine xo_intI ?_ | refine xo_abs ?_ | refine xo_maxN ?_ | refine xo_max1 ?_)
local macro_rules | `(tactic| walk_at "op") => `(tactic| with_reducible first | (apply ixLs; (focus (first | exact at0 | exact at1 | exact at2 | assumption))) | (apply ixT; (focus (first | exact at0 | exact at1 | exact at2 | assumption))) | refine lnL ?_ | refine lnLs ?_ | refine lnT ?_ | refine lnSc ?_ | refine slSc ?_ | (apply ixSc; (focus (first | exact at0 | exact at1 | exact at2 | assumption))) | (apply xo_sumL rfl))
local macro_rules | `(tactic| walk_at "op") => `(tactic| with_reducible first | refine isN2 ?_ | refine isN3 ?_ | refine isN4 ?_ | refine isN5 ?_ | refine noN ?_ | refine noN0 ?_ | refine noN1 ?_ | refine noN2 ?_ | (apply ixL; (focus (first | exact at0 | exact at1 | exact at2 | assumption))))
local macro_rules | `(tactic| walk_at "op") => `(tactic| with_reducible first | refine xo_ge ?_ | refine xo_neg ?_ | refine eqI ?_ | refine neI ?_ | refine eqSt ?_ | refine neSt ?_ | refine isN ?_ | refine isN0 ?_ | refine isN1 ?_)
local macro_rules | `(tactic| walk_at "op") => `(tactic| with_reducible first | refine xo_sub ?_ | (apply xo_mul; (focus (first | exact mulR (by decide) | exact mulL (by decide) | exact mulR (by omega) | exact mulL (by omega) | exact mulW (by decide +kernel)))) | (apply xo_div; (focus (first | exact divK (by decide) | exact divK (by omega)))) | (apply xo_modP; (focus (first | decide | omega | decide +kernel)); intro _ _ _) | (apply xo_mod; (focus (first | decide | omega | decide +kernel))) | (apply xo_pow; focus exact powK (by decide)) | refine xo_lt ?_ | refine xo_le ?_ | refine xo_gt ?_)
local macro_rules | `(tactic| walk_at "op") => `(tactic| with_reducible first | refine xo_neD ?_ | refine xo_eqD ?_ | refine xas ?_ | refine xo_strAS ?_ | refine xo_inStr ?_ | refine xo_notInStr ?_ | refine xo_inG ?_ | refine xo_addI ?_ | refine xo_addI' ?_)
local macro_rules | `(tactic| walk_at "op") => `(tactic| with_reducible first | (apply xp_g; (focus (walk_at "at"; done))) | refine xr_o ?_ | refine ak_o ?_ | refine ak_s ?_ | refine ko_s ?_ | refine ko_i ?_ | refine xo_dget ?_ | refine xo_din ?_ | refine xo_dict ?_)
local macro_rules | `(tactic| walk_at "op") => `(tactic| with_reducible first | (apply xg_v; (focus (walk_at "at"; done))) | refine xg_t ?_ | refine xh_nil ?_ | (apply xh_v; (focus (walk_at "at"; done))) | refine xh_t ?_ | (refine xg_T rfl ?_) | refine xg_nil ?_ | refine xg_cons ?_ | (apply xw_s; (focus (walk_at "at"; done))))
local macro_rules | `(tactic| walk_at "1") => `(tactic| with_reducible first | refine par2 ?_ | refine lenAnd (by simp only [List.length_cons, List.length_nil]; omega) ?_ | (apply r1N; (focus omega)) | (apply r2S; (focus omega)) | (apply r1; (focus omega)) | (apply r2; (focus omega)) | refine xl_nil' ?_ | (apply def_rt; (focus (walk_at "at"; done))) | (apply def_nx; (focus (walk_at "at"; done))))
local macro_rules | `(tactic| walk_at "1") => `(tactic| with_reducible first | (apply xsi; (focus (walk_at "at"; done))) | refine ex_shr ?_ | refine len15 (by simp only [List.length_cons, List.length_nil]; omega) ?_ | (apply xsd; (focus (walk_at "at"; done))) | refine par3 ?_ | (apply acc2; (focus (first | omega | (simp only [List.length_cons, List.length_nil, List.length_append]; omega))); (focus (walk_at "at"; done)); (focus (walk_at "at"; done))))
local macro_rules | `(tactic| walk_at "1") => `(tactic| with_reducible ((show XPs _ _ _); (first | refine xps_nil ?_ | refine xps_cons ?_)))
local macro_rules | `(tactic| walk_at "1") => `(tactic| with_reducible ((show XLk _ _ _); (first | refine xlk_t ?_ | (apply xlk_s; (focus (walk_at "at"; done))) | (apply xlk_l; (focus (walk_at "at"; done))))))
local macro_rules | `(tactic| walk_at "1") => `(tactic| with_reducible ((show XJ _ _); (first | refine xj_l ?_ | refine xj_ls ?_ | refine xj_t ?_ | refine xj_s ?_)))
local macro_rules | `(tactic| walk_at "1") => `(tactic| with_reducible ((show lcQ2 _ _ _ _ _ _ _ _); (first | (apply lc2_n; (focus (walk_at "at"; done)); (focus (walk_at "at"; done)); (focus (walk_at "at"; done)); (focus (walk_at "at"; done))) | (apply lc2_l; (focus (walk_at "at"; done)); (focus (walk_at "at"; done)); (focus (walk_at "at"; done)); (focus (walk_at "at"; done)); (focus (walk_at "at"; done))))))
local macro_rules | `(tactic| walk_at "1") => `(tactic| with_reducible ((show lcQ _ _ _ _ _ _ _ _); (first | (apply lc_n; (focus (walk_at "at"; done)); (focus (walk_at "at"; done))) | (apply lc_l; (focus (walk_at "at"; done)); (focus (walk_at "at"; done)); (focus (walk_at "at"; done))))))
local macro_rules | `(tactic| walk_at "1") => `(tactic| with_reducible ((show forQ _ _ _ _ _ _); (first | refine for_n ?_ | (apply for_l; (focus (walk_at "at"; done))))))
local macro_rules | `(tactic| walk_at "1") => `(tactic| with_reducible ((show unlQ _ _ _); (first | refine unl_n ?_ | (apply unl_nx; (focus (walk_at "at"; done))) | refine unl_rt ?_)))
local macro_rules | `(tactic| walk_at "1") => `(tactic| with_reducible ((show turnQ _ _ _); (first | refine turn_nx ?_ | refine turn_ct ?_ | refine turn_bk ?_ | refine turn_rt ?_)))
local macro_rules | `(tactic| walk_at "1") => `(tactic| with_reducible ((show XC _ _ _ _ _ _ _ _); (first | refine xc_nil' ?_ | refine xc2_nil ?_ | refine xc2_cons ?_ | refine xc_yes1 ?_)))
local macro_rules | `(tactic| walk_at "1") => `(tactic| with_reducible ((show XM _ _ _ _); (first | (apply xm_set; (focus (walk_at "at"; done)); (focus (first | exact setL0 | exact setL1 | exact setL2 | assumption)); (focus (walk_at "at"; done))) | (apply xm_app; (focus (walk_at "at"; done)); (focus (first | assumption | omega | decide | (simp only [List.length_append, List.length_cons, List.length_nil]; omega))); (focus (walk_at "at"; done))) | (apply xm_put; (focus (walk_at "at"; done)); (focus omega); (focus (walk_at "at"; done))) | (apply xm_pop0; (focus (walk_at "at"; done)); (focus (walk_at "at"; done))) | (apply xm_pop; (focus (walk_at "at"; done)); (focus (walk_at "at"; done))))))
local macro_rules | `(tactic| walk_at "1") => `(tactic| with_reducible ((show XRt _ _ _); (first | refine xrt_t ?_ | (apply xrt_s; (focus (walk_at "at"; done))) | (apply xrt_pl; (focus (walk_at "at"; done))) | (apply xrt_l; (focus (walk_at "at"; done)); (focus (walk_at "at"; done))) | (apply xrt_k; (focus (walk_at "at"; done)); (focus (walk_at "at"; done))) | (apply xrt_pk; (focus (walk_at "at"; done))))))
local macro_rules | `(tactic| walk_at "1") => `(tactic| with_reducible ((show XI _ _ _); (first | refine xi_r1' ?_ | refine xi_r2' ?_ | refine xi_seq' ?_)))
local macro_rules | `(tactic| walk_at "1") => `(tactic| with_reducible ((show XP _ _ _); (first | refine xp_no ?_ | refine xp_some ?_)))
local macro_rules | `(tactic| walk_at "1") => `(tactic| with_reducible ((show seqQ _ _ _); (first | refine seq_nx ?_ | refine seq_rt ?_ | refine seq_bk ?_ | refine seq_ct ?_)))
local macro_rules | `(tactic| walk_at "1") => `(tactic| with_reducible ((show XW _ _ _ _); (first | (apply xw_t; (focus (walk_at "at"; done))) | refine xw_v ?_)))
local macro_rules | `(tactic| walk_at "1") => `(tactic| with_reducible ((show XT _ _ _); (first | refine xt_s ?_ | refine xt_l ?_ | refine xt_k ?_ | (apply xt_vs; (focus (walk_at "at"; done))) | (apply xt_vl; (focus (walk_at "at"; done))) | (apply xt_vk; (focus (walk_at "at"; done))))))
local macro_rules | `(tactic| walk_at "1") => `(tactic| with_reducible ((show XD _ _ _); (first | refine xd ?_)))
local macro_rules | `(tactic| walk_at "1") => `(tactic| with_reducible ((show TF _ _ _); (first | refine tf_t ?_ | refine tf_f ?_)))
local macro_rules | `(tactic| walk_at "1") => `(tactic| with_reducible ((show XHs _ _ _); (first | refine xhs_nil ?_ | refine xhs_cons ?_)))
local macro_rules | `(tactic| walk_at "1") => `(tactic| with_reducible ((show XDs _ _ _); (first | refine xds_nil ?_ | refine xds_cons ?_)))
local macro_rules | `(tactic| walk_at "1") => `(tactic| with_reducible ((show XB _ _ _); (first | refine xb_and' ?_ | refine xb_or' ?_ | refine xb_not ?_ | refine xb_val ?_ | refine xb_tru ?_ | refine xb_yes ?_)))
local macro_rules | `(tactic| walk_at "1") => `(tactic| with_reducible ((show XS _ _ _); (first | refine xs_seq' ?_ | refine xs_nil ?_ | refine xs_set' ?_ | refine xs_asg ?_ | refine xs_par2 ?_ | refine xs_drop ?_ | refine xs_ret' ?_ | refine xs_retN ?_ | refine xs_if' ?_ | refine xs_brk ?_ | refine xs_cont ?_ | refine xs_for' ?_ | (refine xs_setIx2 ?_) | (apply xs_augIx'L; (focus (walk_at "at"; done))) | (apply xs_aug'; (focus (walk_at "at"; done))) | refine xs_setDx ?_ | refine xs_par3 ?_)))
local macro_rules | `(tactic| walk_at "1") => `(tactic| with_reducible ((show XE _ _ _); (first | (apply xv; (focus (walk_at "at"; done))) | refine xe_c ?_ | refine xe_bin ?_ | refine xe_un ?_ | refine xe_if' ?_ | refine xe_B ?_ | refine xe_callB ?_ | refine xe_tup ?_ | refine xe_lst ?_ | refine xe_sl ?_ | (apply xe_mt'L; (focus (walk_at "at"; done))) | refine xe_lc' ?_ | (refine xe_call' ?_) | refine xe_o ?_ | refine xe_get2 ?_ | refine xe_get1 ?_ | refine xe_disp ?_ | refine xe_join ?_ | refine xe_lc2 ?_ | refine xe_sidx ?_)))
local macro_rules | `(tactic| walk_at "1") => `(tactic| with_reducible ((show XO _ _); (walk_at "op")))
local macro_rules | `(tactic| walk_at "at") => `(tactic| with_reducible first | ((repeat (apply At.s)); (exact At.z)) | ((repeat (apply Put.s)); (first | exact Put.n | exact Put.z | exact Put.f (by assumption))) | ((repeat (apply Chg.s)); (exact Chg.z)) | ((repeat (apply SetAt.s)); (exact SetAt.z)) | ((repeat (apply Slt.s)); (exact Slt.z)) | ((repeat (apply Fin'.s)); (exact Fin'.z)) | ((repeat (first | apply Ini.shr | apply Ini.n | apply Ini.ol | apply Ini.od)); (exact Ini.z)) | exact Wb.nil)
-- END MACRO
theorem op_no (s : Op) : ¬ s.str = Str.ofString "number" ∧ ¬ s.str = Str.ofString "name" ∧ ¬ s.str = Str.ofString "minus" := by cases s <;> decide +kernel
def Op.ix : Op → Nat
  | .add => 0 | .sub => 1 | .mul => 2 | .div => 3 | .lt => 4 | .eq => 5 | .gt => 6
theorem sx_op (o : Op) {Q : O → Prop} (q : Q (.shr (.int (o.ix : Nat)))) : XO (oSidx (.shr (.str (Str.ofString "+-*/<=>"))) (.shr (.str o.str))) Q := by
  have h : ∃ r, Builtin.Str.occurrences (Str.ofString "+-*/<=>") o.str 0 (Str.ofString "+-*/<=>").length 1 = o.ix :: r := by cases o <;> exact ⟨[], by decide +kernel⟩
  obtain ⟨r, e⟩ := h
  exact xo_sidx e q
theorem ix_op (o : Op) {Q : O → Prop} (q : Q (.shr (.str o.nam))) : XO (oIx (.ol [.str (Str.ofString "add"), .str (Str.ofString "sub"), .str (Str.ofString "mul"), .str (Str.ofString "div"), .str (Str.ofString "less"), .str (Str.ofString "same"), .str (Str.ofString "more")]) (.shr (.int (o.ix : Nat)))) Q := by
  cases o
  all_goals exact ixL (at_of rfl) q
theorem xo_addLs {ds es : List D} (h : ds.length + es.length ≤ 1000000) {Q : O → Prop} (q : Q (.ol (ds ++ es))) : XO (oAdd (.ol ds) (.shr (.lst es))) Q := ⟨_, by simp only [oAdd, oAddI, oI2, asI, oAddS, asS, oAddL, asL, Option.bind_some, Option.bind_none, Option.none_or, if_pos h, Option.some_or], q⟩
theorem addS {ds es : List D} {m : Nat} (h : ds.length + es.length ≤ m) (hm : m ≤ 1000000) {Q : O → Prop} (q : Q (.ol (ds ++ es))) : XO (oAdd (.ol ds) (.ol es)) Q := xo_addL (by omega) q
def pr (k : Kd) : D := .tup [.str k.str, k.arg]
local macro_rules | `(tactic| walk_at "law") => `(tactic| repeat' (first | walk_at "1" | ((with_reducible refine lend_ok ?_ ?_); (focus rfl)) | ((with_reducible apply wbx); (focus (walk_at "wb"; done)); (focus rfl)) | walk_at "tf" | walk_at "isi" | with_reducible refine in_T (by decide +kernel) ?_ | with_reducible refine in_F (by decide +kernel) ?_ | with_reducible refine sx_op _ ?_ | with_reducible refine ix_op _ ?_ | with_reducible refine tf_F (decide_eq_false (nam_neg _)) ?_ | walk_at "both"))
theorem x_mops : ∀ (t : T) (n : Nat), t.n ≤ 1000 → t.dep < n → ∀ {Q : Rs → List O → Prop}, Q (.o (.ol ((kds t).map pr))) [.shr (toD t)] → XF (F_m_ops n) [.shr (toD t)] Q
  | t, 0, _, h, _, _ => by omega
  | .num i, n + 1, b, h, Q, q => by
    simp only [toD] at q ⊢
    refine xf' rfl (by walk_at "at") ?_
    unfold f_m_ops
    walk_at "law"
    exact q
  | .nam s, n + 1, b, h, Q, q => by
    simp only [toD] at q ⊢
    refine xf' rfl (by walk_at "at") ?_
    unfold f_m_ops
    walk_at "law"
    exact q
  | .neg t, n + 1, b, h, Q, q => by
    simp only [toD] at q ⊢
    have l := kds_len t
    unfold T.n at b
    refine xf' rfl (by walk_at "at") ?_
    unfold f_m_ops
    walk_at "law"
    refine x_mops t n (by omega) (by unfold T.dep at h; omega) ?_
    walk_at "law"
    refine xo_addL (by simp; omega) ?_
    walk_at "law"
    simpa [kds, pr, Kd.str, Kd.arg] using q
  | .bin o l r, n + 1, b, h, Q, q => by
    simp only [toD] at q ⊢
    have l1 := kds_len l
    have l2 := kds_len r
    obtain ⟨n1, n2, n3⟩ := op_no o
    unfold T.n at b
    refine xf' rfl (by walk_at "at") ?_
    unfold f_m_ops
    walk_at "law"
    refine x_mops l n (by omega) (by unfold T.dep at h; omega) ?_
    walk_at "law"
    refine x_mops r n (by omega) (by unfold T.dep at h; omega) ?_
    walk_at "law"
    refine xo_addL (by simp; omega) ?_
    walk_at "law"
    refine xo_addL (by simp; omega) ?_
    walk_at "law"
    simpa [kds, pr, Kd.str, Kd.arg] using q
/-! ### the tree's fold -/
def pD (p : D × D) : D := .tup [p.1, p.2]
theorem fin1_some {l : List Wd} {n : Int} (h : fin1 l = some n) : ∃ a b, l = [⟨.push n, a, b⟩] := by
  unfold fin1 at h
  split at h
  · cases h; exact ⟨_, _, rfl⟩
  · cases h
theorem side_eval {env : Sto} {s : List Wd} {p lk : Bool} (h0 : At env 7 (.shr (.lst (s.map Wd.d))) p lk) (hs : Bk s) {Q : Hnd → Sto → Prop} (q : Q (.tmp (.shr (.bl (fin1 s).isSome))) env) :
    XE (vB (bAnd (bVal (vBin oEq (vCallB oLen (vConsH (vVar 7) vNilH)) (vC (.int 1)))) (bVal (vBin oEq (vBin oIx (vBin oIx (vVar 7) (vC (.int 0))) (vC (.int 0))) (vC (.str (Str.ofString "push"))))))) env Q := by
  refine xe_B (xb_and' (xb_val (xe_bin (xe_callB (xhs_cons (xv h0 (xhs_nil (xh_v h0 (xh_nil (lnLs (xe_c (xg_t (xg_t (eqI (xg_t (xab ?_))))))))))))))))
  have second : ∀ x : Wd, s = [x] → XB (bVal (vBin oEq (vBin oIx (vBin oIx (vVar 7) (vC (.int 0))) (vC (.int 0))) (vC (.str (Str.ofString "push"))))) env fun x e => Q (.tmp (.shr (.bl x))) e := fun x hx => by
    subst hx
    refine xb_val (xe_bin (xe_bin (xe_bin (xv h0 (xe_c (xg_v h0 (xg_t (ixLs (e := x.d) at0 (xe_c (xg_t (xg_t ?_)))))))))))
    have ex : x.d = .tup [.str x.k.str, x.k.arg, x.a, x.b] := rfl
    rw [ex]
    refine ixT at0 (xe_c (xg_t (xg_t (eqSt (xg_t (xab ?_))))))
    rw [isP_str]
    rcases hs with ⟨n, a, b, e, _⟩ | ⟨e, s', y, e2, hy⟩
    · cases e; exact q
    · have : x = y := by
        have := congrArg List.getLast? e2
        simpa using this
      subst this
      have hp : isP x = false := by
        obtain ⟨k, a, b⟩ := x
        cases k with
        | push n => exact absurd rfl (hy n)
        | _ => rfl
      rw [hp]
      rw [e] at q
      exact q
  rw [List.length_map]
  match s, hs, q, second with
  | [], hs, q, _ => rcases hs with ⟨n, a, b, e, _⟩ | ⟨e, s', y, e2, hy⟩ <;> simp at *
  | [x], hs, q, second => exact tf_T (decide_eq_true (by simp)) (second x rfl)
  | x :: y :: r, hs, q, _ => 
    have e : fin1 (x :: y :: r) = none := by
      obtain ⟨k, a, b⟩ := x
      cases k <;> rfl
    rw [e] at q
    exact tf_F (decide_eq_false (by simp; omega)) q
theorem tf_len : ∀ (t : T) (ps : List (D × D)), (tf t ps).length ≤ t.n
  | .num n, ps => Nat.le_refl 1
  | .nam s, ps => Nat.le_refl 1
  | .neg t, ps => by
    have ih := tf_len t ps
    unfold tf
    split
    · simp [T.n]
    · simp [T.n]; omega
  | .bin o l r, ps => by
    have h1 := tf_len l ps
    have h2 := tf_len r (ps.drop l.n)
    unfold tf
    split
    · split
      · simp [T.n]
      · simp [T.n]; omega
    · simp [T.n]; omega
theorem drop_cons {ps : List (D × D)} {k : Nat} (h : k < ps.length) : ∃ p r, ps.drop k = p :: r ∧ hd (ps.drop k) = p ∧ ps.drop (k + 1) = r := by
  rw [List.drop_eq_getElem_cons h]
  exact ⟨_, _, rfl, rfl, rfl⟩
theorem x_tfold : ∀ (t : T) (n : Nat) (ps : List (D × D)), t.sm → t.n ≤ 1000 → t.dep < n → t.n ≤ ps.length → ∀ {Q : Rs → List O → Prop}, Q (.o (.ol ((tf t ps).map Wd.d))) [.shr (toD t), .ol ((ps.drop t.n).map pD)] → XF (F_tree_fold n) [.shr (toD t), .ol (ps.map pD)] Q
  | t, 0, _, _, _, h, _, _, _ => by omega
  | .num i, n + 1, ps, hs, b, h, hp, Q, q => by
    obtain ⟨p, r, e1, e2, e3⟩ := drop_cons (k := 0) hp
    rw [List.drop_zero] at e1
    subst e1
    simp only [toD] at q ⊢
    refine xf' rfl (by walk_at "at") ?_
    unfold f_tree_fold
    rw [List.map_cons]
    walk_at "law"
    rw [show pD p = .tup [p.1, p.2] from rfl]
    walk_at "law"
    exact q
  | .nam i, n + 1, ps, hs, b, h, hp, Q, q => by
    obtain ⟨p, r, e1, e2, e3⟩ := drop_cons (k := 0) hp
    rw [List.drop_zero] at e1
    subst e1
    simp only [toD] at q ⊢
    refine xf' rfl (by walk_at "at") ?_
    unfold f_tree_fold
    rw [List.map_cons]
    walk_at "law"
    rw [show pD p = .tup [p.1, p.2] from rfl]
    walk_at "law"
    exact q
  | .neg t, n + 1, ps, hs, b, h, hp, Q, q => by
    unfold T.n at b hp
    unfold T.dep at h
    have hb := tf_bk t ps hs
    have hln := tf_len t ps
    obtain ⟨p, r, e1, e2, e3⟩ := drop_cons (ps := ps) (k := t.n) (by omega)
    simp only [toD] at q ⊢
    refine xf' rfl (by walk_at "at") ?_
    unfold f_tree_fold
    walk_at "law"
    refine x_tfold t n ps hs (by omega) (by omega) (by omega) ?_
    rw [e1, List.map_cons]
    walk_at "law"
    refine xo_addL (by simp) ?_
    rw [List.append_nil]
    generalize hS : [D.lst ((tf t ps).map Wd.d)] = S
    walk_at "law"
    subst hS
    refine xc_yes1 ?_
    walk_at "1"
    refine xd ?_
    refine side_eval (s := tf t ps) (by walk_at "at") hb ?_
    refine xt_s ?_
    refine acc_q (by simp) (by walk_at "at") ?_
    walk_at "law"
    refine ⟨_, _, by walk_at "at", by walk_at "at", ?_⟩
    walk_at "law"
    refine xo_all1 ?_
    cases e : fin1 (tf t ps) with
    | some m =>
      have e5 : tf (.neg t) ps = [at' (.push (0 - m)) p] := by
        conv => lhs; unfold tf
        rw [e, e2]
      obtain ⟨a', b', e4⟩ := fin1_some e
      rw [e4]
      simp only [Option.isSome_some]
      walk_at "law"
      simp only [List.map_cons, List.map_nil, Wd.d, Kd.arg, Kd.str]
      walk_at "law"
      rw [show pD p = .tup [p.1, p.2] from rfl]
      walk_at "law"
      rw [e5, T.n, e3] at q
      exact q
    | none =>
      have e5 : tf (.neg t) ps = tf t ps ++ [at' .neg p] := by
        conv => lhs; unfold tf
        rw [e, e2]
      simp only [Option.isSome_none, Bool.false_and]
      walk_at "law"
      refine xl_cons' ?_
      walk_at "law"
      refine xo_addLs (by simp; omega) ?_
      walk_at "law"
      rw [show pD p = .tup [p.1, p.2] from rfl]
      walk_at "law"
      refine xo_addL (by simp; omega) ?_
      walk_at "law"
      rw [e5, T.n, e3] at q
      simpa [at', Wd.d, Kd.str, Kd.arg] using q
  | .bin o l r, n + 1, ps, hs, b, h, hp, Q, q => by
    unfold T.n at b hp
    unfold T.dep at h
    obtain ⟨n1, n2, n3⟩ := op_no o
    have hb1 := tf_bk l ps hs.1
    have hb2 := tf_bk r (ps.drop l.n) hs.2
    have hl1 := tf_len l ps
    have hl2 := tf_len r (ps.drop l.n)
    obtain ⟨p, pr', e1, e2, e3⟩ := drop_cons (ps := ps) (k := l.n + r.n) (by omega)
    have fall : ∀ z : List Wd, tf (.bin o l r) ps = z → Q (.o (.ol (z.map Wd.d))) [.shr (.tup [.str o.str, toD l, toD r]), .ol (pr'.map pD)] := fun z hz => by
      rw [hz, T.n, e3] at q
      exact q
    simp only [toD] at q ⊢
    refine xf' rfl (by walk_at "at") ?_
    unfold f_tree_fold
    walk_at "law"
    refine in_F (by cases o <;> decide +kernel) ?_
    walk_at "law"
    refine x_tfold l n ps hs.1 (by omega) (by omega) (by omega) ?_
    walk_at "law"
    refine x_tfold r n (ps.drop l.n) hs.2 (by omega) (by omega) (by simp; omega) ?_
    rw [List.drop_drop, e1, List.map_cons]
    walk_at "law"
    refine xo_addL (by simp) ?_
    rw [List.cons_append, List.nil_append]
    generalize hS : [D.lst ((tf l ps).map Wd.d), D.lst ((tf r (ps.drop l.n)).map Wd.d)] = S
    walk_at "law"
    subst hS
    refine xc_yes1 ?_
    walk_at "1"
    refine xd ?_
    refine side_eval (s := tf l ps) (by walk_at "at") hb1 ?_
    refine xt_s ?_
    refine acc_q (by simp) (by walk_at "at") ?_
    refine xc_yes1 ?_
    walk_at "1"
    refine xd ?_
    refine side_eval (s := tf r (ps.drop l.n)) (by walk_at "at") hb2 ?_
    refine xt_s ?_
    refine acc_q (by simp) (by walk_at "at") ?_
    walk_at "law"
    refine ⟨_, _, by walk_at "at", by walk_at "at", ?_⟩
    walk_at "law"
    refine xo_all2 ?_
    have lose : tf (.bin o l r) ps = tf l ps ++ tf r (ps.drop l.n) ++ [at' (.op o) p] → Q (.o (.ol ([] ++ (tf l ps).map Wd.d ++ (tf r (ps.drop l.n)).map Wd.d ++ [.tup [.str o.nam, .non, p.1, p.2]]))) [.shr (.tup [.str o.str, toD l, toD r]), .ol (pr'.map pD)] := fun hz => by
      have := fall _ hz
      simpa [at', Wd.d, Kd.str, Kd.arg] using this
    cases e : fin1 (tf l ps) with
    | none =>
      have hz : tf (.bin o l r) ps = tf l ps ++ tf r (ps.drop l.n) ++ [at' (.op o) p] := by
        conv => lhs; unfold tf
        rw [e, e2]
      simp only [Option.isSome_none, Bool.false_and]
      walk_at "law"
      refine xl_cons' ?_
      walk_at "law"
      refine xo_addLs (by simp; omega) ?_
      walk_at "law"
      refine xl_cons' ?_
      walk_at "law"
      refine xo_addLs (by simp; omega) ?_
      walk_at "law"
      rw [show pD p = .tup [p.1, p.2] from rfl]
      walk_at "law"
      refine xo_addL (by simp; omega) ?_
      walk_at "law"
      exact lose hz
    | some i =>
      cases e' : fin1 (tf r (ps.drop l.n)) with
      | none =>
        have hz : tf (.bin o l r) ps = tf l ps ++ tf r (ps.drop l.n) ++ [at' (.op o) p] := by
          conv => lhs; unfold tf
          rw [e, e', e2]
        simp only [Option.isSome_some, Option.isSome_none, Bool.and_false]
        walk_at "law"
        refine xl_cons' ?_
        walk_at "law"
        refine xo_addLs (by simp; omega) ?_
        walk_at "law"
        refine xl_cons' ?_
        walk_at "law"
        refine xo_addLs (by simp; omega) ?_
        walk_at "law"
        rw [show pD p = .tup [p.1, p.2] from rfl]
        walk_at "law"
        refine xo_addL (by simp; omega) ?_
        walk_at "law"
        exact lose hz
      | some j =>
        obtain ⟨ia, ib, ei⟩ := fin1_some e
        obtain ⟨ja, jb, ej⟩ := fin1_some e'
        have bi : Bd i := by
          rcases hb1 with ⟨m, a, c, e4, sm⟩ | ⟨e4, _⟩
          · rw [e4] at e; cases e; exact sm.bd
          · rw [e4] at e; cases e
        have bj : Bd j := by
          rcases hb2 with ⟨m, a, c, e4, sm⟩ | ⟨e4, _⟩
          · rw [e4] at e'; cases e'; exact sm.bd
          · rw [e4] at e'; cases e'
        rw [ei, ej] at lose ⊢
        simp only [Option.isSome_some, Bool.and_true]
        walk_at "law"
        simp only [List.map_cons, List.map_nil, Wd.d, Kd.arg, Kd.str]
        walk_at "law"
        refine x_work bi bj ?_
        cases ha : ap o i j with
        | ok v =>
          have hz : tf (.bin o l r) ps = [at' (.push v) p] := by
            conv => lhs; unfold tf
            rw [e, e', e2]; simp only [ha]
          walk_at "law"
          simp only [wO]
          walk_at "law"
          rw [show pD p = .tup [p.1, p.2] from rfl]
          walk_at "law"
          exact fall _ hz
        | zero =>
          have hz : tf (.bin o l r) ps = [⟨.push i, ia, ib⟩] ++ [⟨.push j, ja, jb⟩] ++ [at' (.op o) p] := by
            conv => lhs; unfold tf
            rw [e, e', e2]; simp only [ha]; rw [ei, ej]
          walk_at "law"
          simp only [wO]
          walk_at "law"
          refine xl_cons' ?_
          walk_at "law"
          refine xo_addLs (by simp) ?_
          walk_at "law"
          refine xl_cons' ?_
          walk_at "law"
          refine xo_addLs (by simp) ?_
          walk_at "law"
          rw [show pD p = .tup [p.1, p.2] from rfl]
          walk_at "law"
          refine xo_addL (by simp) ?_
          walk_at "law"
          exact lose hz
        | great =>
          have hz : tf (.bin o l r) ps = [⟨.push i, ia, ib⟩] ++ [⟨.push j, ja, jb⟩] ++ [at' (.op o) p] := by
            conv => lhs; unfold tf
            rw [e, e', e2]; simp only [ha]; rw [ei, ej]
          walk_at "law"
          simp only [wO]
          walk_at "law"
          refine xl_cons' ?_
          walk_at "law"
          refine xo_addLs (by simp) ?_
          walk_at "law"
          refine xl_cons' ?_
          walk_at "law"
          refine xo_addLs (by simp) ?_
          walk_at "law"
          rw [show pD p = .tup [p.1, p.2] from rfl]
          walk_at "law"
          refine xo_addL (by simp) ?_
          walk_at "law"
          exact lose hz
end K50

set_option maxRecDepth 100000
set_option maxHeartbeats 4000000
namespace K50
open PV PySem L2
local macro_rules | `(tactic| walk_at "all") => `(tactic| repeat' (first | walk_at "1" | ((with_reducible refine lend_ok ?_ ?_); (focus rfl)) | ((with_reducible apply wbx); (focus (walk_at "wb"; done)); (focus rfl)) | walk_at "tf" | walk_at "isi" | walk_at "both" | with_reducible refine ixL3 (by omega) (by omega) ?_ ?_ ?_))
local macro_rules | `(tactic| walk_at "run") => `(tactic| repeat (first | walk_at "1" | ((with_reducible refine lend_ok ?_ ?_); (focus rfl)) | ((with_reducible apply wbx); (focus (walk_at "wb"; done)); (focus rfl)) | walk_at "tf" | walk_at "isi"))
local macro_rules | `(tactic| walk_at "isi") => `(tactic| ((with_reducible show XO (oIsi _) _); first
  | refine isiT (c := .bool) rfl rfl rfl ?_ | refine isiF (c := .bool) rfl rfl rfl ?_ | refine isiT (c := .int) rfl rfl rfl ?_ | refine isiF (c := .int) rfl rfl rfl ?_ | refine isiT (c := .str) rfl rfl rfl ?_ | refine isiF (c := .str) rfl rfl rfl ?_
  | refine isiT (c := .dict) rfl rfl rfl ?_ | refine isiF (c := .dict) rfl rfl rfl ?_ | refine isiT (c := .tuple) rfl rfl rfl ?_ | refine isiF (c := .tuple) rfl rfl rfl ?_ | refine isiT (c := .list) rfl rfl rfl ?_ | refine isiF (c := .list) rfl rfl rfl ?_))
local macro_rules | `(tactic| walk_at "both") => `(tactic| with_reducible first | refine tf_d (fun _ => ?_) fun _ => ?_ | refine tf_nd (fun _ => ?_) fun _ => ?_ | refine tf_b (fun _ => ?_) fun _ => ?_)
local macro_rules | `(tactic| walk_at "tf") => `(tactic| with_reducible first | refine tf_T (by decide +kernel) ?_ | refine tf_F (by decide +kernel) ?_ | refine tf_T (decide_eq_true (by omega)) ?_ | refine tf_T (decide_eq_true (by simp only [List.length_cons]; omega)) ?_ | refine tf_F (decide_eq_false (by omega)) ?_ | refine tf_F (decide_eq_false (by assumption)) ?_ | refine tf_T (decide_eq_true (by assumption)) ?_ | refine tf_T (nd_T (by omega)) ?_ | refine tf_F (nd_F (by omega)) ?_ | refine tf_T (nd_T (by assumption)) ?_ | refine tf_F (nd_F (by assumption)) ?_)
local macro_rules | `(tactic| walk_at "wb") => `(tactic| (repeat (first | exact Wb.nil | apply Wb.tmp | apply Wb.shr | (apply Wb.ol'; (focus rfl)) | (apply Wb.od'; (focus rfl)) | (exact Chg.z) | apply Chg.s)))
local macro_rules | `(tactic| walk_at "op") => `(tactic| with_reducible first | refine xal ?_ | refine xals ?_ | (apply xat; (focus (first | exact at0 | exact at1 | exact at2 | assumption))) | refine trI ?_ | refine trB ?_ | refine trN ?_ | refine trL ?_ | refine trLs ?_)
local macro_rules | `(tactic| walk_at "op") => `(tactic| with_reducible first | refine xo_minN ?_ | refine xo_max ?_ | refine xo_min ?_ | (apply strI; (focus omega)) | (apply xo_addN; (focus decide +kernel); (focus omega)) | (apply xo_addS; (focus decide +kernel)) | (apply xo_addT; (focus (refine ⟨List.cons_ne_nil _ _, List.cons_ne_nil _ _, ?_⟩; simp only [List.length_cons, List.length_nil]; omega))) | refine xai ?_ | refine xab ?_)
local macro_rules | `(tactic| walk_at "op") => `(tactic| with_reducible first | refine lsL ?_ | refine lsLs ?_ | refine lsT ?_ | refine slL ?_ | refine slLs ?_ | refine xo_intI ?_ | refine xo_abs ?_ | refine xo_maxN ?_ | refine xo_max1 ?_)
local macro_rules | `(tactic| walk_at "op") => `(tactic| with_reducible first | (apply ixLs; (focus (first | exact at0 | exact at1 | exact at2 | assumption))) | (apply ixT; (focus (first | exact at0 | exact at1 | exact at2 | assumption))) | refine lnL ?_ | refine lnLs ?_ | refine lnT ?_ | refine lnSc ?_ | refine slSc ?_ | (apply ixSc; (focus (first | exact at0 | exact at1 | exact at2 | assumption))) | (apply xo_sumL rfl))
local macro_rules | `(tactic| walk_at "op") => `(tactic| with_reducible first | refine isN2 ?_ | refine isN3 ?_ | refine isN4 ?_ | refine isN5 ?_ | refine noN ?_ | refine noN0 ?_ | refine noN1 ?_ | refine noN2 ?_ | (apply ixL; (focus (first | exact at0 | exact at1 | exact at2 | assumption))))
local macro_rules | `(tactic| walk_at "op") => `(tactic| with_reducible first | refine xo_ge ?_ | refine xo_neg ?_ | refine eqI ?_ | refine neI ?_ | refine eqSt ?_ | refine neSt ?_ | refine isN ?_ | refine isN0 ?_ | refine isN1 ?_)
local macro_rules | `(tactic| walk_at "op") => `(tactic| with_reducible first | refine xo_sub ?_ | (apply xo_mul; (focus (first | exact mulR (by decide) | exact mulL (by decide) | exact mulR (by omega) | exact mulL (by omega) | exact mulW (by decide +kernel)))) | (apply xo_div; (focus (first | exact divK (by decide) | exact divK (by omega)))) | (apply xo_modP; (focus (first | decide | omega | decide +kernel)); intro _ _ _) | (apply xo_mod; (focus (first | decide | omega | decide +kernel))) | (apply xo_pow; focus exact powK (by decide)) | refine xo_lt ?_ | refine xo_le ?_ | refine xo_gt ?_)
local macro_rules | `(tactic| walk_at "op") => `(tactic| with_reducible first | refine xo_neD ?_ | refine xo_eqD ?_ | refine xas ?_ | refine xo_strAS ?_ | refine xo_inStr ?_ | refine xo_notInStr ?_ | refine xo_inG ?_ | refine xo_addI ?_ | refine xo_addI' ?_)
local macro_rules | `(tactic| walk_at "op") => `(tactic| with_reducible first | (apply xp_g; (focus (walk_at "at"; done))) | refine xr_o ?_ | refine ak_o ?_ | refine ak_s ?_ | refine ko_s ?_ | refine ko_i ?_ | refine xo_dget ?_ | refine xo_din ?_ | refine xo_dict ?_)
local macro_rules | `(tactic| walk_at "op") => `(tactic| with_reducible first | (apply xg_v; (focus (walk_at "at"; done))) | refine xg_t ?_ | refine xh_nil ?_ | (apply xh_v; (focus (walk_at "at"; done))) | refine xh_t ?_ | (refine xg_T rfl ?_) | refine xg_nil ?_ | refine xg_cons ?_ | (apply xw_s; (focus (walk_at "at"; done))))
local macro_rules | `(tactic| walk_at "1") => `(tactic| with_reducible first | refine par2 ?_ | refine lenAnd (by simp only [List.length_cons, List.length_nil]; omega) ?_ | (apply r1N; (focus omega)) | (apply r2S; (focus omega)) | (apply r1; (focus omega)) | (apply r2; (focus omega)) | refine xl_nil' ?_ | (apply def_rt; (focus (walk_at "at"; done))) | (apply def_nx; (focus (walk_at "at"; done))))
local macro_rules | `(tactic| walk_at "1") => `(tactic| with_reducible first | (apply xsi; (focus (walk_at "at"; done))) | refine ex_shr ?_ | refine len15 (by simp only [List.length_cons, List.length_nil]; omega) ?_ | (apply xsd; (focus (walk_at "at"; done))) | refine par3 ?_ | (apply acc2; (focus (first | omega | (simp only [List.length_cons, List.length_nil, List.length_append]; omega))); (focus (walk_at "at"; done)); (focus (walk_at "at"; done))))
local macro_rules | `(tactic| walk_at "1") => `(tactic| with_reducible ((show XPs _ _ _); (first | refine xps_nil ?_ | refine xps_cons ?_)))
local macro_rules | `(tactic| walk_at "1") => `(tactic| with_reducible ((show XLk _ _ _); (first | refine xlk_t ?_ | (apply xlk_s; (focus (walk_at "at"; done))) | (apply xlk_l; (focus (walk_at "at"; done))))))
local macro_rules | `(tactic| walk_at "1") => `(tactic| with_reducible ((show XJ _ _); (first | refine xj_l ?_ | refine xj_ls ?_ | refine xj_t ?_ | refine xj_s ?_)))
local macro_rules | `(tactic| walk_at "1") => `(tactic| with_reducible ((show lcQ2 _ _ _ _ _ _ _ _); (first | (apply lc2_n; (focus (walk_at "at"; done)); (focus (walk_at "at"; done)); (focus (walk_at "at"; done)); (focus (walk_at "at"; done))) | (apply lc2_l; (focus (walk_at "at"; done)); (focus (walk_at "at"; done)); (focus (walk_at "at"; done)); (focus (walk_at "at"; done)); (focus (walk_at "at"; done))))))
local macro_rules | `(tactic| walk_at "1") => `(tactic| with_reducible ((show lcQ _ _ _ _ _ _ _ _); (first | (apply lc_n; (focus (walk_at "at"; done)); (focus (walk_at "at"; done))) | (apply lc_l; (focus (walk_at "at"; done)); (focus (walk_at "at"; done)); (focus (walk_at "at"; done))))))
local macro_rules | `(tactic| walk_at "1") => `(tactic| with_reducible ((show forQ _ _ _ _ _ _); (first | refine for_n ?_ | (apply for_l; (focus (walk_at "at"; done))))))
local macro_rules | `(tactic| walk_at "1") => `(tactic| with_reducible ((show unlQ _ _ _); (first | refine unl_n ?_ | (apply unl_nx; (focus (walk_at "at"; done))) | refine unl_rt ?_)))
local macro_rules | `(tactic| walk_at "1") => `(tactic| with_reducible ((show turnQ _ _ _); (first | refine turn_nx ?_ | refine turn_ct ?_ | refine turn_bk ?_ | refine turn_rt ?_)))
local macro_rules | `(tactic| walk_at "1") => `(tactic| with_reducible ((show XC _ _ _ _ _ _ _ _); (first | refine xc_nil' ?_ | refine xc2_nil ?_ | refine xc2_cons ?_ | refine xc_yes1 ?_)))
local macro_rules | `(tactic| walk_at "1") => `(tactic| with_reducible ((show XM _ _ _ _); (first | (apply xm_set; (focus (walk_at "at"; done)); (focus (first | exact setL0 | exact setL1 | exact setL2 | assumption)); (focus (walk_at "at"; done))) | (apply xm_app; (focus (walk_at "at"; done)); (focus (first | assumption | omega | decide | (simp only [List.length_append, List.length_cons, List.length_nil]; omega))); (focus (walk_at "at"; done))) | (apply xm_put; (focus (walk_at "at"; done)); (focus omega); (focus (walk_at "at"; done))) | (apply xm_pop0; (focus (walk_at "at"; done)); (focus (walk_at "at"; done))) | (apply xm_pop; (focus (walk_at "at"; done)); (focus (walk_at "at"; done))))))
local macro_rules | `(tactic| walk_at "1") => `(tactic| with_reducible ((show XRt _ _ _); (first | refine xrt_t ?_ | (apply xrt_s; (focus (walk_at "at"; done))) | (apply xrt_pl; (focus (walk_at "at"; done))) | (apply xrt_l; (focus (walk_at "at"; done)); (focus (walk_at "at"; done))) | (apply xrt_k; (focus (walk_at "at"; done)); (focus (walk_at "at"; done))) | (apply xrt_pk; (focus (walk_at "at"; done))))))
local macro_rules | `(tactic| walk_at "1") => `(tactic| with_reducible ((show XI _ _ _); (first | refine xi_r1' ?_ | refine xi_r2' ?_ | refine xi_seq' ?_)))
local macro_rules | `(tactic| walk_at "1") => `(tactic| with_reducible ((show XP _ _ _); (first | refine xp_no ?_ | refine xp_some ?_)))
local macro_rules | `(tactic| walk_at "1") => `(tactic| with_reducible ((show seqQ _ _ _); (first | refine seq_nx ?_ | refine seq_rt ?_ | refine seq_bk ?_ | refine seq_ct ?_)))
local macro_rules | `(tactic| walk_at "1") => `(tactic| with_reducible ((show XW _ _ _ _); (first | (apply xw_t; (focus (walk_at "at"; done))) | refine xw_v ?_)))
local macro_rules | `(tactic| walk_at "1") => `(tactic| with_reducible ((show XT _ _ _); (first | refine xt_s ?_ | refine xt_l ?_ | refine xt_k ?_ | (apply xt_vs; (focus (walk_at "at"; done))) | (apply xt_vl; (focus (walk_at "at"; done))) | (apply xt_vk; (focus (walk_at "at"; done))))))
local macro_rules | `(tactic| walk_at "1") => `(tactic| with_reducible ((show XD _ _ _); (first | refine xd ?_)))
local macro_rules | `(tactic| walk_at "1") => `(tactic| with_reducible ((show TF _ _ _); (first | refine tf_t ?_ | refine tf_f ?_)))
local macro_rules | `(tactic| walk_at "1") => `(tactic| with_reducible ((show XHs _ _ _); (first | refine xhs_nil ?_ | refine xhs_cons ?_)))
local macro_rules | `(tactic| walk_at "1") => `(tactic| with_reducible ((show XDs _ _ _); (first | refine xds_nil ?_ | refine xds_cons ?_)))
local macro_rules | `(tactic| walk_at "1") => `(tactic| with_reducible ((show XB _ _ _); (first | refine xb_and' ?_ | refine xb_or' ?_ | refine xb_not ?_ | refine xb_val ?_ | refine xb_tru ?_ | refine xb_yes ?_)))
local macro_rules | `(tactic| walk_at "1") => `(tactic| with_reducible ((show XS _ _ _); (first | refine xs_seq' ?_ | refine xs_nil ?_ | refine xs_set' ?_ | refine xs_asg ?_ | refine xs_par2 ?_ | refine xs_drop ?_ | refine xs_ret' ?_ | refine xs_retN ?_ | refine xs_if' ?_ | refine xs_brk ?_ | refine xs_cont ?_ | refine xs_for' ?_ | (refine xs_setIx2 ?_) | (apply xs_augIx'L; (focus (walk_at "at"; done))) | (apply xs_aug'; (focus (walk_at "at"; done))) | refine xs_setDx ?_ | refine xs_par3 ?_)))
local macro_rules | `(tactic| walk_at "1") => `(tactic| with_reducible ((show XE _ _ _); (first | (apply xv; (focus (walk_at "at"; done))) | refine xe_c ?_ | refine xe_bin ?_ | refine xe_un ?_ | refine xe_if' ?_ | refine xe_B ?_ | refine xe_callB ?_ | refine xe_tup ?_ | refine xe_lst ?_ | refine xe_sl ?_ | (apply xe_mt'L; (focus (walk_at "at"; done))) | refine xe_lc' ?_ | (refine xe_call' ?_) | refine xe_o ?_ | refine xe_get2 ?_ | refine xe_get1 ?_ | refine xe_disp ?_ | refine xe_join ?_ | refine xe_lc2 ?_ | refine xe_sidx ?_)))
local macro_rules | `(tactic| walk_at "1") => `(tactic| with_reducible ((show XO _ _); (walk_at "op")))
local macro_rules | `(tactic| walk_at "at") => `(tactic| with_reducible first | ((repeat (apply At.s)); (exact At.z)) | ((repeat (apply Put.s)); (first | exact Put.n | exact Put.z | exact Put.f (by assumption))) | ((repeat (apply Chg.s)); (exact Chg.z)) | ((repeat (apply SetAt.s)); (exact SetAt.z)) | ((repeat (apply Slt.s)); (exact Slt.z)) | ((repeat (apply Fin'.s)); (exact Fin'.z)) | ((repeat (first | apply Ini.shr | apply Ini.n | apply Ini.ol | apply Ini.od)); (exact Ini.z)) | exact Wb.nil)
-- END MACRO
/-! ### worths -/
def rO : Rn → O
  | .ok st => .ol (st.reverse.map D.int)
  | .er w => .shr (wO w)
theorem nam_no (o : Op) : ¬ o.nam = Str.ofString "push" ∧ ¬ o.nam = Str.ofString "get" := by cases o <;> decide +kernel
theorem st_cons (v : Int) (st : List Int) : (v :: st).reverse.map D.int = st.reverse.map D.int ++ [.int v] := by simp
structure NmOk (kvs : List (Key × D)) (nm : Str → Int) : Prop where
  at_ : ∀ s ∈ nms, valD kvs (.inr s) = some (.int (nm s)) ∧ Bd (nm s)
def JW (kvs : List (Key × D)) (nm : Str → Int) (wo : O) (R : Rn) (r : List D) (e : Sto) : Prop := ∃ (ws : List Wd) (st : List Int) (x3 x4 x5 : Option Slot), r = ws.map Wd.d ∧ runW nm ws st = some R ∧ (∀ v ∈ st, Bd v) ∧ (∀ w ∈ ws, w.sm ∧ GetIn w) ∧ ws.length + st.length ≤ 1000 ∧ Fre' x3 ∧ Fre' x4 ∧ Fre' x5 ∧
  e = [some ⟨wo, true, true⟩, some ⟨.od kvs, true, false⟩, some ⟨.ol (st.reverse.map D.int), false, false⟩, x3, x4, x5]
local macro_rules | `(tactic| walk_at "law") => `(tactic| repeat' (first | walk_at "1" | ((with_reducible refine lend_ok ?_ ?_); (focus rfl)) | ((with_reducible apply wbx); (focus (walk_at "wb"; done)); (focus rfl)) | walk_at "tf" | walk_at "isi" | with_reducible refine tf_F (decide_eq_false (nam_neg _)) ?_ | with_reducible refine x_work (by assumption) (by assumption) ?_ | walk_at "both"))
theorem x_worths {kvs : List (Key × D)} {nm : Str → Int} (hk : NmOk kvs nm) {ws : List Wd} {R : Rn} (hr : runW nm ws [] = some R) (hs : ∀ w ∈ ws, w.sm ∧ GetIn w) (hl : ws.length ≤ 1000) {Q : Rs → List O → Prop} (q : Q (.o (rO R)) [.ol (ws.map Wd.d), .od kvs]) : XF F_worths [.ol (ws.map Wd.d), .od kvs] Q := by
  refine xf' rfl (by walk_at "at") ?_
  unfold f_worths
  walk_at "law"
  refine xl_inv' (JW kvs nm (.ol (ws.map Wd.d)) R) ⟨ws, [], none, none, none, rfl, hr, (fun v hv => nomatch hv), hs, hl, .n, .n, .n, rfl⟩ ?_ ?_
  · rintro e ⟨us, st, x3, x4, x5, h1, h2, h3, h4, h5, f3, f4, f5, rfl⟩
    have : us = [] := by
      cases us with
      | nil => rfl
      | cons a b => simp at h1
    subst this
    cases h2
    walk_at "law"
    exact q
  · rintro d r e ⟨us, st, x3, x4, x5, h1, h2, h3, h4, h5, f3, f4, f5, rfl⟩
    match us, h1, h2, h4, h5 with
    | w :: us, h1, h2, h4, h5 =>
      rw [List.map_cons] at h1
      obtain ⟨rfl, rfl⟩ := List.cons.inj h1
      have hw := h4 w (List.mem_cons_self ..)
      have h4' : ∀ x ∈ us, x.sm ∧ GetIn x := fun x hx => h4 x (List.mem_cons_of_mem _ hx)
      rw [List.length_cons] at h5
      have hsl : (st.reverse.map D.int).length ≤ 1000 := by simp; omega
      obtain ⟨kd, a, b⟩ := w
      cases kd with
      | push n =>
        simp only [Wd.d, Kd.str, Kd.arg]
        walk_at "law"
        have hn : Bd n := Sm.bd hw.1
        refine ⟨us, n :: st, _, _, _, rfl, h2, ?_, h4', by rw [List.length_cons]; omega, .s, f4, f5, by rw [st_cons]⟩
        intro v hv
        rcases List.mem_cons.mp hv with rfl | hv
        · exact hn
        · exact h3 v hv
      | get s =>
        obtain ⟨g1, g2⟩ := hk.at_ s hw.2
        simp only [Wd.d, Kd.str, Kd.arg]
        walk_at "law"
        refine xo g1 ?_
        walk_at "law"
        refine ⟨us, nm s :: st, _, _, _, rfl, h2, ?_, h4', by rw [List.length_cons]; omega, .s, f4, f5, by rw [st_cons]⟩
        intro v hv
        rcases List.mem_cons.mp hv with rfl | hv
        · exact g2
        · exact h3 v hv
      | neg =>
        match st, h2, h3, h5, hsl with
        | v :: st, h2, h3, h5, hsl =>
          have hs2 : (st.reverse.map D.int).length ≤ 1000 := by simp at hsl ⊢; omega
          rw [st_cons]
          simp only [Wd.d, Kd.str, Kd.arg]
          walk_at "law"
          have hv : Bd v := h3 v (List.mem_cons_self ..)
          refine ⟨us, (0 - v) :: st, _, _, _, rfl, h2, ?_, h4', by rw [List.length_cons] at h5 ⊢; omega, .s, f4, f5, by rw [st_cons]⟩
          intro u hu
          rcases List.mem_cons.mp hu with rfl | hu
          · unfold Bd at hv ⊢; omega
          · exact h3 u (List.mem_cons_of_mem _ hu)
      | op o =>
        match st, h2, h3, h5, hsl with
        | j :: i :: st, h2, h3, h5, hsl =>
          have hs2 : (st.reverse.map D.int).length ≤ 1000 := by simp at hsl ⊢; omega
          obtain ⟨n1, n2⟩ := nam_no o
          have hj : Bd j := h3 j (List.mem_cons_self ..)
          have hi : Bd i := h3 i (List.mem_cons_of_mem _ (List.mem_cons_self ..))
          rw [st_cons, st_cons]
          simp only [Wd.d, Kd.str, Kd.arg]
          walk_at "law"
          have h2' : thenW nm (ap o i j) us st = some R := by rw [← h2]; exact (run_op (p := (a, b))).symm
          have hsm := ap_sm o i j
          cases ha : ap o i j with
          | ok v =>
            rw [ha] at h2' hsm
            walk_at "law"
            simp only [wO]
            walk_at "law"
            refine ⟨us, v :: st, _, _, _, rfl, h2', ?_, h4', by rw [List.length_cons, List.length_cons] at h5; rw [List.length_cons]; omega, .s, .s, .s, by rw [st_cons]⟩
            intro u hu
            rcases List.mem_cons.mp hu with rfl | hu
            · exact Sm.bd hsm
            · exact h3 u (List.mem_cons_of_mem _ (List.mem_cons_of_mem _ hu))
          | zero =>
            rw [ha] at h2'
            cases h2'
            walk_at "law"
            simp only [wO]
            walk_at "law"
            exact q
          | great =>
            rw [ha] at h2'
            cases h2'
            walk_at "law"
            simp only [wO]
            walk_at "law"
            exact q
      | oth x d => cases h2
end K50

set_option maxRecDepth 100000
set_option maxHeartbeats 4000000
namespace K50
open PV PySem L2
local macro_rules | `(tactic| walk_at "all") => `(tactic| repeat' (first | walk_at "1" | ((with_reducible refine lend_ok ?_ ?_); (focus rfl)) | ((with_reducible apply wbx); (focus (walk_at "wb"; done)); (focus rfl)) | walk_at "tf" | walk_at "isi" | walk_at "both" | with_reducible refine ixL3 (by omega) (by omega) ?_ ?_ ?_))
local macro_rules | `(tactic| walk_at "run") => `(tactic| repeat (first | walk_at "1" | ((with_reducible refine lend_ok ?_ ?_); (focus rfl)) | ((with_reducible apply wbx); (focus (walk_at "wb"; done)); (focus rfl)) | walk_at "tf" | walk_at "isi"))
local macro_rules | `(tactic| walk_at "isi") => `(tactic| ((with_reducible show XO (oIsi _) _); first
  | refine isiT (c := .bool) rfl rfl rfl ?_ | refine isiF (c := .bool) rfl rfl rfl ?_ | refine isiT (c := .int) rfl rfl rfl ?_ | refine isiF (c := .int) rfl rfl rfl ?_ | refine isiT (c := .str) rfl rfl rfl ?_ | refine isiF (c := .str) rfl rfl rfl ?_
  | refine isiT (c := .dict) rfl rfl rfl ?_ | refine isiF (c := .dict) rfl rfl rfl ?_ | refine isiT (c := .tuple) rfl rfl rfl ?_ | refine isiF (c := .tuple) rfl rfl rfl ?_ | refine isiT (c := .list) rfl rfl rfl ?_ | refine isiF (c := .list) rfl rfl rfl ?_))
local macro_rules | `(tactic| walk_at "both") => `(tactic| with_reducible first | refine tf_d (fun _ => ?_) fun _ => ?_ | refine tf_nd (fun _ => ?_) fun _ => ?_ | refine tf_b (fun _ => ?_) fun _ => ?_)
local macro_rules | `(tactic| walk_at "tf") => `(tactic| with_reducible first | refine tf_T (by decide +kernel) ?_ | refine tf_F (by decide +kernel) ?_ | refine tf_T (decide_eq_true (by omega)) ?_ | refine tf_T (decide_eq_true (by simp only [List.length_cons]; omega)) ?_ | refine tf_F (decide_eq_false (by omega)) ?_ | refine tf_F (decide_eq_false (by assumption)) ?_ | refine tf_T (decide_eq_true (by assumption)) ?_ | refine tf_T (nd_T (by omega)) ?_ | refine tf_F (nd_F (by omega)) ?_ | refine tf_T (nd_T (by assumption)) ?_ | refine tf_F (nd_F (by assumption)) ?_)
local macro_rules | `(tactic| walk_at "wb") => `(tactic| (repeat (first | exact Wb.nil | apply Wb.tmp | apply Wb.shr | (apply Wb.ol'; (focus rfl)) | (apply Wb.od'; (focus rfl)) | (exact Chg.z) | apply Chg.s)))
local macro_rules | `(tactic| walk_at "op") => `(tactic| with_reducible first | refine xal ?_ | refine xals ?_ | (apply xat; (focus (first | exact at0 | exact at1 | exact at2 | assumption))) | refine trI ?_ | refine trB ?_ | refine trN ?_ | refine trL ?_ | refine trLs ?_)
local macro_rules | `(tactic| walk_at "op") => `(tactic| with_reducible first | refine xo_minN ?_ | refine xo_max ?_ | refine xo_min ?_ | (apply strI; (focus omega)) | (apply xo_addN; (focus decide +kernel); (focus omega)) | (apply xo_addS; (focus decide +kernel)) | (apply xo_addT; (focus (refine ⟨List.cons_ne_nil _ _, List.cons_ne_nil _ _, ?_⟩; simp only [List.length_cons, List.length_nil]; omega))) | refine xai ?_ | refine xab ?_)
local macro_rules | `(tactic| walk_at "op") => `(tactic| with_reducible first | refine lsL ?_ | refine lsLs ?_ | refine lsT ?_ | refine slL ?_ | refine slLs ?_ | refine xo_intI ?_ | refine xo_abs ?_ | refine xo_maxN ?_ | refine xo_max1 ?_)
local macro_rules | `(tactic| walk_at "op") => `(tactic| with_reducible first | (apply ixLs; (focus (first | exact at0 | exact at1 | exact at2 | assumption))) | (apply ixT; (focus (first | exact at0 | exact at1 | exact at2 | assumption))) | refine lnL ?_ | refine lnLs ?_ | refine lnT ?_ | refine lnSc ?_ | refine slSc ?_ | (apply ixSc; (focus (first | exact at0 | exact at1 | exact at2 | assumption))) | (apply xo_sumL rfl))
local macro_rules | `(tactic| walk_at "op") => `(tactic| with_reducible first | refine isN2 ?_ | refine isN3 ?_ | refine isN4 ?_ | refine isN5 ?_ | refine noN ?_ | refine noN0 ?_ | refine noN1 ?_ | refine noN2 ?_ | (apply ixL; (focus (first | exact at0 | exact at1 | exact at2 | assumption))))
local macro_rules | `(tactic| walk_at "op") => `(tactic| with_reducible first | refine xo_ge ?_ | refine xo_neg ?_ | refine eqI ?_ | refine neI ?_ | refine eqSt ?_ | refine neSt ?_ | refine isN ?_ | refine isN0 ?_ | refine isN1 ?_)
local macro_rules | `(tactic| walk_at "op") => `(tactic| with_reducible first | refine xo_sub ?_ | (apply xo_mul; (focus (first | exact mulR (by decide) | exact mulL (by decide) | exact mulR (by omega) | exact mulL (by omega) | exact mulW (by decide +kernel)))) | (apply xo_div; (focus (first | exact divK (by decide) | exact divK (by omega)))) | (apply xo_modP; (focus (first | decide | omega | decide +kernel)); intro _ _ _) | (apply xo_mod; (focus (first | decide | omega | decide +kernel))) | (apply xo_pow; focus exact powK (by decide)) | refine xo_lt ?_ | refine xo_le ?_ | refine xo_gt ?_)
local macro_rules | `(tactic| walk_at "op") => `(tactic| with_reducible first | refine xo_neD ?_ | refine xo_eqD ?_ | refine xas ?_ | refine xo_strAS ?_ | refine xo_inStr ?_ | refine xo_notInStr ?_ | refine xo_inG ?_ | refine xo_addI ?_ | refine xo_addI' ?_)
local macro_rules | `(tactic| walk_at "op") => `(tactic| with_reducible first | (apply xp_g; (focus (walk_at "at"; done))) | refine xr_o ?_ | refine ak_o ?_ | refine ak_s ?_ | refine ko_s ?_ | refine ko_i ?_ | refine xo_dget ?_ | refine xo_din ?_ | refine xo_dict ?_)
local macro_rules | `(tactic| walk_at "op") => `(tactic| with_reducible first | (apply xg_v; (focus (walk_at "at"; done))) | refine xg_t ?_ | refine xh_nil ?_ | (apply xh_v; (focus (walk_at "at"; done))) | refine xh_t ?_ | (refine xg_T rfl ?_) | refine xg_nil ?_ | refine xg_cons ?_ | (apply xw_s; (focus (walk_at "at"; done))))
local macro_rules | `(tactic| walk_at "1") => `(tactic| with_reducible first | refine par2 ?_ | refine lenAnd (by simp only [List.length_cons, List.length_nil]; omega) ?_ | (apply r1N; (focus omega)) | (apply r2S; (focus omega)) | (apply r1; (focus omega)) | (apply r2; (focus omega)) | refine xl_nil' ?_ | (apply def_rt; (focus (walk_at "at"; done))) | (apply def_nx; (focus (walk_at "at"; done))))
local macro_rules | `(tactic| walk_at "1") => `(tactic| with_reducible first | (apply xsi; (focus (walk_at "at"; done))) | refine ex_shr ?_ | refine len15 (by simp only [List.length_cons, List.length_nil]; omega) ?_ | (apply xsd; (focus (walk_at "at"; done))) | refine par3 ?_ | (apply acc2; (focus (first | omega | (simp only [List.length_cons, List.length_nil, List.length_append]; omega))); (focus (walk_at "at"; done)); (focus (walk_at "at"; done))))
local macro_rules | `(tactic| walk_at "1") => `(tactic| with_reducible ((show XPs _ _ _); (first | refine xps_nil ?_ | refine xps_cons ?_)))
local macro_rules | `(tactic| walk_at "1") => `(tactic| with_reducible ((show XLk _ _ _); (first | refine xlk_t ?_ | (apply xlk_s; (focus (walk_at "at"; done))) | (apply xlk_l; (focus (walk_at "at"; done))))))
local macro_rules | `(tactic| walk_at "1") => `(tactic| with_reducible ((show XJ _ _); (first | refine xj_l ?_ | refine xj_ls ?_ | refine xj_t ?_ | refine xj_s ?_)))
local macro_rules | `(tactic| walk_at "1") => `(tactic| with_reducible ((show lcQ2 _ _ _ _ _ _ _ _); (first | (apply lc2_n; (focus (walk_at "at"; done)); (focus (walk_at "at"; done)); (focus (walk_at "at"; done)); (focus (walk_at "at"; done))) | (apply lc2_l; (focus (walk_at "at"; done)); (focus (walk_at "at"; done)); (focus (walk_at "at"; done)); (focus (walk_at "at"; done)); (focus (walk_at "at"; done))))))
local macro_rules | `(tactic| walk_at "1") => `(tactic| with_reducible ((show lcQ _ _ _ _ _ _ _ _); (first | (apply lc_n; (focus (walk_at "at"; done)); (focus (walk_at "at"; done))) | (apply lc_l; (focus (walk_at "at"; done)); (focus (walk_at "at"; done)); (focus (walk_at "at"; done))))))
local macro_rules | `(tactic| walk_at "1") => `(tactic| with_reducible ((show forQ _ _ _ _ _ _); (first | refine for_n ?_ | (apply for_l; (focus (walk_at "at"; done))))))
local macro_rules | `(tactic| walk_at "1") => `(tactic| with_reducible ((show unlQ _ _ _); (first | refine unl_n ?_ | (apply unl_nx; (focus (walk_at "at"; done))) | refine unl_rt ?_)))
local macro_rules | `(tactic| walk_at "1") => `(tactic| with_reducible ((show turnQ _ _ _); (first | refine turn_nx ?_ | refine turn_ct ?_ | refine turn_bk ?_ | refine turn_rt ?_)))
local macro_rules | `(tactic| walk_at "1") => `(tactic| with_reducible ((show XC _ _ _ _ _ _ _ _); (first | refine xc_nil' ?_ | refine xc2_nil ?_ | refine xc2_cons ?_ | refine xc_yes1 ?_)))
local macro_rules | `(tactic| walk_at "1") => `(tactic| with_reducible ((show XM _ _ _ _); (first | (apply xm_set; (focus (walk_at "at"; done)); (focus (first | exact setL0 | exact setL1 | exact setL2 | assumption)); (focus (walk_at "at"; done))) | (apply xm_app; (focus (walk_at "at"; done)); (focus (first | assumption | omega | decide | (simp only [List.length_append, List.length_cons, List.length_nil]; omega))); (focus (walk_at "at"; done))) | (apply xm_put; (focus (walk_at "at"; done)); (focus omega); (focus (walk_at "at"; done))) | (apply xm_pop0; (focus (walk_at "at"; done)); (focus (walk_at "at"; done))) | (apply xm_pop; (focus (walk_at "at"; done)); (focus (walk_at "at"; done))))))
local macro_rules | `(tactic| walk_at "1") => `(tactic| with_reducible ((show XRt _ _ _); (first | refine xrt_t ?_ | (apply xrt_s; (focus (walk_at "at"; done))) | (apply xrt_pl; (focus (walk_at "at"; done))) | (apply xrt_l; (focus (walk_at "at"; done)); (focus (walk_at "at"; done))) | (apply xrt_k; (focus (walk_at "at"; done)); (focus (walk_at "at"; done))) | (apply xrt_pk; (focus (walk_at "at"; done))))))
local macro_rules | `(tactic| walk_at "1") => `(tactic| with_reducible ((show XI _ _ _); (first | refine xi_r1' ?_ | refine xi_r2' ?_ | refine xi_seq' ?_)))
local macro_rules | `(tactic| walk_at "1") => `(tactic| with_reducible ((show XP _ _ _); (first | refine xp_no ?_ | refine xp_some ?_)))
local macro_rules | `(tactic| walk_at "1") => `(tactic| with_reducible ((show seqQ _ _ _); (first | refine seq_nx ?_ | refine seq_rt ?_ | refine seq_bk ?_ | refine seq_ct ?_)))
local macro_rules | `(tactic| walk_at "1") => `(tactic| with_reducible ((show XW _ _ _ _); (first | (apply xw_t; (focus (walk_at "at"; done))) | refine xw_v ?_)))
local macro_rules | `(tactic| walk_at "1") => `(tactic| with_reducible ((show XT _ _ _); (first | refine xt_s ?_ | refine xt_l ?_ | refine xt_k ?_ | (apply xt_vs; (focus (walk_at "at"; done))) | (apply xt_vl; (focus (walk_at "at"; done))) | (apply xt_vk; (focus (walk_at "at"; done))))))
local macro_rules | `(tactic| walk_at "1") => `(tactic| with_reducible ((show XD _ _ _); (first | refine xd ?_)))
local macro_rules | `(tactic| walk_at "1") => `(tactic| with_reducible ((show TF _ _ _); (first | refine tf_t ?_ | refine tf_f ?_)))
local macro_rules | `(tactic| walk_at "1") => `(tactic| with_reducible ((show XHs _ _ _); (first | refine xhs_nil ?_ | refine xhs_cons ?_)))
local macro_rules | `(tactic| walk_at "1") => `(tactic| with_reducible ((show XDs _ _ _); (first | refine xds_nil ?_ | refine xds_cons ?_)))
local macro_rules | `(tactic| walk_at "1") => `(tactic| with_reducible ((show XB _ _ _); (first | refine xb_and' ?_ | refine xb_or' ?_ | refine xb_not ?_ | refine xb_val ?_ | refine xb_tru ?_ | refine xb_yes ?_)))
local macro_rules | `(tactic| walk_at "1") => `(tactic| with_reducible ((show XS _ _ _); (first | refine xs_seq' ?_ | refine xs_nil ?_ | refine xs_set' ?_ | refine xs_asg ?_ | refine xs_par2 ?_ | refine xs_drop ?_ | refine xs_ret' ?_ | refine xs_retN ?_ | refine xs_if' ?_ | refine xs_brk ?_ | refine xs_cont ?_ | refine xs_for' ?_ | (refine xs_setIx2 ?_) | (apply xs_augIx'L; (focus (walk_at "at"; done))) | (apply xs_aug'; (focus (walk_at "at"; done))) | refine xs_setDx ?_ | refine xs_par3 ?_)))
local macro_rules | `(tactic| walk_at "1") => `(tactic| with_reducible ((show XE _ _ _); (first | (apply xv; (focus (walk_at "at"; done))) | refine xe_c ?_ | refine xe_bin ?_ | refine xe_un ?_ | refine xe_if' ?_ | refine xe_B ?_ | refine xe_callB ?_ | refine xe_tup ?_ | refine xe_lst ?_ | refine xe_sl ?_ | (apply xe_mt'L; (focus (walk_at "at"; done))) | refine xe_lc' ?_ | (refine xe_call' ?_) | refine xe_o ?_ | refine xe_get2 ?_ | refine xe_get1 ?_ | refine xe_disp ?_ | refine xe_join ?_ | refine xe_lc2 ?_ | refine xe_sidx ?_)))
local macro_rules | `(tactic| walk_at "1") => `(tactic| with_reducible ((show XO _ _); (walk_at "op")))
local macro_rules | `(tactic| walk_at "at") => `(tactic| with_reducible first | ((repeat (apply At.s)); (exact At.z)) | ((repeat (apply Put.s)); (first | exact Put.n | exact Put.z | exact Put.f (by assumption))) | ((repeat (apply Chg.s)); (exact Chg.z)) | ((repeat (apply SetAt.s)); (exact SetAt.z)) | ((repeat (apply Slt.s)); (exact Slt.z)) | ((repeat (apply Fin'.s)); (exact Fin'.z)) | ((repeat (first | apply Ini.shr | apply Ini.n | apply Ini.ol | apply Ini.od)); (exact Ini.z)) | exact Wb.nil)
-- END MACRO
/-! ### nothing is left -/
def NlF (ws : List Wd) : Prop := ∀ k (h : k < ws.length), step (ws.take k).reverse ws[k] = ws[k] :: (ws.take k).reverse
theorem nl_f : ∀ {acc : List Wd}, Nl acc → NlF acc.reverse
  | [], _ => fun k h => by simp at h
  | x :: r, hn => fun k h => by
    have ih := nl_f hn.2
    by_cases c : k < r.reverse.length
    · have e1 : (x :: r).reverse.take k = r.reverse.take k := by
        rw [List.reverse_cons, List.take_append_of_le_length (by omega)]
      have e2 : (x :: r).reverse[k] = r.reverse[k] := by
        simp only [List.reverse_cons]
        exact List.getElem_append_left c
      rw [e1, e2]
      exact ih k c
    · have hk : k = r.reverse.length := by
        rw [List.reverse_cons, List.length_append] at h
        simp at h c ⊢; omega
      subst hk
      have e1 : (x :: r).reverse.take r.reverse.length = r.reverse := by rw [List.reverse_cons]; exact List.take_left
      have e2 : (x :: r).reverse[r.reverse.length] = x := by simp
      rw [e1, e2, List.reverse_reverse]
      exact hn.1
theorem take_rev {ws : List Wd} {k : Nat} (h : k + 1 ≤ ws.length) : (ws.take (k + 1)).reverse = ws[k] :: (ws.take k).reverse := by
  rw [List.take_succ_eq_append_getElem (by omega), List.reverse_append]; rfl
theorem nl_neg {ws : List Wd} (hn : NlF ws) (hs : ∀ w ∈ ws, w.sm) {k : Nat} (h : k + 1 < ws.length) {a b : D} (e : ws[k + 1] = ⟨.neg, a, b⟩) : isP ws[k] = false := by
  have q := hn (k + 1) h
  rw [e, take_rev (by omega)] at q
  cases hp : isP ws[k] with
  | false => rfl
  | true =>
    obtain ⟨n, x, y, e2⟩ := isP_T hp
    have sn : Sm n := by
      have := hs ws[k] (List.getElem_mem (by omega))
      rw [e2] at this
      exact this
    rw [e2] at q
    unfold step at q
    dsimp only at q
    rw [chk_ok sn.neg] at q
    have := congrArg List.length q
    simp at this
theorem nl_op {ws : List Wd} (hn : NlF ws) {k : Nat} (h : k + 2 < ws.length) {o : Op} {a b : D} (e : ws[k + 2] = ⟨.op o, a, b⟩) {i j : Int} {x y x' y' : D} (e1 : ws[k] = ⟨.push i, x, y⟩) (e2 : ws[k + 1] = ⟨.push j, x', y'⟩) : ∃ s, wO (ap o i j) = .str s := by
  have q := hn (k + 2) h
  rw [e, take_rev (by omega), take_rev (by omega), e1, e2] at q
  unfold step at q
  dsimp only at q
  cases ha : ap o i j with
  | ok v =>
    rw [ha] at q
    have := congrArg List.length q
    simp at this
  | zero => exact ⟨_, rfl⟩
  | great => exact ⟨_, rfl⟩
theorem ixN {ws : List Wd} {k : Nat} (h : k < ws.length) {Q : O → Prop} (q : Q (.shr (ws[k]).d)) : XO (oIx (.ol (ws.map Wd.d)) (.shr (.int (k : Nat)))) Q := by
  refine ixL (at_nat (by simpa using h)) ?_
  rw [List.getElem_map]
  exact q
theorem ixP {ws : List Wd} {k : Nat} (h : k < ws.length) {Q : O → Prop} (q : Q (.shr (ws[k]).d)) : XO (oIx (.ol (ws.map Wd.d)) (.shr (.int (((k + 1 : Nat) : Int) - 1)))) Q := by
  have : (((k + 1 : Nat) : Int) - 1) = (k : Nat) := by omega
  rw [this]; exact ixN h q
theorem ixP2 {ws : List Wd} {k : Nat} (h : k + 1 < ws.length) {Q : O → Prop} (q : Q (.shr (ws[k + 1]).d)) : XO (oIx (.ol (ws.map Wd.d)) (.shr (.int (((k + 2 : Nat) : Int) - 1)))) Q := by
  have : (((k + 2 : Nat) : Int) - 1) = (k + 1 : Nat) := by omega
  rw [this]; exact ixN h q
theorem ixPP {ws : List Wd} {k : Nat} (h : k < ws.length) {Q : O → Prop} (q : Q (.shr (ws[k]).d)) : XO (oIx (.ol (ws.map Wd.d)) (.shr (.int (((k + 2 : Nat) : Int) - 2)))) Q := by
  have : (((k + 2 : Nat) : Int) - 2) = (k : Nat) := by omega
  rw [this]; exact ixN h q
theorem d_at0 {w : Wd} {Q : O → Prop} (q : Q (.shr (.str w.k.str))) : XO (oIx (.shr w.d) (.shr (.int 0))) Q := ixT at0 q
theorem d_at1 {w : Wd} {Q : O → Prop} (q : Q (.shr w.k.arg)) : XO (oIx (.shr w.d) (.shr (.int 1))) Q := ixT at1 q
theorem eqP {w : Wd} {c : Bool} (h : isP w = c) {Q : O → Prop} (q : Q (.shr (.bl c))) : XO (oEq (.shr (.str w.k.str)) (.shr (.str (Str.ofString "push")))) Q := eqSt (by rw [isP_str, h]; exact q)
def JL (ws : List Wd) (k : Nat) (e : Sto) : Prop := ∃ x1 x2, Fre' x1 ∧ Fre' x2 ∧ e = [some ⟨.ol (ws.map Wd.d), true, false⟩, x1, x2]
local macro_rules | `(tactic| walk_at "law") => `(tactic| repeat' (first | with_reducible refine d_at0 ?_ | with_reducible refine eqP (by assumption) ?_ | with_reducible refine d_at1 ?_ | walk_at "1" | ((with_reducible refine lend_ok ?_ ?_); (focus rfl)) | ((with_reducible apply wbx); (focus (walk_at "wb"; done)); (focus rfl)) | walk_at "tf" | walk_at "isi" | with_reducible refine tf_F (decide_eq_false (nam_neg _)) ?_ | with_reducible refine tf_F (decide_eq_false (oth_neg _)) ?_ | with_reducible refine in_nam _ ?_ | with_reducible refine in_oth _ ?_ | with_reducible refine in_T (by decide +kernel) ?_ | with_reducible refine in_F (by decide +kernel) ?_ | walk_at "both"))
theorem x_left {ws : List Wd} (hn : NlF ws) (hs : ∀ w ∈ ws, w.sm) (hl : ws.length ≤ 1000) {Q : Rs → List O → Prop} (q : Q (.o (.shr (.bl false))) [.ol (ws.map Wd.d)]) : XF F_left [.ol (ws.map Wd.d)] Q := by
  refine xf' rfl (by walk_at "at") ?_
  unfold f_left
  walk_at "1"
  have hlm : (ws.map Wd.d).length = ws.length := List.length_map ..
  walk_at "law"
  refine xl_map (JL ws) ⟨none, none, .n, .n, rfl⟩ ?_ ?_
  · rintro e ⟨x1, x2, f1, f2, rfl⟩
    walk_at "law"
    exact q
  · rintro k e hk ⟨x1, x2, f1, f2, rfl⟩
    have hk' : k < ws.length := by rw [hlm] at hk; exact hk
    walk_at "law"
    refine ixN hk' ?_
    cases hw : ws[k] with
    | mk kd a b =>
    cases kd with
    | push n =>
      simp only [Wd.d, Kd.str, Kd.arg]
      walk_at "law"
      exact ⟨_, _, .s, .s, rfl⟩
    | get n =>
      simp only [Wd.d, Kd.str, Kd.arg]
      walk_at "law"
      exact ⟨_, _, .s, .s, rfl⟩
    | oth x d =>
      simp only [Wd.d, Kd.str, Kd.arg]
      walk_at "law"
      exact ⟨_, _, .s, .s, rfl⟩
    | neg =>
      simp only [Wd.d, Kd.str, Kd.arg]
      match k, hk', hw with
      | 0, hk', hw =>
        walk_at "law"
        exact ⟨_, _, .s, .s, rfl⟩
      | k + 1, hk', hw =>
        have hp := nl_neg hn hs hk' hw
        walk_at "law"
        refine ixP (by omega) ?_
        walk_at "law"
        exact ⟨_, _, .s, .s, rfl⟩
    | op o =>
      simp only [Wd.d, Kd.str, Kd.arg]
      match k, hk', hw with
      | 0, hk', hw =>
        walk_at "law"
        exact ⟨_, _, .s, .s, rfl⟩
      | 1, hk', hw =>
        walk_at "law"
        exact ⟨_, _, .s, .s, rfl⟩
      | k + 2, hk', hw =>
        cases hp : isP ws[k + 1] with
        | false =>
          walk_at "law"
          refine ixP2 (by omega) ?_
          walk_at "law"
          exact ⟨_, _, .s, .s, rfl⟩
        | true =>
          cases hp2 : isP ws[k] with
          | false =>
            walk_at "law"
            refine ixP2 (by omega) ?_
            walk_at "law"
            refine ixPP (by omega) ?_
            walk_at "law"
            exact ⟨_, _, .s, .s, rfl⟩
          | true =>
            obtain ⟨j, x', y', e2⟩ := isP_T hp
            obtain ⟨i, x, y, e1⟩ := isP_T hp2
            have si : Sm i := by have := hs ws[k] (List.getElem_mem (by omega)); rw [e1] at this; exact this
            have sj : Sm j := by have := hs ws[k + 1] (List.getElem_mem (by omega)); rw [e2] at this; exact this
            obtain ⟨s, es⟩ := nl_op hn hk' hw e1 e2
            walk_at "law"
            refine ixP2 (by omega) ?_
            walk_at "law"
            refine ixPP (by omega) ?_
            walk_at "law"
            refine ixPP (by omega) ?_
            rw [e1]
            walk_at "law"
            refine ixP2 (by omega) ?_
            rw [e2]
            walk_at "law"
            simp only [Kd.arg]
            refine x_work si.bd sj.bd ?_
            rw [es]
            walk_at "law"
            exact ⟨_, _, .s, .s, rfl⟩
end K50

set_option maxRecDepth 100000
set_option maxHeartbeats 4000000
namespace K50
open PV PySem L2
local macro_rules | `(tactic| walk_at "all") => `(tactic| repeat' (first | walk_at "1" | ((with_reducible refine lend_ok ?_ ?_); (focus rfl)) | ((with_reducible apply wbx); (focus (walk_at "wb"; done)); (focus rfl)) | walk_at "tf" | walk_at "isi" | walk_at "both" | with_reducible refine ixL3 (by omega) (by omega) ?_ ?_ ?_))
local macro_rules | `(tactic| walk_at "run") => `(tactic| repeat (first | walk_at "1" | ((with_reducible refine lend_ok ?_ ?_); (focus rfl)) | ((with_reducible apply wbx); (focus (walk_at "wb"; done)); (focus rfl)) | walk_at "tf" | walk_at "isi"))
local macro_rules | `(tactic| walk_at "isi") => `(tactic| ((with_reducible show XO (oIsi _) _); first
  | refine isiT (c := .bool) rfl rfl rfl ?_ | refine isiF (c := .bool) rfl rfl rfl ?_ | refine isiT (c := .int) rfl rfl rfl ?_ | refine isiF (c := .int) rfl rfl rfl ?_ | refine isiT (c := .str) rfl rfl rfl ?_ | refine isiF (c := .str) rfl rfl rfl ?_
  | refine isiT (c := .dict) rfl rfl rfl ?_ | refine isiF (c := .dict) rfl rfl rfl ?_ | refine isiT (c := .tuple) rfl rfl rfl ?_ | refine isiF (c := .tuple) rfl rfl rfl ?_ | refine isiT (c := .list) rfl rfl rfl ?_ | refine isiF (c := .list) rfl rfl rfl ?_))
local macro_rules | `(tactic| walk_at "both") => `(tactic| with_reducible first | refine tf_d (fun _ => ?_) fun _ => ?_ | refine tf_nd (fun _ => ?_) fun _ => ?_ | refine tf_b (fun _ => ?_) fun _ => ?_)
local macro_rules | `(tactic| walk_at "tf") => `(tactic| with_reducible first | refine tf_T (by decide +kernel) ?_ | refine tf_F (by decide +kernel) ?_ | refine tf_T (decide_eq_true (by omega)) ?_ | refine tf_T (decide_eq_true (by simp only [List.length_cons]; omega)) ?_ | refine tf_F (decide_eq_false (by omega)) ?_ | refine tf_F (decide_eq_false (by assumption)) ?_ | refine tf_T (decide_eq_true (by assumption)) ?_ | refine tf_T (nd_T (by omega)) ?_ | refine tf_F (nd_F (by omega)) ?_ | refine tf_T (nd_T (by assumption)) ?_ | refine tf_F (nd_F (by assumption)) ?_)
local macro_rules | `(tactic| walk_at "wb") => `(tactic| (repeat (first | exact Wb.nil | apply Wb.tmp | apply Wb.shr | (apply Wb.ol'; (focus rfl)) | (apply Wb.od'; (focus rfl)) | (exact Chg.z) | apply Chg.s)))
local macro_rules | `(tactic| walk_at "op") => `(tactic| with_reducible first | refine xal ?_ | refine xals ?_ | (apply xat; (focus (first | exact at0 | exact at1 | exact at2 | assumption))) | refine trI ?_ | refine trB ?_ | refine trN ?_ | refine trL ?_ | refine trLs ?_)
local macro_rules | `(tactic| walk_at "op") => `(tactic| with_reducible first | refine xo_minN ?_ | refine xo_max ?_ | refine xo_min ?_ | (apply strI; (focus omega)) | (apply xo_addN; (focus decide +kernel); (focus omega)) | (apply xo_addS; (focus decide +kernel)) | (apply xo_addT; (focus (refine ⟨List.cons_ne_nil _ _, List.cons_ne_nil _ _, ?_⟩; simp only [List.length_cons, List.length_nil]; omega))) | refine xai ?_ | refine xab ?_)
local macro_rules | `(tactic| walk_at "op") => `(tactic| with_reducible first | refine lsL ?_ | refine lsLs ?_ | refine lsT ?_ | refine slL ?_ | refine slLs ?_ | refine xo_intI ?_ | refine xo_abs ?_ | refine xo_maxN ?_ | refine xo_max1 ?_)
local macro_rules | `(tactic| walk_at "op") => `(tactic| with_reducible first | (apply ixLs; (focus (first | exact at0 | exact at1 | exact at2 | assumption))) | (apply ixT; (focus (first | exact at0 | exact at1 | exact at2 | assumption))) | refine lnL ?_ | refine lnLs ?_ | refine lnT ?_ | refine lnSc ?_ | refine slSc ?_ | (apply ixSc; (focus (first | exact at0 | exact at1 | exact at2 | assumption))) | (apply xo_sumL rfl))
local macro_rules | `(tactic| walk_at "op") => `(tactic| with_reducible first | refine isN2 ?_ | refine isN3 ?_ | refine isN4 ?_ | refine isN5 ?_ | refine noN ?_ | refine noN0 ?_ | refine noN1 ?_ | refine noN2 ?_ | (apply ixL; (focus (first | exact at0 | exact at1 | exact at2 | assumption))))
local macro_rules | `(tactic| walk_at "op") => `(tactic| with_reducible first | refine xo_ge ?_ | refine xo_neg ?_ | refine eqI ?_ | refine neI ?_ | refine eqSt ?_ | refine neSt ?_ | refine isN ?_ | refine isN0 ?_ | refine isN1 ?_)
local macro_rules | `(tactic| walk_at "op") => `(tactic| with_reducible first | refine xo_sub ?_ | (apply xo_mul; (focus (first | exact mulR (by decide) | exact mulL (by decide) | exact mulR (by omega) | exact mulL (by omega) | exact mulW (by decide +kernel)))) | (apply xo_div; (focus (first | exact divK (by decide) | exact divK (by omega)))) | (apply xo_modP; (focus (first | decide | omega | decide +kernel)); intro _ _ _) | (apply xo_mod; (focus (first | decide | omega | decide +kernel))) | (apply xo_pow; focus exact powK (by decide)) | refine xo_lt ?_ | refine xo_le ?_ | refine xo_gt ?_)
local macro_rules | `(tactic| walk_at "op") => `(tactic| with_reducible first | refine xo_neD ?_ | refine xo_eqD ?_ | refine xas ?_ | refine xo_strAS ?_ | refine xo_inStr ?_ | refine xo_notInStr ?_ | refine xo_inG ?_ | refine xo_addI ?_ | refine xo_addI' ?_)
local macro_rules | `(tactic| walk_at "op") => `(tactic| with_reducible first | (apply xp_g; (focus (walk_at "at"; done))) | refine xr_o ?_ | refine ak_o ?_ | refine ak_s ?_ | refine ko_s ?_ | refine ko_i ?_ | refine xo_dget ?_ | refine xo_din ?_ | refine xo_dict ?_)
local macro_rules | `(tactic| walk_at "op") => `(tactic| with_reducible first | (apply xg_v; (focus (walk_at "at"; done))) | refine xg_t ?_ | refine xh_nil ?_ | (apply xh_v; (focus (walk_at "at"; done))) | refine xh_t ?_ | (refine xg_T rfl ?_) | refine xg_nil ?_ | refine xg_cons ?_ | (apply xw_s; (focus (walk_at "at"; done))))
local macro_rules | `(tactic| walk_at "1") => `(tactic| with_reducible first | refine par2 ?_ | refine lenAnd (by simp only [List.length_cons, List.length_nil]; omega) ?_ | (apply r1N; (focus omega)) | (apply r2S; (focus omega)) | (apply r1; (focus omega)) | (apply r2; (focus omega)) | refine xl_nil' ?_ | (apply def_rt; (focus (walk_at "at"; done))) | (apply def_nx; (focus (walk_at "at"; done))))
local macro_rules | `(tactic| walk_at "1") => `(tactic| with_reducible first | (apply xsi; (focus (walk_at "at"; done))) | refine ex_shr ?_ | refine len15 (by simp only [List.length_cons, List.length_nil]; omega) ?_ | (apply xsd; (focus (walk_at "at"; done))) | refine par3 ?_ | (apply acc2; (focus (first | omega | (simp only [List.length_cons, List.length_nil, List.length_append]; omega))); (focus (walk_at "at"; done)); (focus (walk_at "at"; done))))
local macro_rules | `(tactic| walk_at "1") => `(tactic| with_reducible ((show XPs _ _ _); (first | refine xps_nil ?_ | refine xps_cons ?_)))
local macro_rules | `(tactic| walk_at "1") => `(tactic| with_reducible ((show XLk _ _ _); (first | refine xlk_t ?_ | (apply xlk_s; (focus (walk_at "at"; done))) | (apply xlk_l; (focus (walk_at "at"; done))))))
local macro_rules | `(tactic| walk_at "1") => `(tactic| with_reducible ((show XJ _ _); (first | refine xj_l ?_ | refine xj_ls ?_ | refine xj_t ?_ | refine xj_s ?_)))
local macro_rules | `(tactic| walk_at "1") => `(tactic| with_reducible ((show lcQ2 _ _ _ _ _ _ _ _); (first | (apply lc2_n; (focus (walk_at "at"; done)); (focus (walk_at "at"; done)); (focus (walk_at "at"; done)); (focus (walk_at "at"; done))) | (apply lc2_l; (focus (walk_at "at"; done)); (focus (walk_at "at"; done)); (focus (walk_at "at"; done)); (focus (walk_at "at"; done)); (focus (walk_at "at"; done))))))
local macro_rules | `(tactic| walk_at "1") => `(tactic| with_reducible ((show lcQ _ _ _ _ _ _ _ _); (first | (apply lc_n; (focus (walk_at "at"; done)); (focus (walk_at "at"; done))) | (apply lc_l; (focus (walk_at "at"; done)); (focus (walk_at "at"; done)); (focus (walk_at "at"; done))))))
local macro_rules | `(tactic| walk_at "1") => `(tactic| with_reducible ((show forQ _ _ _ _ _ _); (first | refine for_n ?_ | (apply for_l; (focus (walk_at "at"; done))))))
local macro_rules | `(tactic| walk_at "1") => `(tactic| with_reducible ((show unlQ _ _ _); (first | refine unl_n ?_ | (apply unl_nx; (focus (walk_at "at"; done))) | refine unl_rt ?_)))
local macro_rules | `(tactic| walk_at "1") => `(tactic| with_reducible ((show turnQ _ _ _); (first | refine turn_nx ?_ | refine turn_ct ?_ | refine turn_bk ?_ | refine turn_rt ?_)))
local macro_rules | `(tactic| walk_at "1") => `(tactic| with_reducible ((show XC _ _ _ _ _ _ _ _); (first | refine xc_nil' ?_ | refine xc2_nil ?_ | refine xc2_cons ?_ | refine xc_yes1 ?_)))
local macro_rules | `(tactic| walk_at "1") => `(tactic| with_reducible ((show XM _ _ _ _); (first | (apply xm_set; (focus (walk_at "at"; done)); (focus (first | exact setL0 | exact setL1 | exact setL2 | assumption)); (focus (walk_at "at"; done))) | (apply xm_app; (focus (walk_at "at"; done)); (focus (first | assumption | omega | decide | (simp only [List.length_append, List.length_cons, List.length_nil]; omega))); (focus (walk_at "at"; done))) | (apply xm_put; (focus (walk_at "at"; done)); (focus omega); (focus (walk_at "at"; done))) | (apply xm_pop0; (focus (walk_at "at"; done)); (focus (walk_at "at"; done))) | (apply xm_pop; (focus (walk_at "at"; done)); (focus (walk_at "at"; done))))))
local macro_rules | `(tactic| walk_at "1") => `(tactic| with_reducible ((show XRt _ _ _); (first | refine xrt_t ?_ | (apply xrt_s; (focus (walk_at "at"; done))) | (apply xrt_pl; (focus (walk_at "at"; done))) | (apply xrt_l; (focus (walk_at "at"; done)); (focus (walk_at "at"; done))) | (apply xrt_k; (focus (walk_at "at"; done)); (focus (walk_at "at"; done))) | (apply xrt_pk; (focus (walk_at "at"; done))))))
local macro_rules | `(tactic| walk_at "1") => `(tactic| with_reducible ((show XI _ _ _); (first | refine xi_r1' ?_ | refine xi_r2' ?_ | refine xi_seq' ?_)))
local macro_rules | `(tactic| walk_at "1") => `(tactic| with_reducible ((show XP _ _ _); (first | refine xp_no ?_ | refine xp_some ?_)))
local macro_rules | `(tactic| walk_at "1") => `(tactic| with_reducible ((show seqQ _ _ _); (first | refine seq_nx ?_ | refine seq_rt ?_ | refine seq_bk ?_ | refine seq_ct ?_)))
local macro_rules | `(tactic| walk_at "1") => `(tactic| with_reducible ((show XW _ _ _ _); (first | (apply xw_t; (focus (walk_at "at"; done))) | refine xw_v ?_)))
local macro_rules | `(tactic| walk_at "1") => `(tactic| with_reducible ((show XT _ _ _); (first | refine xt_s ?_ | refine xt_l ?_ | refine xt_k ?_ | (apply xt_vs; (focus (walk_at "at"; done))) | (apply xt_vl; (focus (walk_at "at"; done))) | (apply xt_vk; (focus (walk_at "at"; done))))))
local macro_rules | `(tactic| walk_at "1") => `(tactic| with_reducible ((show XD _ _ _); (first | refine xd ?_)))
local macro_rules | `(tactic| walk_at "1") => `(tactic| with_reducible ((show TF _ _ _); (first | refine tf_t ?_ | refine tf_f ?_)))
local macro_rules | `(tactic| walk_at "1") => `(tactic| with_reducible ((show XHs _ _ _); (first | refine xhs_nil ?_ | refine xhs_cons ?_)))
local macro_rules | `(tactic| walk_at "1") => `(tactic| with_reducible ((show XDs _ _ _); (first | refine xds_nil ?_ | refine xds_cons ?_)))
local macro_rules | `(tactic| walk_at "1") => `(tactic| with_reducible ((show XB _ _ _); (first | refine xb_and' ?_ | refine xb_or' ?_ | refine xb_not ?_ | refine xb_val ?_ | refine xb_tru ?_ | refine xb_yes ?_)))
local macro_rules | `(tactic| walk_at "1") => `(tactic| with_reducible ((show XS _ _ _); (first | refine xs_seq' ?_ | refine xs_nil ?_ | refine xs_set' ?_ | refine xs_asg ?_ | refine xs_par2 ?_ | refine xs_drop ?_ | refine xs_ret' ?_ | refine xs_retN ?_ | refine xs_if' ?_ | refine xs_brk ?_ | refine xs_cont ?_ | refine xs_for' ?_ | (refine xs_setIx2 ?_) | (apply xs_augIx'L; (focus (walk_at "at"; done))) | (apply xs_aug'; (focus (walk_at "at"; done))) | refine xs_setDx ?_ | refine xs_par3 ?_)))
local macro_rules | `(tactic| walk_at "1") => `(tactic| with_reducible ((show XE _ _ _); (first | (apply xv; (focus (walk_at "at"; done))) | refine xe_c ?_ | refine xe_bin ?_ | refine xe_un ?_ | refine xe_if' ?_ | refine xe_B ?_ | refine xe_callB ?_ | refine xe_tup ?_ | refine xe_lst ?_ | refine xe_sl ?_ | (apply xe_mt'L; (focus (walk_at "at"; done))) | refine xe_lc' ?_ | (refine xe_call' ?_) | refine xe_o ?_ | refine xe_get2 ?_ | refine xe_get1 ?_ | refine xe_disp ?_ | refine xe_join ?_ | refine xe_lc2 ?_ | refine xe_sidx ?_)))
local macro_rules | `(tactic| walk_at "1") => `(tactic| with_reducible ((show XO _ _); (walk_at "op")))
local macro_rules | `(tactic| walk_at "at") => `(tactic| with_reducible first | ((repeat (apply At.s)); (exact At.z)) | ((repeat (apply Put.s)); (first | exact Put.n | exact Put.z | exact Put.f (by assumption))) | ((repeat (apply Chg.s)); (exact Chg.z)) | ((repeat (apply SetAt.s)); (exact SetAt.z)) | ((repeat (apply Slt.s)); (exact Slt.z)) | ((repeat (apply Fin'.s)); (exact Fin'.z)) | ((repeat (first | apply Ini.shr | apply Ini.n | apply Ini.ol | apply Ini.od)); (exact Ini.z)) | exact Wb.nil)
-- END MACRO
theorem xo_allT {n : Nat} {acc : List D} {Q : O → Prop} (h : acc = List.replicate n (.bl true)) (q : Q (.shr (.bl true))) : XO (oAll [.ol acc]) Q := by
  have e : asBls acc = some (List.replicate n true) := by
    subst h
    induction n with
    | zero => rfl
    | succ n ih => rw [List.replicate_succ, List.replicate_succ, asBls, ih]; rfl
  refine xo_all rfl e ?_
  have : (List.replicate n true).all id = true := by simp
  rw [this]; exact q
local macro_rules | `(tactic| walk_at "law") => `(tactic| repeat' (first | walk_at "1" | ((with_reducible refine lend_ok ?_ ?_); (focus rfl)) | ((with_reducible apply wbx); (focus (walk_at "wb"; done)); (focus rfl)) | walk_at "tf" | walk_at "isi" | with_reducible refine xo_allT (by assumption) ?_ | walk_at "both"))
/-! ### the same -/
mutual
def sm : D → Bool
  | .non => true
  | .bl _ => true
  | .int _ => true
  | .str _ => true
  | .tup ds => decide (ds.length ≤ 1000) && sms ds
  | .lst ds => decide (ds.length ≤ 1000) && sms ds
  | _ => false
def sms : List D → Bool
  | [] => true
  | d :: r => sm d && sms r
end
mutual
def dq : D → Nat
  | .tup ds => dqs ds + 1
  | .lst ds => dqs ds + 1
  | _ => 0
def dqs : List D → Nat
  | [] => 0
  | d :: r => max (dq d) (dqs r)
end
theorem sms_at : ∀ {ds : List D} {x : D}, sms ds = true → x ∈ ds → sm x = true ∧ dq x ≤ dqs ds
  | d :: r, x, h, hx => by
    rw [sms, Bool.and_eq_true] at h
    rw [dqs]
    rcases List.mem_cons.mp hx with rfl | hx
    · exact ⟨h.1, by omega⟩
    · have := sms_at h.2 hx
      exact ⟨this.1, by omega⟩
theorem bl_eq {a : Bool} {Q : O → Prop} (q : Q (.shr (.bl true))) : XO (oEq (.shr (.bl a)) (.shr (.bl a))) Q := xo_eq (c := true) (by cases a <;> rfl) q
def JS (o : O) (n : Nat) (k : Nat) (acc : List D) (e : Sto) : Prop := acc = List.replicate k (.bl true) ∧ e = [some ⟨o, o.own, false⟩, some ⟨o, o.own, false⟩, none, none]
theorem x_same : ∀ (k : Nat) {d : D}, sm d = true → dq d < k → ∀ {Q : Rs → List O → Prop}, Q (.o (.shr (.bl true))) [.shr d, .shr d] → XF (F_same k) [.shr d, .shr d] Q
  | 0, d, _, h, _, _ => by omega
  | k + 1, d, hs, h, Q, q => by
    refine xf' rfl (by walk_at "at") ?_
    unfold f_same
    cases d with
    | non => walk_at "law"; exact q
    | bl a =>
      walk_at "law"
      refine bl_eq ?_
      walk_at "law"
      exact q
    | int a => walk_at "law"; simpa using q
    | str a => walk_at "law"; simpa using q
    | tup ds =>
      rw [sm, Bool.and_eq_true, decide_eq_true_eq] at hs
      rw [dq] at h
      have hl := hs.1
      walk_at "law"
      refine xc_rng (JS (.shr (.tup ds)) ds.length) ⟨rfl, rfl⟩ ?_ ?_
      · rintro acc e ⟨ha, rfl⟩
        refine ⟨_, by walk_at "at", ?_⟩
        walk_at "law"
        exact q
      · rintro j acc e hj ⟨ha, rfl⟩
        have ix := at_nat hj
        obtain ⟨s1, s2⟩ := sms_at hs.2 (List.getElem_mem hj)
        walk_at "law"
        refine x_same k s1 (by omega) ?_
        walk_at "law"
        refine acc_q (by rw [ha, List.length_replicate]; omega) (by walk_at "at") ⟨by rw [ha, ← List.replicate_succ'], rfl⟩
    | lst ds =>
      rw [sm, Bool.and_eq_true, decide_eq_true_eq] at hs
      rw [dq] at h
      have hl := hs.1
      walk_at "law"
      refine xc_rng (JS (.shr (.lst ds)) ds.length) ⟨rfl, rfl⟩ ?_ ?_
      · rintro acc e ⟨ha, rfl⟩
        refine ⟨_, by walk_at "at", ?_⟩
        walk_at "law"
        exact q
      · rintro j acc e hj ⟨ha, rfl⟩
        have ix := at_nat hj
        obtain ⟨s1, s2⟩ := sms_at hs.2 (List.getElem_mem hj)
        walk_at "law"
        refine x_same k s1 (by omega) ?_
        walk_at "law"
        refine acc_q (by rw [ha, List.length_replicate]; omega) (by walk_at "at") ⟨by rw [ha, ← List.replicate_succ'], rfl⟩
    | _ => cases hs
def JSL (ds : List D) (k : Nat) (acc : List D) (e : Sto) : Prop := acc = List.replicate k (.bl true) ∧ e = [some ⟨.ol ds, true, false⟩, some ⟨.ol ds, true, false⟩, none, none]
theorem x_sameL {k : Nat} {ds : List D} (hs : sms ds = true) (h : dqs ds < k) (hl : ds.length ≤ 1000) {Q : Rs → List O → Prop} (q : Q (.o (.shr (.bl true))) [.ol ds, .ol ds]) : XF (F_same (k + 1)) [.ol ds, .ol ds] Q := by
  refine xf' rfl (by walk_at "at") ?_
  unfold f_same
  walk_at "law"
  refine xc_rng (JSL ds) ⟨rfl, rfl⟩ ?_ ?_
  · rintro acc e ⟨ha, rfl⟩
    refine ⟨_, by walk_at "at", ?_⟩
    walk_at "law"
    exact q
  · rintro j acc e hj ⟨ha, rfl⟩
    have ix := at_nat hj
    obtain ⟨s1, s2⟩ := sms_at hs (List.getElem_mem hj)
    walk_at "law"
    refine x_same k s1 (by omega) ?_
    walk_at "law"
    refine acc_q (by rw [ha, List.length_replicate]; omega) (by walk_at "at") ⟨by rw [ha, ← List.replicate_succ'], rfl⟩

end K50

set_option maxRecDepth 100000
set_option maxHeartbeats 4000000
namespace K50
open PV PySem L2
local macro_rules | `(tactic| walk_at "all") => `(tactic| repeat' (first | walk_at "1" | ((with_reducible refine lend_ok ?_ ?_); (focus rfl)) | ((with_reducible apply wbx); (focus (walk_at "wb"; done)); (focus rfl)) | walk_at "tf" | walk_at "isi" | walk_at "both" | with_reducible refine ixL3 (by omega) (by omega) ?_ ?_ ?_))
local macro_rules | `(tactic| walk_at "run") => `(tactic| repeat (first | walk_at "1" | ((with_reducible refine lend_ok ?_ ?_); (focus rfl)) | ((with_reducible apply wbx); (focus (walk_at "wb"; done)); (focus rfl)) | walk_at "tf" | walk_at "isi"))
local macro_rules | `(tactic| walk_at "isi") => `(tactic| ((with_reducible show XO (oIsi _) _); first
  | refine isiT (c := .bool) rfl rfl rfl ?_ | refine isiF (c := .bool) rfl rfl rfl ?_ | refine isiT (c := .int) rfl rfl rfl ?_ | refine isiF (c := .int) rfl rfl rfl ?_ | refine isiT (c := .str) rfl rfl rfl ?_ | refine isiF (c := .str) rfl rfl rfl ?_
  | refine isiT (c := .dict) rfl rfl rfl ?_ | refine isiF (c := .dict) rfl rfl rfl ?_ | refine isiT (c := .tuple) rfl rfl rfl ?_ | refine isiF (c := .tuple) rfl rfl rfl ?_ | refine isiT (c := .list) rfl rfl rfl ?_ | refine isiF (c := .list) rfl rfl rfl ?_))
local macro_rules | `(tactic| walk_at "both") => `(tactic| with_reducible first | refine tf_d (fun _ => ?_) fun _ => ?_ | refine tf_nd (fun _ => ?_) fun _ => ?_ | refine tf_b (fun _ => ?_) fun _ => ?_)
local macro_rules | `(tactic| walk_at "tf") => `(tactic| with_reducible first | refine tf_T (by decide +kernel) ?_ | refine tf_F (by decide +kernel) ?_ | refine tf_T (decide_eq_true (by omega)) ?_ | refine tf_T (decide_eq_true (by simp only [List.length_cons]; omega)) ?_ | refine tf_F (decide_eq_false (by omega)) ?_ | refine tf_F (decide_eq_false (by assumption)) ?_ | refine tf_T (decide_eq_true (by assumption)) ?_ | refine tf_T (nd_T (by omega)) ?_ | refine tf_F (nd_F (by omega)) ?_ | refine tf_T (nd_T (by assumption)) ?_ | refine tf_F (nd_F (by assumption)) ?_)
local macro_rules | `(tactic| walk_at "wb") => `(tactic| (repeat (first | exact Wb.nil | apply Wb.tmp | apply Wb.shr | (apply Wb.ol'; (focus rfl)) | (apply Wb.od'; (focus rfl)) | (exact Chg.z) | apply Chg.s)))
local macro_rules | `(tactic| walk_at "op") => `(tactic| with_reducible first | refine xal ?_ | refine xals ?_ | (apply xat; (focus (first | exact at0 | exact at1 | exact at2 | assumption))) | refine trI ?_ | refine trB ?_ | refine trN ?_ | refine trL ?_ | refine trLs ?_)
local macro_rules | `(tactic| walk_at "op") => `(tactic| with_reducible first | refine xo_minN ?_ | refine xo_max ?_ | refine xo_min ?_ | (apply strI; (focus omega)) | (apply xo_addN; (focus decide +kernel); (focus omega)) | (apply xo_addS; (focus decide +kernel)) | (apply xo_addT; (focus (refine ⟨List.cons_ne_nil _ _, List.cons_ne_nil _ _, ?_⟩; simp only [List.length_cons, List.length_nil]; omega))) | refine xai ?_ | refine xab ?_)
local macro_rules | `(tactic| walk_at "op") => `(tactic| with_reducible first | refine lsL ?_ | refine lsLs ?_ | refine lsT ?_ | refine slL ?_ | refine slLs ?_ | refine xo_intI ?_ | refine xo_abs ?_ | refine xo_maxN ?_ | refine xo_max1 ?_)
local macro_rules | `(tactic| walk_at "op") => `(tactic| with_reducible first | (apply ixLs; (focus (first | exact at0 | exact at1 | exact at2 | assumption))) | (apply ixT; (focus (first | exact at0 | exact at1 | exact at2 | assumption))) | refine lnL ?_ | refine lnLs ?_ | refine lnT ?_ | refine lnSc ?_ | refine slSc ?_ | (apply ixSc; (focus (first | exact at0 | exact at1 | exact at2 | assumption))) | (apply xo_sumL rfl))
local macro_rules | `(tactic| walk_at "op") => `(tactic| with_reducible first | refine isN2 ?_ | refine isN3 ?_ | refine isN4 ?_ | refine isN5 ?_ | refine noN ?_ | refine noN0 ?_ | refine noN1 ?_ | refine noN2 ?_ | (apply ixL; (focus (first | exact at0 | exact at1 | exact at2 | assumption))))
local macro_rules | `(tactic| walk_at "op") => `(tactic| with_reducible first | refine xo_ge ?_ | refine xo_neg ?_ | refine eqI ?_ | refine neI ?_ | refine eqSt ?_ | refine neSt ?_ | refine isN ?_ | refine isN0 ?_ | refine isN1 ?_)
local macro_rules | `(tactic| walk_at "op") => `(tactic| with_reducible first | refine xo_sub ?_ | (apply xo_mul; (focus (first | exact mulR (by decide) | exact mulL (by decide) | exact mulR (by omega) | exact mulL (by omega) | exact mulW (by decide +kernel)))) | (apply xo_div; (focus (first | exact divK (by decide) | exact divK (by omega)))) | (apply xo_modP; (focus (first | decide | omega | decide +kernel)); intro _ _ _) | (apply xo_mod; (focus (first | decide | omega | decide +kernel))) | (apply xo_pow; focus exact powK (by decide)) | refine xo_lt ?_ | refine xo_le ?_ | refine xo_gt ?_)
local macro_rules | `(tactic| walk_at "op") => `(tactic| with_reducible first | refine xo_neD ?_ | refine xo_eqD ?_ | refine xas ?_ | refine xo_strAS ?_ | refine xo_inStr ?_ | refine xo_notInStr ?_ | refine xo_inG ?_ | refine xo_addI ?_ | refine xo_addI' ?_)
local macro_rules | `(tactic| walk_at "op") => `(tactic| with_reducible first | (apply xp_g; (focus (walk_at "at"; done))) | refine xr_o ?_ | refine ak_o ?_ | refine ak_s ?_ | refine ko_s ?_ | refine ko_i ?_ | refine xo_dget ?_ | refine xo_din ?_ | refine xo_dict ?_)
local macro_rules | `(tactic| walk_at "op") => `(tactic| with_reducible first | (apply xg_v; (focus (walk_at "at"; done))) | refine xg_t ?_ | refine xh_nil ?_ | (apply xh_v; (focus (walk_at "at"; done))) | refine xh_t ?_ | (refine xg_T rfl ?_) | refine xg_nil ?_ | refine xg_cons ?_ | (apply xw_s; (focus (walk_at "at"; done))))
local macro_rules | `(tactic| walk_at "1") => `(tactic| with_reducible first | refine par2 ?_ | refine lenAnd (by simp only [List.length_cons, List.length_nil]; omega) ?_ | (apply r1N; (focus omega)) | (apply r2S; (focus omega)) | (apply r1; (focus omega)) | (apply r2; (focus omega)) | refine xl_nil' ?_ | (apply def_rt; (focus (walk_at "at"; done))) | (apply def_nx; (focus (walk_at "at"; done))))
local macro_rules | `(tactic| walk_at "1") => `(tactic| with_reducible first | (apply xsi; (focus (walk_at "at"; done))) | refine ex_shr ?_ | refine len15 (by simp only [List.length_cons, List.length_nil]; omega) ?_ | (apply xsd; (focus (walk_at "at"; done))) | refine par3 ?_ | (apply acc2; (focus (first | omega | (simp only [List.length_cons, List.length_nil, List.length_append]; omega))); (focus (walk_at "at"; done)); (focus (walk_at "at"; done))))
local macro_rules | `(tactic| walk_at "1") => `(tactic| with_reducible ((show XPs _ _ _); (first | refine xps_nil ?_ | refine xps_cons ?_)))
local macro_rules | `(tactic| walk_at "1") => `(tactic| with_reducible ((show XLk _ _ _); (first | refine xlk_t ?_ | (apply xlk_s; (focus (walk_at "at"; done))) | (apply xlk_l; (focus (walk_at "at"; done))))))
local macro_rules | `(tactic| walk_at "1") => `(tactic| with_reducible ((show XJ _ _); (first | refine xj_l ?_ | refine xj_ls ?_ | refine xj_t ?_ | refine xj_s ?_)))
local macro_rules | `(tactic| walk_at "1") => `(tactic| with_reducible ((show lcQ2 _ _ _ _ _ _ _ _); (first | (apply lc2_n; (focus (walk_at "at"; done)); (focus (walk_at "at"; done)); (focus (walk_at "at"; done)); (focus (walk_at "at"; done))) | (apply lc2_l; (focus (walk_at "at"; done)); (focus (walk_at "at"; done)); (focus (walk_at "at"; done)); (focus (walk_at "at"; done)); (focus (walk_at "at"; done))))))
local macro_rules | `(tactic| walk_at "1") => `(tactic| with_reducible ((show lcQ _ _ _ _ _ _ _ _); (first | (apply lc_n; (focus (walk_at "at"; done)); (focus (walk_at "at"; done))) | (apply lc_l; (focus (walk_at "at"; done)); (focus (walk_at "at"; done)); (focus (walk_at "at"; done))))))
local macro_rules | `(tactic| walk_at "1") => `(tactic| with_reducible ((show forQ _ _ _ _ _ _); (first | refine for_n ?_ | (apply for_l; (focus (walk_at "at"; done))))))
local macro_rules | `(tactic| walk_at "1") => `(tactic| with_reducible ((show unlQ _ _ _); (first | refine unl_n ?_ | (apply unl_nx; (focus (walk_at "at"; done))) | refine unl_rt ?_)))
local macro_rules | `(tactic| walk_at "1") => `(tactic| with_reducible ((show turnQ _ _ _); (first | refine turn_nx ?_ | refine turn_ct ?_ | refine turn_bk ?_ | refine turn_rt ?_)))
local macro_rules | `(tactic| walk_at "1") => `(tactic| with_reducible ((show XC _ _ _ _ _ _ _ _); (first | refine xc_nil' ?_ | refine xc2_nil ?_ | refine xc2_cons ?_ | refine xc_yes1 ?_)))
local macro_rules | `(tactic| walk_at "1") => `(tactic| with_reducible ((show XM _ _ _ _); (first | (apply xm_set; (focus (walk_at "at"; done)); (focus (first | exact setL0 | exact setL1 | exact setL2 | assumption)); (focus (walk_at "at"; done))) | (apply xm_app; (focus (walk_at "at"; done)); (focus (first | assumption | omega | decide | (simp only [List.length_append, List.length_cons, List.length_nil]; omega))); (focus (walk_at "at"; done))) | (apply xm_put; (focus (walk_at "at"; done)); (focus omega); (focus (walk_at "at"; done))) | (apply xm_pop0; (focus (walk_at "at"; done)); (focus (walk_at "at"; done))) | (apply xm_pop; (focus (walk_at "at"; done)); (focus (walk_at "at"; done))))))
local macro_rules | `(tactic| walk_at "1") => `(tactic| with_reducible ((show XRt _ _ _); (first | refine xrt_t ?_ | (apply xrt_s; (focus (walk_at "at"; done))) | (apply xrt_pl; (focus (walk_at "at"; done))) | (apply xrt_l; (focus (walk_at "at"; done)); (focus (walk_at "at"; done))) | (apply xrt_k; (focus (walk_at "at"; done)); (focus (walk_at "at"; done))) | (apply xrt_pk; (focus (walk_at "at"; done))))))
local macro_rules | `(tactic| walk_at "1") => `(tactic| with_reducible ((show XI _ _ _); (first | refine xi_r1' ?_ | refine xi_r2' ?_ | refine xi_seq' ?_)))
local macro_rules | `(tactic| walk_at "1") => `(tactic| with_reducible ((show XP _ _ _); (first | refine xp_no ?_ | refine xp_some ?_)))
local macro_rules | `(tactic| walk_at "1") => `(tactic| with_reducible ((show seqQ _ _ _); (first | refine seq_nx ?_ | refine seq_rt ?_ | refine seq_bk ?_ | refine seq_ct ?_)))
local macro_rules | `(tactic| walk_at "1") => `(tactic| with_reducible ((show XW _ _ _ _); (first | (apply xw_t; (focus (walk_at "at"; done))) | refine xw_v ?_)))
local macro_rules | `(tactic| walk_at "1") => `(tactic| with_reducible ((show XT _ _ _); (first | refine xt_s ?_ | refine xt_l ?_ | refine xt_k ?_ | (apply xt_vs; (focus (walk_at "at"; done))) | (apply xt_vl; (focus (walk_at "at"; done))) | (apply xt_vk; (focus (walk_at "at"; done))))))
local macro_rules | `(tactic| walk_at "1") => `(tactic| with_reducible ((show XD _ _ _); (first | refine xd ?_)))
local macro_rules | `(tactic| walk_at "1") => `(tactic| with_reducible ((show TF _ _ _); (first | refine tf_t ?_ | refine tf_f ?_)))
local macro_rules | `(tactic| walk_at "1") => `(tactic| with_reducible ((show XHs _ _ _); (first | refine xhs_nil ?_ | refine xhs_cons ?_)))
local macro_rules | `(tactic| walk_at "1") => `(tactic| with_reducible ((show XDs _ _ _); (first | refine xds_nil ?_ | refine xds_cons ?_)))
local macro_rules | `(tactic| walk_at "1") => `(tactic| with_reducible ((show XB _ _ _); (first | refine xb_and' ?_ | refine xb_or' ?_ | refine xb_not ?_ | refine xb_val ?_ | refine xb_tru ?_ | refine xb_yes ?_)))
local macro_rules | `(tactic| walk_at "1") => `(tactic| with_reducible ((show XS _ _ _); (first | refine xs_seq' ?_ | refine xs_nil ?_ | refine xs_set' ?_ | refine xs_asg ?_ | refine xs_par2 ?_ | refine xs_drop ?_ | refine xs_ret' ?_ | refine xs_retN ?_ | refine xs_if' ?_ | refine xs_brk ?_ | refine xs_cont ?_ | refine xs_for' ?_ | (refine xs_setIx2 ?_) | (apply xs_augIx'L; (focus (walk_at "at"; done))) | (apply xs_aug'; (focus (walk_at "at"; done))) | refine xs_setDx ?_ | refine xs_par3 ?_)))
local macro_rules | `(tactic| walk_at "1") => `(tactic| with_reducible ((show XE _ _ _); (first | (apply xv; (focus (walk_at "at"; done))) | refine xe_c ?_ | refine xe_bin ?_ | refine xe_un ?_ | refine xe_if' ?_ | refine xe_B ?_ | refine xe_callB ?_ | refine xe_tup ?_ | refine xe_lst ?_ | refine xe_sl ?_ | (apply xe_mt'L; (focus (walk_at "at"; done))) | refine xe_lc' ?_ | (refine xe_call' ?_) | refine xe_o ?_ | refine xe_get2 ?_ | refine xe_get1 ?_ | refine xe_disp ?_ | refine xe_join ?_ | refine xe_lc2 ?_ | refine xe_sidx ?_)))
local macro_rules | `(tactic| walk_at "1") => `(tactic| with_reducible ((show XO _ _); (walk_at "op")))
local macro_rules | `(tactic| walk_at "at") => `(tactic| with_reducible first | ((repeat (apply At.s)); (exact At.z)) | ((repeat (apply Put.s)); (first | exact Put.n | exact Put.z | exact Put.f (by assumption))) | ((repeat (apply Chg.s)); (exact Chg.z)) | ((repeat (apply SetAt.s)); (exact SetAt.z)) | ((repeat (apply Slt.s)); (exact Slt.z)) | ((repeat (apply Fin'.s)); (exact Fin'.z)) | ((repeat (first | apply Ini.shr | apply Ini.n | apply Ini.ol | apply Ini.od)); (exact Ini.z)) | exact Wb.nil)
-- END MACRO
/-! ### drawn trees -/
def ops7 : List Op := [.add, .sub, .mul, .div, .lt, .eq, .gt]
theorem ix7 {r : Int} (h0 : 0 ≤ r) (h1 : r < 7) {Q : O → Prop} (q : ∀ o : Op, Q (.shr (.str o.str))) : XO (oIx (.ol [.str (Str.ofString "+"), .str (Str.ofString "-"), .str (Str.ofString "*"), .str (Str.ofString "/"), .str (Str.ofString "<"), .str (Str.ofString "="), .str (Str.ofString ">")]) (.shr (.int r))) Q := by
  have : r = 0 ∨ r = 1 ∨ r = 2 ∨ r = 3 ∨ r = 4 ∨ r = 5 ∨ r = 6 := by omega
  rcases this with rfl | rfl | rfl | rfl | rfl | rfl | rfl
  · exact ixL (at_of (k := 0) rfl) (q .add)
  · exact ixL (at_of (k := 1) rfl) (q .sub)
  · exact ixL (at_of (k := 2) rfl) (q .mul)
  · exact ixL (at_of (k := 3) rfl) (q .div)
  · exact ixL (at_of (k := 4) rfl) (q .lt)
  · exact ixL (at_of (k := 5) rfl) (q .eq)
  · exact ixL (at_of (k := 6) rfl) (q .gt)
theorem ixNms {r : Int} (h0 : 0 ≤ r) (h1 : r < 3) {Q : O → Prop} (q : ∀ s ∈ nms, Q (.shr (.str s))) : XO (oIx (.ol [.str (Str.ofString "x"), .str (Str.ofString "y"), .str (Str.ofString "@g")]) (.shr (.int r))) Q :=
  ixL3 h0 h1 (q _ (by simp [nms])) (q _ (by simp [nms])) (q _ (by simp [nms]))
theorem pow20 {Q : O → Prop} (q : Q (.shr (.int 100000000000000000000))) : XO (oPow (.shr (.int 10)) (.shr (.int 20))) Q := xo_pow (powK (by decide)) (by
  have : (10:Int) ^ (20:Int).toNat = 100000000000000000000 := by decide +kernel
  rw [this]; exact q)
theorem pow30 {Q : O → Prop} (q : Q (.shr (.int 1000000000000000000000000000000))) : XO (oPow (.shr (.int 10)) (.shr (.int 30))) Q := xo_pow (powK (by decide)) (by
  have : (10:Int) ^ (30:Int).toNat = 1000000000000000000000000000000 := by decide +kernel
  rw [this]; exact q)
local macro_rules | `(tactic| walk_at "law") => `(tactic| repeat' (first | with_reducible refine pow20 ?_ | with_reducible refine pow30 ?_ | walk_at "1" | ((with_reducible refine lend_ok ?_ ?_); (focus rfl)) | ((with_reducible apply wbx); (focus (walk_at "wb"; done)); (focus rfl)) | walk_at "tf" | walk_at "isi" | with_reducible refine x_pick (by assumption) (by omega) (by omega) fun _ _ _ _ _ => ?_ | with_reducible refine x_big (by assumption) fun _ _ _ _ => ?_ | with_reducible refine ixNms (by omega) (by omega) fun _ _ => ?_ | walk_at "both"))
def T.full (t : T) (d : Nat) : Prop := t.sm ∧ t.dep ≤ d ∧ t.n ≤ 2 ^ (d + 1)
theorem full_num {i : Int} {d : Nat} (h1 : Sm i) (h2 : 0 ≤ i) : T.full (.num i) d := ⟨⟨h1, h2⟩, Nat.zero_le _, Nat.one_le_two_pow⟩
theorem full_nam {s : Str} {d : Nat} (h1 : s ∈ nms) : T.full (.nam s) d := ⟨h1, Nat.zero_le _, Nat.one_le_two_pow⟩
theorem full_neg {t : T} {d : Nat} (h : t.full d) : T.full (.neg t) (d + 1) := ⟨h.1, by have := h.2.1; unfold T.dep; omega, by
  have := h.2.2
  have e : 2 ^ (d + 1 + 1) = 2 ^ (d + 1) + 2 ^ (d + 1) := by rw [Nat.pow_succ]; omega
  have l : 1 ≤ 2 ^ (d + 1) := Nat.one_le_two_pow
  unfold T.n; omega⟩
theorem n_odd : ∀ (t : T), t.n < 2 ^ (t.dep + 1)
  | .num _ => by show 1 < 2 ^ (0 + 1); decide
  | .nam _ => by show 1 < 2 ^ (0 + 1); decide
  | .neg t => by
    have := n_odd t
    have e : 2 ^ (t.dep + 1 + 1) = 2 ^ (t.dep + 1) + 2 ^ (t.dep + 1) := by rw [Nat.pow_succ]; omega
    show t.n + 1 < 2 ^ (t.dep + 1 + 1)
    omega
  | .bin o l r => by
    have h1 := n_odd l
    have h2 := n_odd r
    have e1 : 2 ^ (l.dep + 1) ≤ 2 ^ (max l.dep r.dep + 1) := Nat.pow_le_pow_right (by decide) (by omega)
    have e2 : 2 ^ (r.dep + 1) ≤ 2 ^ (max l.dep r.dep + 1) := Nat.pow_le_pow_right (by decide) (by omega)
    have e : 2 ^ (max l.dep r.dep + 1 + 1) = 2 ^ (max l.dep r.dep + 1) + 2 ^ (max l.dep r.dep + 1) := by rw [Nat.pow_succ]; omega
    show l.n + r.n + 1 < 2 ^ (max l.dep r.dep + 1 + 1)
    omega
theorem full_bin {o : Op} {l r : T} {d : Nat} (h : l.full d) (g : r.full d) : T.full (.bin o l r) (d + 1) := ⟨⟨h.1, g.1⟩, by have := h.2.1; have := g.2.1; unfold T.dep; omega, by
  have h1 := n_odd (.bin o l r)
  have e1 : 2 ^ ((T.bin o l r).dep + 1) ≤ 2 ^ (d + 1 + 1) := Nat.pow_le_pow_right (by decide) (by have := h.2.1; have := g.2.1; unfold T.dep; omega)
  omega⟩
theorem leaf_in {a b c : Int} {d : D} (ha : 0 ≤ a ∧ a < 10) (hb : 0 ≤ b ∧ b < 9) (hc : Bg c) (hd : d ∈ [D.int 0, .int a, .int (100000000000000000000 + b), .int (1000000000000000000000000000000 - 1), .int c]) : ∃ i, d = .int i ∧ Sm i ∧ 0 ≤ i := by
  simp only [List.mem_cons, List.mem_nil_iff, or_false] at hd
  rcases hd with rfl | rfl | rfl | rfl | rfl
  · exact ⟨_, rfl, by unfold Sm; omega, by omega⟩
  · exact ⟨_, rfl, by unfold Sm; omega, by omega⟩
  · exact ⟨_, rfl, by unfold Sm; omega, by omega⟩
  · exact ⟨_, rfl, by unfold Sm; omega, by omega⟩
  · exact ⟨_, rfl, hc.1, hc.2⟩
theorem x_rich : ∀ (n d : Nat) {src : List D}, Src3 src → d < n → d ≤ 3 → ∀ {Q : Rs → List O → Prop}, (∀ t src', T.full t d → Src3 src' → Q (.o (.shr (toD t))) [.ol src', .shr (.int d)]) → XF (F_rich n) [.ol src, .shr (.int d)] Q
  | 0, d, _, _, h, _, _, _ => by omega
  | n + 1, 0, src, hs, h, hd, Q, q => by
    refine xf' rfl (by walk_at "at") ?_
    unfold f_rich
    have h0 : (((0 : Nat) : Int)) = 0 := rfl
    walk_at "law"
    · exact q (.nam _) _ (full_nam (by assumption)) (by assumption)
    · refine ixAll (by omega) (by show _ < (5 : Int); omega) fun e he => ?_
      obtain ⟨i, rfl, h1, h2⟩ := leaf_in (by omega) (by omega) (by assumption) he
      walk_at "law"
      exact q (.num i) _ (full_num h1 h2) (by assumption)
  | n + 1, d + 1, src, hs, h, hd, Q, q => by
    refine xf' rfl (by walk_at "at") ?_
    unfold f_rich
    have hn0 : ¬ (((d + 1 : Nat) : Int)) = 0 := by omega
    have e1 : (((d + 1 : Nat) : Int)) - 1 = (d : Nat) := by omega
    walk_at "law"
    · exact q (.nam _) _ (full_nam (by assumption)) (by assumption)
    · refine ixAll (by omega) (by show _ < (5 : Int); omega) fun e he => ?_
      obtain ⟨i, rfl, h1, h2⟩ := leaf_in (by omega) (by omega) (by assumption) he
      walk_at "law"
      exact q (.num i) _ (full_num h1 h2) (by assumption)
    · rw [e1]
      refine x_rich n d (by assumption) (by omega) (by omega) fun t1 src1 ft hs1 => ?_
      walk_at "law"
      · exact q (.neg t1) _ (full_neg ft) (by assumption)
      · refine ix7 (by omega) (by omega) fun o => ?_
        walk_at "law"
        rw [e1]
        refine x_rich n d (by assumption) (by omega) (by omega) fun t2 src2 ft2 hs2 => ?_
        walk_at "law"
        exact q (.bin o t1 t2) _ (full_bin ft ft2) (by assumption)
end K50

set_option maxRecDepth 100000
set_option maxHeartbeats 4000000
namespace K50
open PV PySem L2
local macro_rules | `(tactic| walk_at "all") => `(tactic| repeat' (first | walk_at "1" | ((with_reducible refine lend_ok ?_ ?_); (focus rfl)) | ((with_reducible apply wbx); (focus (walk_at "wb"; done)); (focus rfl)) | walk_at "tf" | walk_at "isi" | walk_at "both" | with_reducible refine ixL3 (by omega) (by omega) ?_ ?_ ?_))
local macro_rules | `(tactic| walk_at "run") => `(tactic| repeat (first | walk_at "1" | ((with_reducible refine lend_ok ?_ ?_); (focus rfl)) | ((with_reducible apply wbx); (focus (walk_at "wb"; done)); (focus rfl)) | walk_at "tf" | walk_at "isi"))
local macro_rules | `(tactic| walk_at "isi") => `(tactic| ((with_reducible show XO (oIsi _) _); first
  | refine isiT (c := .bool) rfl rfl rfl ?_ | refine isiF (c := .bool) rfl rfl rfl ?_ | refine isiT (c := .int) rfl rfl rfl ?_ | refine isiF (c := .int) rfl rfl rfl ?_ | refine isiT (c := .str) rfl rfl rfl ?_ | refine isiF (c := .str) rfl rfl rfl ?_
  | refine isiT (c := .dict) rfl rfl rfl ?_ | refine isiF (c := .dict) rfl rfl rfl ?_ | refine isiT (c := .tuple) rfl rfl rfl ?_ | refine isiF (c := .tuple) rfl rfl rfl ?_ | refine isiT (c := .list) rfl rfl rfl ?_ | refine isiF (c := .list) rfl rfl rfl ?_))
local macro_rules | `(tactic| walk_at "both") => `(tactic| with_reducible first | refine tf_d (fun _ => ?_) fun _ => ?_ | refine tf_nd (fun _ => ?_) fun _ => ?_ | refine tf_b (fun _ => ?_) fun _ => ?_)
local macro_rules | `(tactic| walk_at "tf") => `(tactic| with_reducible first | refine tf_T (by decide +kernel) ?_ | refine tf_F (by decide +kernel) ?_ | refine tf_T (decide_eq_true (by omega)) ?_ | refine tf_T (decide_eq_true (by simp only [List.length_cons]; omega)) ?_ | refine tf_F (decide_eq_false (by omega)) ?_ | refine tf_F (decide_eq_false (by assumption)) ?_ | refine tf_T (decide_eq_true (by assumption)) ?_ | refine tf_T (nd_T (by omega)) ?_ | refine tf_F (nd_F (by omega)) ?_ | refine tf_T (nd_T (by assumption)) ?_ | refine tf_F (nd_F (by assumption)) ?_)
local macro_rules | `(tactic| walk_at "wb") => `(tactic| (repeat (first | exact Wb.nil | apply Wb.tmp | apply Wb.shr | (apply Wb.ol'; (focus rfl)) | (apply Wb.od'; (focus rfl)) | (exact Chg.z) | apply Chg.s)))
local macro_rules | `(tactic| walk_at "op") => `(tactic| with_reducible first | refine xal ?_ | refine xals ?_ | (apply xat; (focus (first | exact at0 | exact at1 | exact at2 | assumption))) | refine trI ?_ | refine trB ?_ | refine trN ?_ | refine trL ?_ | refine trLs ?_)
local macro_rules | `(tactic| walk_at "op") => `(tactic| with_reducible first | refine xo_minN ?_ | refine xo_max ?_ | refine xo_min ?_ | (apply strI; (focus omega)) | (apply xo_addN; (focus decide +kernel); (focus omega)) | (apply xo_addS; (focus decide +kernel)) | (apply xo_addT; (focus (refine ⟨List.cons_ne_nil _ _, List.cons_ne_nil _ _, ?_⟩; simp only [List.length_cons, List.length_nil]; omega))) | refine xai ?_ | refine xab ?_)
local macro_rules | `(tactic| walk_at "op") => `(tactic| with_reducible first | refine lsL ?_ | refine lsLs ?_ | refine lsT ?_ | refine slL ?_ | refine slLs ?_ | refine xo_intI ?_ | refine xo_abs ?_ | refine xo_maxN ?_ | refine xo_max1 ?_)
local macro_rules | `(tactic| walk_at "op") => `(tactic| with_reducible first | (apply ixLs; (focus (first | exact at0 | exact at1 | exact at2 | assumption))) | (apply ixT; (focus (first | exact at0 | exact at1 | exact at2 | assumption))) | refine lnL ?_ | refine lnLs ?_ | refine lnT ?_ | refine lnSc ?_ | refine slSc ?_ | (apply ixSc; (focus (first | exact at0 | exact at1 | exact at2 | assumption))) | (apply xo_sumL rfl))
local macro_rules | `(tactic| walk_at "op") => `(tactic| with_reducible first | refine isN2 ?_ | refine isN3 ?_ | refine isN4 ?_ | refine isN5 ?_ | refine noN ?_ | refine noN0 ?_ | refine noN1 ?_ | refine noN2 ?_ | (apply ixL; (focus (first | exact at0 | exact at1 | exact at2 | assumption))))
local macro_rules | `(tactic| walk_at "op") => `(tactic| with_reducible first | refine xo_ge ?_ | refine xo_neg ?_ | refine eqI ?_ | refine neI ?_ | refine eqSt ?_ | refine neSt ?_ | refine isN ?_ | refine isN0 ?_ | refine isN1 ?_)
local macro_rules | `(tactic| walk_at "op") => `(tactic| with_reducible first | refine xo_sub ?_ | (apply xo_mul; (focus (first | exact mulR (by decide) | exact mulL (by decide) | exact mulR (by omega) | exact mulL (by omega) | exact mulW (by decide +kernel)))) | (apply xo_div; (focus (first | exact divK (by decide) | exact divK (by omega)))) | (apply xo_modP; (focus (first | decide | omega | decide +kernel)); intro _ _ _) | (apply xo_mod; (focus (first | decide | omega | decide +kernel))) | (apply xo_pow; focus exact powK (by decide)) | refine xo_lt ?_ | refine xo_le ?_ | refine xo_gt ?_)
local macro_rules | `(tactic| walk_at "op") => `(tactic| with_reducible first | refine xo_neD ?_ | refine xo_eqD ?_ | refine xas ?_ | refine xo_strAS ?_ | refine xo_inStr ?_ | refine xo_notInStr ?_ | refine xo_inG ?_ | refine xo_addI ?_ | refine xo_addI' ?_)
local macro_rules | `(tactic| walk_at "op") => `(tactic| with_reducible first | (apply xp_g; (focus (walk_at "at"; done))) | refine xr_o ?_ | refine ak_o ?_ | refine ak_s ?_ | refine ko_s ?_ | refine ko_i ?_ | refine xo_dget ?_ | refine xo_din ?_ | refine xo_dict ?_)
local macro_rules | `(tactic| walk_at "op") => `(tactic| with_reducible first | (apply xg_v; (focus (walk_at "at"; done))) | refine xg_t ?_ | refine xh_nil ?_ | (apply xh_v; (focus (walk_at "at"; done))) | refine xh_t ?_ | (refine xg_T rfl ?_) | refine xg_nil ?_ | refine xg_cons ?_ | (apply xw_s; (focus (walk_at "at"; done))))
local macro_rules | `(tactic| walk_at "1") => `(tactic| with_reducible first | refine par2 ?_ | refine lenAnd (by simp only [List.length_cons, List.length_nil]; omega) ?_ | (apply r1N; (focus omega)) | (apply r2S; (focus omega)) | (apply r1; (focus omega)) | (apply r2; (focus omega)) | refine xl_nil' ?_ | (apply def_rt; (focus (walk_at "at"; done))) | (apply def_nx; (focus (walk_at "at"; done))))
local macro_rules | `(tactic| walk_at "1") => `(tactic| with_reducible first | (apply xsi; (focus (walk_at "at"; done))) | refine ex_shr ?_ | refine len15 (by simp only [List.length_cons, List.length_nil]; omega) ?_ | (apply xsd; (focus (walk_at "at"; done))) | refine par3 ?_ | (apply acc2; (focus (first | omega | (simp only [List.length_cons, List.length_nil, List.length_append]; omega))); (focus (walk_at "at"; done)); (focus (walk_at "at"; done))))
local macro_rules | `(tactic| walk_at "1") => `(tactic| with_reducible ((show XPs _ _ _); (first | refine xps_nil ?_ | refine xps_cons ?_)))
local macro_rules | `(tactic| walk_at "1") => `(tactic| with_reducible ((show XLk _ _ _); (first | refine xlk_t ?_ | (apply xlk_s; (focus (walk_at "at"; done))) | (apply xlk_l; (focus (walk_at "at"; done))))))
local macro_rules | `(tactic| walk_at "1") => `(tactic| with_reducible ((show XJ _ _); (first | refine xj_l ?_ | refine xj_ls ?_ | refine xj_t ?_ | refine xj_s ?_)))
local macro_rules | `(tactic| walk_at "1") => `(tactic| with_reducible ((show lcQ2 _ _ _ _ _ _ _ _); (first | (apply lc2_n; (focus (walk_at "at"; done)); (focus (walk_at "at"; done)); (focus (walk_at "at"; done)); (focus (walk_at "at"; done))) | (apply lc2_l; (focus (walk_at "at"; done)); (focus (walk_at "at"; done)); (focus (walk_at "at"; done)); (focus (walk_at "at"; done)); (focus (walk_at "at"; done))))))
local macro_rules | `(tactic| walk_at "1") => `(tactic| with_reducible ((show lcQ _ _ _ _ _ _ _ _); (first | (apply lc_n; (focus (walk_at "at"; done)); (focus (walk_at "at"; done))) | (apply lc_l; (focus (walk_at "at"; done)); (focus (walk_at "at"; done)); (focus (walk_at "at"; done))))))
local macro_rules | `(tactic| walk_at "1") => `(tactic| with_reducible ((show forQ _ _ _ _ _ _); (first | refine for_n ?_ | (apply for_l; (focus (walk_at "at"; done))))))
local macro_rules | `(tactic| walk_at "1") => `(tactic| with_reducible ((show unlQ _ _ _); (first | refine unl_n ?_ | (apply unl_nx; (focus (walk_at "at"; done))) | refine unl_rt ?_)))
local macro_rules | `(tactic| walk_at "1") => `(tactic| with_reducible ((show turnQ _ _ _); (first | refine turn_nx ?_ | refine turn_ct ?_ | refine turn_bk ?_ | refine turn_rt ?_)))
local macro_rules | `(tactic| walk_at "1") => `(tactic| with_reducible ((show XC _ _ _ _ _ _ _ _); (first | refine xc_nil' ?_ | refine xc2_nil ?_ | refine xc2_cons ?_ | refine xc_yes1 ?_)))
local macro_rules | `(tactic| walk_at "1") => `(tactic| with_reducible ((show XM _ _ _ _); (first | (apply xm_set; (focus (walk_at "at"; done)); (focus (first | exact setL0 | exact setL1 | exact setL2 | assumption)); (focus (walk_at "at"; done))) | (apply xm_app; (focus (walk_at "at"; done)); (focus (first | assumption | omega | decide | (simp only [List.length_append, List.length_cons, List.length_nil]; omega))); (focus (walk_at "at"; done))) | (apply xm_put; (focus (walk_at "at"; done)); (focus omega); (focus (walk_at "at"; done))) | (apply xm_pop0; (focus (walk_at "at"; done)); (focus (walk_at "at"; done))) | (apply xm_pop; (focus (walk_at "at"; done)); (focus (walk_at "at"; done))))))
local macro_rules | `(tactic| walk_at "1") => `(tactic| with_reducible ((show XRt _ _ _); (first | refine xrt_t ?_ | (apply xrt_s; (focus (walk_at "at"; done))) | (apply xrt_pl; (focus (walk_at "at"; done))) | (apply xrt_l; (focus (walk_at "at"; done)); (focus (walk_at "at"; done))) | (apply xrt_k; (focus (walk_at "at"; done)); (focus (walk_at "at"; done))) | (apply xrt_pk; (focus (walk_at "at"; done))))))
local macro_rules | `(tactic| walk_at "1") => `(tactic| with_reducible ((show XI _ _ _); (first | refine xi_r1' ?_ | refine xi_r2' ?_ | refine xi_seq' ?_)))
local macro_rules | `(tactic| walk_at "1") => `(tactic| with_reducible ((show XP _ _ _); (first | refine xp_no ?_ | refine xp_some ?_)))
local macro_rules | `(tactic| walk_at "1") => `(tactic| with_reducible ((show seqQ _ _ _); (first | refine seq_nx ?_ | refine seq_rt ?_ | refine seq_bk ?_ | refine seq_ct ?_)))
local macro_rules | `(tactic| walk_at "1") => `(tactic| with_reducible ((show XW _ _ _ _); (first | (apply xw_t; (focus (walk_at "at"; done))) | refine xw_v ?_)))
local macro_rules | `(tactic| walk_at "1") => `(tactic| with_reducible ((show XT _ _ _); (first | refine xt_s ?_ | refine xt_l ?_ | refine xt_k ?_ | (apply xt_vs; (focus (walk_at "at"; done))) | (apply xt_vl; (focus (walk_at "at"; done))) | (apply xt_vk; (focus (walk_at "at"; done))))))
local macro_rules | `(tactic| walk_at "1") => `(tactic| with_reducible ((show XD _ _ _); (first | refine xd ?_)))
local macro_rules | `(tactic| walk_at "1") => `(tactic| with_reducible ((show TF _ _ _); (first | refine tf_t ?_ | refine tf_f ?_)))
local macro_rules | `(tactic| walk_at "1") => `(tactic| with_reducible ((show XHs _ _ _); (first | refine xhs_nil ?_ | refine xhs_cons ?_)))
local macro_rules | `(tactic| walk_at "1") => `(tactic| with_reducible ((show XDs _ _ _); (first | refine xds_nil ?_ | refine xds_cons ?_)))
local macro_rules | `(tactic| walk_at "1") => `(tactic| with_reducible ((show XB _ _ _); (first | refine xb_and' ?_ | refine xb_or' ?_ | refine xb_not ?_ | refine xb_val ?_ | refine xb_tru ?_ | refine xb_yes ?_)))
local macro_rules | `(tactic| walk_at "1") => `(tactic| with_reducible ((show XS _ _ _); (first | refine xs_seq' ?_ | refine xs_nil ?_ | refine xs_set' ?_ | refine xs_asg ?_ | refine xs_par2 ?_ | refine xs_drop ?_ | refine xs_ret' ?_ | refine xs_retN ?_ | refine xs_if' ?_ | refine xs_brk ?_ | refine xs_cont ?_ | refine xs_for' ?_ | (refine xs_setIx2 ?_) | (apply xs_augIx'L; (focus (walk_at "at"; done))) | (apply xs_aug'; (focus (walk_at "at"; done))) | refine xs_setDx ?_ | refine xs_par3 ?_)))
local macro_rules | `(tactic| walk_at "1") => `(tactic| with_reducible ((show XE _ _ _); (first | (apply xv; (focus (walk_at "at"; done))) | refine xe_c ?_ | refine xe_bin ?_ | refine xe_un ?_ | refine xe_if' ?_ | refine xe_B ?_ | refine xe_callB ?_ | refine xe_tup ?_ | refine xe_lst ?_ | refine xe_sl ?_ | (apply xe_mt'L; (focus (walk_at "at"; done))) | refine xe_lc' ?_ | (refine xe_call' ?_) | refine xe_o ?_ | refine xe_get2 ?_ | refine xe_get1 ?_ | refine xe_disp ?_ | refine xe_join ?_ | refine xe_lc2 ?_ | refine xe_sidx ?_)))
local macro_rules | `(tactic| walk_at "1") => `(tactic| with_reducible ((show XO _ _); (walk_at "op")))
local macro_rules | `(tactic| walk_at "at") => `(tactic| with_reducible first | ((repeat (apply At.s)); (exact At.z)) | ((repeat (apply Put.s)); (first | exact Put.n | exact Put.z | exact Put.f (by assumption))) | ((repeat (apply Chg.s)); (exact Chg.z)) | ((repeat (apply SetAt.s)); (exact SetAt.z)) | ((repeat (apply Slt.s)); (exact Slt.z)) | ((repeat (apply Fin'.s)); (exact Fin'.z)) | ((repeat (first | apply Ini.shr | apply Ini.n | apply Ini.ol | apply Ini.od)); (exact Ini.z)) | exact Wb.nil)
-- END MACRO
/-! ### the words of a line -/
inductive Fm | tell (t : T) | set (t : T) | go (t : T) | call (ts : List T)
def Fm.d : Fm → D
  | .tell t => .tup [.str "tell", toD t]
  | .set t => .tup [.str "set", .str "x", toD t]
  | .go t => .tup [.str "go", .int 10, toD t]
  | .call ts => .tup [.str "call", .str "p/q", .lst (ts.map toD), .str "y"]
def Fm.ts : Fm → List T
  | .tell t => [t] | .set t => [t] | .go t => [t] | .call ts => ts
def Fm.last : Fm → Kd
  | .tell _ => .oth .tell .non
  | .set _ => .oth .set (.str "x")
  | .go _ => .oth .go (.int 10)
  | .call ts => .oth .call (.tup [.str "p/q", .int ts.length, .str "y"])
def kdl : List T → List Kd
  | [] => []
  | t :: r => kds t ++ kdl r
def nl : List T → Nat
  | [] => 0
  | t :: r => t.n + nl r
theorem kdl_len : ∀ ts : List T, (kdl ts).length = nl ts
  | [] => rfl
  | t :: r => by rw [kdl, nl, List.length_append, kds_len, kdl_len r]
theorem kdl_app : ∀ a b : List T, kdl (a ++ b) = kdl a ++ kdl b
  | [], _ => rfl
  | t :: r, b => by rw [List.cons_append, kdl, kdl, kdl_app r b, List.append_assoc]
theorem nl_app : ∀ a b : List T, nl (a ++ b) = nl a + nl b
  | [], _ => by simp [nl]
  | t :: r, b => by rw [List.cons_append, nl, nl, nl_app r b, Nat.add_assoc]
theorem nl_take : ∀ (ts : List T) (k : Nat), nl (ts.take k) ≤ nl ts
  | [], k => by simp
  | t :: r, 0 => Nat.zero_le _
  | t :: r, k + 1 => by rw [List.take_succ_cons, nl, nl]; have := nl_take r k; omega
theorem zip_mwt : ∀ (t : T) (more : List Kd) (ps : List (D × D)), t.n ≤ ps.length → List.zipWith at' (kds t ++ more) ps = mwt t ps ++ List.zipWith at' more (ps.drop t.n)
  | .num n, more, [], h => by simp [T.n] at h
  | .num n, more, p :: r, h => rfl
  | .nam n, more, [], h => by simp [T.n] at h
  | .nam n, more, p :: r, h => rfl
  | .neg t, more, ps, h => by
    unfold T.n at h
    obtain ⟨p, r, e1, e2, e3⟩ := drop_cons (ps := ps) (k := t.n) (by omega)
    rw [kds, mwt, List.append_assoc, zip_mwt t _ ps (by omega), e2, e1, T.n, e3, List.append_assoc]
    rfl
  | .bin o l r', more, ps, h => by
    unfold T.n at h
    obtain ⟨p, r, e1, e2, e3⟩ := drop_cons (ps := ps) (k := l.n + r'.n) (by omega)
    rw [kds, mwt, List.append_assoc, List.append_assoc, zip_mwt l _ ps (by omega), zip_mwt r' _ (ps.drop l.n) (by simp; omega), List.drop_drop, e2, e1, T.n, e3, List.append_assoc, List.append_assoc]
    rfl
theorem zip_mwl : ∀ (ts : List T) (more : List Kd) (ps : List (D × D)), nl ts ≤ ps.length → List.zipWith at' (kdl ts ++ more) ps = mwl ts ps ++ List.zipWith at' more (ps.drop (nl ts))
  | [], more, ps, _ => rfl
  | t :: r, more, ps, h => by
    rw [nl] at h
    rw [kdl, mwl, nl, List.append_assoc, zip_mwt t _ ps (by omega), zip_mwl r more (ps.drop t.n) (by simp; omega), List.drop_drop, List.append_assoc]
/-- all words of the line -/
def Fm.ws (f : Fm) (ps : List (D × D)) : List Wd := mwl f.ts ps ++ [at' f.last (hd (ps.drop (nl f.ts)))]
theorem zip_ws (f : Fm) (ps : List (D × D)) (h : ps.length = nl f.ts + 1) : List.zipWith at' (kdl f.ts ++ [f.last]) ps = f.ws ps := by
  obtain ⟨p, r, e1, e2, e3⟩ := drop_cons (ps := ps) (k := nl f.ts) (by omega)
  rw [zip_mwl f.ts _ ps (by omega), Fm.ws, e2, e1]
  rfl
local macro_rules | `(tactic| walk_at "law") => `(tactic| repeat' (first | walk_at "1" | ((with_reducible refine lend_ok ?_ ?_); (focus rfl)) | ((with_reducible apply wbx); (focus (walk_at "wb"; done)); (focus rfl)) | walk_at "tf" | walk_at "isi" | with_reducible refine in_T (by decide +kernel) ?_ | with_reducible refine in_F (by decide +kernel) ?_ | walk_at "both"))
abbrev tailF : SF := (sRet (vLc (iR1 (vConsH (vCallB oLen (vConsH (vVar 4) vNilH)) vNilH)) (gN 6) bYes (vTake (vTup (vConsD (vTake (vBin oIx (vBin oIx (vVar 4) (vVar 6)) (vC (.int 0)))) (vConsD (vTake (vBin oIx (vBin oIx (vVar 4) (vVar 6)) (vC (.int 1)))) (vConsD (vTake (vBin oIx (vBin oIx (vVar 1) (vVar 6)) (vC (.int 0)))) (vConsD (vTake (vBin oIx (vBin oIx (vVar 1) (vVar 6)) (vC (.int 1)))) vNilD)))))) [6]))
theorem x_tail {a0 x2 x3 x5 : Option Slot} {ks : List Kd} {ps : List (D × D)} (hl : ks.length = ps.length) (hm : ks.length ≤ 1000) {Q : Out → Prop}
    (q : Q (.rt (.o (.ol ((List.zipWith at' ks ps).map Wd.d))) [a0, some ⟨.shr (.lst (ps.map pD)), false, false⟩, x2, x3, some ⟨.ol (ks.map pr), false, false⟩, x5, none])) :
    XS tailF [a0, some ⟨.shr (.lst (ps.map pD)), false, false⟩, x2, x3, some ⟨.ol (ks.map pr), false, false⟩, x5, none] Q := by
  have hlm : (ks.map pr).length = ks.length := List.length_map ..
  walk_at "law"
  refine xc_rng (fun k acc e => acc = ((List.zipWith at' ks ps).take k).map Wd.d ∧ e = [a0, some ⟨.shr (.lst (ps.map pD)), false, false⟩, x2, x3, some ⟨.ol (ks.map pr), false, false⟩, x5, none]) ⟨rfl, rfl⟩ ?_ ?_
  · rintro acc e ⟨rfl, rfl⟩
    refine ⟨_, by walk_at "at", ?_⟩
    walk_at "law"
    rw [List.take_of_length_le (by simp; omega)]
    exact q
  · rintro k acc e hk ⟨rfl, rfl⟩
    rw [hlm] at hk
    have h1 : k < ps.length := by omega
    have i1 : atI (ks.map pr) (k : Int) = some (pr ks[k]) := by rw [at_nat (by simpa using hk), List.getElem_map]
    have i2 : atI (ps.map pD) (k : Int) = some (pD ps[k]) := by rw [at_nat (by simpa using h1), List.getElem_map]
    walk_at "law"
    rw [show pr ks[k] = .tup [.str ks[k].str, ks[k].arg] from rfl]
    walk_at "law"
    rw [show pr ks[k] = .tup [.str ks[k].str, ks[k].arg] from rfl]
    walk_at "law"
    rw [show pD ps[k] = .tup [ps[k].1, ps[k].2] from rfl]
    walk_at "law"
    rw [show pD ps[k] = .tup [ps[k].1, ps[k].2] from rfl]
    walk_at "law"
    refine acc_q (by simp; omega) (by walk_at "at") ⟨?_, rfl⟩
    have hz : k < (List.zipWith at' ks ps).length := by simp; omega
    rw [List.take_succ_eq_append_getElem hz, List.map_append, List.getElem_zipWith]
    rfl
theorem x_tailE {a0 x2 x3 x5 : Option Slot} {L P : List D} {Q : Out → Prop}
    (h : ∃ (ks : List Kd) (ps : List (D × D)), L = ks.map pr ∧ P = ps.map pD ∧ ks.length = ps.length ∧ ks.length ≤ 1000 ∧ Q (.rt (.o (.ol ((List.zipWith at' ks ps).map Wd.d))) [a0, some ⟨.shr (.lst P), false, false⟩, x2, x3, some ⟨.ol L, false, false⟩, x5, none])) :
    XS tailF [a0, some ⟨.shr (.lst P), false, false⟩, x2, x3, some ⟨.ol L, false, false⟩, x5, none] Q := by
  obtain ⟨ks, ps, rfl, rfl, h1, h2, q⟩ := h
  exact x_tail h1 h2 q
local macro_rules | `(tactic| walk_at "law") => `(tactic| repeat' (first | with_reducible refine x_tailE ?_ | walk_at "1" | ((with_reducible refine lend_ok ?_ ?_); (focus rfl)) | ((with_reducible apply wbx); (focus (walk_at "wb"; done)); (focus rfl)) | walk_at "tf" | walk_at "isi" | with_reducible refine in_T (by decide +kernel) ?_ | with_reducible refine in_F (by decide +kernel) ?_ | (with_reducible apply ixT; (focus exact at3)) | walk_at "both"))
theorem no_toD (t : T) {Q : O → Prop} (q : Q (.shr (.bl true))) : XO (oNotN (.shr (toD t)) (.shr .non)) Q := by
  cases t <;> exact noN0 q
def JC (f : Fm) (P : List D) (ts : List T) (k : Nat) (e : Sto) : Prop := ∃ x5, Fre' x5 ∧ e = [some ⟨.shr f.d, false, false⟩, some ⟨.shr (.lst P), false, false⟩, some ⟨.shr (.str "call"), false, false⟩, some ⟨.shr (.lst (ts.map toD)), false, false⟩, some ⟨.ol ((kdl (ts.take k)).map pr), false, false⟩, x5, none]
theorem x_mwords (f : Fm) {ps : List (D × D)} (hp : ps.length = nl f.ts + 1) (hn : nl f.ts ≤ 900) (hd : ∀ t ∈ f.ts, t.dep < 6) (hl : f.ts.length ≤ 900) {Q : Rs → List O → Prop} (q : Q (.o (.ol ((f.ws ps).map Wd.d))) [.shr f.d, .shr (.lst (ps.map pD))]) : XF F_m_words [.shr f.d, .shr (.lst (ps.map pD))] Q := by
  rw [← zip_ws f ps hp] at q
  refine xf' rfl (by walk_at "at") ?_
  unfold f_m_words
  cases f with
  | tell t =>
    simp only [Fm.d, Fm.ts, Fm.last, kdl, nl, List.append_nil] at *
    have l := kds_len t
    have hdt := hd t (List.mem_cons_self ..)
    have hml : ((kds t).map pr).length ≤ 1000 := by simp; omega
    walk_at "law"
    refine xl_cons' ?_
    walk_at "law"
    refine no_toD t ?_
    walk_at "law"
    refine x_mops t 6 (by omega) hdt ?_
    walk_at "law"
    refine xo_addL (by simp; omega) ?_
    rw [List.nil_append]
    walk_at "law"
    refine ⟨kds t ++ [.oth .tell .non], ps, by simp [pr, Kd.str, Kd.arg, Oth.str], rfl, by simp; omega, by simp; omega, ?_⟩
    walk_at "law"
    exact q
  | set t =>
    simp only [Fm.d, Fm.ts, Fm.last, kdl, nl, List.append_nil] at *
    have l := kds_len t
    have hdt := hd t (List.mem_cons_self ..)
    have hml : ((kds t).map pr).length ≤ 1000 := by simp; omega
    walk_at "law"
    refine xl_cons' ?_
    walk_at "law"
    refine no_toD t ?_
    walk_at "law"
    refine x_mops t 6 (by omega) hdt ?_
    walk_at "law"
    refine xo_addL (by simp; omega) ?_
    rw [List.nil_append]
    walk_at "law"
    refine ⟨kds t ++ [.oth .set (.str "x")], ps, by simp [pr, Kd.str, Kd.arg, Oth.str], rfl, by simp; omega, by simp; omega, ?_⟩
    walk_at "law"
    exact q
  | go t =>
    simp only [Fm.d, Fm.ts, Fm.last, kdl, nl, List.append_nil] at *
    have l := kds_len t
    have hdt := hd t (List.mem_cons_self ..)
    have hml : ((kds t).map pr).length ≤ 1000 := by simp; omega
    walk_at "law"
    refine xl_cons' ?_
    walk_at "law"
    refine no_toD t ?_
    walk_at "law"
    refine x_mops t 6 (by omega) hdt ?_
    walk_at "law"
    refine xo_addL (by simp; omega) ?_
    rw [List.nil_append]
    walk_at "law"
    refine no_toD t ?_
    walk_at "law"
    refine ⟨kds t ++ [.oth .go (.int 10)], ps, by simp [pr, Kd.str, Kd.arg, Oth.str], rfl, by simp; omega, by simp; omega, ?_⟩
    walk_at "law"
    exact q
  | call ts =>
    simp only [Fm.ts] at hn hd hl
    have hq := q
    simp only [Fm.d, Fm.ts, Fm.last] at hp q ⊢
    have lk := kdl_len ts
    walk_at "law"
    refine xl_ix' (JC (.call ts) (ps.map pD) ts) ⟨none, .n, rfl⟩ ?_ ?_
    · rintro e ⟨x5, f5, rfl⟩
      rw [List.length_map, List.take_length]
      have hml : ((kdl ts).map pr).length ≤ 1000 := by simp; omega
      have hlm : (ts.map toD).length = ts.length := List.length_map ..
      simp only [Fm.d]
      walk_at "law"
      refine ⟨kdl ts ++ [.oth .call (.tup [.str "p/q", .int ts.length, .str "y"])], ps, by simp [pr, Kd.str, Kd.arg, Oth.str], rfl, by simp; omega, by simp; omega, ?_⟩
      walk_at "law"
      exact q
    · rintro k e hk ⟨x5, f5, rfl⟩
      rw [List.getElem_map]
      have hk' : k < ts.length := by simpa using hk
      have h1 := nl_take ts k
      have h2 := nl_take ts (k + 1)
      have h3 := kdl_len (ts.take k)
      have hts : ts.take (k + 1) = ts.take k ++ [ts[k]] := List.take_succ_eq_append_getElem hk'
      rw [hts, nl_app] at h2
      simp only [nl] at h2
      have h4 := kds_len ts[k]
      walk_at "law"
      refine no_toD _ ?_
      walk_at "law"
      refine x_mops ts[k] 6 (by omega) (hd _ (List.getElem_mem hk')) ?_
      walk_at "law"
      refine xo_addL (by simp; omega) ?_
      walk_at "law"
      refine ⟨some ⟨.shr (toD ts[k]), false, false⟩, .s, ?_⟩
      rw [hts, kdl_app, kdl, kdl, List.append_nil, List.map_append]
end K50

set_option maxRecDepth 100000
set_option maxHeartbeats 4000000
namespace K50
open PV PySem L2
local macro_rules | `(tactic| walk_at "all") => `(tactic| repeat' (first | walk_at "1" | ((with_reducible refine lend_ok ?_ ?_); (focus rfl)) | ((with_reducible apply wbx); (focus (walk_at "wb"; done)); (focus rfl)) | walk_at "tf" | walk_at "isi" | walk_at "both" | with_reducible refine ixL3 (by omega) (by omega) ?_ ?_ ?_))
local macro_rules | `(tactic| walk_at "run") => `(tactic| repeat (first | walk_at "1" | ((with_reducible refine lend_ok ?_ ?_); (focus rfl)) | ((with_reducible apply wbx); (focus (walk_at "wb"; done)); (focus rfl)) | walk_at "tf" | walk_at "isi"))
local macro_rules | `(tactic| walk_at "isi") => `(tactic| ((with_reducible show XO (oIsi _) _); first
  | refine isiT (c := .bool) rfl rfl rfl ?_ | refine isiF (c := .bool) rfl rfl rfl ?_ | refine isiT (c := .int) rfl rfl rfl ?_ | refine isiF (c := .int) rfl rfl rfl ?_ | refine isiT (c := .str) rfl rfl rfl ?_ | refine isiF (c := .str) rfl rfl rfl ?_
  | refine isiT (c := .dict) rfl rfl rfl ?_ | refine isiF (c := .dict) rfl rfl rfl ?_ | refine isiT (c := .tuple) rfl rfl rfl ?_ | refine isiF (c := .tuple) rfl rfl rfl ?_ | refine isiT (c := .list) rfl rfl rfl ?_ | refine isiF (c := .list) rfl rfl rfl ?_))
local macro_rules | `(tactic| walk_at "both") => `(tactic| with_reducible first | refine tf_d (fun _ => ?_) fun _ => ?_ | refine tf_nd (fun _ => ?_) fun _ => ?_ | refine tf_b (fun _ => ?_) fun _ => ?_)
local macro_rules | `(tactic| walk_at "tf") => `(tactic| with_reducible first | refine tf_T (by decide +kernel) ?_ | refine tf_F (by decide +kernel) ?_ | refine tf_T (decide_eq_true (by omega)) ?_ | refine tf_T (decide_eq_true (by simp only [List.length_cons]; omega)) ?_ | refine tf_F (decide_eq_false (by omega)) ?_ | refine tf_F (decide_eq_false (by assumption)) ?_ | refine tf_T (decide_eq_true (by assumption)) ?_ | refine tf_T (nd_T (by omega)) ?_ | refine tf_F (nd_F (by omega)) ?_ | refine tf_T (nd_T (by assumption)) ?_ | refine tf_F (nd_F (by assumption)) ?_)
local macro_rules | `(tactic| walk_at "wb") => `(tactic| (repeat (first | exact Wb.nil | apply Wb.tmp | apply Wb.shr | (apply Wb.ol'; (focus rfl)) | (apply Wb.od'; (focus rfl)) | (exact Chg.z) | apply Chg.s)))
local macro_rules | `(tactic| walk_at "op") => `(tactic| with_reducible first | refine xal ?_ | refine xals ?_ | (apply xat; (focus (first | exact at0 | exact at1 | exact at2 | assumption))) | refine trI ?_ | refine trB ?_ | refine trN ?_ | refine trL ?_ | refine trLs ?_)
local macro_rules | `(tactic| walk_at "op") => `(tactic| with_reducible first | refine xo_minN ?_ | refine xo_max ?_ | refine xo_min ?_ | (apply strI; (focus omega)) | (apply xo_addN; (focus decide +kernel); (focus omega)) | (apply xo_addS; (focus decide +kernel)) | (apply xo_addT; (focus (refine ⟨List.cons_ne_nil _ _, List.cons_ne_nil _ _, ?_⟩; simp only [List.length_cons, List.length_nil]; omega))) | refine xai ?_ | refine xab ?_)
local macro_rules | `(tactic| walk_at "op") => `(tactic| with_reducible first | refine lsL ?_ | refine lsLs ?_ | refine lsT ?_ | refine slL ?_ | refine slLs ?_ | refine xo_intI ?_ | refine xo_abs ?_ | refine xo_maxN ?_ | refine xo_max1 ?_)
local macro_rules | `(tactic| walk_at "op") => `(tactic| with_reducible first | (apply ixLs; (focus (first | exact at0 | exact at1 | exact at2 | assumption))) | (apply ixT; (focus (first | exact at0 | exact at1 | exact at2 | assumption))) | refine lnL ?_ | refine lnLs ?_ | refine lnT ?_ | refine lnSc ?_ | refine slSc ?_ | (apply ixSc; (focus (first | exact at0 | exact at1 | exact at2 | assumption))) | (apply xo_sumL rfl))
local macro_rules | `(tactic| walk_at "op") => `(tactic| with_reducible first | refine isN2 ?_ | refine isN3 ?_ | refine isN4 ?_ | refine isN5 ?_ | refine noN ?_ | refine noN0 ?_ | refine noN1 ?_ | refine noN2 ?_ | (apply ixL; (focus (first | exact at0 | exact at1 | exact at2 | assumption))))
local macro_rules | `(tactic| walk_at "op") => `(tactic| with_reducible first | refine xo_ge ?_ | refine xo_neg ?_ | refine eqI ?_ | refine neI ?_ | refine eqSt ?_ | refine neSt ?_ | refine isN ?_ | refine isN0 ?_ | refine isN1 ?_)
local macro_rules | `(tactic| walk_at "op") => `(tactic| with_reducible first | refine xo_sub ?_ | (apply xo_mul; (focus (first | exact mulR (by decide) | exact mulL (by decide) | exact mulR (by omega) | exact mulL (by omega) | exact mulW (by decide +kernel)))) | (apply xo_div; (focus (first | exact divK (by decide) | exact divK (by omega)))) | (apply xo_modP; (focus (first | decide | omega | decide +kernel)); intro _ _ _) | (apply xo_mod; (focus (first | decide | omega | decide +kernel))) | (apply xo_pow; focus exact powK (by decide)) | refine xo_lt ?_ | refine xo_le ?_ | refine xo_gt ?_)
local macro_rules | `(tactic| walk_at "op") => `(tactic| with_reducible first | refine xo_neD ?_ | refine xo_eqD ?_ | refine xas ?_ | refine xo_strAS ?_ | refine xo_inStr ?_ | refine xo_notInStr ?_ | refine xo_inG ?_ | refine xo_addI ?_ | refine xo_addI' ?_)
local macro_rules | `(tactic| walk_at "op") => `(tactic| with_reducible first | (apply xp_g; (focus (walk_at "at"; done))) | refine xr_o ?_ | refine ak_o ?_ | refine ak_s ?_ | refine ko_s ?_ | refine ko_i ?_ | refine xo_dget ?_ | refine xo_din ?_ | refine xo_dict ?_)
local macro_rules | `(tactic| walk_at "op") => `(tactic| with_reducible first | (apply xg_v; (focus (walk_at "at"; done))) | refine xg_t ?_ | refine xh_nil ?_ | (apply xh_v; (focus (walk_at "at"; done))) | refine xh_t ?_ | (refine xg_T rfl ?_) | refine xg_nil ?_ | refine xg_cons ?_ | (apply xw_s; (focus (walk_at "at"; done))))
local macro_rules | `(tactic| walk_at "1") => `(tactic| with_reducible first | refine par2 ?_ | refine lenAnd (by simp only [List.length_cons, List.length_nil]; omega) ?_ | (apply r1N; (focus omega)) | (apply r2S; (focus omega)) | (apply r1; (focus omega)) | (apply r2; (focus omega)) | refine xl_nil' ?_ | (apply def_rt; (focus (walk_at "at"; done))) | (apply def_nx; (focus (walk_at "at"; done))))
local macro_rules | `(tactic| walk_at "1") => `(tactic| with_reducible first | (apply xsi; (focus (walk_at "at"; done))) | refine ex_shr ?_ | refine len15 (by simp only [List.length_cons, List.length_nil]; omega) ?_ | (apply xsd; (focus (walk_at "at"; done))) | refine par3 ?_ | (apply acc2; (focus (first | omega | (simp only [List.length_cons, List.length_nil, List.length_append]; omega))); (focus (walk_at "at"; done)); (focus (walk_at "at"; done))))
local macro_rules | `(tactic| walk_at "1") => `(tactic| with_reducible ((show XPs _ _ _); (first | refine xps_nil ?_ | refine xps_cons ?_)))
local macro_rules | `(tactic| walk_at "1") => `(tactic| with_reducible ((show XLk _ _ _); (first | refine xlk_t ?_ | (apply xlk_s; (focus (walk_at "at"; done))) | (apply xlk_l; (focus (walk_at "at"; done))))))
local macro_rules | `(tactic| walk_at "1") => `(tactic| with_reducible ((show XJ _ _); (first | refine xj_l ?_ | refine xj_ls ?_ | refine xj_t ?_ | refine xj_s ?_)))
local macro_rules | `(tactic| walk_at "1") => `(tactic| with_reducible ((show lcQ2 _ _ _ _ _ _ _ _); (first | (apply lc2_n; (focus (walk_at "at"; done)); (focus (walk_at "at"; done)); (focus (walk_at "at"; done)); (focus (walk_at "at"; done))) | (apply lc2_l; (focus (walk_at "at"; done)); (focus (walk_at "at"; done)); (focus (walk_at "at"; done)); (focus (walk_at "at"; done)); (focus (walk_at "at"; done))))))
local macro_rules | `(tactic| walk_at "1") => `(tactic| with_reducible ((show lcQ _ _ _ _ _ _ _ _); (first | (apply lc_n; (focus (walk_at "at"; done)); (focus (walk_at "at"; done))) | (apply lc_l; (focus (walk_at "at"; done)); (focus (walk_at "at"; done)); (focus (walk_at "at"; done))))))
local macro_rules | `(tactic| walk_at "1") => `(tactic| with_reducible ((show forQ _ _ _ _ _ _); (first | refine for_n ?_ | (apply for_l; (focus (walk_at "at"; done))))))
local macro_rules | `(tactic| walk_at "1") => `(tactic| with_reducible ((show unlQ _ _ _); (first | refine unl_n ?_ | (apply unl_nx; (focus (walk_at "at"; done))) | refine unl_rt ?_)))
local macro_rules | `(tactic| walk_at "1") => `(tactic| with_reducible ((show turnQ _ _ _); (first | refine turn_nx ?_ | refine turn_ct ?_ | refine turn_bk ?_ | refine turn_rt ?_)))
local macro_rules | `(tactic| walk_at "1") => `(tactic| with_reducible ((show XC _ _ _ _ _ _ _ _); (first | refine xc_nil' ?_ | refine xc2_nil ?_ | refine xc2_cons ?_ | refine xc_yes1 ?_)))
local macro_rules | `(tactic| walk_at "1") => `(tactic| with_reducible ((show XM _ _ _ _); (first | (apply xm_set; (focus (walk_at "at"; done)); (focus (first | exact setL0 | exact setL1 | exact setL2 | assumption)); (focus (walk_at "at"; done))) | (apply xm_app; (focus (walk_at "at"; done)); (focus (first | assumption | omega | decide | (simp only [List.length_append, List.length_cons, List.length_nil]; omega))); (focus (walk_at "at"; done))) | (apply xm_put; (focus (walk_at "at"; done)); (focus omega); (focus (walk_at "at"; done))) | (apply xm_pop0; (focus (walk_at "at"; done)); (focus (walk_at "at"; done))) | (apply xm_pop; (focus (walk_at "at"; done)); (focus (walk_at "at"; done))))))
local macro_rules | `(tactic| walk_at "1") => `(tactic| with_reducible ((show XRt _ _ _); (first | refine xrt_t ?_ | (apply xrt_s; (focus (walk_at "at"; done))) | (apply xrt_pl; (focus (walk_at "at"; done))) | (apply xrt_l; (focus (walk_at "at"; done)); (focus (walk_at "at"; done))) | (apply xrt_k; (focus (walk_at "at"; done)); (focus (walk_at "at"; done))) | (apply xrt_pk; (focus (walk_at "at"; done))))))
local macro_rules | `(tactic| walk_at "1") => `(tactic| with_reducible ((show XI _ _ _); (first | refine xi_r1' ?_ | refine xi_r2' ?_ | refine xi_seq' ?_)))
local macro_rules | `(tactic| walk_at "1") => `(tactic| with_reducible ((show XP _ _ _); (first | refine xp_no ?_ | refine xp_some ?_)))
local macro_rules | `(tactic| walk_at "1") => `(tactic| with_reducible ((show seqQ _ _ _); (first | refine seq_nx ?_ | refine seq_rt ?_ | refine seq_bk ?_ | refine seq_ct ?_)))
local macro_rules | `(tactic| walk_at "1") => `(tactic| with_reducible ((show XW _ _ _ _); (first | (apply xw_t; (focus (walk_at "at"; done))) | refine xw_v ?_)))
local macro_rules | `(tactic| walk_at "1") => `(tactic| with_reducible ((show XT _ _ _); (first | refine xt_s ?_ | refine xt_l ?_ | refine xt_k ?_ | (apply xt_vs; (focus (walk_at "at"; done))) | (apply xt_vl; (focus (walk_at "at"; done))) | (apply xt_vk; (focus (walk_at "at"; done))))))
local macro_rules | `(tactic| walk_at "1") => `(tactic| with_reducible ((show XD _ _ _); (first | refine xd ?_)))
local macro_rules | `(tactic| walk_at "1") => `(tactic| with_reducible ((show TF _ _ _); (first | refine tf_t ?_ | refine tf_f ?_)))
local macro_rules | `(tactic| walk_at "1") => `(tactic| with_reducible ((show XHs _ _ _); (first | refine xhs_nil ?_ | refine xhs_cons ?_)))
local macro_rules | `(tactic| walk_at "1") => `(tactic| with_reducible ((show XDs _ _ _); (first | refine xds_nil ?_ | refine xds_cons ?_)))
local macro_rules | `(tactic| walk_at "1") => `(tactic| with_reducible ((show XB _ _ _); (first | refine xb_and' ?_ | refine xb_or' ?_ | refine xb_not ?_ | refine xb_val ?_ | refine xb_tru ?_ | refine xb_yes ?_)))
local macro_rules | `(tactic| walk_at "1") => `(tactic| with_reducible ((show XS _ _ _); (first | refine xs_seq' ?_ | refine xs_nil ?_ | refine xs_set' ?_ | refine xs_asg ?_ | refine xs_par2 ?_ | refine xs_drop ?_ | refine xs_ret' ?_ | refine xs_retN ?_ | refine xs_if' ?_ | refine xs_brk ?_ | refine xs_cont ?_ | refine xs_for' ?_ | (refine xs_setIx2 ?_) | (apply xs_augIx'L; (focus (walk_at "at"; done))) | (apply xs_aug'; (focus (walk_at "at"; done))) | refine xs_setDx ?_ | refine xs_par3 ?_)))
local macro_rules | `(tactic| walk_at "1") => `(tactic| with_reducible ((show XE _ _ _); (first | (apply xv; (focus (walk_at "at"; done))) | refine xe_c ?_ | refine xe_bin ?_ | refine xe_un ?_ | refine xe_if' ?_ | refine xe_B ?_ | refine xe_callB ?_ | refine xe_tup ?_ | refine xe_lst ?_ | refine xe_sl ?_ | (apply xe_mt'L; (focus (walk_at "at"; done))) | refine xe_lc' ?_ | (refine xe_call' ?_) | refine xe_o ?_ | refine xe_get2 ?_ | refine xe_get1 ?_ | refine xe_disp ?_ | refine xe_join ?_ | refine xe_lc2 ?_ | refine xe_sidx ?_)))
local macro_rules | `(tactic| walk_at "1") => `(tactic| with_reducible ((show XO _ _); (walk_at "op")))
local macro_rules | `(tactic| walk_at "at") => `(tactic| with_reducible first | ((repeat (apply At.s)); (exact At.z)) | ((repeat (apply Put.s)); (first | exact Put.n | exact Put.z | exact Put.f (by assumption))) | ((repeat (apply Chg.s)); (exact Chg.z)) | ((repeat (apply SetAt.s)); (exact SetAt.z)) | ((repeat (apply Slt.s)); (exact Slt.z)) | ((repeat (apply Fin'.s)); (exact Fin'.z)) | ((repeat (first | apply Ini.shr | apply Ini.n | apply Ini.ol | apply Ini.od)); (exact Ini.z)) | exact Wb.nil)
-- END MACRO
/-! ### spelled -/
def Ts (s : Str) : Prop := 1 ≤ s.length ∧ s.length ≤ 50
def Tk (hi : Nat) (d : D) : Prop := ∃ s m, d = .tup [.str s, m] ∧ Ts s ∧ (m = .non ∨ ∃ k : Nat, m = .int k ∧ k < hi)
theorem Tk.up {a b : Nat} {d : D} (h : Tk a d) (l : a ≤ b) : Tk b d := by
  obtain ⟨s, m, e, h1, h2⟩ := h
  refine ⟨s, m, e, h1, ?_⟩
  rcases h2 with h2 | ⟨k, h3, h4⟩
  · exact .inl h2
  · exact .inr ⟨k, h3, by omega⟩
theorem ts_num {i : Int} (h : Bg i) : Ts (Str.ofString (toString i)) := by
  obtain ⟨⟨h1, h2⟩, h3⟩ := h
  obtain ⟨n, rfl⟩ := Int.eq_ofNat_of_zero_le h3
  have e : (Str.ofString (toString ((n : Nat) : Int))).length = (TL.numL n).length := by
    rw [← TL.tl_num n]
    show _ = (Str.ofString (toString ((n : Nat) : Int))).cps.toList.length
    rw [Array.length_toList]; rfl
  unfold Ts
  rw [e]
  constructor
  · cases h : TL.numL n with
    | nil => exact absurd h (TL.numL_ne n)
    | cons a b => simp
  · have : n < 10 ^ 40 := by
      have e10 : (10:Nat) ^ 40 = 10000000000000000000000000000000000000000 := by decide +kernel
      omega
    have := TL.numL_len (by decide) this
    omega
theorem strBg {i : Int} (h : Bg i) {Q : O → Prop} (q : ∀ s, Ts s → Q (.shr (.str s))) : XO (oStrA [.shr (.int i)]) Q := xo_strAI (by have := log_lt h.1.bd; omega) (q _ (ts_num h))
theorem ts_op (o : Op) : Ts o.str := by cases o <;> exact ⟨by decide +kernel, by decide +kernel⟩
theorem ts_nm {s : Str} (h : s ∈ nms) : Ts s := by
  simp only [nms, List.mem_cons, List.mem_nil_iff, or_false] at h
  rcases h with rfl | rfl | rfl <;> exact ⟨by decide +kernel, by decide +kernel⟩
theorem noL {ds : List D} {Q : O → Prop} (q : Q (.shr (.bl true))) : XO (oNotN (.ol ds) (.shr .non)) Q := ⟨_, rfl, q⟩
theorem r1' {j : Int} {Q : List D → Prop} (h0 : 0 ≤ j) (h : j < 1000000000) (q : Q ((List.range j.toNat).map fun (k : Nat) => D.int (k : Int))) : R1 [.shr (.int j)] Q := r1 ⟨by omega, by omega⟩ q
theorem bit_rng {p : Prop} [Decidable p] : (0 : Int) ≤ (if p then 1 else 0) ∧ (if p then 1 else 0 : Int) ≤ 1 := by split <;> omega
abbrev tailS : SF := (sSeq (sAugIx 3 (vC (.int 0)) oAddI (vC (.int 1)))
    (sSeq (sSet 10 (vIf (bAnd (bVal (vBin oNotN (vVar 0) (vC .non))) (bVal (vBin oEq (vCall F_pick (vConsH (vVar 0) (vConsH (vC (.int 6)) vNilH))) (vC (.int 0))))) (vC (.int 1)) (vC (.int 0))))
    (sSeq (sFor (iR1 (vConsH (vBin oAdd (vVar 10) (vCallB oInt (vConsH (vBin oLt (vVar 5) (vVar 2)) vNilH))) vNilH)) (gN 11)
      (sSet 6 (vBin oAdd (vBin oAdd (vLst (vConsD (vTake (vTup (vConsD (vTake (vC (.str "("))) (vConsD (vTake (vC .non)) vNilD)))) vNilD)) (vVar 6)) (vLst (vConsD (vTake (vTup (vConsD (vTake (vC (.str ")"))) (vConsD (vTake (vC .non)) vNilD)))) vNilD)))))
    (sRet (vVar 6)))))
def JP (src : List D) (tr : D) (L rank : Int) (c m n : Nat) (x4 x7 x8 x9 : Option Slot) (x10 : Option Slot) (k : Nat) (e : Sto) : Prop := ∃ (F : List D) (x11 : Option Slot), (∀ d ∈ F, Tk m d) ∧ F.length ≤ n + 2 * k ∧ Fre' x11 ∧
  e = [some ⟨.ol src, true, false⟩, some ⟨.shr tr, false, false⟩, some ⟨.shr (.int L), false, false⟩, some ⟨.ol [.int ((c : Nat) + 1)], true, false⟩, x4, some ⟨.shr (.int rank), false, false⟩, some ⟨.ol F, false, false⟩, x7, x8, x9, x10, x11]
local macro_rules | `(tactic| walk_at "law") => `(tactic| repeat' (first | walk_at "1" | ((with_reducible refine lend_ok ?_ ?_); (focus rfl)) | ((with_reducible apply wbx); (focus (walk_at "wb"; done)); (focus rfl)) | walk_at "tf" | walk_at "isi" | with_reducible refine noL ?_ | with_reducible refine xo_intD ?_ | with_reducible refine x_pick (by assumption) (by omega) (by omega) fun _ _ _ _ _ => ?_ | walk_at "both"))
theorem x_tailS {src F : List D} {tr : D} {L rank : Int} {c m : Nat} {x4 x7 x8 x9 x10 x11 : Option Slot} (f10 : Fre' x10) (f11 : Fre' x11) {Q : Rs → List O → Prop} (hs : Src3 src) (hF : ∀ d ∈ F, Tk m d) (hl : F.length ≤ 1000)
    (q : ∀ src' toks, Src3 src' → (∀ d ∈ toks, Tk m d) → toks.length ≤ F.length + 4 → Q (.o (.ol toks)) [.ol src', .shr tr, .shr (.int L), .ol [.int ((c : Nat) + 1)]]) :
    XS tailS [some ⟨.ol src, true, false⟩, some ⟨.shr tr, false, false⟩, some ⟨.shr (.int L), false, false⟩, some ⟨.ol [.int (c : Nat)], true, false⟩, x4, some ⟨.shr (.int rank), false, false⟩, some ⟨.ol F, false, false⟩, x7, x8, x9, x10, x11] (defQ 4 Q) := by
  have lp : Tk m (.tup [.str (Str.ofString "("), .non]) := ⟨_, _, rfl, ⟨by decide +kernel, by decide +kernel⟩, .inl rfl⟩
  have rp : Tk m (.tup [.str (Str.ofString ")"), .non]) := ⟨_, _, rfl, ⟨by decide +kernel, by decide +kernel⟩, .inl rfl⟩
  have hb := bit_rng (p := rank < L)
  walk_at "law"
  all_goals
    generalize (if rank < L then 1 else 0 : Int) = z at hb
    rename_i r src1 hs1 _ _ _
    refine r1' (by omega) (by omega) ?_
    walk_at "law"
    refine xl_rng (JP src1 tr L rank c m F.length x4 x7 x8 x9 _) ⟨F, x11, hF, by omega, f11, rfl⟩ ?_ ?_
    · rintro e ⟨F2, y11, h1, h2, h3, rfl⟩
      walk_at "law"
      exact q _ _ (by assumption) h1 (by omega)
    · rintro k e hk ⟨F2, y11, h1, h2, h3, rfl⟩
      walk_at "law"
      refine xo_addL (by simp; omega) ?_
      walk_at "law"
      refine xo_addL (by simp; omega) ?_
      walk_at "law"
      refine ⟨_, some ⟨.shr (.int (k : Nat)), false, false⟩, ?_, ?_, .s, rfl⟩
      · intro d hd
        simp only [List.mem_append, List.mem_cons, List.mem_nil_iff, or_false] at hd
        rcases hd with (rfl | hd) | rfl
        · exact lp
        · exact h1 d hd
        · exact rp
      · simp; omega
theorem x_tailT {src F : List D} {tr : D} {L rank : Int} {c : Nat} {x4 x7 x8 x9 x10 x11 : Option Slot} (f10 : Fre' x10) (f11 : Fre' x11) {Q : Rs → List O → Prop} (hs : Src3 src)
    (h : ∃ m, (∀ d ∈ F, Tk m d) ∧ F.length ≤ 1000 ∧ ∀ src' toks, Src3 src' → (∀ d ∈ toks, Tk m d) → toks.length ≤ F.length + 4 → Q (.o (.ol toks)) [.ol src', .shr tr, .shr (.int L), .ol [.int ((c : Nat) + 1)]]) :
    XS tailS [some ⟨.ol src, true, false⟩, some ⟨.shr tr, false, false⟩, some ⟨.shr (.int L), false, false⟩, some ⟨.ol [.int (c : Nat)], true, false⟩, x4, some ⟨.shr (.int rank), false, false⟩, some ⟨.ol F, false, false⟩, x7, x8, x9, x10, x11] (defQ 4 Q) := by
  obtain ⟨m, h1, h2, h3⟩ := h
  exact x_tailS f10 f11 hs h1 h2 h3
theorem inB {x y : O} {b : Bool} {Q : O → Prop} (h : inQ x y = some b) (q : Q (.shr (.bl b))) : XO (oInQ x y) Q := ⟨_, by rw [oInQ, h]; rfl, q⟩
local macro_rules | `(tactic| walk_at "law") => `(tactic| repeat' (first | with_reducible refine inB (by assumption) ?_ | with_reducible refine x_tailT (by assumption) (by assumption) (by assumption) ?_ | walk_at "1" | ((with_reducible refine lend_ok ?_ ?_); (focus rfl)) | ((with_reducible apply wbx); (focus (walk_at "wb"; done)); (focus rfl)) | walk_at "tf" | walk_at "isi" | with_reducible refine noL ?_ | with_reducible refine in_T (by decide +kernel) ?_ | with_reducible refine in_F (by decide +kernel) ?_ | walk_at "both"))
theorem x_spelled : ∀ (t : T) (n : Nat) {src : List D} {L : Int} {c : Nat}, Src3 src → t.sm → t.dep < n → t.n ≤ 100 → ∀ {Q : Rs → List O → Prop}, (∀ src' toks, Src3 src' → (∀ d ∈ toks, Tk (c + t.n) d) → toks.length ≤ 5 * t.n → Q (.o (.ol toks)) [.ol src', .shr (toD t), .shr (.int L), .ol [.int ((c + t.n : Nat) : Int)]]) →
    XF (F_spelled n) [.ol src, .shr (toD t), .shr (.int L), .ol [.int (c : Nat)]] Q
  | t, 0, _, _, _, _, _, h, _, _, _ => by omega
  | .num i, n + 1, src, L, c, hs, hsm, h, hn, Q, q => by
    simp only [toD, T.n] at q ⊢
    have fn : Fre' none := .n
    refine xf' rfl (by walk_at "at") ?_
    unfold f_spelled
    walk_at "law"
    refine strBg hsm fun s hts => ?_
    walk_at "law"
    refine ⟨c + 1, ?_, ?_, ?_⟩
    · intro d hd
      rw [List.mem_singleton] at hd
      subst hd
      exact ⟨_, _, rfl, hts, .inr ⟨c, rfl, Nat.lt_succ_self c⟩⟩
    · simp
    · intro src' toks h1 h2 h3
      exact q src' toks h1 h2 (by simpa using h3)
  | .nam i, n + 1, src, L, c, hs, hsm, h, hn, Q, q => by
    simp only [toD, T.n] at q ⊢
    have fn : Fre' none := .n
    refine xf' rfl (by walk_at "at") ?_
    unfold f_spelled
    walk_at "law"
    refine ⟨c + 1, ?_, ?_, ?_⟩
    · intro d hd
      rw [List.mem_singleton] at hd
      subst hd
      exact ⟨_, _, rfl, ts_nm hsm, .inr ⟨c, rfl, Nat.lt_succ_self c⟩⟩
    · simp
    · intro src' toks h1 h2 h3
      exact q src' toks h1 h2 (by simpa using h3)
  | .neg t, n + 1, src, L, c, hs, hsm, h, hn, Q, q => by
    simp only [toD, T.n] at q ⊢
    unfold T.dep at h
    unfold T.n at hn
    have fn : Fre' none := .n
    refine xf' rfl (by walk_at "at") ?_
    unfold f_spelled
    walk_at "law"
    refine x_spelled t n hs hsm (by omega) (by omega) fun src1 toks1 hs1 ht1 hl1 => ?_
    walk_at "law"
    refine xo_addL (by simp; omega) ?_
    walk_at "law"
    refine ⟨c + (t.n + 1), ?_, ?_, ?_⟩
    · intro d hd
      simp only [List.mem_append, List.mem_singleton] at hd
      rcases hd with rfl | hd
      · exact ⟨_, _, rfl, ⟨by decide +kernel, by decide +kernel⟩, .inr ⟨c + t.n, rfl, Nat.lt_succ_self _⟩⟩
      · exact (ht1 d hd).up (Nat.le_succ _)
    · simp; omega
    · intro src' toks h1 h2 h3
      exact q src' toks h1 h2 (by simp at h3; omega)
  | .bin o l r, n + 1, src, L, c, hs, hsm, h, hn, Q, q => by
    simp only [toD, T.n] at q ⊢
    unfold T.dep at h
    unfold T.n at hn
    obtain ⟨n1, n2, n3⟩ := op_no o
    have fn : Fre' none := .n
    have hor : ∃ b, inQ (.shr (.str o.str)) (.ol [.str (Str.ofString "<"), .str (Str.ofString "="), .str (Str.ofString ">")]) = some b := by cases o <;> exact ⟨_, by rfl⟩
    have hor2 : ∃ b, inQ (.shr (.str o.str)) (.ol [.str (Str.ofString "+"), .str (Str.ofString "-")]) = some b := by cases o <;> exact ⟨_, by rfl⟩
    obtain ⟨b1, e1⟩ := hor
    obtain ⟨b2, e2⟩ := hor2
    refine xf' rfl (by walk_at "at") ?_
    unfold f_spelled
    walk_at "law"
    all_goals
      refine x_spelled l n hs hsm.1 (by omega) (by omega) fun src1 toks1 hs1 ht1 hl1 => ?_
      walk_at "law"
      refine x_spelled r n hs1 hsm.2 (by omega) (by omega) fun src2 toks2 hs2 ht2 hl2 => ?_
      walk_at "law"
      refine xo_addL (by simp; omega) ?_
      walk_at "law"
      refine xo_addL (by simp; omega) ?_
      walk_at "law"
      refine ⟨c + (l.n + r.n + 1), ?_, ?_, ?_⟩
      · intro d hd
        simp only [List.mem_append, List.mem_singleton] at hd
        rcases hd with (hd | rfl) | hd
        · exact (ht1 d hd).up (by omega)
        · exact ⟨_, _, rfl, ts_op o, .inr ⟨c + l.n + r.n, rfl, by omega⟩⟩
        · exact (ht2 d hd).up (by omega)
      · simp; omega
      · intro src' toks h1 h2 h3
        have q' := q src' toks h1 h2 (by simp at h3; omega)
        have e : ((c + (l.n + r.n + 1) : Nat) : Int) = ((c + l.n + r.n : Nat) : Int) + 1 := by omega
        rw [e] at q'
        exact q'
end K50

set_option maxRecDepth 100000
set_option maxHeartbeats 4000000
namespace K50
open PV PySem L2
local macro_rules | `(tactic| walk_at "all") => `(tactic| repeat' (first | walk_at "1" | ((with_reducible refine lend_ok ?_ ?_); (focus rfl)) | ((with_reducible apply wbx); (focus (walk_at "wb"; done)); (focus rfl)) | walk_at "tf" | walk_at "isi" | walk_at "both" | with_reducible refine ixL3 (by omega) (by omega) ?_ ?_ ?_))
local macro_rules | `(tactic| walk_at "run") => `(tactic| repeat (first | walk_at "1" | ((with_reducible refine lend_ok ?_ ?_); (focus rfl)) | ((with_reducible apply wbx); (focus (walk_at "wb"; done)); (focus rfl)) | walk_at "tf" | walk_at "isi"))
local macro_rules | `(tactic| walk_at "isi") => `(tactic| ((with_reducible show XO (oIsi _) _); first
  | refine isiT (c := .bool) rfl rfl rfl ?_ | refine isiF (c := .bool) rfl rfl rfl ?_ | refine isiT (c := .int) rfl rfl rfl ?_ | refine isiF (c := .int) rfl rfl rfl ?_ | refine isiT (c := .str) rfl rfl rfl ?_ | refine isiF (c := .str) rfl rfl rfl ?_
  | refine isiT (c := .dict) rfl rfl rfl ?_ | refine isiF (c := .dict) rfl rfl rfl ?_ | refine isiT (c := .tuple) rfl rfl rfl ?_ | refine isiF (c := .tuple) rfl rfl rfl ?_ | refine isiT (c := .list) rfl rfl rfl ?_ | refine isiF (c := .list) rfl rfl rfl ?_))
local macro_rules | `(tactic| walk_at "both") => `(tactic| with_reducible first | refine tf_d (fun _ => ?_) fun _ => ?_ | refine tf_nd (fun _ => ?_) fun _ => ?_ | refine tf_b (fun _ => ?_) fun _ => ?_)
local macro_rules | `(tactic| walk_at "tf") => `(tactic| with_reducible first | refine tf_T (by decide +kernel) ?_ | refine tf_F (by decide +kernel) ?_ | refine tf_T (decide_eq_true (by omega)) ?_ | refine tf_T (decide_eq_true (by simp only [List.length_cons]; omega)) ?_ | refine tf_F (decide_eq_false (by omega)) ?_ | refine tf_F (decide_eq_false (by assumption)) ?_ | refine tf_T (decide_eq_true (by assumption)) ?_ | refine tf_T (nd_T (by omega)) ?_ | refine tf_F (nd_F (by omega)) ?_ | refine tf_T (nd_T (by assumption)) ?_ | refine tf_F (nd_F (by assumption)) ?_)
local macro_rules | `(tactic| walk_at "wb") => `(tactic| (repeat (first | exact Wb.nil | apply Wb.tmp | apply Wb.shr | (apply Wb.ol'; (focus rfl)) | (apply Wb.od'; (focus rfl)) | (exact Chg.z) | apply Chg.s)))
local macro_rules | `(tactic| walk_at "op") => `(tactic| with_reducible first | refine xal ?_ | refine xals ?_ | (apply xat; (focus (first | exact at0 | exact at1 | exact at2 | assumption))) | refine trI ?_ | refine trB ?_ | refine trN ?_ | refine trL ?_ | refine trLs ?_)
local macro_rules | `(tactic| walk_at "op") => `(tactic| with_reducible first | refine xo_minN ?_ | refine xo_max ?_ | refine xo_min ?_ | (apply strI; (focus omega)) | (apply xo_addN; (focus decide +kernel); (focus omega)) | (apply xo_addS; (focus decide +kernel)) | (apply xo_addT; (focus (refine ⟨List.cons_ne_nil _ _, List.cons_ne_nil _ _, ?_⟩; simp only [List.length_cons, List.length_nil]; omega))) | refine xai ?_ | refine xab ?_)
local macro_rules | `(tactic| walk_at "op") => `(tactic| with_reducible first | refine lsL ?_ | refine lsLs ?_ | refine lsT ?_ | refine slL ?_ | refine slLs ?_ | refine xo_intI ?_ | refine xo_abs ?_ | refine xo_maxN ?_ | refine xo_max1 ?_)
local macro_rules | `(tactic| walk_at "op") => `(tactic| with_reducible first | (apply ixLs; (focus (first | exact at0 | exact at1 | exact at2 | assumption))) | (apply ixT; (focus (first | exact at0 | exact at1 | exact at2 | assumption))) | refine lnL ?_ | refine lnLs ?_ | refine lnT ?_ | refine lnSc ?_ | refine slSc ?_ | (apply ixSc; (focus (first | exact at0 | exact at1 | exact at2 | assumption))) | (apply xo_sumL rfl))
local macro_rules | `(tactic| walk_at "op") => `(tactic| with_reducible first | refine isN2 ?_ | refine isN3 ?_ | refine isN4 ?_ | refine isN5 ?_ | refine noN ?_ | refine noN0 ?_ | refine noN1 ?_ | refine noN2 ?_ | (apply ixL; (focus (first | exact at0 | exact at1 | exact at2 | assumption))))
local macro_rules | `(tactic| walk_at "op") => `(tactic| with_reducible first | refine xo_ge ?_ | refine xo_neg ?_ | refine eqI ?_ | refine neI ?_ | refine eqSt ?_ | refine neSt ?_ | refine isN ?_ | refine isN0 ?_ | refine isN1 ?_)
local macro_rules | `(tactic| walk_at "op") => `(tactic| with_reducible first | refine xo_sub ?_ | (apply xo_mul; (focus (first | exact mulR (by decide) | exact mulL (by decide) | exact mulR (by omega) | exact mulL (by omega) | exact mulW (by decide +kernel)))) | (apply xo_div; (focus (first | exact divK (by decide) | exact divK (by omega)))) | (apply xo_modP; (focus (first | decide | omega | decide +kernel)); intro _ _ _) | (apply xo_mod; (focus (first | decide | omega | decide +kernel))) | (apply xo_pow; focus exact powK (by decide)) | refine xo_lt ?_ | refine xo_le ?_ | refine xo_gt ?_)
local macro_rules | `(tactic| walk_at "op") => `(tactic| with_reducible first | refine xo_neD ?_ | refine xo_eqD ?_ | refine xas ?_ | refine xo_strAS ?_ | refine xo_inStr ?_ | refine xo_notInStr ?_ | refine xo_inG ?_ | refine xo_addI ?_ | refine xo_addI' ?_)
local macro_rules | `(tactic| walk_at "op") => `(tactic| with_reducible first | (apply xp_g; (focus (walk_at "at"; done))) | refine xr_o ?_ | refine ak_o ?_ | refine ak_s ?_ | refine ko_s ?_ | refine ko_i ?_ | refine xo_dget ?_ | refine xo_din ?_ | refine xo_dict ?_)
local macro_rules | `(tactic| walk_at "op") => `(tactic| with_reducible first | (apply xg_v; (focus (walk_at "at"; done))) | refine xg_t ?_ | refine xh_nil ?_ | (apply xh_v; (focus (walk_at "at"; done))) | refine xh_t ?_ | (refine xg_T rfl ?_) | refine xg_nil ?_ | refine xg_cons ?_ | (apply xw_s; (focus (walk_at "at"; done))))
local macro_rules | `(tactic| walk_at "1") => `(tactic| with_reducible first | refine par2 ?_ | refine lenAnd (by simp only [List.length_cons, List.length_nil]; omega) ?_ | (apply r1N; (focus omega)) | (apply r2S; (focus omega)) | (apply r1; (focus omega)) | (apply r2; (focus omega)) | refine xl_nil' ?_ | (apply def_rt; (focus (walk_at "at"; done))) | (apply def_nx; (focus (walk_at "at"; done))))
local macro_rules | `(tactic| walk_at "1") => `(tactic| with_reducible first | (apply xsi; (focus (walk_at "at"; done))) | refine ex_shr ?_ | refine len15 (by simp only [List.length_cons, List.length_nil]; omega) ?_ | (apply xsd; (focus (walk_at "at"; done))) | refine par3 ?_ | (apply acc2; (focus (first | omega | (simp only [List.length_cons, List.length_nil, List.length_append]; omega))); (focus (walk_at "at"; done)); (focus (walk_at "at"; done))))
local macro_rules | `(tactic| walk_at "1") => `(tactic| with_reducible ((show XPs _ _ _); (first | refine xps_nil ?_ | refine xps_cons ?_)))
local macro_rules | `(tactic| walk_at "1") => `(tactic| with_reducible ((show XLk _ _ _); (first | refine xlk_t ?_ | (apply xlk_s; (focus (walk_at "at"; done))) | (apply xlk_l; (focus (walk_at "at"; done))))))
local macro_rules | `(tactic| walk_at "1") => `(tactic| with_reducible ((show XJ _ _); (first | refine xj_l ?_ | refine xj_ls ?_ | refine xj_t ?_ | refine xj_s ?_)))
local macro_rules | `(tactic| walk_at "1") => `(tactic| with_reducible ((show lcQ2 _ _ _ _ _ _ _ _); (first | (apply lc2_n; (focus (walk_at "at"; done)); (focus (walk_at "at"; done)); (focus (walk_at "at"; done)); (focus (walk_at "at"; done))) | (apply lc2_l; (focus (walk_at "at"; done)); (focus (walk_at "at"; done)); (focus (walk_at "at"; done)); (focus (walk_at "at"; done)); (focus (walk_at "at"; done))))))
local macro_rules | `(tactic| walk_at "1") => `(tactic| with_reducible ((show lcQ _ _ _ _ _ _ _ _); (first | (apply lc_n; (focus (walk_at "at"; done)); (focus (walk_at "at"; done))) | (apply lc_l; (focus (walk_at "at"; done)); (focus (walk_at "at"; done)); (focus (walk_at "at"; done))))))
local macro_rules | `(tactic| walk_at "1") => `(tactic| with_reducible ((show forQ _ _ _ _ _ _); (first | refine for_n ?_ | (apply for_l; (focus (walk_at "at"; done))))))
local macro_rules | `(tactic| walk_at "1") => `(tactic| with_reducible ((show unlQ _ _ _); (first | refine unl_n ?_ | (apply unl_nx; (focus (walk_at "at"; done))) | refine unl_rt ?_)))
local macro_rules | `(tactic| walk_at "1") => `(tactic| with_reducible ((show turnQ _ _ _); (first | refine turn_nx ?_ | refine turn_ct ?_ | refine turn_bk ?_ | refine turn_rt ?_)))
local macro_rules | `(tactic| walk_at "1") => `(tactic| with_reducible ((show XC _ _ _ _ _ _ _ _); (first | refine xc_nil' ?_ | refine xc2_nil ?_ | refine xc2_cons ?_ | refine xc_yes1 ?_)))
local macro_rules | `(tactic| walk_at "1") => `(tactic| with_reducible ((show XM _ _ _ _); (first | (apply xm_set; (focus (walk_at "at"; done)); (focus (first | exact setL0 | exact setL1 | exact setL2 | assumption)); (focus (walk_at "at"; done))) | (apply xm_app; (focus (walk_at "at"; done)); (focus (first | assumption | omega | decide | (simp only [List.length_append, List.length_cons, List.length_nil]; omega))); (focus (walk_at "at"; done))) | (apply xm_put; (focus (walk_at "at"; done)); (focus omega); (focus (walk_at "at"; done))) | (apply xm_pop0; (focus (walk_at "at"; done)); (focus (walk_at "at"; done))) | (apply xm_pop; (focus (walk_at "at"; done)); (focus (walk_at "at"; done))))))
local macro_rules | `(tactic| walk_at "1") => `(tactic| with_reducible ((show XRt _ _ _); (first | refine xrt_t ?_ | (apply xrt_s; (focus (walk_at "at"; done))) | (apply xrt_pl; (focus (walk_at "at"; done))) | (apply xrt_l; (focus (walk_at "at"; done)); (focus (walk_at "at"; done))) | (apply xrt_k; (focus (walk_at "at"; done)); (focus (walk_at "at"; done))) | (apply xrt_pk; (focus (walk_at "at"; done))))))
local macro_rules | `(tactic| walk_at "1") => `(tactic| with_reducible ((show XI _ _ _); (first | refine xi_r1' ?_ | refine xi_r2' ?_ | refine xi_seq' ?_)))
local macro_rules | `(tactic| walk_at "1") => `(tactic| with_reducible ((show XP _ _ _); (first | refine xp_no ?_ | refine xp_some ?_)))
local macro_rules | `(tactic| walk_at "1") => `(tactic| with_reducible ((show seqQ _ _ _); (first | refine seq_nx ?_ | refine seq_rt ?_ | refine seq_bk ?_ | refine seq_ct ?_)))
local macro_rules | `(tactic| walk_at "1") => `(tactic| with_reducible ((show XW _ _ _ _); (first | (apply xw_t; (focus (walk_at "at"; done))) | refine xw_v ?_)))
local macro_rules | `(tactic| walk_at "1") => `(tactic| with_reducible ((show XT _ _ _); (first | refine xt_s ?_ | refine xt_l ?_ | refine xt_k ?_ | (apply xt_vs; (focus (walk_at "at"; done))) | (apply xt_vl; (focus (walk_at "at"; done))) | (apply xt_vk; (focus (walk_at "at"; done))))))
local macro_rules | `(tactic| walk_at "1") => `(tactic| with_reducible ((show XD _ _ _); (first | refine xd ?_)))
local macro_rules | `(tactic| walk_at "1") => `(tactic| with_reducible ((show TF _ _ _); (first | refine tf_t ?_ | refine tf_f ?_)))
local macro_rules | `(tactic| walk_at "1") => `(tactic| with_reducible ((show XHs _ _ _); (first | refine xhs_nil ?_ | refine xhs_cons ?_)))
local macro_rules | `(tactic| walk_at "1") => `(tactic| with_reducible ((show XDs _ _ _); (first | refine xds_nil ?_ | refine xds_cons ?_)))
local macro_rules | `(tactic| walk_at "1") => `(tactic| with_reducible ((show XB _ _ _); (first | refine xb_and' ?_ | refine xb_or' ?_ | refine xb_not ?_ | refine xb_val ?_ | refine xb_tru ?_ | refine xb_yes ?_)))
local macro_rules | `(tactic| walk_at "1") => `(tactic| with_reducible ((show XS _ _ _); (first | refine xs_seq' ?_ | refine xs_nil ?_ | refine xs_set' ?_ | refine xs_asg ?_ | refine xs_par2 ?_ | refine xs_drop ?_ | refine xs_ret' ?_ | refine xs_retN ?_ | refine xs_if' ?_ | refine xs_brk ?_ | refine xs_cont ?_ | refine xs_for' ?_ | (refine xs_setIx2 ?_) | (apply xs_augIx'L; (focus (walk_at "at"; done))) | (apply xs_aug'; (focus (walk_at "at"; done))) | refine xs_setDx ?_ | refine xs_par3 ?_)))
local macro_rules | `(tactic| walk_at "1") => `(tactic| with_reducible ((show XE _ _ _); (first | (apply xv; (focus (walk_at "at"; done))) | refine xe_c ?_ | refine xe_bin ?_ | refine xe_un ?_ | refine xe_if' ?_ | refine xe_B ?_ | refine xe_callB ?_ | refine xe_tup ?_ | refine xe_lst ?_ | refine xe_sl ?_ | (apply xe_mt'L; (focus (walk_at "at"; done))) | refine xe_lc' ?_ | (refine xe_call' ?_) | refine xe_o ?_ | refine xe_get2 ?_ | refine xe_get1 ?_ | refine xe_disp ?_ | refine xe_join ?_ | refine xe_lc2 ?_ | refine xe_sidx ?_)))
local macro_rules | `(tactic| walk_at "1") => `(tactic| with_reducible ((show XO _ _); (walk_at "op")))
local macro_rules | `(tactic| walk_at "at") => `(tactic| with_reducible first | ((repeat (apply At.s)); (exact At.z)) | ((repeat (apply Put.s)); (first | exact Put.n | exact Put.z | exact Put.f (by assumption))) | ((repeat (apply Chg.s)); (exact Chg.z)) | ((repeat (apply SetAt.s)); (exact SetAt.z)) | ((repeat (apply Slt.s)); (exact Slt.z)) | ((repeat (apply Fin'.s)); (exact Fin'.z)) | ((repeat (first | apply Ini.shr | apply Ini.n | apply Ini.ol | apply Ini.od)); (exact Ini.z)) | exact Wb.nil)
-- END MACRO
/-! ### tokened -/
theorem tk_c {m : Nat} {s : Str} (h : Ts s) : Tk m (.tup [.str s, .non]) := ⟨_, _, rfl, h, .inl rfl⟩
theorem tk_m {m k : Nat} {s : Str} (h : Ts s) (l : k < m) : Tk m (.tup [.str s, .int (k : Nat)]) := ⟨_, _, rfl, h, .inr ⟨k, rfl, l⟩⟩
theorem ts_d (s : Str) (h : (1 ≤ s.length ∧ s.length ≤ 50) := by exact ⟨by decide +kernel, by decide +kernel⟩) : Ts s := h
theorem nl_at {ts : List T} {k : Nat} (h : k < ts.length) : nl (ts.take (k + 1)) = nl (ts.take k) + ts[k].n := by
  rw [List.take_succ_eq_append_getElem h, nl_app]; rfl
theorem str10 {Q : O → Prop} (q : Q (.shr (.str (Str.ofString (toString (10 : Int)))))) : XO (oStrA [.shr (.int 10)]) Q := xo_strAI (by decide) q
theorem ts10 : Ts (Str.ofString (toString (10 : Int))) := ts_num (i := 10) ⟨⟨by decide, by decide⟩, by decide⟩
local macro_rules | `(tactic| walk_at "law") => `(tactic| repeat' (first | walk_at "1" | ((with_reducible refine lend_ok ?_ ?_); (focus rfl)) | ((with_reducible apply wbx); (focus (walk_at "wb"; done)); (focus rfl)) | walk_at "tf" | walk_at "isi" | with_reducible refine str10 ?_ | with_reducible refine in_T (by decide +kernel) ?_ | with_reducible refine in_F (by decide +kernel) ?_ | (with_reducible apply ixT; (focus exact at3)) | walk_at "both"))
def JT (src : List D) (ts : List T) (k : Nat) (e : Sto) : Prop := ∃ (src' F : List D) (x5 : Option Slot), Src3 src' ∧ (∀ d ∈ F, Tk (nl (ts.take k)) d) ∧ F.length ≤ 6 * nl (ts.take k) ∧ Fre' x5 ∧
  e = [some ⟨.ol src', true, false⟩, some ⟨.shr (Fm.call ts).d, false, false⟩, some ⟨.ol [.int (nl (ts.take k) : Nat)], false, false⟩, some ⟨.shr (.str "call"), false, false⟩, some ⟨.ol F, false, false⟩, x5]
theorem n_pos : ∀ t : T, 1 ≤ t.n
  | .num _ => Nat.le_refl 1
  | .nam _ => Nat.le_refl 1
  | .neg t => by unfold T.n; omega
  | .bin _ l r => by unfold T.n; omega
theorem x_tokened (f : Fm) {src : List D} (hs : Src3 src) (hn : nl f.ts ≤ 100) (hsm : ∀ t ∈ f.ts, t.sm ∧ t.dep < 6) {Q : Rs → List O → Prop} (q : ∀ toks src', Src3 src' → (∀ d ∈ toks, Tk (nl f.ts + 1) d) → toks.length ≤ 1000 → Q (.o (.shr (.tup [.lst toks, .int ((nl f.ts : Nat) + 1)]))) [.ol src', .shr f.d]) : XF F_tokened [.ol src, .shr f.d] Q := by
  refine xf' rfl (by walk_at "at") ?_
  unfold f_tokened
  cases f with
  | tell t =>
    simp only [Fm.d, Fm.ts, nl, Nat.add_zero] at *
    obtain ⟨h1, h2⟩ := hsm t (List.mem_cons_self ..)
    walk_at "law"
    refine no_toD t ?_
    walk_at "law"
    refine x_spelled (c := 0) t 6 hs h1 h2 hn fun src1 toks1 hs1 ht1 hl1 => ?_
    rw [Nat.zero_add] at ht1 ⊢
    walk_at "law"
    exact q _ _ hs1 (fun d hd => (ht1 d hd).up (Nat.le_succ _)) (by omega)
  | set t =>
    simp only [Fm.d, Fm.ts, nl, Nat.add_zero] at *
    obtain ⟨h1, h2⟩ := hsm t (List.mem_cons_self ..)
    walk_at "law"
    refine no_toD t ?_
    walk_at "law"
    refine x_spelled (c := 0) t 6 hs h1 h2 hn fun src1 toks1 hs1 ht1 hl1 => ?_
    rw [Nat.zero_add] at ht1 ⊢
    walk_at "law"
    refine xo_addL (by simp; omega) ?_
    walk_at "law"
    refine q _ _ hs1 ?_ (by simp; omega)
    intro d hd
    simp only [List.mem_append, List.mem_cons, List.mem_nil_iff, or_false] at hd
    rcases hd with (rfl | rfl) | hd
    · exact tk_m (ts_d _) (Nat.lt_succ_self _)
    · exact tk_c (ts_d _)
    · exact (ht1 d hd).up (Nat.le_succ _)
  | go t =>
    simp only [Fm.d, Fm.ts, nl, Nat.add_zero] at *
    obtain ⟨h1, h2⟩ := hsm t (List.mem_cons_self ..)
    walk_at "law"
    refine no_toD t ?_
    walk_at "law"
    refine x_spelled (c := 0) t 6 hs h1 h2 hn fun src1 toks1 hs1 ht1 hl1 => ?_
    rw [Nat.zero_add] at ht1 ⊢
    walk_at "law"
    all_goals
      refine xo_addL (by simp) ?_
      walk_at "law"
      refine xo_addL (by simp; omega) ?_
      walk_at "law"
      refine q _ _ hs1 ?_ (by simp; omega)
      intro d hd
      simp only [List.mem_append, List.mem_cons, List.mem_nil_iff, or_false] at hd
      first
        | (rcases hd with (rfl | rfl) | hd
           · exact tk_m ts10 (Nat.lt_succ_self _)
           · exact tk_c (ts_d _)
           · exact (ht1 d hd).up (Nat.le_succ _))
        | (rcases hd with rfl | hd
           · exact tk_m ts10 (Nat.lt_succ_self _)
           · exact (ht1 d hd).up (Nat.le_succ _))
  | call ts =>
    simp only [Fm.ts] at hn hsm q
    have hq := q
    simp only [Fm.d] at q ⊢
    walk_at "law"
    refine xl_ix' (JT src ts) ⟨src, [], none, hs, (fun d hd => nomatch hd), by simp, .n, rfl⟩ ?_ ?_
    · rintro e ⟨src', F, x5, hs', h1, h2, h3, rfl⟩
      rw [List.length_map, List.take_length] at h1 h2 ⊢
      simp only [Fm.d]
      walk_at "law"
      refine xo_addL (by simp; omega) ?_
      walk_at "law"
      refine xo_addL (by simp; omega) ?_
      walk_at "law"
      refine xo_addL (by simp; omega) ?_
      walk_at "law"
      refine q _ _ hs' ?_ (by simp; omega)
      intro d hd
      simp only [List.mem_append, List.mem_cons, List.mem_nil_iff, or_false] at hd
      rcases hd with ((rfl | hd) | rfl) | (rfl | rfl)
      · exact tk_c (ts_d _)
      · exact (h1 d hd).up (Nat.le_succ _)
      · exact tk_c (ts_d _)
      · exact tk_c (ts_d _)
      · exact tk_c (ts_d _)
    · rintro k e hk ⟨src', F, x5, hs', h1, h2, h3, rfl⟩
      have hk' : k < ts.length := by simpa using hk
      rw [List.getElem_map]
      have hnk := nl_at hk'
      have hnm := nl_take ts (k + 1)
      have hnp := n_pos ts[k]
      obtain ⟨g1, g2⟩ := hsm ts[k] (List.getElem_mem hk')
      walk_at "law"
      all_goals
        refine xo_addL (by simp; omega) ?_
        walk_at "law"
        refine x_spelled ts[k] 6 hs' g1 g2 (by omega) fun src1 toks1 hs1 ht1 hl1 => ?_
        walk_at "law"
        refine xo_addL (by simp; omega) ?_
        walk_at "law"
        refine ⟨src1, _, some ⟨.shr (toD ts[k]), false, false⟩, hs1, ?_, ?_, .s, by rw [hnk]⟩
        · intro d hd
          simp only [List.mem_append, List.mem_cons, List.mem_nil_iff, or_false] at hd
          rw [hnk]
          first
            | (rcases hd with (hd | rfl) | hd
               · exact (h1 d hd).up (by omega)
               · exact tk_c (ts_d _)
               · exact ht1 d hd)
            | (rcases hd with hd | hd
               · exact (h1 d hd).up (by omega)
               · exact ht1 d hd)
        · simp; omega
end K50

set_option maxRecDepth 100000
set_option maxHeartbeats 4000000
namespace K50
open PV PySem L2
local macro_rules | `(tactic| walk_at "all") => `(tactic| repeat' (first | walk_at "1" | ((with_reducible refine lend_ok ?_ ?_); (focus rfl)) | ((with_reducible apply wbx); (focus (walk_at "wb"; done)); (focus rfl)) | walk_at "tf" | walk_at "isi" | walk_at "both" | with_reducible refine ixL3 (by omega) (by omega) ?_ ?_ ?_))
local macro_rules | `(tactic| walk_at "run") => `(tactic| repeat (first | walk_at "1" | ((with_reducible refine lend_ok ?_ ?_); (focus rfl)) | ((with_reducible apply wbx); (focus (walk_at "wb"; done)); (focus rfl)) | walk_at "tf" | walk_at "isi"))
local macro_rules | `(tactic| walk_at "isi") => `(tactic| ((with_reducible show XO (oIsi _) _); first
  | refine isiT (c := .bool) rfl rfl rfl ?_ | refine isiF (c := .bool) rfl rfl rfl ?_ | refine isiT (c := .int) rfl rfl rfl ?_ | refine isiF (c := .int) rfl rfl rfl ?_ | refine isiT (c := .str) rfl rfl rfl ?_ | refine isiF (c := .str) rfl rfl rfl ?_
  | refine isiT (c := .dict) rfl rfl rfl ?_ | refine isiF (c := .dict) rfl rfl rfl ?_ | refine isiT (c := .tuple) rfl rfl rfl ?_ | refine isiF (c := .tuple) rfl rfl rfl ?_ | refine isiT (c := .list) rfl rfl rfl ?_ | refine isiF (c := .list) rfl rfl rfl ?_))
local macro_rules | `(tactic| walk_at "both") => `(tactic| with_reducible first | refine tf_d (fun _ => ?_) fun _ => ?_ | refine tf_nd (fun _ => ?_) fun _ => ?_ | refine tf_b (fun _ => ?_) fun _ => ?_)
local macro_rules | `(tactic| walk_at "tf") => `(tactic| with_reducible first | refine tf_T (by decide +kernel) ?_ | refine tf_F (by decide +kernel) ?_ | refine tf_T (decide_eq_true (by omega)) ?_ | refine tf_T (decide_eq_true (by simp only [List.length_cons]; omega)) ?_ | refine tf_F (decide_eq_false (by omega)) ?_ | refine tf_F (decide_eq_false (by assumption)) ?_ | refine tf_T (decide_eq_true (by assumption)) ?_ | refine tf_T (nd_T (by omega)) ?_ | refine tf_F (nd_F (by omega)) ?_ | refine tf_T (nd_T (by assumption)) ?_ | refine tf_F (nd_F (by assumption)) ?_)
local macro_rules | `(tactic| walk_at "wb") => `(tactic| (repeat (first | exact Wb.nil | apply Wb.tmp | apply Wb.shr | (apply Wb.ol'; (focus rfl)) | (apply Wb.od'; (focus rfl)) | (exact Chg.z) | apply Chg.s)))
local macro_rules | `(tactic| walk_at "op") => `(tactic| with_reducible first | refine xal ?_ | refine xals ?_ | (apply xat; (focus (first | exact at0 | exact at1 | exact at2 | assumption))) | refine trI ?_ | refine trB ?_ | refine trN ?_ | refine trL ?_ | refine trLs ?_)
local macro_rules | `(tactic| walk_at "op") => `(tactic| with_reducible first | refine xo_minN ?_ | refine xo_max ?_ | refine xo_min ?_ | (apply strI; (focus omega)) | (apply xo_addN; (focus decide +kernel); (focus omega)) | (apply xo_addS; (focus decide +kernel)) | (apply xo_addT; (focus (refine ⟨List.cons_ne_nil _ _, List.cons_ne_nil _ _, ?_⟩; simp only [List.length_cons, List.length_nil]; omega))) | refine xai ?_ | refine xab ?_)
local macro_rules | `(tactic| walk_at "op") => `(tactic| with_reducible first | refine lsL ?_ | refine lsLs ?_ | refine lsT ?_ | refine slL ?_ | refine slLs ?_ | refine xo_intI ?_ | refine xo_abs ?_ | refine xo_maxN ?_ | refine xo_max1 ?_)
local macro_rules | `(tactic| walk_at "op") => `(tactic| with_reducible first | (apply ixLs; (focus (first | exact at0 | exact at1 | exact at2 | assumption))) | (apply ixT; (focus (first | exact at0 | exact at1 | exact at2 | assumption))) | refine lnL ?_ | refine lnLs ?_ | refine lnT ?_ | refine lnSc ?_ | refine slSc ?_ | (apply ixSc; (focus (first | exact at0 | exact at1 | exact at2 | assumption))) | (apply xo_sumL rfl))
local macro_rules | `(tactic| walk_at "op") => `(tactic| with_reducible first | refine isN2 ?_ | refine isN3 ?_ | refine isN4 ?_ | refine isN5 ?_ | refine noN ?_ | refine noN0 ?_ | refine noN1 ?_ | refine noN2 ?_ | (apply ixL; (focus (first | exact at0 | exact at1 | exact at2 | assumption))))
local macro_rules | `(tactic| walk_at "op") => `(tactic| with_reducible first | refine xo_ge ?_ | refine xo_neg ?_ | refine eqI ?_ | refine neI ?_ | refine eqSt ?_ | refine neSt ?_ | refine isN ?_ | refine isN0 ?_ | refine isN1 ?_)
local macro_rules | `(tactic| walk_at "op") => `(tactic| with_reducible first | refine xo_sub ?_ | (apply xo_mul; (focus (first | exact mulR (by decide) | exact mulL (by decide) | exact mulR (by omega) | exact mulL (by omega) | exact mulW (by decide +kernel)))) | (apply xo_div; (focus (first | exact divK (by decide) | exact divK (by omega)))) | (apply xo_modP; (focus (first | decide | omega | decide +kernel)); intro _ _ _) | (apply xo_mod; (focus (first | decide | omega | decide +kernel))) | (apply xo_pow; focus exact powK (by decide)) | refine xo_lt ?_ | refine xo_le ?_ | refine xo_gt ?_)
local macro_rules | `(tactic| walk_at "op") => `(tactic| with_reducible first | refine xo_neD ?_ | refine xo_eqD ?_ | refine xas ?_ | refine xo_strAS ?_ | refine xo_inStr ?_ | refine xo_notInStr ?_ | refine xo_inG ?_ | refine xo_addI ?_ | refine xo_addI' ?_)
local macro_rules | `(tactic| walk_at "op") => `(tactic| with_reducible first | (apply xp_g; (focus (walk_at "at"; done))) | refine xr_o ?_ | refine ak_o ?_ | refine ak_s ?_ | refine ko_s ?_ | refine ko_i ?_ | refine xo_dget ?_ | refine xo_din ?_ | refine xo_dict ?_)
local macro_rules | `(tactic| walk_at "op") => `(tactic| with_reducible first | (apply xg_v; (focus (walk_at "at"; done))) | refine xg_t ?_ | refine xh_nil ?_ | (apply xh_v; (focus (walk_at "at"; done))) | refine xh_t ?_ | (refine xg_T rfl ?_) | refine xg_nil ?_ | refine xg_cons ?_ | (apply xw_s; (focus (walk_at "at"; done))))
local macro_rules | `(tactic| walk_at "1") => `(tactic| with_reducible first | refine par2 ?_ | refine lenAnd (by simp only [List.length_cons, List.length_nil]; omega) ?_ | (apply r1N; (focus omega)) | (apply r2S; (focus omega)) | (apply r1; (focus omega)) | (apply r2; (focus omega)) | refine xl_nil' ?_ | (apply def_rt; (focus (walk_at "at"; done))) | (apply def_nx; (focus (walk_at "at"; done))))
local macro_rules | `(tactic| walk_at "1") => `(tactic| with_reducible first | (apply xsi; (focus (walk_at "at"; done))) | refine ex_shr ?_ | refine len15 (by simp only [List.length_cons, List.length_nil]; omega) ?_ | (apply xsd; (focus (walk_at "at"; done))) | refine par3 ?_ | (apply acc2; (focus (first | omega | (simp only [List.length_cons, List.length_nil, List.length_append]; omega))); (focus (walk_at "at"; done)); (focus (walk_at "at"; done))))
local macro_rules | `(tactic| walk_at "1") => `(tactic| with_reducible ((show XPs _ _ _); (first | refine xps_nil ?_ | refine xps_cons ?_)))
local macro_rules | `(tactic| walk_at "1") => `(tactic| with_reducible ((show XLk _ _ _); (first | refine xlk_t ?_ | (apply xlk_s; (focus (walk_at "at"; done))) | (apply xlk_l; (focus (walk_at "at"; done))))))
local macro_rules | `(tactic| walk_at "1") => `(tactic| with_reducible ((show XJ _ _); (first | refine xj_l ?_ | refine xj_ls ?_ | refine xj_t ?_ | refine xj_s ?_)))
local macro_rules | `(tactic| walk_at "1") => `(tactic| with_reducible ((show lcQ2 _ _ _ _ _ _ _ _); (first | (apply lc2_n; (focus (walk_at "at"; done)); (focus (walk_at "at"; done)); (focus (walk_at "at"; done)); (focus (walk_at "at"; done))) | (apply lc2_l; (focus (walk_at "at"; done)); (focus (walk_at "at"; done)); (focus (walk_at "at"; done)); (focus (walk_at "at"; done)); (focus (walk_at "at"; done))))))
local macro_rules | `(tactic| walk_at "1") => `(tactic| with_reducible ((show lcQ _ _ _ _ _ _ _ _); (first | (apply lc_n; (focus (walk_at "at"; done)); (focus (walk_at "at"; done))) | (apply lc_l; (focus (walk_at "at"; done)); (focus (walk_at "at"; done)); (focus (walk_at "at"; done))))))
local macro_rules | `(tactic| walk_at "1") => `(tactic| with_reducible ((show forQ _ _ _ _ _ _); (first | refine for_n ?_ | (apply for_l; (focus (walk_at "at"; done))))))
local macro_rules | `(tactic| walk_at "1") => `(tactic| with_reducible ((show unlQ _ _ _); (first | refine unl_n ?_ | (apply unl_nx; (focus (walk_at "at"; done))) | refine unl_rt ?_)))
local macro_rules | `(tactic| walk_at "1") => `(tactic| with_reducible ((show turnQ _ _ _); (first | refine turn_nx ?_ | refine turn_ct ?_ | refine turn_bk ?_ | refine turn_rt ?_)))
local macro_rules | `(tactic| walk_at "1") => `(tactic| with_reducible ((show XC _ _ _ _ _ _ _ _); (first | refine xc_nil' ?_ | refine xc2_nil ?_ | refine xc2_cons ?_ | refine xc_yes1 ?_)))
local macro_rules | `(tactic| walk_at "1") => `(tactic| with_reducible ((show XM _ _ _ _); (first | (apply xm_set; (focus (walk_at "at"; done)); (focus (first | exact setL0 | exact setL1 | exact setL2 | assumption)); (focus (walk_at "at"; done))) | (apply xm_app; (focus (walk_at "at"; done)); (focus (first | assumption | omega | decide | (simp only [List.length_append, List.length_cons, List.length_nil]; omega))); (focus (walk_at "at"; done))) | (apply xm_put; (focus (walk_at "at"; done)); (focus omega); (focus (walk_at "at"; done))) | (apply xm_pop0; (focus (walk_at "at"; done)); (focus (walk_at "at"; done))) | (apply xm_pop; (focus (walk_at "at"; done)); (focus (walk_at "at"; done))))))
local macro_rules | `(tactic| walk_at "1") => `(tactic| with_reducible ((show XRt _ _ _); (first | refine xrt_t ?_ | (apply xrt_s; (focus (walk_at "at"; done))) | (apply xrt_pl; (focus (walk_at "at"; done))) | (apply xrt_l; (focus (walk_at "at"; done)); (focus (walk_at "at"; done))) | (apply xrt_k; (focus (walk_at "at"; done)); (focus (walk_at "at"; done))) | (apply xrt_pk; (focus (walk_at "at"; done))))))
local macro_rules | `(tactic| walk_at "1") => `(tactic| with_reducible ((show XI _ _ _); (first | refine xi_r1' ?_ | refine xi_r2' ?_ | refine xi_seq' ?_)))
local macro_rules | `(tactic| walk_at "1") => `(tactic| with_reducible ((show XP _ _ _); (first | refine xp_no ?_ | refine xp_some ?_)))
local macro_rules | `(tactic| walk_at "1") => `(tactic| with_reducible ((show seqQ _ _ _); (first | refine seq_nx ?_ | refine seq_rt ?_ | refine seq_bk ?_ | refine seq_ct ?_)))
local macro_rules | `(tactic| walk_at "1") => `(tactic| with_reducible ((show XW _ _ _ _); (first | (apply xw_t; (focus (walk_at "at"; done))) | refine xw_v ?_)))
local macro_rules | `(tactic| walk_at "1") => `(tactic| with_reducible ((show XT _ _ _); (first | refine xt_s ?_ | refine xt_l ?_ | refine xt_k ?_ | (apply xt_vs; (focus (walk_at "at"; done))) | (apply xt_vl; (focus (walk_at "at"; done))) | (apply xt_vk; (focus (walk_at "at"; done))))))
local macro_rules | `(tactic| walk_at "1") => `(tactic| with_reducible ((show XD _ _ _); (first | refine xd ?_)))
local macro_rules | `(tactic| walk_at "1") => `(tactic| with_reducible ((show TF _ _ _); (first | refine tf_t ?_ | refine tf_f ?_)))
local macro_rules | `(tactic| walk_at "1") => `(tactic| with_reducible ((show XHs _ _ _); (first | refine xhs_nil ?_ | refine xhs_cons ?_)))
local macro_rules | `(tactic| walk_at "1") => `(tactic| with_reducible ((show XDs _ _ _); (first | refine xds_nil ?_ | refine xds_cons ?_)))
local macro_rules | `(tactic| walk_at "1") => `(tactic| with_reducible ((show XB _ _ _); (first | refine xb_and' ?_ | refine xb_or' ?_ | refine xb_not ?_ | refine xb_val ?_ | refine xb_tru ?_ | refine xb_yes ?_)))
local macro_rules | `(tactic| walk_at "1") => `(tactic| with_reducible ((show XS _ _ _); (first | refine xs_seq' ?_ | refine xs_nil ?_ | refine xs_set' ?_ | refine xs_asg ?_ | refine xs_par2 ?_ | refine xs_drop ?_ | refine xs_ret' ?_ | refine xs_retN ?_ | refine xs_if' ?_ | refine xs_brk ?_ | refine xs_cont ?_ | refine xs_for' ?_ | (refine xs_setIx2 ?_) | (apply xs_augIx'L; (focus (walk_at "at"; done))) | (apply xs_aug'; (focus (walk_at "at"; done))) | refine xs_setDx ?_ | refine xs_par3 ?_)))
local macro_rules | `(tactic| walk_at "1") => `(tactic| with_reducible ((show XE _ _ _); (first | (apply xv; (focus (walk_at "at"; done))) | refine xe_c ?_ | refine xe_bin ?_ | refine xe_un ?_ | refine xe_if' ?_ | refine xe_B ?_ | refine xe_callB ?_ | refine xe_tup ?_ | refine xe_lst ?_ | refine xe_sl ?_ | (apply xe_mt'L; (focus (walk_at "at"; done))) | refine xe_lc' ?_ | (refine xe_call' ?_) | refine xe_o ?_ | refine xe_get2 ?_ | refine xe_get1 ?_ | refine xe_disp ?_ | refine xe_join ?_ | refine xe_lc2 ?_ | refine xe_sidx ?_)))
local macro_rules | `(tactic| walk_at "1") => `(tactic| with_reducible ((show XO _ _); (walk_at "op")))
local macro_rules | `(tactic| walk_at "at") => `(tactic| with_reducible first | ((repeat (apply At.s)); (exact At.z)) | ((repeat (apply Put.s)); (first | exact Put.n | exact Put.z | exact Put.f (by assumption))) | ((repeat (apply Chg.s)); (exact Chg.z)) | ((repeat (apply SetAt.s)); (exact SetAt.z)) | ((repeat (apply Slt.s)); (exact Slt.z)) | ((repeat (apply Fin'.s)); (exact Fin'.z)) | ((repeat (first | apply Ini.shr | apply Ini.n | apply Ini.ol | apply Ini.od)); (exact Ini.z)) | exact Wb.nil)
-- END MACRO
/-! ### spread -/
theorem slen (a b : Str) : (a ++ b).length = a.length + b.length := by
  show (a.cps ++ b.cps).size = _
  rw [Array.size_append]; rfl
theorem ixS0 {s : Str} (h : Ts s) {Q : O → Prop} (q : ∀ c, Q (.shr (.str c))) : XO (oIx (.shr (.str s)) (.shr (.int 0))) Q := by
  have hl : s.cps.toList.length = s.length := by rw [Array.length_toList]; rfl
  refine xo_ixS (by have := h.2; omega) (at_nat (k := 0) (by rw [hl]; exact h.1)) (q _)
theorem ixSm {s : Str} (h : Ts s) {Q : O → Prop} (q : ∀ c, Q (.shr (.str c))) : XO (oIx (.shr (.str s)) (.shr (.int (-1)))) Q := by
  have hl : s.cps.toList.length = s.length := by rw [Array.length_toList]; rfl
  have hne : s.cps.toList ≠ [] := fun z => by rw [z] at hl; have := h.1; simp at hl; omega
  have e : s.cps.toList = s.cps.toList.dropLast ++ [s.cps.toList.getLast hne] := (List.dropLast_concat_getLast hne).symm
  refine xo_ixS (by have := h.2; omega) (c := s.cps.toList.getLast hne) ?_ (q _)
  conv => lhs; rw [e]
  exact at_m1
theorem lnS {s : Str} (h : s.length ≤ 900000) {Q : O → Prop} (q : Q (.shr (.int s.length))) : XO (oLen [.shr (.str s)]) Q := xo_lenS (by omega) q
theorem addSt {a b : Str} (h : a.length + b.length ≤ 900000) {Q : O → Prop} (q : ∀ c : Str, c.length = a.length + b.length → Q (.shr (.str c))) : XO (oAdd (.shr (.str a)) (.shr (.str b))) Q := xo_addS (by omega) (q _ (slen a b))
abbrev gluedF : EF := (vB (bAnd (bVal (vBin oInStr (vBin oIx (vVar 8) (vUn oNeg (vC (.int 1)))) (vVar 3))) (bAnd (bVal (vBin oInStr (vBin oIx (vVar 9) (vC (.int 0))) (vVar 3))) (bOr (bVal (vBin oNotInStr (vBin oIx (vVar 8) (vC (.int 0))) (vVar 2))) (bVal (vBin oInStr (vBin oIx (vVar 9) (vC (.int 0))) (vVar 2)))))))
local macro_rules | `(tactic| walk_at "law") => `(tactic| repeat' (first | with_reducible refine ixS0 (by assumption) fun _ => ?_ | with_reducible refine ixSm (by assumption) fun _ => ?_ | walk_at "1" | ((with_reducible refine lend_ok ?_ ?_); (focus rfl)) | ((with_reducible apply wbx); (focus (walk_at "wb"; done)); (focus rfl)) | walk_at "tf" | walk_at "isi" | with_reducible refine x_pick (by assumption) (by omega) (by omega) fun _ _ _ _ _ => ?_ | walk_at "both"))
theorem x_glued {x0 x1 x4 x5 x6 x7 x10 x11 : Option Slot} {fg lt s t : Str} (hs : Ts s) (ht : Ts t) {Q : Hnd → Sto → Prop}
    (q : ∀ b, Q (.tmp (.shr (.bl b))) [x0, x1, some ⟨.shr (.str fg), false, false⟩, some ⟨.shr (.str lt), false, false⟩, x4, x5, x6, x7, some ⟨.shr (.str s), false, false⟩, some ⟨.shr (.str t), false, false⟩, x10, x11]) :
    XE gluedF [x0, x1, some ⟨.shr (.str fg), false, false⟩, some ⟨.shr (.str lt), false, false⟩, x4, x5, x6, x7, some ⟨.shr (.str s), false, false⟩, some ⟨.shr (.str t), false, false⟩, x10, x11] Q := by
  walk_at "law"
  all_goals exact q _
abbrev spaceF : SF := (sIf (bOr (bVal (vBin oEq (vCallB oLen (vConsH (vVar 6) vNilH)) (vCallB oLen (vConsH (vBin oIx (vVar 1) (vC (.int 0))) vNilH)))) (bOr (bTru (vVar 11)) (bVal (vBin oEq (vCall F_pick (vConsH (vVar 0) (vConsH (vC (.int 2)) vNilH))) (vC (.int 0))))))
      (sSet 6 (vBin oAdd (vVar 6) (vC (.str " "))))
      sNil)
local macro_rules | `(tactic| walk_at "law") => `(tactic| repeat' (first | with_reducible refine lnS (by assumption) ?_ | with_reducible refine lnS (by decide +kernel) ?_ | walk_at "1" | ((with_reducible refine lend_ok ?_ ?_); (focus rfl)) | ((with_reducible apply wbx); (focus (walk_at "wb"; done)); (focus rfl)) | walk_at "tf" | walk_at "isi" | with_reducible refine x_pick (by assumption) (by omega) (by omega) fun _ _ _ _ _ => ?_ | walk_at "both"))
theorem x_space {src : List D} {w : Str} {rest : List D} {x2 x3 x4 x5 x7 x8 x9 x10 : Option Slot} {text : Str} {b : Bool} (hs : Src3 src) (hw : w.length ≤ 900000) (htx : text.length ≤ 900000) (htx2 : text.length ≤ 800000) {Q : Out → Prop}
    (q : ∀ src' text', Src3 src' → text'.length ≤ text.length + 1 → Q (.nx [some ⟨.ol src', true, false⟩, some ⟨.shr (.tup (.str w :: rest)), false, false⟩, x2, x3, x4, x5, some ⟨.shr (.str text'), false, false⟩, x7, x8, x9, x10, some ⟨.shr (.bl b), false, false⟩])) :
    XS spaceF [some ⟨.ol src, true, false⟩, some ⟨.shr (.tup (.str w :: rest)), false, false⟩, x2, x3, x4, x5, some ⟨.shr (.str text), false, false⟩, x7, x8, x9, x10, some ⟨.shr (.bl b), false, false⟩] Q := by
  have h1 : (Str.ofString " ").length = 1 := by decide +kernel
  walk_at "law"
  all_goals first
    | (refine addSt (by rw [h1]; omega) fun c hc => ?_
       walk_at "law"
       exact q _ _ (by assumption) (by rw [hc, h1]; omega))
    | exact q _ _ (by assumption) (by omega)
end K50

set_option maxRecDepth 100000
set_option maxHeartbeats 4000000
namespace K50
open PV PySem L2
local macro_rules | `(tactic| walk_at "all") => `(tactic| repeat' (first | walk_at "1" | ((with_reducible refine lend_ok ?_ ?_); (focus rfl)) | ((with_reducible apply wbx); (focus (walk_at "wb"; done)); (focus rfl)) | walk_at "tf" | walk_at "isi" | walk_at "both" | with_reducible refine ixL3 (by omega) (by omega) ?_ ?_ ?_))
local macro_rules | `(tactic| walk_at "run") => `(tactic| repeat (first | walk_at "1" | ((with_reducible refine lend_ok ?_ ?_); (focus rfl)) | ((with_reducible apply wbx); (focus (walk_at "wb"; done)); (focus rfl)) | walk_at "tf" | walk_at "isi"))
local macro_rules | `(tactic| walk_at "isi") => `(tactic| ((with_reducible show XO (oIsi _) _); first
  | refine isiT (c := .bool) rfl rfl rfl ?_ | refine isiF (c := .bool) rfl rfl rfl ?_ | refine isiT (c := .int) rfl rfl rfl ?_ | refine isiF (c := .int) rfl rfl rfl ?_ | refine isiT (c := .str) rfl rfl rfl ?_ | refine isiF (c := .str) rfl rfl rfl ?_
  | refine isiT (c := .dict) rfl rfl rfl ?_ | refine isiF (c := .dict) rfl rfl rfl ?_ | refine isiT (c := .tuple) rfl rfl rfl ?_ | refine isiF (c := .tuple) rfl rfl rfl ?_ | refine isiT (c := .list) rfl rfl rfl ?_ | refine isiF (c := .list) rfl rfl rfl ?_))
local macro_rules | `(tactic| walk_at "both") => `(tactic| with_reducible first | refine tf_d (fun _ => ?_) fun _ => ?_ | refine tf_nd (fun _ => ?_) fun _ => ?_ | refine tf_b (fun _ => ?_) fun _ => ?_)
local macro_rules | `(tactic| walk_at "tf") => `(tactic| with_reducible first | refine tf_T (by decide +kernel) ?_ | refine tf_F (by decide +kernel) ?_ | refine tf_T (decide_eq_true (by omega)) ?_ | refine tf_T (decide_eq_true (by simp only [List.length_cons]; omega)) ?_ | refine tf_F (decide_eq_false (by omega)) ?_ | refine tf_F (decide_eq_false (by assumption)) ?_ | refine tf_T (decide_eq_true (by assumption)) ?_ | refine tf_T (nd_T (by omega)) ?_ | refine tf_F (nd_F (by omega)) ?_ | refine tf_T (nd_T (by assumption)) ?_ | refine tf_F (nd_F (by assumption)) ?_)
local macro_rules | `(tactic| walk_at "wb") => `(tactic| (repeat (first | exact Wb.nil | apply Wb.tmp | apply Wb.shr | (apply Wb.ol'; (focus rfl)) | (apply Wb.od'; (focus rfl)) | (exact Chg.z) | apply Chg.s)))
local macro_rules | `(tactic| walk_at "op") => `(tactic| with_reducible first | refine xal ?_ | refine xals ?_ | (apply xat; (focus (first | exact at0 | exact at1 | exact at2 | assumption))) | refine trI ?_ | refine trB ?_ | refine trN ?_ | refine trL ?_ | refine trLs ?_)
local macro_rules | `(tactic| walk_at "op") => `(tactic| with_reducible first | refine xo_minN ?_ | refine xo_max ?_ | refine xo_min ?_ | (apply strI; (focus omega)) | (apply xo_addN; (focus decide +kernel); (focus omega)) | (apply xo_addS; (focus decide +kernel)) | (apply xo_addT; (focus (refine ⟨List.cons_ne_nil _ _, List.cons_ne_nil _ _, ?_⟩; simp only [List.length_cons, List.length_nil]; omega))) | refine xai ?_ | refine xab ?_)
local macro_rules | `(tactic| walk_at "op") => `(tactic| with_reducible first | refine lsL ?_ | refine lsLs ?_ | refine lsT ?_ | refine slL ?_ | refine slLs ?_ | refine xo_intI ?_ | refine xo_abs ?_ | refine xo_maxN ?_ | refine xo_max1 ?_)
local macro_rules | `(tactic| walk_at "op") => `(tactic| with_reducible first | (apply ixLs; (focus (first | exact at0 | exact at1 | exact at2 | assumption))) | (apply ixT; (focus (first | exact at0 | exact at1 | exact at2 | assumption))) | refine lnL ?_ | refine lnLs ?_ | refine lnT ?_ | refine lnSc ?_ | refine slSc ?_ | (apply ixSc; (focus (first | exact at0 | exact at1 | exact at2 | assumption))) | (apply xo_sumL rfl))
local macro_rules | `(tactic| walk_at "op") => `(tactic| with_reducible first | refine isN2 ?_ | refine isN3 ?_ | refine isN4 ?_ | refine isN5 ?_ | refine noN ?_ | refine noN0 ?_ | refine noN1 ?_ | refine noN2 ?_ | (apply ixL; (focus (first | exact at0 | exact at1 | exact at2 | assumption))))
local macro_rules | `(tactic| walk_at "op") => `(tactic| with_reducible first | refine xo_ge ?_ | refine xo_neg ?_ | refine eqI ?_ | refine neI ?_ | refine eqSt ?_ | refine neSt ?_ | refine isN ?_ | refine isN0 ?_ | refine isN1 ?_)
local macro_rules | `(tactic| walk_at "op") => `(tactic| with_reducible first | refine xo_sub ?_ | (apply xo_mul; (focus (first | exact mulR (by decide) | exact mulL (by decide) | exact mulR (by omega) | exact mulL (by omega) | exact mulW (by decide +kernel)))) | (apply xo_div; (focus (first | exact divK (by decide) | exact divK (by omega)))) | (apply xo_modP; (focus (first | decide | omega | decide +kernel)); intro _ _ _) | (apply xo_mod; (focus (first | decide | omega | decide +kernel))) | (apply xo_pow; focus exact powK (by decide)) | refine xo_lt ?_ | refine xo_le ?_ | refine xo_gt ?_)
local macro_rules | `(tactic| walk_at "op") => `(tactic| with_reducible first | refine xo_neD ?_ | refine xo_eqD ?_ | refine xas ?_ | refine xo_strAS ?_ | refine xo_inStr ?_ | refine xo_notInStr ?_ | refine xo_inG ?_ | refine xo_addI ?_ | refine xo_addI' ?_)
local macro_rules | `(tactic| walk_at "op") => `(tactic| with_reducible first | (apply xp_g; (focus (walk_at "at"; done))) | refine xr_o ?_ | refine ak_o ?_ | refine ak_s ?_ | refine ko_s ?_ | refine ko_i ?_ | refine xo_dget ?_ | refine xo_din ?_ | refine xo_dict ?_)
local macro_rules | `(tactic| walk_at "op") => `(tactic| with_reducible first | (apply xg_v; (focus (walk_at "at"; done))) | refine xg_t ?_ | refine xh_nil ?_ | (apply xh_v; (focus (walk_at "at"; done))) | refine xh_t ?_ | (refine xg_T rfl ?_) | refine xg_nil ?_ | refine xg_cons ?_ | (apply xw_s; (focus (walk_at "at"; done))))
local macro_rules | `(tactic| walk_at "1") => `(tactic| with_reducible first | refine par2 ?_ | refine lenAnd (by simp only [List.length_cons, List.length_nil]; omega) ?_ | (apply r1N; (focus omega)) | (apply r2S; (focus omega)) | (apply r1; (focus omega)) | (apply r2; (focus omega)) | refine xl_nil' ?_ | (apply def_rt; (focus (walk_at "at"; done))) | (apply def_nx; (focus (walk_at "at"; done))))
local macro_rules | `(tactic| walk_at "1") => `(tactic| with_reducible first | (apply xsi; (focus (walk_at "at"; done))) | refine ex_shr ?_ | refine len15 (by simp only [List.length_cons, List.length_nil]; omega) ?_ | (apply xsd; (focus (walk_at "at"; done))) | refine par3 ?_ | (apply acc2; (focus (first | omega | (simp only [List.length_cons, List.length_nil, List.length_append]; omega))); (focus (walk_at "at"; done)); (focus (walk_at "at"; done))))
local macro_rules | `(tactic| walk_at "1") => `(tactic| with_reducible ((show XPs _ _ _); (first | refine xps_nil ?_ | refine xps_cons ?_)))
local macro_rules | `(tactic| walk_at "1") => `(tactic| with_reducible ((show XLk _ _ _); (first | refine xlk_t ?_ | (apply xlk_s; (focus (walk_at "at"; done))) | (apply xlk_l; (focus (walk_at "at"; done))))))
local macro_rules | `(tactic| walk_at "1") => `(tactic| with_reducible ((show XJ _ _); (first | refine xj_l ?_ | refine xj_ls ?_ | refine xj_t ?_ | refine xj_s ?_)))
local macro_rules | `(tactic| walk_at "1") => `(tactic| with_reducible ((show lcQ2 _ _ _ _ _ _ _ _); (first | (apply lc2_n; (focus (walk_at "at"; done)); (focus (walk_at "at"; done)); (focus (walk_at "at"; done)); (focus (walk_at "at"; done))) | (apply lc2_l; (focus (walk_at "at"; done)); (focus (walk_at "at"; done)); (focus (walk_at "at"; done)); (focus (walk_at "at"; done)); (focus (walk_at "at"; done))))))
local macro_rules | `(tactic| walk_at "1") => `(tactic| with_reducible ((show lcQ _ _ _ _ _ _ _ _); (first | (apply lc_n; (focus (walk_at "at"; done)); (focus (walk_at "at"; done))) | (apply lc_l; (focus (walk_at "at"; done)); (focus (walk_at "at"; done)); (focus (walk_at "at"; done))))))
local macro_rules | `(tactic| walk_at "1") => `(tactic| with_reducible ((show forQ _ _ _ _ _ _); (first | refine for_n ?_ | (apply for_l; (focus (walk_at "at"; done))))))
local macro_rules | `(tactic| walk_at "1") => `(tactic| with_reducible ((show unlQ _ _ _); (first | refine unl_n ?_ | (apply unl_nx; (focus (walk_at "at"; done))) | refine unl_rt ?_)))
local macro_rules | `(tactic| walk_at "1") => `(tactic| with_reducible ((show turnQ _ _ _); (first | refine turn_nx ?_ | refine turn_ct ?_ | refine turn_bk ?_ | refine turn_rt ?_)))
local macro_rules | `(tactic| walk_at "1") => `(tactic| with_reducible ((show XC _ _ _ _ _ _ _ _); (first | refine xc_nil' ?_ | refine xc2_nil ?_ | refine xc2_cons ?_ | refine xc_yes1 ?_)))
local macro_rules | `(tactic| walk_at "1") => `(tactic| with_reducible ((show XM _ _ _ _); (first | (apply xm_set; (focus (walk_at "at"; done)); (focus (first | exact setL0 | exact setL1 | exact setL2 | assumption)); (focus (walk_at "at"; done))) | (apply xm_app; (focus (walk_at "at"; done)); (focus (first | assumption | omega | decide | (simp only [List.length_append, List.length_cons, List.length_nil]; omega))); (focus (walk_at "at"; done))) | (apply xm_put; (focus (walk_at "at"; done)); (focus omega); (focus (walk_at "at"; done))) | (apply xm_pop0; (focus (walk_at "at"; done)); (focus (walk_at "at"; done))) | (apply xm_pop; (focus (walk_at "at"; done)); (focus (walk_at "at"; done))))))
local macro_rules | `(tactic| walk_at "1") => `(tactic| with_reducible ((show XRt _ _ _); (first | refine xrt_t ?_ | (apply xrt_s; (focus (walk_at "at"; done))) | (apply xrt_pl; (focus (walk_at "at"; done))) | (apply xrt_l; (focus (walk_at "at"; done)); (focus (walk_at "at"; done))) | (apply xrt_k; (focus (walk_at "at"; done)); (focus (walk_at "at"; done))) | (apply xrt_pk; (focus (walk_at "at"; done))))))
local macro_rules | `(tactic| walk_at "1") => `(tactic| with_reducible ((show XI _ _ _); (first | refine xi_r1' ?_ | refine xi_r2' ?_ | refine xi_seq' ?_)))
local macro_rules | `(tactic| walk_at "1") => `(tactic| with_reducible ((show XP _ _ _); (first | refine xp_no ?_ | refine xp_some ?_)))
local macro_rules | `(tactic| walk_at "1") => `(tactic| with_reducible ((show seqQ _ _ _); (first | refine seq_nx ?_ | refine seq_rt ?_ | refine seq_bk ?_ | refine seq_ct ?_)))
local macro_rules | `(tactic| walk_at "1") => `(tactic| with_reducible ((show XW _ _ _ _); (first | (apply xw_t; (focus (walk_at "at"; done))) | refine xw_v ?_)))
local macro_rules | `(tactic| walk_at "1") => `(tactic| with_reducible ((show XT _ _ _); (first | refine xt_s ?_ | refine xt_l ?_ | refine xt_k ?_ | (apply xt_vs; (focus (walk_at "at"; done))) | (apply xt_vl; (focus (walk_at "at"; done))) | (apply xt_vk; (focus (walk_at "at"; done))))))
local macro_rules | `(tactic| walk_at "1") => `(tactic| with_reducible ((show XD _ _ _); (first | refine xd ?_)))
local macro_rules | `(tactic| walk_at "1") => `(tactic| with_reducible ((show TF _ _ _); (first | refine tf_t ?_ | refine tf_f ?_)))
local macro_rules | `(tactic| walk_at "1") => `(tactic| with_reducible ((show XHs _ _ _); (first | refine xhs_nil ?_ | refine xhs_cons ?_)))
local macro_rules | `(tactic| walk_at "1") => `(tactic| with_reducible ((show XDs _ _ _); (first | refine xds_nil ?_ | refine xds_cons ?_)))
local macro_rules | `(tactic| walk_at "1") => `(tactic| with_reducible ((show XB _ _ _); (first | refine xb_and' ?_ | refine xb_or' ?_ | refine xb_not ?_ | refine xb_val ?_ | refine xb_tru ?_ | refine xb_yes ?_)))
local macro_rules | `(tactic| walk_at "1") => `(tactic| with_reducible ((show XS _ _ _); (first | refine xs_seq' ?_ | refine xs_nil ?_ | refine xs_set' ?_ | refine xs_asg ?_ | refine xs_par2 ?_ | refine xs_drop ?_ | refine xs_ret' ?_ | refine xs_retN ?_ | refine xs_if' ?_ | refine xs_brk ?_ | refine xs_cont ?_ | refine xs_for' ?_ | (refine xs_setIx2 ?_) | (apply xs_augIx'L; (focus (walk_at "at"; done))) | (apply xs_aug'; (focus (walk_at "at"; done))) | refine xs_setDx ?_ | refine xs_par3 ?_)))
local macro_rules | `(tactic| walk_at "1") => `(tactic| with_reducible ((show XE _ _ _); (first | (apply xv; (focus (walk_at "at"; done))) | refine xe_c ?_ | refine xe_bin ?_ | refine xe_un ?_ | refine xe_if' ?_ | refine xe_B ?_ | refine xe_callB ?_ | refine xe_tup ?_ | refine xe_lst ?_ | refine xe_sl ?_ | (apply xe_mt'L; (focus (walk_at "at"; done))) | refine xe_lc' ?_ | (refine xe_call' ?_) | refine xe_o ?_ | refine xe_get2 ?_ | refine xe_get1 ?_ | refine xe_disp ?_ | refine xe_join ?_ | refine xe_lc2 ?_ | refine xe_sidx ?_)))
local macro_rules | `(tactic| walk_at "1") => `(tactic| with_reducible ((show XO _ _); (walk_at "op")))
local macro_rules | `(tactic| walk_at "at") => `(tactic| with_reducible first | ((repeat (apply At.s)); (exact At.z)) | ((repeat (apply Put.s)); (first | exact Put.n | exact Put.z | exact Put.f (by assumption))) | ((repeat (apply Chg.s)); (exact Chg.z)) | ((repeat (apply SetAt.s)); (exact SetAt.z)) | ((repeat (apply Slt.s)); (exact Slt.z)) | ((repeat (apply Fin'.s)); (exact Fin'.z)) | ((repeat (first | apply Ini.shr | apply Ini.n | apply Ini.ol | apply Ini.od)); (exact Ini.z)) | exact Wb.nil)
-- END MACRO
theorem xm_setN {i k : Nat} {d : D} {ds : List D} {p l : Bool} {env env' : Sto} {Q : D → Sto → Prop} (h0 : At env i (.ol ds) p l) (hk : k < ds.length) (h : Chg env i (.ol ds) (.ol (ds.set k d)) env') (q : Q .non env') : XM i (setL (k : Int) d) env Q := xm_set h0 (setL_nat hk) h q
def PsOk (ps : List (D × D)) : Prop := ∀ p ∈ ps, ∃ i j : Int, p = (.int i, .int j)
theorem psok_set {ps : List (D × D)} (h : PsOk ps) (k : Nat) (i j : Int) : PsOk (ps.set k (.int i, .int j)) := fun p hp => by
  rcases List.mem_or_eq_of_mem_set hp with hp | rfl
  · exact h p hp
  · exact ⟨i, j, rfl⟩
local macro_rules | `(tactic| walk_at "law") => `(tactic| repeat' (first | with_reducible refine x_glued (by assumption) (by assumption) (fun _ => ?_) | with_reducible refine x_space (by assumption) (by assumption) (by assumption) (by assumption) (fun _ _ _ _ => ?_) | with_reducible refine lnS (by omega) ?_ | with_reducible refine lnS (by decide +kernel) ?_ | with_reducible refine addSt (by omega) (fun _ _ => ?_) | walk_at "1" | ((with_reducible refine lend_ok ?_ ?_); (focus rfl)) | ((with_reducible apply wbx); (focus (walk_at "wb"; done)); (focus rfl)) | walk_at "tf" | walk_at "isi" | ((with_reducible apply xm_setN); (focus (walk_at "at"; done)); (focus omega); (focus (walk_at "at"; done)))))
abbrev loopS : SF := (sFor (iSeq (vVar 4)) (gT 2 (gConsF (gN 9) (gConsF (gN 10) gNilF)))
      (sSeq (sSet 11 gluedF)
    (sSeq spaceF
    (sSeq (sIf (bVal (vBin oNotN (vVar 10) (vC .non)))
      (sSetIx 7 (vTake (vTup (vConsD (vTake (vBin oAdd (vCallB oLen (vConsH (vVar 6) vNilH)) (vC (.int 1)))) (vConsD (vTake (vBin oAdd (vCallB oLen (vConsH (vVar 6) vNilH)) (vCallB oLen (vConsH (vVar 9) vNilH)))) vNilD)))) (vVar 10))
      sNil)
    (sSeq (sSet 6 (vBin oAdd (vVar 6) (vVar 9)))
    (sSet 8 (vVar 9)))))))
def JX (tr : D) (fg lt : Str) (toks : List D) (mm : D) (m k : Nat) (e : Sto) : Prop := ∃ (src : List D) (text last : Str) (ps : List (D × D)) (x9 x10 x11 : Option Slot), Src3 src ∧ text.length ≤ 100 + 51 * k ∧ Ts last ∧ ps.length = m ∧ PsOk ps ∧ Fre' x9 ∧ Fre' x10 ∧ Fre' x11 ∧
  e = [some ⟨.ol src, true, false⟩, some ⟨.shr tr, false, false⟩, some ⟨.shr (.str fg), false, false⟩, some ⟨.shr (.str lt), false, false⟩, some ⟨.shr (.lst toks), false, false⟩, some ⟨.shr mm, false, false⟩, some ⟨.shr (.str text), false, false⟩, some ⟨.ol (ps.map pD), false, false⟩, some ⟨.shr (.str last), false, false⟩, x9, x10, x11]
theorem x_loopS {src toks rest : List D} {w fg lt text last : Str} {mm : D} {ps : List (D × D)} {x9 x10 x11 : Option Slot} (f9 : Fre' x9) (f10 : Fre' x10) (f11 : Fre' x11) (hs : Src3 src) (hw : w.length ≤ 900000) (htx : text.length ≤ 100) (hla : Ts last) (hp : PsOk ps) (ht : ∀ d ∈ toks, Tk ps.length d) (hl : toks.length ≤ 1000) {Q : Out → Prop}
    (q : ∀ e, JX (.tup (.str w :: rest)) fg lt toks mm ps.length toks.length e → Q (.nx e)) :
    XS loopS [some ⟨.ol src, true, false⟩, some ⟨.shr (.tup (.str w :: rest)), false, false⟩, some ⟨.shr (.str fg), false, false⟩, some ⟨.shr (.str lt), false, false⟩, some ⟨.shr (.lst toks), false, false⟩, some ⟨.shr mm, false, false⟩, some ⟨.shr (.str text), false, false⟩, some ⟨.ol (ps.map pD), false, false⟩, some ⟨.shr (.str last), false, false⟩, x9, x10, x11] Q := by
  walk_at "law"
  refine xl_ix' (JX (.tup (.str w :: rest)) fg lt toks mm ps.length) ⟨src, text, last, ps, x9, x10, x11, hs, by omega, hla, rfl, hp, f9, f10, f11, rfl⟩ ?_ ?_
  · intro e h
    walk_at "law"
    exact q e h
  · rintro k e hk ⟨src', text', last', ps', y9, y10, y11, hs', h1, h2, h3, h4, g9, g10, g11, rfl⟩
    obtain ⟨s, mk, ed, hts, hmk⟩ := ht _ (List.getElem_mem hk)
    rw [ed]
    have t1 := hts.1
    have t2 := hts.2
    have l1 : text'.length ≤ 900000 := by omega
    have l2 : text'.length ≤ 800000 := by omega
    have lm : (ps'.map pD).length = ps'.length := List.length_map ..
    rcases hmk with rfl | ⟨j, rfl, hj⟩
    · walk_at "law"
      rename_i b s1 tx1 hs1 ht1 tx2 ht2
      exact ⟨s1, tx2, s, ps', _, _, _, hs1, by omega, hts, h3, h4, .s, .s, .s, rfl⟩
    · have hj' : j < (ps'.map pD).length := by omega
      walk_at "law"
      rename_i b s1 tx1 hs1 ht1 tx2 ht2
      exact ⟨s1, tx2, s, ps'.set j (.int ((tx1.length : Int) + 1), .int ((tx1.length : Int) + (s.length : Int))), _, _, _, hs1, by omega, hts, by rw [List.length_set]; exact h3, psok_set h4 _ _ _, .s, .s, .s, by rw [List.map_set]; rfl⟩
theorem x_loopE {src toks rest P : List D} {w fg lt text last : Str} {mm : D} {x9 x10 x11 : Option Slot} {Q : Out → Prop}
    (h : ∃ ps : List (D × D), P = ps.map pD ∧ Fre' x9 ∧ Fre' x10 ∧ Fre' x11 ∧ Src3 src ∧ w.length ≤ 900000 ∧ text.length ≤ 100 ∧ Ts last ∧ PsOk ps ∧ (∀ d ∈ toks, Tk ps.length d) ∧ toks.length ≤ 1000 ∧ ∀ e, JX (.tup (.str w :: rest)) fg lt toks mm ps.length toks.length e → Q (.nx e)) :
    XS loopS [some ⟨.ol src, true, false⟩, some ⟨.shr (.tup (.str w :: rest)), false, false⟩, some ⟨.shr (.str fg), false, false⟩, some ⟨.shr (.str lt), false, false⟩, some ⟨.shr (.lst toks), false, false⟩, some ⟨.shr mm, false, false⟩, some ⟨.shr (.str text), false, false⟩, some ⟨.ol P, false, false⟩, some ⟨.shr (.str last), false, false⟩, x9, x10, x11] Q := by
  obtain ⟨ps, rfl, h1, h2, h3, h4, h5, h6, h7, h8, h9, h10, q⟩ := h
  exact x_loopS h1 h2 h3 h4 h5 h6 h7 h8 h9 h10 q
theorem rep_pD (n : Nat) (i j : D) : (List.replicate n [D.tup [i, j]]).flatten = (List.replicate n (i, j)).map pD := by
  induction n with
  | zero => rfl
  | succ n ih => rw [List.replicate_succ, List.replicate_succ, List.flatten_cons, ih]; rfl
theorem psok_rep (n : Nat) (i j : Int) : PsOk (List.replicate n (D.int i, D.int j)) := fun p hp => ⟨i, j, (List.mem_replicate.mp hp).2⟩
local macro_rules | `(tactic| walk_at "law") => `(tactic| repeat' (first | with_reducible refine x_loopE ?_ | with_reducible refine lnS (by decide +kernel) ?_ | walk_at "1" | ((with_reducible refine lend_ok ?_ ?_); (focus rfl)) | ((with_reducible apply wbx); (focus (walk_at "wb"; done)); (focus rfl)) | walk_at "tf" | walk_at "isi"))
theorem x_spread (f : Fm) {src : List D} (hs : Src3 src) (hn : nl f.ts ≤ 100) (hsm : ∀ t ∈ f.ts, t.sm ∧ t.dep < 6) {Q : Rs → List O → Prop} (q : ∀ tx ps src', Src3 src' → ps.length = nl f.ts + 1 → PsOk ps → Q (.o (.shr (.tup [.str tx, .lst (ps.map pD)]))) [.ol src', .shr f.d]) : XF F_spread [.ol src, .shr f.d] Q := by
  refine xf' rfl (by walk_at "at") ?_
  unfold f_spread
  walk_at "law"
  refine x_tokened f hs hn hsm fun toks src1 hs1 ht hl => ?_
  have en : ((nl f.ts : Nat) + 1 : Int).toNat = nl f.ts + 1 := by omega
  have fn : Fre' none := .n
  cases f with
  | tell t =>
    simp only [Fm.d] at *
    walk_at "law"
    refine xo_rep rfl ⟨by simp, by omega, by omega⟩ ?_
    walk_at "law"
    rw [en, rep_pD]
    walk_at "law"
    refine ⟨_, rfl, fn, fn, fn, hs1, by decide +kernel, by decide +kernel, ts_d _, psok_rep _ _ _, by rw [List.length_replicate]; exact ht, hl, ?_⟩
    rintro e ⟨src2, tx, last, ps, x9, x10, x11, h1, h2, h3, h4, h5, h6, h7, h8, rfl⟩
    walk_at "law"
    rw [List.length_replicate] at h4
    exact q tx ps src2 h1 h4 h5
  | set t =>
    simp only [Fm.d] at *
    walk_at "law"
    refine xo_rep rfl ⟨by simp, by omega, by omega⟩ ?_
    walk_at "law"
    rw [en, rep_pD]
    walk_at "law"
    refine ⟨_, rfl, fn, fn, fn, hs1, by decide +kernel, by decide +kernel, ts_d _, psok_rep _ _ _, by rw [List.length_replicate]; exact ht, hl, ?_⟩
    rintro e ⟨src2, tx, last, ps, x9, x10, x11, h1, h2, h3, h4, h5, h6, h7, h8, rfl⟩
    walk_at "law"
    rw [List.length_replicate] at h4
    exact q tx ps src2 h1 h4 h5
  | go t =>
    simp only [Fm.d] at *
    walk_at "law"
    refine xo_rep rfl ⟨by simp, by omega, by omega⟩ ?_
    walk_at "law"
    rw [en, rep_pD]
    walk_at "law"
    refine ⟨_, rfl, fn, fn, fn, hs1, by decide +kernel, by decide +kernel, ts_d _, psok_rep _ _ _, by rw [List.length_replicate]; exact ht, hl, ?_⟩
    rintro e ⟨src2, tx, last, ps, x9, x10, x11, h1, h2, h3, h4, h5, h6, h7, h8, rfl⟩
    walk_at "law"
    rw [List.length_replicate] at h4
    exact q tx ps src2 h1 h4 h5
  | call ts =>
    simp only [Fm.d] at *
    walk_at "law"
    refine xo_rep rfl ⟨by simp, by omega, by omega⟩ ?_
    walk_at "law"
    rw [en, rep_pD]
    walk_at "law"
    refine ⟨_, rfl, fn, fn, fn, hs1, by decide +kernel, by decide +kernel, ts_d _, psok_rep _ _ _, by rw [List.length_replicate]; exact ht, hl, ?_⟩
    rintro e ⟨src2, tx, last, ps, x9, x10, x11, h1, h2, h3, h4, h5, h6, h7, h8, rfl⟩
    walk_at "law"
    rw [List.length_replicate] at h4
    exact q tx ps src2 h1 h4 h5
end K50

set_option maxRecDepth 100000
set_option maxHeartbeats 4000000
namespace K50
open PV PySem L2
local macro_rules | `(tactic| walk_at "all") => `(tactic| repeat' (first | walk_at "1" | ((with_reducible refine lend_ok ?_ ?_); (focus rfl)) | ((with_reducible apply wbx); (focus (walk_at "wb"; done)); (focus rfl)) | walk_at "tf" | walk_at "isi" | walk_at "both" | with_reducible refine ixL3 (by omega) (by omega) ?_ ?_ ?_))
local macro_rules | `(tactic| walk_at "run") => `(tactic| repeat (first | walk_at "1" | ((with_reducible refine lend_ok ?_ ?_); (focus rfl)) | ((with_reducible apply wbx); (focus (walk_at "wb"; done)); (focus rfl)) | walk_at "tf" | walk_at "isi"))
local macro_rules | `(tactic| walk_at "isi") => `(tactic| ((with_reducible show XO (oIsi _) _); first
  | refine isiT (c := .bool) rfl rfl rfl ?_ | refine isiF (c := .bool) rfl rfl rfl ?_ | refine isiT (c := .int) rfl rfl rfl ?_ | refine isiF (c := .int) rfl rfl rfl ?_ | refine isiT (c := .str) rfl rfl rfl ?_ | refine isiF (c := .str) rfl rfl rfl ?_
  | refine isiT (c := .dict) rfl rfl rfl ?_ | refine isiF (c := .dict) rfl rfl rfl ?_ | refine isiT (c := .tuple) rfl rfl rfl ?_ | refine isiF (c := .tuple) rfl rfl rfl ?_ | refine isiT (c := .list) rfl rfl rfl ?_ | refine isiF (c := .list) rfl rfl rfl ?_))
local macro_rules | `(tactic| walk_at "both") => `(tactic| with_reducible first | refine tf_d (fun _ => ?_) fun _ => ?_ | refine tf_nd (fun _ => ?_) fun _ => ?_ | refine tf_b (fun _ => ?_) fun _ => ?_)
local macro_rules | `(tactic| walk_at "tf") => `(tactic| with_reducible first | refine tf_T (by decide +kernel) ?_ | refine tf_F (by decide +kernel) ?_ | refine tf_T (decide_eq_true (by omega)) ?_ | refine tf_T (decide_eq_true (by simp only [List.length_cons]; omega)) ?_ | refine tf_F (decide_eq_false (by omega)) ?_ | refine tf_F (decide_eq_false (by assumption)) ?_ | refine tf_T (decide_eq_true (by assumption)) ?_ | refine tf_T (nd_T (by omega)) ?_ | refine tf_F (nd_F (by omega)) ?_ | refine tf_T (nd_T (by assumption)) ?_ | refine tf_F (nd_F (by assumption)) ?_)
local macro_rules | `(tactic| walk_at "wb") => `(tactic| (repeat (first | exact Wb.nil | apply Wb.tmp | apply Wb.shr | (apply Wb.ol'; (focus rfl)) | (apply Wb.od'; (focus rfl)) | (exact Chg.z) | apply Chg.s)))
local macro_rules | `(tactic| walk_at "op") => `(tactic| with_reducible first | refine xal ?_ | refine xals ?_ | (apply xat; (focus (first | exact at0 | exact at1 | exact at2 | assumption))) | refine trI ?_ | refine trB ?_ | refine trN ?_ | refine trL ?_ | refine trLs ?_)
local macro_rules | `(tactic| walk_at "op") => `(tactic| with_reducible first | refine xo_minN ?_ | refine xo_max ?_ | refine xo_min ?_ | (apply strI; (focus omega)) | (apply xo_addN; (focus decide +kernel); (focus omega)) | (apply xo_addS; (focus decide +kernel)) | (apply xo_addT; (focus (refine ⟨List.cons_ne_nil _ _, List.cons_ne_nil _ _, ?_⟩; simp only [List.length_cons, List.length_nil]; omega))) | refine xai ?_ | refine xab ?_)
local macro_rules | `(tactic| walk_at "op") => `(tactic| with_reducible first | refine lsL ?_ | refine lsLs ?_ | refine lsT ?_ | refine slL ?_ | refine slLs ?_ | refine xo_intI ?_ | refine xo_abs ?_ | refine xo_maxN ?_ | refine xo_max1 ?_)
local macro_rules | `(tactic| walk_at "op") => `(tactic| with_reducible first | (apply ixLs; (focus (first | exact at0 | exact at1 | exact at2 | assumption))) | (apply ixT; (focus (first | exact at0 | exact at1 | exact at2 | assumption))) | refine lnL ?_ | refine lnLs ?_ | refine lnT ?_ | refine lnSc ?_ | refine slSc ?_ | (apply ixSc; (focus (first | exact at0 | exact at1 | exact at2 | assumption))) | (apply xo_sumL rfl))
local macro_rules | `(tactic| walk_at "op") => `(tactic| with_reducible first | refine isN2 ?_ | refine isN3 ?_ | refine isN4 ?_ | refine isN5 ?_ | refine noN ?_ | refine noN0 ?_ | refine noN1 ?_ | refine noN2 ?_ | (apply ixL; (focus (first | exact at0 | exact at1 | exact at2 | assumption))))
local macro_rules | `(tactic| walk_at "op") => `(tactic| with_reducible first | refine xo_ge ?_ | refine xo_neg ?_ | refine eqI ?_ | refine neI ?_ | refine eqSt ?_ | refine neSt ?_ | refine isN ?_ | refine isN0 ?_ | refine isN1 ?_)
local macro_rules | `(tactic| walk_at "op") => `(tactic| with_reducible first | refine xo_sub ?_ | (apply xo_mul; (focus (first | exact mulR (by decide) | exact mulL (by decide) | exact mulR (by omega) | exact mulL (by omega) | exact mulW (by decide +kernel)))) | (apply xo_div; (focus (first | exact divK (by decide) | exact divK (by omega)))) | (apply xo_modP; (focus (first | decide | omega | decide +kernel)); intro _ _ _) | (apply xo_mod; (focus (first | decide | omega | decide +kernel))) | (apply xo_pow; focus exact powK (by decide)) | refine xo_lt ?_ | refine xo_le ?_ | refine xo_gt ?_)
local macro_rules | `(tactic| walk_at "op") => `(tactic| with_reducible first | refine xo_neD ?_ | refine xo_eqD ?_ | refine xas ?_ | refine xo_strAS ?_ | refine xo_inStr ?_ | refine xo_notInStr ?_ | refine xo_inG ?_ | refine xo_addI ?_ | refine xo_addI' ?_)
local macro_rules | `(tactic| walk_at "op") => `(tactic| with_reducible first | (apply xp_g; (focus (walk_at "at"; done))) | refine xr_o ?_ | refine ak_o ?_ | refine ak_s ?_ | refine ko_s ?_ | refine ko_i ?_ | refine xo_dget ?_ | refine xo_din ?_ | refine xo_dict ?_)
local macro_rules | `(tactic| walk_at "op") => `(tactic| with_reducible first | (apply xg_v; (focus (walk_at "at"; done))) | refine xg_t ?_ | refine xh_nil ?_ | (apply xh_v; (focus (walk_at "at"; done))) | refine xh_t ?_ | (refine xg_T rfl ?_) | refine xg_nil ?_ | refine xg_cons ?_ | (apply xw_s; (focus (walk_at "at"; done))))
local macro_rules | `(tactic| walk_at "1") => `(tactic| with_reducible first | refine par2 ?_ | refine lenAnd (by simp only [List.length_cons, List.length_nil]; omega) ?_ | (apply r1N; (focus omega)) | (apply r2S; (focus omega)) | (apply r1; (focus omega)) | (apply r2; (focus omega)) | refine xl_nil' ?_ | (apply def_rt; (focus (walk_at "at"; done))) | (apply def_nx; (focus (walk_at "at"; done))))
local macro_rules | `(tactic| walk_at "1") => `(tactic| with_reducible first | (apply xsi; (focus (walk_at "at"; done))) | refine ex_shr ?_ | refine len15 (by simp only [List.length_cons, List.length_nil]; omega) ?_ | (apply xsd; (focus (walk_at "at"; done))) | refine par3 ?_ | (apply acc2; (focus (first | omega | (simp only [List.length_cons, List.length_nil, List.length_append]; omega))); (focus (walk_at "at"; done)); (focus (walk_at "at"; done))))
local macro_rules | `(tactic| walk_at "1") => `(tactic| with_reducible ((show XPs _ _ _); (first | refine xps_nil ?_ | refine xps_cons ?_)))
local macro_rules | `(tactic| walk_at "1") => `(tactic| with_reducible ((show XLk _ _ _); (first | refine xlk_t ?_ | (apply xlk_s; (focus (walk_at "at"; done))) | (apply xlk_l; (focus (walk_at "at"; done))))))
local macro_rules | `(tactic| walk_at "1") => `(tactic| with_reducible ((show XJ _ _); (first | refine xj_l ?_ | refine xj_ls ?_ | refine xj_t ?_ | refine xj_s ?_)))
local macro_rules | `(tactic| walk_at "1") => `(tactic| with_reducible ((show lcQ2 _ _ _ _ _ _ _ _); (first | (apply lc2_n; (focus (walk_at "at"; done)); (focus (walk_at "at"; done)); (focus (walk_at "at"; done)); (focus (walk_at "at"; done))) | (apply lc2_l; (focus (walk_at "at"; done)); (focus (walk_at "at"; done)); (focus (walk_at "at"; done)); (focus (walk_at "at"; done)); (focus (walk_at "at"; done))))))
local macro_rules | `(tactic| walk_at "1") => `(tactic| with_reducible ((show lcQ _ _ _ _ _ _ _ _); (first | (apply lc_n; (focus (walk_at "at"; done)); (focus (walk_at "at"; done))) | (apply lc_l; (focus (walk_at "at"; done)); (focus (walk_at "at"; done)); (focus (walk_at "at"; done))))))
local macro_rules | `(tactic| walk_at "1") => `(tactic| with_reducible ((show forQ _ _ _ _ _ _); (first | refine for_n ?_ | (apply for_l; (focus (walk_at "at"; done))))))
local macro_rules | `(tactic| walk_at "1") => `(tactic| with_reducible ((show unlQ _ _ _); (first | refine unl_n ?_ | (apply unl_nx; (focus (walk_at "at"; done))) | refine unl_rt ?_)))
local macro_rules | `(tactic| walk_at "1") => `(tactic| with_reducible ((show turnQ _ _ _); (first | refine turn_nx ?_ | refine turn_ct ?_ | refine turn_bk ?_ | refine turn_rt ?_)))
local macro_rules | `(tactic| walk_at "1") => `(tactic| with_reducible ((show XC _ _ _ _ _ _ _ _); (first | refine xc_nil' ?_ | refine xc2_nil ?_ | refine xc2_cons ?_ | refine xc_yes1 ?_)))
local macro_rules | `(tactic| walk_at "1") => `(tactic| with_reducible ((show XM _ _ _ _); (first | (apply xm_set; (focus (walk_at "at"; done)); (focus (first | exact setL0 | exact setL1 | exact setL2 | assumption)); (focus (walk_at "at"; done))) | (apply xm_app; (focus (walk_at "at"; done)); (focus (first | assumption | omega | decide | (simp only [List.length_append, List.length_cons, List.length_nil]; omega))); (focus (walk_at "at"; done))) | (apply xm_put; (focus (walk_at "at"; done)); (focus omega); (focus (walk_at "at"; done))) | (apply xm_pop0; (focus (walk_at "at"; done)); (focus (walk_at "at"; done))) | (apply xm_pop; (focus (walk_at "at"; done)); (focus (walk_at "at"; done))))))
local macro_rules | `(tactic| walk_at "1") => `(tactic| with_reducible ((show XRt _ _ _); (first | refine xrt_t ?_ | (apply xrt_s; (focus (walk_at "at"; done))) | (apply xrt_pl; (focus (walk_at "at"; done))) | (apply xrt_l; (focus (walk_at "at"; done)); (focus (walk_at "at"; done))) | (apply xrt_k; (focus (walk_at "at"; done)); (focus (walk_at "at"; done))) | (apply xrt_pk; (focus (walk_at "at"; done))))))
local macro_rules | `(tactic| walk_at "1") => `(tactic| with_reducible ((show XI _ _ _); (first | refine xi_r1' ?_ | refine xi_r2' ?_ | refine xi_seq' ?_)))
local macro_rules | `(tactic| walk_at "1") => `(tactic| with_reducible ((show XP _ _ _); (first | refine xp_no ?_ | refine xp_some ?_)))
local macro_rules | `(tactic| walk_at "1") => `(tactic| with_reducible ((show seqQ _ _ _); (first | refine seq_nx ?_ | refine seq_rt ?_ | refine seq_bk ?_ | refine seq_ct ?_)))
local macro_rules | `(tactic| walk_at "1") => `(tactic| with_reducible ((show XW _ _ _ _); (first | (apply xw_t; (focus (walk_at "at"; done))) | refine xw_v ?_)))
local macro_rules | `(tactic| walk_at "1") => `(tactic| with_reducible ((show XT _ _ _); (first | refine xt_s ?_ | refine xt_l ?_ | refine xt_k ?_ | (apply xt_vs; (focus (walk_at "at"; done))) | (apply xt_vl; (focus (walk_at "at"; done))) | (apply xt_vk; (focus (walk_at "at"; done))))))
local macro_rules | `(tactic| walk_at "1") => `(tactic| with_reducible ((show XD _ _ _); (first | refine xd ?_)))
local macro_rules | `(tactic| walk_at "1") => `(tactic| with_reducible ((show TF _ _ _); (first | refine tf_t ?_ | refine tf_f ?_)))
local macro_rules | `(tactic| walk_at "1") => `(tactic| with_reducible ((show XHs _ _ _); (first | refine xhs_nil ?_ | refine xhs_cons ?_)))
local macro_rules | `(tactic| walk_at "1") => `(tactic| with_reducible ((show XDs _ _ _); (first | refine xds_nil ?_ | refine xds_cons ?_)))
local macro_rules | `(tactic| walk_at "1") => `(tactic| with_reducible ((show XB _ _ _); (first | refine xb_and' ?_ | refine xb_or' ?_ | refine xb_not ?_ | refine xb_val ?_ | refine xb_tru ?_ | refine xb_yes ?_)))
local macro_rules | `(tactic| walk_at "1") => `(tactic| with_reducible ((show XS _ _ _); (first | refine xs_seq' ?_ | refine xs_nil ?_ | refine xs_set' ?_ | refine xs_asg ?_ | refine xs_par2 ?_ | refine xs_drop ?_ | refine xs_ret' ?_ | refine xs_retN ?_ | refine xs_if' ?_ | refine xs_brk ?_ | refine xs_cont ?_ | refine xs_for' ?_ | (refine xs_setIx2 ?_) | (apply xs_augIx'L; (focus (walk_at "at"; done))) | (apply xs_aug'; (focus (walk_at "at"; done))) | refine xs_setDx ?_ | refine xs_par3 ?_)))
local macro_rules | `(tactic| walk_at "1") => `(tactic| with_reducible ((show XE _ _ _); (first | (apply xv; (focus (walk_at "at"; done))) | refine xe_c ?_ | refine xe_bin ?_ | refine xe_un ?_ | refine xe_if' ?_ | refine xe_B ?_ | refine xe_callB ?_ | refine xe_tup ?_ | refine xe_lst ?_ | refine xe_sl ?_ | (apply xe_mt'L; (focus (walk_at "at"; done))) | refine xe_lc' ?_ | (refine xe_call' ?_) | refine xe_o ?_ | refine xe_get2 ?_ | refine xe_get1 ?_ | refine xe_disp ?_ | refine xe_join ?_ | refine xe_lc2 ?_ | refine xe_sidx ?_)))
local macro_rules | `(tactic| walk_at "1") => `(tactic| with_reducible ((show XO _ _); (walk_at "op")))
local macro_rules | `(tactic| walk_at "at") => `(tactic| with_reducible first | ((repeat (apply At.s)); (exact At.z)) | ((repeat (apply Put.s)); (first | exact Put.n | exact Put.z | exact Put.f (by assumption))) | ((repeat (apply Chg.s)); (exact Chg.z)) | ((repeat (apply SetAt.s)); (exact SetAt.z)) | ((repeat (apply Slt.s)); (exact Slt.z)) | ((repeat (apply Fin'.s)); (exact Fin'.z)) | ((repeat (first | apply Ini.shr | apply Ini.n | apply Ini.ol | apply Ini.od)); (exact Ini.z)) | exact Wb.nil)
-- END MACRO
/-! ### plain words -/
def PlD (d : D) : Prop := sm d = true ∧ dq d = 0
def PlP (p : D × D) : Prop := PlD p.1 ∧ PlD p.2
def PlW (w : Wd) : Prop := sm w.k.arg = true ∧ dq w.k.arg ≤ 1 ∧ PlD w.a ∧ PlD w.b
theorem pl_hd {ps : List (D × D)} (h : ∀ p ∈ ps, PlP p) (k : Nat) : PlP (hd (ps.drop k)) := by
  cases e : ps.drop k with
  | nil => exact ⟨⟨rfl, by simp [hd, dq]⟩, ⟨rfl, by simp [hd, dq]⟩⟩
  | cons p r => exact h p (List.mem_of_mem_drop (by rw [e]; exact List.mem_cons_self ..))
theorem psok_pl {ps : List (D × D)} (h : PsOk ps) : ∀ p ∈ ps, PlP p := fun p hp => by
  obtain ⟨i, j, rfl⟩ := h p hp
  exact ⟨⟨rfl, by simp [dq]⟩, ⟨rfl, by simp [dq]⟩⟩
theorem pl_at {k : Kd} {p : D × D} (h : PlP p) (h1 : sm k.arg = true) (h2 : dq k.arg ≤ 1) : PlW (at' k p) := ⟨h1, h2, h.1, h.2⟩
theorem mwt_pl : ∀ (t : T) (ps : List (D × D)), (∀ p ∈ ps, PlP p) → ∀ x ∈ mwt t ps, PlW x
  | .num n, ps, h, x, hx => by
    rw [mwt, List.mem_singleton] at hx; subst hx
    exact pl_at (by have := pl_hd h 0; rwa [List.drop_zero] at this) rfl (by simp [Kd.arg, dq])
  | .nam s, ps, h, x, hx => by
    rw [mwt, List.mem_singleton] at hx; subst hx
    exact pl_at (by have := pl_hd h 0; rwa [List.drop_zero] at this) rfl (by simp [Kd.arg, dq])
  | .neg t, ps, h, x, hx => by
    rw [mwt, List.mem_append, List.mem_singleton] at hx
    rcases hx with hx | rfl
    · exact mwt_pl t ps h x hx
    · exact pl_at (pl_hd h _) rfl (by simp [Kd.arg, dq])
  | .bin o l r, ps, h, x, hx => by
    rw [mwt, List.mem_append, List.mem_append, List.mem_singleton] at hx
    rcases hx with (hx | hx) | rfl
    · exact mwt_pl l ps h x hx
    · exact mwt_pl r _ (fun p hp => h p (List.mem_of_mem_drop hp)) x hx
    · exact pl_at (pl_hd h _) rfl (by simp [Kd.arg, dq])
theorem mwl_pl : ∀ (ts : List T) (ps : List (D × D)), (∀ p ∈ ps, PlP p) → ∀ x ∈ mwl ts ps, PlW x
  | [], _, _, x, hx => nomatch hx
  | t :: r, ps, h, x, hx => by
    rw [mwl, List.mem_append] at hx
    rcases hx with hx | hx
    · exact mwt_pl t ps h x hx
    · exact mwl_pl r _ (fun p hp => h p (List.mem_of_mem_drop hp)) x hx
theorem step_pl {acc : List Wd} {w : Wd} (h : ∀ x ∈ acc, PlW x) (hw : PlW w) : ∀ x ∈ step acc w, PlW x := by
  rcases step_cases acc w with e | ⟨v, x, r, sv, hr, e⟩
  · rw [e]
    intro x hx
    rcases List.mem_cons.mp hx with rfl | hx
    · exact hw
    · exact h x hx
  · rw [e]
    intro x hx
    rcases List.mem_cons.mp hx with rfl | hx
    · exact ⟨rfl, by simp [Kd.arg, dq], hw.2.2.1, hw.2.2.2⟩
    · refine h x ?_
      rcases hr with rfl | ⟨y, rfl⟩
      · exact List.mem_cons_of_mem _ hx
      · exact List.mem_cons_of_mem _ (List.mem_cons_of_mem _ hx)
theorem fold_pl : ∀ (ws acc : List Wd), (∀ x ∈ acc, PlW x) → (∀ x ∈ ws, PlW x) → ∀ x ∈ ws.foldl step acc, PlW x
  | [], _, h, _ => h
  | w :: r, acc, h, g => fold_pl r _ (step_pl h (g w (List.mem_cons_self ..))) fun x hx => g x (List.mem_cons_of_mem _ hx)
theorem plw_d {w : Wd} (h : PlW w) : sm w.d = true ∧ dq w.d ≤ 2 := by
  obtain ⟨h1, h2, ⟨h3, h4⟩, ⟨h5, h6⟩⟩ := h
  unfold Wd.d
  constructor
  · simp [sm, sms, h1, h3, h5]
  · simp only [dq, dqs]; omega
theorem plws : ∀ {ws : List Wd}, (∀ x ∈ ws, PlW x) → sms (ws.map Wd.d) = true ∧ dqs (ws.map Wd.d) ≤ 2
  | [], _ => ⟨rfl, by simp [dqs]⟩
  | w :: r, h => by
    obtain ⟨h1, h2⟩ := plw_d (h w (List.mem_cons_self ..))
    obtain ⟨h3, h4⟩ := plws (ws := r) fun x hx => h x (List.mem_cons_of_mem _ hx)
    rw [List.map_cons]
    exact ⟨by rw [sms, h1, h3]; rfl, by rw [dqs]; omega⟩
theorem x_sameW {ws : List Wd} (h : ∀ x ∈ ws, PlW x) (hl : ws.length ≤ 1000) {Q : Rs → List O → Prop} (q : Q (.o (.shr (.bl true))) [.ol (ws.map Wd.d), .ol (ws.map Wd.d)]) : XF (F_same 6) [.ol (ws.map Wd.d), .ol (ws.map Wd.d)] Q := by
  obtain ⟨h1, h2⟩ := plws h
  exact x_sameL (k := 5) h1 (by omega) (by simpa using hl) q
/-! lists of numbers -/
theorem toPys_ints : ∀ ns : List Int, toPys (ns.map D.int) = some (ns.map PyData.int)
  | [] => rfl
  | n :: r => by rw [List.map_cons, toPys, toPys_ints r]; rfl
theorem lay_ints : ∀ ns : List Int, PyData.canLayAll0 (ns.map PyData.int) = true ∧ PyData.depthAll (ns.map PyData.int) = 0 ∧ PyData.eqvAll (ns.map PyData.int) (ns.map PyData.int) = true
  | [] => ⟨rfl, rfl, rfl⟩
  | n :: r => by
    obtain ⟨h1, h2, h3⟩ := lay_ints r
    refine ⟨?_, ?_, ?_⟩
    · rw [List.map_cons, PyData.canLayAll0, h1]; rfl
    · rw [List.map_cons, PyData.depthAll, h2]; rfl
    · rw [List.map_cons, PyData.eqvAll, h3]; simp [PyData.eqv]
theorem eqLi {ns : List Int} {Q : O → Prop} (q : Q (.shr (.bl true))) : XO (oEq (.ol (ns.map D.int)) (.ol (ns.map D.int))) Q := by
  obtain ⟨h1, h2, h3⟩ := lay_ints ns
  have hs : SeqAt.shaped (.list (ns.map PyData.int)) = true := by
    rw [SeqAt.shaped, PyData.canLay0, h1, PyData.depth, h2]; rfl
  have h : eqO (.ol (ns.map D.int)) (.ol (ns.map D.int)) = some true := by
    have e : PV.eqP (.list (ns.map PyData.int)) (.list (ns.map PyData.int)) = some true := by
      rw [PV.eqP, if_pos ⟨hs, hs⟩, PyData.eqv, h3]
    simp only [eqO, asF, Option.bind_none, Option.none_or, O.toD, toPy, toPys_ints, Option.map_some, Option.bind_some, e]
  exact xo_eq h q
theorem eqR {R : Rn} {Q : O → Prop} (q : Q (.shr (.bl true))) : XO (oEq (rO R) (rO R)) Q := by
  cases R with
  | ok st => exact eqLi q
  | er w =>
    cases w with
    | ok i => exact eqI (by simpa using q)
    | zero => exact eqSt (by simpa using q)
    | great => exact eqSt (by simpa using q)
theorem cut_m1 {xs : List D} {x : D} : cutD (xs ++ [x]) none (some (-1)) = xs := by
  unfold cutD
  have e : HT.sIx (xs ++ [x]).length (xs ++ [x]).length (some (-1)) = xs.length := by
    unfold HT.sIx
    dsimp only
    rw [if_pos (by decide), List.length_append]
    simp
    omega
  rw [e, HT.sIx_none]
  simp
theorem mwt_len : ∀ (t : T) (ps : List (D × D)), (mwt t ps).length = t.n
  | .num _, _ => rfl
  | .nam _, _ => rfl
  | .neg t, ps => by simp [mwt, T.n, mwt_len t]
  | .bin _ l r, ps => by simp [mwt, T.n, mwt_len l, mwt_len r]; omega
theorem mwl_len : ∀ (ts : List T) (ps : List (D × D)), (mwl ts ps).length = nl ts
  | [], _ => rfl
  | t :: r, ps => by rw [mwl, nl, List.length_append, mwt_len, mwl_len r]
theorem tfl_app : ∀ (a b : List T) (ps : List (D × D)), tfl (a ++ b) ps = tfl a ps ++ tfl b (ps.drop (nl a))
  | [], b, ps => rfl
  | t :: r, b, ps => by rw [List.cons_append, tfl, tfl, tfl_app r b, nl, List.append_assoc, List.drop_drop]
theorem tfl_len : ∀ (ts : List T) (ps : List (D × D)), (tfl ts ps).length ≤ nl ts
  | [], _ => Nat.le_refl 0
  | t :: r, ps => by
    have h1 := tf_len t ps
    have h2 := tfl_len r (ps.drop t.n)
    rw [tfl, nl, List.length_append]; omega
end K50

set_option maxRecDepth 100000
set_option maxHeartbeats 4000000
namespace K50
open PV PySem L2
local macro_rules | `(tactic| walk_at "all") => `(tactic| repeat' (first | walk_at "1" | ((with_reducible refine lend_ok ?_ ?_); (focus rfl)) | ((with_reducible apply wbx); (focus (walk_at "wb"; done)); (focus rfl)) | walk_at "tf" | walk_at "isi" | walk_at "both" | with_reducible refine ixL3 (by omega) (by omega) ?_ ?_ ?_))
local macro_rules | `(tactic| walk_at "run") => `(tactic| repeat (first | walk_at "1" | ((with_reducible refine lend_ok ?_ ?_); (focus rfl)) | ((with_reducible apply wbx); (focus (walk_at "wb"; done)); (focus rfl)) | walk_at "tf" | walk_at "isi"))
local macro_rules | `(tactic| walk_at "isi") => `(tactic| ((with_reducible show XO (oIsi _) _); first
  | refine isiT (c := .bool) rfl rfl rfl ?_ | refine isiF (c := .bool) rfl rfl rfl ?_ | refine isiT (c := .int) rfl rfl rfl ?_ | refine isiF (c := .int) rfl rfl rfl ?_ | refine isiT (c := .str) rfl rfl rfl ?_ | refine isiF (c := .str) rfl rfl rfl ?_
  | refine isiT (c := .dict) rfl rfl rfl ?_ | refine isiF (c := .dict) rfl rfl rfl ?_ | refine isiT (c := .tuple) rfl rfl rfl ?_ | refine isiF (c := .tuple) rfl rfl rfl ?_ | refine isiT (c := .list) rfl rfl rfl ?_ | refine isiF (c := .list) rfl rfl rfl ?_))
local macro_rules | `(tactic| walk_at "both") => `(tactic| with_reducible first | refine tf_d (fun _ => ?_) fun _ => ?_ | refine tf_nd (fun _ => ?_) fun _ => ?_ | refine tf_b (fun _ => ?_) fun _ => ?_)
local macro_rules | `(tactic| walk_at "tf") => `(tactic| with_reducible first | refine tf_T (by decide +kernel) ?_ | refine tf_F (by decide +kernel) ?_ | refine tf_T (decide_eq_true (by omega)) ?_ | refine tf_T (decide_eq_true (by simp only [List.length_cons]; omega)) ?_ | refine tf_F (decide_eq_false (by omega)) ?_ | refine tf_F (decide_eq_false (by assumption)) ?_ | refine tf_T (decide_eq_true (by assumption)) ?_ | refine tf_T (nd_T (by omega)) ?_ | refine tf_F (nd_F (by omega)) ?_ | refine tf_T (nd_T (by assumption)) ?_ | refine tf_F (nd_F (by assumption)) ?_)
local macro_rules | `(tactic| walk_at "wb") => `(tactic| (repeat (first | exact Wb.nil | apply Wb.tmp | apply Wb.shr | (apply Wb.ol'; (focus rfl)) | (apply Wb.od'; (focus rfl)) | (exact Chg.z) | apply Chg.s)))
local macro_rules | `(tactic| walk_at "op") => `(tactic| with_reducible first | refine xal ?_ | refine xals ?_ | (apply xat; (focus (first | exact at0 | exact at1 | exact at2 | assumption))) | refine trI ?_ | refine trB ?_ | refine trN ?_ | refine trL ?_ | refine trLs ?_)
local macro_rules | `(tactic| walk_at "op") => `(tactic| with_reducible first | refine xo_minN ?_ | refine xo_max ?_ | refine xo_min ?_ | (apply strI; (focus omega)) | (apply xo_addN; (focus decide +kernel); (focus omega)) | (apply xo_addS; (focus decide +kernel)) | (apply xo_addT; (focus (refine ⟨List.cons_ne_nil _ _, List.cons_ne_nil _ _, ?_⟩; simp only [List.length_cons, List.length_nil]; omega))) | refine xai ?_ | refine xab ?_)
local macro_rules | `(tactic| walk_at "op") => `(tactic| with_reducible first | refine lsL ?_ | refine lsLs ?_ | refine lsT ?_ | refine slL ?_ | refine slLs ?_ | refine xo_intI ?_ | refine xo_abs ?_ | refine xo_maxN ?_ | refine xo_max1 ?_)
local macro_rules | `(tactic| walk_at "op") => `(tactic| with_reducible first | (apply ixLs; (focus (first | exact at0 | exact at1 | exact at2 | assumption))) | (apply ixT; (focus (first | exact at0 | exact at1 | exact at2 | assumption))) | refine lnL ?_ | refine lnLs ?_ | refine lnT ?_ | refine lnSc ?_ | refine slSc ?_ | (apply ixSc; (focus (first | exact at0 | exact at1 | exact at2 | assumption))) | (apply xo_sumL rfl))
local macro_rules | `(tactic| walk_at "op") => `(tactic| with_reducible first | refine isN2 ?_ | refine isN3 ?_ | refine isN4 ?_ | refine isN5 ?_ | refine noN ?_ | refine noN0 ?_ | refine noN1 ?_ | refine noN2 ?_ | (apply ixL; (focus (first | exact at0 | exact at1 | exact at2 | assumption))))
local macro_rules | `(tactic| walk_at "op") => `(tactic| with_reducible first | refine xo_ge ?_ | refine xo_neg ?_ | refine eqI ?_ | refine neI ?_ | refine eqSt ?_ | refine neSt ?_ | refine isN ?_ | refine isN0 ?_ | refine isN1 ?_)
local macro_rules | `(tactic| walk_at "op") => `(tactic| with_reducible first | refine xo_sub ?_ | (apply xo_mul; (focus (first | exact mulR (by decide) | exact mulL (by decide) | exact mulR (by omega) | exact mulL (by omega) | exact mulW (by decide +kernel)))) | (apply xo_div; (focus (first | exact divK (by decide) | exact divK (by omega)))) | (apply xo_modP; (focus (first | decide | omega | decide +kernel)); intro _ _ _) | (apply xo_mod; (focus (first | decide | omega | decide +kernel))) | (apply xo_pow; focus exact powK (by decide)) | refine xo_lt ?_ | refine xo_le ?_ | refine xo_gt ?_)
local macro_rules | `(tactic| walk_at "op") => `(tactic| with_reducible first | refine xo_neD ?_ | refine xo_eqD ?_ | refine xas ?_ | refine xo_strAS ?_ | refine xo_inStr ?_ | refine xo_notInStr ?_ | refine xo_inG ?_ | refine xo_addI ?_ | refine xo_addI' ?_)
local macro_rules | `(tactic| walk_at "op") => `(tactic| with_reducible first | (apply xp_g; (focus (walk_at "at"; done))) | refine xr_o ?_ | refine ak_o ?_ | refine ak_s ?_ | refine ko_s ?_ | refine ko_i ?_ | refine xo_dget ?_ | refine xo_din ?_ | refine xo_dict ?_)
local macro_rules | `(tactic| walk_at "op") => `(tactic| with_reducible first | (apply xg_v; (focus (walk_at "at"; done))) | refine xg_t ?_ | refine xh_nil ?_ | (apply xh_v; (focus (walk_at "at"; done))) | refine xh_t ?_ | (refine xg_T rfl ?_) | refine xg_nil ?_ | refine xg_cons ?_ | (apply xw_s; (focus (walk_at "at"; done))))
local macro_rules | `(tactic| walk_at "1") => `(tactic| with_reducible first | refine par2 ?_ | refine lenAnd (by simp only [List.length_cons, List.length_nil]; omega) ?_ | (apply r1N; (focus omega)) | (apply r2S; (focus omega)) | (apply r1; (focus omega)) | (apply r2; (focus omega)) | refine xl_nil' ?_ | (apply def_rt; (focus (walk_at "at"; done))) | (apply def_nx; (focus (walk_at "at"; done))))
local macro_rules | `(tactic| walk_at "1") => `(tactic| with_reducible first | (apply xsi; (focus (walk_at "at"; done))) | refine ex_shr ?_ | refine len15 (by simp only [List.length_cons, List.length_nil]; omega) ?_ | (apply xsd; (focus (walk_at "at"; done))) | refine par3 ?_ | (apply acc2; (focus (first | omega | (simp only [List.length_cons, List.length_nil, List.length_append]; omega))); (focus (walk_at "at"; done)); (focus (walk_at "at"; done))))
local macro_rules | `(tactic| walk_at "1") => `(tactic| with_reducible ((show XPs _ _ _); (first | refine xps_nil ?_ | refine xps_cons ?_)))
local macro_rules | `(tactic| walk_at "1") => `(tactic| with_reducible ((show XLk _ _ _); (first | refine xlk_t ?_ | (apply xlk_s; (focus (walk_at "at"; done))) | (apply xlk_l; (focus (walk_at "at"; done))))))
local macro_rules | `(tactic| walk_at "1") => `(tactic| with_reducible ((show XJ _ _); (first | refine xj_l ?_ | refine xj_ls ?_ | refine xj_t ?_ | refine xj_s ?_)))
local macro_rules | `(tactic| walk_at "1") => `(tactic| with_reducible ((show lcQ2 _ _ _ _ _ _ _ _); (first | (apply lc2_n; (focus (walk_at "at"; done)); (focus (walk_at "at"; done)); (focus (walk_at "at"; done)); (focus (walk_at "at"; done))) | (apply lc2_l; (focus (walk_at "at"; done)); (focus (walk_at "at"; done)); (focus (walk_at "at"; done)); (focus (walk_at "at"; done)); (focus (walk_at "at"; done))))))
local macro_rules | `(tactic| walk_at "1") => `(tactic| with_reducible ((show lcQ _ _ _ _ _ _ _ _); (first | (apply lc_n; (focus (walk_at "at"; done)); (focus (walk_at "at"; done))) | (apply lc_l; (focus (walk_at "at"; done)); (focus (walk_at "at"; done)); (focus (walk_at "at"; done))))))
local macro_rules | `(tactic| walk_at "1") => `(tactic| with_reducible ((show forQ _ _ _ _ _ _); (first | refine for_n ?_ | (apply for_l; (focus (walk_at "at"; done))))))
local macro_rules | `(tactic| walk_at "1") => `(tactic| with_reducible ((show unlQ _ _ _); (first | refine unl_n ?_ | (apply unl_nx; (focus (walk_at "at"; done))) | refine unl_rt ?_)))
local macro_rules | `(tactic| walk_at "1") => `(tactic| with_reducible ((show turnQ _ _ _); (first | refine turn_nx ?_ | refine turn_ct ?_ | refine turn_bk ?_ | refine turn_rt ?_)))
local macro_rules | `(tactic| walk_at "1") => `(tactic| with_reducible ((show XC _ _ _ _ _ _ _ _); (first | refine xc_nil' ?_ | refine xc2_nil ?_ | refine xc2_cons ?_ | refine xc_yes1 ?_)))
local macro_rules | `(tactic| walk_at "1") => `(tactic| with_reducible ((show XM _ _ _ _); (first | (apply xm_set; (focus (walk_at "at"; done)); (focus (first | exact setL0 | exact setL1 | exact setL2 | assumption)); (focus (walk_at "at"; done))) | (apply xm_app; (focus (walk_at "at"; done)); (focus (first | assumption | omega | decide | (simp only [List.length_append, List.length_cons, List.length_nil]; omega))); (focus (walk_at "at"; done))) | (apply xm_put; (focus (walk_at "at"; done)); (focus omega); (focus (walk_at "at"; done))) | (apply xm_pop0; (focus (walk_at "at"; done)); (focus (walk_at "at"; done))) | (apply xm_pop; (focus (walk_at "at"; done)); (focus (walk_at "at"; done))))))
local macro_rules | `(tactic| walk_at "1") => `(tactic| with_reducible ((show XRt _ _ _); (first | refine xrt_t ?_ | (apply xrt_s; (focus (walk_at "at"; done))) | (apply xrt_pl; (focus (walk_at "at"; done))) | (apply xrt_l; (focus (walk_at "at"; done)); (focus (walk_at "at"; done))) | (apply xrt_k; (focus (walk_at "at"; done)); (focus (walk_at "at"; done))) | (apply xrt_pk; (focus (walk_at "at"; done))))))
local macro_rules | `(tactic| walk_at "1") => `(tactic| with_reducible ((show XI _ _ _); (first | refine xi_r1' ?_ | refine xi_r2' ?_ | refine xi_seq' ?_)))
local macro_rules | `(tactic| walk_at "1") => `(tactic| with_reducible ((show XP _ _ _); (first | refine xp_no ?_ | refine xp_some ?_)))
local macro_rules | `(tactic| walk_at "1") => `(tactic| with_reducible ((show seqQ _ _ _); (first | refine seq_nx ?_ | refine seq_rt ?_ | refine seq_bk ?_ | refine seq_ct ?_)))
local macro_rules | `(tactic| walk_at "1") => `(tactic| with_reducible ((show XW _ _ _ _); (first | (apply xw_t; (focus (walk_at "at"; done))) | refine xw_v ?_)))
local macro_rules | `(tactic| walk_at "1") => `(tactic| with_reducible ((show XT _ _ _); (first | refine xt_s ?_ | refine xt_l ?_ | refine xt_k ?_ | (apply xt_vs; (focus (walk_at "at"; done))) | (apply xt_vl; (focus (walk_at "at"; done))) | (apply xt_vk; (focus (walk_at "at"; done))))))
local macro_rules | `(tactic| walk_at "1") => `(tactic| with_reducible ((show XD _ _ _); (first | refine xd ?_)))
local macro_rules | `(tactic| walk_at "1") => `(tactic| with_reducible ((show TF _ _ _); (first | refine tf_t ?_ | refine tf_f ?_)))
local macro_rules | `(tactic| walk_at "1") => `(tactic| with_reducible ((show XHs _ _ _); (first | refine xhs_nil ?_ | refine xhs_cons ?_)))
local macro_rules | `(tactic| walk_at "1") => `(tactic| with_reducible ((show XDs _ _ _); (first | refine xds_nil ?_ | refine xds_cons ?_)))
local macro_rules | `(tactic| walk_at "1") => `(tactic| with_reducible ((show XB _ _ _); (first | refine xb_and' ?_ | refine xb_or' ?_ | refine xb_not ?_ | refine xb_val ?_ | refine xb_tru ?_ | refine xb_yes ?_)))
local macro_rules | `(tactic| walk_at "1") => `(tactic| with_reducible ((show XS _ _ _); (first | refine xs_seq' ?_ | refine xs_nil ?_ | refine xs_set' ?_ | refine xs_asg ?_ | refine xs_par2 ?_ | refine xs_drop ?_ | refine xs_ret' ?_ | refine xs_retN ?_ | refine xs_if' ?_ | refine xs_brk ?_ | refine xs_cont ?_ | refine xs_for' ?_ | (refine xs_setIx2 ?_) | (apply xs_augIx'L; (focus (walk_at "at"; done))) | (apply xs_aug'; (focus (walk_at "at"; done))) | refine xs_setDx ?_ | refine xs_par3 ?_)))
local macro_rules | `(tactic| walk_at "1") => `(tactic| with_reducible ((show XE _ _ _); (first | (apply xv; (focus (walk_at "at"; done))) | refine xe_c ?_ | refine xe_bin ?_ | refine xe_un ?_ | refine xe_if' ?_ | refine xe_B ?_ | refine xe_callB ?_ | refine xe_tup ?_ | refine xe_lst ?_ | refine xe_sl ?_ | (apply xe_mt'L; (focus (walk_at "at"; done))) | refine xe_lc' ?_ | (refine xe_call' ?_) | refine xe_o ?_ | refine xe_get2 ?_ | refine xe_get1 ?_ | refine xe_disp ?_ | refine xe_join ?_ | refine xe_lc2 ?_ | refine xe_sidx ?_)))
local macro_rules | `(tactic| walk_at "1") => `(tactic| with_reducible ((show XO _ _); (walk_at "op")))
local macro_rules | `(tactic| walk_at "at") => `(tactic| with_reducible first | ((repeat (apply At.s)); (exact At.z)) | ((repeat (apply Put.s)); (first | exact Put.n | exact Put.z | exact Put.f (by assumption))) | ((repeat (apply Chg.s)); (exact Chg.z)) | ((repeat (apply SetAt.s)); (exact SetAt.z)) | ((repeat (apply Slt.s)); (exact Slt.z)) | ((repeat (apply Fin'.s)); (exact Fin'.z)) | ((repeat (first | apply Ini.shr | apply Ini.n | apply Ini.ol | apply Ini.od)); (exact Ini.z)) | exact Wb.nil)
-- END MACRO
abbrev restL : SF := (sSeq (sSet 5 (vBin oIx (vCall F_spread (vConsH (vVar 0) (vConsH (vVar 4) vNilH))) (vC (.int 1))))
    (sSeq (sSet 6 (vCall F_m_words (vConsH (vVar 4) (vConsH (vVar 5) vNilH))))
    (sSeq (sSet 7 (vCallB oList (vConsH (vVar 5) vNilH)))
    (sSeq (sSet 8 (vLst vNilD))
    (sSeq (sFor (iSeq (vVar 3)) (gN 9)
      (sSet 8 (vBin oAdd (vVar 8) (vCall (F_tree_fold 6) (vConsH (vVar 9) (vConsH (vVar 7) vNilH))))))
    (sSeq (sDrop (vMt 8 "list" mAppend (vConsD (vTake (vBin oIx (vVar 6) (vUn oNeg (vC (.int 1))))) vNilD)))
    (sSeq (sSet 10 (vCallB oList (vConsH (vVar 6) vNilH)))
    (sSeq (sSet 11 (vCall F_fold_words (vConsH (vVar 10) vNilH)))
    (sSeq (sIf (bOr (bNot (bTru (vCall (F_same 6) (vConsH (vVar 11) (vConsH (vVar 8) vNilH))))) (bNot (bTru (vCall (F_same 6) (vConsH (vVar 10) (vConsH (vVar 6) vNilH))))))
      (sRet (vC (.bl false)))
      sNil)
    (sSeq (sIf (bOr (bNot (bTru (vCall (F_same 6) (vConsH (vCall F_fold_words (vConsH (vVar 11) vNilH)) (vConsH (vVar 8) vNilH))))) (bTru (vCall F_left (vConsH (vVar 11) vNilH))))
      (sRet (vC (.bl false)))
      sNil)
    (sRet (vBin oEq (vCall F_worths (vConsH (vSl (vVar 6) vNoP (vP (vUn oNeg (vC (.int 1))))) (vConsH (vVar 2) vNilH))) (vCall F_worths (vConsH (vSl (vVar 11) vNoP (vP (vUn oNeg (vC (.int 1))))) (vConsH (vVar 2) vNilH)))))))))))))))
local macro_rules | `(tactic| walk_at "law") => `(tactic| repeat' (first | walk_at "1" | ((with_reducible refine lend_ok ?_ ?_); (focus rfl)) | ((with_reducible apply wbx); (focus (walk_at "wb"; done)); (focus rfl)) | walk_at "tf" | walk_at "isi" | with_reducible refine ixm1 ?_))
def JD (src : List D) (fo : O) (kvs : List (Key × D)) (f : Fm) (ps : List (D × D)) (X : List D) (k : Nat) (e : Sto) : Prop := ∃ x9, Fre' x9 ∧ e = [some ⟨.ol src, true, false⟩, some ⟨fo, false, false⟩, some ⟨.od kvs, true, false⟩, some ⟨.shr (.lst (f.ts.map toD)), false, false⟩, some ⟨.shr f.d, false, false⟩, some ⟨.shr (.lst (ps.map pD)), false, false⟩, some ⟨.ol X, false, false⟩, some ⟨.ol ((ps.drop (nl (f.ts.take k))).map pD), false, false⟩, some ⟨.ol ((tfl (f.ts.take k) ps).map Wd.d), false, false⟩, x9, none, none, none]
theorem x_restL (f : Fm) {src : List D} {fi : Int} {kvs : List (Key × D)} {nm : Str → Int} (hk : NmOk kvs nm) (hs : Src3 src) (hn : nl f.ts ≤ 100) (hsm : ∀ t ∈ f.ts, t.sm ∧ t.dep < 6) (hlt : f.ts.length ≤ 100) {Q : Rs → List O → Prop} (q : ∀ src', Src3 src' → Q (.o (.shr (.bl true))) [.ol src', .shr (.int fi), .od kvs]) :
    XS restL [some ⟨.ol src, true, false⟩, some ⟨.shr (.int fi), false, false⟩, some ⟨.od kvs, true, false⟩, some ⟨.shr (.lst (f.ts.map toD)), false, false⟩, some ⟨.shr f.d, false, false⟩, none, none, none, none, none, none, none, none] (defQ 3 Q) := by
  walk_at "law"
  refine x_spread f hs hn hsm fun tx ps src1 hs1 hp hpo => ?_
  walk_at "law"
  refine x_mwords f hp (by omega) (fun t ht => (hsm t ht).2) (by omega) ?_
  -- what is told of these words
  have hsm1 : ∀ t ∈ f.ts, t.sm := fun t ht => (hsm t ht).1
  generalize hL : at' f.last (hd (ps.drop (nl f.ts))) = L
  have hLk : ∃ x d, L = ⟨.oth x d, L.a, L.b⟩ := by
    subst hL
    cases f <;> exact ⟨_, _, rfl⟩
  have hLp : PlW L := by
    subst hL
    refine pl_at (pl_hd (psok_pl hpo) _) ?_ ?_
    · cases f <;> rfl
    · cases f <;> simp [Fm.last, Kd.arg, dq, dqs]
  have hws : f.ws ps = mwl f.ts ps ++ [L] := by rw [Fm.ws, hL]
  have hfold : fold (mwl f.ts ps ++ [L]) = (tfl f.ts ps ++ [L]).reverse := by
    obtain ⟨x, d, e⟩ := hLk
    rw [e]; exact fold_line hsm1
  have psm : ∀ w ∈ mwl f.ts ps ++ [L], w.sm := fun w hw => by
    rcases List.mem_append.mp hw with hw | hw
    · exact mwl_sm f.ts ps hsm1 w hw
    · rw [List.mem_singleton] at hw; subst hw
      obtain ⟨x, d, e⟩ := hLk
      rw [e]; trivial
  have ppl : ∀ w ∈ mwl f.ts ps ++ [L], PlW w := fun w hw => by
    rcases List.mem_append.mp hw with hw | hw
    · exact mwl_pl f.ts ps (psok_pl hpo) w hw
    · rw [List.mem_singleton] at hw; subst hw; exact hLp
  have pget : ∀ w ∈ mwl f.ts ps, GetIn w := mwl_get f.ts ps hsm1
  have hnl := fold_nl (mwl f.ts ps ++ [L]) [] trivial
  have dsm := fold_sm (mwl f.ts ps ++ [L]) [] (fun x hx => nomatch hx) psm
  have dpl := fold_pl (mwl f.ts ps ++ [L]) [] (fun x hx => nomatch hx) ppl
  have tsm := fold_sm (mwl f.ts ps) [] (fun x hx => nomatch hx) (mwl_sm f.ts ps hsm1)
  have tget := fold_get (mwl f.ts ps) [] (fun x hx => nomatch hx) pget
  rw [foldL f.ts ps [] hsm1, List.append_nil] at tsm tget
  change Nl (fold (mwl f.ts ps ++ [L])) at hnl
  change ∀ x ∈ fold (mwl f.ts ps ++ [L]), x.sm at dsm
  change ∀ x ∈ fold (mwl f.ts ps ++ [L]), PlW x at dpl
  rw [hfold] at hnl dsm dpl
  have dsm' : ∀ x ∈ tfl f.ts ps ++ [L], x.sm := fun x hx => dsm x (List.mem_reverse.mpr hx)
  have dpl' : ∀ x ∈ tfl f.ts ps ++ [L], PlW x := fun x hx => dpl x (List.mem_reverse.mpr hx)
  have hid : fold (tfl f.ts ps ++ [L]) = (tfl f.ts ps ++ [L]).reverse := by
    have := fold_id hnl
    rwa [List.reverse_reverse] at this
  have hnf : NlF (tfl f.ts ps ++ [L]) := by
    have := nl_f hnl
    rwa [List.reverse_reverse] at this
  have l1 := mwl_len f.ts ps
  have l2 := tfl_len f.ts ps
  obtain ⟨er, R, hR⟩ := run_same (nm := nm) f.ts ps []
  have mx : ∀ l : List Wd, (l ++ [L]).map Wd.d = l.map Wd.d ++ [L.d] := fun l => by simp
  have hdl : ∀ l : List Wd, dl (l ++ [L]).reverse = l.map Wd.d ++ [L.d] := fun l => by rw [dl, List.reverse_reverse, mx]
  have fX : ∀ {Q' : Rs → List O → Prop}, Q' (.o (.ol ((tfl f.ts ps).map Wd.d ++ [L.d]))) [.ol ((mwl f.ts ps).map Wd.d ++ [L.d])] → XF F_fold_words [.ol ((mwl f.ts ps).map Wd.d ++ [L.d])] Q' := fun {Q'} q' => by
    rw [← mx]
    refine x_fold psm (by simp; omega) ?_
    rw [hfold, hdl, mx]; exact q'
  have fY : ∀ {Q' : Rs → List O → Prop}, Q' (.o (.ol ((tfl f.ts ps).map Wd.d ++ [L.d]))) [.ol ((tfl f.ts ps).map Wd.d ++ [L.d])] → XF F_fold_words [.ol ((tfl f.ts ps).map Wd.d ++ [L.d])] Q' := fun {Q'} q' => by
    rw [← mx]
    refine x_fold dsm' (by simp; omega) ?_
    rw [hid, hdl, mx]; exact q'
  have sX : ∀ {Q' : Rs → List O → Prop}, Q' (.o (.shr (.bl true))) [.ol ((mwl f.ts ps).map Wd.d ++ [L.d]), .ol ((mwl f.ts ps).map Wd.d ++ [L.d])] → XF (F_same 6) [.ol ((mwl f.ts ps).map Wd.d ++ [L.d]), .ol ((mwl f.ts ps).map Wd.d ++ [L.d])] Q' := fun {Q'} q' => by
    rw [← mx] at q' ⊢
    exact x_sameW ppl (by simp; omega) q'
  have sY : ∀ {Q' : Rs → List O → Prop}, Q' (.o (.shr (.bl true))) [.ol ((tfl f.ts ps).map Wd.d ++ [L.d]), .ol ((tfl f.ts ps).map Wd.d ++ [L.d])] → XF (F_same 6) [.ol ((tfl f.ts ps).map Wd.d ++ [L.d]), .ol ((tfl f.ts ps).map Wd.d ++ [L.d])] Q' := fun {Q'} q' => by
    rw [← mx] at q' ⊢
    exact x_sameW dpl' (by simp; omega) q'
  have lY : ∀ {Q' : Rs → List O → Prop}, Q' (.o (.shr (.bl false))) [.ol ((tfl f.ts ps).map Wd.d ++ [L.d])] → XF F_left [.ol ((tfl f.ts ps).map Wd.d ++ [L.d])] Q' := fun {Q'} q' => by
    rw [← mx] at q' ⊢
    exact x_left hnf dsm' (by simp; omega) q'
  have wX : ∀ {Q' : Rs → List O → Prop}, Q' (.o (rO R)) [.ol ((mwl f.ts ps).map Wd.d), .od kvs] → XF F_worths [.ol ((mwl f.ts ps).map Wd.d), .od kvs] Q' := fun {Q'} q' =>
    x_worths hk hR (fun w hw => ⟨mwl_sm f.ts ps hsm1 w hw, pget w hw⟩) (by omega) q'
  have wY : ∀ {Q' : Rs → List O → Prop}, Q' (.o (rO R)) [.ol ((tfl f.ts ps).map Wd.d), .od kvs] → XF F_worths [.ol ((tfl f.ts ps).map Wd.d), .od kvs] Q' := fun {Q'} q' =>
    x_worths hk (er ▸ hR) (fun w hw => ⟨tsm w (List.mem_reverse.mpr hw), tget w (List.mem_reverse.mpr hw)⟩) (by omega) q'
  rw [hws, mx]
  generalize hX : (mwl f.ts ps).map Wd.d ++ [L.d] = X at fX sX ⊢
  walk_at "law"
  refine xl_ix' (JD src1 (.shr (.int fi)) kvs f ps X) ⟨none, .n, rfl⟩ ?_ ?_
  · rintro e ⟨x9, f9, rfl⟩
    rw [List.length_map, List.take_length]
    have l3 : ((tfl f.ts ps).map Wd.d).length ≤ 1000 := by simp; omega
    rw [← hX]
    walk_at "law"
    rw [hX]
    refine fX ?_
    walk_at "law"
    refine sY ?_
    walk_at "law"
    refine sX ?_
    walk_at "law"
    refine fY ?_
    walk_at "law"
    refine sY ?_
    walk_at "law"
    refine lY ?_
    walk_at "law"
    rw [← hX, cut_m1]
    refine wX ?_
    walk_at "law"
    rw [cut_m1]
    refine wY ?_
    walk_at "law"
    refine eqR ?_
    walk_at "law"
    exact q _ hs1
  · rintro k e hk2 ⟨x9, f9, rfl⟩
    have hk' : k < f.ts.length := by simpa using hk2
    rw [List.getElem_map]
    have hts : f.ts.take (k + 1) = f.ts.take k ++ [f.ts[k]] := List.take_succ_eq_append_getElem hk'
    have hnk := nl_at hk'
    have hnm := nl_take f.ts (k + 1)
    have htl := tfl_len (f.ts.take k) ps
    have htl2 := tf_len f.ts[k] (ps.drop (nl (f.ts.take k)))
    obtain ⟨g1, g2⟩ := hsm _ (List.getElem_mem hk')
    walk_at "law"
    refine x_tfold f.ts[k] 6 (ps.drop (nl (f.ts.take k))) g1 (by omega) g2 (by simp; omega) ?_
    walk_at "law"
    refine xo_addL (by simp; omega) ?_
    walk_at "law"
    refine ⟨some ⟨.shr (toD f.ts[k]), false, false⟩, .s, ?_⟩
    rw [hnk, hts, tfl_app, List.drop_drop, tfl, tfl, List.append_nil, List.map_append]
end K50

set_option maxRecDepth 100000
set_option maxHeartbeats 4000000
namespace K50
open PV PySem L2
local macro_rules | `(tactic| walk_at "all") => `(tactic| repeat' (first | walk_at "1" | ((with_reducible refine lend_ok ?_ ?_); (focus rfl)) | ((with_reducible apply wbx); (focus (walk_at "wb"; done)); (focus rfl)) | walk_at "tf" | walk_at "isi" | walk_at "both" | with_reducible refine ixL3 (by omega) (by omega) ?_ ?_ ?_))
local macro_rules | `(tactic| walk_at "run") => `(tactic| repeat (first | walk_at "1" | ((with_reducible refine lend_ok ?_ ?_); (focus rfl)) | ((with_reducible apply wbx); (focus (walk_at "wb"; done)); (focus rfl)) | walk_at "tf" | walk_at "isi"))
local macro_rules | `(tactic| walk_at "isi") => `(tactic| ((with_reducible show XO (oIsi _) _); first
  | refine isiT (c := .bool) rfl rfl rfl ?_ | refine isiF (c := .bool) rfl rfl rfl ?_ | refine isiT (c := .int) rfl rfl rfl ?_ | refine isiF (c := .int) rfl rfl rfl ?_ | refine isiT (c := .str) rfl rfl rfl ?_ | refine isiF (c := .str) rfl rfl rfl ?_
  | refine isiT (c := .dict) rfl rfl rfl ?_ | refine isiF (c := .dict) rfl rfl rfl ?_ | refine isiT (c := .tuple) rfl rfl rfl ?_ | refine isiF (c := .tuple) rfl rfl rfl ?_ | refine isiT (c := .list) rfl rfl rfl ?_ | refine isiF (c := .list) rfl rfl rfl ?_))
local macro_rules | `(tactic| walk_at "both") => `(tactic| with_reducible first | refine tf_d (fun _ => ?_) fun _ => ?_ | refine tf_nd (fun _ => ?_) fun _ => ?_ | refine tf_b (fun _ => ?_) fun _ => ?_)
local macro_rules | `(tactic| walk_at "tf") => `(tactic| with_reducible first | refine tf_T (by decide +kernel) ?_ | refine tf_F (by decide +kernel) ?_ | refine tf_T (decide_eq_true (by omega)) ?_ | refine tf_T (decide_eq_true (by simp only [List.length_cons]; omega)) ?_ | refine tf_F (decide_eq_false (by omega)) ?_ | refine tf_F (decide_eq_false (by assumption)) ?_ | refine tf_T (decide_eq_true (by assumption)) ?_ | refine tf_T (nd_T (by omega)) ?_ | refine tf_F (nd_F (by omega)) ?_ | refine tf_T (nd_T (by assumption)) ?_ | refine tf_F (nd_F (by assumption)) ?_)
local macro_rules | `(tactic| walk_at "wb") => `(tactic| (repeat (first | exact Wb.nil | apply Wb.tmp | apply Wb.shr | (apply Wb.ol'; (focus rfl)) | (apply Wb.od'; (focus rfl)) | (exact Chg.z) | apply Chg.s)))
local macro_rules | `(tactic| walk_at "op") => `(tactic| with_reducible first | refine xal ?_ | refine xals ?_ | (apply xat; (focus (first | exact at0 | exact at1 | exact at2 | assumption))) | refine trI ?_ | refine trB ?_ | refine trN ?_ | refine trL ?_ | refine trLs ?_)
local macro_rules | `(tactic| walk_at "op") => `(tactic| with_reducible first | refine xo_minN ?_ | refine xo_max ?_ | refine xo_min ?_ | (apply strI; (focus omega)) | (apply xo_addN; (focus decide +kernel); (focus omega)) | (apply xo_addS; (focus decide +kernel)) | (apply xo_addT; (focus (refine ⟨List.cons_ne_nil _ _, List.cons_ne_nil _ _, ?_⟩; simp only [List.length_cons, List.length_nil]; omega))) | refine xai ?_ | refine xab ?_)
local macro_rules | `(tactic| walk_at "op") => `(tactic| with_reducible first | refine lsL ?_ | refine lsLs ?_ | refine lsT ?_ | refine slL ?_ | refine slLs ?_ | refine xo_intI ?_ | refine xo_abs ?_ | refine xo_maxN ?_ | refine xo_max1 ?_)
local macro_rules | `(tactic| walk_at "op") => `(tactic| with_reducible first | (apply ixLs; (focus (first | exact at0 | exact at1 | exact at2 | assumption))) | (apply ixT; (focus (first | exact at0 | exact at1 | exact at2 | assumption))) | refine lnL ?_ | refine lnLs ?_ | refine lnT ?_ | refine lnSc ?_ | refine slSc ?_ | (apply ixSc; (focus (first | exact at0 | exact at1 | exact at2 | assumption))) | (apply xo_sumL rfl))
local macro_rules | `(tactic| walk_at "op") => `(tactic| with_reducible first | refine isN2 ?_ | refine isN3 ?_ | refine isN4 ?_ | refine isN5 ?_ | refine noN ?_ | refine noN0 ?_ | refine noN1 ?_ | refine noN2 ?_ | (apply ixL; (focus (first | exact at0 | exact at1 | exact at2 | assumption))))
local macro_rules | `(tactic| walk_at "op") => `(tactic| with_reducible first | refine xo_ge ?_ | refine xo_neg ?_ | refine eqI ?_ | refine neI ?_ | refine eqSt ?_ | refine neSt ?_ | refine isN ?_ | refine isN0 ?_ | refine isN1 ?_)
local macro_rules | `(tactic| walk_at "op") => `(tactic| with_reducible first | refine xo_sub ?_ | (apply xo_mul; (focus (first | exact mulR (by decide) | exact mulL (by decide) | exact mulR (by omega) | exact mulL (by omega) | exact mulW (by decide +kernel)))) | (apply xo_div; (focus (first | exact divK (by decide) | exact divK (by omega)))) | (apply xo_modP; (focus (first | decide | omega | decide +kernel)); intro _ _ _) | (apply xo_mod; (focus (first | decide | omega | decide +kernel))) | (apply xo_pow; focus exact powK (by decide)) | refine xo_lt ?_ | refine xo_le ?_ | refine xo_gt ?_)
local macro_rules | `(tactic| walk_at "op") => `(tactic| with_reducible first | refine xo_neD ?_ | refine xo_eqD ?_ | refine xas ?_ | refine xo_strAS ?_ | refine xo_inStr ?_ | refine xo_notInStr ?_ | refine xo_inG ?_ | refine xo_addI ?_ | refine xo_addI' ?_)
local macro_rules | `(tactic| walk_at "op") => `(tactic| with_reducible first | (apply xp_g; (focus (walk_at "at"; done))) | refine xr_o ?_ | refine ak_o ?_ | refine ak_s ?_ | refine ko_s ?_ | refine ko_i ?_ | refine xo_dget ?_ | refine xo_din ?_ | refine xo_dict ?_)
local macro_rules | `(tactic| walk_at "op") => `(tactic| with_reducible first | (apply xg_v; (focus (walk_at "at"; done))) | refine xg_t ?_ | refine xh_nil ?_ | (apply xh_v; (focus (walk_at "at"; done))) | refine xh_t ?_ | (refine xg_T rfl ?_) | refine xg_nil ?_ | refine xg_cons ?_ | (apply xw_s; (focus (walk_at "at"; done))))
local macro_rules | `(tactic| walk_at "1") => `(tactic| with_reducible first | refine par2 ?_ | refine lenAnd (by simp only [List.length_cons, List.length_nil]; omega) ?_ | (apply r1N; (focus omega)) | (apply r2S; (focus omega)) | (apply r1; (focus omega)) | (apply r2; (focus omega)) | refine xl_nil' ?_ | (apply def_rt; (focus (walk_at "at"; done))) | (apply def_nx; (focus (walk_at "at"; done))))
local macro_rules | `(tactic| walk_at "1") => `(tactic| with_reducible first | (apply xsi; (focus (walk_at "at"; done))) | refine ex_shr ?_ | refine len15 (by simp only [List.length_cons, List.length_nil]; omega) ?_ | (apply xsd; (focus (walk_at "at"; done))) | refine par3 ?_ | (apply acc2; (focus (first | omega | (simp only [List.length_cons, List.length_nil, List.length_append]; omega))); (focus (walk_at "at"; done)); (focus (walk_at "at"; done))))
local macro_rules | `(tactic| walk_at "1") => `(tactic| with_reducible ((show XPs _ _ _); (first | refine xps_nil ?_ | refine xps_cons ?_)))
local macro_rules | `(tactic| walk_at "1") => `(tactic| with_reducible ((show XLk _ _ _); (first | refine xlk_t ?_ | (apply xlk_s; (focus (walk_at "at"; done))) | (apply xlk_l; (focus (walk_at "at"; done))))))
local macro_rules | `(tactic| walk_at "1") => `(tactic| with_reducible ((show XJ _ _); (first | refine xj_l ?_ | refine xj_ls ?_ | refine xj_t ?_ | refine xj_s ?_)))
local macro_rules | `(tactic| walk_at "1") => `(tactic| with_reducible ((show lcQ2 _ _ _ _ _ _ _ _); (first | (apply lc2_n; (focus (walk_at "at"; done)); (focus (walk_at "at"; done)); (focus (walk_at "at"; done)); (focus (walk_at "at"; done))) | (apply lc2_l; (focus (walk_at "at"; done)); (focus (walk_at "at"; done)); (focus (walk_at "at"; done)); (focus (walk_at "at"; done)); (focus (walk_at "at"; done))))))
local macro_rules | `(tactic| walk_at "1") => `(tactic| with_reducible ((show lcQ _ _ _ _ _ _ _ _); (first | (apply lc_n; (focus (walk_at "at"; done)); (focus (walk_at "at"; done))) | (apply lc_l; (focus (walk_at "at"; done)); (focus (walk_at "at"; done)); (focus (walk_at "at"; done))))))
local macro_rules | `(tactic| walk_at "1") => `(tactic| with_reducible ((show forQ _ _ _ _ _ _); (first | refine for_n ?_ | (apply for_l; (focus (walk_at "at"; done))))))
local macro_rules | `(tactic| walk_at "1") => `(tactic| with_reducible ((show unlQ _ _ _); (first | refine unl_n ?_ | (apply unl_nx; (focus (walk_at "at"; done))) | refine unl_rt ?_)))
local macro_rules | `(tactic| walk_at "1") => `(tactic| with_reducible ((show turnQ _ _ _); (first | refine turn_nx ?_ | refine turn_ct ?_ | refine turn_bk ?_ | refine turn_rt ?_)))
local macro_rules | `(tactic| walk_at "1") => `(tactic| with_reducible ((show XC _ _ _ _ _ _ _ _); (first | refine xc_nil' ?_ | refine xc2_nil ?_ | refine xc2_cons ?_ | refine xc_yes1 ?_)))
local macro_rules | `(tactic| walk_at "1") => `(tactic| with_reducible ((show XM _ _ _ _); (first | (apply xm_set; (focus (walk_at "at"; done)); (focus (first | exact setL0 | exact setL1 | exact setL2 | assumption)); (focus (walk_at "at"; done))) | (apply xm_app; (focus (walk_at "at"; done)); (focus (first | assumption | omega | decide | (simp only [List.length_append, List.length_cons, List.length_nil]; omega))); (focus (walk_at "at"; done))) | (apply xm_put; (focus (walk_at "at"; done)); (focus omega); (focus (walk_at "at"; done))) | (apply xm_pop0; (focus (walk_at "at"; done)); (focus (walk_at "at"; done))) | (apply xm_pop; (focus (walk_at "at"; done)); (focus (walk_at "at"; done))))))
local macro_rules | `(tactic| walk_at "1") => `(tactic| with_reducible ((show XRt _ _ _); (first | refine xrt_t ?_ | (apply xrt_s; (focus (walk_at "at"; done))) | (apply xrt_pl; (focus (walk_at "at"; done))) | (apply xrt_l; (focus (walk_at "at"; done)); (focus (walk_at "at"; done))) | (apply xrt_k; (focus (walk_at "at"; done)); (focus (walk_at "at"; done))) | (apply xrt_pk; (focus (walk_at "at"; done))))))
local macro_rules | `(tactic| walk_at "1") => `(tactic| with_reducible ((show XI _ _ _); (first | refine xi_r1' ?_ | refine xi_r2' ?_ | refine xi_seq' ?_)))
local macro_rules | `(tactic| walk_at "1") => `(tactic| with_reducible ((show XP _ _ _); (first | refine xp_no ?_ | refine xp_some ?_)))
local macro_rules | `(tactic| walk_at "1") => `(tactic| with_reducible ((show seqQ _ _ _); (first | refine seq_nx ?_ | refine seq_rt ?_ | refine seq_bk ?_ | refine seq_ct ?_)))
local macro_rules | `(tactic| walk_at "1") => `(tactic| with_reducible ((show XW _ _ _ _); (first | (apply xw_t; (focus (walk_at "at"; done))) | refine xw_v ?_)))
local macro_rules | `(tactic| walk_at "1") => `(tactic| with_reducible ((show XT _ _ _); (first | refine xt_s ?_ | refine xt_l ?_ | refine xt_k ?_ | (apply xt_vs; (focus (walk_at "at"; done))) | (apply xt_vl; (focus (walk_at "at"; done))) | (apply xt_vk; (focus (walk_at "at"; done))))))
local macro_rules | `(tactic| walk_at "1") => `(tactic| with_reducible ((show XD _ _ _); (first | refine xd ?_)))
local macro_rules | `(tactic| walk_at "1") => `(tactic| with_reducible ((show TF _ _ _); (first | refine tf_t ?_ | refine tf_f ?_)))
local macro_rules | `(tactic| walk_at "1") => `(tactic| with_reducible ((show XHs _ _ _); (first | refine xhs_nil ?_ | refine xhs_cons ?_)))
local macro_rules | `(tactic| walk_at "1") => `(tactic| with_reducible ((show XDs _ _ _); (first | refine xds_nil ?_ | refine xds_cons ?_)))
local macro_rules | `(tactic| walk_at "1") => `(tactic| with_reducible ((show XB _ _ _); (first | refine xb_and' ?_ | refine xb_or' ?_ | refine xb_not ?_ | refine xb_val ?_ | refine xb_tru ?_ | refine xb_yes ?_)))
local macro_rules | `(tactic| walk_at "1") => `(tactic| with_reducible ((show XS _ _ _); (first | refine xs_seq' ?_ | refine xs_nil ?_ | refine xs_set' ?_ | refine xs_asg ?_ | refine xs_par2 ?_ | refine xs_drop ?_ | refine xs_ret' ?_ | refine xs_retN ?_ | refine xs_if' ?_ | refine xs_brk ?_ | refine xs_cont ?_ | refine xs_for' ?_ | (refine xs_setIx2 ?_) | (apply xs_augIx'L; (focus (walk_at "at"; done))) | (apply xs_aug'; (focus (walk_at "at"; done))) | refine xs_setDx ?_ | refine xs_par3 ?_)))
local macro_rules | `(tactic| walk_at "1") => `(tactic| with_reducible ((show XE _ _ _); (first | (apply xv; (focus (walk_at "at"; done))) | refine xe_c ?_ | refine xe_bin ?_ | refine xe_un ?_ | refine xe_if' ?_ | refine xe_B ?_ | refine xe_callB ?_ | refine xe_tup ?_ | refine xe_lst ?_ | refine xe_sl ?_ | (apply xe_mt'L; (focus (walk_at "at"; done))) | refine xe_lc' ?_ | (refine xe_call' ?_) | refine xe_o ?_ | refine xe_get2 ?_ | refine xe_get1 ?_ | refine xe_disp ?_ | refine xe_join ?_ | refine xe_lc2 ?_ | refine xe_sidx ?_)))
local macro_rules | `(tactic| walk_at "1") => `(tactic| with_reducible ((show XO _ _); (walk_at "op")))
local macro_rules | `(tactic| walk_at "at") => `(tactic| with_reducible first | ((repeat (apply At.s)); (exact At.z)) | ((repeat (apply Put.s)); (first | exact Put.n | exact Put.z | exact Put.f (by assumption))) | ((repeat (apply Chg.s)); (exact Chg.z)) | ((repeat (apply SetAt.s)); (exact SetAt.z)) | ((repeat (apply Slt.s)); (exact Slt.z)) | ((repeat (apply Fin'.s)); (exact Fin'.z)) | ((repeat (first | apply Ini.shr | apply Ini.n | apply Ini.ol | apply Ini.od)); (exact Ini.z)) | exact Wb.nil)
-- END MACRO
theorem x_restE {src P : List D} {tr : D} {fi : Int} {kvs : List (Key × D)} {Q : Rs → List O → Prop}
    (h : ∃ (f : Fm) (nm : Str → Int), P = f.ts.map toD ∧ tr = f.d ∧ NmOk kvs nm ∧ Src3 src ∧ nl f.ts ≤ 100 ∧ (∀ t ∈ f.ts, t.sm ∧ t.dep < 6) ∧ f.ts.length ≤ 100 ∧ ∀ src', Src3 src' → Q (.o (.shr (.bl true))) [.ol src', .shr (.int fi), .od kvs]) :
    XS restL [some ⟨.ol src, true, false⟩, some ⟨.shr (.int fi), false, false⟩, some ⟨.od kvs, true, false⟩, some ⟨.shr (.lst P), false, false⟩, some ⟨.shr tr, false, false⟩, none, none, none, none, none, none, none, none] (defQ 3 Q) := by
  obtain ⟨f, nm, rfl, rfl, h1, h2, h3, h4, h5, q⟩ := h
  exact x_restL f h1 h2 h3 h4 h5 q
theorem full_up {t : T} {d : Nat} (h : t.full d) (l : d ≤ 3) : t.sm ∧ t.dep < 6 ∧ t.n ≤ 16 := by
  refine ⟨h.1, by have := h.2.1; omega, ?_⟩
  have h1 := n_odd t
  have h2 : 2 ^ (t.dep + 1) ≤ 2 ^ 4 := Nat.pow_le_pow_right (by decide) (by have := h.2.1; omega)
  omega
def FullT (t : T) : Prop := t.sm ∧ t.dep < 6 ∧ t.n ≤ 16
theorem nl_le : ∀ {ts : List T}, (∀ t ∈ ts, FullT t) → nl ts ≤ 16 * ts.length
  | [], _ => Nat.le_refl 0
  | t :: r, h => by
    have h1 := (h t (List.mem_cons_self ..)).2.2
    have h2 := nl_le (ts := r) fun x hx => h x (List.mem_cons_of_mem _ hx)
    rw [nl, List.length_cons]; omega
local macro_rules | `(tactic| walk_at "law") => `(tactic| repeat' (first | with_reducible refine x_restE ?_ | walk_at "1" | ((with_reducible refine lend_ok ?_ ?_); (focus rfl)) | ((with_reducible apply wbx); (focus (walk_at "wb"; done)); (focus rfl)) | walk_at "tf" | walk_at "isi" | with_reducible refine x_pick (by assumption) (by omega) (by omega) (fun _ _ _ _ _ => ?_) | (with_reducible apply ixL; (focus exact at3))))
def JR (fi : Int) (kvs : List (Key × D)) (k : Nat) (acc : List D) (e : Sto) : Prop := ∃ (src : List D) (ts : List T), Src3 src ∧ acc = ts.map toD ∧ ts.length = k ∧ (∀ t ∈ ts, FullT t) ∧ e = [some ⟨.ol src, true, false⟩, some ⟨.shr (.int fi), false, false⟩, some ⟨.od kvs, true, false⟩, none, none, none, none, none, none, none, none, none, none]
theorem jr_step {n : Nat} {k : Nat} {fi : Int} {kvs : List (Key × D)} (hk : k < 5) {acc : List D} {e : Sto} (h : JR fi kvs k acc e) : XO (gN 12 (.int (k : Nat)) e) fun e1 => XD (vTake (vCall (F_rich 6) (vConsH (vVar 0) (vConsH (vBin oAdd (vC (.int 1)) (vCall F_pick (vConsH (vVar 0) (vConsH (vC (.int 3)) vNilH)))) vNilH)))) e1 (accQ acc 12 (JR fi kvs (k + 1))) := by
  obtain ⟨src, ts, hs, rfl, hl, hf, rfl⟩ := h
  walk_at "law"
  rename_i r src1 hs1 h0 h1
  obtain ⟨m, rfl⟩ := Int.eq_ofNat_of_zero_le h0
  have e1 : (1 : Int) + (m : Nat) = ((m + 1 : Nat) : Int) := by omega
  rw [e1]
  refine x_rich 6 (m + 1) hs1 (by omega) (by omega) fun t src2 ft hs2 => ?_
  walk_at "law"
  refine acc_q (by simp; omega) (by walk_at "at") ⟨src2, ts ++ [t], hs2, by simp, by simp [hl], ?_, rfl⟩
  intro x hx
  rcases List.mem_append.mp hx with hx | hx
  · exact hf x hx
  · rw [List.mem_singleton] at hx; subst hx; exact full_up ft (by omega)
theorem x_line {src : List D} {fi : Int} {kvs : List (Key × D)} {nm : Str → Int} (hk : NmOk kvs nm) (hs : Src3 src) (h0 : 0 ≤ fi) (h1 : fi < 4) {Q : Rs → List O → Prop} (q : ∀ src', Src3 src' → Q (.o (.shr (.bl true))) [.ol src', .shr (.int fi), .od kvs]) : XF F_line_right [.ol src, .shr (.int fi), .od kvs] Q := by
  refine xf' rfl (by walk_at "at") ?_
  unfold f_line_right
  have : fi = 0 ∨ fi = 1 ∨ fi = 2 ∨ fi = 3 := by omega
  have one : ∀ {ts : List T}, ts.length = 1 → ∃ t, ts = [t] := fun {ts} h => by
    match ts, h with
    | [t], _ => exact ⟨t, rfl⟩
  rcases this with rfl | rfl | rfl | rfl
  · walk_at "law"
    refine r1' (by decide) (by decide) ?_
    walk_at "law"
    refine xc_rng (JR 0 kvs) ⟨src, [], hs, rfl, rfl, (fun x hx => nomatch hx), rfl⟩ ?_ ?_
    · rintro acc e ⟨src1, ts, hs1, rfl, hl, hf, rfl⟩
      obtain ⟨t, rfl⟩ := one hl
      refine ⟨_, by walk_at "at", ?_⟩
      rw [List.map_cons, List.map_nil]
      walk_at "law"
      have ht := hf t (List.mem_cons_self ..)
      exact ⟨.tell t, nm, rfl, rfl, hk, hs1, by have := nl_le hf; simp at this; exact Nat.le_trans this (by decide), (fun x hx => ⟨(hf x hx).1, (hf x hx).2.1⟩), by (show 1 ≤ 100; decide), q⟩
    · intro k acc e hk3 hj
      exact jr_step (n := 0) (by have : (1 : Int).toNat = 1 := rfl; omega) hj
  · walk_at "law"
    refine r1' (by decide) (by decide) ?_
    walk_at "law"
    refine xc_rng (JR 1 kvs) ⟨src, [], hs, rfl, rfl, (fun x hx => nomatch hx), rfl⟩ ?_ ?_
    · rintro acc e ⟨src1, ts, hs1, rfl, hl, hf, rfl⟩
      obtain ⟨t, rfl⟩ := one hl
      refine ⟨_, by walk_at "at", ?_⟩
      rw [List.map_cons, List.map_nil]
      walk_at "law"
      exact ⟨.set t, nm, rfl, rfl, hk, hs1, by have := nl_le hf; simp at this; exact Nat.le_trans this (by decide), (fun x hx => ⟨(hf x hx).1, (hf x hx).2.1⟩), by (show 1 ≤ 100; decide), q⟩
    · intro k acc e hk3 hj
      exact jr_step (n := 0) (by have : (1 : Int).toNat = 1 := rfl; omega) hj
  · walk_at "law"
    refine r1' (by decide) (by decide) ?_
    walk_at "law"
    refine xc_rng (JR 2 kvs) ⟨src, [], hs, rfl, rfl, (fun x hx => nomatch hx), rfl⟩ ?_ ?_
    · rintro acc e ⟨src1, ts, hs1, rfl, hl, hf, rfl⟩
      obtain ⟨t, rfl⟩ := one hl
      refine ⟨_, by walk_at "at", ?_⟩
      rw [List.map_cons, List.map_nil]
      walk_at "law"
      exact ⟨.go t, nm, rfl, rfl, hk, hs1, by have := nl_le hf; simp at this; exact Nat.le_trans this (by decide), (fun x hx => ⟨(hf x hx).1, (hf x hx).2.1⟩), by (show 1 ≤ 100; decide), q⟩
    · intro k acc e hk3 hj
      exact jr_step (n := 0) (by have : (1 : Int).toNat = 1 := rfl; omega) hj
  · walk_at "law"
    rename_i r src0 hs0 g0 g1
    refine r1' (by omega) (by omega) ?_
    walk_at "law"
    refine xc_rng (JR 3 kvs) ⟨src0, [], hs0, rfl, rfl, (fun x hx => nomatch hx), rfl⟩ ?_ ?_
    · rintro acc e ⟨src1, ts, hs1, rfl, hl, hf, rfl⟩
      match ts, hl, hf with
      | [], hl, hf => simp at hl; omega
      | t :: ts, hl, hf =>
        refine ⟨_, by walk_at "at", ?_⟩
        rw [List.map_cons]
        walk_at "law"
        exact ⟨.call (t :: ts), nm, rfl, rfl, hk, hs1, by have := nl_le hf; rw [hl] at this; show nl (t :: ts) ≤ 100; omega, (fun x hx => ⟨(hf x hx).1, (hf x hx).2.1⟩), by show (t :: ts).length ≤ 100; omega, q⟩
    · intro k acc e hk3 hj
      exact jr_step (n := 0) (by omega) hj
end K50

set_option maxRecDepth 100000
set_option maxHeartbeats 4000000
namespace K50
open PV PySem L2
local macro_rules | `(tactic| walk_at "all") => `(tactic| repeat' (first | walk_at "1" | ((with_reducible refine lend_ok ?_ ?_); (focus rfl)) | ((with_reducible apply wbx); (focus (walk_at "wb"; done)); (focus rfl)) | walk_at "tf" | walk_at "isi" | walk_at "both" | with_reducible refine ixL3 (by omega) (by omega) ?_ ?_ ?_))
local macro_rules | `(tactic| walk_at "run") => `(tactic| repeat (first | walk_at "1" | ((with_reducible refine lend_ok ?_ ?_); (focus rfl)) | ((with_reducible apply wbx); (focus (walk_at "wb"; done)); (focus rfl)) | walk_at "tf" | walk_at "isi"))
local macro_rules | `(tactic| walk_at "isi") => `(tactic| ((with_reducible show XO (oIsi _) _); first
  | refine isiT (c := .bool) rfl rfl rfl ?_ | refine isiF (c := .bool) rfl rfl rfl ?_ | refine isiT (c := .int) rfl rfl rfl ?_ | refine isiF (c := .int) rfl rfl rfl ?_ | refine isiT (c := .str) rfl rfl rfl ?_ | refine isiF (c := .str) rfl rfl rfl ?_
  | refine isiT (c := .dict) rfl rfl rfl ?_ | refine isiF (c := .dict) rfl rfl rfl ?_ | refine isiT (c := .tuple) rfl rfl rfl ?_ | refine isiF (c := .tuple) rfl rfl rfl ?_ | refine isiT (c := .list) rfl rfl rfl ?_ | refine isiF (c := .list) rfl rfl rfl ?_))
local macro_rules | `(tactic| walk_at "both") => `(tactic| with_reducible first | refine tf_d (fun _ => ?_) fun _ => ?_ | refine tf_nd (fun _ => ?_) fun _ => ?_ | refine tf_b (fun _ => ?_) fun _ => ?_)
local macro_rules | `(tactic| walk_at "tf") => `(tactic| with_reducible first | refine tf_T (by decide +kernel) ?_ | refine tf_F (by decide +kernel) ?_ | refine tf_T (decide_eq_true (by omega)) ?_ | refine tf_T (decide_eq_true (by simp only [List.length_cons]; omega)) ?_ | refine tf_F (decide_eq_false (by omega)) ?_ | refine tf_F (decide_eq_false (by assumption)) ?_ | refine tf_T (decide_eq_true (by assumption)) ?_ | refine tf_T (nd_T (by omega)) ?_ | refine tf_F (nd_F (by omega)) ?_ | refine tf_T (nd_T (by assumption)) ?_ | refine tf_F (nd_F (by assumption)) ?_)
local macro_rules | `(tactic| walk_at "wb") => `(tactic| (repeat (first | exact Wb.nil | apply Wb.tmp | apply Wb.shr | (apply Wb.ol'; (focus rfl)) | (apply Wb.od'; (focus rfl)) | (exact Chg.z) | apply Chg.s)))
local macro_rules | `(tactic| walk_at "op") => `(tactic| with_reducible first | refine xal ?_ | refine xals ?_ | (apply xat; (focus (first | exact at0 | exact at1 | exact at2 | assumption))) | refine trI ?_ | refine trB ?_ | refine trN ?_ | refine trL ?_ | refine trLs ?_)
local macro_rules | `(tactic| walk_at "op") => `(tactic| with_reducible first | refine xo_minN ?_ | refine xo_max ?_ | refine xo_min ?_ | (apply strI; (focus omega)) | (apply xo_addN; (focus decide +kernel); (focus omega)) | (apply xo_addS; (focus decide +kernel)) | (apply xo_addT; (focus (refine ⟨List.cons_ne_nil _ _, List.cons_ne_nil _ _, ?_⟩; simp only [List.length_cons, List.length_nil]; omega))) | refine xai ?_ | refine xab ?_)
local macro_rules | `(tactic| walk_at "op") => `(tactic| with_reducible first | refine lsL ?_ | refine lsLs ?_ | refine lsT ?_ | refine slL ?_ | refine slLs ?_ | refine xo_intI ?_ | refine xo_abs ?_ | refine xo_maxN ?_ | refine xo_max1 ?_)
local macro_rules | `(tactic| walk_at "op") => `(tactic| with_reducible first | (apply ixLs; (focus (first | exact at0 | exact at1 | exact at2 | assumption))) | (apply ixT; (focus (first | exact at0 | exact at1 | exact at2 | assumption))) | refine lnL ?_ | refine lnLs ?_ | refine lnT ?_ | refine lnSc ?_ | refine slSc ?_ | (apply ixSc; (focus (first | exact at0 | exact at1 | exact at2 | assumption))) | (apply xo_sumL rfl))
local macro_rules | `(tactic| walk_at "op") => `(tactic| with_reducible first | refine isN2 ?_ | refine isN3 ?_ | refine isN4 ?_ | refine isN5 ?_ | refine noN ?_ | refine noN0 ?_ | refine noN1 ?_ | refine noN2 ?_ | (apply ixL; (focus (first | exact at0 | exact at1 | exact at2 | assumption))))
local macro_rules | `(tactic| walk_at "op") => `(tactic| with_reducible first | refine xo_ge ?_ | refine xo_neg ?_ | refine eqI ?_ | refine neI ?_ | refine eqSt ?_ | refine neSt ?_ | refine isN ?_ | refine isN0 ?_ | refine isN1 ?_)
local macro_rules | `(tactic| walk_at "op") => `(tactic| with_reducible first | refine xo_sub ?_ | (apply xo_mul; (focus (first | exact mulR (by decide) | exact mulL (by decide) | exact mulR (by omega) | exact mulL (by omega) | exact mulW (by decide +kernel)))) | (apply xo_div; (focus (first | exact divK (by decide) | exact divK (by omega)))) | (apply xo_modP; (focus (first | decide | omega | decide +kernel)); intro _ _ _) | (apply xo_mod; (focus (first | decide | omega | decide +kernel))) | (apply xo_pow; focus exact powK (by decide)) | refine xo_lt ?_ | refine xo_le ?_ | refine xo_gt ?_)
local macro_rules | `(tactic| walk_at "op") => `(tactic| with_reducible first | refine xo_neD ?_ | refine xo_eqD ?_ | refine xas ?_ | refine xo_strAS ?_ | refine xo_inStr ?_ | refine xo_notInStr ?_ | refine xo_inG ?_ | refine xo_addI ?_ | refine xo_addI' ?_)
local macro_rules | `(tactic| walk_at "op") => `(tactic| with_reducible first | (apply xp_g; (focus (walk_at "at"; done))) | refine xr_o ?_ | refine ak_o ?_ | refine ak_s ?_ | refine ko_s ?_ | refine ko_i ?_ | refine xo_dget ?_ | refine xo_din ?_ | refine xo_dict ?_)
local macro_rules | `(tactic| walk_at "op") => `(tactic| with_reducible first | (apply xg_v; (focus (walk_at "at"; done))) | refine xg_t ?_ | refine xh_nil ?_ | (apply xh_v; (focus (walk_at "at"; done))) | refine xh_t ?_ | (refine xg_T rfl ?_) | refine xg_nil ?_ | refine xg_cons ?_ | (apply xw_s; (focus (walk_at "at"; done))))
local macro_rules | `(tactic| walk_at "1") => `(tactic| with_reducible first | refine par2 ?_ | refine lenAnd (by simp only [List.length_cons, List.length_nil]; omega) ?_ | (apply r1N; (focus omega)) | (apply r2S; (focus omega)) | (apply r1; (focus omega)) | (apply r2; (focus omega)) | refine xl_nil' ?_ | (apply def_rt; (focus (walk_at "at"; done))) | (apply def_nx; (focus (walk_at "at"; done))))
local macro_rules | `(tactic| walk_at "1") => `(tactic| with_reducible first | (apply xsi; (focus (walk_at "at"; done))) | refine ex_shr ?_ | refine len15 (by simp only [List.length_cons, List.length_nil]; omega) ?_ | (apply xsd; (focus (walk_at "at"; done))) | refine par3 ?_ | (apply acc2; (focus (first | omega | (simp only [List.length_cons, List.length_nil, List.length_append]; omega))); (focus (walk_at "at"; done)); (focus (walk_at "at"; done))))
local macro_rules | `(tactic| walk_at "1") => `(tactic| with_reducible ((show XPs _ _ _); (first | refine xps_nil ?_ | refine xps_cons ?_)))
local macro_rules | `(tactic| walk_at "1") => `(tactic| with_reducible ((show XLk _ _ _); (first | refine xlk_t ?_ | (apply xlk_s; (focus (walk_at "at"; done))) | (apply xlk_l; (focus (walk_at "at"; done))))))
local macro_rules | `(tactic| walk_at "1") => `(tactic| with_reducible ((show XJ _ _); (first | refine xj_l ?_ | refine xj_ls ?_ | refine xj_t ?_ | refine xj_s ?_)))
local macro_rules | `(tactic| walk_at "1") => `(tactic| with_reducible ((show lcQ2 _ _ _ _ _ _ _ _); (first | (apply lc2_n; (focus (walk_at "at"; done)); (focus (walk_at "at"; done)); (focus (walk_at "at"; done)); (focus (walk_at "at"; done))) | (apply lc2_l; (focus (walk_at "at"; done)); (focus (walk_at "at"; done)); (focus (walk_at "at"; done)); (focus (walk_at "at"; done)); (focus (walk_at "at"; done))))))
local macro_rules | `(tactic| walk_at "1") => `(tactic| with_reducible ((show lcQ _ _ _ _ _ _ _ _); (first | (apply lc_n; (focus (walk_at "at"; done)); (focus (walk_at "at"; done))) | (apply lc_l; (focus (walk_at "at"; done)); (focus (walk_at "at"; done)); (focus (walk_at "at"; done))))))
local macro_rules | `(tactic| walk_at "1") => `(tactic| with_reducible ((show forQ _ _ _ _ _ _); (first | refine for_n ?_ | (apply for_l; (focus (walk_at "at"; done))))))
local macro_rules | `(tactic| walk_at "1") => `(tactic| with_reducible ((show unlQ _ _ _); (first | refine unl_n ?_ | (apply unl_nx; (focus (walk_at "at"; done))) | refine unl_rt ?_)))
local macro_rules | `(tactic| walk_at "1") => `(tactic| with_reducible ((show turnQ _ _ _); (first | refine turn_nx ?_ | refine turn_ct ?_ | refine turn_bk ?_ | refine turn_rt ?_)))
local macro_rules | `(tactic| walk_at "1") => `(tactic| with_reducible ((show XC _ _ _ _ _ _ _ _); (first | refine xc_nil' ?_ | refine xc2_nil ?_ | refine xc2_cons ?_ | refine xc_yes1 ?_)))
local macro_rules | `(tactic| walk_at "1") => `(tactic| with_reducible ((show XM _ _ _ _); (first | (apply xm_set; (focus (walk_at "at"; done)); (focus (first | exact setL0 | exact setL1 | exact setL2 | assumption)); (focus (walk_at "at"; done))) | (apply xm_app; (focus (walk_at "at"; done)); (focus (first | assumption | omega | decide | (simp only [List.length_append, List.length_cons, List.length_nil]; omega))); (focus (walk_at "at"; done))) | (apply xm_put; (focus (walk_at "at"; done)); (focus omega); (focus (walk_at "at"; done))) | (apply xm_pop0; (focus (walk_at "at"; done)); (focus (walk_at "at"; done))) | (apply xm_pop; (focus (walk_at "at"; done)); (focus (walk_at "at"; done))))))
local macro_rules | `(tactic| walk_at "1") => `(tactic| with_reducible ((show XRt _ _ _); (first | refine xrt_t ?_ | (apply xrt_s; (focus (walk_at "at"; done))) | (apply xrt_pl; (focus (walk_at "at"; done))) | (apply xrt_l; (focus (walk_at "at"; done)); (focus (walk_at "at"; done))) | (apply xrt_k; (focus (walk_at "at"; done)); (focus (walk_at "at"; done))) | (apply xrt_pk; (focus (walk_at "at"; done))))))
local macro_rules | `(tactic| walk_at "1") => `(tactic| with_reducible ((show XI _ _ _); (first | refine xi_r1' ?_ | refine xi_r2' ?_ | refine xi_seq' ?_)))
local macro_rules | `(tactic| walk_at "1") => `(tactic| with_reducible ((show XP _ _ _); (first | refine xp_no ?_ | refine xp_some ?_)))
local macro_rules | `(tactic| walk_at "1") => `(tactic| with_reducible ((show seqQ _ _ _); (first | refine seq_nx ?_ | refine seq_rt ?_ | refine seq_bk ?_ | refine seq_ct ?_)))
local macro_rules | `(tactic| walk_at "1") => `(tactic| with_reducible ((show XW _ _ _ _); (first | (apply xw_t; (focus (walk_at "at"; done))) | refine xw_v ?_)))
local macro_rules | `(tactic| walk_at "1") => `(tactic| with_reducible ((show XT _ _ _); (first | refine xt_s ?_ | refine xt_l ?_ | refine xt_k ?_ | (apply xt_vs; (focus (walk_at "at"; done))) | (apply xt_vl; (focus (walk_at "at"; done))) | (apply xt_vk; (focus (walk_at "at"; done))))))
local macro_rules | `(tactic| walk_at "1") => `(tactic| with_reducible ((show XD _ _ _); (first | refine xd ?_)))
local macro_rules | `(tactic| walk_at "1") => `(tactic| with_reducible ((show TF _ _ _); (first | refine tf_t ?_ | refine tf_f ?_)))
local macro_rules | `(tactic| walk_at "1") => `(tactic| with_reducible ((show XHs _ _ _); (first | refine xhs_nil ?_ | refine xhs_cons ?_)))
local macro_rules | `(tactic| walk_at "1") => `(tactic| with_reducible ((show XDs _ _ _); (first | refine xds_nil ?_ | refine xds_cons ?_)))
local macro_rules | `(tactic| walk_at "1") => `(tactic| with_reducible ((show XB _ _ _); (first | refine xb_and' ?_ | refine xb_or' ?_ | refine xb_not ?_ | refine xb_val ?_ | refine xb_tru ?_ | refine xb_yes ?_)))
local macro_rules | `(tactic| walk_at "1") => `(tactic| with_reducible ((show XS _ _ _); (first | refine xs_seq' ?_ | refine xs_nil ?_ | refine xs_set' ?_ | refine xs_asg ?_ | refine xs_par2 ?_ | refine xs_drop ?_ | refine xs_ret' ?_ | refine xs_retN ?_ | refine xs_if' ?_ | refine xs_brk ?_ | refine xs_cont ?_ | refine xs_for' ?_ | (refine xs_setIx2 ?_) | (apply xs_augIx'L; (focus (walk_at "at"; done))) | (apply xs_aug'; (focus (walk_at "at"; done))) | refine xs_setDx ?_ | refine xs_par3 ?_)))
local macro_rules | `(tactic| walk_at "1") => `(tactic| with_reducible ((show XE _ _ _); (first | (apply xv; (focus (walk_at "at"; done))) | refine xe_c ?_ | refine xe_bin ?_ | refine xe_un ?_ | refine xe_if' ?_ | refine xe_B ?_ | refine xe_callB ?_ | refine xe_tup ?_ | refine xe_lst ?_ | refine xe_sl ?_ | (apply xe_mt'L; (focus (walk_at "at"; done))) | refine xe_lc' ?_ | (refine xe_call' ?_) | refine xe_o ?_ | refine xe_get2 ?_ | refine xe_get1 ?_ | refine xe_disp ?_ | refine xe_join ?_ | refine xe_lc2 ?_ | refine xe_sidx ?_)))
local macro_rules | `(tactic| walk_at "1") => `(tactic| with_reducible ((show XO _ _); (walk_at "op")))
local macro_rules | `(tactic| walk_at "at") => `(tactic| with_reducible first | ((repeat (apply At.s)); (exact At.z)) | ((repeat (apply Put.s)); (first | exact Put.n | exact Put.z | exact Put.f (by assumption))) | ((repeat (apply Chg.s)); (exact Chg.z)) | ((repeat (apply SetAt.s)); (exact SetAt.z)) | ((repeat (apply Slt.s)); (exact Slt.z)) | ((repeat (apply Fin'.s)); (exact Fin'.z)) | ((repeat (first | apply Ini.shr | apply Ini.n | apply Ini.ol | apply Ini.od)); (exact Ini.z)) | exact Wb.nil)
-- END MACRO
theorem pow39 {Q : O → Prop} (q : Q (.shr (.int 1000000000000000000000000000000000000000))) : XO (oPow (.shr (.int 10)) (.shr (.int 39))) Q := xo_pow (powK (by decide)) (by
  have : (10:Int) ^ (39:Int).toNat = 1000000000000000000000000000000000000000 := by decide +kernel
  rw [this]; exact q)
def nm3 (a b c : Int) (s : Str) : Int := if s = Str.ofString "x" then a else if s = Str.ofString "y" then b else c
theorem nm_ok {a b c : Int} (ha : Bd a) (hb : Bd b) (hc : Bd c) : NmOk (mergeD [] [(.inr (Str.ofString "x"), .int a), (.inr (Str.ofString "y"), .int b), (.inr (Str.ofString "@g"), .int c)]) (nm3 a b c) := by
  have xy : ¬ Str.ofString "x" = Str.ofString "y" := by decide +kernel
  have xg : ¬ Str.ofString "x" = Str.ofString "@g" := by decide +kernel
  have yg : ¬ Str.ofString "y" = Str.ofString "@g" := by decide +kernel
  have yx : ¬ Str.ofString "y" = Str.ofString "x" := by decide +kernel
  have gx : ¬ Str.ofString "@g" = Str.ofString "x" := by decide +kernel
  have gy : ¬ Str.ofString "@g" = Str.ofString "y" := by decide +kernel
  refine ⟨fun s hs => ?_⟩
  simp only [nms, List.mem_cons, List.mem_nil_iff, or_false] at hs
  rcases hs with rfl | rfl | rfl
  · refine ⟨?_, by simp only [nm3, if_true]; exact ha⟩
    simp [mergeD, putD, valD, nm3, xy, xg, yg]
  · refine ⟨?_, by simp only [nm3, if_neg yx, if_true]; exact hb⟩
    simp [mergeD, putD, valD, nm3, xy, xg, yg, yx]
  · refine ⟨?_, by simp only [nm3, if_neg gx, if_neg gy]; exact hc⟩
    simp [mergeD, putD, valD, nm3, xy, xg, yg, gx, gy]
inductive WK | push | get | neg | op (o : Op) | tell | rem
def WK.str : WK → Str
  | .push => "push" | .get => "get" | .neg => "neg" | .op o => o.nam | .tell => "tell" | .rem => "rem"
theorem ix15 {r : Int} (h0 : 0 ≤ r) (h1 : r < 15) {Q : O → Prop} (q : ∀ w : WK, Q (.shr (.str w.str))) : XO (oIx (.ol [.str (Str.ofString "push"), .str (Str.ofString "push"), .str (Str.ofString "push"), .str (Str.ofString "push"), .str (Str.ofString "get"), .str (Str.ofString "neg"), .str (Str.ofString "add"), .str (Str.ofString "sub"), .str (Str.ofString "mul"), .str (Str.ofString "div"), .str (Str.ofString "less"), .str (Str.ofString "same"), .str (Str.ofString "more"), .str (Str.ofString "tell"), .str (Str.ofString "rem")]) (.shr (.int r))) Q := by
  have : r = 0 ∨ r = 1 ∨ r = 2 ∨ r = 3 ∨ r = 4 ∨ r = 5 ∨ r = 6 ∨ r = 7 ∨ r = 8 ∨ r = 9 ∨ r = 10 ∨ r = 11 ∨ r = 12 ∨ r = 13 ∨ r = 14 := by omega
  rcases this with rfl | rfl | rfl | rfl | rfl | rfl | rfl | rfl | rfl | rfl | rfl | rfl | rfl | rfl | rfl
  · exact ixL (at_of (k := 0) rfl) (q .push)
  · exact ixL (at_of (k := 1) rfl) (q .push)
  · exact ixL (at_of (k := 2) rfl) (q .push)
  · exact ixL (at_of (k := 3) rfl) (q .push)
  · exact ixL (at_of (k := 4) rfl) (q .get)
  · exact ixL (at_of (k := 5) rfl) (q .neg)
  · exact ixL (at_of (k := 6) rfl) (q (.op .add))
  · exact ixL (at_of (k := 7) rfl) (q (.op .sub))
  · exact ixL (at_of (k := 8) rfl) (q (.op .mul))
  · exact ixL (at_of (k := 9) rfl) (q (.op .div))
  · exact ixL (at_of (k := 10) rfl) (q (.op .lt))
  · exact ixL (at_of (k := 11) rfl) (q (.op .eq))
  · exact ixL (at_of (k := 12) rfl) (q (.op .gt))
  · exact ixL (at_of (k := 13) rfl) (q .tell)
  · exact ixL (at_of (k := 14) rfl) (q .rem)
theorem worth_in {a b c : Int} {d : D} (ha : 0 ≤ a ∧ a < 5) (hb : 0 ≤ b ∧ b < 3) (hc : Bg c) (hd : d ∈ [D.int a, .int (10000000000000000000000000000000000000000 - 1 - b), .int 100000000000000000000, .int c]) : ∃ i, d = .int i ∧ Sm i := by
  simp only [List.mem_cons, List.mem_nil_iff, or_false] at hd
  rcases hd with rfl | rfl | rfl | rfl
  · exact ⟨_, rfl, by unfold Sm; omega⟩
  · exact ⟨_, rfl, by unfold Sm; omega⟩
  · exact ⟨_, rfl, by unfold Sm; omega⟩
  · exact ⟨_, rfl, hc.1⟩
theorem sm_sign {i r : Int} (h : Sm i) (h0 : 0 ≤ r) (h1 : r < 2) : Sm (i * (1 - 2 * r)) := by
  have : r = 0 ∨ r = 1 := by omega
  rcases this with rfl | rfl
  · have e : i * (1 - 2 * 0) = i := by omega
    rw [e]; exact h
  · have e : i * (1 - 2 * 1) = -i := by omega
    rw [e]; exact h.neg
def GdW (w : Wd) : Prop := w.sm ∧ PlW w
theorem gd {k : Kd} {i j : Int} (h1 : (Wd.mk k (.int i) (.int j)).sm) (h2 : sm k.arg = true) (h3 : dq k.arg = 0) : GdW ⟨k, .int i, .int j⟩ := ⟨h1, h2, by show dq k.arg ≤ 1; omega, ⟨rfl, by simp [dq]⟩, ⟨rfl, by simp [dq]⟩⟩
local macro_rules | `(tactic| walk_at "law") => `(tactic| repeat' (first | with_reducible refine pow39 ?_ | with_reducible refine pow40 ?_ | with_reducible refine pow20 ?_ | walk_at "1" | ((with_reducible refine lend_ok ?_ ?_); (focus rfl)) | ((with_reducible apply wbx); (focus (walk_at "wb"; done)); (focus rfl)) | walk_at "tf" | walk_at "isi" | with_reducible refine x_pick (by assumption) (by omega) (by omega) (fun _ _ _ _ _ => ?_) | with_reducible refine x_big (by assumption) (fun _ _ _ _ => ?_) | with_reducible refine ix15 (by omega) (by omega) (fun _ => ?_) | with_reducible refine tf_F (decide_eq_false (nam_no _).1) ?_ | with_reducible refine tf_F (decide_eq_false (nam_no _).2) ?_))
def JA (ns : List Int) (kvs : List (Key × D)) (k : Nat) (e : Sto) : Prop := ∃ (src : List D) (x3 : Option Slot), Src3 src ∧ Fre' x3 ∧ e = [some ⟨.shr (.scr ns), false, false⟩, some ⟨.ol src, false, false⟩, some ⟨.od kvs, false, false⟩, x3, none, none, none, none, none, none, none]
def JB (ns : List Int) (s1 : List D) (kvs : List (Key × D)) (k : Nat) (e : Sto) : Prop := ∃ (drawn : List D) (ws : List Wd) (x3 x6 x7 : Option Slot), Src3 drawn ∧ ws.length = k ∧ (∀ w ∈ ws, GdW w) ∧ Fre' x3 ∧ Fre' x6 ∧ Fre' x7 ∧ e = [some ⟨.shr (.scr ns), false, false⟩, some ⟨.ol s1, false, false⟩, some ⟨.od kvs, false, false⟩, x3, some ⟨.ol drawn, false, false⟩, some ⟨.ol (ws.map Wd.d), false, false⟩, x6, x7, none, none, none]
theorem jb_next {ns : List Int} {s1 : List D} {kvs : List (Key × D)} {k : Nat} {drawn : List D} {ws : List Wd} (hd : Src3 drawn) (hl : ws.length = k) (hw : ∀ w ∈ ws, GdW w) {w : Wd} (hg : GdW w) {a b c : O} {dd : D} (e : dd = w.d) : JB ns s1 kvs (k + 1) [some ⟨.shr (.scr ns), false, false⟩, some ⟨.ol s1, false, false⟩, some ⟨.od kvs, false, false⟩, some ⟨a, false, false⟩, some ⟨.ol drawn, false, false⟩, some ⟨.ol (ws.map Wd.d ++ [dd]), false, false⟩, some ⟨b, false, false⟩, some ⟨c, false, false⟩, none, none, none] := by
  refine ⟨drawn, ws ++ [w], _, _, _, hd, by simp [hl], ?_, .s, .s, .s, by rw [e, List.map_append]; rfl⟩
  intro x hx
  rcases List.mem_append.mp hx with hx | hx
  · exact hw x hx
  · rw [List.mem_singleton] at hx; subst hx; exact hg
theorem x_law (ns : List Int) (h63 : ns.length ≤ 63) {Q : Rs → List O → Prop} (q : Q (.o (.shr (.bl true))) [.shr (.scr ns)]) : XF F_law [.shr (.scr ns)] Q := by
  refine xf' rfl (by walk_at "at") ?_
  unfold f_law
  walk_at "law"
  refine x_source ns 0 h63 (by decide) fun src0 hs0 => ?_
  walk_at "law"
  rename_i r1 s1 hs1 a1 b1 r2 s2 hs2 a2 b2 r3 s3 hs3 a3 b3
  have hk := nm_ok (a := r1 - 4) (b := 1000000000000000000000000000000000000000 + r2) (c := r3) (by unfold Bd; omega) (by unfold Bd; omega) (by unfold Bd; omega)
  generalize mergeD [] [(.inr (Str.ofString "x"), D.int (r1 - 4)), (.inr (Str.ofString "y"), .int (1000000000000000000000000000000000000000 + r2)), (.inr (Str.ofString "@g"), .int r3)] = kvs at hk ⊢
  refine r1' (by decide) (by decide) ?_
  walk_at "law"
  refine xl_rng (JA ns kvs) ⟨s3, none, hs3, .n, rfl⟩ ?_ ?_
  · rintro e ⟨src, x3, hs, f3, rfl⟩
    walk_at "law"
    refine x_source ns 1 h63 (by decide) fun dr hdr => ?_
    walk_at "law"
    rename_i m d1 hd1 g0 g1
    refine r1' (by omega) (by omega) ?_
    walk_at "law"
    refine xl_rng (JB ns src kvs) ⟨d1, [], x3, none, none, hd1, rfl, (fun x hx => nomatch hx), f3, .n, .n, rfl⟩ ?_ ?_
    · rintro e ⟨dn, ws, x3, x6, x7, hdn, hl, hw, f3, f6, f7, rfl⟩
      have wsm : ∀ w ∈ ws, w.sm := fun w h => (hw w h).1
      have wpl : ∀ w ∈ ws, PlW w := fun w h => (hw w h).2
      have hnl : Nl (fold ws) := fold_nl ws [] trivial
      have ysm : ∀ x ∈ (fold ws).reverse, x.sm := fun x hx => fold_sm ws [] (fun x hx => nomatch hx) wsm x (List.mem_reverse.mp hx)
      have ypl : ∀ x ∈ (fold ws).reverse, PlW x := fun x hx => fold_pl ws [] (fun x hx => nomatch hx) wpl x (List.mem_reverse.mp hx)
      have hyl : (fold ws).length ≤ 0 + ws.length := fold_len ws []
      have hid := fold_id hnl
      have hw0 : 0 < (ws.map Wd.d).length := by simp; omega
      have hy1 : (dl (fold ws)).length ≤ 1000 := by rw [dl_len]; omega
      have fW : ∀ {Q' : Rs → List O → Prop}, Q' (.o (.ol (dl (fold ws)))) [.ol (ws.map Wd.d)] → XF F_fold_words [.ol (ws.map Wd.d)] Q' := fun q' => x_fold wsm (by omega) q'
      have mW : ∀ {Q' : Rs → List O → Prop}, Q' (.o (.ol (dl (fold ws)))) [.ol (ws.map Wd.d)] → XF F_m_fold [.ol (ws.map Wd.d)] Q' := fun q' => x_mfold wsm (by omega) q'
      have sY : ∀ {Q' : Rs → List O → Prop}, Q' (.o (.shr (.bl true))) [.ol (dl (fold ws)), .ol (dl (fold ws))] → XF (F_same 6) [.ol (dl (fold ws)), .ol (dl (fold ws))] Q' := fun q' => x_sameW (ws := (fold ws).reverse) ypl (by rw [List.length_reverse]; omega) q'
      have lY : ∀ {Q' : Rs → List O → Prop}, Q' (.o (.shr (.bl false))) [.ol (dl (fold ws))] → XF F_left [.ol (dl (fold ws))] Q' := fun q' => x_left (ws := (fold ws).reverse) (nl_f hnl) ysm (by rw [List.length_reverse]; omega) q'
      have fY : ∀ {Q' : Rs → List O → Prop}, Q' (.o (.ol (dl (fold ws)))) [.ol (dl (fold ws))] → XF F_fold_words [.ol (dl (fold ws))] Q' := fun q' => x_fold (ws := (fold ws).reverse) ysm (by rw [List.length_reverse]; omega) (by rw [hid]; exact q')
      have f0 : ∀ {Q' : Rs → List O → Prop}, Q' (.o (.ol [])) [.ol []] → XF F_fold_words [.ol []] Q' := fun q' => x_fold (ws := []) (fun x hx => nomatch hx) (by decide) q'
      have s0 : ∀ {Q' : Rs → List O → Prop}, Q' (.o (.shr (.bl true))) [.ol [], .ol []] → XF (F_same 6) [.ol [], .ol []] Q' := fun q' => x_sameL (k := 5) (ds := []) rfl (by simp [dqs]) (by decide) q'
      generalize dl (fold ws) = Y at fW mW sY lY fY hy1
      generalize ws.map Wd.d = W at fW mW hw0 ⊢
      walk_at "law"
      refine fW ?_
      walk_at "law"
      refine mW ?_
      walk_at "law"
      refine sY ?_
      walk_at "law"
      refine lY ?_
      walk_at "law"
      refine ixL (at_nat (k := 0) hw0) ?_
      walk_at "law"
      refine fW ?_
      walk_at "law"
      refine sY ?_
      walk_at "law"
      refine fY ?_
      walk_at "law"
      refine sY ?_
      walk_at "law"
      refine f0 ?_
      walk_at "law"
      refine s0 ?_
      walk_at "law"
      exact q
    · rintro k e hk5 ⟨dn, ws, x3, x6, x7, hdn, hl, hw, f3, f6, f7, rfl⟩
      have hl2 : (ws.map Wd.d).length ≤ 1000 := by simp; omega
      walk_at "law"
      rename_i wk p1 u1 hu1 i1 j1 p2 u2 hu2 i2 j2 p3 u3 hb3 hu3 p4 u4 hu4 i4 j4
      refine ixAll i4 (by show _ < (4 : Int); omega) fun d hd => ?_
      obtain ⟨i, rfl, hi⟩ := worth_in ⟨i1, j1⟩ ⟨i2, j2⟩ hb3 hd
      cases wk with
      | push =>
        simp only [WK.str]
        walk_at "law"
        refine jb_next ?_ hl hw (w := ⟨.push _, .int _, .int _⟩) ?_ rfl
        · assumption
        · exact gd (sm_sign hi (by assumption) (by assumption)) rfl (by simp [dq, Kd.arg])
      | get =>
        simp only [WK.str]
        walk_at "law"
        refine jb_next ?_ hl hw (w := ⟨.get _, .int _, .int _⟩) ?_ rfl
        · assumption
        · exact gd trivial rfl (by simp [dq, Kd.arg])
      | neg =>
        simp only [WK.str]
        walk_at "law"
        refine jb_next ?_ hl hw (w := ⟨.neg, .int _, .int _⟩) ?_ rfl
        · assumption
        · exact gd trivial rfl (by simp [dq, Kd.arg])
      | op o =>
        simp only [WK.str]
        walk_at "law"
        refine jb_next ?_ hl hw (w := ⟨.op o, .int _, .int _⟩) ?_ rfl
        · assumption
        · exact gd trivial rfl (by simp [dq, Kd.arg])
      | tell =>
        simp only [WK.str]
        walk_at "law"
        refine jb_next ?_ hl hw (w := ⟨.oth .tell .non, .int _, .int _⟩) ?_ rfl
        · assumption
        · exact gd trivial rfl (by simp [dq, Kd.arg])
      | rem =>
        simp only [WK.str]
        walk_at "law"
        refine jb_next ?_ hl hw (w := ⟨.oth .rem .non, .int _, .int _⟩) ?_ rfl
        · assumption
        · exact gd trivial rfl (by simp [dq, Kd.arg])
  · rintro k e hk3 ⟨src, x3, hs, f3, rfl⟩
    walk_at "law"
    rename_i r s5 hs5 c0 c1
    refine x_line hk hs5 c0 c1 fun s6 hs6 => ?_
    walk_at "law"
    exact ⟨_, _, hs6, .s, rfl⟩
end K50

set_option maxRecDepth 100000
set_option maxHeartbeats 4000000
namespace K50
open PV PySem L2 PySem.Spec PyProof.Rows
def spLaw (K : PySem.W.Frag) : Sp := fun vs H Q _ => ∃ (a : Addr) (ns : List Int), vs = [.ref a] ∧ SqL K H a (ns.map V.int) ∧ ns.length ≤ 63 ∧ ∀ H', Q (.bl true) H'
theorem law_runs (ns : List Int) (h : ns.length ≤ 63) : ∃ fin, F_law [.shr (.scr ns)] = some (.o (.shr (.bl true)), fin) := by
  obtain ⟨⟨r, fs⟩, e, q⟩ := x_law ns (Q := fun r _ => r = .o (.shr (.bl true))) h rfl
  cases q
  exact ⟨fs, e⟩
theorem sp_law {K : PySem.W.Frag} : ∀ vs H Q E, spLaw K vs H Q E → spV K F_law vs H Q E := by
  rintro vs H Q E ⟨a, ns, rfl, hS, hl, q⟩
  obtain ⟨fin, e⟩ := law_runs ns hl
  refine ⟨H, [.shr (.scr ns)], _, fin, fun _ _ h => h, .cons (show Dd K H _ _ from .scr hS) .nil, ?_, e, ?_⟩
  · intro j k o p a ho h
    match j, ho with
    | 0, ho => cases ho; cases h
    | j + 1, ho => cases ho
  · intro Hs' H' v _ _ _ hr
    obtain ⟨h1, _⟩ := hr
    cases (show Dd K Hs' (.bl true) v from h1)
    exact q H'
theorem all_mk {l : PySem.W.OpenLaw} {w : World} {K : PySem.W.Frag} {h : Heap} {mg : Str → Option Value} {fa f1 f2 f3 f4 f5 f6 f7 f8 f9 f10 f11 f12 f13 f14 f15 f16 f17 f18 f19 f20 f21 : Addr} (X : K.In h) (G : h.Ns mainGlobals mg) (hfa : mg "law" = some (.ref fa))
    {od1 an1 od2 an2 od3 an3 od4 an4 od5 an5 od6 an6 od7 an7 od8 an8 od9 an9 od10 an10 od11 an11 od12 an12 od13 an13 od14 an14 od15 an15 od16 an16 od17 an17 od18 an18 od19 an19 od20 an20 od21 an21 : Option Addr} {sl1 sl2 sl3 sl4 sl5 sl6 sl7 sl8 sl9 sl10 sl11 sl12 sl13 sl14 sl15 sl16 sl17 sl18 sl19 sl20 sl21 : Array (Option Value)} {oc1 kV1 dc1 pm1 cd1 ct1 oc2 kV2 dc2 pm2 cd2 ct2 oc3 kV3 dc3 pm3 cd3 ct3 oc4 kV4 dc4 pm4 cd4 ct4 oc5 kV5 dc5 pm5 cd5 ct5 oc6 kV6 dc6 pm6 cd6 ct6 oc7 kV7 dc7 pm7 cd7 ct7 oc8 kV8 dc8 pm8 cd8 ct8 oc9 kV9 dc9 pm9 cd9 ct9 oc10 kV10 dc10 pm10 cd10 ct10 oc11 kV11 dc11 pm11 cd11 ct11 oc12 kV12 dc12 pm12 cd12 ct12 oc13 kV13 dc13 pm13 cd13 ct13 oc14 kV14 dc14 pm14 cd14 ct14 oc15 kV15 dc15 pm15 cd15 ct15 oc16 kV16 dc16 pm16 cd16 ct16 oc17 kV17 dc17 pm17 cd17 ct17 oc18 kV18 dc18 pm18 cd18 ct18 oc19 kV19 dc19 pm19 cd19 ct19 oc20 kV20 dc20 pm20 cd20 ct20 oc21 kV21 dc21 pm21 cd21 ct21 : Value} {t2 : Tok} {dk5 : Addr} {es5 : Array DictEntry} {nn5 : Nat}
    (a1 : PySem.W.nsIn K mainGlobals "checked_number" = some (some (.ref f1))) (l1 : K.lookup f1 = some ⟨oc1, od1, .func (PySem.W.fnOf "checked_number" "checked_number" (defArgs tx_checked_number) (defBody tx_checked_number) (defScope tx_checked_number) .none kV1 dc1 pm1 an1 cd1 ct1), sl1⟩) (c1 : PySem.W.codeIn K cd1 "checked_number" = true) (k1 : PySem.W.keepIn K (.ref f1) = true)
    (a2 : PySem.W.nsIn K mainGlobals "apply_sign" = some (some (.ref f2))) (l2 : K.lookup f2 = some ⟨oc2, od2, .func (PySem.W.fnOf "apply_sign" "apply_sign" (defArgs tx_apply_sign) (defBody tx_apply_sign) (defScope tx_apply_sign) .none kV2 dc2 pm2 an2 cd2 ct2), sl2⟩) (c2 : PySem.W.codeIn K cd2 "apply_sign" = true) (k2 : PySem.W.keepIn K (.ref f2) = true)
    (a3 : PySem.W.nsIn K mainGlobals "is_pushed" = some (some (.ref f3))) (l3 : K.lookup f3 = some ⟨oc3, od3, .func (PySem.W.fnOf "is_pushed" "is_pushed" (defArgs tx_is_pushed) (defBody tx_is_pushed) (defScope tx_is_pushed) .none kV3 dc3 pm3 an3 cd3 ct3), sl3⟩) (c3 : PySem.W.codeIn K cd3 "is_pushed" = true) (k3 : PySem.W.keepIn K (.ref f3) = true)
    (a4 : PySem.W.nsIn K mainGlobals "fold_words" = some (some (.ref f4))) (l4 : K.lookup f4 = some ⟨oc4, od4, .func (PySem.W.fnOf "fold_words" "fold_words" (defArgs tx_fold_words) (defBody tx_fold_words) (defScope tx_fold_words) .none kV4 dc4 pm4 an4 cd4 ct4), sl4⟩) (c4 : PySem.W.codeIn K cd4 "fold_words" = true) (k4 : PySem.W.keepIn K (.ref f4) = true)
    (a5 : PySem.W.nsIn K mainGlobals "_law_source" = some (some (.ref f5))) (l5 : K.lookup f5 = some ⟨oc5, od5, .func (PySem.W.fnOf "_law_source" "_law_source" (defArgs tx_source) (defBody tx_source) (defScope tx_source) .none kV5 dc5 pm5 an5 cd5 ct5), sl5⟩) (c5 : PySem.W.codeIn K cd5 "_law_source" = true) (k5 : PySem.W.keepIn K (.ref f5) = true)
    (a6 : PySem.W.nsIn K mainGlobals "_law_pick" = some (some (.ref f6))) (l6 : K.lookup f6 = some ⟨oc6, od6, .func (PySem.W.fnOf "_law_pick" "_law_pick" (defArgs tx_pick) (defBody tx_pick) (defScope tx_pick) .none kV6 dc6 pm6 an6 cd6 ct6), sl6⟩) (c6 : PySem.W.codeIn K cd6 "_law_pick" = true) (k6 : PySem.W.keepIn K (.ref f6) = true)
    (a7 : PySem.W.nsIn K mainGlobals "_law_same" = some (some (.ref f7))) (l7 : K.lookup f7 = some ⟨oc7, od7, .func (PySem.W.fnOf "_law_same" "_law_same" (defArgs tx_same) (defBody tx_same) (defScope tx_same) .none kV7 dc7 pm7 an7 cd7 ct7), sl7⟩) (c7 : PySem.W.codeIn K cd7 "_law_same" = true) (k7 : PySem.W.keepIn K (.ref f7) = true)
    (a8 : PySem.W.nsIn K mainGlobals "_law_m_ops" = some (some (.ref f8))) (l8 : K.lookup f8 = some ⟨oc8, od8, .func (PySem.W.fnOf "_law_m_ops" "_law_m_ops" (defArgs tx_m_ops) (defBody tx_m_ops) (defScope tx_m_ops) .none kV8 dc8 pm8 an8 cd8 ct8), sl8⟩) (c8 : PySem.W.codeIn K cd8 "_law_m_ops" = true) (k8 : PySem.W.keepIn K (.ref f8) = true)
    (a9 : PySem.W.nsIn K mainGlobals "_law_m_words" = some (some (.ref f9))) (l9 : K.lookup f9 = some ⟨oc9, od9, .func (PySem.W.fnOf "_law_m_words" "_law_m_words" (defArgs tx_m_words) (defBody tx_m_words) (defScope tx_m_words) .none kV9 dc9 pm9 an9 cd9 ct9), sl9⟩) (c9 : PySem.W.codeIn K cd9 "_law_m_words" = true) (k9 : PySem.W.keepIn K (.ref f9) = true)
    (a10 : PySem.W.nsIn K mainGlobals "_law_m_work" = some (some (.ref f10))) (l10 : K.lookup f10 = some ⟨oc10, od10, .func (PySem.W.fnOf "_law_m_work" "_law_m_work" (defArgs tx_m_work) (defBody tx_m_work) (defScope tx_m_work) .none kV10 dc10 pm10 an10 cd10 ct10), sl10⟩) (c10 : PySem.W.codeIn K cd10 "_law_m_work" = true) (k10 : PySem.W.keepIn K (.ref f10) = true)
    (a11 : PySem.W.nsIn K mainGlobals "_law_m_fold" = some (some (.ref f11))) (l11 : K.lookup f11 = some ⟨oc11, od11, .func (PySem.W.fnOf "_law_m_fold" "_law_m_fold" (defArgs tx_m_fold) (defBody tx_m_fold) (defScope tx_m_fold) .none kV11 dc11 pm11 an11 cd11 ct11), sl11⟩) (c11 : PySem.W.codeIn K cd11 "_law_m_fold" = true) (k11 : PySem.W.keepIn K (.ref f11) = true)
    (a12 : PySem.W.nsIn K mainGlobals "_law_big" = some (some (.ref f12))) (l12 : K.lookup f12 = some ⟨oc12, od12, .func (PySem.W.fnOf "_law_big" "_law_big" (defArgs tx_big) (defBody tx_big) (defScope tx_big) .none kV12 dc12 pm12 an12 cd12 ct12), sl12⟩) (c12 : PySem.W.codeIn K cd12 "_law_big" = true) (k12 : PySem.W.keepIn K (.ref f12) = true)
    (a13 : PySem.W.nsIn K mainGlobals "_law_spelled" = some (some (.ref f13))) (l13 : K.lookup f13 = some ⟨oc13, od13, .func (PySem.W.fnOf "_law_spelled" "_law_spelled" (defArgs tx_spelled) (defBody tx_spelled) (defScope tx_spelled) .none kV13 dc13 pm13 an13 cd13 ct13), sl13⟩) (c13 : PySem.W.codeIn K cd13 "_law_spelled" = true) (k13 : PySem.W.keepIn K (.ref f13) = true)
    (a14 : PySem.W.nsIn K mainGlobals "_law_tokened" = some (some (.ref f14))) (l14 : K.lookup f14 = some ⟨oc14, od14, .func (PySem.W.fnOf "_law_tokened" "_law_tokened" (defArgs tx_tokened) (defBody tx_tokened) (defScope tx_tokened) .none kV14 dc14 pm14 an14 cd14 ct14), sl14⟩) (c14 : PySem.W.codeIn K cd14 "_law_tokened" = true) (k14 : PySem.W.keepIn K (.ref f14) = true)
    (a15 : PySem.W.nsIn K mainGlobals "_law_spread" = some (some (.ref f15))) (l15 : K.lookup f15 = some ⟨oc15, od15, .func (PySem.W.fnOf "_law_spread" "_law_spread" (defArgs tx_spread) (defBody tx_spread) (defScope tx_spread) .none kV15 dc15 pm15 an15 cd15 ct15), sl15⟩) (c15 : PySem.W.codeIn K cd15 "_law_spread" = true) (k15 : PySem.W.keepIn K (.ref f15) = true)
    (a16 : PySem.W.nsIn K mainGlobals "_law_rich" = some (some (.ref f16))) (l16 : K.lookup f16 = some ⟨oc16, od16, .func (PySem.W.fnOf "_law_rich" "_law_rich" (defArgs tx_rich) (defBody tx_rich) (defScope tx_rich) .none kV16 dc16 pm16 an16 cd16 ct16), sl16⟩) (c16 : PySem.W.codeIn K cd16 "_law_rich" = true) (k16 : PySem.W.keepIn K (.ref f16) = true)
    (a17 : PySem.W.nsIn K mainGlobals "_law_worths" = some (some (.ref f17))) (l17 : K.lookup f17 = some ⟨oc17, od17, .func (PySem.W.fnOf "_law_worths" "_law_worths" (defArgs tx_worths) (defBody tx_worths) (defScope tx_worths) .none kV17 dc17 pm17 an17 cd17 ct17), sl17⟩) (c17 : PySem.W.codeIn K cd17 "_law_worths" = true) (k17 : PySem.W.keepIn K (.ref f17) = true)
    (a18 : PySem.W.nsIn K mainGlobals "_law_left" = some (some (.ref f18))) (l18 : K.lookup f18 = some ⟨oc18, od18, .func (PySem.W.fnOf "_law_left" "_law_left" (defArgs tx_left) (defBody tx_left) (defScope tx_left) .none kV18 dc18 pm18 an18 cd18 ct18), sl18⟩) (c18 : PySem.W.codeIn K cd18 "_law_left" = true) (k18 : PySem.W.keepIn K (.ref f18) = true)
    (a19 : PySem.W.nsIn K mainGlobals "_law_tree_fold" = some (some (.ref f19))) (l19 : K.lookup f19 = some ⟨oc19, od19, .func (PySem.W.fnOf "_law_tree_fold" "_law_tree_fold" (defArgs tx_tree_fold) (defBody tx_tree_fold) (defScope tx_tree_fold) .none kV19 dc19 pm19 an19 cd19 ct19), sl19⟩) (c19 : PySem.W.codeIn K cd19 "_law_tree_fold" = true) (k19 : PySem.W.keepIn K (.ref f19) = true)
    (a20 : PySem.W.nsIn K mainGlobals "_law_line_right" = some (some (.ref f20))) (l20 : K.lookup f20 = some ⟨oc20, od20, .func (PySem.W.fnOf "_law_line_right" "_law_line_right" (defArgs tx_line_right) (defBody tx_line_right) (defScope tx_line_right) .none kV20 dc20 pm20 an20 cd20 ct20), sl20⟩) (c20 : PySem.W.codeIn K cd20 "_law_line_right" = true) (k20 : PySem.W.keepIn K (.ref f20) = true)
    (a21 : PySem.W.nsIn K mainGlobals "law" = some (some (.ref f21))) (l21 : K.lookup f21 = some ⟨oc21, od21, .func (PySem.W.fnOf "law" "law" (defArgs tx_law) (defBody tx_law) (defScope tx_law) .none kV21 dc21 pm21 an21 cd21 ct21), sl21⟩) (c21 : PySem.W.codeIn K cd21 "law" = true) (k21 : PySem.W.keepIn K (.ref f21) = true)
    (z1 : PySem.W.nsIn K mainGlobals "abs" = some none)
    (z2 : PySem.W.nsIn K mainGlobals "GREAT" = some (some (.int (10000000000000000000000000000000000000000) t2)))
    (z3 : PySem.W.nsIn K mainGlobals "len" = some none)
    (z4 : PySem.W.nsIn K mainGlobals "all" = some none)
    (z5 : PySem.W.nsIn K mainGlobals "OP_SIGNS" = some (some (.ref dk5))) (ld5 : K.lookup dk5 = some ⟨.type "dict", none, .dict es5 nn5, #[]⟩) (li5 : PySem.W.KeysLit w.params es5.toList) (lo5 : (dk5 == sysModules) = false) (to5 : TabOk es5.toList T_OP_SIGNS)
    (z6 : PySem.W.nsIn K mainGlobals "int" = some none)
    (z7 : PySem.W.nsIn K mainGlobals "sum" = some none)
    (z8 : PySem.W.nsIn K mainGlobals "bool" = some none)
    (z9 : PySem.W.nsIn K mainGlobals "isinstance" = some none)
    (z10 : PySem.W.nsIn K mainGlobals "str" = some none)
    (z11 : PySem.W.nsIn K mainGlobals "dict" = some none)
    (z12 : PySem.W.nsIn K mainGlobals "tuple" = some none)
    (z13 : PySem.W.nsIn K mainGlobals "list" = some none)
    (z14 : PySem.W.nsIn K mainGlobals "range" = some none)
    (z15 : PySem.W.nsIn K mainGlobals "max" = some none) :
    ∃ fd : FuncData, (∀ (s : Shared) (v : Value), BindsTo s fd ⟨[v], []⟩ [("script", v)]) ∧ ∀ base : Heap, K.In base → base.Ns mainGlobals mg → FnOk l.prog w K mg base CX0 11 fa fd ["script"] (spLaw K) := by
  have e := hfa.symm.trans (PySem.W.mg_of X G a21)
  cases e
  have g : Gb mg K w := ⟨PySem.W.mg_none_of X G z1, ⟨_, PySem.W.mg_of X G z2⟩, PySem.W.mg_none_of X G z3, PySem.W.mg_none_of X G z4, ⟨⟨_, PySem.W.mg_of X G z5, ⟨⟨_, _, ⟨ld5, li5, lo5⟩, to5⟩⟩⟩⟩, PySem.W.mg_none_of X G z6, PySem.W.mg_none_of X G z7, PySem.W.mg_none_of X G z8, PySem.W.mg_none_of X G z9, PySem.W.mg_none_of X G z10, PySem.W.mg_none_of X G z11, PySem.W.mg_none_of X G z12, PySem.W.mg_none_of X G z13, PySem.W.mg_none_of X G z14, PySem.W.mg_none_of X G z15⟩
  have F1 := fun_mk (st := tx_checked_number) l1 c1 k1
  have F2 := fun_mk (st := tx_apply_sign) l2 c2 k2
  have F3 := fun_mk (st := tx_is_pushed) l3 c3 k3
  have F4 := fun_mk (st := tx_fold_words) l4 c4 k4
  have F5 := fun_mk (st := tx_source) l5 c5 k5
  have F6 := fun_mk (st := tx_pick) l6 c6 k6
  have F7 := fun_mk (st := tx_same) l7 c7 k7
  have F8 := fun_mk (st := tx_m_ops) l8 c8 k8
  have F9 := fun_mk (st := tx_m_words) l9 c9 k9
  have F10 := fun_mk (st := tx_m_work) l10 c10 k10
  have F11 := fun_mk (st := tx_m_fold) l11 c11 k11
  have F12 := fun_mk (st := tx_big) l12 c12 k12
  have F13 := fun_mk (st := tx_spelled) l13 c13 k13
  have F14 := fun_mk (st := tx_tokened) l14 c14 k14
  have F15 := fun_mk (st := tx_spread) l15 c15 k15
  have F16 := fun_mk (st := tx_rich) l16 c16 k16
  have F17 := fun_mk (st := tx_worths) l17 c17 k17
  have F18 := fun_mk (st := tx_left) l18 c18 k18
  have F19 := fun_mk (st := tx_tree_fold) l19 c19 k19
  have F20 := fun_mk (st := tx_line_right) l20 c20 k20
  have F21 := fun_mk (st := tx_law) l21 c21 k21
  refine ⟨PySem.W.fnOf "law" "law" (defArgs tx_law) (defBody tx_law) (defScope tx_law) .none kV21 dc21 pm21 an21 cd21 ct21, fun s v => .of_eq rfl, fun base _ _ => ?_⟩
  have d_checked_number := df_checked_number (P := l.prog) (w := w) (base := base) g F1 (PySem.W.mg_of X G a1) 
  have d_apply_sign := df_apply_sign (P := l.prog) (w := w) (base := base) g F2 (PySem.W.mg_of X G a2) d_checked_number
  have d_is_pushed := df_is_pushed (P := l.prog) (w := w) (base := base) g F3 (PySem.W.mg_of X G a3) 
  have d_fold_words := df_fold_words (P := l.prog) (w := w) (base := base) g F4 (PySem.W.mg_of X G a4) d_is_pushed d_checked_number d_apply_sign
  have d_source := df_source (P := l.prog) (w := w) (base := base) g F5 (PySem.W.mg_of X G a5) 
  have d_pick := df_pick (P := l.prog) (w := w) (base := base) g F6 (PySem.W.mg_of X G a6) 
  have d_same := df_same (P := l.prog) (w := w) (base := base) g F7 (PySem.W.mg_of X G a7)  6
  have d_m_ops := df_m_ops (P := l.prog) (w := w) (base := base) g F8 (PySem.W.mg_of X G a8)  6
  have d_m_words := df_m_words (P := l.prog) (w := w) (base := base) g F9 (PySem.W.mg_of X G a9) d_m_ops
  have d_m_work := df_m_work (P := l.prog) (w := w) (base := base) g F10 (PySem.W.mg_of X G a10) 
  have d_m_fold := df_m_fold (P := l.prog) (w := w) (base := base) g F11 (PySem.W.mg_of X G a11) d_m_work
  have d_big := df_big (P := l.prog) (w := w) (base := base) g F12 (PySem.W.mg_of X G a12) d_pick
  have d_spelled := df_spelled (P := l.prog) (w := w) (base := base) g F13 (PySem.W.mg_of X G a13) d_pick 6
  have d_tokened := df_tokened (P := l.prog) (w := w) (base := base) g F14 (PySem.W.mg_of X G a14) d_spelled
  have d_spread := df_spread (P := l.prog) (w := w) (base := base) g F15 (PySem.W.mg_of X G a15) d_tokened d_pick d_big
  have d_rich := df_rich (P := l.prog) (w := w) (base := base) g F16 (PySem.W.mg_of X G a16) d_pick d_big 6
  have d_worths := df_worths (P := l.prog) (w := w) (base := base) g F17 (PySem.W.mg_of X G a17) d_m_work
  have d_left := df_left (P := l.prog) (w := w) (base := base) g F18 (PySem.W.mg_of X G a18) d_m_work
  have d_tree_fold := df_tree_fold (P := l.prog) (w := w) (base := base) g F19 (PySem.W.mg_of X G a19) d_m_work 6
  have d_line_right := df_line_right (P := l.prog) (w := w) (base := base) g F20 (PySem.W.mg_of X G a20) d_pick d_rich d_spread d_m_words d_tree_fold d_fold_words d_same d_left d_worths
  exact (ok_law (P := l.prog) (w := w) (base := base) g F21 d_source d_pick d_line_right d_big d_fold_words d_m_fold d_same d_left).imp sp_law
theorem walk {l : PySem.W.OpenLaw} {q : Program} {loose : List Str} {XP : (Str → Option Value) → Heap → Prop} {YP : World → Heap → Prop} {d : DefRec} {K : Params → PySem.W.Frag} (hn : l.most = some 63) (hdf : d.params.defaults = [])
    (hY : ∀ (w : World) (h : Heap), YP w h → (K w.params).In h)
    (F : ∀ (w : World) (mg : Str → Option Value) (fa : Addr) (h : Heap), (K w.params).In h → h.Ns mainGlobals mg → mg d.name = some (.ref fa) →
      ∃ fd : FuncData, (∀ (s : Shared) (u : Value), BindsTo s fd ⟨[u], []⟩ [("script", u)]) ∧ ∀ base : Heap, (K w.params).In base → base.Ns mainGlobals mg → FnOk l.prog w (K w.params) mg base CX0 11 fa fd ["script"] (spLaw (K w.params))) :
    PySem.W.WalkO q loose XP YP l.row.toRowW d [] (fun f vs => PySem.call f vs) :=
  L2.walk_of (n := 63) (k := 11) (x := "script") (CX := fun _ => CX0) (sp := fun w => spLaw (K w.params)) hn (by decide) hdf ⟨rfl, by decide, by decide⟩ hY F (fun _ _ a ns hl _ hS => ⟨a, ns, rfl, hS, hl, fun _ => rfl⟩) fun _ _ _ _ _ z => z
end K50
open PySem PySem.W PyProof.Rows
set_option maxRecDepth 100000 in
set_option maxHeartbeats 0 in
theorem PySem.Challenge.cw_knewbetter_k50_folding_of_words_holds : PySem.Challenge.rw_knewbetter_k50_folding_of_words.Holds := by
  w_on; o_law; k_head; (case hw => w_witness2)
  k_fill
  refine K50.walk (l := PySem.Challenge.rw_knewbetter_k50_folding_of_words) rfl rfl (fun w h Y => PySem.W.kIn_of Y) ?F
  case F =>
    intro w mg fa h KX G hmg
    refine' K50.all_mk KX G hmg ?a1 ?l1 ?c1 ?k1 ?a2 ?l2 ?c2 ?k2 ?a3 ?l3 ?c3 ?k3 ?a4 ?l4 ?c4 ?k4 ?a5 ?l5 ?c5 ?k5 ?a6 ?l6 ?c6 ?k6 ?a7 ?l7 ?c7 ?k7 ?a8 ?l8 ?c8 ?k8 ?a9 ?l9 ?c9 ?k9 ?a10 ?l10 ?c10 ?k10 ?a11 ?l11 ?c11 ?k11 ?a12 ?l12 ?c12 ?k12 ?a13 ?l13 ?c13 ?k13 ?a14 ?l14 ?c14 ?k14 ?a15 ?l15 ?c15 ?k15 ?a16 ?l16 ?c16 ?k16 ?a17 ?l17 ?c17 ?k17 ?a18 ?l18 ?c18 ?k18 ?a19 ?l19 ?c19 ?k19 ?a20 ?l20 ?c20 ?k20 ?a21 ?l21 ?c21 ?k21 ?z1 ?z2 ?z3 ?z4 ?z5 ?ld5 ?li5 ?lo5 ?to5 ?z6 ?z7 ?z8 ?z9 ?z10 ?z11 ?z12 ?z13 ?z14 ?z15
    (case a1 => k_is); (case l1 => k_is); (case c1 => k_is); (case k1 => k_is)
    (case a2 => k_is); (case l2 => k_is); (case c2 => k_is); (case k2 => k_is)
    (case a3 => k_is); (case l3 => k_is); (case c3 => k_is); (case k3 => k_is)
    (case a4 => k_is); (case l4 => k_is); (case c4 => k_is); (case k4 => k_is)
    (case a5 => k_is); (case l5 => k_is); (case c5 => k_is); (case k5 => k_is)
    (case a6 => k_is); (case l6 => k_is); (case c6 => k_is); (case k6 => k_is)
    (case a7 => k_is); (case l7 => k_is); (case c7 => k_is); (case k7 => k_is)
    (case a8 => k_is); (case l8 => k_is); (case c8 => k_is); (case k8 => k_is)
    (case a9 => k_is); (case l9 => k_is); (case c9 => k_is); (case k9 => k_is)
    (case a10 => k_is); (case l10 => k_is); (case c10 => k_is); (case k10 => k_is)
    (case a11 => k_is); (case l11 => k_is); (case c11 => k_is); (case k11 => k_is)
    (case a12 => k_is); (case l12 => k_is); (case c12 => k_is); (case k12 => k_is)
    (case a13 => k_is); (case l13 => k_is); (case c13 => k_is); (case k13 => k_is)
    (case a14 => k_is); (case l14 => k_is); (case c14 => k_is); (case k14 => k_is)
    (case a15 => k_is); (case l15 => k_is); (case c15 => k_is); (case k15 => k_is)
    (case a16 => k_is); (case l16 => k_is); (case c16 => k_is); (case k16 => k_is)
    (case a17 => k_is); (case l17 => k_is); (case c17 => k_is); (case k17 => k_is)
    (case a18 => k_is); (case l18 => k_is); (case c18 => k_is); (case k18 => k_is)
    (case a19 => k_is); (case l19 => k_is); (case c19 => k_is); (case k19 => k_is)
    (case a20 => k_is); (case l20 => k_is); (case c20 => k_is); (case k20 => k_is)
    (case a21 => k_is); (case l21 => k_is); (case c21 => k_is); (case k21 => k_is)
    (case z1 => k_is); (case z2 => k_is); (case z3 => k_is); (case z4 => k_is); (case z5 => k_is); (case ld5 => k_is); (case li5 => (repeat (first | exact True.intro | refine And.intro ⟨_, _, rfl, rfl⟩ ?_))); (case lo5 => rfl); (case to5 => (repeat (first | exact True.intro | refine And.intro ⟨_, rfl⟩ (And.intro ⟨_, rfl⟩ ?_)))); (case z6 => k_is); (case z7 => k_is); (case z8 => k_is); (case z9 => k_is); (case z10 => k_is); (case z11 => k_is); (case z12 => k_is); (case z13 => k_is); (case z14 => k_is); (case z15 => k_is)
