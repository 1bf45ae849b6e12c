import PyProof.Rows.All
import Wide.All
import OpenK.AllK
import Wide.FinOn
import HandS.ForMost
import HandS.Wide
import HandS.IsInst
import HandS.Conv
import HandS.Flow
import HandS.Dict
import HandS.DictComp
import HandS.Text
import HandS.Style
import HandS.Replace
import HandS.More
import HandS.RaiseMore
import HandS.List
import HandS.Zip
import HandS.Iter
import HandS.Comp
import HandS.Codes
import PySem.Challenge.RW_knewbetter_k39_columns_meet_the_words
set_option Elab.async false
set_option linter.all false
set_option maxRecDepth 100000
set_option maxRecDepth 100000
set_option maxHeartbeats 2000000
/-! PV: what a def computes, told over plain data. D: data. O: what a slot holds (shared data, or a list | dict of the def's own that may still change). -/
namespace PV
open PySem L2

inductive D where
  | non | bl (b : Bool) | int (i : Int) | str (x : Str) | tup (ds : List D) | lst (ds : List D) | dk (kvs : List (Key × D)) | scr (ns : List Int) | opq (v : V)
  deriving Inhabited
inductive O where
  | shr (d : D) | ol (ds : List D) | od (kvs : List (Key × D))
  deriving Inhabited
def O.own : O → Bool
  | .shr _ => false
  | _ => true
def O.toD : O → D
  | .shr d => d
  | .ol ds => .lst ds
  | .od kvs => .dk kvs

mutual
inductive Dd (K : PySem.W.Frag) (H : Hp) : D → V → Prop
  | non : Dd K H .non .non
  | bl (b : Bool) : Dd K H (.bl b) (.bl b)
  | int (i : Int) : Dd K H (.int i) (.int i)
  | str (x : Str) : Dd K H (.str x) (.str x)
  | tup {a : Addr} {xs : List V} {ds : List D} : H a = some (.tup xs) → DdAll K H ds xs → Dd K H (.tup ds) (.ref a)
  | lst {a : Addr} {xs : List V} {ds : List D} : H a = some (.lst xs) → DdAll K H ds xs → Dd K H (.lst ds) (.ref a)
  | dk {a : Addr} {es : List (Key × V)} {kvs : List (Key × D)} : H a = some (.dK es) → DdKv K H kvs es → Dd K H (.dk kvs) (.ref a)
  | scr {a : Addr} {ns : List Int} : SqL K H a (ns.map V.int) → Dd K H (.scr ns) (.ref a)
  | opq (v : V) : Dd K H (.opq v) v
inductive DdAll (K : PySem.W.Frag) (H : Hp) : List D → List V → Prop
  | nil : DdAll K H [] []
  | cons {d : D} {v : V} {ds : List D} {vs : List V} : Dd K H d v → DdAll K H ds vs → DdAll K H (d :: ds) (v :: vs)
inductive DdKv (K : PySem.W.Frag) (H : Hp) : List (Key × D) → List (Key × V) → Prop
  | nil : DdKv K H [] []
  | cons {k : Key} {d : D} {v : V} {ds : List (Key × D)} {vs : List (Key × V)} : Dd K H d v → DdKv K H ds vs → DdKv K H ((k, d) :: ds) ((k, v) :: vs)
end

theorem rd_mono {H H' : Hp} (h : ∀ a o, H a = some o → H' a = some o) {a : Addr} {u : HO} : Rd H a u → Rd H' a u := by
  rintro (e | ⟨o, e⟩)
  · exact .inl (h _ _ e)
  · exact .inr ⟨o, h _ _ e⟩
theorem sq_mono {K : PySem.W.Frag} {H H' : Hp} (h : ∀ a o, H a = some o → H' a = some o) {a : Addr} {u : List V} : SqL K H a u → SqL K H' a u := by
  rintro (e | e)
  · exact .inl (rd_mono h e)
  · exact .inr e
section
variable {K : PySem.W.Frag} {H H' : Hp}
mutual
theorem Dd.mono (h : ∀ a o, H a = some o → H' a = some o) : ∀ {d : D} {v : V}, Dd K H d v → Dd K H' d v
  | _, _, .non => .non
  | _, _, .bl b => .bl b
  | _, _, .int b => .int b
  | _, _, .str b => .str b
  | _, _, .tup e q => .tup (h _ _ e) (DdAll.mono h q)
  | _, _, .lst e q => .lst (h _ _ e) (DdAll.mono h q)
  | _, _, .dk e q => .dk (h _ _ e) (DdKv.mono h q)
  | _, _, .scr e => .scr (sq_mono h e)
  | _, _, .opq v => .opq v
theorem DdAll.mono (h : ∀ a o, H a = some o → H' a = some o) : ∀ {d : List D} {v : List V}, DdAll K H d v → DdAll K H' d v
  | _, _, .nil => .nil
  | _, _, .cons a b => .cons (Dd.mono h a) (DdAll.mono h b)
theorem DdKv.mono (h : ∀ a o, H a = some o → H' a = some o) : ∀ {d : List (Key × D)} {v : List (Key × V)}, DdKv K H d v → DdKv K H' d v
  | _, _, .nil => .nil
  | _, _, .cons a b => .cons (Dd.mono h a) (DdKv.mono h b)
end
theorem DdAll.length : ∀ {ds : List D} {vs : List V}, DdAll K H ds vs → vs.length = ds.length
  | _, _, .nil => rfl
  | _, _, .cons _ t => by simp [DdAll.length t]
theorem DdAll.get : ∀ {ds : List D} {vs : List V} {i : Nat} {d : D}, DdAll K H ds vs → ds[i]? = some d → ∃ v, vs[i]? = some v ∧ Dd K H d v
  | _, _, _, _, .nil, e => by simp at e
  | _, _, 0, _, .cons r _, e => by simp at e; subst e; exact ⟨_, rfl, r⟩
  | _, _, i + 1, x, .cons _ t, e => by
    obtain ⟨u, h1, h2⟩ := DdAll.get (i := i) (d := x) t (by simpa using e)
    exact ⟨u, by simpa using h1, h2⟩
theorem DdAll.getV : ∀ {ds : List D} {vs : List V} {i : Nat} {v : V}, DdAll K H ds vs → vs[i]? = some v → ∃ d, ds[i]? = some d ∧ Dd K H d v
  | _, _, _, _, .nil, e => by simp at e
  | _, _, 0, _, .cons r _, e => by simp at e; subst e; exact ⟨_, rfl, r⟩
  | _, _, i + 1, x, .cons _ t, e => by
    obtain ⟨u, h1, h2⟩ := DdAll.getV (i := i) (v := x) t (by simpa using e)
    exact ⟨u, by simpa using h1, h2⟩
theorem DdAll.append : ∀ {xs ys : List D} {us ws : List V}, DdAll K H xs us → DdAll K H ys ws → DdAll K H (xs ++ ys) (us ++ ws)
  | _, _, _, _, .nil, s => s
  | _, _, _, _, .cons r t, s => .cons r (DdAll.append t s)
theorem DdAll.take : ∀ {xs : List D} {us : List V} (n : Nat), DdAll K H xs us → DdAll K H (xs.take n) (us.take n)
  | _, _, 0, _ => .nil
  | _, _, _ + 1, .nil => .nil
  | _, _, n + 1, .cons r t => .cons r (DdAll.take n t)
theorem DdAll.drop : ∀ {xs : List D} {us : List V} (n : Nat), DdAll K H xs us → DdAll K H (xs.drop n) (us.drop n)
  | _, _, 0, r => r
  | _, _, _ + 1, .nil => .nil
  | _, _, n + 1, .cons _ t => DdAll.drop n t
theorem DdAll.set {d : D} {v : V} (r : Dd K H d v) : ∀ {xs : List D} {us : List V} (i : Nat), DdAll K H xs us → DdAll K H (xs.set i d) (us.set i v)
  | _, _, _, .nil => .nil
  | _, _, 0, .cons _ t => .cons r t
  | _, _, i + 1, .cons q t => .cons q (DdAll.set r i t)
theorem DdAll.reverse {xs : List D} {us : List V} (h : DdAll K H xs us) : DdAll K H xs.reverse us.reverse := by
  induction xs generalizing us with
  | nil => cases h; exact .nil
  | cons x r ih =>
    cases h with
    | cons a b =>
      rw [List.reverse_cons, List.reverse_cons]
      exact (ih b).append (.cons a .nil)
theorem DdAll.ints : ∀ (ns : List Int), DdAll K H (ns.map D.int) (ns.map V.int)
  | [] => .nil
  | n :: r => .cons (.int n) (DdAll.ints r)
theorem DdAll.of_ints : ∀ {ns : List Int} {vs : List V}, DdAll K H (ns.map D.int) vs → vs = ns.map V.int
  | [], _, .nil => rfl
  | n :: r, _, .cons a b => by
    cases a
    rw [DdAll.of_ints b]
    rfl
theorem DdKv.length : ∀ {ds : List (Key × D)} {vs : List (Key × V)}, DdKv K H ds vs → vs.length = ds.length
  | _, _, .nil => rfl
  | _, _, .cons _ t => by simp [DdKv.length t]
end

/-- a slot: what it holds; pin: a parameter whose object the caller still holds; lk: a loop walks it -/
structure Slot where
  o : O
  pin : Bool := false
  lk : Bool := false
  deriving Inhabited
abbrev Sto := List (Option Slot)
inductive Hnd where
  | var (i : Nat) | tmp (o : O)
  deriving Inhabited

def ROk (K : PySem.W.Frag) (Hs H : Hp) (v : V) : O → Prop
  | .shr d => Dd K Hs d v
  | .ol ds => ∃ a xs, v = .ref a ∧ Hs a = none ∧ H a = some (.lst xs) ∧ DdAll K Hs ds xs
  | .od kvs => ∃ a es, v = .ref a ∧ Hs a = none ∧ H a = some (.dK es) ∧ DdKv K Hs kvs es

def owns (env : Sto) (i : Nat) : Prop := ∃ s : Slot, env[i]? = some (some s) ∧ s.o.own = true
def muts (env : Sto) (i : Nat) : Prop := ∃ s : Slot, env[i]? = some (some s) ∧ s.o.own = true ∧ s.lk = false
theorem muts.owns {env : Sto} {i : Nat} (h : muts env i) : owns env i := let ⟨s, a, b, _⟩ := h; ⟨s, a, b⟩
abbrev Mu := Addr → Prop
def Mof (σ : L2.St) (env : Sto) : Mu := fun a => ∃ i, muts env i ∧ σ[i]? = some (some (.ref a))

structure Ext (M : Mu) (Hs H Hs' H' : Hp) : Prop where
  hs : ∀ a o, Hs a = some o → Hs' a = some o
  kp : ∀ a o, H a = some o → ¬ M a → H' a = some o
  out : ∀ a o, H a = some o → Hs a = none → ¬ M a → Hs' a = none
  dom : ∀ a o, H a = some o → ∃ o', H' a = some o'
theorem Ext.refl {M : Mu} {Hs H : Hp} : Ext M Hs H Hs H := ⟨fun _ _ h => h, fun _ _ h _ => h, fun _ _ _ h _ => h, fun _ o h => ⟨o, h⟩⟩
theorem Ext.trans {M M1 : Mu} {Hs H Hs1 H1 Hs2 H2 : Hp} (a : Ext M Hs H Hs1 H1) (b : Ext M1 Hs1 H1 Hs2 H2) (m : ∀ x, M1 x → M x ∨ H x = none) : Ext M Hs H Hs2 H2 where
  hs := fun x o h => b.hs x o (a.hs x o h)
  kp := fun x o h n => b.kp x o (a.kp x o h n) fun q => (m x q).elim n fun z => by rw [z] at h; cases h
  out := fun x o h k n => b.out x o (a.kp x o h n) (a.out x o h k n) fun q => (m x q).elim n fun z => by rw [z] at h; cases h
  dom := fun x o h => let ⟨o', e⟩ := a.dom x o h; b.dom x o' e
theorem Ext.weak {M M' : Mu} {Hs H Hs' H' : Hp} (a : Ext M Hs H Hs' H') (m : ∀ x, M x → M' x) : Ext M' Hs H Hs' H' :=
  ⟨a.hs, fun x o h n => a.kp x o h fun z => n (m x z), fun x o h k n => a.out x o h k fun z => n (m x z), a.dom⟩
theorem Ext.new {M : Mu} {Hs H Hs' H' : Hp} (a : Ext M Hs H Hs' H') {x : Addr} (h : H' x = none) : H x = none := by
  cases e : H x with
  | none => rfl
  | some o =>
    obtain ⟨o', e'⟩ := a.dom x o e
    rw [h] at e'
    cases e'

structure R (K : PySem.W.Frag) (Hs H : Hp) (σ : L2.St) (env : Sto) : Prop where
  len : env.length = σ.length
  sub : ∀ a o, Hs a = some o → H a = some o
  ok : ∀ (i : Nat) (s : Slot), env[i]? = some (some s) → ∃ v, σ[i]? = some (some v) ∧ ROk K Hs H v s.o
  inj : ∀ (i j : Nat) (v : V), owns env i → owns env j → σ[i]? = some (some v) → σ[j]? = some (some v) → i = j

theorem ROk.ref {K : PySem.W.Frag} {Hs H : Hp} {v : V} {o : O} (h : ROk K Hs H v o) (w : o.own = true) : ∃ a u, v = .ref a ∧ Hs a = none ∧ H a = some u := by
  cases o with
  | shr d => cases w
  | ol ds => obtain ⟨a, xs, e, n, q, _⟩ := h; exact ⟨a, _, e, n, q⟩
  | od kvs => obtain ⟨a, xs, e, n, q, _⟩ := h; exact ⟨a, _, e, n, q⟩
/-- what stands, stands: shared data; a list of one's own that is not changed -/
theorem ROk.step {K : PySem.W.Frag} {M : Mu} {Hs H Hs' H' : Hp} {v : V} {o : O} (h : ROk K Hs H v o) (e : Ext M Hs H Hs' H') (n : o.own = true → ∀ a, v = .ref a → ¬ M a) : ROk K Hs' H' v o := by
  cases o with
  | shr d => exact Dd.mono e.hs h
  | ol ds =>
    obtain ⟨a, xs, rfl, k, q, t⟩ := h
    exact ⟨a, xs, rfl, e.out _ _ q k (n rfl a rfl), e.kp _ _ q (n rfl a rfl), t.mono e.hs⟩
  | od ds =>
    obtain ⟨a, xs, rfl, k, q, t⟩ := h
    exact ⟨a, xs, rfl, e.out _ _ q k (n rfl a rfl), e.kp _ _ q (n rfl a rfl), t.mono e.hs⟩

/-- what a piece of code leaves -/
structure Po (K : PySem.W.Frag) (Hs H : Hp) (σ : L2.St) (env : Sto) (Hs' H' : Hp) (σ' : L2.St) (env' : Sto) : Prop where
  r : R K Hs' H' σ' env'
  ext : Ext (Mof σ env) Hs H Hs' H'
  own : ∀ (i : Nat) (a : Addr), owns env' i → σ'[i]? = some (some (.ref a)) → (owns env i ∧ σ[i]? = some (some (.ref a)) ∧ (muts env' i → muts env i)) ∨ H a = none
  pin : ∀ (i : Nat) (s : Slot), env[i]? = some (some s) → s.pin = true → σ'[i]? = σ[i]? ∧ ∃ s' : Slot, env'[i]? = some (some s') ∧ s'.pin = true ∧ s'.lk = s.lk
  lk : ∀ (i : Nat) (s : Slot), env[i]? = some (some s) → s.lk = true → env'[i]? = some (some s) ∧ σ'[i]? = σ[i]?
  np : ∀ (i : Nat) (s' : Slot), env'[i]? = some (some s') → s'.pin = true → ∃ s : Slot, env[i]? = some (some s) ∧ s.pin = true
section
variable {K : PySem.W.Frag} {Hs H Hs' H' Hs1 H1 Hs2 H2 : Hp} {σ σ' σ1 σ2 : L2.St} {env env' env1 env2 : Sto}
theorem Po.refl (r : R K Hs H σ env) : Po K Hs H σ env Hs H σ env :=
  ⟨r, Ext.refl, fun i a o e => .inl ⟨o, e, fun m => m⟩, fun i s e p => ⟨rfl, s, e, p, rfl⟩, fun i s e l => ⟨e, rfl⟩, fun i s e p => ⟨s, e, p⟩⟩
theorem Po.mu (p : Po K Hs H σ env Hs1 H1 σ1 env1) : ∀ x, Mof σ1 env1 x → Mof σ env x ∨ H x = none := fun x ⟨i, m, e⟩ => by
  rcases p.own i x m.owns e with ⟨_, e', m'⟩ | n
  · exact .inl ⟨i, m' m, e'⟩
  · exact .inr n
theorem Po.trans (p : Po K Hs H σ env Hs1 H1 σ1 env1) (q : Po K Hs1 H1 σ1 env1 Hs2 H2 σ2 env2) : Po K Hs H σ env Hs2 H2 σ2 env2 where
  r := q.r
  ext := p.ext.trans q.ext p.mu
  own := fun i a o e => by
    rcases q.own i a o e with ⟨o1, e1, m1⟩ | n
    · rcases p.own i a o1 e1 with ⟨o2, e2, m2⟩ | n
      · exact .inl ⟨o2, e2, fun m => m2 (m1 m)⟩
      · exact .inr n
    · exact .inr (p.ext.new n)
  pin := fun i s e k => by
    obtain ⟨e1, s1, h1, k1, l1⟩ := p.pin i s e k
    obtain ⟨e2, s2, h2, k2, l2⟩ := q.pin i s1 h1 k1
    exact ⟨e2.trans e1, s2, h2, k2, l2.trans l1⟩
  lk := fun i s e k => by
    obtain ⟨e1, h1⟩ := p.lk i s e k
    obtain ⟨e2, h2⟩ := q.lk i s e1 k
    exact ⟨e2, h2.trans h1⟩
  np := fun i s e k => by
    obtain ⟨s1, e1, k1⟩ := q.np i s e k
    exact p.np i s1 e1 k1
theorem bot_not {M : Mu} {x : Addr} : ¬ (fun _ => False : Mu) x := fun z => z
/-- nothing that stood is changed -/
theorem R.keep (r : R K Hs H σ env) (e : Ext (fun _ => False) Hs H Hs' H') (sb : ∀ a o, Hs' a = some o → H' a = some o) : R K Hs' H' σ env :=
  ⟨r.len, sb, fun i s h => let ⟨v, a, b⟩ := r.ok i s h; ⟨v, a, b.step e fun _ _ _ z => z⟩, r.inj⟩
theorem Po.keep (r : R K Hs H σ env) (e : Ext (fun _ => False) Hs H Hs' H') (sb : ∀ a o, Hs' a = some o → H' a = some o) : Po K Hs H σ env Hs' H' σ env :=
  ⟨r.keep e sb, e.weak fun _ z => z.elim, fun i a o e => .inl ⟨o, e, fun m => m⟩, fun i s e p => ⟨rfl, s, e, p, rfl⟩, fun i s e l => ⟨e, rfl⟩, fun i s e p => ⟨s, e, p⟩⟩
/-- an owned slot's object is there -/
theorem R.there (r : R K Hs H σ env) {i : Nat} {a : Addr} (o : owns env i) (e : σ[i]? = some (some (.ref a))) : Hs a = none ∧ ∃ u, H a = some u := by
  obtain ⟨s, h, w⟩ := o
  obtain ⟨v, e', q⟩ := r.ok i s h
  rw [e] at e'
  cases e'
  obtain ⟨b, u, eb, n, h⟩ := q.ref w
  cases eb
  exact ⟨n, u, h⟩
end

/-! ### handles -/
def hGet (env : Sto) : Hnd → Option O
  | .var i => match env[i]? with
    | some (some s) => some s.o
    | _ => none
  | .tmp o => some o
/-- the value as shared data (a list of one's own is shared from here on) -/
def hTake (env : Sto) : Hnd → Option (D × Sto)
  | .tmp o => some (o.toD, env)
  | .var i => match env[i]? with
    | some (some s) => match s.o with
      | .shr d => some (d, env)
      | o => if s.lk then none else some (o.toD, env.set i (some { s with o := .shr o.toD }))
    | _ => none
def HOk (K : PySem.W.Frag) (Hs H : Hp) (σ : L2.St) (env : Sto) (v : V) : Hnd → Prop
  | .var i => σ[i]? = some (some v)
  | .tmp o => ROk K Hs H v o ∧ (o.own = true → ∀ (i : Nat), owns env i → σ[i]? ≠ some (some v))
/-- fresh as seen from H -/
def Fre (H : Hp) (v : V) (o : O) : Prop := o.own = true → ∀ a, v = .ref a → H a = none
def HFr (H : Hp) (v : V) : Hnd → Prop
  | .var _ => True
  | .tmp o => Fre H v o
section
variable {K : PySem.W.Frag} {Hs H Hs' H' Hs1 H1 Hs2 H2 : Hp} {σ σ' σ1 σ2 : L2.St} {env env' env1 env2 : Sto} {v : V} {h : Hnd} {o : O}
theorem hGet_var {i : Nat} (g : hGet env (.var i) = some o) : ∃ s : Slot, env[i]? = some (some s) ∧ s.o = o := by
  dsimp only [hGet] at g
  cases e : env[i]? with
  | none => rw [e] at g; cases g
  | some x =>
    cases x with
    | none => rw [e] at g; cases g
    | some s => rw [e] at g; exact ⟨s, rfl, Option.some.inj g⟩
theorem HOk.get (r : R K Hs H σ env) (k : HOk K Hs H σ env v h) (g : hGet env h = some o) : ROk K Hs H v o := by
  cases h with
  | tmp o' => cases g; exact k.1
  | var i =>
    obtain ⟨s, e, rfl⟩ := hGet_var g
    obtain ⟨u, e', q⟩ := r.ok i _ e
    have : σ[i]? = some (some v) := k
    rw [this] at e'
    cases e'
    exact q
theorem HOk.step (k : HOk K Hs H σ env v h) (p : Po K Hs H σ env Hs' H' σ env') : HOk K Hs' H' σ env' v h := by
  cases h with
  | var i => exact k
  | tmp o =>
    obtain ⟨k1, k2⟩ := k
    refine ⟨k1.step p.ext fun w a e ⟨i, m, ei⟩ => k2 w i m.owns (e ▸ ei), fun w i oi e => ?_⟩
    obtain ⟨a, u, ea, n, h⟩ := k1.ref w
    subst ea
    rcases p.own i a oi e with ⟨o2, e2, _⟩ | n'
    · exact k2 w i o2 e2
    · rw [n'] at h; cases h
theorem Fre.back {M : Mu} {Hs Hs' : Hp} (f : Fre H' v o) (e : Ext M Hs H Hs' H') : Fre H v o := fun w a q => e.new (f w a q)
theorem HFr.back {M : Mu} {Hs Hs' : Hp} (f : HFr H' v h) (e : Ext M Hs H Hs' H') : HFr H v h := by
  cases h with
  | var i => exact True.intro
  | tmp o => exact Fre.back f e
/-- a value that is new is none of the slots' -/
theorem HOk.new (r : R K Hs H σ env) (q : ROk K Hs' H' v o) (f : Fre H v o) : o.own = true → ∀ (i : Nat), owns env i → σ[i]? ≠ some (some v) := fun w i oi e => by
  obtain ⟨a, u, ea, n, _⟩ := q.ref w
  subst ea
  obtain ⟨_, u', hu⟩ := r.there oi e
  rw [f w a rfl] at hu
  cases hu
end

/-! ### sharing what was one's own -/
section
variable {K : PySem.W.Frag} {Hs H Hs' H' : Hp} {σ : L2.St} {env env' : Sto} {v : V} {h : Hnd} {o : O} {d : D}
/-- the object at a is shared from here on -/
theorem share {o : O} (q : ROk K Hs H v o) (w : o.own = true) (sb : ∀ a u, Hs a = some u → H a = some u) :
    ∃ a Hs', v = .ref a ∧ Hs a = none ∧ (∀ b, b ≠ a → Hs' b = Hs b) ∧ (∀ b u, Hs b = some u → Hs' b = some u) ∧ (∀ b u, Hs' b = some u → H b = some u) ∧ Dd K Hs' o.toD v := by
  cases o with
  | shr d => cases w
  | ol ds =>
    obtain ⟨a, xs, rfl, k, e, t⟩ := q
    have up : ∀ b u, Hs b = some u → upd Hs a (.lst xs) b = some u := fun b u hb => by rw [upd_ne (ne_of_none hb k)]; exact hb
    refine ⟨a, upd Hs a (.lst xs), rfl, k, fun b n => upd_ne n, up, fun b u hb => ?_, .lst upd_same (t.mono up)⟩
    by_cases z : b = a
    · subst z; rw [upd_same] at hb; cases hb; exact e
    · rw [upd_ne z] at hb; exact sb b u hb
  | od kvs =>
    obtain ⟨a, xs, rfl, k, e, t⟩ := q
    have up : ∀ b u, Hs b = some u → upd Hs a (.dK xs) b = some u := fun b u hb => by rw [upd_ne (ne_of_none hb k)]; exact hb
    refine ⟨a, upd Hs a (.dK xs), rfl, k, fun b n => upd_ne n, up, fun b u hb => ?_, .dk upd_same (t.mono up)⟩
    by_cases z : b = a
    · subst z; rw [upd_same] at hb; cases hb; exact e
    · rw [upd_ne z] at hb; exact sb b u hb
/-- behind sharing: all else as it was -/
theorem R.shared (r : R K Hs H σ env) {a : Addr} (k : Hs a = none) (n : ∀ b, b ≠ a → Hs' b = Hs b) (up : ∀ b u, Hs b = some u → Hs' b = some u) (sb : ∀ b u, Hs' b = some u → H b = some u)
    (le : env'.length = env.length) (ok : ∀ (i : Nat) (s : Slot), env'[i]? = some (some s) → (env[i]? = some (some s) ∧ (s.o.own = true → σ[i]? ≠ some (some (.ref a)))) ∨ ∃ v, σ[i]? = some (some v) ∧ s.o.own = false ∧ ROk K Hs' H v s.o) : R K Hs' H σ env' := by
  have ow : ∀ i, owns env' i → owns env i := fun i ⟨s, e, w⟩ => by
    rcases ok i s e with ⟨q, _⟩ | ⟨_, _, q, _⟩
    · exact ⟨s, q, w⟩
    · rw [q] at w; cases w
  refine ⟨le.trans r.len, sb, fun i s e => ?_, fun i j v h1 h2 => r.inj i j v (ow i h1) (ow j h2)⟩
  rcases ok i s e with ⟨q, ne⟩ | ⟨v, q, _, z⟩
  · obtain ⟨v, ev, rv⟩ := r.ok i s q
    refine ⟨v, ev, ?_⟩
    cases ho : s.o with
    | shr d => rw [ho] at rv; exact Dd.mono up rv
    | ol ds =>
      rw [ho] at rv ne
      obtain ⟨b, xs, rfl, kb, eb, t⟩ := rv
      exact ⟨b, xs, rfl, (n b fun z => ne rfl (z ▸ ev)).trans kb, eb, t.mono up⟩
    | od ds =>
      rw [ho] at rv ne
      obtain ⟨b, xs, rfl, kb, eb, t⟩ := rv
      exact ⟨b, xs, rfl, (n b fun z => ne rfl (z ▸ ev)).trans kb, eb, t.mono up⟩
  · exact ⟨v, q, z⟩
/-- a handle's value taken as shared data; H0: the heap as the expression began -/
theorem take_ok {H0 : Hp} (r : R K Hs H σ env) (k : HOk K Hs H σ env v h) (f : HFr H0 v h) (g : hTake env h = some (d, env')) :
    ∃ Hs', R K Hs' H σ env' ∧ Dd K Hs' d v ∧ Ext (fun a => Mof σ env a ∨ H0 a = none) Hs H Hs' H ∧
      (∀ i a, owns env' i → σ[i]? = some (some (.ref a)) → owns env i ∧ (muts env' i → muts env i)) ∧ (∀ (i : Nat) (s : Slot), env[i]? = some (some s) → s.pin = true → ∃ s' : Slot, env'[i]? = some (some s') ∧ s'.pin = true ∧ s'.lk = s.lk) ∧ (∀ (i : Nat) (s : Slot), env[i]? = some (some s) → s.lk = true → env'[i]? = some (some s)) ∧ (∀ (i : Nat) (s' : Slot), env'[i]? = some (some s') → s'.pin = true → ∃ s : Slot, env[i]? = some (some s) ∧ s.pin = true) := by
  have ident : Ext (fun a => Mof σ env a ∨ H0 a = none) Hs H Hs H := Ext.refl
  cases h with
  | tmp o =>
    obtain ⟨rfl, rfl⟩ := Prod.mk.inj (Option.some.inj g)
    obtain ⟨k1, k2⟩ := k
    cases w : o.own with
    | false =>
      cases o with
      | shr d => exact ⟨Hs, r, k1, ident, fun i a o _ => ⟨o, id⟩, fun i s e p => ⟨s, e, p, rfl⟩, fun i s e _ => e, fun i s e p => ⟨s, e, p⟩⟩
      | ol ds => cases w
      | od ds => cases w
    | true =>
      obtain ⟨a, Hs', rfl, kn, n, up, sb, dd⟩ := share k1 w r.sub
      refine ⟨Hs', r.shared kn n up sb rfl fun i s e => .inl ⟨e, fun ow => k2 w i ⟨s, e, ow⟩⟩, dd, ⟨up, fun _ _ e _ => e, fun b u e hb nm => ?_, fun b u e => ⟨u, e⟩⟩, fun i a o _ => ⟨o, id⟩, fun i s e p => ⟨s, e, p, rfl⟩, fun i s e _ => e, fun i s e p => ⟨s, e, p⟩⟩
      by_cases z : b = a
      · subst z; exact absurd (.inr (f w b rfl)) nm
      · rw [n b z]; exact hb
  | var i =>
    have ev : σ[i]? = some (some v) := k
    dsimp only [hTake] at g
    cases e : env[i]? with
    | none => rw [e] at g; cases g
    | some x =>
      cases x with
      | none => rw [e] at g; cases g
      | some s =>
        rw [e] at g
        obtain ⟨v', ev', q⟩ := r.ok i s e
        rw [ev] at ev'
        cases ev'
        obtain ⟨so, sp, sl⟩ := s
        have own_case : so.own = true → (if sl = true then none else some (so.toD, env.set i (some { o := .shr so.toD, pin := sp, lk := sl }))) = some (d, env') → ∃ Hs', R K Hs' H σ env' ∧ Dd K Hs' d v ∧ Ext (fun a => Mof σ env a ∨ H0 a = none) Hs H Hs' H ∧
            (∀ i a, owns env' i → σ[i]? = some (some (.ref a)) → owns env i ∧ (muts env' i → muts env i)) ∧ (∀ (i : Nat) (s : Slot), env[i]? = some (some s) → s.pin = true → ∃ s' : Slot, env'[i]? = some (some s') ∧ s'.pin = true ∧ s'.lk = s.lk) ∧ (∀ (i : Nat) (s : Slot), env[i]? = some (some s) → s.lk = true → env'[i]? = some (some s)) ∧ (∀ (i : Nat) (s' : Slot), env'[i]? = some (some s') → s'.pin = true → ∃ s : Slot, env[i]? = some (some s) ∧ s.pin = true) := by
          intro w g
          cases sl with
          | true => cases g
          | false =>
            obtain ⟨rfl, rfl⟩ := Prod.mk.inj (Option.some.inj g)
            have hi : i < env.length := (List.getElem?_eq_some_iff.mp e).1
            obtain ⟨a, Hs', rfl, kn, n, up, sb, dd⟩ := share q w r.sub
            have at_ : ∀ (j : Nat) (s : Slot), (env.set i (some { o := .shr so.toD, pin := sp, lk := false }))[j]? = some (some s) → (j = i ∧ s = { o := .shr so.toD, pin := sp, lk := false }) ∨ (j ≠ i ∧ env[j]? = some (some s)) := fun j s ej => by
              by_cases z : i = j
              · subst z
                rw [List.getElem?_set_self hi] at ej
                exact .inl ⟨rfl, (Option.some.inj (Option.some.inj ej)).symm⟩
              · rw [List.getElem?_set_ne z] at ej
                exact .inr ⟨fun w => z w.symm, ej⟩
            refine ⟨Hs', r.shared kn n up sb (by simp) fun j s ej => ?_, dd, ⟨up, fun _ _ e _ => e, fun b u eb hb nm => ?_, fun b u e => ⟨u, e⟩⟩, fun j b ⟨s, ej, ow⟩ _ => ?_, fun j s ej p => ?_, fun j s ej l => ?_, fun j s ej p => ?_⟩
            · rcases at_ j s ej with ⟨rfl, rfl⟩ | ⟨ne, ej⟩
              · exact .inr ⟨_, ev, rfl, dd⟩
              · exact .inl ⟨ej, fun ow z => ne (r.inj j i _ ⟨s, ej, ow⟩ ⟨_, e, w⟩ z ev)⟩
            · by_cases z : b = a
              · subst z; exact absurd (.inl ⟨i, ⟨_, e, w, rfl⟩, ev⟩) nm
              · rw [n b z]; exact hb
            · rcases at_ j s ej with ⟨rfl, rfl⟩ | ⟨ne, ej⟩
              · cases ow
              · refine ⟨⟨s, ej, ow⟩, fun ⟨s', e', w', l'⟩ => ?_⟩
                rcases at_ j s' e' with ⟨rfl, _⟩ | ⟨_, e'⟩
                · exact absurd rfl ne
                · exact ⟨s', e', w', l'⟩
            · by_cases z : i = j
              · subst z
                rw [e] at ej
                cases ej
                exact ⟨_, List.getElem?_set_self hi, p, rfl⟩
              · exact ⟨s, by rw [List.getElem?_set_ne z]; exact ej, p, rfl⟩
            · have z : i ≠ j := fun z => by
                subst z
                rw [e] at ej
                cases ej
                cases l
              rw [List.getElem?_set_ne z]
              exact ej
            · rcases at_ j s ej with ⟨rfl, rfl⟩ | ⟨ne, ej⟩
              · exact ⟨_, e, p⟩
              · exact ⟨s, ej, p⟩
        cases so with
        | shr d' =>
          obtain ⟨rfl, rfl⟩ := Prod.mk.inj (Option.some.inj g)
          exact ⟨Hs, r, q, ident, fun i a o _ => ⟨o, id⟩, fun i s e p => ⟨s, e, p, rfl⟩, fun i s e _ => e, fun i s e p => ⟨s, e, p⟩⟩
        | ol ds => exact own_case rfl g
        | od ds => exact own_case rfl g
end
end PV

set_option maxRecDepth 100000
set_option maxHeartbeats 2000000
namespace PV
open PySem L2
abbrev EF := Sto → Option (Hnd × Sto)
abbrev DF := Sto → Option (D × Sto)
abbrev DsF := Sto → Option (List D × Sto)
abbrev HsF := Sto → Option (List Hnd × Sto)
abbrev BF := Sto → Option (Bool × Sto)

def SatE (K : PySem.W.Frag) (t : TE) (f : EF) : Prop := ∀ Hs H σ env h env', R K Hs H σ env → f env = some (h, env') →
  ∀ Q : VK, (∀ Hs' H' v, Po K Hs H σ env Hs' H' σ env' → HOk K Hs' H' σ env' v h → HFr H v h → Q v H') → t σ H Q
def SatD (K : PySem.W.Frag) (t : TE) (f : DF) : Prop := ∀ Hs H σ env d env', R K Hs H σ env → f env = some (d, env') →
  ∀ Q : VK, (∀ Hs' H' v, Po K Hs H σ env Hs' H' σ env' → Dd K Hs' d v → Q v H') → t σ H Q
def SatDs (K : PySem.W.Frag) (t : TA) (f : DsF) : Prop := ∀ Hs H σ env ds env', R K Hs H σ env → f env = some (ds, env') →
  ∀ Q : List V → Hp → Prop, (∀ Hs' H' vs, Po K Hs H σ env Hs' H' σ env' → DdAll K Hs' ds vs → Q vs H') → t σ H Q
def SatT (K : PySem.W.Frag) (t : TT) (f : BF) : Prop := ∀ Hs H σ env b env', R K Hs H σ env → f env = some (b, env') →
  ∀ Q : Bool → Hp → Prop, (∀ Hs' H', Po K Hs H σ env Hs' H' σ env' → Q b H') → t σ H Q
/-- handles in a row: no two new objects of one address -/
inductive HOks (K : PySem.W.Frag) (Hs H : Hp) (σ : L2.St) (env : Sto) : List V → List Hnd → Prop
  | nil : HOks K Hs H σ env [] []
  | cons {v : V} {h : Hnd} {vs : List V} {hs : List Hnd} : HOk K Hs H σ env v h → (∀ o, h = .tmp o → o.own = true → ∀ (j : Nat) o', hs[j]? = some (.tmp o') → o'.own = true → vs[j]? ≠ some v) → HOks K Hs H σ env vs hs → HOks K Hs H σ env (v :: vs) (h :: hs)
inductive HFrs (H : Hp) : List V → List Hnd → Prop
  | nil : HFrs H [] []
  | cons {v : V} {h : Hnd} {vs : List V} {hs : List Hnd} : HFr H v h → HFrs H vs hs → HFrs H (v :: vs) (h :: hs)
def SatHs (K : PySem.W.Frag) (t : TA) (f : HsF) : Prop := ∀ Hs H σ env hs env', R K Hs H σ env → f env = some (hs, env') →
  ∀ Q : List V → Hp → Prop, (∀ Hs' H' vs, Po K Hs H σ env Hs' H' σ env' → HOks K Hs' H' σ env' vs hs → HFrs H vs hs → Q vs H') → t σ H Q

/-! ### the pieces that only compute -/
def vVar (i : Nat) : EF := fun env => match env[i]? with
  | some (some _) => some (.var i, env)
  | _ => none
def vC (d : D) : EF := fun env => some (.tmp (.shr d), env)
def vO (o : O) : EF := fun env => some (.tmp o, env)
def vTake (f : EF) : DF := fun env => (f env).bind fun p => hTake p.2 p.1
def vRet (f : DF) : EF := fun env => (f env).bind fun p => some (.tmp (.shr p.1), p.2)
def vBin (op : O → O → Option O) (fa fb : EF) : EF := fun env => (fa env).bind fun p => (fb p.2).bind fun q => (hGet q.2 p.1).bind fun x => (hGet q.2 q.1).bind fun y => (op x y).bind fun o => some (.tmp o, q.2)
def vUn (op : O → Option O) (fa : EF) : EF := fun env => (fa env).bind fun p => (hGet p.2 p.1).bind fun x => (op x).bind fun o => some (.tmp o, p.2)
def vNilD : DsF := fun env => some ([], env)
def vConsD (f : DF) (r : DsF) : DsF := fun env => (f env).bind fun p => (r p.2).bind fun q => some (p.1 :: q.1, q.2)
def vNilH : HsF := fun env => some ([], env)
def vConsH (f : EF) (r : HsF) : HsF := fun env => (f env).bind fun p => (r p.2).bind fun q => some (p.1 :: q.1, q.2)
def vTup (f : DsF) : EF := fun env => (f env).bind fun p => if p.1.length ≤ 100000 then some (.tmp (.shr (.tup p.1)), p.2) else none
def vLst (f : DsF) : EF := fun env => (f env).bind fun p => if p.1.length ≤ 100000 then some (.tmp (.ol p.1), p.2) else none
def vIf (c : BF) (fa fb : EF) : EF := fun env => (c env).bind fun p => if p.1 then fa p.2 else fb p.2
def bAnd (a b : BF) : BF := fun env => (a env).bind fun p => if p.1 then b p.2 else some (false, p.2)
def bOr (a b : BF) : BF := fun env => (a env).bind fun p => if p.1 then some (true, p.2) else b p.2
def bNot (a : BF) : BF := fun env => (a env).bind fun p => some (!p.1, p.2)
def asB : O → Option Bool
  | .shr (.bl b) => some b
  | _ => none
/-- an expression that gives True or False, as a test -/
def bVal (f : EF) : BF := fun env => (f env).bind fun p => (hGet p.2 p.1).bind fun o => (asB o).bind fun b => some (b, p.2)
/-- a test as a value -/
def vB (b : BF) : EF := fun env => (b env).bind fun p => some (.tmp (.shr (.bl p.1)), p.2)
def hGets (env : Sto) : List Hnd → Option (List O)
  | [] => some []
  | h :: r => (hGet env h).bind fun o => (hGets env r).bind fun os => some (o :: os)
def vCallB (op : List O → Option O) (f : HsF) : EF := fun env => (f env).bind fun p => (hGets p.2 p.1).bind fun os => (op os).bind fun o => some (.tmp o, p.2)

/-- what an operation on values gives -/
def Res (K : PySem.W.Frag) (Hs H : Hp) (o : O) (Q : VK) : Prop := ∀ Hs' H' v, Ext (fun _ => False) Hs H Hs' H' → (∀ a u, Hs' a = some u → H' a = some u) → ROk K Hs' H' v o → Fre H v o → Q v H'
theorem Res.val {K : PySem.W.Frag} {Hs H : Hp} {d : D} {v : V} {Q : VK} (q : Res K Hs H (.shr d) Q) (sb : ∀ a u, Hs a = some u → H a = some u) (h : Dd K Hs d v) : Q v H :=
  q Hs H v Ext.refl sb h fun w => nomatch w
theorem ext_new {Hs H : Hp} {p : Addr} {o : HO} (n : H p = none) (sb : ∀ a u, Hs a = some u → H a = some u) : Ext (fun _ => False) Hs H Hs (upd H p o) :=
  ⟨fun _ _ h => h, fun a u h _ => by rw [upd_ne (ne_of_none h n)]; exact h, fun _ _ _ h _ => h, fun a u h => ⟨u, by rw [upd_ne (ne_of_none h n)]; exact h⟩⟩
theorem ext_newS {Hs H : Hp} {p : Addr} {o : HO} (n : H p = none) (sb : ∀ a u, Hs a = some u → H a = some u) : Ext (fun _ => False) Hs H (upd Hs p o) (upd H p o) := by
  have ns : Hs p = none := by
    cases e : Hs p with
    | none => rfl
    | some u => rw [sb _ _ e] at n; cases n
  exact ⟨fun a u h => by rw [upd_ne (ne_of_none h ns)]; exact h, fun a u h _ => by rw [upd_ne (ne_of_none h n)]; exact h, fun a u h k _ => by rw [upd_ne (ne_of_none h n)]; exact k, fun a u h => ⟨u, by rw [upd_ne (ne_of_none h n)]; exact h⟩⟩
theorem sub_new {Hs H : Hp} {p : Addr} {o : HO} (n : H p = none) (sb : ∀ a u, Hs a = some u → H a = some u) : ∀ a u, Hs a = some u → upd H p o a = some u := fun a u h => by
  rw [upd_ne (ne_of_none (sb _ _ h) n)]; exact sb _ _ h
theorem sub_newS {Hs H : Hp} {p : Addr} {o : HO} (sb : ∀ a u, Hs a = some u → H a = some u) : ∀ a u, upd Hs p o a = some u → upd H p o a = some u := fun a u h => by
  by_cases z : a = p
  · subst z; rw [upd_same] at h ⊢; exact h
  · rw [upd_ne z] at h ⊢; exact sb _ _ h
theorem none_s {Hs H : Hp} {p : Addr} (n : H p = none) (sb : ∀ a u, Hs a = some u → H a = some u) : Hs p = none := by
  cases e : Hs p with
  | none => rfl
  | some u => rw [sb _ _ e] at n; cases n
/-- a new list, a new tuple -/
theorem Res.lst {K : PySem.W.Frag} {Hs H : Hp} {ds : List D} {xs : List V} {Q : VK} (q : Res K Hs H (.ol ds) Q) (sb : ∀ a u, Hs a = some u → H a = some u) (h : DdAll K Hs ds xs) : ∀ p, H p = none → Q (.ref p) (upd H p (.lst xs)) := fun p n =>
  q Hs (upd H p (.lst xs)) (.ref p) (ext_new n sb) (sub_new n sb) ⟨p, xs, rfl, none_s n sb, upd_same, h⟩ fun _ a e => by cases e; exact n
theorem Res.tup {K : PySem.W.Frag} {Hs H : Hp} {ds : List D} {xs : List V} {Q : VK} (q : Res K Hs H (.shr (.tup ds)) Q) (sb : ∀ a u, Hs a = some u → H a = some u) (h : DdAll K Hs ds xs) : ∀ p, H p = none → Q (.ref p) (upd H p (.tup xs)) := fun p n =>
  q (upd Hs p (.tup xs)) (upd H p (.tup xs)) (.ref p) (ext_newS n sb) (sub_newS sb) (.tup upd_same (h.mono (ext_newS n sb).hs)) fun w => nomatch w
theorem Res.dic {K : PySem.W.Frag} {Hs H : Hp} {kvs : List (Key × D)} {xs : List (Key × V)} {Q : VK} (q : Res K Hs H (.od kvs) Q) (sb : ∀ a u, Hs a = some u → H a = some u) (h : DdKv K Hs kvs xs) : ∀ p, H p = none → Q (.ref p) (upd H p (.dK xs)) := fun p n =>
  q Hs (upd H p (.dK xs)) (.ref p) (ext_new n sb) (sub_new n sb) ⟨p, xs, rfl, none_s n sb, upd_same, h⟩ fun _ a e => by cases e; exact n
def OpSat (K : PySem.W.Frag) (r : R2) (op : O → O → Option O) : Prop := ∀ Hs H x y ox oy o, (∀ a u, Hs a = some u → H a = some u) → ROk K Hs H x ox → ROk K Hs H y oy → op ox oy = some o → ∀ Q, Res K Hs H o Q → r x y H Q
def UnSat (K : PySem.W.Frag) (r : V → Hp → VK → Prop) (op : O → Option O) : Prop := ∀ Hs H x ox o, (∀ a u, Hs a = some u → H a = some u) → ROk K Hs H x ox → op ox = some o → ∀ Q, Res K Hs H o Q → r x H Q
inductive ROks (K : PySem.W.Frag) (Hs H : Hp) : List V → List O → Prop
  | nil : ROks K Hs H [] []
  | cons {v : V} {o : O} {vs : List V} {os : List O} : ROk K Hs H v o → ROks K Hs H vs os → ROks K Hs H (v :: vs) (o :: os)
def CallSat (K : PySem.W.Frag) (r : List V → Hp → VK → Prop) (op : List O → Option O) : Prop := ∀ Hs H xs os o, (∀ a u, Hs a = some u → H a = some u) → ROks K Hs H xs os → op os = some o → ∀ Q, Res K Hs H o Q → r xs H Q

section
variable {K : PySem.W.Frag} {Hs H Hs' H' Hs1 H1 Hs2 H2 H0 Hs0 : Hp} {σ : L2.St} {env env' env0 env1 env2 : Sto} {v : V} {h : Hnd} {o : O} {d : D}
theorem Po.took (p : Po K Hs0 H0 σ env0 Hs H σ env) (k : HOk K Hs H σ env v h) (f : HFr H0 v h) (g : hTake env h = some (d, env')) : ∃ Hs', Po K Hs0 H0 σ env0 Hs' H σ env' ∧ Dd K Hs' d v := by
  obtain ⟨Hs', r, dd, e, ow, pi, lk, np⟩ := take_ok p.r k f g
  refine ⟨Hs', ⟨r, p.ext.trans e fun x z => z.elim (p.mu x) .inr, fun i a oi e => ?_, fun i s e1 k1 => ?_, fun i s e1 k1 => ?_, fun i s e1 k1 => ?_⟩, dd⟩
  · obtain ⟨o1, m1⟩ := ow i a oi e
    rcases p.own i a o1 e with ⟨o2, e2, m2⟩ | n
    · exact .inl ⟨o2, e2, fun m => m2 (m1 m)⟩
    · exact .inr n
  · obtain ⟨es, s1, h1, k2, l2⟩ := p.pin i s e1 k1
    obtain ⟨s2, h2, k3, l3⟩ := pi i s1 h1 k2
    exact ⟨es, s2, h2, k3, l3.trans l2⟩
  · obtain ⟨e2, es⟩ := p.lk i s e1 k1
    exact ⟨lk i s e2 k1, es⟩
  · obtain ⟨s1, e2, k2⟩ := np i s e1 k1
    exact p.np i s1 e2 k2
/-- behind an operation on values -/
theorem Po.res {Q : VK} (p : Po K Hs0 H0 σ env0 Hs H σ env) (q : ∀ Hs' H' v, Po K Hs0 H0 σ env0 Hs' H' σ env → HOk K Hs' H' σ env v (.tmp o) → HFr H0 v (.tmp o) → Q v H') : Res K Hs H o Q := fun Hs' H' v e sb k f =>
  q Hs' H' v (p.trans (Po.keep p.r e sb)) ⟨k, HOk.new p.r k f⟩ (Fre.back f p.ext)
theorem HOks.step {vs : List V} {hs : List Hnd} (k : HOks K Hs H σ env vs hs) (p : Po K Hs H σ env Hs' H' σ env') : HOks K Hs' H' σ env' vs hs := by
  induction k with
  | nil => exact .nil
  | cons a b _ ih => exact .cons (a.step p) b ih
theorem HOks.gets {vs : List V} {hs : List Hnd} (r : R K Hs H σ env) (k : HOks K Hs H σ env vs hs) : ∀ {os : List O}, hGets env hs = some os → ROks K Hs H vs os := by
  induction k with
  | nil => intro os g; cases g; exact .nil
  | cons a b _ ih =>
    intro os g
    simp only [hGets, Option.bind_eq_some_iff] at g
    obtain ⟨o, g1, os', g2, e⟩ := g
    cases e
    exact .cons (a.get r g1) (ih g2)
theorem HFrs.back {M : Mu} {vs : List V} {hs : List Hnd} (f : HFrs H' vs hs) (e : Ext M Hs H Hs' H') : HFrs H vs hs := by
  induction f with
  | nil => exact .nil
  | cons a _ ih => exact .cons (HFr.back a e) ih
theorem HFrs.get {vs : List V} {hs : List Hnd} (f : HFrs H vs hs) : ∀ {j : Nat} {v : V} {h : Hnd}, vs[j]? = some v → hs[j]? = some h → HFr H v h := by
  induction f with
  | nil => intro j v h e; simp at e
  | cons a _ ih =>
    intro j v h e1 e2
    cases j with
    | zero => simp at e1 e2; subst e1; subst e2; exact a
    | succ j => exact ih (by simpa using e1) (by simpa using e2)

variable {ta tb tc : TE} {fa fb fc : EF} {t : TA} {fd : DF} {fds : DsF} {fhs : HsF} {tt tu : TT} {ba bb : BF}
theorem sat_var {i : Nat} : SatE K (tVar i) (vVar i) := fun Hs H σ env h env' r g Q q => by
  unfold vVar at g
  cases e : env[i]? with
  | none => rw [e] at g; cases g
  | some x =>
    cases x with
    | none => rw [e] at g; cases g
    | some s =>
      rw [e] at g
      obtain ⟨rfl, rfl⟩ := Prod.mk.inj (Option.some.inj g)
      obtain ⟨v, ev, _⟩ := r.ok i s e
      exact ⟨v, ev, q Hs H v (Po.refl r) ev True.intro⟩
theorem sat_c {d : D} {v : V} (h : ∀ Hs, Dd K Hs d v) : SatE K (tC v) (vC d) := fun Hs H σ env hd env' r g Q q => by
  obtain ⟨rfl, rfl⟩ := Prod.mk.inj (Option.some.inj g)
  exact q Hs H v (Po.refl r) ⟨h Hs, fun w => nomatch w⟩ fun w => nomatch w
theorem sat_take (ha : SatE K ta fa) : SatD K ta (vTake fa) := fun Hs H σ env d env' r g Q q => by
  simp only [vTake, Option.bind_eq_some_iff] at g
  obtain ⟨⟨h, e1⟩, g1, g2⟩ := g
  refine ha Hs H σ env h e1 r g1 Q fun Hs1 H1 v p1 k1 f1 => ?_
  obtain ⟨Hs2, p2, dd⟩ := p1.took k1 f1 g2
  exact q Hs2 H1 v p2 dd
theorem sat_ret (ha : SatD K ta fd) : SatE K ta (vRet fd) := fun Hs H σ env h env' r g Q q => by
  simp only [vRet, Option.bind_eq_some_iff] at g
  obtain ⟨⟨d, e1⟩, g1, g2⟩ := g
  obtain ⟨rfl, rfl⟩ := Prod.mk.inj (Option.some.inj g2)
  exact ha Hs H σ env d e1 r g1 Q fun Hs1 H1 v p1 dd => q Hs1 H1 v p1 ⟨dd, fun w => nomatch w⟩ fun w => nomatch w
theorem sat_bin {r : R2} {op : O → O → Option O} (hop : OpSat K r op) (ha : SatE K ta fa) (hb : SatE K tb fb) : SatE K (tOp r ta tb) (vBin op fa fb) := fun Hs H σ env h env' rr g Q q => by
  simp only [vBin, Option.bind_eq_some_iff] at g
  obtain ⟨⟨x, e1⟩, g1, ⟨y, e2⟩, g2, ox, g3, oy, g4, o, g5, g6⟩ := g
  obtain ⟨rfl, rfl⟩ := Prod.mk.inj (Option.some.inj g6)
  refine ha Hs H σ env x e1 rr g1 _ fun Hs1 H1 v p1 k1 f1 => ?_
  refine hb Hs1 H1 σ e1 y _ p1.r g2 _ fun Hs2 H2 u p2 k2 f2 => ?_
  exact hop Hs2 H2 v u ox oy o p2.r.sub ((k1.step p2).get p2.r g3) (k2.get p2.r g4) g5 Q ((p1.trans p2).res q)
theorem sat_un {r : V → Hp → VK → Prop} {op : O → Option O} (hop : UnSat K r op) (ha : SatE K ta fa) : SatE K (tUn r ta) (vUn op fa) := fun Hs H σ env h env' rr g Q q => by
  simp only [vUn, Option.bind_eq_some_iff] at g
  obtain ⟨⟨x, e1⟩, g1, ox, g3, o, g5, g6⟩ := g
  obtain ⟨rfl, rfl⟩ := Prod.mk.inj (Option.some.inj g6)
  refine ha Hs H σ env x _ rr g1 _ fun Hs1 H1 v p1 k1 f1 => ?_
  exact hop Hs1 H1 v ox o p1.r.sub (k1.get p1.r g3) g5 Q (p1.res q)
theorem sat_nilD : SatDs K tNil vNilD := fun Hs H σ env ds env' r g Q q => by
  obtain ⟨rfl, rfl⟩ := Prod.mk.inj (Option.some.inj g)
  exact q Hs H [] (Po.refl r) .nil
theorem sat_consD (ha : SatD K ta fd) (hr : SatDs K t fds) : SatDs K (tCons ta t) (vConsD fd fds) := fun Hs H σ env ds env' r g Q q => by
  simp only [vConsD, Option.bind_eq_some_iff] at g
  obtain ⟨⟨d, e1⟩, g1, ⟨ds1, e2⟩, g2, g3⟩ := g
  obtain ⟨rfl, rfl⟩ := Prod.mk.inj (Option.some.inj g3)
  refine ha Hs H σ env d e1 r g1 _ fun Hs1 H1 v p1 d1 => ?_
  refine hr Hs1 H1 σ e1 ds1 _ p1.r g2 _ fun Hs2 H2 vs p2 d2 => ?_
  exact q Hs2 H2 _ (p1.trans p2) (.cons (d1.mono p2.ext.hs) d2)
theorem sat_nilH : SatHs K tNil vNilH := fun Hs H σ env ds env' r g Q q => by
  obtain ⟨rfl, rfl⟩ := Prod.mk.inj (Option.some.inj g)
  exact q Hs H [] (Po.refl r) .nil .nil
theorem sat_consH (ha : SatE K ta fa) (hr : SatHs K t fhs) : SatHs K (tCons ta t) (vConsH fa fhs) := fun Hs H σ env ds env' r g Q q => by
  simp only [vConsH, Option.bind_eq_some_iff] at g
  obtain ⟨⟨h, e1⟩, g1, ⟨hs, e2⟩, g2, g3⟩ := g
  obtain ⟨rfl, rfl⟩ := Prod.mk.inj (Option.some.inj g3)
  refine ha Hs H σ env h e1 r g1 _ fun Hs1 H1 v p1 d1 f1 => ?_
  refine hr Hs1 H1 σ e1 hs _ p1.r g2 _ fun Hs2 H2 vs p2 d2 f2 => ?_
  refine q Hs2 H2 _ (p1.trans p2) (.cons (d1.step p2) (fun o eo ow j o' ej ow' ev => ?_) d2) (.cons f1 (f2.back p1.ext))
  subst eo
  obtain ⟨a, u, rfl, n, hh⟩ := d1.1.ref ow
  have : H1 a = none := (f2.get ev ej) ow' a rfl
  rw [this] at hh
  cases hh
theorem sz100 {n : Nat} (h : n ≤ 100000) : n ≤ sizeLine := Nat.le_trans h (by decide)
theorem sat_tup (ha : SatDs K t fds) : SatE K (tTup t) (vTup fds) := fun Hs H σ env h env' r g Q q => by
  simp only [vTup, Option.bind_eq_some_iff] at g
  obtain ⟨⟨ds, e1⟩, g1, g2⟩ := g
  split at g2
  · next hl =>
    obtain ⟨rfl, rfl⟩ := Prod.mk.inj (Option.some.inj g2)
    refine ha Hs H σ env ds _ r g1 _ fun Hs1 H1 vs p1 d1 => ?_
    exact ⟨by rw [d1.length]; exact sz100 hl, (p1.res q).tup p1.r.sub d1⟩
  · cases g2
theorem sat_lst (ha : SatDs K t fds) : SatE K (tLst t) (vLst fds) := fun Hs H σ env h env' r g Q q => by
  simp only [vLst, Option.bind_eq_some_iff] at g
  obtain ⟨⟨ds, e1⟩, g1, g2⟩ := g
  split at g2
  · next hl =>
    obtain ⟨rfl, rfl⟩ := Prod.mk.inj (Option.some.inj g2)
    refine ha Hs H σ env ds _ r g1 _ fun Hs1 H1 vs p1 d1 => ?_
    exact ⟨by rw [d1.length]; exact sz100 hl, (p1.res q).lst p1.r.sub d1⟩
  · cases g2
theorem sat_if (hc : SatT K tt ba) (ha : SatE K ta fa) (hb : SatE K tb fb) : SatE K (tIf tt ta tb) (vIf ba fa fb) := fun Hs H σ env h env' r g Q q => by
  simp only [vIf, Option.bind_eq_some_iff] at g
  obtain ⟨⟨b, e1⟩, g1, g2⟩ := g
  refine hc Hs H σ env b e1 r g1 _ fun Hs1 H1 p1 => ?_
  cases b with
  | true => exact ha Hs1 H1 σ e1 h env' p1.r g2 Q fun Hs2 H2 v p2 k2 f2 => q Hs2 H2 v (p1.trans p2) k2 (HFr.back f2 p1.ext)
  | false => exact hb Hs1 H1 σ e1 h env' p1.r g2 Q fun Hs2 H2 v p2 k2 f2 => q Hs2 H2 v (p1.trans p2) k2 (HFr.back f2 p1.ext)
theorem sat_and (ha : SatT K tt ba) (hb : SatT K tu bb) : SatT K (tAnd tt tu) (bAnd ba bb) := fun Hs H σ env b env' r g Q q => by
  simp only [bAnd, Option.bind_eq_some_iff] at g
  obtain ⟨⟨b1, e1⟩, g1, g2⟩ := g
  refine ha Hs H σ env b1 e1 r g1 _ fun Hs1 H1 p1 => ?_
  cases b1 with
  | true => exact hb Hs1 H1 σ e1 b env' p1.r g2 Q fun Hs2 H2 p2 => q Hs2 H2 (p1.trans p2)
  | false =>
    obtain ⟨rfl, rfl⟩ := Prod.mk.inj (Option.some.inj g2)
    exact q Hs1 H1 p1
theorem sat_or (ha : SatT K tt ba) (hb : SatT K tu bb) : SatT K (tOr tt tu) (bOr ba bb) := fun Hs H σ env b env' r g Q q => by
  simp only [bOr, Option.bind_eq_some_iff] at g
  obtain ⟨⟨b1, e1⟩, g1, g2⟩ := g
  refine ha Hs H σ env b1 e1 r g1 _ fun Hs1 H1 p1 => ?_
  cases b1 with
  | false => exact hb Hs1 H1 σ e1 b env' p1.r g2 Q fun Hs2 H2 p2 => q Hs2 H2 (p1.trans p2)
  | true =>
    obtain ⟨rfl, rfl⟩ := Prod.mk.inj (Option.some.inj g2)
    exact q Hs1 H1 p1
theorem sat_not (ha : SatT K tt ba) : SatT K (tNot tt) (bNot ba) := fun Hs H σ env b env' r g Q q => by
  simp only [bNot, Option.bind_eq_some_iff] at g
  obtain ⟨⟨b1, e1⟩, g1, g2⟩ := g
  obtain ⟨rfl, rfl⟩ := Prod.mk.inj (Option.some.inj g2)
  exact ha Hs H σ env b1 _ r g1 _ fun Hs1 H1 p1 => q Hs1 H1 p1
theorem asB_ok {o : O} {b : Bool} (h : asB o = some b) (k : ROk K Hs H v o) : v = .bl b := by
  cases o with
  | shr d =>
    cases d with
    | bl c => cases h; cases k; rfl
    | _ => cases h
  | _ => cases h
theorem sat_B (ha : SatE K ta fa) : SatT K (tB ta) (bVal fa) := fun Hs H σ env b env' r g Q q => by
  simp only [bVal, Option.bind_eq_some_iff] at g
  obtain ⟨⟨h, e1⟩, g1, o, g2, b1, g3, g4⟩ := g
  obtain ⟨rfl, rfl⟩ := Prod.mk.inj (Option.some.inj g4)
  exact ha Hs H σ env h _ r g1 _ fun Hs1 H1 v p1 k1 f1 => ⟨b1, asB_ok g3 (k1.get p1.r g2), q Hs1 H1 p1⟩
theorem sat_test (ha : SatE K ta fa) : SatT K (tTest ta) (bVal fa) := sat_B ha
/-- and, or, not as values: their tests' values -/
theorem sat_andV (ha : SatT K (tB ta) ba) (hb : SatE K tb (vB bb)) : SatE K (tAndV ta tb) (vB (bAnd ba bb)) := fun Hs H σ env h env' r g Q q => by
  simp only [vB, bAnd, Option.bind_eq_some_iff] at g
  obtain ⟨⟨b1, e1⟩, ⟨⟨b2, e2⟩, g1, g2⟩, g3⟩ := g
  obtain ⟨rfl, rfl⟩ := Prod.mk.inj (Option.some.inj g3)
  refine ha Hs H σ env b2 e2 r g1 (fun c H1 => if c = true then tb σ H1 Q else Q (.bl false) H1) fun Hs1 H1 p1 => ?_
  cases b2 with
  | true => exact hb Hs1 H1 σ e2 _ _ p1.r (by simp only [vB, Option.bind_eq_some_iff]; exact ⟨_, g2, rfl⟩) Q fun Hs2 H2 v p2 k2 f2 => q Hs2 H2 v (p1.trans p2) k2 (HFr.back f2 p1.ext)
  | false =>
    obtain ⟨rfl, rfl⟩ := Prod.mk.inj (Option.some.inj g2)
    exact q Hs1 H1 _ p1 ⟨.bl _, fun w => nomatch w⟩ fun w => nomatch w
theorem sat_orV (ha : SatT K (tB ta) ba) (hb : SatE K tb (vB bb)) : SatE K (tOrV ta tb) (vB (bOr ba bb)) := fun Hs H σ env h env' r g Q q => by
  simp only [vB, bOr, Option.bind_eq_some_iff] at g
  obtain ⟨⟨b1, e1⟩, ⟨⟨b2, e2⟩, g1, g2⟩, g3⟩ := g
  obtain ⟨rfl, rfl⟩ := Prod.mk.inj (Option.some.inj g3)
  refine ha Hs H σ env b2 e2 r g1 (fun c H1 => if c = true then Q (.bl true) H1 else tb σ H1 Q) fun Hs1 H1 p1 => ?_
  cases b2 with
  | false => exact hb Hs1 H1 σ e2 _ _ p1.r (by simp only [vB, Option.bind_eq_some_iff]; exact ⟨_, g2, rfl⟩) Q fun Hs2 H2 v p2 k2 f2 => q Hs2 H2 v (p1.trans p2) k2 (HFr.back f2 p1.ext)
  | true =>
    obtain ⟨rfl, rfl⟩ := Prod.mk.inj (Option.some.inj g2)
    exact q Hs1 H1 _ p1 ⟨.bl _, fun w => nomatch w⟩ fun w => nomatch w
theorem sat_notV (ha : SatT K (tB ta) ba) : SatE K (tNotV ta) (vB (bNot ba)) := fun Hs H σ env h env' r g Q q => by
  simp only [vB, bNot, Option.bind_eq_some_iff] at g
  obtain ⟨⟨b1, e1⟩, ⟨⟨b2, e2⟩, g1, g2⟩, g3⟩ := g
  obtain ⟨rfl, rfl⟩ := Prod.mk.inj (Option.some.inj g2)
  obtain ⟨rfl, rfl⟩ := Prod.mk.inj (Option.some.inj g3)
  exact ha Hs H σ env b2 _ r g1 (fun c H1 => Q (.bl (!c)) H1) fun Hs1 H1 p1 => q Hs1 H1 _ p1 ⟨.bl _, fun w => nomatch w⟩ fun w => nomatch w
/-- a value that is True or False, as the value of a test -/
theorem sat_vb (ha : SatE K ta fa) : SatE K ta (vB (bVal fa)) := fun Hs H σ env h env' r g Q q => by
  simp only [vB, bVal, Option.bind_eq_some_iff] at g
  obtain ⟨⟨b1, e1⟩, ⟨⟨h2, e2⟩, g1, o, g2, b3, g3, g4⟩, g5⟩ := g
  obtain ⟨rfl, rfl⟩ := Prod.mk.inj (Option.some.inj g4)
  obtain ⟨rfl, rfl⟩ := Prod.mk.inj (Option.some.inj g5)
  refine ha Hs H σ env h2 _ r g1 _ fun Hs1 H1 v p1 k1 f1 => ?_
  have e := asB_ok g3 (k1.get p1.r g2)
  subst e
  exact q Hs1 H1 _ p1 ⟨.bl _, fun w => nomatch w⟩ fun w => nomatch w
theorem sat_callB {r : List V → Hp → VK → Prop} {op : List O → Option O} (hop : CallSat K r op) (ha : SatHs K t fhs) : SatE K (tCB r t) (vCallB op fhs) := fun Hs H σ env h env' rr g Q q => by
  simp only [vCallB, Option.bind_eq_some_iff] at g
  obtain ⟨⟨hs, e1⟩, g1, os, g2, o, g3, g4⟩ := g
  obtain ⟨rfl, rfl⟩ := Prod.mk.inj (Option.some.inj g4)
  refine ha Hs H σ env hs _ rr g1 _ fun Hs1 H1 vs p1 k1 f1 => ?_
  exact hop Hs1 H1 vs os o p1.r.sub (k1.gets p1.r g2) g3 Q (p1.res q)
end
end PV

set_option maxRecDepth 100000
set_option maxHeartbeats 2000000
namespace PV
open PySem L2

/-! ### what a thing is -/
def asI : O → Option Int
  | .shr (.int i) => some i
  | _ => none
def asS : O → Option Str
  | .shr (.str i) => some i
  | _ => none
def asL : O → Option (List D)
  | .ol ds => some ds
  | .shr (.lst ds) => some ds
  | _ => none
def asT : O → Option (List D)
  | .shr (.tup ds) => some ds
  | _ => none
/-- what can be indexed, walked, measured: a list, a tuple, the script -/
def asQ : O → Option (List D)
  | .ol ds => some ds
  | .shr (.lst ds) => some ds
  | .shr (.tup ds) => some ds
  | .shr (.scr ns) => some (ns.map .int)
  | _ => none
def asK : O → Option (List (Key × D))
  | .od kvs => some kvs
  | .shr (.dk kvs) => some kvs
  | _ => none
section
variable {K : PySem.W.Frag} {Hs H : Hp} {v : V} {o : O}
theorem asI_ok {i : Int} (h : asI o = some i) (k : ROk K Hs H v o) : v = .int i := by
  cases o with
  | shr d =>
    cases d with
    | int c => cases h; cases k; rfl
    | _ => cases h
  | _ => cases h
theorem asS_ok {i : Str} (h : asS o = some i) (k : ROk K Hs H v o) : v = .str i := by
  cases o with
  | shr d =>
    cases d with
    | str c => cases h; cases k; rfl
    | _ => cases h
  | _ => cases h
theorem asL_ok {ds : List D} (sb : ∀ a u, Hs a = some u → H a = some u) (h : asL o = some ds) (k : ROk K Hs H v o) : ∃ a xs, v = .ref a ∧ H a = some (.lst xs) ∧ DdAll K Hs ds xs := by
  cases o with
  | shr d =>
    cases d with
    | lst c =>
      cases h
      cases k with
      | lst e t => exact ⟨_, _, rfl, sb _ _ e, t⟩
    | _ => cases h
  | ol d =>
    cases h
    obtain ⟨a, xs, e, _, q, t⟩ := k
    exact ⟨a, xs, e, q, t⟩
  | _ => cases h
theorem asT_ok {ds : List D} (sb : ∀ a u, Hs a = some u → H a = some u) (h : asT o = some ds) (k : ROk K Hs H v o) : ∃ a xs, v = .ref a ∧ H a = some (.tup xs) ∧ DdAll K Hs ds xs := by
  cases o with
  | shr d =>
    cases d with
    | tup c =>
      cases h
      cases k with
      | tup e t => exact ⟨_, _, rfl, sb _ _ e, t⟩
    | _ => cases h
  | _ => cases h
theorem asQ_ok {ds : List D} (sb : ∀ a u, Hs a = some u → H a = some u) (h : asQ o = some ds) (k : ROk K Hs H v o) : ∃ a xs, v = .ref a ∧ (SqL K H a xs ∨ SqT K H a xs) ∧ DdAll K Hs ds xs := by
  cases o with
  | shr d =>
    cases d with
    | lst c =>
      cases h
      cases k with
      | lst e t => exact ⟨_, _, rfl, .inl (SqL.of (sb _ _ e)), t⟩
    | tup c =>
      cases h
      cases k with
      | tup e t => exact ⟨_, _, rfl, .inr (SqT.of (sb _ _ e)), t⟩
    | scr c =>
      cases h
      cases k with
      | scr e => exact ⟨_, _, rfl, .inl (sq_mono sb e), DdAll.ints c⟩
    | _ => cases h
  | ol d =>
    cases h
    obtain ⟨a, xs, e, _, q, t⟩ := k
    exact ⟨a, xs, e, .inl (SqL.of q), t⟩
  | _ => cases h
theorem asK_ok {kvs : List (Key × D)} (sb : ∀ a u, Hs a = some u → H a = some u) (h : asK o = some kvs) (k : ROk K Hs H v o) : ∃ a es, v = .ref a ∧ H a = some (.dK es) ∧ DdKv K Hs kvs es := by
  cases o with
  | shr d =>
    cases d with
    | dk c =>
      cases h
      cases k with
      | dk e t => exact ⟨_, _, rfl, sb _ _ e, t⟩
    | _ => cases h
  | od d =>
    cases h
    obtain ⟨a, xs, e, _, q, t⟩ := k
    exact ⟨a, xs, e, q, t⟩
  | _ => cases h
end

/-! ### operators -/
def oI2 (g : Int → Int → Option D) (x y : O) : Option O := (asI x).bind fun i => (asI y).bind fun j => (g i j).map .shr
def oI1 (g : Int → Option D) (x : O) : Option O := (asI x).bind fun i => (g i).map .shr
section
variable {K : PySem.W.Frag}
theorem sat_I2 {C : Int → Int → Prop} {g : Int → Int → V} {g' : Int → Int → Option D} (h : ∀ i j d, g' i j = some d → C i j ∧ ∀ Hs, Dd K Hs d (g i j)) : OpSat K (rI C g) (oI2 g') := by
  intro Hs H x y ox oy o sb kx ky e Q q
  simp only [oI2, Option.bind_eq_some_iff, Option.map_eq_some_iff] at e
  obtain ⟨i, hi, j, hj, d, hd, rfl⟩ := e
  obtain ⟨c, dd⟩ := h i j d hd
  exact ⟨i, j, asI_ok hi kx, asI_ok hj ky, c, q.val sb (dd Hs)⟩
theorem sat_I20 {g : Int → Int → V} {g' : Int → Int → Option D} (h : ∀ i j d, g' i j = some d → ∀ Hs, Dd K Hs d (g i j)) : OpSat K (rI0 g) (oI2 g') := by
  intro Hs H x y ox oy o sb kx ky e Q q
  simp only [oI2, Option.bind_eq_some_iff, Option.map_eq_some_iff] at e
  obtain ⟨i, hi, j, hj, d, hd, rfl⟩ := e
  exact ⟨i, j, asI_ok hi kx, asI_ok hj ky, q.val sb (h i j d hd Hs)⟩
theorem OpSat.or {r r' : R2} {op op' : O → O → Option O} (h : OpSat K r op) (h' : OpSat K r' op') : OpSat K (fun x y H Q => r x y H Q ∨ r' x y H Q) (fun x y => (op x y).or (op' x y)) := by
  intro Hs H x y ox oy o sb kx ky e Q q
  dsimp only at e
  cases e1 : op ox oy with
  | some z =>
    rw [e1] at e
    exact .inl (h Hs H x y ox oy o sb kx ky (e1.trans e) Q q)
  | none =>
    rw [e1] at e
    exact .inr (h' Hs H x y ox oy o sb kx ky e Q q)
theorem CallSat.or {r r' : List V → Hp → VK → Prop} {op op' : List O → Option O} (h : CallSat K r op) (h' : CallSat K r' op') : CallSat K (fun x H Q => r x H Q ∨ r' x H Q) (fun x => (op x).or (op' x)) := by
  intro Hs H x ox o sb kx e Q q
  dsimp only at e
  cases e1 : op ox with
  | some z =>
    rw [e1] at e
    exact .inl (h Hs H x ox o sb kx (e1.trans e) Q q)
  | none =>
    rw [e1] at e
    exact .inr (h' Hs H x ox o sb kx e Q q)

def CDivG (_ j : Int) : Prop := j ≠ 0 ∧ j.natAbs.log2 < 9000
theorem op_fdivG {X : Cx} : OpR X (binaryOp .FloorDiv) (rI CDivG fun i j => .int (i.fdiv j)) := opI fun i j _ _ _ _ _ hc q => PyProof.Rows.floordiv_int hc.1 q (.inl (PyProof.noPylong_of_log2 hc.2))
def CMulG (i j : Int) : Prop := CMul i j ∨ CMulW i j
theorem op_mulG {X : Cx} : OpR X (binaryOp .Mult) (rI CMulG fun i j => .int (i * j)) := opI fun _ _ _ _ _ _ _ hc q => PyProof.Rows.mul_int q (hc.elim CMul.ok CMulW.ok)
instance (i j : Int) : Decidable (CDivG i j) := by unfold CDivG; infer_instance
instance (i j : Int) : Decidable (CMulG i j) := by unfold CMulG CMul CMulW; infer_instance
instance (i j : Int) : Decidable (CPow i j) := by unfold CPow; infer_instance

def oAddI : O → O → Option O := oI2 fun i j => some (.int (i + j))
def oSub : O → O → Option O := oI2 fun i j => some (.int (i - j))
def oMul : O → O → Option O := oI2 fun i j => if CMulG i j then some (.int (i * j)) else none
def oDiv : O → O → Option O := oI2 fun i j => if CDivG i j then some (.int (i.fdiv j)) else none
def oMod : O → O → Option O := oI2 fun i j => if j ≠ 0 then some (.int (i.fmod j)) else none
def oPow : O → O → Option O := oI2 fun i j => if CPow i j then some (.int (i ^ j.toNat)) else none
def oLt : O → O → Option O := oI2 fun i j => some (.bl (decide (i < j)))
def oLe : O → O → Option O := oI2 fun i j => some (.bl (decide (i ≤ j)))
def oGt : O → O → Option O := oI2 fun i j => some (.bl (decide (j < i)))
def oGe : O → O → Option O := oI2 fun i j => some (.bl (decide (j ≤ i)))
theorem s_addI : OpSat K (rI0 fun i j => .int (i + j)) oAddI := sat_I20 fun i j d e Hs => by cases e; exact .int _
theorem s_sub : OpSat K (rI0 fun i j => .int (i - j)) oSub := sat_I20 fun i j d e Hs => by cases e; exact .int _
theorem s_mul : OpSat K (rI CMulG fun i j => .int (i * j)) oMul := sat_I2 fun i j d e => by
  split at e
  · next h => cases e; exact ⟨h, fun _ => .int _⟩
  · cases e
theorem s_div : OpSat K (rI CDivG fun i j => .int (i.fdiv j)) oDiv := sat_I2 fun i j d e => by
  split at e
  · next h => cases e; exact ⟨h, fun _ => .int _⟩
  · cases e
theorem s_mod : OpSat K (rI (fun _ j => j ≠ 0) fun i j => .int (i.fmod j)) oMod := sat_I2 fun i j d e => by
  split at e
  · next h => cases e; exact ⟨h, fun _ => .int _⟩
  · cases e
theorem s_pow : OpSat K (rI CPow fun i j => .int (i ^ j.toNat)) oPow := sat_I2 fun i j d e => by
  split at e
  · next h => cases e; exact ⟨h, fun _ => .int _⟩
  · cases e
theorem s_lt : OpSat K (rI0 fun i j => .bl (decide (i < j))) oLt := sat_I20 fun i j d e Hs => by cases e; exact .bl _
theorem s_le : OpSat K (rI0 fun i j => .bl (decide (i ≤ j))) oLe := sat_I20 fun i j d e Hs => by cases e; exact .bl _
theorem s_gt : OpSat K (rI0 fun i j => .bl (decide (j < i))) oGt := sat_I20 fun i j d e Hs => by cases e; exact .bl _
theorem s_ge : OpSat K (rI0 fun i j => .bl (decide (j ≤ i))) oGe := sat_I20 fun i j d e Hs => by cases e; exact .bl _
def oNeg : O → Option O := oI1 fun i => some (.int (-i))
theorem s_neg : UnSat K (rU fun i => .int (-i)) oNeg := by
  intro Hs H x ox o sb kx e Q q
  simp only [oNeg, oI1, Option.bind_eq_some_iff, Option.map_eq_some_iff] at e
  obtain ⟨i, hi, d, hd, rfl⟩ := e
  cases hd
  exact ⟨i, asI_ok hi kx, q.val sb (.int _)⟩

/-- + -/
def rAddS2 : R2 := fun x y H Q => ∃ i j, x = .str i ∧ y = .str j ∧ i.length + j.length ≤ sizeLine ∧ Q (.str (i ++ j)) H
def oAddS (x y : O) : Option O := (asS x).bind fun i => (asS y).bind fun j => if i.length + j.length ≤ 1000000 then some (.shr (.str (i ++ j))) else none
theorem sz6 {n : Nat} (h : n ≤ 1000000) : n ≤ sizeLine := Nat.le_trans h (by decide)
theorem s_addS : OpSat K rAddS2 oAddS := by
  intro Hs H x y ox oy o sb kx ky e Q q
  simp only [oAddS, Option.bind_eq_some_iff] at e
  obtain ⟨i, hi, j, hj, e⟩ := e
  split at e
  · next h => cases e; exact ⟨i, j, asS_ok hi kx, asS_ok hj ky, sz6 h, q.val sb (.str _)⟩
  · cases e
def oAddL (x y : O) : Option O := (asL x).bind fun i => (asL y).bind fun j => if i.length + j.length ≤ 1000000 then some (.ol (i ++ j)) else none
theorem s_addL : OpSat K rCat oAddL := by
  intro Hs H x y ox oy o sb kx ky e Q q
  simp only [oAddL, Option.bind_eq_some_iff] at e
  obtain ⟨i, hi, j, hj, e⟩ := e
  split at e
  · next h =>
    cases e
    obtain ⟨a, xs, rfl, ha, da⟩ := asL_ok sb hi kx
    obtain ⟨b, ys, rfl, hb, db⟩ := asL_ok sb hj ky
    exact ⟨a, b, xs, ys, rfl, rfl, ha, hb, by rw [da.length, db.length]; exact sz6 h, q.lst sb (da.append db)⟩
  · cases e
def oAddT (x y : O) : Option O := (asT x).bind fun i => (asT y).bind fun j => if i ≠ [] ∧ j ≠ [] ∧ i.length + j.length ≤ 1000000 then some (.shr (.tup (i ++ j))) else none
theorem s_addT : OpSat K (rCatT K) oAddT := by
  intro Hs H x y ox oy o sb kx ky e Q q
  simp only [oAddT, Option.bind_eq_some_iff] at e
  obtain ⟨i, hi, j, hj, e⟩ := e
  split at e
  · next h =>
    cases e
    obtain ⟨a, xs, rfl, ha, da⟩ := asT_ok sb hi kx
    obtain ⟨b, ys, rfl, hb, db⟩ := asT_ok sb hj ky
    refine ⟨a, b, xs, ys, rfl, rfl, SqT.of ha, SqT.of hb, fun z => ?_, by rw [da.length, db.length]; exact sz6 h.2.2, fun z => ?_, fun _ => q.tup sb (da.append db)⟩
    · subst z; cases da; exact h.1 rfl
    · subst z; cases db; exact absurd rfl h.2.1
  · cases e
def oAdd (x y : O) : Option O := (oAddI x y).or ((oAddS x y).or ((oAddL x y).or (oAddT x y)))
def rAddA (K : PySem.W.Frag) : R2 := fun x y H Q => rI0 (fun i j => .int (i + j)) x y H Q ∨ (rAddS2 x y H Q ∨ (rCat x y H Q ∨ rCatT K x y H Q))
theorem s_add : OpSat K (rAddA K) oAdd := s_addI.or (s_addS.or (s_addL.or s_addT))
theorem op_addA {X : Cx} : OpR X (binaryOp .Add) (rAddA X.K) := op_add.or (op_add_str.or (op_cat.or op_catT))

/-! ### == -/
mutual
def toPy : D → Option PyData
  | .non => some .none
  | .bl b => some (.bool b)
  | .int i => some (.int i)
  | .str x => some (.str x)
  | .tup ds => (toPys ds).map .tuple
  | .lst ds => (toPys ds).map .list
  | .scr ns => some (.list (ns.map .int))
  | .dk _ => none
  | .opq _ => none
def toPys : List D → Option (List PyData)
  | [] => some []
  | d :: r => (toPy d).bind fun p => (toPys r).bind fun q => some (p :: q)
end
end
theorem dp_ints {K : PySem.W.Frag} {H : Hp} : ∀ ns : List Int, DpAll K H (ns.map V.int) (ns.map PyData.int)
  | [] => .nil
  | n :: r => .cons (.int n) (dp_ints r)
mutual
theorem Dd.py {K : PySem.W.Frag} {Hs H : Hp} (sb : ∀ a u, Hs a = some u → H a = some u) : ∀ {d : D} {v : V} {p : PyData}, Dd K Hs d v → toPy d = some p → Dp K H v p
  | _, _, _, .non, e => by simp only [toPy] at e; cases e; exact .non
  | _, _, _, .bl b, e => by simp only [toPy] at e; cases e; exact .bl b
  | _, _, _, .int b, e => by simp only [toPy] at e; cases e; exact .int b
  | _, _, _, .str b, e => by simp only [toPy] at e; cases e; exact .str b
  | _, _, _, .tup h t, e => by
    simp only [toPy, Option.map_eq_some_iff] at e
    obtain ⟨ps, e, rfl⟩ := e
    exact .tup (SqT.of (sb _ _ h)) (DdAll.py sb t e)
  | _, _, _, .lst h t, e => by
    simp only [toPy, Option.map_eq_some_iff] at e
    obtain ⟨ps, e, rfl⟩ := e
    exact .lst (SqL.of (sb _ _ h)) (DdAll.py sb t e)
  | _, _, _, .scr h, e => by
    simp only [toPy] at e
    cases e
    exact .lst (sq_mono sb h) (dp_ints _)
  | _, _, _, .dk h t, e => by simp only [toPy] at e; cases e
  | _, _, _, .opq v, e => by simp only [toPy] at e; cases e
theorem DdAll.py {K : PySem.W.Frag} {Hs H : Hp} (sb : ∀ a u, Hs a = some u → H a = some u) : ∀ {d : List D} {v : List V} {p : List PyData}, DdAll K Hs d v → toPys d = some p → DpAll K H v p
  | _, _, _, .nil, e => by simp only [toPys] at e; cases e; exact .nil
  | _, _, _, .cons a b, e => by
    simp only [toPys, Option.bind_eq_some_iff] at e
    obtain ⟨p, e1, q, e2, e3⟩ := e
    cases e3
    exact .cons (Dd.py sb a e1) (DdAll.py sb b e2)
end
/-- flat data -/
def flat? : D → Option V
  | .non => some .non
  | .bl b => some (.bl b)
  | .int i => some (.int i)
  | .str x => some (.str x)
  | _ => none
theorem flat_ok {K : PySem.W.Frag} {Hs : Hp} {d : D} {v w : V} (h : flat? d = some w) (k : Dd K Hs d v) : v = w := by
  cases k <;> cases h <;> rfl
def asF : O → Option V
  | .shr d => flat? d
  | _ => none
theorem asF_ok {K : PySem.W.Frag} {Hs H : Hp} {o : O} {v w : V} (h : asF o = some w) (k : ROk K Hs H v o) : v = w := by
  cases o with
  | shr d => exact flat_ok h k
  | _ => cases h
/-- content as data; a list of one's own may be asked -/
theorem ROk.py {K : PySem.W.Frag} {Hs H : Hp} {o : O} {v : V} {p : PyData} (sb : ∀ a u, Hs a = some u → H a = some u) (k : ROk K Hs H v o) (e : toPy o.toD = some p) : Dp K H v p := by
  cases o with
  | shr d => exact Dd.py sb k e
  | ol ds =>
    obtain ⟨a, xs, rfl, _, q, t⟩ := k
    simp only [O.toD, toPy, Option.map_eq_some_iff] at e
    obtain ⟨ps, e, rfl⟩ := e
    exact .lst (SqL.of q) (DdAll.py sb t e)
  | od kvs => simp only [O.toD, toPy] at e; cases e
def eqS (x y : V) : Option Bool := if scal x y = true then some (decide (x = y)) else none
def eqP (p q : PyData) : Option Bool := if SeqAt.shaped p = true ∧ SeqAt.shaped q = true then some (PyData.eqv p q) else none
/-- what == says: of flat things, of nested ones -/
def eqO (x y : O) : Option Bool := ((asF x).bind fun i => (asF y).bind fun j => eqS i j).or ((toPy x.toD).bind fun p => (toPy y.toD).bind fun q => eqP p q)
def oEq (x y : O) : Option O := (eqO x y).map fun b => .shr (.bl b)
def oNe (x y : O) : Option O := (eqO x y).map fun b => .shr (.bl !b)
def rEqA (K : PySem.W.Frag) : R2 := fun x y H Q => rEq x y H Q ∨ rEqD K x y H Q
def rNeA (K : PySem.W.Frag) : R2 := fun x y H Q => rNe x y H Q ∨ rNeD K x y H Q
theorem op_eqA {X : Cx} (hu : X.A.units + 64 < cLine) : OpR X (compareOp .Eq) (rEqA X.K) := op_eq.or (op_eqD hu)
theorem op_neA {X : Cx} (hu : X.A.units + 64 < cLine) : OpR X (compareOp .NotEq) (rNeA X.K) := op_ne.or (op_neD hu)
section
variable {K : PySem.W.Frag}
theorem eqO_ok {Hs H : Hp} {x y : V} {ox oy : O} {b : Bool} (sb : ∀ a u, Hs a = some u → H a = some u) (kx : ROk K Hs H x ox) (ky : ROk K Hs H y oy) (e : eqO ox oy = some b) :
    (scal x y = true ∧ decide (x = y) = b) ∨ ∃ p q, Dp K H x p ∧ Dp K H y q ∧ SeqAt.shaped p = true ∧ SeqAt.shaped q = true ∧ PyData.eqv p q = b := by
  unfold eqO at e
  cases e1 : ((asF ox).bind fun i => (asF oy).bind fun j => eqS i j) with
  | some z =>
    rw [e1] at e
    cases e
    simp only [Option.bind_eq_some_iff] at e1
    obtain ⟨i, hi, j, hj, e2⟩ := e1
    unfold eqS at e2
    split at e2
    · next h =>
      cases e2
      have h1 := asF_ok hi kx
      have h2 := asF_ok hj ky
      subst h1 h2
      exact .inl ⟨h, rfl⟩
    · cases e2
  | none =>
    rw [e1] at e
    simp only [Option.none_or, Option.bind_eq_some_iff] at e
    obtain ⟨p, hp, q, hq, e2⟩ := e
    unfold eqP at e2
    split at e2
    · next h =>
      cases e2
      exact .inr ⟨p, q, kx.py sb hp, ky.py sb hq, h.1, h.2, rfl⟩
    · cases e2
theorem s_eq : OpSat K (rEqA K) oEq := by
  intro Hs H x y ox oy o sb kx ky e Q q
  simp only [oEq, Option.map_eq_some_iff] at e
  obtain ⟨b, hb, rfl⟩ := e
  have qq : Q (.bl b) H := q.val sb (.bl _)
  rcases eqO_ok sb kx ky hb with ⟨h1, h2⟩ | ⟨p, r, h1, h2, h3, h4, h5⟩
  · exact .inl ⟨h1, by rw [h2]; exact qq⟩
  · exact .inr ⟨p, r, h1, h2, h3, h4, by rw [h5]; exact qq⟩
theorem s_ne : OpSat K (rNeA K) oNe := by
  intro Hs H x y ox oy o sb kx ky e Q q
  simp only [oNe, Option.map_eq_some_iff] at e
  obtain ⟨b, hb, rfl⟩ := e
  have qq : Q (.bl !b) H := q.val sb (.bl _)
  rcases eqO_ok sb kx ky hb with ⟨h1, h2⟩ | ⟨p, r, h1, h2, h3, h4, h5⟩
  · exact .inl ⟨h1, by rw [h2]; exact qq⟩
  · exact .inr ⟨p, r, h1, h2, h3, h4, by rw [h5]; exact qq⟩
/-- is None -/
def isNon : O → Option Bool
  | .shr .non => some true
  | .shr (.opq _) => none
  | _ => some false
theorem isNon_ok {Hs H : Hp} {x : V} {ox : O} {b : Bool} (e : isNon ox = some b) (k : ROk K Hs H x ox) : decide (x = .non) = b := by
  cases ox with
  | shr d => cases k <;> cases e <;> rfl
  | ol d =>
    obtain ⟨a, xs, rfl, _⟩ := k
    cases e; rfl
  | od d =>
    obtain ⟨a, xs, rfl, _⟩ := k
    cases e; rfl
def oIsN (x y : O) : Option O := match y with
  | .shr .non => (isNon x).map fun b => .shr (.bl b)
  | _ => none
def oNotN (x y : O) : Option O := match y with
  | .shr .non => (isNon x).map fun b => .shr (.bl !b)
  | _ => none
def rIsN2 : R2 := fun x y H Q => y = .non ∧ Q (.bl (decide (x = .non))) H
def rNotN2 : R2 := fun x y H Q => y = .non ∧ Q (.bl (!decide (x = .non))) H
theorem s_isN : OpSat K rIsN2 oIsN := by
  intro Hs H x y ox oy o sb kx ky e Q q
  unfold oIsN at e
  split at e
  · simp only [Option.map_eq_some_iff] at e
    obtain ⟨b, hb, rfl⟩ := e
    cases ky
    exact ⟨rfl, by rw [isNon_ok hb kx]; exact q.val sb (.bl _)⟩
  · cases e
theorem s_notN : OpSat K rNotN2 oNotN := by
  intro Hs H x y ox oy o sb kx ky e Q q
  unfold oNotN at e
  split at e
  · simp only [Option.map_eq_some_iff] at e
    obtain ⟨b, hb, rfl⟩ := e
    cases ky
    exact ⟨rfl, by rw [isNon_ok hb kx]; exact q.val sb (.bl _)⟩
  · cases e
/-- in a list or tuple of flat things -/
def flats : List D → Option (List V)
  | [] => some []
  | d :: r => (flat? d).bind fun v => (flats r).bind fun vs => some (v :: vs)
theorem flat_flatV {d : D} {v : V} (h : flat? d = some v) : flatV v = true := by
  cases d <;> cases h <;> rfl
theorem flats_ok {Hs : Hp} : ∀ {ds : List D} {vs ws : List V}, flats ds = some ws → DdAll K Hs ds vs → vs = ws ∧ ws.all flatV = true
  | [], _, _, e, .nil => by simp only [flats] at e; cases e; exact ⟨rfl, rfl⟩
  | d :: r, _, _, e, .cons a b => by
    simp only [flats, Option.bind_eq_some_iff] at e
    obtain ⟨v, h1, vs, h2, h3⟩ := e
    cases h3
    obtain ⟨q1, q2⟩ := flats_ok h2 b
    rw [flat_ok h1 a, q1]
    exact ⟨rfl, by rw [List.all_cons, flat_flatV h1, q2] <;> rfl⟩
def inQ (x y : O) : Option Bool := (asF x).bind fun v => (asQ y).bind fun ds => (flats ds).map fun vs => inV v vs
theorem inQ_ok {Hs H : Hp} {x y : V} {ox oy : O} {b : Bool} (sb : ∀ a u, Hs a = some u → H a = some u) (kx : ROk K Hs H x ox) (ky : ROk K Hs H y oy) (e : inQ ox oy = some b) :
    ∃ p xs, y = .ref p ∧ (SqL K H p xs ∨ SqT K H p xs) ∧ flatV x = true ∧ xs.all flatV = true ∧ inV x xs = b := by
  simp only [inQ, Option.bind_eq_some_iff, Option.map_eq_some_iff] at e
  obtain ⟨v, hv, ds, hd, vs, hf, rfl⟩ := e
  obtain ⟨a, xs, rfl, hq, dd⟩ := asQ_ok sb hd ky
  obtain ⟨q1, q2⟩ := flats_ok hf dd
  subst q1
  have e1 := asF_ok hv kx
  subst e1
  refine ⟨a, xs, rfl, hq, ?_, q2, rfl⟩
  cases ox with
  | shr d => exact flat_flatV hv
  | _ => cases hv
def oInQ (x y : O) : Option O := (inQ x y).map fun b => .shr (.bl b)
def oNotInQ (x y : O) : Option O := (inQ x y).map fun b => .shr (.bl !b)
theorem s_inQ : OpSat K (rIn K false) oInQ := by
  intro Hs H x y ox oy o sb kx ky e Q q
  simp only [oInQ, Option.map_eq_some_iff] at e
  obtain ⟨b, hb, rfl⟩ := e
  obtain ⟨p, xs, h1, h2, h3, h4, h5⟩ := inQ_ok sb kx ky hb
  exact ⟨p, xs, h1, h2, h3, h4, (by show Q (.bl (inV x xs)) H; rw [h5]; exact q.val sb (.bl _))⟩
theorem s_notInQ : OpSat K (rIn K true) oNotInQ := by
  intro Hs H x y ox oy o sb kx ky e Q q
  simp only [oNotInQ, Option.map_eq_some_iff] at e
  obtain ⟨b, hb, rfl⟩ := e
  obtain ⟨p, xs, h1, h2, h3, h4, h5⟩ := inQ_ok sb kx ky hb
  exact ⟨p, xs, h1, h2, h3, h4, (by show Q (.bl (!inV x xs)) H; rw [h5]; exact q.val sb (.bl _))⟩

/-! ### subscripts -/
def oIx (x y : O) : Option O := (asI y).bind fun i => ((asQ x).bind fun ds => (atI ds i).map .shr).or ((asS x).bind fun s => if s.length ≤ 1000000 then (atI s.cps.toList i).map fun c => .shr (.str ⟨#[c]⟩) else none)
theorem atI_dd {Hs : Hp} {ds : List D} {xs : List V} {i : Int} {d : D} (t : DdAll K Hs ds xs) (h : atI ds i = some d) : ∃ v, atI xs i = some v ∧ Dd K Hs d v := by
  unfold atI at h ⊢
  rw [t.length]
  simp only [Option.bind_eq_some_iff] at h
  obtain ⟨j, h1, h2⟩ := h
  obtain ⟨v, h3, h4⟩ := t.get h2
  exact ⟨v, by rw [h1]; exact h3, h4⟩
theorem s_ix : OpSat K (rIx K) oIx := by
  intro Hs H x y ox oy o sb kx ky e Q q
  simp only [oIx, Option.bind_eq_some_iff] at e
  obtain ⟨i, hi, e⟩ := e
  have ei := asI_ok hi ky
  cases e1 : ((asQ ox).bind fun ds => (atI ds i).map O.shr) with
  | some z =>
    rw [e1] at e
    cases e
    simp only [Option.bind_eq_some_iff, Option.map_eq_some_iff] at e1
    obtain ⟨ds, h1, d, h2, rfl⟩ := e1
    obtain ⟨a, xs, rfl, hq, dd⟩ := asQ_ok sb h1 kx
    obtain ⟨v, h3, h4⟩ := atI_dd dd h2
    rcases hq with hq | hq
    · exact .inl ⟨a, xs, i, v, rfl, ei, hq, h3, q.val sb h4⟩
    · exact .inr (.inl ⟨a, xs, i, v, rfl, ei, hq, h3, q.val sb h4⟩)
  | none =>
    rw [e1] at e
    simp only [Option.none_or, Option.bind_eq_some_iff] at e
    obtain ⟨s, hs, e⟩ := e
    split at e
    · next hl =>
      simp only [Option.map_eq_some_iff] at e
      obtain ⟨c, hc, rfl⟩ := e
      exact .inr (.inr ⟨s, i, c, asS_ok hs kx, ei, sz6 hl, hc, q.val sb (.str _)⟩)
    · cases e
end
end PV

set_option maxRecDepth 100000
set_option maxHeartbeats 2000000
namespace PV
open PySem L2

/-! ### slices -/
abbrev OF := Sto → Option (Option Int × Sto)
def SatO (K : PySem.W.Frag) (t : TO) (f : OF) : Prop := ∀ Hs H σ env b env', R K Hs H σ env → f env = some (b, env') →
  ∀ Q : Option Int → Hp → Prop, (∀ Hs' H', Po K Hs H σ env Hs' H' σ env' → Q b H') → t σ H Q
def vNoP : OF := fun env => some (none, env)
def vP (f : EF) : OF := fun env => (f env).bind fun p => (hGet p.2 p.1).bind fun o => (asI o).bind fun i => some (some i, p.2)
def cutD {α : Type} (xs : List α) (lo hi : Option Int) : List α := (xs.drop (HT.sIx xs.length 0 lo)).take (HT.sIx xs.length xs.length hi - HT.sIx xs.length 0 lo)
def asLQ : O → Option (List D)
  | .ol ds => some ds
  | .shr (.lst ds) => some ds
  | .shr (.scr ns) => some (ns.map .int)
  | _ => none
def oSl (o : O) (lo hi : Option Int) : Option O := ((asLQ o).map fun ds => O.ol (cutD ds lo hi)).or
  (((asT o).bind fun ds => if ¬ (HT.sIx ds.length 0 lo = 0 ∧ HT.sIx ds.length ds.length hi = ds.length) then some (.shr (.tup (cutD ds lo hi))) else none).or
  ((asS o).bind fun s => if s.length ≤ 1000000 then some (.shr (.str (cutS s lo hi))) else none))
def vSl (fa : EF) (fl fh : OF) : EF := fun env => (fa env).bind fun p => (fl p.2).bind fun l => (fh l.2).bind fun h => (hGet h.2 p.1).bind fun o => (oSl o l.1 h.1).bind fun r => some (.tmp r, h.2)
def rSlA (K : PySem.W.Frag) : V → Option Int → Option Int → Hp → VK → Prop := fun x lo hi H Q => rSlL K x lo hi H Q ∨ (rSlT K x lo hi H Q ∨ rSlS x lo hi H Q)
theorem sl_A {X : Cx} : SlR X (rSlA X.K) := sl_list.or (sl_tup.or sl_str)
section
variable {K : PySem.W.Frag} {te : TE} {fe : EF}
theorem sat_noP : SatO K tNoPart vNoP := fun Hs H σ env b env' r g Q q => by
  obtain ⟨rfl, rfl⟩ := Prod.mk.inj (Option.some.inj g)
  exact q Hs H (Po.refl r)
theorem sat_P (h : SatE K te fe) : SatO K (tPart te) (vP fe) := fun Hs H σ env b env' r g Q q => by
  simp only [vP, Option.bind_eq_some_iff] at g
  obtain ⟨⟨x, e1⟩, g1, o, g2, i, g3, g4⟩ := g
  obtain ⟨rfl, rfl⟩ := Prod.mk.inj (Option.some.inj g4)
  exact h Hs H σ env x _ r g1 _ fun Hs1 H1 v p1 k1 f1 => ⟨i, asI_ok g3 (k1.get p1.r g2), q Hs1 H1 p1⟩
theorem asLQ_ok {Hs H : Hp} {v : V} {o : O} {ds : List D} (sb : ∀ a u, Hs a = some u → H a = some u) (h : asLQ o = some ds) (k : ROk K Hs H v o) : ∃ a xs, v = .ref a ∧ SqL K H a xs ∧ DdAll K Hs ds xs := by
  cases o with
  | shr d =>
    cases d with
    | lst c =>
      cases h
      cases k with
      | lst e t => exact ⟨_, _, rfl, SqL.of (sb _ _ e), t⟩
    | scr c =>
      cases h
      cases k with
      | scr e => exact ⟨_, _, rfl, sq_mono sb e, DdAll.ints c⟩
    | _ => cases h
  | ol d =>
    cases h
    obtain ⟨a, xs, e, _, q, t⟩ := k
    exact ⟨a, xs, e, SqL.of q, t⟩
  | _ => cases h
theorem cut_dd {Hs : Hp} {ds : List D} {xs : List V} (t : DdAll K Hs ds xs) (lo hi : Option Int) : DdAll K Hs (cutD ds lo hi) (cutV xs lo hi) := by
  unfold cutD cutV
  rw [t.length]
  exact (t.drop _).take _
theorem s_sl {Hs H : Hp} {x : V} {ox o : O} {lo hi : Option Int} (sb : ∀ a u, Hs a = some u → H a = some u) (k : ROk K Hs H x ox) (e : oSl ox lo hi = some o) (Q : VK) (q : Res K Hs H o Q) : rSlA K x lo hi H Q := by
  unfold oSl at e
  cases e1 : (asLQ ox).map fun ds => O.ol (cutD ds lo hi) with
  | some z =>
    rw [e1] at e
    cases e
    simp only [Option.map_eq_some_iff] at e1
    obtain ⟨ds, h1, rfl⟩ := e1
    obtain ⟨a, xs, rfl, hq, dd⟩ := asLQ_ok sb h1 k
    exact .inl ⟨a, xs, rfl, hq, q.lst sb (cut_dd dd lo hi)⟩
  | none =>
    rw [e1] at e
    simp only [Option.none_or] at e
    cases e2 : ((asT ox).bind fun ds => if ¬ (HT.sIx ds.length 0 lo = 0 ∧ HT.sIx ds.length ds.length hi = ds.length) then some (O.shr (.tup (cutD ds lo hi))) else none) with
    | some z =>
      rw [e2] at e
      cases e
      simp only [Option.bind_eq_some_iff] at e2
      obtain ⟨ds, h1, e2⟩ := e2
      split at e2
      · next hc =>
        cases e2
        obtain ⟨a, xs, rfl, hq, dd⟩ := asT_ok sb h1 k
        exact .inr (.inl ⟨a, xs, rfl, SqT.of hq, by rw [dd.length]; exact hc, q.tup sb (cut_dd dd lo hi)⟩)
      · cases e2
    | none =>
      rw [e2] at e
      simp only [Option.none_or, Option.bind_eq_some_iff] at e
      obtain ⟨s, hs, e⟩ := e
      split at e
      · next hl =>
        cases e
        exact .inr (.inr ⟨s, asS_ok hs k, sz6 hl, q.val sb (.str _)⟩)
      · cases e
theorem sat_sl {tl th : TO} {fl fh : OF} (ha : SatE K te fe) (hl : SatO K tl fl) (hh : SatO K th fh) : SatE K (tSl (rSlA K) te tl th) (vSl fe fl fh) := fun Hs H σ env h env' r g Q q => by
  simp only [vSl, Option.bind_eq_some_iff] at g
  obtain ⟨⟨x, e1⟩, g1, ⟨l, e2⟩, g2, ⟨u, e3⟩, g3, o, g4, o2, g5, g6⟩ := g
  obtain ⟨rfl, rfl⟩ := Prod.mk.inj (Option.some.inj g6)
  refine ha Hs H σ env x e1 r g1 _ fun Hs1 H1 v p1 k1 f1 => ?_
  refine hl Hs1 H1 σ e1 l e2 p1.r g2 _ fun Hs2 H2 p2 => ?_
  refine hh Hs2 H2 σ e2 u _ p2.r g3 _ fun Hs3 H3 p3 => ?_
  exact s_sl p3.r.sub (((k1.step p2).step p3).get p3.r g4) g5 Q (((p1.trans p2).trans p3).res q)

/-! ### truth -/
def truO : O → Option Bool
  | .shr .non => some false
  | .shr (.bl b) => some b
  | .shr (.int i) => some (i != 0)
  | .shr (.str s) => if s.length ≤ 1000000 then some ((s.length : Int) != 0) else none
  | .ol ds => some !ds.isEmpty
  | .od kvs => some !kvs.isEmpty
  | .shr (.lst ds) => some !ds.isEmpty
  | .shr (.tup ds) => some !ds.isEmpty
  | _ => none
theorem DdAll.empty {Hs : Hp} {ds : List D} {xs : List V} (t : DdAll K Hs ds xs) : xs.isEmpty = ds.isEmpty := by cases t <;> rfl
theorem DdKv.empty {Hs : Hp} {ds : List (Key × D)} {xs : List (Key × V)} (t : DdKv K Hs ds xs) : xs.isEmpty = ds.isEmpty := by cases t <;> rfl
theorem truO_ok {Hs H : Hp} {x : V} {o : O} {b : Bool} (sb : ∀ a u, Hs a = some u → H a = some u) (e : truO o = some b) (k : ROk K Hs H x o) : TruV K x H b := by
  cases o with
  | ol ds =>
    obtain ⟨a, xs, rfl, _, q, t⟩ := k
    cases e
    exact .inl ⟨xs, SqL.of q, by rw [t.empty]⟩
  | od ds =>
    obtain ⟨a, xs, rfl, _, q, t⟩ := k
    cases e
    exact .inr (.inr ⟨xs, q, by rw [t.empty]⟩)
  | shr d =>
    cases k with
    | non => cases e; exact rfl
    | bl b => cases e; exact rfl
    | int i => cases e; exact rfl
    | str s =>
      simp only [truO] at e
      split at e
      · next h => cases e; exact ⟨sz6 h, rfl⟩
      · cases e
    | tup h t => cases e; exact .inr (.inl ⟨_, SqT.of (sb _ _ h), by rw [t.empty]⟩)
    | lst h t => cases e; exact .inl ⟨_, SqL.of (sb _ _ h), by rw [t.empty]⟩
    | dk h t => cases e
    | scr h => cases e
    | opq v => cases e
def tTruV (K : PySem.W.Frag) (ta : TE) : TT := fun σ H Q => ta σ H fun x H' => ∃ k, TruV K x H' k ∧ Q k H'
def bTru (f : EF) : BF := fun env => (f env).bind fun p => (hGet p.2 p.1).bind fun o => (truO o).bind fun b => some (b, p.2)
theorem sat_tru (ha : SatE K te fe) : SatT K (tTruV K te) (bTru fe) := fun Hs H σ env b env' r g Q q => by
  simp only [bTru, Option.bind_eq_some_iff] at g
  obtain ⟨⟨h, e1⟩, g1, o, g2, b1, g3, g4⟩ := g
  obtain ⟨rfl, rfl⟩ := Prod.mk.inj (Option.some.inj g4)
  exact ha Hs H σ env h _ r g1 _ fun Hs1 H1 v p1 k1 f1 => ⟨b1, truO_ok p1.r.sub g3 (k1.get p1.r g2), q Hs1 H1 p1⟩
end

/-! ### built-in functions -/
def asInts : List D → Option (List Int)
  | [] => some []
  | .int i :: r => (asInts r).map (i :: ·)
  | _ => none
def asBls : List D → Option (List Bool)
  | [] => some []
  | .bl i :: r => (asBls r).map (i :: ·)
  | _ => none
def asStrs : List D → Option (List Str)
  | [] => some []
  | .str i :: r => (asStrs r).map (i :: ·)
  | _ => none
section
variable {K : PySem.W.Frag} {Hs H : Hp}
theorem asInts_ok : ∀ {ds : List D} {vs : List V} {ns : List Int}, asInts ds = some ns → DdAll K Hs ds vs → vs = ns.map V.int
  | [], _, _, e, .nil => by cases e; rfl
  | d :: r, _, _, e, .cons a b => by
    cases d with
    | int i =>
      simp only [asInts, Option.map_eq_some_iff] at e
      obtain ⟨ns, h, rfl⟩ := e
      cases a
      rw [asInts_ok h b]; rfl
    | _ => cases e
theorem asBls_ok : ∀ {ds : List D} {vs : List V} {ns : List Bool}, asBls ds = some ns → DdAll K Hs ds vs → vs = ns.map V.bl
  | [], _, _, e, .nil => by cases e; rfl
  | d :: r, _, _, e, .cons a b => by
    cases d with
    | bl i =>
      simp only [asBls, Option.map_eq_some_iff] at e
      obtain ⟨ns, h, rfl⟩ := e
      cases a
      rw [asBls_ok h b]; rfl
    | _ => cases e
theorem asStrs_ok : ∀ {ds : List D} {vs : List V} {ns : List Str}, asStrs ds = some ns → DdAll K Hs ds vs → vs = ns.map V.str
  | [], _, _, e, .nil => by cases e; rfl
  | d :: r, _, _, e, .cons a b => by
    cases d with
    | str i =>
      simp only [asStrs, Option.map_eq_some_iff] at e
      obtain ⟨ns, h, rfl⟩ := e
      cases a
      rw [asStrs_ok h b]; rfl
    | _ => cases e
theorem asInts_map (ns : List Int) : asInts (ns.map D.int) = some ns := by
  induction ns with
  | nil => rfl
  | cons n r ih => simp [asInts, ih]
theorem asBls_map (ns : List Bool) : asBls (ns.map D.bl) = some ns := by
  induction ns with
  | nil => rfl
  | cons n r ih => simp [asBls, ih]
theorem asStrs_map (ns : List Str) : asStrs (ns.map D.str) = some ns := by
  induction ns with
  | nil => rfl
  | cons n r ih => simp [asStrs, ih]
theorem ROks.one {xs : List V} {o : O} (k : ROks K Hs H xs [o]) : ∃ x, xs = [x] ∧ ROk K Hs H x o := by
  cases k with
  | cons a b => cases b; exact ⟨_, rfl, a⟩
theorem ROks.two {xs : List V} {o o' : O} (k : ROks K Hs H xs [o, o']) : ∃ x y, xs = [x, y] ∧ ROk K Hs H x o ∧ ROk K Hs H y o' := by
  cases k with
  | cons a b =>
    obtain ⟨y, rfl, q⟩ := b.one
    exact ⟨_, _, rfl, a, q⟩
end
def one1 (g : O → Option O) : List O → Option O
  | [o] => g o
  | _ => none
def two2 (g : O → O → Option O) : List O → Option O
  | [o, p] => g o p
  | _ => none
section
variable {K : PySem.W.Frag}
theorem sat_one {r : List V → Hp → VK → Prop} {g : O → Option O} (h : ∀ Hs H x ox o, (∀ a u, Hs a = some u → H a = some u) → ROk K Hs H x ox → g ox = some o → ∀ Q, Res K Hs H o Q → r [x] H Q) : CallSat K r (one1 g) := by
  intro Hs H xs os o sb k e Q q
  match os, e with
  | [o'], e =>
    obtain ⟨x, rfl, kx⟩ := k.one
    exact h Hs H x o' o sb kx e Q q
theorem sat_two {r : List V → Hp → VK → Prop} {g : O → O → Option O} (h : ∀ Hs H x y ox oy o, (∀ a u, Hs a = some u → H a = some u) → ROk K Hs H x ox → ROk K Hs H y oy → g ox oy = some o → ∀ Q, Res K Hs H o Q → r [x, y] H Q) : CallSat K r (two2 g) := by
  intro Hs H xs os o sb k e Q q
  match os, e with
  | [o1, o2], e =>
    obtain ⟨x, y, rfl, kx, ky⟩ := k.two
    exact h Hs H x y o1 o2 o sb kx ky e Q q
/-- len -/
def rLenQ (K : PySem.W.Frag) : List V → Hp → VK → Prop := fun xs H Q => ∃ p ys, xs = [.ref p] ∧ (SqL K H p ys ∨ SqT K H p ys) ∧ Q (.int ys.length) H
def rLenS : List V → Hp → VK → Prop := fun xs H Q => ∃ z, xs = [.str z] ∧ z.length ≤ sizeLine ∧ Q (.int z.length) H
def rLenK : List V → Hp → VK → Prop := fun xs H Q => ∃ a kvs, xs = [V.ref a] ∧ Rd H a (.dK kvs) ∧ Q (.int kvs.length) H
theorem call_lenK {X : Cx} : CallR X (.builtin "len") rLenK := by
  intro pins s σ H xs us Q I r h
  obtain ⟨a, kvs, rfl, ha, q⟩ := h
  obtain ⟨u, rfl, ru⟩ := vals1 r
  cases ru
  exact d_len I ha fun t s' I' => ⟨.int kvs.length, H, I', ⟨t, rfl⟩, q⟩
def rLenA (K : PySem.W.Frag) : List V → Hp → VK → Prop := fun xs H Q => rLenQ K xs H Q ∨ (rLenS xs H Q ∨ rLenK xs H Q)
theorem call_lenA {X : Cx} : CallR X (.builtin "len") (rLenA X.K) := call_len_seq.or (call_len_str.or call_lenK)
def oLen : List O → Option O := fun os => (one1 (fun o => (asQ o).map fun ds => O.shr (.int ds.length)) os).or ((one1 (fun o => (asS o).bind fun s => if s.length ≤ 1000000 then some (.shr (.int s.length)) else none) os).or (one1 (fun o => (asK o).map fun ds => O.shr (.int ds.length)) os))
theorem s_len : CallSat K (rLenA K) oLen := by
  refine CallSat.or (sat_one fun Hs H x ox o sb k e Q q => ?_) (CallSat.or (sat_one fun Hs H x ox o sb k e Q q => ?_) (sat_one fun Hs H x ox o sb k e Q q => ?_))
  · simp only [Option.map_eq_some_iff] at e
    obtain ⟨ds, hd, rfl⟩ := e
    obtain ⟨a, xs, rfl, hq, dd⟩ := asQ_ok sb hd k
    exact ⟨a, xs, rfl, hq, by rw [dd.length]; exact q.val sb (.int _)⟩
  · simp only [Option.bind_eq_some_iff] at e
    obtain ⟨s, hs, e⟩ := e
    split at e
    · next hl => cases e; exact ⟨s, by rw [asS_ok hs k], sz6 hl, q.val sb (.int _)⟩
    · cases e
  · simp only [Option.map_eq_some_iff] at e
    obtain ⟨ds, hd, rfl⟩ := e
    obtain ⟨a, xs, rfl, hq, dd⟩ := asK_ok sb hd k
    exact ⟨a, xs, rfl, .inl hq, by rw [dd.length]; exact q.val sb (.int _)⟩
/-- abs, min, max of two -/
def rAbs : List V → Hp → VK → Prop := fun xs H Q => ∃ i, xs = [.int i] ∧ Q (.int (if i < 0 then -i else i)) H
def oAbs : List O → Option O := one1 fun o => (asI o).map fun i => .shr (.int (if i < 0 then -i else i))
theorem s_abs : CallSat K rAbs oAbs := sat_one fun Hs H x ox o sb k e Q q => by
  simp only [Option.map_eq_some_iff] at e
  obtain ⟨i, hi, rfl⟩ := e
  exact ⟨i, by rw [asI_ok hi k], q.val sb (.int _)⟩
def rMax2' : List V → Hp → VK → Prop := fun xs H Q => ∃ i j, xs = [.int i, .int j] ∧ Q (.int (if j > i then j else i)) H
def rMin2' : List V → Hp → VK → Prop := fun xs H Q => ∃ i j, xs = [.int i, .int j] ∧ Q (.int (if j < i then j else i)) H
def oMax2 : List O → Option O := two2 fun o p => (asI o).bind fun i => (asI p).map fun j => .shr (.int (if j > i then j else i))
def oMin2 : List O → Option O := two2 fun o p => (asI o).bind fun i => (asI p).map fun j => .shr (.int (if j < i then j else i))
theorem s_max2 : CallSat K rMax2' oMax2 := sat_two fun Hs H x y ox oy o sb k ky e Q q => by
  simp only [Option.map_eq_some_iff, Option.bind_eq_some_iff] at e
  obtain ⟨i, hi, j, hj, rfl⟩ := e
  exact ⟨i, j, by rw [asI_ok hi k, asI_ok hj ky], q.val sb (.int _)⟩
theorem s_min2 : CallSat K rMin2' oMin2 := sat_two fun Hs H x y ox oy o sb k ky e Q q => by
  simp only [Option.map_eq_some_iff, Option.bind_eq_some_iff] at e
  obtain ⟨i, hi, j, hj, rfl⟩ := e
  exact ⟨i, j, by rw [asI_ok hi k, asI_ok hj ky], q.val sb (.int _)⟩
/-- min, max, sum, any, all, sorted of a list -/
def leastI : Int → List Int → Int
  | i, [] => i
  | i, j :: r => leastI (if j < i then j else i) r
def greatI : Int → List Int → Int
  | i, [] => i
  | i, j :: r => greatI (if i < j then j else i) r
theorem leastI_ok : ∀ (ns : List Int) (i : Int), (leastI i ns ∈ i :: ns) ∧ ∀ y ∈ i :: ns, leastI i ns ≤ y
  | [], i => ⟨by simp [leastI], fun y h => by simp at h; simp [leastI, h]⟩
  | j :: r, i => by
    obtain ⟨h1, h2⟩ := leastI_ok r (if j < i then j else i)
    show leastI (if j < i then j else i) r ∈ i :: j :: r ∧ ∀ y ∈ i :: j :: r, leastI (if j < i then j else i) r ≤ y
    have hb := h2 _ List.mem_cons_self
    refine ⟨?_, fun y h => ?_⟩
    · rcases List.mem_cons.mp h1 with e | e
      · rw [e]; split <;> simp
      · simp [e]
    · rcases List.mem_cons.mp h with e | e
      · subst e
        refine Int.le_trans hb ?_
        split <;> omega
      · rcases List.mem_cons.mp e with e | e
        · subst e
          refine Int.le_trans hb ?_
          split <;> omega
        · exact h2 y (List.mem_cons_of_mem _ e)
theorem greatI_ok : ∀ (ns : List Int) (i : Int), (greatI i ns ∈ i :: ns) ∧ ∀ y ∈ i :: ns, y ≤ greatI i ns
  | [], i => ⟨by simp [greatI], fun y h => by simp at h; simp [greatI, h]⟩
  | j :: r, i => by
    obtain ⟨h1, h2⟩ := greatI_ok r (if i < j then j else i)
    show greatI (if i < j then j else i) r ∈ i :: j :: r ∧ ∀ y ∈ i :: j :: r, y ≤ greatI (if i < j then j else i) r
    have hb := h2 _ List.mem_cons_self
    refine ⟨?_, fun y h => ?_⟩
    · rcases List.mem_cons.mp h1 with e | e
      · rw [e]; split <;> simp
      · simp [e]
    · rcases List.mem_cons.mp h with e | e
      · subst e
        refine Int.le_trans ?_ hb
        split <;> omega
      · rcases List.mem_cons.mp e with e | e
        · subst e
          refine Int.le_trans ?_ hb
          split <;> omega
        · exact h2 y (List.mem_cons_of_mem _ e)
def oSum : List O → Option O := one1 fun o => (asLQ o).bind fun ds => (asInts ds).map fun ns => .shr (.int ns.sum)
theorem s_sum : CallSat K (rSum K) oSum := sat_one fun Hs H x ox o sb k e Q q => by
  simp only [Option.map_eq_some_iff, Option.bind_eq_some_iff] at e
  obtain ⟨ds, hd, ns, hn, rfl⟩ := e
  obtain ⟨a, xs, rfl, hq, dd⟩ := asLQ_ok sb hd k
  rw [asInts_ok hn dd] at hq
  exact ⟨a, ns, rfl, hq, q.val sb (.int _)⟩
def oMinL : List O → Option O := one1 fun o => (asLQ o).bind fun ds => (asInts ds).bind fun ns => match ns with
  | [] => none
  | i :: r => some (.shr (.int (leastI i r)))
def oMaxL : List O → Option O := one1 fun o => (asLQ o).bind fun ds => (asInts ds).bind fun ns => match ns with
  | [] => none
  | i :: r => some (.shr (.int (greatI i r)))
theorem s_minL : CallSat K (rMin K) oMinL := sat_one fun Hs H x ox o sb k e Q q => by
  simp only [Option.bind_eq_some_iff] at e
  obtain ⟨ds, hd, ns, hn, e⟩ := e
  obtain ⟨a, xs, rfl, hq, dd⟩ := asLQ_ok sb hd k
  rw [asInts_ok hn dd] at hq
  cases ns with
  | nil => cases e
  | cons i r =>
    cases e
    obtain ⟨h1, h2⟩ := leastI_ok r i
    refine ⟨a, i :: r, rfl, hq, by simp, fun m hm hl => ?_⟩
    have em : m = leastI i r := Int.le_antisymm (hl _ h1) (h2 m hm)
    rw [em]
    exact q.val sb (.int _)
theorem s_maxL : CallSat K (rMax K) oMaxL := sat_one fun Hs H x ox o sb k e Q q => by
  simp only [Option.bind_eq_some_iff] at e
  obtain ⟨ds, hd, ns, hn, e⟩ := e
  obtain ⟨a, xs, rfl, hq, dd⟩ := asLQ_ok sb hd k
  rw [asInts_ok hn dd] at hq
  cases ns with
  | nil => cases e
  | cons i r =>
    cases e
    obtain ⟨h1, h2⟩ := greatI_ok r i
    refine ⟨a, i :: r, rfl, hq, by simp, fun m hm hl => ?_⟩
    have em : m = greatI i r := Int.le_antisymm (h2 m hm) (hl _ h1)
    rw [em]
    exact q.val sb (.int _)
def oMax (os : List O) : Option O := (oMax2 os).or (oMaxL os)
def oMin (os : List O) : Option O := (oMin2 os).or (oMinL os)
def rMaxA (K : PySem.W.Frag) : List V → Hp → VK → Prop := fun xs H Q => rMax2' xs H Q ∨ rMax K xs H Q
def rMinA (K : PySem.W.Frag) : List V → Hp → VK → Prop := fun xs H Q => rMin2' xs H Q ∨ rMin K xs H Q
theorem s_max : CallSat K (rMaxA K) oMax := s_max2.or s_maxL
theorem s_min : CallSat K (rMinA K) oMin := s_min2.or s_minL
theorem call_maxA {X : Cx} (hc : X.calm = true) : CallR X (.builtin "max") (rMaxA X.K) := (call_max2 hc).or (cr_max hc)
theorem call_minA {X : Cx} (hc : X.calm = true) : CallR X (.builtin "min") (rMinA X.K) := (call_min2 hc).or (cr_min hc)
def oAll : List O → Option O := one1 fun o => (asLQ o).bind fun ds => (asBls ds).map fun ns => .shr (.bl (ns.all id))
def oAny : List O → Option O := one1 fun o => (asLQ o).bind fun ds => (asBls ds).map fun ns => .shr (.bl (ns.any id))
theorem s_all : CallSat K (rAll K) oAll := sat_one fun Hs H x ox o sb k e Q q => by
  simp only [Option.map_eq_some_iff, Option.bind_eq_some_iff] at e
  obtain ⟨ds, hd, ns, hn, rfl⟩ := e
  obtain ⟨a, xs, rfl, hq, dd⟩ := asLQ_ok sb hd k
  rw [asBls_ok hn dd] at hq
  exact ⟨a, ns, rfl, hq, q.val sb (.bl _)⟩
theorem s_any : CallSat K (rAny K) oAny := sat_one fun Hs H x ox o sb k e Q q => by
  simp only [Option.map_eq_some_iff, Option.bind_eq_some_iff] at e
  obtain ⟨ds, hd, ns, hn, rfl⟩ := e
  obtain ⟨a, xs, rfl, hq, dd⟩ := asLQ_ok sb hd k
  rw [asBls_ok hn dd] at hq
  exact ⟨a, ns, rfl, hq, q.val sb (.bl _)⟩
/-- list(..) -/
def rListQ (K : PySem.W.Frag) : List V → Hp → VK → Prop := fun xs H Q => ∃ p ys, xs = [.ref p] ∧ (SqL K H p ys ∨ SqT K H p ys) ∧ ∀ l, H l = none → Q (.ref l) (upd H l (.lst ys))
def oList : List O → Option O := one1 fun o => (asQ o).map .ol
theorem s_list : CallSat K (rListQ K) oList := sat_one fun Hs H x ox o sb k e Q q => by
  simp only [Option.map_eq_some_iff] at e
  obtain ⟨ds, hd, rfl⟩ := e
  obtain ⟨a, xs, rfl, hq, dd⟩ := asQ_ok sb hd k
  exact ⟨a, xs, rfl, hq, q.lst sb dd⟩
/-- int(..), str(..) -/
def rInt1 : List V → Hp → VK → Prop := fun xs H Q => (∃ i, xs = [.int i] ∧ Q (.int i) H) ∨ ∃ k, xs = [.bl k] ∧ Q (.int (if k then 1 else 0)) H
def rIntS : List V → Hp → VK → Prop := fun xs H Q => ∃ a n, xs = [.str a] ∧ PySem.intText? a = some n ∧ a.length ≤ 640 ∧ Q (.int n) H
def rIntA : List V → Hp → VK → Prop := fun xs H Q => rInt1 xs H Q ∨ rIntS xs H Q
theorem call_intA {X : Cx} : CallR X (.type "int") rIntA := call_int1.or call_int_str
def oInt1 : List O → Option O := one1 fun o => match o with
  | .shr (.int i) => some (.shr (.int i))
  | .shr (.bl b) => some (.shr (.int (if b then 1 else 0)))
  | _ => none
def oIntS : List O → Option O := one1 fun o => (asS o).bind fun s => if s.length ≤ 640 then (PySem.intText? s).map fun n => .shr (.int n) else none
def oInt (os : List O) : Option O := (oInt1 os).or (oIntS os)
theorem s_int : CallSat K rIntA oInt := by
  refine CallSat.or (sat_one fun Hs H x ox o sb k e Q q => ?_) (sat_one fun Hs H x ox o sb k e Q q => ?_)
  · split at e
    · cases e; cases k; exact .inl ⟨_, rfl, q.val sb (.int _)⟩
    · cases e; cases k; exact .inr ⟨_, rfl, q.val sb (.int _)⟩
    · cases e
  · simp only [Option.bind_eq_some_iff] at e
    obtain ⟨s, hs, e⟩ := e
    split at e
    · next hl =>
      simp only [Option.map_eq_some_iff] at e
      obtain ⟨n, hn, rfl⟩ := e
      exact ⟨s, n, by rw [asS_ok hs k], hn, hl, q.val sb (.int _)⟩
    · cases e
def rStrI : List V → Hp → VK → Prop := fun xs H Q => ∃ i, xs = [.int i] ∧ i.natAbs.log2 < 1920 ∧ Q (.str (toString i)) H
def oStr : List O → Option O := one1 fun o => (asI o).bind fun i => if i.natAbs.log2 < 1920 then some (.shr (.str (toString i))) else none
theorem s_str : CallSat K rStrI oStr := sat_one fun Hs H x ox o sb k e Q q => by
  simp only [Option.bind_eq_some_iff] at e
  obtain ⟨i, hi, e⟩ := e
  split at e
  · next h => cases e; exact ⟨i, by rw [asI_ok hi k], h, q.val sb (.str _)⟩
  · cases e
/-- isinstance(x, T) -/
inductive Ty where
  | bool | int | str | dict | tuple | list
  deriving DecidableEq
def Ty.name : Ty → String
  | .bool => "bool" | .int => "int" | .str => "str" | .dict => "dict" | .tuple => "tuple" | .list => "list"
def tyO : O → Option (Option Ty)
  | .shr .non => some none
  | .shr (.bl _) => some (some .bool)
  | .shr (.int _) => some (some .int)
  | .shr (.str _) => some (some .str)
  | .shr (.tup _) => some (some .tuple)
  | .shr (.lst _) => some (some .list)
  | .ol _ => some (some .list)
  | .od _ => some (some .dict)
  | .shr (.dk _) => some (some .dict)
  | _ => none
def isTy : Option Ty → Ty → Bool
  | none, _ => false
  | some t, c => decide (t = c) || (decide (t = .bool) && decide (c = .int))
def tyV' : Option Ty → String
  | none => "NoneType"
  | some t => t.name
theorem isTy_ok (t : Option Ty) (c : Ty) : kitB (tyV' t) c.name = some (isTy t c) := by
  cases t with
  | none => cases c <;> decide +kernel
  | some t => cases t <;> cases c <;> decide +kernel
theorem tyO_ok {Hs H : Hp} {x : V} {o : O} {t : Option Ty} (sb : ∀ a u, Hs a = some u → H a = some u) (e : tyO o = some t) (k : ROk K Hs H x o) : TyX K H x (.type (tyV' t)) := by
  cases o with
  | ol ds =>
    obtain ⟨a, xs, rfl, _, q, _⟩ := k
    cases e
    exact .base (.lst q)
  | od ds =>
    obtain ⟨a, xs, rfl, _, q, _⟩ := k
    cases e
    exact .base (.dK q)
  | shr d =>
    cases k with
    | non => cases e; exact .base .non
    | bl b => cases e; exact .base (.bl b)
    | int b => cases e; exact .base (.int b)
    | str b => cases e; exact .base (.str b)
    | tup h t => cases e; exact .base (.tup (sb _ _ h))
    | lst h t => cases e; exact .base (.lst (sb _ _ h))
    | dk h t =>
      cases e
      exact .base (.dK (sb _ _ h))
    | scr h => cases e
    | opq v => cases e
def oIsi : List O → Option O := two2 fun o p => match p with
  | .shr (.opq (.ty n)) => (tyO o).bind fun t => match n with
    | "bool" => some (.shr (.bl (isTy t .bool)))
    | "int" => some (.shr (.bl (isTy t .int)))
    | "str" => some (.shr (.bl (isTy t .str)))
    | "dict" => some (.shr (.bl (isTy t .dict)))
    | "tuple" => some (.shr (.bl (isTy t .tuple)))
    | "list" => some (.shr (.bl (isTy t .list)))
    | _ => none
  | _ => none
theorem s_isi : CallSat K (rIsi K) oIsi := sat_two fun Hs H x y ox oy o sb k ky e Q q => by
  split at e
  · next n =>
    cases ky
    simp only [Option.bind_eq_some_iff] at e
    obtain ⟨t, ht, e⟩ := e
    have ty := tyO_ok sb ht k
    have go : ∀ c : Ty, n = c.name → some (O.shr (.bl (isTy t c))) = some o → rIsi K [x, .ty n] H Q := fun c hc e' => by
      subst hc
      cases e'
      exact ⟨x, _, _, _, _, rfl, .ty _, ty, kit_ty (isTy_ok t c), q.val sb (.bl _)⟩
    split at e
    · exact go .bool rfl e
    · exact go .int rfl e
    · exact go .str rfl e
    · exact go .dict rfl e
    · exact go .tuple rfl e
    · exact go .list rfl e
    · cases e
  · cases e
end
end PV

set_option maxRecDepth 100000
set_option maxHeartbeats 2000000
namespace PV
open PySem L2

/-! ### calls of the text's own defs -/
inductive Rs where
  | o (o : O) | par (j : Nat) | two (d : D) (ds : List D)
abbrev FF := List O → Option (Rs × List O)
def Dis (vs : List V) (os : List O) : Prop := ∀ (j k : Nat) (o p : O) (a : Addr), os[j]? = some o → o.own = true → os[k]? = some p → p.own = true → vs[j]? = some (.ref a) → vs[k]? = some (.ref a) → j = k
def ArgM (vs : List V) (os : List O) : Mu := fun a => ∃ (j : Nat) (o : O), os[j]? = some o ∧ o.own = true ∧ vs[j]? = some (.ref a)
/-- a new tuple of shared data and of a new list of one's own -/
def PairOk (K : PySem.W.Frag) (Hs' H' H : Hp) (v : V) (d : D) (ds : List D) : Prop := ∃ T v1 a, v = .ref T ∧ Hs' T = some (.tup [v1, .ref a]) ∧ Dd K Hs' d v1 ∧ ROk K Hs' H' (.ref a) (.ol ds) ∧ H a = none
def RetOk (K : PySem.W.Frag) (Hs' H' H : Hp) (vs : List V) (v : V) : Rs → Prop
  | .o o => ROk K Hs' H' v o ∧ Fre H v o
  | .par j => vs[j]? = some v
  | .two d ds => PairOk K Hs' H' H v d ds
/-- what a def promises that computes F -/
def spV (K : PySem.W.Frag) (F : FF) : Sp := fun vs H Q _ => ∃ Hs os r fin, (∀ a u, Hs a = some u → H a = some u) ∧ ROks K Hs H vs os ∧ Dis vs os ∧ F os = some (r, fin) ∧
  ∀ Hs' H' v, Ext (ArgM vs os) Hs H Hs' H' → (∀ a u, Hs' a = some u → H' a = some u) → (∀ (j : Nat) (o f : O) (w : V), os[j]? = some o → o.own = true → fin[j]? = some f → vs[j]? = some w → ROk K Hs' H' w f) → RetOk K Hs' H' H vs v r → Q v H'
def fnd (i : Nat) : List Hnd → List O → List O → Option O
  | .var j :: hs, o :: os, f :: fs => if j = i ∧ o.own = true then some f else fnd i hs os fs
  | .tmp _ :: hs, _ :: os, _ :: fs => fnd i hs os fs
  | _, _, _ => none
def wb (env : Sto) (hs : List Hnd) (os fs : List O) : Sto := env.mapIdx fun i x => x.map fun s => match fnd i hs os fs with
  | some f => { s with o := f }
  | none => s
def isLk (env : Sto) (i : Nat) : Bool := match env[i]? with
  | some (some s) => s.lk
  | _ => true
def lent (i : Nat) : List Hnd → List O → Bool
  | .var j :: hs, o :: os => (decide (j = i) && o.own) || lent i hs os
  | .tmp _ :: hs, _ :: os => lent i hs os
  | _, _ => false
def lendOk (env : Sto) : List Hnd → List O → Bool
  | .var i :: hs, o :: os => (!o.own || (!isLk env i && !lent i hs os)) && lendOk env hs os
  | .tmp _ :: hs, _ :: os => lendOk env hs os
  | _, _ => true
def resH (hs : List Hnd) (os fin : List O) : Rs → Option Hnd
  | .o o => some (.tmp o)
  | .par j => match hs[j]?, os[j]?, fin[j]? with
    | some (.var i), some _, some _ => some (.var i)
    | some (.tmp _), some o, some f => if o.own then some (.tmp f) else none
    | _, _, _ => none
  | .two _ _ => none
def vCall (F : FF) (fhs : HsF) : EF := fun env => (fhs env).bind fun p => (hGets p.2 p.1).bind fun os => if lendOk p.2 p.1 os then (F os).bind fun q => if q.2.length = os.length then (resH p.1 os q.2 q.1).bind fun h => some (h, wb p.2 p.1 os q.2) else none else none

section
variable {K : PySem.W.Frag} {Hs H : Hp} {σ : L2.St} {env : Sto}
theorem ROks.get {vs : List V} {os : List O} (k : ROks K Hs H vs os) : ∀ {j : Nat} {o : O}, os[j]? = some o → ∃ v, vs[j]? = some v ∧ ROk K Hs H v o := by
  induction k with
  | nil => intro j o e; simp at e
  | cons a b ih =>
    intro j o e
    cases j with
    | zero => simp at e; subst e; exact ⟨_, rfl, a⟩
    | succ j => exact ih (by simpa using e)
theorem ROks.length {vs : List V} {os : List O} (k : ROks K Hs H vs os) : vs.length = os.length := by
  induction k with
  | nil => rfl
  | cons a b ih => simp [ih]
theorem HOks.length {vs : List V} {hs : List Hnd} (k : HOks K Hs H σ env vs hs) : vs.length = hs.length := by
  induction k with
  | nil => rfl
  | cons a b c ih => simp [ih]
theorem HOks.get {vs : List V} {hs : List Hnd} (k : HOks K Hs H σ env vs hs) : ∀ {j : Nat} {h : Hnd}, hs[j]? = some h → ∃ v, vs[j]? = some v ∧ HOk K Hs H σ env v h := by
  induction k with
  | nil => intro j o e; simp at e
  | cons a b c ih =>
    intro j o e
    cases j with
    | zero => simp at e; subst e; exact ⟨_, rfl, a⟩
    | succ j => exact ih (by simpa using e)
/-- two new objects in a row stand apart -/
theorem HOks.apart {vs : List V} {hs : List Hnd} (k : HOks K Hs H σ env vs hs) : ∀ {i j : Nat} {o p : O} {v : V}, i < j → hs[i]? = some (.tmp o) → o.own = true → hs[j]? = some (.tmp p) → p.own = true → vs[i]? = some v → vs[j]? ≠ some v := by
  induction k with
  | nil => intro i j o p v _ e; simp at e
  | cons a b c ih =>
    intro i j o p v lt e1 w1 e2 w2 ev
    cases j with
    | zero => omega
    | succ j =>
      cases i with
      | zero =>
        simp at e1 ev e2
        subst ev
        simpa using b o e1 w1 j p e2 w2
      | succ i =>
        have := ih (i := i) (j := j) (o := o) (p := p) (v := v) (by omega) (by simpa using e1) w1 (by simpa using e2) w2 (by simpa using ev)
        simpa using this
theorem hGets_length : ∀ {hs : List Hnd} {os : List O}, hGets env hs = some os → os.length = hs.length
  | [], os, g => by cases g; rfl
  | h :: r, os, g => by
    simp only [hGets, Option.bind_eq_some_iff] at g
    obtain ⟨o, g1, os', g2, e⟩ := g
    cases e
    simp [hGets_length g2]
theorem hGets_get : ∀ {hs : List Hnd} {os : List O}, hGets env hs = some os → ∀ {j : Nat} {o : O}, os[j]? = some o → ∃ h, hs[j]? = some h ∧ hGet env h = some o
  | [], os, g, j, o, e => by cases g; simp at e
  | h :: r, os, g, j, o', e => by
    simp only [hGets, Option.bind_eq_some_iff] at g
    obtain ⟨o, g1, os', g2, e3⟩ := g
    cases e3
    cases j with
    | zero => simp at e; subst e; exact ⟨h, rfl, g1⟩
    | succ j =>
      obtain ⟨h', e1, e2⟩ := hGets_get g2 (j := j) (o := o') (by simpa using e)
      exact ⟨h', by simpa using e1, e2⟩
theorem lent_of : ∀ {hs : List Hnd} {os : List O} {j i : Nat} {o : O}, hs[j]? = some (.var i) → os[j]? = some o → o.own = true → lent i hs os = true
  | [], _, _, _, _, e, _, _ => by simp at e
  | _ :: _, [], _, _, _, _, e, _ => by simp at e
  | h :: hs, o' :: os, 0, i, o, e1, e2, w => by
    simp at e1 e2
    subst e1 e2
    simp [lent, w]
  | h :: hs, o' :: os, j + 1, i, o, e1, e2, w => by
    have q := lent_of (hs := hs) (os := os) (j := j) (i := i) (o := o) (by simpa using e1) (by simpa using e2) w
    cases h with
    | var k => simp [lent, q]
    | tmp k => simpa [lent] using q
theorem lendOk_get : ∀ {hs : List Hnd} {os : List O}, lendOk env hs os = true → ∀ {j i : Nat} {o : O}, hs[j]? = some (.var i) → os[j]? = some o → o.own = true → isLk env i = false
  | [], _, _, _, _, _, e, _, _ => by simp at e
  | _ :: _, [], _, _, _, _, _, e, _ => by simp at e
  | h :: hs, o' :: os, l, 0, i, o, e1, e2, w => by
    simp at e1 e2
    subst e1 e2
    simp [lendOk, w] at l
    exact l.1.1
  | h :: hs, o' :: os, l, j + 1, i, o, e1, e2, w => by
    have l' : lendOk env hs os = true := by
      cases h with
      | var k => simp [lendOk] at l; exact l.2
      | tmp k => simpa [lendOk] using l
    exact lendOk_get l' (j := j) (by simpa using e1) (by simpa using e2) w
theorem lendOk_once : ∀ {hs : List Hnd} {os : List O}, lendOk env hs os = true → ∀ {j k i : Nat} {o p : O}, hs[j]? = some (.var i) → os[j]? = some o → o.own = true → hs[k]? = some (.var i) → os[k]? = some p → p.own = true → j = k
  | [], _, _, _, _, _, _, _, e, _, _, _, _, _ => by simp at e
  | _ :: _, [], _, _, _, _, _, _, _, e, _, _, _, _ => by simp at e
  | h :: hs, o' :: os, l, 0, 0, i, o, p, e1, e2, w, e3, e4, w2 => rfl
  | h :: hs, o' :: os, l, 0, k + 1, i, o, p, e1, e2, w, e3, e4, w2 => by
    simp at e1 e2
    subst e1 e2
    simp [lendOk, w] at l
    have := lent_of (hs := hs) (os := os) (j := k) (i := i) (by simpa using e3) (by simpa using e4) w2
    rw [l.1.2] at this
    cases this
  | h :: hs, o' :: os, l, j + 1, 0, i, o, p, e1, e2, w, e3, e4, w2 => by
    simp at e3 e4
    subst e3 e4
    simp [lendOk, w2] at l
    have := lent_of (hs := hs) (os := os) (j := j) (i := i) (by simpa using e1) (by simpa using e2) w
    rw [l.1.2] at this
    cases this
  | h :: hs, o' :: os, l, j + 1, k + 1, i, o, p, e1, e2, w, e3, e4, w2 => by
    have l' : lendOk env hs os = true := by
      cases h with
      | var k => simp [lendOk] at l; exact l.2
      | tmp k => simpa [lendOk] using l
    rw [lendOk_once l' (j := j) (k := k) (by simpa using e1) (by simpa using e2) w (by simpa using e3) (by simpa using e4) w2]
theorem fnd_some : ∀ {hs : List Hnd} {os fs : List O} {i : Nat} {f : O}, fnd i hs os fs = some f → ∃ (j : Nat) (o : O), hs[j]? = some (.var i) ∧ os[j]? = some o ∧ o.own = true ∧ fs[j]? = some f
  | [], _, _, _, _, e => by simp [fnd] at e
  | h :: hs, [], _, _, _, e => by cases h <;> simp [fnd] at e
  | h :: hs, o :: os, [], _, _, e => by cases h <;> simp [fnd] at e
  | h :: hs, o :: os, g :: fs, i, f, e => by
    cases h with
    | var j =>
      simp only [fnd] at e
      split at e
      · next hc => cases e; exact ⟨0, o, by simp [hc.1], rfl, hc.2, rfl⟩
      · obtain ⟨j, o', a, b, c, d⟩ := fnd_some e
        exact ⟨j + 1, o', by simpa using a, by simpa using b, c, by simpa using d⟩
    | tmp t =>
      obtain ⟨j, o', a, b, c, d⟩ := fnd_some (hs := hs) (os := os) (fs := fs) (by simpa [fnd] using e)
      exact ⟨j + 1, o', by simpa using a, by simpa using b, c, by simpa using d⟩
theorem fnd_of : ∀ {hs : List Hnd} {os fs : List O} {i j : Nat} {o : O}, fs.length = os.length → hs[j]? = some (.var i) → os[j]? = some o → o.own = true → fnd i hs os fs ≠ none
  | [], _, _, _, _, _, _, e, _, _ => by simp at e
  | _ :: _, [], _, _, _, _, _, _, e, _ => by simp at e
  | _ :: _, _ :: _, [], _, _, _, l, _, _, _ => by simp at l
  | h :: hs, o' :: os, f :: fs, i, 0, o, l, e1, e2, w => by
    simp at e1 e2
    subst e1 e2
    simp [fnd, w]
  | h :: hs, o' :: os, f :: fs, i, j + 1, o, l, e1, e2, w => by
    have q := fnd_of (hs := hs) (os := os) (fs := fs) (i := i) (j := j) (o := o) (by simpa using l) (by simpa using e1) (by simpa using e2) w
    cases h with
    | var k =>
      simp only [fnd]
      split
      · simp
      · exact q
    | tmp k => simpa [fnd] using q
theorem wb_get {hs : List Hnd} {os fs : List O} {i : Nat} {s' : Slot} (e : (wb env hs os fs)[i]? = some (some s')) : ∃ s : Slot, env[i]? = some (some s) ∧ s'.pin = s.pin ∧ s'.lk = s.lk ∧ ((fnd i hs os fs = none ∧ s' = s) ∨ fnd i hs os fs = some s'.o) := by
  unfold wb at e
  rw [List.getElem?_mapIdx] at e
  cases h : env[i]? with
  | none => rw [h] at e; cases e
  | some x =>
    rw [h] at e
    cases x with
    | none => cases e
    | some s =>
      simp only [Option.map_some, Option.some.injEq] at e
      refine ⟨s, rfl, ?_⟩
      cases hf : fnd i hs os fs with
      | none => rw [hf] at e; subst e; exact ⟨rfl, rfl, .inl ⟨rfl, rfl⟩⟩
      | some f => rw [hf] at e; subst e; exact ⟨rfl, rfl, .inr rfl⟩
theorem wb_of {hs : List Hnd} {os fs : List O} {i : Nat} {s : Slot} (e : env[i]? = some (some s)) : ∃ s' : Slot, (wb env hs os fs)[i]? = some (some s') ∧ s'.pin = s.pin ∧ s'.lk = s.lk ∧ (fnd i hs os fs = none → s' = s) := by
  unfold wb
  rw [List.getElem?_mapIdx, e]
  simp only [Option.map_some]
  cases hf : fnd i hs os fs with
  | none => exact ⟨_, rfl, rfl, rfl, fun _ => rfl⟩
  | some f => exact ⟨_, rfl, rfl, rfl, fun z => nomatch z⟩
theorem ROk.own_ref {v : V} {o : O} (h : ROk K Hs H v o) (w : o.own = true) : ∃ a, v = .ref a := let ⟨a, _, e, _⟩ := h.ref w; ⟨a, e⟩
theorem call_all {F : FF} {t : TA} {fhs : HsF} {E : XK} {Hs H : Hp} {σ : L2.St} {env e1 : Sto} {hs : List Hnd} {os fin : List O} {r : Rs} {Q : VK} (ha : SatHs K t fhs) (r0 : R K Hs H σ env) (g1 : fhs env = some (hs, e1)) (g2 : hGets e1 hs = some os) (hl : lendOk e1 hs os = true) (g3 : F os = some (r, fin)) (hlen : fin.length = os.length)
    (q : ∀ Hs1 H1 vs Hs2 H2 v, Po K Hs H σ env Hs1 H1 σ e1 → HOks K Hs1 H1 σ e1 vs hs → HFrs H vs hs → (∀ (j : Nat) (o f : O) (w : V), os[j]? = some o → o.own = true → fin[j]? = some f → vs[j]? = some w → ROk K Hs2 H2 w f) → (∀ {i : Nat}, owns (wb e1 hs os fin) i → owns e1 i) → Po K Hs H σ env Hs2 H2 σ (wb e1 hs os fin) → (∀ {i : Nat} {a : Addr}, owns (wb e1 hs os fin) i → σ[i]? = some (some (.ref a)) → ∃ u, H1 a = some u) → RetOk K Hs2 H2 H1 vs v r → Q v H2) : tCall (spV K F) [] E t σ H Q := by
  refine ha Hs H σ env hs e1 r0 g1 _ fun Hs1 H1 vs p1 k1 f1 => ?_
  have ks := k1.gets p1.r g2
  -- where an own argument stands
  have at_ : ∀ {j : Nat} {o : O} {a : Addr}, os[j]? = some o → o.own = true → vs[j]? = some (.ref a) → (∃ i, hs[j]? = some (.var i) ∧ owns e1 i ∧ muts e1 i ∧ σ[i]? = some (some (.ref a))) ∨ (∃ o', hs[j]? = some (.tmp o') ∧ o'.own = true ∧ H a = none ∧ ∀ i, owns e1 i → σ[i]? ≠ some (some (.ref a))) := by
    intro j o a eo w ev
    obtain ⟨hh, eh, eg⟩ := hGets_get g2 eo
    obtain ⟨v, ev', hk⟩ := k1.get eh
    rw [ev] at ev'
    cases ev'
    cases hh with
    | var i =>
      obtain ⟨s, es, rfl⟩ := hGet_var eg
      have l := lendOk_get hl eh eo w
      unfold isLk at l
      rw [es] at l
      exact .inl ⟨i, eh, ⟨s, es, w⟩, ⟨s, es, w, l⟩, hk⟩
    | tmp o' =>
      cases eg
      exact .inr ⟨_, eh, w, (f1.get ev eh) w a rfl, hk.2 w⟩
  have dis : Dis vs os := by
    intro j k o p a e1' w1 e2' w2 ev1 ev2
    rcases at_ e1' w1 ev1 with ⟨i, b1, b2, _, b3⟩ | ⟨o1, b1, b2, _, b3⟩
    · rcases at_ e2' w2 ev2 with ⟨i', c1, c2, _, c3⟩ | ⟨o2, c1, c2, _, c3⟩
      · have ei := p1.r.inj i i' _ b2 c2 b3 c3
        subst ei
        exact lendOk_once hl b1 e1' w1 c1 e2' w2
      · exact absurd b3 (c3 i b2)
    · rcases at_ e2' w2 ev2 with ⟨i', c1, c2, _, c3⟩ | ⟨o2, c1, c2, _, c3⟩
      · exact absurd c3 (b3 i' c2)
      · rcases Nat.lt_trichotomy j k with z | z | z
        · exact absurd ev2 (k1.apart z b1 b2 c1 c2 ev1)
        · exact z
        · exact absurd ev1 (k1.apart z c1 c2 b1 b2 ev2)
  show spV K F (vs ++ []) H1 Q E
  rw [List.append_nil]
  refine ⟨Hs1, os, r, fin, p1.r.sub, ks, dis, g3, fun Hs2 H2 v e2 s2 fo ro => ?_⟩
  have owb : ∀ {i : Nat}, owns (wb e1 hs os fin) i → owns e1 i := by
    rintro i ⟨s', es', w⟩
    obtain ⟨s, es, _, _, c⟩ := wb_get es'
    rcases c with ⟨_, rfl⟩ | c
    · exact ⟨s', es, w⟩
    · obtain ⟨j, o, a1, a2, a3, a4⟩ := fnd_some c
      obtain ⟨hh, eh, eg⟩ := hGets_get g2 a2
      rw [a1] at eh
      cases eh
      obtain ⟨s0, es0, rfl⟩ := hGet_var eg
      exact ⟨s0, es0, a3⟩
  have R2 : R K Hs2 H2 σ (wb e1 hs os fin) := by
    refine ⟨by unfold wb; rw [List.length_mapIdx]; exact p1.r.len, s2, fun i s' es' => ?_, fun i j v o1 o2 => p1.r.inj i j v (owb o1) (owb o2)⟩
    obtain ⟨s, es, _, _, c⟩ := wb_get es'
    obtain ⟨w, ew, kw⟩ := p1.r.ok i s es
    refine ⟨w, ew, ?_⟩
    rcases c with ⟨hn, rfl⟩ | c
    · refine kw.step e2 fun ow a ea ⟨j, o, b1, b2, b3⟩ => ?_
      subst ea
      rcases at_ b1 b2 b3 with ⟨i', c1, c2, _, c3⟩ | ⟨o1, c1, c2, _, c3⟩
      · have ei := p1.r.inj i i' _ ⟨s', es, ow⟩ c2 ew c3
        subst ei
        exact fnd_of hlen c1 b1 b2 hn
      · exact c3 i ⟨s', es, ow⟩ ew
    · obtain ⟨j, o, a1, a2, a3, a4⟩ := fnd_some c
      obtain ⟨v', ev', hk⟩ := k1.get a1
      have hk : σ[i]? = some (some v') := hk
      rw [ew] at hk
      cases hk
      exact fo j o _ _ a2 a3 a4 ev'
  have po : Po K Hs H σ env Hs2 H2 σ (wb e1 hs os fin) := by
    refine ⟨R2, p1.ext.trans e2 fun a ⟨j, o, b1, b2, b3⟩ => ?_, fun i a oi e => ?_, fun i s es pn => ?_, fun i s es lk => ?_, fun i s es pn => ?_⟩
    · rcases at_ b1 b2 b3 with ⟨i', c1, c2, c3, c4⟩ | ⟨o1, c1, c2, c3, c4⟩
      · exact p1.mu a ⟨i', c3, c4⟩
      · exact .inr c3
    · rcases p1.own i a (owb oi) e with ⟨x1, x2, x3⟩ | x
      · refine .inl ⟨x1, x2, fun ⟨s', es', w, l⟩ => x3 ?_⟩
        obtain ⟨s, es, _, sl, _⟩ := wb_get es'
        obtain ⟨s0, es0, w0⟩ := owb oi
        rw [es] at es0
        cases es0
        exact ⟨s, es, w0, by rw [← sl]; exact l⟩
      · exact .inr x
    · obtain ⟨eσ, s1, es1, pn1, lk1⟩ := p1.pin i s es pn
      obtain ⟨s2, es2, pn2, lk2, _⟩ := wb_of (hs := hs) (os := os) (fs := fin) es1
      exact ⟨rfl, s2, es2, pn2.trans pn1, lk2.trans lk1⟩
    · obtain ⟨es1, eσ⟩ := p1.lk i s es lk
      obtain ⟨s2, es2, _, _, c⟩ := wb_of (hs := hs) (os := os) (fs := fin) es1
      have hn : fnd i hs os fin = none := by
        cases hf : fnd i hs os fin with
        | none => rfl
        | some f =>
          obtain ⟨j, o, a1, a2, a3, _⟩ := fnd_some hf
          have := lendOk_get hl a1 a2 a3
          unfold isLk at this
          rw [es1] at this
          simp only at this
          rw [lk] at this
          cases this
      rw [c hn] at es2
      exact ⟨es2, rfl⟩
    · obtain ⟨s1, es1, pe, _, _⟩ := wb_get es
      exact p1.np i s1 es1 (by rw [← pe]; exact pn)
  have there : ∀ {i : Nat} {a : Addr}, owns (wb e1 hs os fin) i → σ[i]? = some (some (.ref a)) → ∃ u, H1 a = some u := fun oi e => (p1.r.there (owb oi) e).2
  exact q Hs1 H1 vs Hs2 H2 v p1 k1 f1 fo owb po there ro
theorem sat_call {F : FF} {t : TA} {fhs : HsF} {E : XK} (ha : SatHs K t fhs) : SatE K (tCall (spV K F) [] E t) (vCall F fhs) := by
  intro Hs H σ env h env' r0 g Q q
  simp only [vCall, Option.bind_eq_some_iff] at g
  obtain ⟨⟨hs, e1⟩, g1, os, g2, g⟩ := g
  split at g
  · next hl =>
    simp only [Option.bind_eq_some_iff] at g
    obtain ⟨⟨r, fin⟩, g3, g⟩ := g
    split at g
    · next hlen =>
      simp only [Option.bind_eq_some_iff] at g
      obtain ⟨h', g4, g5⟩ := g
      obtain ⟨rfl, rfl⟩ := Prod.mk.inj (Option.some.inj g5)
      refine call_all ha r0 g1 g2 hl g3 hlen fun Hs1 H1 vs Hs2 H2 v p1 k1 f1 fo owb po there ro => ?_
      cases r with
      | o o =>
        cases g4
        obtain ⟨ko, fo'⟩ := ro
        refine q Hs2 H2 v po ⟨ko, fun w i oi e => ?_⟩ (Fre.back fo' p1.ext)
        obtain ⟨a, rfl⟩ := ko.own_ref w
        obtain ⟨u, hu⟩ := there oi e
        rw [fo' w a rfl] at hu
        cases hu
      | par j =>
        have ro : vs[j]? = some v := ro
        unfold resH at g4
        dsimp only at g4
        split at g4
        · next i o f c1 c2 c3 =>
          cases g4
          obtain ⟨v', ev', hk⟩ := k1.get c1
          rw [ro] at ev'
          cases ev'
          exact q Hs2 H2 v po hk True.intro
        · next o' o f c1 c2 c3 =>
          split at g4
          · next w =>
            cases g4
            obtain ⟨v', ev', hk⟩ := k1.get c1
            rw [ro] at ev'
            cases ev'
            obtain ⟨hh, eh, eg⟩ := hGets_get g2 c2
            rw [c1] at eh
            cases eh
            cases eg
            exact q Hs2 H2 v po ⟨fo j _ f v c2 w c3 ro, fun _ i oi => hk.2 w i (owb oi)⟩ (fun _ a ea => (f1.get ro c1) w a ea)
          · cases g4
        · cases g4
      | two d ds => cases g4
    · cases g
  · cases g
end
end PV

set_option maxRecDepth 100000
set_option maxHeartbeats 2000000
namespace PV
open PySem L2

/-! ### statements -/
inductive Out where
  | nx (e : Sto) | rt (r : Rs) (e : Sto) | bk (e : Sto) | ct (e : Sto)
abbrev SF := Sto → Option Out
/-- what a return leaves -/
structure PoR (K : PySem.W.Frag) (Hs H : Hp) (σ : L2.St) (env : Sto) (Hs' H' : Hp) (σ' : L2.St) (env' : Sto) : Prop where
  r : R K Hs' H' σ' env'
  ext : Ext (Mof σ env) Hs H Hs' H'
  pin : ∀ (i : Nat) (s : Slot), env[i]? = some (some s) → s.pin = true → σ'[i]? = σ[i]? ∧ ∃ s' : Slot, env'[i]? = some (some s') ∧ s'.pin = true
/-- the value that is handed back -/
def ROut (K : PySem.W.Frag) (H : Hp) (σ : L2.St) (env : Sto) (Hs' H' : Hp) (σ' : L2.St) (v : V) : Rs → Prop
  | .o o => ROk K Hs' H' v o ∧ (o.own = true → ∀ a, v = .ref a → H a = none ∨ ∃ (i : Nat) (s : Slot), env[i]? = some (some s) ∧ s.o.own = true ∧ s.pin = false ∧ σ[i]? = some (some (.ref a)))
  | .par j => σ'[j]? = some (some v) ∧ ∃ s : Slot, env[j]? = some (some s) ∧ s.pin = true
  | .two d ds => PairOk K Hs' H' H v d ds
def OkD (K : PySem.W.Frag) (Hs H : Hp) (σ : L2.St) (env : Sto) (DE : Ends) : Out → Prop
  | .nx e => ∀ Hs' H' σ', Po K Hs H σ env Hs' H' σ' e → DE.nx σ' H'
  | .bk e => ∀ Hs' H' σ', Po K Hs H σ env Hs' H' σ' e → DE.bk σ' H'
  | .ct e => ∀ Hs' H' σ', Po K Hs H σ env Hs' H' σ' e → DE.ct σ' H'
  | .rt r e => ∀ Hs' H' σ' v, PoR K Hs H σ env Hs' H' σ' e → ROut K H σ env Hs' H' σ' v r → DE.rt v H'
def SatS (K : PySem.W.Frag) (t : TS) (f : SF) : Prop := ∀ Hs H σ env out, R K Hs H σ env → f env = some out → ∀ DE : Ends, OkD K Hs H σ env DE out → t DE σ H
section
variable {K : PySem.W.Frag} {Hs H Hs' H' Hs1 H1 Hs2 H2 : Hp} {σ σ' σ1 σ2 : L2.St} {env env' env1 env2 : Sto} {DE : Ends} {out : Out}
theorem PoR.after (p : Po K Hs H σ env Hs1 H1 σ1 env1) (q : PoR K Hs1 H1 σ1 env1 Hs2 H2 σ2 env2) : PoR K Hs H σ env Hs2 H2 σ2 env2 :=
  ⟨q.r, p.ext.trans q.ext p.mu, fun i s e k => by
    obtain ⟨e1, s1, h1, k1, _⟩ := p.pin i s e k
    obtain ⟨e2, s2, h2, k2⟩ := q.pin i s1 h1 k1
    exact ⟨e2.trans e1, s2, h2, k2⟩⟩
theorem ROut.after {v : V} {r : Rs} (p : Po K Hs H σ env Hs1 H1 σ1 env1) (q : ROut K H1 σ1 env1 Hs2 H2 σ2 v r) : ROut K H σ env Hs2 H2 σ2 v r := by
  cases r with
  | two d ds =>
    obtain ⟨T, v1, a, h1, h2, h3, h4, h5⟩ := q
    exact ⟨T, v1, a, h1, h2, h3, h4, p.ext.new h5⟩
  | par j =>
    obtain ⟨a, s, es, ps⟩ := q
    exact ⟨a, p.np j s es ps⟩
  | o o =>
    refine ⟨q.1, fun w a ea => ?_⟩
    rcases q.2 w a ea with n | ⟨i, s, es, ow, np, eσ⟩
    · exact .inl (p.ext.new n)
    · rcases p.own i a ⟨s, es, ow⟩ eσ with ⟨⟨s0, es0, ow0⟩, eσ0, _⟩ | n
      · refine .inr ⟨i, s0, es0, ow0, ?_, eσ0⟩
        cases hs : s0.pin with
        | false => rfl
        | true =>
          obtain ⟨_, s1, e1, p1, _⟩ := p.pin i s0 es0 hs
          rw [es] at e1
          cases e1
          rw [np] at p1
          cases p1
      · exact .inl n
end

/-! ### storing -/
def setS (env : Sto) (i : Nat) (x : O) : Option Sto := match env[i]? with
  | some (some s) => if s.pin || s.lk then none else some (env.set i (some { o := x }))
  | some none => some (env.set i (some { o := x }))
  | none => none
def bindH (i : Nat) (h : Hnd) (env : Sto) : Option Sto := match h with
  | .tmp o => setS env i o
  | .var j => (hTake env (.var j)).bind fun p => setS p.2 i (.shr p.1)
section
variable {K : PySem.W.Frag} {Hs H Hs' H' Hs1 H1 Hs2 H2 Hs0 H0 : Hp} {σ σ' σ1 σ2 σ0 : L2.St} {env env' env1 env2 env0 : Sto} {v : V} {x : O} {i : Nat} {h : Hnd}
theorem setS_some (e : setS env i x = some env') : i < env.length ∧ env' = env.set i (some { o := x }) ∧ ∀ s : Slot, env[i]? = some (some s) → s.pin = false ∧ s.lk = false := by
  unfold setS at e
  split at e
  · next s es =>
    split at e
    · cases e
    · next hc =>
      cases e
      simp only [Bool.or_eq_true, not_or, Bool.not_eq_true] at hc
      exact ⟨(List.getElem?_eq_some_iff.mp es).1, rfl, fun s' es' => by rw [es] at es'; cases es'; exact hc⟩
  · next es =>
    cases e
    exact ⟨(List.getElem?_eq_some_iff.mp es).1, rfl, fun s' es' => by rw [es] at es'; cases es'⟩
  · cases e
theorem set_at {i j : Nat} {s : Slot} (e : (env.set i (some { o := x }))[j]? = some (some s)) : (j = i ∧ s = { o := x }) ∨ (j ≠ i ∧ env[j]? = some (some s)) := by
  by_cases z : i = j
  · subst z
    by_cases hi : i < env.length
    · rw [List.getElem?_set_self hi] at e
      exact .inl ⟨rfl, (Option.some.inj (Option.some.inj e)).symm⟩
    · rw [List.getElem?_eq_none (by simpa using hi)] at e
      cases e
  · rw [List.getElem?_set_ne z] at e
    exact .inr ⟨fun w => z w.symm, e⟩
theorem σset {σ : L2.St} {i j : Nat} {v : V} (h : j ≠ i) : (σ.set i (some v))[j]? = σ[j]? := List.getElem?_set_ne (Ne.symm h)
/-- a value that stands apart from the slots is stored -/
theorem Po.setS (p : Po K Hs0 H0 σ0 env0 Hs H σ env) (k : ROk K Hs H v x) (ap : x.own = true → ∀ i, owns env i → σ[i]? ≠ some (some v)) (f : Fre H0 v x) (e : setS env i x = some env') : Po K Hs0 H0 σ0 env0 Hs H (σ.set i (some v)) env' := by
  obtain ⟨hi, rfl, hs⟩ := setS_some e
  have hiσ : i < σ.length := by rw [← p.r.len]; exact hi
  have self : (σ.set i (some v))[i]? = some (some v) := List.getElem?_set_self hiσ
  refine ⟨⟨by rw [List.length_set, List.length_set]; exact p.r.len, p.r.sub, fun j s es => ?_, fun j l w oj ol ej el => ?_⟩, p.ext, fun j a ⟨s, es, ow⟩ ea => ?_, fun j s es pn => ?_, fun j s es lk => ?_, fun j s es pn => ?_⟩
  · rcases set_at es with ⟨rfl, rfl⟩ | ⟨ne, es⟩
    · exact ⟨v, self, k⟩
    · obtain ⟨w, ew, kw⟩ := p.r.ok j s es
      exact ⟨w, by rw [σset ne]; exact ew, kw⟩
  · obtain ⟨sj, esj, owj⟩ := oj
    obtain ⟨sl, esl, owl⟩ := ol
    rcases set_at esj with ⟨zj, zs⟩ | ⟨nj, esj'⟩
    · rcases set_at esl with ⟨zl, _⟩ | ⟨nl, esl'⟩
      · exact zj.trans zl.symm
      · rw [zj, self] at ej
        cases ej
        rw [σset nl] at el
        rw [zs] at owj
        exact absurd el (ap owj l ⟨sl, esl', owl⟩)
    · rcases set_at esl with ⟨zl, zs⟩ | ⟨nl, esl'⟩
      · rw [zl, self] at el
        cases el
        rw [σset nj] at ej
        rw [zs] at owl
        exact absurd ej (ap owl j ⟨sj, esj', owj⟩)
      · rw [σset nj] at ej
        rw [σset nl] at el
        exact p.r.inj j l w ⟨sj, esj', owj⟩ ⟨sl, esl', owl⟩ ej el
  · rcases set_at es with ⟨rfl, rfl⟩ | ⟨ne, es⟩
    · rw [self] at ea
      cases ea
      exact .inr (f ow a rfl)
    · rw [σset ne] at ea
      rcases p.own j a ⟨s, es, ow⟩ ea with ⟨c1, c2, c3⟩ | c
      · refine .inl ⟨c1, c2, fun ⟨s', es', w', l'⟩ => ?_⟩
        rcases set_at es' with ⟨z, _⟩ | ⟨_, es'⟩
        · exact absurd z ne
        · exact c3 ⟨s', es', w', l'⟩
      · exact .inr c
  · obtain ⟨c1, s', c2, c3, c4⟩ := p.pin j s es pn
    have ne : j ≠ i := fun z => by
      subst z
      have := (hs s' c2).1
      rw [c3] at this
      cases this
    exact ⟨(σset ne).trans c1, s', by rw [List.getElem?_set_ne (Ne.symm ne)]; exact c2, c3, c4⟩
  · obtain ⟨c1, c2⟩ := p.lk j s es lk
    have ne : j ≠ i := fun z => by
      subst z
      have := (hs s c1).2
      rw [lk] at this
      cases this
    exact ⟨by rw [List.getElem?_set_ne (Ne.symm ne)]; exact c1, (σset ne).trans c2⟩
  · rcases set_at es with ⟨rfl, rfl⟩ | ⟨ne, es⟩
    · cases pn
    · exact p.np j s es pn
theorem Po.setD {d : D} (p : Po K Hs0 H0 σ0 env0 Hs H σ env) (k : Dd K Hs d v) (e : PV.setS env i (.shr d) = some env') : Po K Hs0 H0 σ0 env0 Hs H (σ.set i (some v)) env' :=
  p.setS (x := .shr d) k (fun w => nomatch w) (fun w => nomatch w) e
theorem Po.bind (p : Po K Hs0 H0 σ env0 Hs H σ env) (k : HOk K Hs H σ env v h) (f : HFr H0 v h) (e : bindH i h env = some env') : ∃ Hs', Po K Hs0 H0 σ env0 Hs' H (σ.set i (some v)) env' := by
  cases h with
  | tmp o => exact ⟨Hs, p.setS k.1 k.2 f e⟩
  | var j =>
    simp only [bindH, Option.bind_eq_some_iff] at e
    obtain ⟨⟨d, e1⟩, g1, g2⟩ := e
    obtain ⟨Hs', p', dd⟩ := p.took k True.intro g1
    exact ⟨Hs', p'.setD dd g2⟩
end

def sNil : SF := fun env => some (.nx env)
def sSeq (f g : SF) : SF := fun env => (f env).bind fun o => match o with
  | .nx e => g e
  | o => some o
def sSet (i : Nat) (f : EF) : SF := fun env => (f env).bind fun p => (bindH i p.1 p.2).bind fun e => some (.nx e)
def sDrop (f : EF) : SF := fun env => (f env).bind fun p => some (.nx p.2)
def sIf (c : BF) (f g : SF) : SF := fun env => (c env).bind fun p => if p.1 then f p.2 else g p.2
def sBrk : SF := fun env => some (.bk env)
def sCont : SF := fun env => some (.ct env)
def retH (h : Hnd) (env : Sto) : Option Out := match h with
  | .tmp o => some (.rt (.o o) env)
  | .var i => match env[i]? with
    | some (some s) => match s.o with
      | .shr d => some (.rt (.o (.shr d)) env)
      | o => if s.pin then some (.rt (.par i) env) else some (.rt (.o o) (env.set i none))
    | _ => none
def sRet (f : EF) : SF := fun env => (f env).bind fun p => retH p.1 p.2
def sRetN : SF := fun env => some (.rt (.o (.shr .non)) env)
abbrev GF := D → Sto → Option Sto
def SatG (K : PySem.W.Frag) (g : TG) (vs : List Nat) (f : GF) : Prop := ∀ Hs0 H0 σ0 env0 Hs H σ env d v env', Po K Hs0 H0 σ0 env0 Hs H σ env → Dd K Hs d v → f d env = some env' →
  ∀ Q : L2.St → Hp → Prop, (∀ Hs' H' σ', Po K Hs0 H0 σ0 env0 Hs' H' σ' env' → (∀ a u, Hs a = some u → Hs' a = some u) → (∀ i, i ∉ vs → σ'[i]? = σ[i]?) → σ'.length = σ.length → Q σ' H') → g v σ H Q
def SatGs (K : PySem.W.Frag) (g : TGs) (vs : List Nat) (f : List D → Sto → Option Sto) : Prop := ∀ Hs0 H0 σ0 env0 Hs H σ env ds ws env', Po K Hs0 H0 σ0 env0 Hs H σ env → DdAll K Hs ds ws → f ds env = some env' →
  ∀ Q : L2.St → Hp → Prop, (∀ Hs' H' σ', Po K Hs0 H0 σ0 env0 Hs' H' σ' env' → (∀ a u, Hs a = some u → Hs' a = some u) → (∀ i, i ∉ vs → σ'[i]? = σ[i]?) → σ'.length = σ.length → Q σ' H') → g ws σ H Q
def gN (i : Nat) : GF := fun d env => setS env i (.shr d)
def gNilF : List D → Sto → Option Sto := fun ds env => match ds with
  | [] => some env
  | _ => none
def gConsF (f : GF) (r : List D → Sto → Option Sto) : List D → Sto → Option Sto := fun ds env => match ds with
  | d :: ds => (f d env).bind fun e => r ds e
  | [] => none
def gT (n : Nat) (f : List D → Sto → Option Sto) : GF := fun d env => match d with
  | .tup ds => if ds.length = n then f ds env else none
  | _ => none
def sAsg (f : DF) (g : GF) : SF := fun env => (f env).bind fun p => (g p.1 p.2).bind fun e => some (.nx e)
def sPar (i j : Nat) (f : DsF) : SF := fun env => (f env).bind fun p => match p.1 with
  | [a, b] => (setS p.2 i (.shr a)).bind fun e1 => (setS e1 j (.shr b)).bind fun e2 => some (.nx e2)
  | _ => none
section
variable {K : PySem.W.Frag} {Hs H Hs' H' Hs1 H1 Hs2 H2 : Hp} {σ σ' σ1 σ2 : L2.St} {env env' env1 env2 : Sto} {DE : Ends} {out : Out} {ta tb te : TE} {fa fb fe : EF} {t t1 t2 : TS} {f f1 f2 : SF} {tc : TT} {fc : BF} {fd : DF}
theorem sat_nil : SatS K tNext sNil := fun Hs H σ env out r g DE k => by
  cases g
  exact k Hs H σ (Po.refl r)
/-- what holds behind a piece, held behind two -/
theorem OkD.after (p : Po K Hs H σ env Hs1 H1 σ1 env1) (k : OkD K Hs H σ env DE out) : OkD K Hs1 H1 σ1 env1 DE out := by
  cases out with
  | nx e => exact fun Hs' H' σ' q => k Hs' H' σ' (p.trans q)
  | bk e => exact fun Hs' H' σ' q => k Hs' H' σ' (p.trans q)
  | ct e => exact fun Hs' H' σ' q => k Hs' H' σ' (p.trans q)
  | rt r e => exact fun Hs' H' σ' v q w => k Hs' H' σ' v (q.after p) (w.after p)
theorem sat_seq (h1 : SatS K t1 f1) (h2 : SatS K t2 f2) : SatS K (tSeq t1 t2) (sSeq f1 f2) := fun Hs H σ env out r g DE k => by
  simp only [sSeq, Option.bind_eq_some_iff] at g
  obtain ⟨o, g1, g2⟩ := g
  refine h1 Hs H σ env o r g1 { DE with nx := t2 DE } ?_
  cases o with
  | nx e => exact fun Hs' H' σ' p => h2 Hs' H' σ' e out p.r g2 DE (k.after p)
  | bk e => cases g2; exact k
  | ct e => cases g2; exact k
  | rt r e => cases g2; exact k
theorem sat_set {i : Nat} (h : SatE K te fe) : SatS K (tAsg te (gName i)) (sSet i fe) := fun Hs H σ env out r g DE k => by
  simp only [sSet, Option.bind_eq_some_iff] at g
  obtain ⟨⟨x, e1⟩, g1, e2, g2, g3⟩ := g
  cases g3
  refine h Hs H σ env x e1 r g1 _ fun Hs1 H1 v p1 k1 f1 => ?_
  obtain ⟨Hs2, p2⟩ := p1.bind k1 f1 g2
  exact k Hs2 H1 _ p2
theorem sat_drop (h : SatE K te fe) : SatS K (tDrop te) (sDrop fe) := fun Hs H σ env out r g DE k => by
  simp only [sDrop, Option.bind_eq_some_iff] at g
  obtain ⟨⟨x, e1⟩, g1, g3⟩ := g
  cases g3
  exact h Hs H σ env x e1 r g1 _ fun Hs1 H1 v p1 k1 f1 => k Hs1 H1 _ p1
theorem sat_ifS (hc : SatT K tc fc) (h1 : SatS K t1 f1) (h2 : SatS K t2 f2) : SatS K (tIfS tc t1 t2) (sIf fc f1 f2) := fun Hs H σ env out r g DE k => by
  simp only [sIf, Option.bind_eq_some_iff] at g
  obtain ⟨⟨b, e1⟩, g1, g2⟩ := g
  refine hc Hs H σ env b e1 r g1 _ fun Hs1 H1 p1 => ?_
  cases b with
  | true => exact h1 Hs1 H1 σ e1 out p1.r g2 DE (k.after p1)
  | false => exact h2 Hs1 H1 σ e1 out p1.r g2 DE (k.after p1)
theorem sat_brk : SatS K tBreak sBrk := fun Hs H σ env out r g DE k => by cases g; exact k Hs H σ (Po.refl r)
theorem sat_cont : SatS K tCont sCont := fun Hs H σ env out r g DE k => by cases g; exact k Hs H σ (Po.refl r)
theorem Po.por (p : Po K Hs H σ env Hs' H' σ' env') : PoR K Hs H σ env Hs' H' σ' env' := ⟨p.r, p.ext, fun i s e k => let ⟨a, s', b, c, _⟩ := p.pin i s e k; ⟨a, s', b, c⟩⟩
theorem sat_retS (h : SatE K te fe) : SatS K (tRet te) (sRet fe) := fun Hs H σ env out r g DE k => by
  simp only [sRet, Option.bind_eq_some_iff] at g
  obtain ⟨⟨x, e1⟩, g1, g2⟩ := g
  refine h Hs H σ env x e1 r g1 _ fun Hs1 H1 v p1 k1 f1 => ?_
  cases x with
  | tmp o =>
    cases g2
    exact k Hs1 H1 σ v p1.por ⟨k1.1, fun w a ea => .inl (f1 w a ea)⟩
  | var i =>
    have kv : σ[i]? = some (some v) := k1
    dsimp only [retH] at g2
    cases es : e1[i]? with
    | none => rw [es] at g2; cases g2
    | some y =>
      cases y with
      | none => rw [es] at g2; cases g2
      | some s =>
        rw [es] at g2
        obtain ⟨w, ew, kw⟩ := p1.r.ok i s es
        rw [kv] at ew
        cases ew
        obtain ⟨so, sp, sl⟩ := s
        have own_case : so.own = true → (if sp = true then some (Out.rt (.par i) e1) else some (Out.rt (.o so) (e1.set i none))) = some out → DE.rt v H1 := by
          intro ow g2
          cases sp with
          | true =>
            cases g2
            exact k Hs1 H1 σ v p1.por ⟨kv, p1.np i _ es rfl⟩
          | false =>
            cases g2
            have at_ : ∀ {j : Nat} {s : Slot}, (e1.set i none)[j]? = some (some s) → j ≠ i ∧ e1[j]? = some (some s) := fun {j s} ej => by
              by_cases z : i = j
              · subst z
                rw [List.getElem?_set_self (List.getElem?_eq_some_iff.mp es).1] at ej
                cases ej
              · rw [List.getElem?_set_ne z] at ej
                exact ⟨fun w => z w.symm, ej⟩
            refine k Hs1 H1 σ v ⟨⟨by rw [List.length_set]; exact p1.r.len, p1.r.sub, fun j s ej => p1.r.ok j s (at_ ej).2, fun j l w ⟨s1, a1, b1⟩ ⟨s2, a2, b2⟩ => p1.r.inj j l w ⟨s1, (at_ a1).2, b1⟩ ⟨s2, (at_ a2).2, b2⟩⟩, p1.ext, fun j s ej pn => ?_⟩ ⟨kw, fun _ a ea => ?_⟩
            · obtain ⟨c1, s', c2, c3, _⟩ := p1.pin j s ej pn
              have ne : i ≠ j := fun z => by
                subst z
                rw [es] at c2
                cases c2
                cases c3
              exact ⟨c1, s', by rw [List.getElem?_set_ne ne]; exact c2, c3⟩
            · subst ea
              rcases p1.own i a ⟨_, es, ow⟩ kv with ⟨⟨s0, es0, ow0⟩, _, _⟩ | n
              · refine .inr ⟨i, s0, es0, ow0, ?_, kv⟩
                cases hp : s0.pin with
                | false => rfl
                | true =>
                  obtain ⟨_, s', c2, c3, _⟩ := p1.pin i s0 es0 hp
                  rw [es] at c2
                  cases c2
                  cases c3
              · exact .inl n
        cases so with
        | shr d =>
          cases g2
          exact k Hs1 H1 σ v p1.por ⟨kw, fun w => nomatch w⟩
        | ol ds => exact own_case rfl g2
        | od ds => exact own_case rfl g2
theorem sat_retN : SatS K tRetN sRetN := fun Hs H σ env out r g DE k => by
  cases g
  exact k Hs H σ .non (Po.refl r).por ⟨.non, fun w => nomatch w⟩
theorem sat_gN {i : Nat} : SatG K (gName i) [i] (gN i) := fun Hs0 H0 σ0 env0 Hs H σ env d v env' p dd e Q q =>
  q Hs H _ (p.setD dd e) (fun _ _ h => h) (fun j h => σset (by simpa using h)) (by simp)
theorem sat_gNil : SatGs K gNil [] gNilF := fun Hs0 H0 σ0 env0 Hs H σ env ds ws env' p dd e Q q => by
  cases dd with
  | nil => cases e; exact ⟨rfl, q Hs H σ p (fun _ _ h => h) (fun _ _ => rfl) rfl⟩
  | cons a b => cases e
theorem sat_gCons {g : TG} {gs : TGs} {vs ws : List Nat} {f : GF} {r : List D → Sto → Option Sto} (h : SatG K g vs f) (hr : SatGs K gs ws r) : SatGs K (gCons g gs) (vs ++ ws) (gConsF f r) := fun Hs0 H0 σ0 env0 Hs H σ env ds us env' p dd e Q q => by
  cases dd with
  | nil => cases e
  | cons a b =>
    simp only [gConsF, Option.bind_eq_some_iff] at e
    obtain ⟨e1, g1, g2⟩ := e
    refine ⟨_, _, rfl, h Hs0 H0 σ0 env0 Hs H σ env _ _ e1 p a g1 _ fun Hs1 H1 σ1 p1 u1 o1 l1 => ?_⟩
    refine hr Hs0 H0 σ0 env0 Hs1 H1 σ1 e1 _ _ env' p1 (b.mono u1) g2 Q fun Hs2 H2 σ2 p2 u2 o2 l2 => q Hs2 H2 σ2 p2 (fun a u h => u2 a u (u1 a u h)) (fun i hi => ?_) (l2.trans l1)
    · rw [List.mem_append, not_or] at hi
      exact (o2 i hi.2).trans (o1 i hi.1)
end
end PV

set_option maxRecDepth 100000
set_option maxHeartbeats 2000000
namespace PV
open PySem L2

def asTup (n : Nat) : D → Option (List D)
  | .tup ds => if ds.length = n then some ds else none
  | _ => none
section
variable {K : PySem.W.Frag} {Hs H Hs' H' Hs1 H1 Hs2 H2 Hs0 H0 : Hp} {σ σ' σ1 σ2 σ0 : L2.St} {env env' env1 env2 env0 : Sto} {DE : Ends} {out : Out} {ta tb te : TE} {fa fb fe : EF} {t t1 t2 : TS} {f f1 f2 : SF} {tc : TT} {fc : BF} {fd : DF} {v : V}
theorem sat_gT {n : Nat} {g : TGs} {vs : List Nat} {r : List D → Sto → Option Sto} (h : SatGs K g vs r) : SatG K (gTup K n g) vs (gT n r) := fun Hs0 H0 σ0 env0 Hs H σ env d v env' p dd e Q q => by
  cases dd with
  | tup hh t =>
    simp only [gT] at e
    split at e
    · next hl => exact ⟨_, _, rfl, SqT.of (p.r.sub _ _ hh), by rw [t.length]; exact hl, h Hs0 H0 σ0 env0 Hs H σ env _ _ env' p t e Q q⟩
    · cases e
  | _ => cases e
theorem sat_asg {g : TG} {vs : List Nat} {r : GF} (h : SatD K te fd) (hg : SatG K g vs r) : SatS K (tAsg te g) (sAsg fd r) := fun Hs H σ env out rr e DE k => by
  simp only [sAsg, Option.bind_eq_some_iff] at e
  obtain ⟨⟨d, e1⟩, g1, e2, g2, g3⟩ := e
  cases g3
  refine h Hs H σ env d e1 rr g1 _ fun Hs1 H1 v p1 d1 => ?_
  exact hg Hs H σ env Hs1 H1 σ e1 d v e2 p1 d1 g2 _ fun Hs2 H2 σ2 p2 _ _ _ => k Hs2 H2 σ2 p2
theorem sat_par {i j : Nat} {ta : TA} {fds : DsF} (h : SatDs K ta fds) : SatS K (tPar i j ta) (sPar i j fds) := fun Hs H σ env out rr e DE k => by
  simp only [sPar, Option.bind_eq_some_iff] at e
  obtain ⟨⟨ds, e1⟩, g1, e⟩ := e
  refine h Hs H σ env ds e1 rr g1 _ fun Hs1 H1 vs p1 d1 => ?_
  match ds, d1, e with
  | [a, b], .cons da (.cons db .nil), e =>
    simp only [Option.bind_eq_some_iff] at e
    obtain ⟨e2, g2, e3, g3, g4⟩ := e
    cases g4
    exact ⟨_, _, rfl, k Hs1 H1 _ ((p1.setD da g2).setD db g3)⟩
/-- an object of one's own is changed in place -/
theorem Po.mut (p : Po K Hs0 H0 σ0 env0 Hs H σ env) {i : Nat} {s : Slot} {a : Addr} {u : HO} {o' : O} (es : env[i]? = some (some s)) (ow : s.o.own = true) (l : s.lk = false) (ev : σ[i]? = some (some (.ref a))) (k : ROk K Hs (upd H a u) (.ref a) o') (w' : o'.own = true) :
    Po K Hs0 H0 σ0 env0 Hs (upd H a u) σ (env.set i (some { s with o := o' })) := by
  have hi : i < env.length := (List.getElem?_eq_some_iff.mp es).1
  obtain ⟨hs, u0, hu⟩ := p.r.there ⟨s, es, ow⟩ ev
  have at_ : ∀ {j : Nat} {s' : Slot}, (env.set i (some { s with o := o' }))[j]? = some (some s') → (j = i ∧ s' = { s with o := o' }) ∨ (j ≠ i ∧ env[j]? = some (some s')) := fun {j s'} ej => by
    by_cases z : i = j
    · subst z
      rw [List.getElem?_set_self hi] at ej
      exact .inl ⟨rfl, (Option.some.inj (Option.some.inj ej)).symm⟩
    · rw [List.getElem?_set_ne z] at ej
      exact .inr ⟨fun w => z w.symm, ej⟩
  have ow' : ∀ {j : Nat}, owns (env.set i (some { s with o := o' })) j → owns env j := fun {j} ⟨s', ej, wj⟩ => by
    rcases at_ ej with ⟨rfl, _⟩ | ⟨_, ej⟩
    · exact ⟨s, es, ow⟩
    · exact ⟨s', ej, wj⟩
  have e0 : Ext (fun b => b = a) Hs H Hs (upd H a u) := ⟨fun _ _ h => h, fun b w h n => by rw [upd_ne n]; exact h, fun _ _ _ h _ => h, fun b w h => by
      by_cases z : b = a
      · exact ⟨u, by rw [z]; exact upd_same⟩
      · exact ⟨w, by rw [upd_ne z]; exact h⟩⟩
  have e1 : Ext (Mof σ env) Hs H Hs (upd H a u) := e0.weak fun b z => by subst z; exact ⟨i, ⟨s, es, ow, l⟩, ev⟩
  refine ⟨⟨by rw [List.length_set]; exact p.r.len, fun b w h => ?_, fun j s' ej => ?_, fun j m w oj om => p.r.inj j m w (ow' oj) (ow' om)⟩, p.ext.trans e1 p.mu, fun j b oj eb => ?_, fun j s' ej pn => ?_, fun j s' ej lk => ?_, fun j s' ej pn => ?_⟩
  · have z : b ≠ a := fun z => by subst z; rw [hs] at h; cases h
    rw [upd_ne z]
    exact p.r.sub b w h
  · rcases at_ ej with ⟨rfl, rfl⟩ | ⟨ne, ej⟩
    · exact ⟨_, ev, k⟩
    · obtain ⟨w, ew, kw⟩ := p.r.ok j s' ej
      exact ⟨w, ew, kw.step e0 fun wo b eb z => by
        subst eb
        subst z
        exact ne (p.r.inj j i _ ⟨s', ej, wo⟩ ⟨s, es, ow⟩ ew ev)⟩
  · rcases p.own j b (ow' oj) eb with ⟨c1, c2, c3⟩ | c
    · refine .inl ⟨c1, c2, fun ⟨s', ej, wj, lj⟩ => c3 ?_⟩
      rcases at_ ej with ⟨rfl, rfl⟩ | ⟨_, ej⟩
      · exact ⟨s, es, ow, l⟩
      · exact ⟨s', ej, wj, lj⟩
    · exact .inr c
  · obtain ⟨c1, s1, c2, c3, c4⟩ := p.pin j s' ej pn
    by_cases z : i = j
    · subst z
      rw [es] at c2
      cases c2
      exact ⟨c1, _, List.getElem?_set_self hi, c3, c4⟩
    · exact ⟨c1, s1, by rw [List.getElem?_set_ne z]; exact c2, c3, c4⟩
  · obtain ⟨c1, c2⟩ := p.lk j s' ej lk
    have z : i ≠ j := fun z => by
      subst z
      rw [es] at c1
      cases c1
      rw [l] at lk
      cases lk
    exact ⟨by rw [List.getElem?_set_ne z]; exact c1, c2⟩
  · rcases at_ ej with ⟨rfl, rfl⟩ | ⟨_, ej⟩
    · exact p.np j s es pn
    · exact p.np j s' ej pn
end

/-! ### an object of one's own, changed by a method or a store -/
/-- slot i, its own, not walked: changed by g -/
def mutS (env : Sto) (i : Nat) (g : O → Option (D × O)) : Option (D × Sto) := match env[i]? with
  | some (some s) => if s.lk then none else (g s.o).bind fun p => if s.o.own && p.2.own then some (p.1, env.set i (some { s with o := p.2 })) else none
  | _ => none
theorem mutS_some {env env' : Sto} {i : Nat} {g : O → Option (D × O)} {d : D} (e : mutS env i g = some (d, env')) : ∃ (s : Slot) (o' : O), env[i]? = some (some s) ∧ s.lk = false ∧ s.o.own = true ∧ g s.o = some (d, o') ∧ o'.own = true ∧ env' = env.set i (some { s with o := o' }) := by
  unfold mutS at e
  split at e
  · next s es =>
    split at e
    · cases e
    · next hl =>
      simp only [Option.bind_eq_some_iff] at e
      obtain ⟨⟨d1, o1⟩, h1, h2⟩ := e
      split at h2
      · next hw =>
        cases h2
        simp only [Bool.and_eq_true] at hw
        exact ⟨s, o1, es, by simpa using hl, hw.1, h1, hw.2, rfl⟩
      · cases h2
  · cases e
def kindOf (o : O) : String := match o with
  | .ol _ => "list"
  | .od _ => "dict"
  | .shr _ => ""
def kindS (env : Sto) (i : Nat) : String := match env[i]? with
  | some (some s) => kindOf s.o
  | _ => ""
def vMt (i : Nat) (T : String) (m : List D → O → Option (D × O)) (f : DsF) : EF := fun env => if kindS env i = T then (f env).bind fun p => (mutS p.2 i (m p.1)).bind fun q => some (.tmp (.shr q.1), q.2) else none
def MtSat (K : PySem.W.Frag) (r : V → List V → Hp → VK → Prop) (m : List D → O → Option (D × O)) : Prop :=
  ∀ Hs H a o ds vs d o', (∀ b u, Hs b = some u → H b = some u) → ROk K Hs H (.ref a) o → o.own = true → DdAll K Hs ds vs → m ds o = some (d, o') →
    ∀ Q : VK, (∀ v u, Dd K Hs d v → ROk K Hs (upd H a u) (.ref a) o' → Q v (upd H a u)) → r (.ref a) vs H Q
section
variable {K : PySem.W.Frag} {T : String} {r : V → List V → Hp → VK → Prop} {m : List D → O → Option (D × O)} {t : TA} {fds : DsF} {i : Nat}
theorem own_ty {Hs H : Hp} {σ : L2.St} {env : Sto} {v : V} (r : R K Hs H σ env) (ev : σ[i]? = some (some v)) (e : kindS env i = T) (hT : T ≠ "") : tyV K T v H := by
  subst e
  unfold kindS at hT ⊢
  cases es : env[i]? with
  | none => rw [es] at hT; exact absurd rfl hT
  | some x =>
    cases x with
    | none => rw [es] at hT; exact absurd rfl hT
    | some s =>
      rw [es] at hT
      obtain ⟨w, ew, k⟩ := r.ok i s es
      rw [ev] at ew
      cases ew
      dsimp only at hT ⊢
      cases ho : s.o with
      | shr d => rw [ho] at hT; exact absurd rfl hT
      | ol ds =>
        rw [ho] at k
        obtain ⟨a, xs, rfl, _, q, _⟩ := k
        exact .inl ⟨rfl, _, SqL.of q⟩
      | od ds =>
        rw [ho] at k
        obtain ⟨a, xs, rfl, _, q, _⟩ := k
        exact .inr (.inr (.inl ⟨rfl, .inl ⟨_, q⟩⟩))
theorem slot_of {Hs H : Hp} {σ : L2.St} {env : Sto} (r : R K Hs H σ env) (e : kindS env i = T) (hT : T ≠ "") : ∃ v, σ[i]? = some (some v) := by
  subst e
  unfold kindS at hT
  cases es : env[i]? with
  | none => rw [es] at hT; exact absurd rfl hT
  | some x =>
    cases x with
    | none => rw [es] at hT; exact absurd rfl hT
    | some s =>
      obtain ⟨w, ew, k⟩ := r.ok i s es
      exact ⟨w, ew⟩
/-- changed, the value of the change new or shared -/
theorem Po.mutted {Hs0 H0 Hs H : Hp} {σ0 σ : L2.St} {env0 env env' : Sto} {g : O → Option (D × O)} {d : D} {v : V} (p : Po K Hs0 H0 σ0 env0 Hs H σ env) (ev : σ[i]? = some (some v)) (e : mutS env i g = some (d, env')) :
    ∃ a o o', v = .ref a ∧ ROk K Hs H (.ref a) o ∧ o.own = true ∧ g o = some (d, o') ∧ ∀ u, ROk K Hs (upd H a u) (.ref a) o' → Po K Hs0 H0 σ0 env0 Hs (upd H a u) σ env' := by
  obtain ⟨s, o', es, hl, ow, hg, ow', rfl⟩ := mutS_some e
  obtain ⟨w, ew, k⟩ := p.r.ok i s es
  rw [ev] at ew
  cases ew
  obtain ⟨a, rfl⟩ := k.own_ref ow
  exact ⟨a, s.o, o', rfl, k, ow, hg, fun u ku => p.mut es ow hl ev ku ow'⟩
theorem sat_mt (hm : MtSat K r m) (hT : T ≠ "") (ha : SatDs K t fds) : SatE K (tBM K T r (tVar i) t) (vMt i T m fds) := fun Hs H σ env h env' rr g Q q => by
  unfold vMt at g
  split at g
  · next hk =>
    simp only [Option.bind_eq_some_iff] at g
    obtain ⟨⟨ds, e1⟩, g1, ⟨d, e2⟩, g2, g3⟩ := g
    obtain ⟨rfl, rfl⟩ := Prod.mk.inj (Option.some.inj g3)
    obtain ⟨v, ev⟩ := slot_of rr hk hT
    refine ⟨v, ev, own_ty rr ev hk hT, ha Hs H σ env ds e1 rr g1 _ fun Hs1 H1 vs p1 d1 => ?_⟩
    obtain ⟨a, o, o', rfl, k, ow, hg, go⟩ := p1.mutted ev g2
    exact hm Hs1 H1 a o ds vs d o' p1.r.sub k ow d1 hg Q fun w u dw ku => q Hs1 _ w (go u ku) ⟨dw, fun z => nomatch z⟩ fun z => nomatch z
  · cases g
theorem sat_mt0 (hm : MtSat K r m) (hT : T ≠ "") : SatE K (tBM0 K T r (tVar i)) (vMt i T m vNilD) := fun Hs H σ env h env' rr g Q q => by
  unfold vMt vNilD at g
  split at g
  · next hk =>
    simp only [Option.bind_eq_some_iff] at g
    obtain ⟨⟨ds, e1⟩, g1, ⟨d, e2⟩, g2, g3⟩ := g
    obtain ⟨rfl, rfl⟩ := Prod.mk.inj (Option.some.inj g1)
    obtain ⟨rfl, rfl⟩ := Prod.mk.inj (Option.some.inj g3)
    obtain ⟨v, ev⟩ := slot_of rr hk hT
    refine ⟨v, ev, own_ty rr ev hk hT, ?_⟩
    obtain ⟨a, o, o', rfl, k, ow, hg, go⟩ := (Po.refl rr).mutted ev g2
    exact hm Hs H a o [] [] d o' rr.sub k ow .nil hg Q fun w u dw ku => q Hs _ w (go u ku) ⟨dw, fun z => nomatch z⟩ fun z => nomatch z
  · cases g
/-- the methods -/
def mAppend : List D → O → Option (D × O) := fun ds o => match ds, o with
  | [d], .ol es => if es.length ≤ 1000000 then some (.non, .ol (es ++ [d])) else none
  | _, _ => none
theorem s_append : MtSat K rAppend mAppend := fun Hs H a o ds vs d o' sb k ow dd e Q q => by
  unfold mAppend at e
  split at e
  · next d0 es =>
    split at e
    · next hl =>
      cases e
      obtain ⟨b, xs, eb, n, hx, tx⟩ := k
      cases eb
      cases dd with
      | cons d1 d2 =>
        cases d2
        refine ⟨a, xs, _, rfl, rfl, hx, by rw [tx.length]; exact Nat.lt_of_le_of_lt hl (by decide), q _ _ .non ⟨a, _, rfl, n, upd_same, tx.append (.cons d1 .nil)⟩⟩
    · cases e
  · cases e
def mPop : List D → O → Option (D × O) := fun ds o => match ds, o with
  | [], .ol es => (es[es.length - 1]?).map fun d => (d, .ol es.dropLast)
  | _, _ => none
theorem DdAll.dropLast {Hs : Hp} {ds : List D} {vs : List V} (t : DdAll K Hs ds vs) : DdAll K Hs ds.dropLast vs.dropLast := by
  rw [List.dropLast_eq_take, List.dropLast_eq_take, t.length]
  exact t.take _
theorem s_pop : MtSat K rPop mPop := fun Hs H a o ds vs d o' sb k ow dd e Q q => by
  unfold mPop at e
  split at e
  · next es =>
    simp only [Option.map_eq_some_iff] at e
    obtain ⟨d1, h1, h2⟩ := e
    cases h2
    obtain ⟨b, xs, eb, n, hx, tx⟩ := k
    cases eb
    cases dd
    obtain ⟨y, hy, dy⟩ := tx.get h1
    exact ⟨a, xs, y, rfl, rfl, hx, by rw [tx.length]; exact hy, q _ _ dy ⟨a, _, rfl, n, upd_same, tx.dropLast⟩⟩
  · cases e
def mReverse : List D → O → Option (D × O) := fun ds o => match ds, o with
  | [], .ol es => some (.non, .ol es.reverse)
  | _, _ => none
theorem s_reverse : MtSat K rReverse mReverse := fun Hs H a o ds vs d o' sb k ow dd e Q q => by
  unfold mReverse at e
  split at e
  · next es =>
    cases e
    obtain ⟨b, xs, eb, n, hx, tx⟩ := k
    cases eb
    cases dd
    exact ⟨a, xs, rfl, rfl, hx, q _ _ .non ⟨a, _, rfl, n, upd_same, tx.reverse⟩⟩
  · cases e

/-! ### xs[i] = e -/
def setL (k : Int) (d : D) : O → Option (D × O) := fun o => match o with
  | .ol ds => (ixN ds.length k).map fun j => (.non, .ol (ds.set j d))
  | _ => none
def sSetIx (i : Nat) (fv : DF) (fi : EF) : SF := fun env => (fv env).bind fun p => if kindS p.2 i = "list" then (fi p.2).bind fun q => (hGet q.2 q.1).bind fun o => (asI o).bind fun k => (mutS q.2 i (setL k p.1)).bind fun w => some (.nx w.2) else none
theorem sat_setIx {tv ti : TE} {fv : DF} {fi : EF} (hv : SatD K tv fv) (hi : SatE K ti fi) : SatS K (tAsg tv (gSub (tVar i) ti rSetL)) (sSetIx i fv fi) := fun Hs H σ env out rr g DE k => by
  simp only [sSetIx, Option.bind_eq_some_iff] at g
  obtain ⟨⟨d, e1⟩, g1, g⟩ := g
  split at g
  · next hk =>
    simp only [Option.bind_eq_some_iff] at g
    obtain ⟨⟨x, e2⟩, g2, o, g3, kk, g4, ⟨dn, e3⟩, g5, g6⟩ := g
    cases g6
    refine hv Hs H σ env d e1 rr g1 _ fun Hs1 H1 v p1 d1 => ?_
    obtain ⟨w, ew⟩ := slot_of p1.r hk (by decide)
    refine ⟨w, ew, hi Hs1 H1 σ e1 x e2 p1.r g2 _ fun Hs2 H2 iv p2 k2 f2 => ?_⟩
    obtain ⟨a, o, o', rfl, ko, ow, hg, go⟩ := (p1.trans p2).mutted ew g5
    unfold setL at hg
    split at hg
    · next ds =>
      simp only [Option.map_eq_some_iff] at hg
      obtain ⟨j, hj, e4⟩ := hg
      cases e4
      obtain ⟨b, xs, eb, n, hx, tx⟩ := ko
      cases eb
      refine ⟨a, xs, kk, j, rfl, asI_ok g4 (k2.get p2.r g3), hx, by rw [tx.length]; exact hj, ?_⟩
      exact k Hs2 _ σ (go _ ⟨a, _, rfl, n, upd_same, tx.set (d1.mono p2.ext.hs) j⟩)
    · cases hg
  · cases g
/-! ### xs[i] op= e -/
theorem pget_list {X : Cx} : PGet X (rIxL X.K) := by
  intro pins s σ H x y v u Q I rx ry h
  obtain ⟨p, xs, i, z, rfl, rfl, hq, he, q⟩ := h
  cases rx
  obtain ⟨t, rfl⟩ := ry
  obtain ⟨its, r, pl, hz⟩ := I.list hq
  obtain ⟨j, h1, h2, h3, h4, h5⟩ := atI_get he
  obtain ⟨w, ew, rw'⟩ := r.get h2
  have hl := r.length
  have hn := line63
  have fin : EP X pins σ Q w s := ⟨z, H, I, rw', q⟩
  by_cases h0 : 0 ≤ i
  · have hj : i.toNat = j := by
      rw [PySem.seqIndex_of h0 h5] at h1
      exact Option.some.inj h1
    exact wpAny_getItem_list pl.isList h0 (by omega) (by rw [hj]; simpa using ew) fin
  · have hj : (i + (its.toArray.size : Int)).toNat = j := by
      rw [PySem.seqIndex_neg (by omega) h4] at h1
      rw [List.size_toArray, ← hl]
      exact Option.some.inj h1
    exact wpAny_getItem_list_neg pl.isList (by omega) (by rw [List.size_toArray] <;> omega) (by omega) (by rw [hj]; simpa using ew) fin
def sAugIx (i : Nat) (fi : EF) (op : O → O → Option O) (fe : EF) : SF := fun env => if kindS env i = "list" then (fi env).bind fun q => (hGet q.2 q.1).bind fun oi => (asI oi).bind fun k => (hGet q.2 (.var i)).bind fun ol => (asL ol).bind fun ds => (atI ds k).bind fun d =>
    (fe q.2).bind fun w => (hGet w.2 w.1).bind fun y => (op (.shr d) y).bind fun z => (match z with
      | .shr dz => some dz
      | _ => none).bind fun dz => (mutS w.2 i (setL k dz)).bind fun w => some (.nx w.2) else none
theorem sat_augIx {ti te : TE} {fi fe : EF} {tip : TIp} {op : O → O → Option O} (hop : OpSat K tip op) (hi : SatE K ti fi) (he : SatE K te fe) : SatS K (tAugS (tVar i) ti te (rIxL K) tip rSetL) (sAugIx i fi op fe) := fun Hs H σ env out rr g DE k => by
  unfold sAugIx at g
  split at g
  · next hk =>
    simp only [Option.bind_eq_some_iff] at g
    obtain ⟨⟨x, e1⟩, g1, oi, g2, kk, g3, ol, g4, ds, g5, d, g6, ⟨y, e2⟩, g7, oy, g8, z, g9, dz, g10, ⟨dn, e3⟩, g11, g12⟩ := g
    cases g12
    cases z with
    | shr dz' =>
      cases g10
      obtain ⟨w, ew⟩ := slot_of rr hk (by decide)
      refine ⟨w, ew, hi Hs H σ env x e1 rr g1 _ fun Hs1 H1 iv p1 k1 f1 => ?_⟩
      have ei := asI_ok g3 (k1.get p1.r g2)
      subst ei
      have kw : HOk K Hs1 H1 σ e1 w (.var i) := ew
      obtain ⟨a, xs, rfl, hx, tx⟩ := asL_ok p1.r.sub g5 (kw.get p1.r g4)
      obtain ⟨v0, hv0, dv0⟩ := atI_dd tx g6
      refine ⟨a, xs, kk, v0, rfl, rfl, SqL.of hx, hv0, ?_⟩
      refine he Hs1 H1 σ e1 y e2 p1.r g7 _ fun Hs2 H2 yv p2 k2 f2 => ?_
      refine hop Hs2 H2 v0 yv (.shr d) oy _ p2.r.sub (dv0.mono p2.ext.hs) (k2.get p2.r g8) g9 _ fun Hs3 H3 zv x3 s3 kz fz => ?_
      have p3 := (p1.trans p2).trans (Po.keep p2.r x3 s3)
      obtain ⟨a', o, o', ea, ko, ow, hg, go⟩ := p3.mutted ew g11
      cases ea
      unfold setL at hg
      split at hg
      · next ds' =>
        simp only [Option.map_eq_some_iff] at hg
        obtain ⟨j, hj, e4⟩ := hg
        cases e4
        obtain ⟨b, xs', eb, n, hx', tx'⟩ := ko
        cases eb
        exact ⟨a, xs', kk, j, rfl, rfl, hx', by rw [tx'.length]; exact hj, k Hs3 _ σ (go _ ⟨a, _, rfl, n, upd_same, tx'.set kz j⟩)⟩
      · cases hg
    | ol _ => cases g10
    | od _ => cases g10
  · cases g
/-! ### x op= e -/
def sAug (i : Nat) (op : O → O → Option O) (fe : EF) : SF := fun env => (hGet env (.var i)).bind fun x => (match x with
    | .shr d => some d
    | _ => none).bind fun d => (fe env).bind fun w => (hGet w.2 w.1).bind fun y => (op (.shr d) y).bind fun z => (bindH i (.tmp z) w.2).bind fun e => some (.nx e)
theorem sat_aug {te : TE} {fe : EF} {tip : TIp} {op : O → O → Option O} (hop : OpSat K tip op) (he : SatE K te fe) : SatS K (tAug i te tip) (sAug i op fe) := fun Hs H σ env out rr g DE k => by
  simp only [sAug, Option.bind_eq_some_iff] at g
  obtain ⟨x, g1, d, g2, ⟨y, e2⟩, g3, oy, g4, z, g5, e3, g6, g7⟩ := g
  cases g7
  cases x with
  | shr d' =>
    cases g2
    obtain ⟨s, es, eo⟩ := hGet_var g1
    obtain ⟨w, ew, kw⟩ := rr.ok i s es
    rw [eo] at kw
    refine ⟨w, ew, he Hs H σ env y e2 rr g3 _ fun Hs1 H1 yv p1 k1 f1 => ?_⟩
    refine hop Hs1 H1 w yv (.shr d) oy z p1.r.sub (Dd.mono p1.ext.hs kw) (k1.get p1.r g4) g5 _ fun Hs2 H2 zv x2 s2 kz fz => ?_
    have p2 := p1.trans (Po.keep p1.r x2 s2)
    obtain ⟨Hs3, p3⟩ := p2.bind (h := .tmp z) ⟨kz, HOk.new p1.r kz fz⟩ (Fre.back fz p1.ext) g6
    exact k Hs3 H2 _ p3
  | ol _ => cases g2
  | od _ => cases g2
theorem s_ip {g : Int → Int → Int} : OpSat K (ipI g) (oI2 fun i j => some (.int (g i j))) := by
  intro Hs H x y ox oy o sb kx ky e Q q
  simp only [oI2, Option.bind_eq_some_iff, Option.map_eq_some_iff] at e
  obtain ⟨i, hi, j, hj, d, hd, rfl⟩ := e
  cases hd
  exact ⟨i, j, asI_ok hi kx, asI_ok hj ky, q.val sb (.int _)⟩
theorem s_ipadd : OpSat K (ipI fun i j => i + j) oAddI := s_ip
theorem s_ipsub : OpSat K (ipI fun i j => i - j) oSub := s_ip
end

/-! ### loops -/
/-- what a loop walks: at each turn the next datum, however the heap has gone on meanwhile -/
def Src (K : PySem.W.Frag) (J : It) (ds : List D) (Hs1 H1 : Hp) (M : Mu) : Prop := ∀ Hs2 H2, Ext M Hs1 H1 Hs2 H2 → (∀ a u, Hs2 a = some u → H2 a = some u) → ∀ i : Nat,
  (∀ d, ds[i]? = some d → J.go i H2 ∧ ∀ x H3, J.yld i H2 x H3 → ∃ Hs3, Ext (fun _ => False) Hs2 H2 Hs3 H3 ∧ (∀ a u, Hs3 a = some u → H3 a = some u) ∧ Dd K Hs3 d x) ∧ (ds.length ≤ i → J.stop i H2)
def lockS (env : Sto) : Option (Nat × Slot) → Sto
  | some (i, s) => env.set i (some { s with lk := true })
  | none => env
def unlockS (env : Sto) : Option (Nat × Slot) → Sto
  | some (i, s) => env.set i (some s)
  | none => env
abbrev IF := Sto → Option ((List D × Option (Nat × Slot)) × Sto)
def LkOk (env : Sto) : Option (Nat × Slot) → Prop
  | some (i, s) => env[i]? = some (some s)
  | none => True
def SatI (K : PySem.W.Frag) (wi : TI) (f : IF) : Prop := ∀ Hs H σ env ds l env1, R K Hs H σ env → f env = some ((ds, l), env1) →
  ∀ Rr : It → Hp → Prop, (∀ Hs1 H1 J, Po K Hs H σ env Hs1 H1 σ env1 → LkOk env1 l → Src K J ds Hs1 H1 (Mof σ (lockS env1 l)) → Rr J H1) → wi σ H Rr
section
variable {K : PySem.W.Frag} {Hs H Hs' H' Hs1 H1 Hs2 H2 Hs0 H0 : Hp} {σ σ' σ1 σ2 σ0 : L2.St} {env env' env1 env2 env0 : Sto} {DE : Ends} {out : Out} {te : TE} {fe : EF} {t : TS} {f : SF} {l : Option (Nat × Slot)}
theorem lock_at {i : Nat} {s : Slot} (e : env[i]? = some (some s)) {j : Nat} {s' : Slot} (ej : (env.set i (some { s with lk := true }))[j]? = some (some s')) : (j = i ∧ s' = { s with lk := true }) ∨ (j ≠ i ∧ env[j]? = some (some s')) := by
  by_cases z : i = j
  · subst z
    rw [List.getElem?_set_self (List.getElem?_eq_some_iff.mp e).1] at ej
    exact .inl ⟨rfl, (Option.some.inj (Option.some.inj ej)).symm⟩
  · rw [List.getElem?_set_ne z] at ej
    exact .inr ⟨fun w => z w.symm, ej⟩
theorem lock_owns (hl : LkOk env l) {i : Nat} (o : owns (lockS env l) i) : owns env i := by
  cases l with
  | none => exact o
  | some p =>
    obtain ⟨k, s⟩ := p
    obtain ⟨s', e, w⟩ := o
    rcases lock_at hl e with ⟨rfl, rfl⟩ | ⟨_, e⟩
    · exact ⟨s, hl, w⟩
    · exact ⟨s', e, w⟩
theorem lock_muts (hl : LkOk env l) {i : Nat} (o : muts (lockS env l) i) : muts env i := by
  cases l with
  | none => exact o
  | some p =>
    obtain ⟨k, s⟩ := p
    obtain ⟨s', e, w, n⟩ := o
    rcases lock_at hl e with ⟨rfl, rfl⟩ | ⟨_, e⟩
    · cases n
    · exact ⟨s', e, w, n⟩
theorem R.lock (r : R K Hs H σ env) (hl : LkOk env l) : R K Hs H σ (lockS env l) := by
  cases l with
  | none => exact r
  | some p =>
    obtain ⟨k, s⟩ := p
    refine ⟨by show (env.set _ _).length = _; rw [List.length_set]; exact r.len, r.sub, fun i s' e => ?_, fun i j v o1 o2 => r.inj i j v (lock_owns hl o1) (lock_owns hl o2)⟩
    rcases lock_at hl e with ⟨rfl, rfl⟩ | ⟨_, e⟩
    · exact r.ok _ s hl
    · exact r.ok i s' e
theorem mof_lock (hl : LkOk env l) : ∀ a, Mof σ (lockS env l) a → Mof σ env a := fun a ⟨i, m, e⟩ => ⟨i, lock_muts hl m, e⟩
/-- behind the loop the walked list is free again -/
theorem Po.unlock (hl : LkOk env l) (r : R K Hs H σ env) (p : Po K Hs H σ (lockS env l) Hs' H' σ' env') : Po K Hs H σ env Hs' H' σ' (unlockS env' l) := by
  cases l with
  | none => exact p
  | some q =>
    obtain ⟨k, s⟩ := q
    have e0 : env[k]? = some (some s) := hl
    have hk : k < env.length := (List.getElem?_eq_some_iff.mp e0).1
    have e1 : (lockS env (some (k, s)))[k]? = some (some { s with lk := true }) := List.getElem?_set_self hk
    obtain ⟨e2, eσ⟩ := p.lk k _ e1 rfl
    have hk' : k < env'.length := (List.getElem?_eq_some_iff.mp e2).1
    have at_ : ∀ {j : Nat} {s' : Slot}, (unlockS env' (some (k, s)))[j]? = some (some s') → (j = k ∧ s' = s) ∨ (j ≠ k ∧ env'[j]? = some (some s')) := fun {j s'} ej => by
      have ej : (env'.set k (some s))[j]? = some (some s') := ej
      by_cases z : k = j
      · subst z
        rw [List.getElem?_set_self hk'] at ej
        exact .inl ⟨rfl, (Option.some.inj (Option.some.inj ej)).symm⟩
      · rw [List.getElem?_set_ne z] at ej
        exact .inr ⟨fun w => z w.symm, ej⟩
    have ow : ∀ {j : Nat}, owns (unlockS env' (some (k, s))) j → owns env' j := fun {j} ⟨s', ej, w⟩ => by
      rcases at_ ej with ⟨rfl, rfl⟩ | ⟨_, ej⟩
      · exact ⟨_, e2, w⟩
      · exact ⟨s', ej, w⟩
    refine ⟨⟨by show (env'.set k (some s)).length = _; rw [List.length_set]; exact p.r.len, p.r.sub, fun j s' ej => ?_, fun i j v o1 o2 => p.r.inj i j v (ow o1) (ow o2)⟩, p.ext.weak (mof_lock hl), fun j a oj ea => ?_, fun j s' ej pn => ?_, fun j s' ej lk => ?_, fun j s' ej pn => ?_⟩
    · rcases at_ ej with ⟨rfl, rfl⟩ | ⟨_, ej⟩
      · exact p.r.ok j (Slot.mk s'.o s'.pin true) e2
      · exact p.r.ok j s' ej
    · rcases p.own j a (ow oj) ea with ⟨c1, c2, c3⟩ | c
      · refine .inl ⟨lock_owns hl c1, c2, fun ⟨s', ej, w, n⟩ => ?_⟩
        rcases at_ ej with ⟨rfl, rfl⟩ | ⟨ne, ej⟩
        · exact ⟨_, e0, w, n⟩
        · exact lock_muts hl (c3 ⟨s', ej, w, n⟩)
      · exact .inr c
    · by_cases z : j = k
      · subst z
        rw [e0] at ej
        cases ej
        exact ⟨eσ, _, List.getElem?_set_self hk', pn, rfl⟩
      · have ej' : (lockS env (some (k, s)))[j]? = some (some s') := by
          show (env.set k _)[j]? = _
          rw [List.getElem?_set_ne (Ne.symm z)]
          exact ej
        obtain ⟨c1, s2, c2, c3, c4⟩ := p.pin j s' ej' pn
        exact ⟨c1, s2, by show (env'.set k _)[j]? = _; rw [List.getElem?_set_ne (Ne.symm z)]; exact c2, c3, c4⟩
    · by_cases z : j = k
      · subst z
        rw [e0] at ej
        cases ej
        exact ⟨List.getElem?_set_self hk', eσ⟩
      · have ej' : (lockS env (some (k, s)))[j]? = some (some s') := by
          show (env.set k _)[j]? = _
          rw [List.getElem?_set_ne (Ne.symm z)]
          exact ej
        obtain ⟨c1, c2⟩ := p.lk j s' ej' lk
        exact ⟨by show (env'.set k _)[j]? = _; rw [List.getElem?_set_ne (Ne.symm z)]; exact c1, c2⟩
    · have back : ∀ {s3 : Slot}, env'[j]? = some (some s3) → s3.pin = true → ∃ s : Slot, env[j]? = some (some s) ∧ s.pin = true := fun {s3} e3 p3 => by
        obtain ⟨s4, e4, p4⟩ := p.np j s3 e3 p3
        rcases lock_at hl e4 with ⟨rfl, rfl⟩ | ⟨_, e4⟩
        · exact ⟨s, e0, p4⟩
        · exact ⟨s4, e4, p4⟩
      rcases at_ ej with ⟨rfl, rfl⟩ | ⟨_, ej⟩
      · exact ⟨_, e0, pn⟩
      · exact back ej pn
theorem PoR.unlock (hl : LkOk env l) (p : PoR K Hs H σ (lockS env l) Hs' H' σ' env') : PoR K Hs H σ env Hs' H' σ' env' := by
  refine ⟨p.r, p.ext.weak (mof_lock hl), fun j s' ej pn => ?_⟩
  cases l with
  | none => exact p.pin j s' ej pn
  | some q =>
    obtain ⟨k, s⟩ := q
    have e0 : env[k]? = some (some s) := hl
    by_cases z : k = j
    · subst z
      rw [e0] at ej
      cases ej
      exact p.pin k _ (List.getElem?_set_self (List.getElem?_eq_some_iff.mp e0).1) pn
    · exact p.pin j s' (by show (env.set k _)[j]? = _; rw [List.getElem?_set_ne z]; exact ej) pn
theorem ROut.unlock {v : V} {r : Rs} (hl : LkOk env l) (q : ROut K H σ (lockS env l) Hs' H' σ' v r) : ROut K H σ env Hs' H' σ' v r := by
  have back : ∀ {j : Nat} {s : Slot}, (lockS env l)[j]? = some (some s) → ∃ s' : Slot, env[j]? = some (some s') ∧ s'.o = s.o ∧ s'.pin = s.pin := fun {j s} e => by
    cases l with
    | none => exact ⟨s, e, rfl, rfl⟩
    | some ks =>
      obtain ⟨k, s0⟩ := ks
      rcases lock_at hl e with ⟨rfl, rfl⟩ | ⟨_, e⟩
      · exact ⟨s0, hl, rfl, rfl⟩
      · exact ⟨s, e, rfl, rfl⟩
  cases r with
  | two d ds => exact q
  | par j =>
    obtain ⟨a, s, es, ps⟩ := q
    obtain ⟨s', es', _, ps'⟩ := back es
    exact ⟨a, s', es', ps'.trans ps⟩
  | o o =>
    refine ⟨q.1, fun w a ea => ?_⟩
    rcases q.2 w a ea with n | ⟨i, s, es, ow, np, eσ⟩
    · exact .inl n
    · obtain ⟨s', es', oe, pe⟩ := back es
      exact .inr ⟨i, s', es', by rw [oe]; exact ow, pe.trans np, eσ⟩
end
def loopF (g : GF) (b : SF) : List D → SF
  | [], e => some (.nx e)
  | d :: r, e => (g d e).bind fun e1 => (b e1).bind fun o => match o with
    | .nx e' => loopF g b r e'
    | .ct e' => loopF g b r e'
    | .bk e' => some (.nx e')
    | .rt x e' => some (.rt x e')
def unlockO (l : Option (Nat × Slot)) : Out → Out
  | .nx e => .nx (unlockS e l)
  | .bk e => .bk (unlockS e l)
  | .ct e => .ct (unlockS e l)
  | .rt r e => .rt r e
def sFor (fi : IF) (g : GF) (b : SF) : SF := fun env => (fi env).bind fun p => (loopF g b p.1.1 (lockS p.2 p.1.2)).bind fun o => some (unlockO p.1.2 o)
theorem sat_for {K : PySem.W.Frag} {wi : TI} {fi : IF} {tg : TG} {vs : List Nat} {g : GF} {tb : TS} {b : SF} (hi : SatI K wi fi) (hg : SatG K tg vs g) (hb : SatS K tb b) : SatS K (tFor wi tg tb) (sFor fi g b) := fun Hs H σ env out rr e DE k => by
  simp only [sFor, Option.bind_eq_some_iff] at e
  obtain ⟨⟨⟨ds, l⟩, env1⟩, g1, o, g2, g3⟩ := e
  cases g3
  refine hi Hs H σ env ds l env1 rr g1 _ fun Hs1 H1 J p1 hl src => ?_
  have r1 := p1.r.lock hl
  -- what is wanted behind the loop, from the locked state on
  have fin : OkD K Hs1 H1 σ (lockS env1 l) DE o := by
    cases o with
    | nx e => exact fun Hs' H' σ' q => k Hs' H' σ' (p1.trans (Po.unlock hl p1.r q))
    | bk e => exact fun Hs' H' σ' q => k Hs' H' σ' (p1.trans (Po.unlock hl p1.r q))
    | ct e => exact fun Hs' H' σ' q => k Hs' H' σ' (p1.trans (Po.unlock hl p1.r q))
    | rt r e => exact fun Hs' H' σ' v q w => k Hs' H' σ' v ((PoR.unlock hl q).after p1) ((ROut.unlock hl w).after p1)
  refine ⟨fun i m σ' H' => m = ds.length - i ∧ i ≤ ds.length ∧ ∃ Hs' env', Po K Hs1 H1 σ (lockS env1 l) Hs' H' σ' env' ∧ loopF g b (ds.drop i) env' = some o, ⟨ds.length, by simp, Nat.zero_le _, Hs1, _, Po.refl r1, g2⟩, ?_⟩
  rintro i m σ' H' ⟨rfl, hi', Hs', env', q, hr⟩
  obtain ⟨s1, s2⟩ := src Hs' H' q.ext q.r.sub i
  by_cases hlt : i < ds.length
  · have ed : ds[i]? = some ds[i] := List.getElem?_eq_getElem hlt
    rw [List.drop_eq_getElem_cons hlt] at hr
    simp only [loopF, Option.bind_eq_some_iff] at hr
    obtain ⟨e1, h1, o1, h2, h3⟩ := hr
    obtain ⟨go, yl⟩ := s1 _ ed
    refine .inr ⟨go, fun σ2 H2 => ∃ Hs2 env2, Po K Hs1 H1 σ (lockS env1 l) Hs2 H2 σ2 env2 ∧ loopF g b (ds.drop (i + 1)) env2 = some o, fun σ2 H2 ⟨Hs2, env2, q2, hr2⟩ => ⟨ds.length - (i + 1), by omega, rfl, hlt, Hs2, env2, q2, hr2⟩, fun x H3 y => ?_⟩
    obtain ⟨Hs3, x3, sb3, dx⟩ := yl x H3 y
    have q3 := q.trans (Po.keep q.r x3 sb3)
    refine hg Hs1 H1 σ (lockS env1 l) Hs3 H3 σ' env' _ x e1 q3 dx h1 _ fun Hs4 H4 σ4 q4 _ _ _ => ?_
    refine hb Hs4 H4 σ4 e1 o1 q4.r h2 _ ?_
    cases o1 with
    | nx e' => exact fun Hs5 H5 σ5 q5 => ⟨Hs5, e', q4.trans q5, h3⟩
    | ct e' => exact fun Hs5 H5 σ5 q5 => ⟨Hs5, e', q4.trans q5, h3⟩
    | bk e' => cases h3; exact fun Hs5 H5 σ5 q5 => fin Hs5 H5 σ5 (q4.trans q5)
    | rt r e' => cases h3; exact fun Hs5 H5 σ5 v q5 w => fin Hs5 H5 σ5 v (q5.after q4) (w.after q4)
  · have ei : i = ds.length := by omega
    subst ei
    rw [List.drop_length] at hr
    cases hr
    exact .inl ⟨s2 (Nat.le_refl _), fin Hs' H' σ' q⟩
end PV

set_option maxRecDepth 100000
set_option maxHeartbeats 2000000
namespace PV
open PySem L2

/-! ### what is walked -/
theorem PI.or {X : Cx} {tg e : Expr} {w1 w2 : TI} (h1 : PI X tg e w1) (h2 : PI X tg e w2) : PI X tg e (fun σ H Rr => w1 σ H Rr ∨ w2 σ H Rr) :=
  ⟨fun pins s σ H Rr I h => h.elim (h1.run pins s σ H Rr I) (h2.run pins s σ H Rr I)⟩
theorem PE.or {X : Cx} {e : Expr} {w1 w2 : TE} (h1 : PE X e w1) (h2 : PE X e w2) : PE X e (fun σ H Rr => w1 σ H Rr ∨ w2 σ H Rr) :=
  ⟨fun pins s σ H Rr I h => h.elim (h1.run pins s σ H Rr I) (h2.run pins s σ H Rr I)⟩
def inR (i : Int) : Bool := decide (-(2 ^ 62) ≤ i) && decide (i < 2 ^ 62)
def iR1 (f : HsF) : IF := fun env => (f env).bind fun p => (hGets p.2 p.1).bind fun os => match os with
  | [o] => (asI o).bind fun j => if inR j then some (((List.range j.toNat).map fun (k : Nat) => D.int (k : Int), none), p.2) else none
  | _ => none
def iR2 (f : HsF) : IF := fun env => (f env).bind fun p => (hGets p.2 p.1).bind fun os => match os with
  | [o, o'] => (asI o).bind fun i => (asI o').bind fun j => if inR i && inR j then some (((List.range (j - i).toNat).map fun (k : Nat) => D.int (i + (k : Int)), none), p.2) else none
  | _ => none
def lkOf (env : Sto) (h : Hnd) : Option (Nat × Slot) := match h with
  | .var i => match env[i]? with
    | some (some s) => if s.o.own then some (i, s) else none
    | _ => none
  | .tmp _ => none
def iSeq (f : EF) : IF := fun env => (f env).bind fun p => (hGet p.2 p.1).bind fun o => ((asLQ o).or (asT o)).bind fun ds => some ((ds, lkOf p.2 p.1), p.2)
section
variable {K : PySem.W.Frag} {te : TE} {fe : EF} {t : TA} {f : HsF}
theorem src_range {lo : Int} {n : Nat} {Hs H : Hp} {M : Mu} : Src K (Itr lo n) ((List.range n).map fun (k : Nat) => D.int (lo + (k : Int))) Hs H M := fun Hs2 H2 _ sb i => by
  refine ⟨fun d e => ?_, fun h => ?_⟩
  · rw [List.getElem?_map] at e
    cases hi : (List.range n)[i]? with
    | none => rw [hi] at e; cases e
    | some k =>
      rw [hi] at e
      cases e
      obtain ⟨h1, h2⟩ := List.getElem?_eq_some_iff.mp hi
      rw [List.length_range] at h1
      rw [List.getElem_range] at h2
      subst h2
      refine ⟨h1, fun x H3 y => ?_⟩
      obtain ⟨rfl, rfl⟩ := y
      exact ⟨Hs2, Ext.refl, sb, .int _⟩
  · rw [List.length_map, List.length_range] at h
    exact h
theorem inR_ok {i : Int} (h : inR i = true) : -(2 ^ 62) ≤ i ∧ i < 2 ^ 62 := by
  unfold inR at h
  simp only [Bool.and_eq_true, decide_eq_true_eq] at h
  exact h
theorem sat_R1 (h : SatHs K t f) : SatI K (iRng1 t) (iR1 f) := fun Hs H σ env ds l env1 r g Rr q => by
  simp only [iR1, Option.bind_eq_some_iff] at g
  obtain ⟨⟨hs, e1⟩, g1, os, g2, g3⟩ := g
  match os, g2, g3 with
  | [o], g2, g3 =>
    simp only [Option.bind_eq_some_iff] at g3
    obtain ⟨j, hj, g3⟩ := g3
    split at g3
    · next hr =>
      cases g3
      refine h Hs H σ env hs _ r g1 _ fun Hs1 H1 vs p1 k1 f1 => ?_
      obtain ⟨x, rfl, kx⟩ := (k1.gets p1.r g2).one
      have ex := asI_ok hj kx
      subst ex
      refine ⟨j, rfl, (inR_ok hr).1, (inR_ok hr).2, q Hs1 H1 _ p1 True.intro ?_⟩
      have := src_range (K := K) (lo := 0) (n := j.toNat) (Hs := Hs1) (H := H1) (M := Mof σ (lockS env1 none))
      simpa using this
    · cases g3
theorem sat_R2 (h : SatHs K t f) : SatI K (iRng2 t) (iR2 f) := fun Hs H σ env ds l env1 r g Rr q => by
  simp only [iR2, Option.bind_eq_some_iff] at g
  obtain ⟨⟨hs, e1⟩, g1, os, g2, g3⟩ := g
  match os, g2, g3 with
  | [o, o'], g2, g3 =>
    simp only [Option.bind_eq_some_iff] at g3
    obtain ⟨i, hi, j, hj, g3⟩ := g3
    split at g3
    · next hr =>
      cases g3
      simp only [Bool.and_eq_true] at hr
      refine h Hs H σ env hs _ r g1 _ fun Hs1 H1 vs p1 k1 f1 => ?_
      obtain ⟨x, y, rfl, kx, ky⟩ := (k1.gets p1.r g2).two
      have ex := asI_ok hi kx
      have ey := asI_ok hj ky
      subst ex ey
      exact ⟨i, j, rfl, ⟨(inR_ok hr.1).1, (inR_ok hr.1).2, (inR_ok hr.2).1, (inR_ok hr.2).2⟩, q Hs1 H1 _ p1 True.intro src_range⟩
    · cases g3
theorem lkOf_ok {env : Sto} {h : Hnd} : LkOk env (lkOf env h) := by
  cases h with
  | tmp o => exact True.intro
  | var i =>
    unfold lkOf
    dsimp only
    cases e : env[i]? with
    | none => exact True.intro
    | some x =>
      cases x with
      | none => exact True.intro
      | some s =>
        dsimp only
        split
        · exact e
        · exact True.intro
/-- a list that is walked is not changed meanwhile -/
theorem not_mof {Hs H : Hp} {σ : L2.St} {env : Sto} {h : Hnd} {v : V} {o : O} {a : Addr} (r : R K Hs H σ env) (k : HOk K Hs H σ env v h) (g : hGet env h = some o) (ow : o.own = true) (ev : v = .ref a) : ¬ Mof σ (lockS env (lkOf env h)) a := fun ⟨j, m, ej⟩ => by
  subst ev
  cases h with
  | tmp o' =>
    cases g
    exact k.2 ow j m.owns ej
  | var i =>
    obtain ⟨s, es, rfl⟩ := hGet_var g
    have eσ : σ[i]? = some (some (.ref a)) := k
    have hl : LkOk env (lkOf env (.var i)) := lkOf_ok
    have el : lkOf env (.var i) = some (i, s) := by
      unfold lkOf
      dsimp only
      rw [es]
      dsimp only
      rw [if_pos ow]
    rw [el] at m hl
    have z := r.inj j i _ (lock_owns hl m.owns) ⟨s, es, ow⟩ ej eσ
    subst z
    obtain ⟨s', es', _, l'⟩ := m
    rcases lock_at es es' with ⟨_, rfl⟩ | ⟨ne, _⟩
    · cases l'
    · exact ne rfl
theorem src_list {Hs H : Hp} {M : Mu} {a : Addr} {xs : List V} {ds : List D} (st : ∀ Hs2 H2, Ext M Hs H Hs2 H2 → (∀ a u, Hs2 a = some u → H2 a = some u) → SqL K H2 a xs) (dd : DdAll K Hs ds xs) : Src K (Itl K a) ds Hs H M := fun Hs2 H2 x sb i => by
  have q := st Hs2 H2 x sb
  refine ⟨fun d e => ?_, fun h => ⟨xs, q, by rw [dd.length]; exact h⟩⟩
  obtain ⟨v, ev, dv⟩ := dd.get e
  refine ⟨⟨xs, v, q, ev⟩, fun y H3 yl => ?_⟩
  obtain ⟨rfl, yl⟩ := yl
  have e2 := yl xs q
  rw [ev] at e2
  cases e2
  exact ⟨Hs2, x.trans Ext.refl (fun _ z => .inl z) |> fun _ => Ext.refl, sb, dv.mono x.hs⟩
theorem src_tup {Hs H : Hp} {M : Mu} {a : Addr} {xs : List V} {ds : List D} (st : ∀ Hs2 H2, Ext M Hs H Hs2 H2 → (∀ a u, Hs2 a = some u → H2 a = some u) → SqT K H2 a xs) (dd : DdAll K Hs ds xs) : Src K (Itt K a) ds Hs H M := fun Hs2 H2 x sb i => by
  have q := st Hs2 H2 x sb
  refine ⟨fun d e => ?_, fun h => ⟨xs, q, by rw [dd.length]; exact h⟩⟩
  obtain ⟨v, ev, dv⟩ := dd.get e
  refine ⟨⟨xs, v, q, ev⟩, fun y H3 yl => ?_⟩
  obtain ⟨rfl, yl⟩ := yl
  have e2 := yl xs q
  rw [ev] at e2
  cases e2
  exact ⟨Hs2, Ext.refl, sb, dv.mono x.hs⟩
def wSeq (K : PySem.W.Frag) (te : TE) : TI := fun σ H Rr => iList K te σ H Rr ∨ iTup K te σ H Rr
theorem pi_seq {X : Cx} {tg e : Expr} (h : PE X e te) : PI X tg e (wSeq X.K te) := PI.or (pi_list h) (pi_tup h)
theorem sat_seqI (h : SatE K te fe) : SatI K (wSeq K te) (iSeq fe) := fun Hs H σ env ds l env1 r g Rr q => by
  simp only [iSeq, Option.bind_eq_some_iff] at g
  obtain ⟨⟨hd, e1⟩, g1, o, g2, ds', g3, g4⟩ := g
  cases g4
  cases e3 : asLQ o with
  | some z =>
    rw [e3] at g3
    cases g3
    refine .inl (h Hs H σ env hd _ r g1 _ fun Hs1 H1 v p1 k1 f1 => ?_)
    have kk := k1.get p1.r g2
    have nm := fun a ev ow => not_mof (a := a) p1.r k1 g2 ow ev
    cases o with
    | ol es =>
      cases e3
      obtain ⟨a, xs, rfl, n, hx, dd⟩ := kk
      exact ⟨a, rfl, ⟨xs, SqL.of hx⟩, q Hs1 H1 _ p1 lkOf_ok (src_list (fun Hs2 H2 x sb => SqL.of (x.kp _ _ hx (nm a rfl rfl))) dd)⟩
    | od es => cases e3
    | shr d =>
      cases kk with
      | lst hx dd =>
        cases e3
        exact ⟨_, rfl, ⟨_, SqL.of (p1.r.sub _ _ hx)⟩, q Hs1 H1 _ p1 lkOf_ok (src_list (fun Hs2 H2 x sb => SqL.of (sb _ _ (x.hs _ _ hx))) dd)⟩
      | scr hx =>
        cases e3
        exact ⟨_, rfl, ⟨_, sq_mono p1.r.sub hx⟩, q Hs1 H1 _ p1 lkOf_ok (src_list (fun Hs2 H2 x sb => sq_mono (fun a u h => sb _ _ (x.hs _ _ h)) hx) (DdAll.ints _))⟩
      | _ => cases e3
  | none =>
    rw [e3] at g3
    simp only [Option.none_or] at g3
    refine .inr (h Hs H σ env hd _ r g1 _ fun Hs1 H1 v p1 k1 f1 => ?_)
    have kk := k1.get p1.r g2
    cases o with
    | ol es => cases g3
    | od es => cases g3
    | shr d =>
      cases kk with
      | tup hx dd =>
        cases g3
        exact ⟨_, rfl, ⟨_, SqT.of (p1.r.sub _ _ hx)⟩, q Hs1 H1 _ p1 lkOf_ok (src_tup (fun Hs2 H2 x sb => SqT.of (sb _ _ (x.hs _ _ hx))) dd)⟩
      | _ => cases g3
end

/-! ### comprehensions -/
def wipeE (env : Sto) : List Nat → Sto
  | [] => env
  | v :: vs => (wipeE env vs).set v none
def restE (e e0 : Sto) : List Nat → Sto
  | [] => e
  | v :: vs => (restE e e0 vs).set v (e0.getD v none)
theorem wipeE_len (env : Sto) : ∀ vs, (wipeE env vs).length = env.length
  | [] => rfl
  | v :: vs => by unfold wipeE; rw [List.length_set, wipeE_len env vs]
theorem restE_len (e e0 : Sto) : ∀ vs, (restE e e0 vs).length = e.length
  | [] => rfl
  | v :: vs => by unfold restE; rw [List.length_set, restE_len e e0 vs]
theorem wipeE_in {env : Sto} {i : Nat} : ∀ {vs : List Nat}, i ∈ vs → ∀ s : Slot, (wipeE env vs)[i]? ≠ some (some s)
  | v :: vs, h, s, e => by
    unfold wipeE at e
    by_cases z : v = i
    · subst z
      by_cases hi : v < (wipeE env vs).length
      · rw [List.getElem?_set_self hi] at e; cases e
      · rw [List.getElem?_eq_none (by simpa using hi)] at e; cases e
    · rw [List.getElem?_set_ne z] at e
      rcases List.mem_cons.mp h with w | w
      · exact z w.symm
      · exact wipeE_in w s e
theorem wipeE_out {env : Sto} {i : Nat} : ∀ {vs : List Nat}, i ∉ vs → (wipeE env vs)[i]? = env[i]?
  | [], _ => rfl
  | v :: vs, h => by
    unfold wipeE
    rw [List.getElem?_set_ne (fun z => h (by simp [z]))]
    exact wipeE_out fun w => h (List.mem_cons_of_mem _ w)
theorem wipe_out {σ : L2.St} {i : Nat} : ∀ {vs : List Nat}, i ∉ vs → (wipe σ vs)[i]? = σ[i]?
  | [], _ => rfl
  | v :: vs, h => by
    unfold wipe
    rw [List.getElem?_set_ne (fun z => h (by simp [z]))]
    exact wipe_out fun w => h (List.mem_cons_of_mem _ w)
theorem wipe_in {σ : L2.St} {i : Nat} : ∀ {vs : List Nat}, i ∈ vs → (wipe σ vs)[i]? = if i < σ.length then some none else none
  | v :: vs, h => by
    unfold wipe
    by_cases z : v = i
    · subst z
      by_cases hi : v < σ.length
      · rw [List.getElem?_set_self (by rw [wipe_length]; exact hi), if_pos hi]
      · rw [List.getElem?_eq_none (by rw [List.length_set, wipe_length]; omega), if_neg hi]
    · rw [List.getElem?_set_ne z]
      rcases List.mem_cons.mp h with w | w
      · exact absurd w.symm z
      · exact wipe_in w
theorem restE_in {e e0 : Sto} {i : Nat} (hl : e.length = e0.length) : ∀ {vs : List Nat}, i ∈ vs → (restE e e0 vs)[i]? = e0[i]?
  | v :: vs, h => by
    unfold restE
    by_cases z : v = i
    · subst z
      by_cases hi : v < e.length
      · rw [List.getElem?_set_self (by rw [restE_len]; exact hi), List.getElem?_eq_getElem (by rw [← hl]; exact hi)]
        congr 1
        rw [List.getD_eq_getElem?_getD, List.getElem?_eq_getElem (by rw [← hl]; exact hi)]
        rfl
      · rw [List.getElem?_eq_none (by rw [List.length_set, restE_len]; omega), List.getElem?_eq_none (by omega)]
    · rw [List.getElem?_set_ne z]
      rcases List.mem_cons.mp h with w | w
      · exact absurd w.symm z
      · exact restE_in hl w
theorem restE_out {e e0 : Sto} {i : Nat} : ∀ {vs : List Nat}, i ∉ vs → (restE e e0 vs)[i]? = e[i]?
  | [], _ => rfl
  | v :: vs, h => by
    unfold restE
    rw [List.getElem?_set_ne (fun z => h (by simp [z]))]
    exact restE_out fun w => h (List.mem_cons_of_mem _ w)
theorem wipe_same {σ1 σ2 : L2.St} {vs : List Nat} (hl : σ2.length = σ1.length) (h : ∀ i, i ∉ vs → σ2[i]? = σ1[i]?) : wipe σ2 vs = wipe σ1 vs := by
  apply List.ext_getElem?
  intro i
  by_cases m : i ∈ vs
  · rw [wipe_in m, wipe_in m, hl]
  · rw [wipe_out m, wipe_out m, h i m]
theorem wipe_wipe {σ : L2.St} {vs : List Nat} : wipe (wipe σ vs) vs = wipe σ vs := by
  apply List.ext_getElem?
  intro i
  by_cases m : i ∈ vs
  · rw [wipe_in m, wipe_in m, wipe_length]
  · rw [wipe_out m]
section
variable {K : PySem.W.Frag} {Hs H Hs' H' Hs1 H1 Hs2 H2 Hs0 H0 : Hp} {σ σ' σ1 σ2 σ0 : L2.St} {env env' env1 env2 env0 e : Sto} {vs : List Nat}
theorem R.wiped (r : R K Hs H σ env) (vs : List Nat) : R K Hs H (wipe σ vs) (wipeE env vs) := by
  have at_ : ∀ {i : Nat} {s : Slot}, (wipeE env vs)[i]? = some (some s) → i ∉ vs ∧ env[i]? = some (some s) := fun {i s} h => by
    have m : i ∉ vs := fun m => wipeE_in m s h
    exact ⟨m, by rw [wipeE_out m] at h; exact h⟩
  refine ⟨by rw [wipeE_len, wipe_length]; exact r.len, r.sub, fun i s h => ?_, fun i j v ⟨s, h1, w1⟩ ⟨s', h2, w2⟩ a b => ?_⟩
  · obtain ⟨m, h⟩ := at_ h
    obtain ⟨v, ev, k⟩ := r.ok i s h
    exact ⟨v, by rw [wipe_out m]; exact ev, k⟩
  · obtain ⟨m1, h1⟩ := at_ h1
    obtain ⟨m2, h2⟩ := at_ h2
    rw [wipe_out m1] at a
    rw [wipe_out m2] at b
    exact r.inj i j v ⟨s, h1, w1⟩ ⟨s', h2, w2⟩ a b
/-- the turn's own names are forgotten -/
theorem Po.wiped (p : Po K Hs1 H1 σ1 env1 Hs H σ2 e) (n1 : ∀ (i : Nat) (s : Slot), i ∈ vs → env1[i]? ≠ some (some s)) (w1 : wipe σ1 vs = σ1) (w2 : wipe σ2 vs = σ1) : Po K Hs1 H1 σ1 env1 Hs H σ1 (wipeE e vs) := by
  have at_ : ∀ {i : Nat} {s : Slot}, (wipeE e vs)[i]? = some (some s) → i ∉ vs ∧ e[i]? = some (some s) := fun {i s} h => by
    have m : i ∉ vs := fun m => wipeE_in m s h
    exact ⟨m, by rw [wipeE_out m] at h; exact h⟩
  have σe : ∀ {i : Nat}, i ∉ vs → σ1[i]? = σ2[i]? := fun {i} m => by
    rw [← w2]; exact wipe_out m
  have ow : ∀ {i : Nat}, owns (wipeE e vs) i → i ∉ vs ∧ owns e i := fun {i} ⟨s, h, w⟩ => ⟨(at_ h).1, s, (at_ h).2, w⟩
  have r' : R K Hs H σ1 (wipeE e vs) := by rw [← w2]; exact p.r.wiped vs
  refine ⟨r', p.ext, fun i a oi ea => ?_, fun i s es pn => ?_, fun i s es lk => ?_, fun i s es pn => p.np i s (at_ es).2 pn⟩
  · obtain ⟨m, oi'⟩ := ow oi
    rcases p.own i a oi' (by rw [← σe m]; exact ea) with ⟨c1, c2, c3⟩ | c
    · exact .inl ⟨c1, c2, fun ⟨s, h, w, l⟩ => c3 ⟨s, (at_ h).2, w, l⟩⟩
    · exact .inr c
  · have m : i ∉ vs := fun m => n1 i s m es
    obtain ⟨c1, s', c2, c3, c4⟩ := p.pin i s es pn
    exact ⟨rfl, s', by rw [wipeE_out m]; exact c2, c3, c4⟩
  · have m : i ∉ vs := fun m => n1 i s m es
    obtain ⟨c1, c2⟩ := p.lk i s es lk
    exact ⟨by rw [wipeE_out m]; exact c1, rfl⟩
/-- behind the comprehension the names outside are as they were -/
theorem Po.rest (r : R K Hs1 H1 σ env) (p : Po K Hs1 H1 (wipe σ vs) (wipeE env vs) Hs H (wipe σ vs) e) (ne : ∀ (i : Nat) (s : Slot), i ∈ vs → e[i]? ≠ some (some s)) : Po K Hs1 H1 σ env Hs H σ (restE e env vs) := by
  have hl : e.length = env.length := by rw [p.r.len, wipe_length, r.len]
  have muw : ∀ a, Mof (wipe σ vs) (wipeE env vs) a → ∃ i, i ∉ vs ∧ muts env i ∧ σ[i]? = some (some (.ref a)) := fun a ⟨i, ⟨s, h, w, l⟩, ea⟩ => by
    have m : i ∉ vs := fun m => wipeE_in m s h
    rw [wipeE_out m] at h
    rw [wipe_out m] at ea
    exact ⟨i, m, ⟨s, h, w, l⟩, ea⟩
  have at_ : ∀ {i : Nat} {s : Slot}, (restE e env vs)[i]? = some (some s) → (i ∈ vs ∧ env[i]? = some (some s)) ∨ (i ∉ vs ∧ e[i]? = some (some s)) := fun {i s} h => by
    by_cases m : i ∈ vs
    · rw [restE_in hl m] at h; exact .inl ⟨m, h⟩
    · rw [restE_out m] at h; exact .inr ⟨m, h⟩
  -- an object of a name that was set aside is not touched
  have aside : ∀ {i : Nat} {a : Addr}, i ∈ vs → owns env i → σ[i]? = some (some (.ref a)) → ¬ Mof (wipe σ vs) (wipeE env vs) a := fun {i a} m o ea z => by
    obtain ⟨j, mj, muj, ej⟩ := muw a z
    exact mj (r.inj i j _ o muj.owns ea ej ▸ m)
  have eo : ∀ {i : Nat} {a : Addr}, i ∉ vs → owns e i → σ[i]? = some (some (.ref a)) → (owns env i ∧ (muts e i → muts env i)) ∨ H1 a = none := fun {i a} m o ea => by
    rcases p.own i a o (by rw [wipe_out m]; exact ea) with ⟨⟨s, h, w⟩, c2, c3⟩ | c
    · rw [wipeE_out m] at h
      refine .inl ⟨⟨s, h, w⟩, fun mm => ?_⟩
      obtain ⟨s', h', w', l'⟩ := c3 mm
      rw [wipeE_out m] at h'
      exact ⟨s', h', w', l'⟩
    · exact .inr c
  refine ⟨⟨by rw [restE_len, hl]; exact r.len, p.r.sub, fun i s h => ?_, fun i j v ⟨s, h1, w1⟩ ⟨s', h2, w2⟩ a b => ?_⟩, p.ext.weak fun a z => let ⟨i, _, mu, ea⟩ := muw a z; ⟨i, mu, ea⟩, fun i a ⟨s, h, w⟩ ea => ?_, fun i s h pn => ?_, fun i s h lk => ?_, fun i s h pn => ?_⟩
  · rcases at_ h with ⟨m, h⟩ | ⟨m, h⟩
    · obtain ⟨v, ev, k⟩ := r.ok i s h
      exact ⟨v, ev, k.step p.ext fun ow a ea => aside m ⟨s, h, ow⟩ (ea ▸ ev)⟩
    · obtain ⟨v, ev, k⟩ := p.r.ok i s h
      rw [wipe_out m] at ev
      exact ⟨v, ev, k⟩
  · have ref_of : ∀ {i : Nat} {s : Slot} {v : V}, (restE e env vs)[i]? = some (some s) → s.o.own = true → σ[i]? = some (some v) → ∃ a, v = .ref a := fun {i s v} h w ev => by
      rcases at_ h with ⟨m, h⟩ | ⟨m, h⟩
      · obtain ⟨v', ev', k⟩ := r.ok i s h
        rw [ev] at ev'
        cases ev'
        exact k.own_ref w
      · obtain ⟨v', ev', k⟩ := p.r.ok i s h
        rw [wipe_out m, ev] at ev'
        cases ev'
        exact k.own_ref w
    obtain ⟨a', rfl⟩ := ref_of h1 w1 a
    rcases at_ h1 with ⟨m1, h1'⟩ | ⟨m1, h1'⟩
    · rcases at_ h2 with ⟨m2, h2'⟩ | ⟨m2, h2'⟩
      · exact r.inj i j _ ⟨s, h1', w1⟩ ⟨s', h2', w2⟩ a b
      · rcases eo m2 ⟨s', h2', w2⟩ b with ⟨c, _⟩ | c
        · exact r.inj i j _ ⟨s, h1', w1⟩ c a b
        · obtain ⟨_, u, hu⟩ := r.there ⟨s, h1', w1⟩ a
          rw [c] at hu
          cases hu
    · rcases at_ h2 with ⟨m2, h2'⟩ | ⟨m2, h2'⟩
      · rcases eo m1 ⟨s, h1', w1⟩ a with ⟨c, _⟩ | c
        · exact r.inj i j _ c ⟨s', h2', w2⟩ a b
        · obtain ⟨_, u, hu⟩ := r.there ⟨s', h2', w2⟩ b
          rw [c] at hu
          cases hu
      · exact p.r.inj i j _ ⟨s, h1', w1⟩ ⟨s', h2', w2⟩ (by rw [wipe_out m1]; exact a) (by rw [wipe_out m2]; exact b)
  · rcases at_ h with ⟨m, h⟩ | ⟨m, h⟩
    · refine .inl ⟨⟨s, h, w⟩, ea, fun ⟨s', h', w', l'⟩ => ?_⟩
      rcases at_ h' with ⟨_, h'⟩ | ⟨m', _⟩
      · exact ⟨s', h', w', l'⟩
      · exact absurd m m'
    · rcases eo m ⟨s, h, w⟩ ea with ⟨c1, c2⟩ | c
      · refine .inl ⟨c1, ea, fun ⟨s', h', w', l'⟩ => ?_⟩
        rcases at_ h' with ⟨m', _⟩ | ⟨_, h'⟩
        · exact absurd m' m
        · exact c2 ⟨s', h', w', l'⟩
      · exact .inr c
  · by_cases m : i ∈ vs
    · exact ⟨rfl, s, by rw [restE_in hl m]; exact h, pn, rfl⟩
    · obtain ⟨_, s', c2, c3, c4⟩ := p.pin i s (by rw [wipeE_out m]; exact h) pn
      exact ⟨rfl, s', by rw [restE_out m]; exact c2, c3, c4⟩
  · by_cases m : i ∈ vs
    · exact ⟨by rw [restE_in hl m]; exact h, rfl⟩
    · obtain ⟨c1, _⟩ := p.lk i s (by rw [wipeE_out m]; exact h) lk
      exact ⟨by rw [restE_out m]; exact c1, rfl⟩
  · rcases at_ h with ⟨m, h⟩ | ⟨m, h⟩
    · exact ⟨s, h, pn⟩
    · obtain ⟨s', c1, c2⟩ := p.np i s h pn
      rw [wipeE_out m] at c1
      exact ⟨s', c1, c2⟩
end
def loopC (g : GF) (c : BF) (f : DF) (vs : List Nat) : List D → List D → Sto → Option (List D × Sto)
  | [], acc, e => some (acc, e)
  | d :: r, acc, e => (g d e).bind fun e1 => (c e1).bind fun p => if p.1 then (f p.2).bind fun q => if acc.length < 1000000 then loopC g c f vs r (acc ++ [q.1]) (wipeE q.2 vs) else none else loopC g c f vs r acc (wipeE p.2 vs)
def bYes : BF := fun env => some (true, env)
def vLc (fi : IF) (g : GF) (c : BF) (f : DF) (vs : List Nat) : EF := fun env => (fi env).bind fun p => (loopC g c f vs p.1.1 [] (wipeE (lockS p.2 p.1.2) vs)).bind fun q => some (.tmp (.ol q.1), unlockS (restE q.2 (lockS p.2 p.1.2) vs) p.1.2)
theorem sat_yes {K : PySem.W.Frag} : SatT K tYes bYes := fun Hs H σ env b env' r g Q q => by
  obtain ⟨rfl, rfl⟩ := Prod.mk.inj (Option.some.inj g)
  exact q Hs H (Po.refl r)
end PV

set_option maxRecDepth 100000
set_option maxHeartbeats 2000000
namespace PV
open PySem L2 PySem.Spec PyProof.Rows

section
variable {K : PySem.W.Frag}
theorem sat_lc {wi : TI} {fi : IF} {g : TG} {ws vs : List Nat} {gf : GF} {tt : TT} {c : BF} {te : TE} {f : DF} (hi : SatI K wi fi) (hg : SatG K g ws gf) (hs : ∀ i ∈ ws, i ∈ vs) (ht : SatT K tt c) (he : SatD K te f) : SatE K (tLc wi g tt te vs) (vLc fi gf c f vs) := fun Hs H σ env h env' rr e Q q => by
  simp only [vLc, Option.bind_eq_some_iff] at e
  obtain ⟨⟨⟨ds, l⟩, env1⟩, g1, ⟨acc, e2⟩, g2, g3⟩ := e
  obtain ⟨rfl, rfl⟩ := Prod.mk.inj (Option.some.inj g3)
  refine hi Hs H σ env ds l env1 rr g1 _ fun Hs1 H1 J p1 hl src => ?_
  dsimp only at g2 q ⊢
  have r1 := p1.r.lock hl
  intro Da hD
  have hsD : Hs1 Da = none := none_s hD p1.r.sub
  have xD : Ext (fun _ => False) Hs1 H1 Hs1 (upd H1 Da (.lst [])) := ext_new hD p1.r.sub
  have rw1 := r1.wiped vs
  have nD : ∀ i, owns (wipeE (lockS env1 l) vs) i → (wipe σ vs)[i]? ≠ some (some (.ref Da)) := fun i o e => by
    obtain ⟨_, u, hu⟩ := rw1.there o e
    rw [hD] at hu
    cases hu
  refine ⟨fun i m H' => m = ds.length - i ∧ i ≤ ds.length ∧ ∃ Hs' e' acc' xs, Po K Hs1 H1 (wipe σ vs) (wipeE (lockS env1 l) vs) Hs' H' (wipe σ vs) e' ∧ (∀ (i : Nat) (s : Slot), i ∈ vs → e'[i]? ≠ some (some s)) ∧
      (∀ i, owns e' i → (wipe σ vs)[i]? ≠ some (some (.ref Da))) ∧ H' Da = some (.lst xs) ∧ DdAll K Hs' acc' xs ∧ Hs' Da = none ∧ loopC gf c f vs (ds.drop i) acc' e' = some (acc, e2),
    ⟨ds.length, by simp, Nat.zero_le _, Hs1, _, [], [], Po.keep rw1 xD (sub_new hD p1.r.sub), fun i s m => wipeE_in m s, nD, upd_same, .nil, hsD, g2⟩, ?_⟩
  rintro i m H' ⟨rfl, hi', Hs', e', acc', xs, p, nv, nd, hx, dx, sx, hr⟩
  have xt : Ext (Mof σ (lockS env1 l)) Hs1 H1 Hs' H' := p.ext.weak fun a ⟨j, ⟨s, hj, w, lk⟩, ea⟩ => by
    have mj : j ∉ vs := fun mj => wipeE_in mj s hj
    rw [wipeE_out mj] at hj
    rw [wipe_out mj] at ea
    exact ⟨j, ⟨s, hj, w, lk⟩, ea⟩
  obtain ⟨s1, s2⟩ := src Hs' H' xt p.r.sub i
  by_cases hlt : i < ds.length
  · have ed : ds[i]? = some ds[i] := List.getElem?_eq_getElem hlt
    rw [List.drop_eq_getElem_cons hlt] at hr
    simp only [loopC, Option.bind_eq_some_iff] at hr
    obtain ⟨ea, h1, ⟨b, eb⟩, h2, h3⟩ := hr
    obtain ⟨go, yl⟩ := s1 _ ed
    refine .inr ⟨go, fun H2 => ∃ Hs2 e3 acc3 xs3, Po K Hs1 H1 (wipe σ vs) (wipeE (lockS env1 l) vs) Hs2 H2 (wipe σ vs) e3 ∧ (∀ (i : Nat) (s : Slot), i ∈ vs → e3[i]? ≠ some (some s)) ∧
      (∀ i, owns e3 i → (wipe σ vs)[i]? ≠ some (some (.ref Da))) ∧ H2 Da = some (.lst xs3) ∧ DdAll K Hs2 acc3 xs3 ∧ Hs2 Da = none ∧ loopC gf c f vs (ds.drop (i + 1)) acc3 e3 = some (acc, e2),
      fun H2 ⟨Hs2, e3, acc3, xs3, z⟩ => ⟨ds.length - (i + 1), by omega, rfl, hlt, Hs2, e3, acc3, xs3, z⟩, fun x H3 y => ?_⟩
    obtain ⟨Hs3, x3, sb3, dx3⟩ := yl x H3 y
    -- the turn, seen from its own start
    have q3 := Po.keep p.r x3 sb3
    refine hg Hs' H' (wipe σ vs) e' Hs3 H3 (wipe σ vs) e' _ x ea q3 dx3 h1 _ fun Hs4 H4 σ4 q4 _ o4 l4 => ?_
    have w4 : wipe σ4 vs = wipe σ vs := by
      rw [← wipe_wipe (σ := σ) (vs := vs)]
      exact wipe_same l4 fun j mj => o4 j fun z => mj (hs j z)
    refine ⟨w4, ht Hs4 H4 σ4 ea b eb q4.r h2 _ fun Hs5 H5 q5 => ?_⟩
    have q5' := q4.trans q5
    -- the list that grows is not touched by a turn
    have stays : ∀ {Hsk Hk : Hp} {σk : L2.St} {ek : Sto}, Po K Hs' H' (wipe σ vs) e' Hsk Hk σk ek → Hk Da = some (.lst xs) ∧ Hsk Da = none ∧ ∀ i, owns ek i → σk[i]? ≠ some (some (.ref Da)) := fun {Hsk Hk σk ek} qk => by
      have nm : ¬ Mof (wipe σ vs) e' Da := fun ⟨j, mu, ej⟩ => nd j mu.owns ej
      refine ⟨qk.ext.kp _ _ hx nm, qk.ext.out _ _ hx sx nm, fun j oj ej => ?_⟩
      rcases qk.own j Da oj ej with ⟨c1, c2, _⟩ | c
      · exact nd j c1 c2
      · rw [hx] at c; cases c
    cases b with
    | true =>
      simp only [if_true, Option.bind_eq_some_iff] at h3
      obtain ⟨⟨d, ec⟩, h4, h5⟩ := h3
      split at h5
      · next hlen =>
        show te σ4 H5 _
        refine he Hs5 H5 σ4 eb d ec q5'.r h4 _ fun Hs6 H6 yv q6 d6 => ?_
        have q6' := q5'.trans q6
        obtain ⟨y1, y2, y3⟩ := stays q6'
        have pw := (p.trans q6').wiped (vs := vs) (fun j s mj => wipeE_in mj s) wipe_wipe w4
        have nD2 : ∀ i, owns (wipeE ec vs) i → (wipe σ vs)[i]? ≠ some (some (.ref Da)) := fun j ⟨s, hj, w⟩ ej => by
          have mj : j ∉ vs := fun mj => wipeE_in mj s hj
          rw [wipeE_out mj] at hj
          refine y3 j ⟨s, hj, w⟩ ?_
          rw [← w4, wipe_out mj] at ej
          exact ej
        have up : Ext (fun b => b = Da) Hs6 H6 Hs6 (upd H6 Da (.lst (xs ++ [yv]))) := ⟨fun _ _ h => h, fun b w h n => by rw [upd_ne n]; exact h, fun _ _ _ h _ => h, fun b w h => by
          by_cases z : b = Da
          · exact ⟨_, by rw [z]; exact upd_same⟩
          · exact ⟨w, by rw [upd_ne z]; exact h⟩⟩
        have sbu : ∀ a u, Hs6 a = some u → upd H6 Da (.lst (xs ++ [yv])) a = some u := fun a u ha => by
          have z : a ≠ Da := fun z => by rw [z, y2] at ha; cases ha
          rw [upd_ne z]
          exact pw.r.sub a u ha
        have pu : Po K Hs1 H1 (wipe σ vs) (wipeE (lockS env1 l) vs) Hs6 (upd H6 Da (.lst (xs ++ [yv]))) (wipe σ vs) (wipeE ec vs) := by
          refine ⟨⟨pw.r.len, sbu, fun j s hj => ?_, pw.r.inj⟩, pw.ext.trans up fun a z => .inr (by rw [z]; exact hD), pw.own, pw.pin, pw.lk, pw.np⟩
          obtain ⟨v, ev, kv⟩ := pw.r.ok j s hj
          exact ⟨v, ev, kv.step up fun ow a ea z => nD2 j ⟨s, hj, ow⟩ (by rw [ev, ea, z])⟩
        exact ⟨xs, y1, by rw [dx.length]; exact Nat.lt_of_lt_of_le hlen (by decide), Hs6, _, _, _, pu, fun j s mj => wipeE_in mj s, nD2, upd_same, (dx.mono q6'.ext.hs).append (.cons d6 .nil), y2, h5⟩
      · cases h5
    | false =>
      simp only [Bool.false_eq_true, if_false] at h3
      show ∃ Hs2 e3 acc3 xs3, _
      obtain ⟨y1, y2, y3⟩ := stays q5'
      have pw := (p.trans q5').wiped (vs := vs) (fun j s mj => wipeE_in mj s) wipe_wipe w4
      refine ⟨Hs5, _, acc', xs, pw, fun j s mj => wipeE_in mj s, fun j ⟨s, hj, w⟩ ej => ?_, y1, dx.mono q5'.ext.hs, y2, h3⟩
      have mj : j ∉ vs := fun mj => wipeE_in mj s hj
      rw [wipeE_out mj] at hj
      refine y3 j ⟨s, hj, w⟩ ?_
      rw [← w4, wipe_out mj] at ej
      exact ej
  · have ei : i = ds.length := by omega
    subst ei
    rw [List.drop_length] at hr
    cases hr
    refine .inl ⟨s2 (Nat.le_refl _), ?_⟩
    have pr := Po.rest r1 p nv
    have pu := Po.unlock hl p1.r pr
    refine q Hs' H' _ (p1.trans pu) ⟨⟨Da, xs, rfl, sx, hx, dx⟩, fun _ j oj ej => ?_⟩ fun _ a ea => by cases ea; exact p1.ext.new hD
    have back : owns (restE e2 (lockS env1 l) vs) j := by
      cases l with
      | none => exact oj
      | some ks =>
        obtain ⟨k, s⟩ := ks
        have e1 : (lockS env1 (some (k, s)))[k]? = some (some { s with lk := true }) := List.getElem?_set_self (List.getElem?_eq_some_iff.mp (show env1[k]? = some (some s) from hl)).1
        obtain ⟨e3, _⟩ := pr.lk k _ e1 rfl
        obtain ⟨s', hs', w⟩ := oj
        have hs' : ((restE e2 (lockS env1 (some (k, s))) vs).set k (some s))[j]? = some (some s') := hs'
        by_cases z : k = j
        · subst z
          rw [List.getElem?_set_self (List.getElem?_eq_some_iff.mp e3).1] at hs'
          cases hs'
          exact ⟨_, e3, w⟩
        · rw [List.getElem?_set_ne z] at hs'
          exact ⟨s', hs', w⟩
    have hl2 : e2.length = (lockS env1 l).length := by rw [p.r.len, wipe_length, r1.len]
    obtain ⟨s', hs', w⟩ := back
    by_cases mj : j ∈ vs
    · rw [restE_in hl2 mj] at hs'
      obtain ⟨_, u, hu⟩ := r1.there ⟨s', hs', w⟩ ej
      rw [hD] at hu
      cases hu
    · rw [restE_out mj] at hs'
      exact nd j ⟨s', hs', w⟩ (by rw [wipe_out mj]; exact ej)
end

/-! ### while -/
def sWhile (n : Nat) (c : BF) (b : SF) : SF := fun env => match n with
  | 0 => none
  | n + 1 => (c env).bind fun p => if p.1 then (b p.2).bind fun o => match o with
    | .nx e => sWhile n c b e
    | .ct e => sWhile n c b e
    | .bk e => some (.nx e)
    | .rt r e => some (.rt r e)
    else some (.nx p.2)
theorem sat_while {K : PySem.W.Frag} {n : Nat} {tc : TT} {c : BF} {tb : TS} {b : SF} (hc : SatT K tc c) (hb : SatS K tb b) : SatS K (tWhile tc tb) (sWhile n c b) := fun Hs H σ env out rr e DE k => by
  refine ⟨fun m σ' H' => ∃ Hs' env', Po K Hs H σ env Hs' H' σ' env' ∧ sWhile m c b env' = some out, ⟨n, Hs, env, Po.refl rr, e⟩, ?_⟩
  rintro m σ' H' ⟨Hs', env', p, g⟩
  match m, g with
  | 0, g => cases g
  | m + 1, g =>
    unfold sWhile at g
    simp only [Option.bind_eq_some_iff] at g
    obtain ⟨⟨bb, e1⟩, g1, g2⟩ := g
    refine hc Hs' H' σ' env' bb e1 p.r g1 _ fun Hs1 H1 p1 => ?_
    have q1 := p.trans p1
    cases bb with
    | true =>
      simp only [if_true, Option.bind_eq_some_iff] at g2
      obtain ⟨o, g3, g4⟩ := g2
      rw [if_pos rfl]
      refine ⟨fun σ2 H2 => ∃ Hs2 env2, Po K Hs H σ env Hs2 H2 σ2 env2 ∧ sWhile m c b env2 = some out, fun σ2 H2 ⟨Hs2, env2, p2, g5⟩ => ⟨m, Nat.lt_succ_self m, Hs2, env2, p2, g5⟩, ?_⟩
      refine hb Hs1 H1 σ' e1 o q1.r g3 _ ?_
      cases o with
      | nx e => exact fun Hs2 H2 σ2 p2 => ⟨Hs2, e, q1.trans p2, g4⟩
      | ct e => exact fun Hs2 H2 σ2 p2 => ⟨Hs2, e, q1.trans p2, g4⟩
      | bk e => cases g4; exact fun Hs2 H2 σ2 p2 => k Hs2 H2 σ2 (q1.trans p2)
      | rt r e => cases g4; exact fun Hs2 H2 σ2 v p2 w => k Hs2 H2 σ2 v (p2.after q1) (w.after q1)
    | false =>
      simp only [Bool.false_eq_true, if_false] at g2
      cases g2
      rw [if_neg Bool.false_ne_true]
      exact k Hs1 H1 σ' q1

/-! ### a def by its body -/
def initE (n : Nat) (os : List O) : Sto := os.map (fun o => some { o := o, pin := o.own }) ++ List.replicate (n - os.length) none
def contO : Option Slot → O
  | some s => s.o
  | none => .shr .non
/-- what the def computes; n: how many names, m: how many parameters -/
def defF (n m : Nat) (f : SF) : FF := fun os => if os.length = m then match f (initE n os) with
  | some (.rt r e) => some (r, (e.take m).map contO)
  | some (.nx e) => some (.o (.shr .non), (e.take m).map contO)
  | _ => none else none
section
variable {P : Program} {w : World} {K : PySem.W.Frag} {mg : Str → Option Value} {base : Heap}
theorem initE_at {n : Nat} {os : List O} {i : Nat} {s : Slot} (e : (initE n os)[i]? = some (some s)) : os[i]? = some s.o ∧ s.pin = s.o.own ∧ s.lk = false := by
  unfold initE at e
  by_cases hi : i < os.length
  · rw [List.getElem?_append_left (by simpa using hi), List.getElem?_map, List.getElem?_eq_getElem hi] at e
    cases e
    exact ⟨List.getElem?_eq_getElem hi, rfl, rfl⟩
  · rw [List.getElem?_append_right (by simpa using hi), List.getElem?_replicate] at e
    split at e <;> cases e
theorem initE_of {n : Nat} {os : List O} {i : Nat} {o : O} (e : os[i]? = some o) : (initE n os)[i]? = some (some { o := o, pin := o.own }) := by
  unfold initE
  have hi := (List.getElem?_eq_some_iff.mp e).1
  rw [List.getElem?_append_left (by simpa using hi), List.getElem?_map, e]
  rfl
theorem start_at {N : List Str} {vs : List V} {i : Nat} {v : V} (e : vs[i]? = some v) : (L2.start N vs)[i]? = some (some v) := by
  unfold L2.start
  have hi := (List.getElem?_eq_some_iff.mp e).1
  rw [List.getElem?_append_left (by simpa using hi), List.getElem?_map, e]
  rfl
theorem fnV {x qual : Str} {st : Stmt} {f : Addr} {fd : FuncData} {N ps : List Str} {k : Nat} {sf : SF} (F : Fun K x qual st f fd) (S : FnScope N ps (defScope st))
    (hbody : ∀ (cdv : Value) (A : Around) (outer : List PySem.Env) (s : Shared) (H : Hp) (E : XK), Room k (A.deeper (envOfC qual (defScope st) s.heap.objs.size f cdv)) →
      ∃ t, PSs (cxOf CX0 P w K mg base N qual (defScope st) f cdv A outer s H E).nox (defBody st) t ∧ SatS K t sf) : FnOk P w K mg base CX0 (k + 1) f fd ps (spV K (defF N.length ps.length sf)) := by
  refine F.ok S (fun vs H Q E h => ?_) (fun cdv A outer s H vs Q E hr h => ?_)
  · obtain ⟨Hs, os, r, fin, _, ks, _, hF, _⟩ := h
    unfold defF at hF
    split at hF
    · next hl => rw [ks.length]; exact hl
    · cases hF
  obtain ⟨Hs, os, r, fin, sb, ks, dis, hF, q⟩ := h
  obtain ⟨t, hp, hs⟩ := hbody cdv A outer s H E hr
  refine ⟨t, hp, ?_⟩
  unfold defF at hF
  split at hF
  · next hl =>
    have hvl : vs.length = os.length := ks.length
    have hN : ps.length ≤ N.length := by have := congrArg List.length S.pre; rw [List.length_take] at this; omega
    have rr : R K Hs H (L2.start N vs) (initE N.length os) := by
      refine ⟨by unfold L2.start initE; simp only [List.length_append, List.length_map, List.length_replicate]; omega, sb, fun i s e => ?_, fun i j v ⟨s1, e1, w1⟩ ⟨s2, e2, w2⟩ a b => ?_⟩
      · obtain ⟨eo, _, _⟩ := initE_at e
        obtain ⟨v, ev, kv⟩ := ks.get eo
        exact ⟨v, start_at ev, kv⟩
      · obtain ⟨eo1, _, _⟩ := initE_at e1
        obtain ⟨eo2, _, _⟩ := initE_at e2
        obtain ⟨v1, ev1, kv1⟩ := ks.get eo1
        obtain ⟨v2, ev2, kv2⟩ := ks.get eo2
        rw [start_at ev1] at a
        rw [start_at ev2] at b
        cases a
        cases b
        obtain ⟨ad, rfl⟩ := kv1.own_ref w1
        exact dis i j _ _ ad eo1 w1 eo2 w2 ev1 ev2
    have mu : ∀ a, Mof (L2.start N vs) (initE N.length os) a → ArgM vs os a := fun a ⟨i, ⟨s, e, w, _⟩, ea⟩ => by
      obtain ⟨eo, _, _⟩ := initE_at e
      obtain ⟨v1, ev1, kv1⟩ := ks.get eo
      rw [start_at ev1] at ea
      cases ea
      exact ⟨i, s.o, eo, w, ev1⟩
    have fins : ∀ {Hs' H' : Hp} {σ' : L2.St} {e : Sto}, PoR K Hs H (L2.start N vs) (initE N.length os) Hs' H' σ' e → ∀ (j : Nat) (o f : O) (w : V), os[j]? = some o → o.own = true → ((e.take ps.length).map contO)[j]? = some f → vs[j]? = some w → ROk K Hs' H' w f := fun {Hs' H' σ' e} p j o f w eo ow ef ew => by
      obtain ⟨c1, s', c2, _⟩ := p.pin j _ (initE_of eo) ow
      obtain ⟨v, ev, kv⟩ := p.r.ok j s' c2
      rw [c1, start_at ew] at ev
      cases ev
      have hj : j < ps.length := by have := (List.getElem?_eq_some_iff.mp eo).1; omega
      rw [List.getElem?_map, List.getElem?_take_of_lt hj, c2] at ef
      cases ef
      exact kv
    have go : ∀ (out : Out), sf (initE N.length os) = some out → (match out with
        | .rt r' e => r = r' ∧ fin = (e.take ps.length).map contO
        | .nx e => r = .o (.shr .non) ∧ fin = (e.take ps.length).map contO
        | _ => False) → t { nx := fun _ H' => Q .non H', rt := Q } (L2.start N vs) H := by
      intro out ho hm
      refine hs Hs H (L2.start N vs) (initE N.length os) out rr ho _ ?_
      cases out with
      | nx e =>
        obtain ⟨rfl, rfl⟩ := hm
        exact fun Hs' H' σ' p => q Hs' H' .non (p.ext.weak mu) p.r.sub (fins p.por) ⟨.non, fun w => nomatch w⟩
      | rt r' e =>
        obtain ⟨rfl, rfl⟩ := hm
        intro Hs' H' σ' v p ro
        refine q Hs' H' v (p.ext.weak mu) p.r.sub (fins p) ?_
        cases r with
        | o o =>
          refine ⟨ro.1, fun w a ea => ?_⟩
          rcases ro.2 w a ea with n | ⟨i, s, es, ow, np, _⟩
          · exact n
          · obtain ⟨_, pe, _⟩ := initE_at es
            rw [np, ow] at pe
            cases pe
        | par j =>
          obtain ⟨ev, s, es, pn⟩ := ro
          obtain ⟨eo, _, _⟩ := initE_at es
          obtain ⟨w, ew, _⟩ := ks.get eo
          obtain ⟨c1, _⟩ := p.pin j s es pn
          rw [c1, start_at ew] at ev
          cases ev
          exact ew
        | two d ds => exact ro
      | bk e => exact hm.elim
      | ct e => exact hm.elim
    cases ho : sf (initE N.length os) with
    | none => rw [ho] at hF; cases hF
    | some out =>
      rw [ho] at hF
      refine go out ho ?_
      cases out with
      | rt r' e => cases hF; exact ⟨rfl, rfl⟩
      | nx e => cases hF; exact ⟨rfl, rfl⟩
      | bk e => cases hF
      | ct e => cases hF
  · cases hF
end
end PV

set_option maxRecDepth 100000
set_option maxHeartbeats 2000000
namespace PV
open PySem L2 PySem.Spec PyProof.Rows

/-! ### a piece of text, its reading, what it computes -/
structure VE (X : Cx) (e : Expr) (t : TE) (f : EF) : Prop where
  pe : PE X e t
  sat : SatE X.K t f
structure VD (X : Cx) (e : Expr) (t : TE) (f : DF) : Prop where
  pe : PE X e t
  sat : SatD X.K t f
structure VT (X : Cx) (e : Expr) (t : TT) (f : BF) : Prop where
  pe : PT X e t
  sat : SatT X.K t f
structure VW (X : Cx) (e : Expr) (t : TT) (f : BF) : Prop where
  pe : PW X e t
  sat : SatT X.K t f
structure VDs (X : Cx) (e : List Expr) (t : TA) (f : DsF) : Prop where
  pe : PA X e t
  sat : SatDs X.K t f
structure VHs (X : Cx) (e : List Expr) (t : TA) (f : HsF) : Prop where
  pe : PA X e t
  sat : SatHs X.K t f
structure VO (X : Cx) (e : Option Expr) (t : TO) (f : OF) : Prop where
  pe : PO X e t
  sat : SatO X.K t f
structure VI (X : Cx) (tg e : Expr) (t : TI) (f : IF) : Prop where
  pe : PI X tg e t
  sat : SatI X.K t f
structure VG (X : Cx) (e : Expr) (t : TG) (vs : List Nat) (f : GF) : Prop where
  pe : PG X e t
  sat : SatG X.K t vs f
structure VGs (X : Cx) (e : List Expr) (t : TGs) (vs : List Nat) (f : List D → Sto → Option Sto) : Prop where
  pe : PGs X e t
  sat : SatGs X.K t vs f
structure VS (X : Cx) (e : Stmt) (t : TS) (f : SF) : Prop where
  pe : PS X e t
  sat : SatS X.K t f
structure VSs (X : Cx) (e : List Stmt) (t : TS) (f : SF) : Prop where
  pe : PSs X e t
  sat : SatS X.K t f
structure VTs (X : Cx) (e : List Expr) (t : TT) (f : BF) : Prop where
  pe : PTs X e t
  sat : SatT X.K t f

section
variable {X : Cx} {a b c e : Expr} {es : List Expr} {ta tb tc te : TE} {fa fb fc fe : EF} {pos : Pos} {tt tu : TT} {ba bb : BF} {t : TA} {fhs : HsF} {fds : DsF}
theorem v_var (i : Nat) {x : Str} (hN : X.N[i]? = some x := by rfl) (hv : Vis X.env.scope x := by first | exact Or.inl rfl | exact Or.inr (Or.inl rfl) | exact Or.inr (Or.inr rfl)) (hd : (x == ("__debug__" : Str)) = false := by decide)
    (hcd : (x == ("__classdict__" : Str)) = false := by decide) : VE X (.Name x pos) (tVar i) (vVar i) := ⟨pe_var hN hv hd hcd, sat_var⟩
theorem v_int {i j} : VE X (.Constant (.int i) j pos) (tC (.int i)) (vC (.int i)) := ⟨pe_int, sat_c fun _ => .int i⟩
theorem v_bl {i j} : VE X (.Constant (.bool i) j pos) (tC (.bl i)) (vC (.bl i)) := ⟨pe_bl, sat_c fun _ => .bl i⟩
theorem v_non {j} : VE X (.Constant .none j pos) (tC .non) (vC .non) := ⟨pe_non, sat_c fun _ => .non⟩
theorem v_str {x j} : VE X (.Constant (.str x) j pos) (tC (.str x)) (vC (.str x)) := ⟨pe_str, sat_c fun _ => .str x⟩
theorem v_globI {x : Str} {i : Int} {u : Value} (hg : Gl X x) (hm : X.mg x = some u) (r : RelV (.int i) u) (hd : (x == ("__debug__" : Str)) = false := by decide) : VE X (.Name x pos) (tC (.int i)) (vC (.int i)) := ⟨pe_glob hg hm r hd, sat_c fun _ => .int i⟩
theorem v_glob {x : Str} {v : V} {u : Value} (hg : Gl X x) (hm : X.mg x = some u) (r : RelV v u) (hd : (x == ("__debug__" : Str)) = false := by decide) : VE X (.Name x pos) (tC v) (vC (.opq v)) := ⟨pe_glob hg hm r hd, sat_c fun _ => .opq v⟩
theorem v_ty {x : Str} {n : String} (hm : X.mg x = none) (hv : bootBuiltins x = some (.type n)) (hg : Gl X x := by rfl) (hn : x ≠ "__name__" := by decide) (hd : (x == ("__debug__" : Str)) = false := by decide) : VE X (.Name x pos) (tC (.ty n)) (vC (.opq (.ty n))) :=
  ⟨pe_bltn hg hm hv rfl hn hd, sat_c fun _ => .opq _⟩
theorem v_take (h : VE X e te fe) : VD X e te (vTake fe) := ⟨h.pe, sat_take h.sat⟩
theorem vds_nil : VDs X [] tNil vNilD := ⟨pa_nil, sat_nilD⟩
theorem vds_cons (h : VE X e te fe) (r : VDs X es t fds) (hs : starEach (e :: es) X.env = (false, eval e X.env) :: starEach es X.env := by rfl) : VDs X (e :: es) (tCons te t) (vConsD (vTake fe) fds) := ⟨pa_cons h.pe r.pe hs, sat_consD (sat_take h.sat) r.sat⟩
theorem vhs_nil : VHs X [] tNil vNilH := ⟨pa_nil, sat_nilH⟩
theorem vhs_cons (h : VE X e te fe) (r : VHs X es t fhs) (hs : starEach (e :: es) X.env = (false, eval e X.env) :: starEach es X.env := by rfl) : VHs X (e :: es) (tCons te t) (vConsH fe fhs) := ⟨pa_cons h.pe r.pe hs, sat_consH h.sat r.sat⟩
theorem v_tup {x1} (h : VDs X es t fds) : VE X (.Tuple es x1 pos) (tTup t) (vTup fds) := ⟨pe_tup h.pe, sat_tup h.sat⟩
theorem v_lst (h : VDs X es t fds) : VE X (.List es pos) (tLst t) (vLst fds) := ⟨pe_lst h.pe, sat_lst h.sat⟩
/-! operators -/
theorem v_add {K : PySem.W.Frag} (ha : VE X a ta fa) (hb : VE X b tb fb) (eK : X.K = K := by rfl) : VE X (.BinOp a .Add b pos) (tOp (rAddA K) ta tb) (vBin oAdd fa fb) := by subst eK; exact ⟨pe_op op_addA ha.pe hb.pe, sat_bin s_add ha.sat hb.sat⟩
theorem v_sub (ha : VE X a ta fa) (hb : VE X b tb fb) : VE X (.BinOp a .Sub b pos) (tOp (rI0 fun i j => .int (i - j)) ta tb) (vBin oSub fa fb) := ⟨pe_op op_sub ha.pe hb.pe, sat_bin s_sub ha.sat hb.sat⟩
theorem v_mul (ha : VE X a ta fa) (hb : VE X b tb fb) : VE X (.BinOp a .Mult b pos) (tOp (rI CMulG fun i j => .int (i * j)) ta tb) (vBin oMul fa fb) := ⟨pe_op op_mulG ha.pe hb.pe, sat_bin s_mul ha.sat hb.sat⟩
theorem v_div (ha : VE X a ta fa) (hb : VE X b tb fb) : VE X (.BinOp a .FloorDiv b pos) (tOp (rI CDivG fun i j => .int (i.fdiv j)) ta tb) (vBin oDiv fa fb) := ⟨pe_op op_fdivG ha.pe hb.pe, sat_bin s_div ha.sat hb.sat⟩
theorem v_mod (ha : VE X a ta fa) (hb : VE X b tb fb) : VE X (.BinOp a .Mod b pos) (tOp (rI (fun _ j => j ≠ 0) fun i j => .int (i.fmod j)) ta tb) (vBin oMod fa fb) := ⟨pe_op op_modN ha.pe hb.pe, sat_bin s_mod ha.sat hb.sat⟩
theorem v_pow (ha : VE X a ta fa) (hb : VE X b tb fb) : VE X (.BinOp a .Pow b pos) (tOp (rI CPow fun i j => .int (i ^ j.toNat)) ta tb) (vBin oPow fa fb) := ⟨pe_op op_pow ha.pe hb.pe, sat_bin s_pow ha.sat hb.sat⟩
theorem v_neg (ha : VE X a ta fa) : VE X (.UnaryOp .USub a pos) (tUn (rU fun i => .int (-i)) ta) (vUn oNeg fa) := ⟨pe_un un_neg ha.pe, sat_un s_neg ha.sat⟩
/-! comparisons: a rule, its soundness -/
theorem v_cmp {op : CmpOp} {r : R2} {f : O → O → Option O} (ho : OpR X (compareOp op) r) (hs : ∀ K, X.K = K → OpSat K r f) (ha : VE X a ta fa) (hb : VE X b tb fb) (hm : behindInMarks op b = false := by first | exact nomark _ (by decide) (by decide) | rfl) : VE X (.Compare a [op] [b] pos) (tOp r ta tb) (vBin f fa fb) :=
  ⟨pe_cmpR ho ha.pe hb.pe hm, sat_bin (hs _ rfl) ha.sat hb.sat⟩
theorem vt_cmp {op : CmpOp} {r : R2} {f : O → O → Option O} (ho : OpR X (compareOp op) r) (hs : ∀ K, X.K = K → OpSat K r f) (ha : VE X a ta fa) (hb : VE X b tb fb) (hm : behindInMarks op b = false := by first | exact nomark _ (by decide) (by decide) | rfl) : VT X (.Compare a [op] [b] pos) (tTest (tOp r ta tb)) (bVal (vBin f fa fb)) :=
  ⟨pt_cmpR ho ha.pe hb.pe hm, sat_test (sat_bin (hs _ rfl) ha.sat hb.sat)⟩
theorem op_isN2 {X : Cx} : OpR X (compareOp .Is) rIsN2 := op_isN
theorem op_notN2 {X : Cx} : OpR X (compareOp .IsNot) rNotN2 := op_notN
/-! truth values -/
theorem v_b (h : VE X e te fe) : VE X e te (vB (bVal fe)) := ⟨h.pe, sat_vb h.sat⟩
theorem sat_ofB {K : PySem.W.Frag} (h : SatE K te (vB ba)) : SatT K (tB te) ba := fun Hs H σ env b env' r g Q q =>
  h Hs H σ env (.tmp (.shr (.bl b))) env' r (by simp only [vB, g, Option.bind_some]) _ fun Hs1 H1 v p k f => ⟨b, asB_ok (o := .shr (.bl b)) rfl k.1, q Hs1 H1 p⟩
theorem v_and {rest : List Expr} (ha : VE X a ta (vB ba)) (hb : VE X (.BoolOp .And (b :: rest) pos) tb (vB bb)) : VE X (.BoolOp .And (a :: b :: rest) pos) (tAndV ta tb) (vB (bAnd ba bb)) := ⟨pe_and ha.pe hb.pe, sat_andV (sat_ofB ha.sat) hb.sat⟩
theorem v_or {rest : List Expr} (ha : VE X a ta (vB ba)) (hb : VE X (.BoolOp .Or (b :: rest) pos) tb (vB bb)) : VE X (.BoolOp .Or (a :: b :: rest) pos) (tOrV ta tb) (vB (bOr ba bb)) := ⟨pe_or ha.pe hb.pe, sat_orV (sat_ofB ha.sat) hb.sat⟩
theorem v_one {op} (h : VE X a ta fa) : VE X (.BoolOp op [a] pos) ta fa := ⟨pe_one h.pe, h.sat⟩
theorem v_not (ha : VE X a ta (vB ba)) : VE X (.UnaryOp .Not a pos) (tNotV ta) (vB (bNot ba)) := ⟨pe_not ha.pe, sat_notV (sat_ofB ha.sat)⟩
/-! tests -/
theorem vt_val (h : VE X e te fe) (he : ∀ whole, isTrue e X.env whole = (do let v ← whole; standAt e.pos; holding [v] (truthy v)) := by intro _; rfl) : VT X e (tB te) (bVal fe) := ⟨pt_val h.pe he, sat_B h.sat⟩
theorem vt_tru {K : PySem.W.Frag} (h : VE X e te fe) (he : ∀ whole, isTrue e X.env whole = (do let v ← whole; standAt e.pos; holding [v] (truthy v)) := by intro _; rfl) (eK : X.K = K := by rfl) : VT X e (tTruV K te) (bTru fe) := by subst eK; exact ⟨pt_truth h.pe he, sat_tru h.sat⟩
theorem vt_not (h : VT X a tt ba) : VT X (.UnaryOp .Not a pos) (tNot tt) (bNot ba) := ⟨pt_not h.pe, sat_not h.sat⟩
theorem vw_and1 (h : VT X a tt ba) : VW X (.BoolOp .And [a] pos) tt ba := ⟨pw_and1 h.pe, h.sat⟩
theorem vw_or1 (h : VT X a tt ba) : VW X (.BoolOp .Or [a] pos) tt ba := ⟨pw_or1 h.pe, h.sat⟩
theorem vw_and {rest : List Expr} (h : VT X a tt ba) (h2 : VW X (.BoolOp .And (b :: rest) pos) tu bb) : VW X (.BoolOp .And (a :: b :: rest) pos) (tAnd tt tu) (bAnd ba bb) := ⟨pw_and h.pe h2.pe, sat_and h.sat h2.sat⟩
theorem vw_or {rest : List Expr} (h : VT X a tt ba) (h2 : VW X (.BoolOp .Or (b :: rest) pos) tu bb) : VW X (.BoolOp .Or (a :: b :: rest) pos) (tOr tt tu) (bOr ba bb) := ⟨pw_or h.pe h2.pe, sat_or h.sat h2.sat⟩
theorem vw_t (h : VW X a tt ba) : VT X a tt ba := ⟨h.pe.pt, h.sat⟩
theorem v_if (hc : VT X c tt ba) (ha : VE X a ta fa) (hb : VE X b tb fb) : VE X (.IfExp c a b pos) (tIf tt ta tb) (vIf ba fa fb) := ⟨pe_ifExp hc.pe ha.pe hb.pe, sat_if hc.sat ha.sat hb.sat⟩
/-! subscripts -/
theorem v_ix {K : PySem.W.Frag} (ha : VE X a ta fa) (hb : VE X b tb fb) (hs : PlainIx b := by exact fun _ _ => rfl) (eK : X.K = K := by rfl) : VE X (.Subscript a b pos) (tOp (rIx K) ta tb) (vBin oIx fa fb) := by subst eK; exact ⟨pe_ix ix_seq ha.pe hb.pe hs, sat_bin s_ix ha.sat hb.sat⟩
theorem vo_none : VO X none tNoPart vNoP := ⟨po_none, sat_noP⟩
theorem vo_some (h : VE X e te fe) : VO X (some e) (tPart te) (vP fe) := ⟨po_some h.pe, sat_P h.sat⟩
theorem v_sl {K : PySem.W.Frag} {lo hi : Option Expr} {p2 : Pos} {tl th : TO} {fl fh : OF} (ha : VE X a ta fa) (hl : VO X lo tl fl) (hh : VO X hi th fh) (eK : X.K = K := by rfl) : VE X (.Subscript a (.Slice lo hi none p2) pos) (tSl (rSlA K) ta tl th) (vSl fa fl fh) := by subst eK; exact ⟨pe_slice sl_A ha.pe hl.pe hh.pe, sat_sl ha.sat hl.sat hh.sat⟩
/-! calls -/
theorem v_callB {x : Str} {id : String} {p : Pos} {r : List V → Hp → VK → Prop} {op : List O → Option O} (hc : CallR X (.builtin id) r) (hs : ∀ K, X.K = K → CallSat K r op) (hv : bootBuiltins x = some (.builtin id)) (hm : X.mg x = none) (ha : VHs X (e :: es) t fhs) (hg : Gl X x := by rfl) (hn : x ≠ "__name__" := by decide) (hdb : (x == ("__debug__" : Str)) = false := by decide)
    (he : starEach (e :: es) X.env = (false, eval e X.env) :: starEach es X.env := by rfl) (hpl : (backTo pos (starEach es X.env)).any (·.1) = false := by rfl) : VE X (.Call (.Name x p) (e :: es) [] pos) (tCB r t) (vCallB op fhs) := ⟨pe_callB hc hg hm hv ha.pe hn hdb he hpl, sat_callB (hs _ rfl) ha.sat⟩
theorem v_callTy {x : Str} {T : String} {p : Pos} {r : List V → Hp → VK → Prop} {op : List O → Option O} (hc : CallR X (.type T) r) (hs : ∀ K, X.K = K → CallSat K r op) (hv : bootBuiltins x = some (.type T)) (hm : X.mg x = none) (ha : VHs X (e :: es) t fhs) (hg : Gl X x := by rfl) (hn : x ≠ "__name__" := by decide) (hdb : (x == ("__debug__" : Str)) = false := by decide)
    (he : starEach (e :: es) X.env = (false, eval e X.env) :: starEach es X.env := by rfl) (hpl : (backTo pos (starEach es X.env)).any (·.1) = false := by rfl) : VE X (.Call (.Name x p) (e :: es) [] pos) (tCB r t) (vCallB op fhs) := ⟨pe_callTy hc hg hm hv ha.pe hn hdb he hpl, sat_callB (hs _ rfl) ha.sat⟩
/-- a def of the text: where it stands, what it computes -/
structure Df (P : Program) (w : World) (K : PySem.W.Frag) (mg : Str → Option Value) (base : Heap) (k : Nat) (x : Str) (ps : List Str) (F : FF) : Prop where
  ex : ∃ (f : Addr) (fd : FuncData), FnOk P w K mg base CX0 k f fd ps (spV K F) ∧ mg x = some (.ref f) ∧ PySem.W.keepIn K (.ref f) = true ∧ Binds K fd ps []
theorem Df.mono {P : Program} {w : World} {K : PySem.W.Frag} {mg : Str → Option Value} {base : Heap} {j k : Nat} {x : Str} {ps : List Str} {F : FF} (h : Df P w K mg base j x ps F) (l : j ≤ k) : Df P w K mg base k x ps F :=
  let ⟨f, fd, a, b, c, d⟩ := h.ex; ⟨f, fd, a.mono l, b, c, d⟩
theorem pe_callE {x : Str} {p : Pos} {t : TA} {k : Nat} {ps : List Str} {F : FF} (hD : Df X.prog X.w X.K X.mg X.base k x ps F) (hr : Room k X.A) (ha : PA X (e :: es) t) (hg : Gl X x := by rfl) (hdb : (x == ("__debug__" : Str)) = false := by decide)
    (he : starEach (e :: es) X.env = (false, eval e X.env) :: starEach es X.env := by rfl) (hpl : (backTo pos (starEach es X.env)).any (·.1) = false := by rfl) : PE X (.Call (.Name x p) (e :: es) [] pos) (tCall (spV X.K F) [] (fun _ _ _ => False) t) := by
  obtain ⟨f, fd, h1, h2, h3, h4⟩ := hD.ex
  exact pe_call h1 hr hg h2 h3 h4 .nil pass0 ha hdb he hpl
theorem v_call {x : Str} {p : Pos} {k j : Nat} {ps : List Str} {F : FF} {P : Program} {w : World} {K : PySem.W.Frag} {mg : Str → Option Value} {base : Heap} {A : Around} (hD : Df P w K mg base j x ps F) (hr : Room k A) (ha : VHs X (e :: es) t fhs) (hk : j ≤ k := by omega) (hg : Gl X x := by rfl)
    (eP : X.prog = P := by rfl) (ew : X.w = w := by rfl) (eK : X.K = K := by rfl) (em : X.mg = mg := by rfl) (eb : X.base = base := by rfl) (eA : X.A = A := by rfl) (hdb : (x == ("__debug__" : Str)) = false := by decide)
    (he : starEach (e :: es) X.env = (false, eval e X.env) :: starEach es X.env := by rfl) (hpl : (backTo pos (starEach es X.env)).any (·.1) = false := by rfl) : VE X (.Call (.Name x p) (e :: es) [] pos) (tCall (spV K F) [] (fun _ _ _ => False) t) (vCall F fhs) := by
  subst eP ew eK em eb eA
  exact ⟨pe_callE (hD.mono hk) hr ha.pe hg hdb he hpl, sat_call ha.sat⟩
/-! methods of a list of one's own -/
theorem v_mt {T id : String} {name : Str} {x : Str} {p apos cpos : Pos} {r : V → List V → Hp → VK → Prop} {m : List D → O → Option (D × O)} (i : Nat) (pa : PlainAttrs T) (slot : PySem.Slot T name id) (hty : typeOf (.builtin id) = pure (.type "method_descriptor")) (hm : MtR X id r) (hs : MtSat X.K r m) (hT : T ≠ "") (ho : VE X (.Name x p) (tVar i) (vVar i)) (ha : VDs X (e :: es) t fds)
    (hbase : attributeBase (.Name x p) name X.env (eval (.Name x p) X.env) = eval (.Name x p) X.env := by rfl)
    (hfew : ((backTo cpos (starEach (e :: es) X.env)).all (fun x => !x.1) && (backToKw cpos (keywordEach [] X.env)).all (fun x => x.1.isSome)
      && decide ((e :: es).length + ([] : List Keyword).length + (if ([] : List Keyword).isEmpty then 0 else 1) < 30)) = true := by rfl)
    (hline : (apos.endLine == cpos.line) = true := by rfl) (hst : starEach (e :: es) X.env = (false, eval e X.env) :: starEach es X.env := by rfl) (hplain : (backTo cpos (starEach es X.env)).any (·.1) = false := by rfl) :
    VE X (.Call (.Attribute (.Name x p) name apos) (e :: es) [] cpos) (tBM X.K T r (tVar i) t) (vMt i T m fds) :=
  ⟨pe_bm pa slot hty hm ho.pe ha.pe hbase hfew hline hst hplain, sat_mt hs hT ha.sat⟩
theorem v_append {x : Str} {p apos cpos : Pos} (i : Nat) (ho : VE X (.Name x p) (tVar i) (vVar i)) (h : VE X e te fe)
    (hbase : attributeBase (.Name x p) "append" X.env (eval (.Name x p) X.env) = eval (.Name x p) X.env := by rfl)
    (hfew : ((backTo cpos (starEach [e] X.env)).all (fun x => !x.1) && (backToKw cpos (keywordEach [] X.env)).all (fun x => x.1.isSome)
      && decide (([e] : List Expr).length + ([] : List Keyword).length + (if ([] : List Keyword).isEmpty then 0 else 1) < 30)) = true := by rfl)
    (hline : (apos.endLine == cpos.line) = true := by rfl) (hst : starEach [e] X.env = (false, eval e X.env) :: starEach [] X.env := by rfl) (hplain : (backTo cpos (starEach [] X.env)).any (·.1) = false := by rfl) :
    VE X (.Call (.Attribute (.Name x p) "append" apos) [e] [] cpos) (tBM X.K "list" rAppend (tVar i) (tCons te tNil)) (vMt i "list" mAppend (vConsD (vTake fe) vNilD)) :=
  v_mt i PySem.F.plainAttrs_list PySem.F.slot_list_append PySem.F.type_list_append mt_append s_append (by decide) ho (vds_cons h vds_nil hst) hbase hfew hline hst hplain
/-! what is walked -/
theorem vi_seq {K : PySem.W.Frag} {tg : Expr} (h : VE X e te fe) (eK : X.K = K := by rfl) : VI X tg e (wSeq K te) (iSeq fe) := by subst eK; exact ⟨pi_seq h.pe, sat_seqI h.sat⟩
theorem vi_r1 {tg : Expr} {p : Pos} (hm : X.mg "range" = none) (ha : VHs X [a] t fhs) (hg : Gl X "range" := by rfl) (hs : starEach [a] X.env = [(false, eval a X.env)] := by rfl) : VI X tg (.Call (.Name "range" p) [a] [] pos) (iRng1 t) (iR1 fhs) := ⟨pi_range1 hg hm ha.pe hs, sat_R1 ha.sat⟩
theorem vi_r2 {tg : Expr} {p : Pos} (hm : X.mg "range" = none) (ha : VHs X [a, b] t fhs) (hg : Gl X "range" := by rfl) (hs : starEach [a, b] X.env = [(false, eval a X.env), (false, eval b X.env)] := by rfl) (hs2 : starEach [b] X.env = [(false, eval b X.env)] := by rfl) : VI X tg (.Call (.Name "range" p) [a, b] [] pos) (iRng2 t) (iR2 fhs) := ⟨pi_range2 hg hm ha.pe hs hs2, sat_R2 ha.sat⟩
/-! targets -/
theorem vg_name (i : Nat) {x : Str} (hN : X.N.Nodup) (hi : X.N[i]? = some x := by rfl) (hx : Loc X.env.scope x := by first | exact Or.inl rfl | exact Or.inr rfl) (hf : X.fn x = true ∨ X.env.scope.names.lookup x = some .local := by first | exact .inl rfl | exact .inr rfl | assumption) : VG X (.Name x pos) (gName i) [i] (gN i) := ⟨pg_name hN hi hx hf, sat_gN⟩
theorem vgs_nil : VGs X [] gNil [] gNilF := ⟨pgs_nil, sat_gNil⟩
theorem vgs_cons {g : TG} {gs : TGs} {vs ws : List Nat} {f : GF} {r : List D → Sto → Option Sto} (h1 : VG X e g vs f) (h2 : VGs X es gs ws r) (hs : (assignEach (e :: es) X.env).map (·.2) = assign e X.env :: (assignEach es X.env).map (·.2) := by rfl) : VGs X (e :: es) (gCons g gs) (vs ++ ws) (gConsF f r) := ⟨pgs_cons h1.pe h2.pe hs, sat_gCons h1.sat h2.sat⟩
theorem vg_tup {K : PySem.W.Frag} {k n : Nat} {gs : TGs} {vs : List Nat} {r : List D → Sto → Option Sto} (h : VGs X es gs vs r) (hc : X.calm = true := by rfl) (hn : (assignEach es X.env).length = n := by rfl) (hst : (assignEach es X.env).findIdx? (·.1) = none := by rfl) (eK : X.K = K := by rfl) : VG X (.Tuple es k pos) (gTup K n gs) vs (gT n r) := by subst eK; exact ⟨pg_tup hc h.pe hn hst, sat_gT h.sat⟩
/-! comprehensions -/
theorem vts_nil : VTs X [] tYes bYes := ⟨pts_nil, sat_yes⟩
theorem vts_one (h : VT X c tt ba) : VTs X [c] tt ba := ⟨pts_one h.pe, h.sat⟩
theorem v_lc {elt tg iter : Expr} {ifs : List Expr} {scope : Scope} (own : List (Str × Nat)) {wi : TI} {fi : IF} {g : TG} {ws : List Nat} {gf : GF} (hN : X.N.Nodup) (hi : VI X tg iter wi fi) (ok : blkC X.N X.env.scope scope own = true)
    (hg : ∀ (s : Shared) (H : Hp) (C : Addr) (cl : List (Str × Addr)) (fp : List Addr), VG (X.blk s H scope (compEnvC scope cl C X.env) fp) tg g ws gf) (ht : ∀ (s : Shared) (H : Hp) (C : Addr) (cl : List (Str × Addr)) (fp : List Addr), VTs (X.blk s H scope (compEnvC scope cl C X.env) fp) ifs tt ba)
    (he : ∀ (s : Shared) (H : Hp) (C : Addr) (cl : List (Str × Addr)) (fp : List Addr), VE (X.blk s H scope (compEnvC scope cl C X.env) fp) elt te fe) (hsub : ∀ i ∈ ws, i ∈ own.map (·.2) := by decide) (hc : X.calm = true := by rfl) (hs : ∀ x, foldedSetIterable iter X.env x = pure x := by intro _; rfl) :
    VE X (.ListComp elt [⟨tg, iter, ifs, 0⟩] scope pos) (tLc wi g tt te (own.map (·.2))) (vLc fi gf ba (vTake fe) (own.map (·.2))) :=
  ⟨pe_lc hc hN hi.pe (blkOk_by ok) (fun s H C cl fp => (hg s H C cl fp).pe) (fun s H C cl fp => (ht s H C cl fp).pe) (fun s H C cl fp => (he s H C cl fp).pe) hs,
   sat_lc hi.sat (hg {} (fun _ => none) 0 [] []).sat hsub (ht {} (fun _ => none) 0 [] []).sat (sat_take (he {} (fun _ => none) 0 [] []).sat)⟩
/-! statements -/
variable {st : Stmt} {sts : List Stmt} {ts ts2 : TS} {f f2 : SF} {sa sb : List Stmt}
theorem vs_nil : VSs X [] tNext sNil := ⟨pss_nil, sat_nil⟩
theorem vs_cons (h : VS X st ts f) (r : VSs X sts ts2 f2) : VSs X (st :: sts) (tSeq ts ts2) (sSeq f f2) := ⟨pss_cons h.pe r.pe, sat_seq h.sat r.sat⟩
theorem vs_one (h : VS X st ts f) : VSs X [st] ts f := ⟨pss_one h.pe, h.sat⟩
theorem v_set (i : Nat) {x : Str} {pos' : Pos} (hN : X.N.Nodup) (he : VE X e te fe) (hi : X.N[i]? = some x := by rfl) (hx : Loc X.env.scope x := by first | exact Or.inl rfl | exact Or.inr rfl) (hs : swapsWith e (some (.Name x pos')) pos.line X.env = pure false := by rfl) (hf : X.fn x = true ∨ X.env.scope.names.lookup x = some .local := by first | exact .inl rfl | exact .inr rfl | assumption) :
    VS X (.Assign [.Name x pos'] e pos) (tAsg te (gName i)) (sSet i fe) := ⟨ps_set hN hi hx he.pe hs hf, sat_set he.sat⟩
theorem v_setLc (i : Nat) {y : Str} {py : Pos} {elt tg iter : Expr} {ifs : List Expr} {scope : Scope} (own : List (Str × Nat)) {spos : Pos} {wi : TI} {fi : IF} {g : TG} {ws : List Nat} {gf : GF} (hN : X.N.Nodup)
    (hsw : swapsWith (.ListComp elt [⟨tg, iter, ifs, 0⟩] scope pos) (some (.Name y py)) spos.line X.env = pure true) (hi : VI X tg iter wi fi) (ok : blkC X.N X.env.scope scope own = true)
    (hg : ∀ (s : Shared) (H : Hp) (C : Addr) (cl : List (Str × Addr)) (fp : List Addr), VG (X.blk s H scope (compEnvC scope cl C X.env) fp) tg g ws gf) (ht : ∀ (s : Shared) (H : Hp) (C : Addr) (cl : List (Str × Addr)) (fp : List Addr), VTs (X.blk s H scope (compEnvC scope cl C X.env) fp) ifs tt ba)
    (he : ∀ (s : Shared) (H : Hp) (C : Addr) (cl : List (Str × Addr)) (fp : List Addr), VE (X.blk s H scope (compEnvC scope cl C X.env) fp) elt te fe) (hy : X.N[i]? = some y := by rfl) (hyl : X.env.scope.names.lookup y = some .local := by rfl) (hsub : ∀ i ∈ ws, i ∈ own.map (·.2) := by decide) (hc : X.calm = true := by rfl) (hs : ∀ x, foldedSetIterable iter X.env x = pure x := by intro _; rfl) :
    VS X (.Assign [.Name y py] (.ListComp elt [⟨tg, iter, ifs, 0⟩] scope pos) spos) (tAsg (tLc wi g tt te (own.map (·.2))) (gName i)) (sSet i (vLc fi gf ba (vTake fe) (own.map (·.2)))) :=
  ⟨ps_setLc hc hN hy hyl hsw hi.pe (blkOk_by ok) (fun s H C cl fp => (hg s H C cl fp).pe) (fun s H C cl fp => (ht s H C cl fp).pe) (fun s H C cl fp => (he s H C cl fp).pe) hs,
   sat_set (sat_lc hi.sat (hg {} (fun _ => none) 0 [] []).sat hsub (ht {} (fun _ => none) 0 [] []).sat (sat_take (he {} (fun _ => none) 0 [] []).sat))⟩
theorem v_asg {tg : Expr} {g : TG} {vs : List Nat} {gf : GF} (he : VE X e te fe) (hg : VG X tg g vs gf) (hs : swapsWithSole [tg] e pos.line X.env = pure false := by rfl) (hw : swappedStores [tg] e X.env = pure none := by rfl)
    (h1 : (assignEach [tg] X.env).map (·.2) = [assign tg X.env] := by rfl) : VS X (.Assign [tg] e pos) (tAsg te g) (sAsg (vTake fe) gf) := ⟨ps_asg he.pe hg.pe hs hw h1, sat_asg (sat_take he.sat) hg.sat⟩
theorem v_par (i j : Nat) {x y : Str} {px py pt : Pos} {kt k2 pt2} (hN : X.N.Nodup) (ha : VDs X [a, b] t fds) (hw : swappedStores [.Tuple [.Name x px, .Name y py] kt pt] (.Tuple [a, b] k2 pt2) X.env = pure (some [x, y]) := by rfl) (hi : X.N[i]? = some x := by rfl) (hj : X.N[j]? = some y := by rfl) (hij : i ≠ j := by decide)
    (hx : X.env.scope.names.lookup x = some .local := by rfl) (hy : X.env.scope.names.lookup y = some .local := by rfl) (hc : X.calm = true := by rfl)
    (hs : swapsWithSole [.Tuple [.Name x px, .Name y py] kt pt] (.Tuple [a, b] k2 pt2) pos.line X.env = pure false := by rfl) :
    VS X (.Assign [.Tuple [.Name x px, .Name y py] kt pt] (.Tuple [a, b] k2 pt2) pos) (tPar i j t) (sPar i j fds) := ⟨ps_par hc hN hi hj hij hx hy ha.pe hw hs, sat_par ha.sat⟩
theorem v_expr (h : VE X e te fe) (hs : swapsWith e none pos.line X.env = pure false := by rfl) : VS X (.Expr e pos) (tDrop te) (sDrop fe) := ⟨ps_expr h.pe hs, sat_drop h.sat⟩
theorem v_ret (h : VE X e te fe) : VS X (.Return (some e) pos) (tRet te) (sRet fe) := ⟨ps_ret h.pe, sat_retS h.sat⟩
theorem v_retN : VS X (.Return none pos) tRetN sRetN := ⟨ps_retN, sat_retN⟩
theorem v_ifS (hc : VT X c tt ba) (ha : VSs X sa ts f) (hb : VSs X sb ts2 f2) : VS X (.If c sa sb pos) (tIfS tt ts ts2) (sIf ba f f2) := ⟨ps_if hc.pe ha.pe hb.pe, sat_ifS hc.sat ha.sat hb.sat⟩
theorem v_pass : VS X (.Pass pos) tNext sNil := ⟨ps_pass, sat_nil⟩
theorem v_brk : VS X (.Break pos) tBreak sBrk := ⟨ps_break, sat_brk⟩
theorem v_cont : VS X (.Continue pos) tCont sCont := ⟨ps_continue, sat_cont⟩
def sNever : SF := fun _ => none
theorem v_never : VS X st tNever sNever := ⟨ps_never, fun _ _ _ _ _ _ g => nomatch g⟩
theorem vs_never : VSs X sts tNever sNever := ⟨pss_never, fun _ _ _ _ _ _ g => nomatch g⟩
theorem v_for {tg iter : Expr} {wi : TI} {fi : IF} {g : TG} {vs : List Nat} {gf : GF} (hi : VI X tg iter wi fi) (hg : VG X tg g vs gf) (hb : VSs X sa ts f) (hp : PassesOwn (model X.prog X.w) X.A X.env X.xe := by exact PassesOwn.never) (hc : X.calm = true := by rfl) (hs : ∀ x, foldedSetIterable iter X.env x = pure x := by intro _; rfl) :
    VS X (.For tg iter sa [] pos) (tFor wi g ts) (sFor fi gf f) := ⟨ps_for hp hc hi.pe hg.pe hb.pe hs, sat_for hi.sat hg.sat hb.sat⟩
theorem v_while (n : Nat) (hc : VT X c tt ba) (hb : VSs X sa ts f) (hp : PassesOwn (model X.prog X.w) X.A X.env X.xe := by exact PassesOwn.never) : VS X (.While c sa [] pos) (tWhile tt ts) (sWhile n ba f) := ⟨ps_while hp hc.pe hb.pe, sat_while hc.sat hb.sat⟩
theorem v_setIx (i : Nat) {x : Str} {px p2 : Pos} {ix : Expr} {ti : TE} {fi : EF} (ho : VE X (.Name x px) (tVar i) (vVar i)) (hi : VE X ix ti fi) (hv : VE X e te fe)
    (ha : ∀ v, assign (.Subscript (.Name x px) ix p2) X.env v = (do
      let ov ← holding [v] (eval (.Name x px) X.env)
      let iv ← holding [v, ov] (eval ix X.env)
      standAt p2
      holding [v, ov, iv] (setItem ov iv v)
      release [v, ov, iv] []) := by intro _; rfl) (hs : swapsWithSole [.Subscript (.Name x px) ix p2] e pos.line X.env = pure false := by rfl) (hw : swappedStores [.Subscript (.Name x px) ix p2] e X.env = pure none := by rfl)
    (h1 : (assignEach [.Subscript (.Name x px) ix p2] X.env).map (·.2) = [assign (.Subscript (.Name x px) ix p2) X.env] := by rfl) :
    VS X (.Assign [.Subscript (.Name x px) ix p2] e pos) (tAsg te (gSub (tVar i) ti rSetL)) (sSetIx i (vTake fe) fi) := ⟨ps_asg hv.pe (pg_sub ho.pe hi.pe set_list ha) hs hw h1, sat_setIx (sat_take hv.sat) hi.sat⟩
theorem v_augIx (i : Nat) {op : Operator} {x : Str} {px p2 : Pos} {ix : Expr} {ti : TE} {fi : EF} {tip : TIp} {g : O → O → Option O} (hp : PIp X op tip) (hs : OpSat X.K tip g) (ho : VE X (.Name x px) (tVar i) (vVar i)) (hi : VE X ix ti fi) (hv : VE X e te fe)
    (ha : ∀ ov iv new, augStore ix ov iv new = (do holding [new, ov, iv] (setItem ov iv new); release [new, ov, iv] []; pure .next) := by intros; rfl) :
    VS X (.AugAssign (.Subscript (.Name x px) ix p2) op e pos) (tAugS (tVar i) ti te (rIxL X.K) tip rSetL) (sAugIx i fi g fe) := ⟨ps_augS ho.pe hi.pe pget_list hv.pe hp set_list ha, sat_augIx hs hi.sat hv.sat⟩
theorem v_aug (i : Nat) {op : Operator} {x : Str} {p2 : Pos} {tip : TIp} {g : O → O → Option O} (hp : PIp X op tip) (hs : OpSat X.K tip g) (hN : X.N.Nodup) (hv : VE X e te fe) (hi : X.N[i]? = some x := by rfl) (hx : Loc X.env.scope x := by first | exact Or.inl rfl | exact Or.inr rfl) (hf : X.fn x = true ∨ X.env.scope.names.lookup x = some .local := by first | exact .inl rfl | exact .inr rfl | assumption) :
    VS X (.AugAssign (.Name x p2) op e pos) (tAug i te tip) (sAug i g fe) := ⟨ps_aug hN hi hx hv.pe hp hf, sat_aug hs hv.sat⟩
end
theorem VSs.ex {X : Cx} {sts : List Stmt} {t : TS} {f : SF} (h : VSs X sts t f) : ∃ t, PSs X sts t ∧ SatS X.K t f := ⟨t, h.pe, h.sat⟩
/-- a def that is never asked -/
theorem fn_none {P : Program} {w : World} {K : PySem.W.Frag} {mg : Str → Option Value} {base : Heap} {k : Nat} {f : Addr} {fd : FuncData} {ps : List Str} {F : FF} (h : ∀ os, F os = none) : FnOk P w K mg base CX0 k f fd ps (spV K F) := by
  have no : ∀ vs H Q E, ¬ spV K F vs H Q E := fun vs H Q E ⟨Hs, os, r, fin, _, _, _, hF, _⟩ => by rw [h] at hF; cases hF
  exact ⟨fun vs H Q E h => absurd h (no vs H Q E), fun A outer s H args us vs Q E _ _ _ _ h => absurd h (no vs H Q E)⟩
/-! the rules, the fragment told -/
section
variable {X : Cx} {K : PySem.W.Frag}
theorem op_eqK (e : X.K = K) (hu : X.A.units + 64 < cLine) : OpR X (compareOp .Eq) (rEqA K) := e ▸ op_eqA hu
theorem op_neK (e : X.K = K) (hu : X.A.units + 64 < cLine) : OpR X (compareOp .NotEq) (rNeA K) := e ▸ op_neA hu
theorem op_inK (e : X.K = K) : OpR X (compareOp .In) (rIn K false) := e ▸ op_in_seq
theorem op_notInK (e : X.K = K) : OpR X (compareOp .NotIn) (rIn K true) := e ▸ op_notIn_seq
theorem call_lenK2 (e : X.K = K) : CallR X (.builtin "len") (rLenA K) := e ▸ call_lenA
theorem call_maxK (e : X.K = K) (hc : X.calm = true) : CallR X (.builtin "max") (rMaxA K) := e ▸ call_maxA hc
theorem call_minK (e : X.K = K) (hc : X.calm = true) : CallR X (.builtin "min") (rMinA K) := e ▸ call_minA hc
theorem call_sumK (e : X.K = K) (hc : X.calm = true) : CallR X (.builtin "sum") (rSum K) := e ▸ cr_sum hc
theorem call_allK (e : X.K = K) (hc : X.calm = true) : CallR X (.builtin "all") (rAll K) := e ▸ cr_all hc
theorem call_anyK (e : X.K = K) (hc : X.calm = true) : CallR X (.builtin "any") (rAny K) := e ▸ cr_any hc
theorem call_isiK2 (e : X.K = K) : CallR X (.builtin "isinstance") (rIsi K) := e ▸ call_isi
theorem call_listK (e : X.K = K) : CallR X (.type "list") (rListQ K) := e ▸ call_list_of
end
end PV

set_option maxRecDepth 100000
set_option maxHeartbeats 2000000
namespace PV
open PySem L2
/-! ### running: from what a piece asks to what comes out -/
def XE (f : EF) (env : Sto) (Q : Hnd → Sto → Prop) : Prop := ∃ h e, f env = some (h, e) ∧ Q h e
def XD (f : DF) (env : Sto) (Q : D → Sto → Prop) : Prop := ∃ h e, f env = some (h, e) ∧ Q h e
def XDs (f : DsF) (env : Sto) (Q : List D → Sto → Prop) : Prop := ∃ h e, f env = some (h, e) ∧ Q h e
def XHs (f : HsF) (env : Sto) (Q : List Hnd → Sto → Prop) : Prop := ∃ h e, f env = some (h, e) ∧ Q h e
def XB (f : BF) (env : Sto) (Q : Bool → Sto → Prop) : Prop := ∃ h e, f env = some (h, e) ∧ Q h e
def XP (f : OF) (env : Sto) (Q : Option Int → Sto → Prop) : Prop := ∃ h e, f env = some (h, e) ∧ Q h e
def XI (f : IF) (env : Sto) (Q : List D → Option (Nat × Slot) → Sto → Prop) : Prop := ∃ ds l e, f env = some ((ds, l), e) ∧ Q ds l e
def XO {α : Type} (o : Option α) (Q : α → Prop) : Prop := ∃ x, o = some x ∧ Q x
def XS (f : SF) (env : Sto) (Q : Out → Prop) : Prop := ∃ o, f env = some o ∧ Q o
section
variable {env : Sto} {fa fb : EF} {i : Nat} {d : D} {o : O} {s : Slot} {α : Type} {v : α}
theorem xo {o : Option α} {Q : α → Prop} (h : o = some v) (q : Q v) : XO o Q := ⟨v, h, q⟩
theorem XO.mono {o : Option α} {Q Q' : α → Prop} (h : XO o Q) (k : ∀ x, Q x → Q' x) : XO o Q' := let ⟨x, e, q⟩ := h; ⟨x, e, k x q⟩
theorem XS.mono {f : SF} {Q Q' : Out → Prop} (h : XS f env Q) (k : ∀ x, Q x → Q' x) : XS f env Q' := let ⟨x, e, q⟩ := h; ⟨x, e, k x q⟩
theorem xe_var {Q : Hnd → Sto → Prop} (h : env[i]? = some (some s)) (q : Q (.var i) env) : XE (vVar i) env Q := ⟨_, _, by unfold vVar; rw [h], q⟩
theorem xe_c {Q : Hnd → Sto → Prop} (q : Q (.tmp (.shr d)) env) : XE (vC d) env Q := ⟨_, _, rfl, q⟩
theorem xe_bin {op : O → O → Option O} {Q : Hnd → Sto → Prop} (h : XE fa env fun a e => XE fb e fun b e' => XO (hGet e' a) fun x => XO (hGet e' b) fun y => XO (op x y) fun z => Q (.tmp z) e') : XE (vBin op fa fb) env Q := by
  obtain ⟨a, e, h1, b, e', h2, x, h3, y, h4, z, h5, q⟩ := h
  exact ⟨_, _, by simp only [vBin, h1, Option.bind_some, h2, h3, h4, h5], q⟩
theorem xe_un {op : O → Option O} {Q : Hnd → Sto → Prop} (h : XE fa env fun a e => XO (hGet e a) fun x => XO (op x) fun z => Q (.tmp z) e) : XE (vUn op fa) env Q := by
  obtain ⟨a, e, h1, x, h3, z, h5, q⟩ := h
  exact ⟨_, _, by simp only [vUn, h1, Option.bind_some, h3, h5], q⟩
theorem xd_take {Q : D → Sto → Prop} (h : XE fa env fun a e => XO (hTake e a) fun p => Q p.1 p.2) : XD (vTake fa) env Q := by
  obtain ⟨a, e, h1, ⟨d, e'⟩, h3, q⟩ := h
  exact ⟨_, _, by simp only [vTake, h1, Option.bind_some, h3], q⟩
theorem xds_nil {Q : List D → Sto → Prop} (q : Q [] env) : XDs vNilD env Q := ⟨_, _, rfl, q⟩
theorem xds_cons {f : DF} {r : DsF} {Q : List D → Sto → Prop} (h : XD f env fun d e => XDs r e fun ds e' => Q (d :: ds) e') : XDs (vConsD f r) env Q := by
  obtain ⟨a, e, h1, ds, e', h2, q⟩ := h
  exact ⟨_, _, by simp only [vConsD, h1, Option.bind_some, h2], q⟩
theorem xhs_nil {Q : List Hnd → Sto → Prop} (q : Q [] env) : XHs vNilH env Q := ⟨_, _, rfl, q⟩
theorem xhs_cons {r : HsF} {Q : List Hnd → Sto → Prop} (h : XE fa env fun d e => XHs r e fun ds e' => Q (d :: ds) e') : XHs (vConsH fa r) env Q := by
  obtain ⟨a, e, h1, ds, e', h2, q⟩ := h
  exact ⟨_, _, by simp only [vConsH, h1, Option.bind_some, h2], q⟩
theorem xe_tup {f : DsF} {Q : Hnd → Sto → Prop} (h : XDs f env fun ds e => ds.length ≤ 100000 ∧ Q (.tmp (.shr (.tup ds))) e) : XE (vTup f) env Q := by
  obtain ⟨ds, e, h1, h2, q⟩ := h
  exact ⟨_, _, by simp only [vTup, h1, Option.bind_some, if_pos h2], q⟩
theorem xe_lst {f : DsF} {Q : Hnd → Sto → Prop} (h : XDs f env fun ds e => ds.length ≤ 100000 ∧ Q (.tmp (.ol ds)) e) : XE (vLst f) env Q := by
  obtain ⟨ds, e, h1, h2, q⟩ := h
  exact ⟨_, _, by simp only [vLst, h1, Option.bind_some, if_pos h2], q⟩
theorem xe_if {c : BF} {Q : Hnd → Sto → Prop} (h : XB c env fun b e => (b = true → XE fa e Q) ∧ (b = false → XE fb e Q)) : XE (vIf c fa fb) env Q := by
  obtain ⟨b, e, h1, h2, h3⟩ := h
  cases b with
  | true =>
    obtain ⟨h, e', h4, q⟩ := h2 rfl
    exact ⟨h, e', by simp only [vIf, h1, Option.bind_some, if_true]; exact h4, q⟩
  | false =>
    obtain ⟨h, e', h4, q⟩ := h3 rfl
    exact ⟨h, e', by simp only [vIf, h1, Option.bind_some, Bool.false_eq_true, if_false]; exact h4, q⟩
theorem xb_and {a b : BF} {Q : Bool → Sto → Prop} (h : XB a env fun x e => (x = true → XB b e Q) ∧ (x = false → Q false e)) : XB (bAnd a b) env Q := by
  obtain ⟨x, e, h1, h2, h3⟩ := h
  cases x with
  | true =>
    obtain ⟨h, e', h4, q⟩ := h2 rfl
    exact ⟨h, e', by simp only [bAnd, h1, Option.bind_some, if_true]; exact h4, q⟩
  | false => exact ⟨false, e, by simp only [bAnd, h1, Option.bind_some, Bool.false_eq_true, if_false], h3 rfl⟩
theorem xb_or {a b : BF} {Q : Bool → Sto → Prop} (h : XB a env fun x e => (x = true → Q true e) ∧ (x = false → XB b e Q)) : XB (bOr a b) env Q := by
  obtain ⟨x, e, h1, h2, h3⟩ := h
  cases x with
  | false =>
    obtain ⟨h, e', h4, q⟩ := h3 rfl
    exact ⟨h, e', by simp only [bOr, h1, Option.bind_some, Bool.false_eq_true, if_false]; exact h4, q⟩
  | true => exact ⟨true, e, by simp only [bOr, h1, Option.bind_some, if_true], h2 rfl⟩
theorem xb_not {a : BF} {Q : Bool → Sto → Prop} (h : XB a env fun x e => Q (!x) e) : XB (bNot a) env Q := by
  obtain ⟨x, e, h1, q⟩ := h
  exact ⟨_, _, by simp only [bNot, h1, Option.bind_some], q⟩
theorem xb_val {Q : Bool → Sto → Prop} (h : XE fa env fun a e => XO (hGet e a) fun x => XO (asB x) fun b => Q b e) : XB (bVal fa) env Q := by
  obtain ⟨a, e, h1, x, h3, z, h5, q⟩ := h
  exact ⟨_, _, by simp only [bVal, h1, Option.bind_some, h3, h5], q⟩
theorem xb_tru {Q : Bool → Sto → Prop} (h : XE fa env fun a e => XO (hGet e a) fun x => XO (truO x) fun b => Q b e) : XB (bTru fa) env Q := by
  obtain ⟨a, e, h1, x, h3, z, h5, q⟩ := h
  exact ⟨_, _, by simp only [bTru, h1, Option.bind_some, h3, h5], q⟩
theorem xb_yes {Q : Bool → Sto → Prop} (q : Q true env) : XB bYes env Q := ⟨_, _, rfl, q⟩
theorem xe_B {b : BF} {Q : Hnd → Sto → Prop} (h : XB b env fun x e => Q (.tmp (.shr (.bl x))) e) : XE (vB b) env Q := by
  obtain ⟨x, e, h1, q⟩ := h
  exact ⟨_, _, by simp only [vB, h1, Option.bind_some], q⟩
theorem xe_callB {op : List O → Option O} {f : HsF} {Q : Hnd → Sto → Prop} (h : XHs f env fun hs e => XO (hGets e hs) fun os => XO (op os) fun z => Q (.tmp z) e) : XE (vCallB op f) env Q := by
  obtain ⟨a, e, h1, x, h3, z, h5, q⟩ := h
  exact ⟨_, _, by simp only [vCallB, h1, Option.bind_some, h3, h5], q⟩
theorem xe_call {F : FF} {f : HsF} {Q : Hnd → Sto → Prop} (h : XHs f env fun hs e => XO (hGets e hs) fun os => lendOk e hs os = true ∧ XO (F os) fun p => p.2.length = os.length ∧ XO (resH hs os p.2 p.1) fun r => Q r (wb e hs os p.2)) : XE (vCall F f) env Q := by
  obtain ⟨hs, e, h1, os, h3, h4, p, h5, h6, r, h7, q⟩ := h
  exact ⟨_, _, by simp only [vCall, h1, Option.bind_some, h3, h4, h5, h6, h7, if_true], q⟩
theorem xp_no {Q : Option Int → Sto → Prop} (q : Q none env) : XP vNoP env Q := ⟨_, _, rfl, q⟩
theorem xp_some {Q : Option Int → Sto → Prop} (h : XE fa env fun a e => XO (hGet e a) fun x => XO (asI x) fun b => Q (some b) e) : XP (vP fa) env Q := by
  obtain ⟨a, e, h1, x, h3, z, h5, q⟩ := h
  exact ⟨_, _, by simp only [vP, h1, Option.bind_some, h3, h5], q⟩
theorem xe_sl {l u : OF} {Q : Hnd → Sto → Prop} (h : XE fa env fun a e => XP l e fun lo e1 => XP u e1 fun hi e2 => XO (hGet e2 a) fun x => XO (oSl x lo hi) fun z => Q (.tmp z) e2) : XE (vSl fa l u) env Q := by
  obtain ⟨a, e, h1, lo, e1, h2, hi, e2, h3, x, h4, z, h5, q⟩ := h
  exact ⟨_, _, by simp only [vSl, h1, Option.bind_some, h2, h3, h4, h5], q⟩
theorem xe_mt {T : String} {m : List D → O → Option (D × O)} {f : DsF} {Q : Hnd → Sto → Prop} (hk : kindS env i = T) (h : XDs f env fun ds e => XO (mutS e i (m ds)) fun p => Q (.tmp (.shr p.1)) p.2) : XE (vMt i T m f) env Q := by
  obtain ⟨ds, e, h1, p, h2, q⟩ := h
  exact ⟨_, _, by simp only [vMt, if_pos hk, h1, Option.bind_some, h2], q⟩
/-! statements -/
theorem xs_nil {Q : Out → Prop} (q : Q (.nx env)) : XS sNil env Q := ⟨_, rfl, q⟩
theorem xs_seq {f g : SF} {Q : Out → Prop} (h : XS f env fun o => match o with
    | .nx e => XS g e Q
    | o => Q o) : XS (sSeq f g) env Q := by
  obtain ⟨o, h1, q⟩ := h
  cases o with
  | nx e =>
    obtain ⟨o', h2, q⟩ := q
    exact ⟨o', by simp only [sSeq, h1, Option.bind_some]; exact h2, q⟩
  | rt r e => exact ⟨_, by simp only [sSeq, h1, Option.bind_some], q⟩
  | bk e => exact ⟨_, by simp only [sSeq, h1, Option.bind_some], q⟩
  | ct e => exact ⟨_, by simp only [sSeq, h1, Option.bind_some], q⟩
theorem xs_set {Q : Out → Prop} (h : XE fa env fun a e => XO (bindH i a e) fun e' => Q (.nx e')) : XS (sSet i fa) env Q := by
  obtain ⟨a, e, h1, e', h2, q⟩ := h
  exact ⟨_, by simp only [sSet, h1, Option.bind_some, h2], q⟩
theorem xs_asg {f : DF} {g : GF} {Q : Out → Prop} (h : XD f env fun d e => XO (g d e) fun e' => Q (.nx e')) : XS (sAsg f g) env Q := by
  obtain ⟨a, e, h1, e', h2, q⟩ := h
  exact ⟨_, by simp only [sAsg, h1, Option.bind_some, h2], q⟩
theorem xs_par {j : Nat} {f : DsF} {Q : Out → Prop} (h : XDs f env fun ds e => match ds with
    | [a, b] => XO (setS e i (.shr a)) fun e1 => XO (setS e1 j (.shr b)) fun e2 => Q (.nx e2)
    | _ => False) : XS (sPar i j f) env Q := by
  obtain ⟨ds, e, h1, q⟩ := h
  match ds, q with
  | [a, b], q =>
    obtain ⟨e1, h2, e2, h3, q⟩ := q
    exact ⟨_, by simp only [sPar, h1, Option.bind_some, h2, h3], q⟩
theorem xs_drop {Q : Out → Prop} (h : XE fa env fun a e => Q (.nx e)) : XS (sDrop fa) env Q := by
  obtain ⟨a, e, h1, q⟩ := h
  exact ⟨_, by simp only [sDrop, h1, Option.bind_some], q⟩
theorem xs_ret {Q : Out → Prop} (h : XE fa env fun a e => XO (retH a e) Q) : XS (sRet fa) env Q := by
  obtain ⟨a, e, h1, x, h2, q⟩ := h
  exact ⟨_, by simp only [sRet, h1, Option.bind_some, h2], q⟩
theorem xs_retN {Q : Out → Prop} (q : Q (.rt (.o (.shr .non)) env)) : XS sRetN env Q := ⟨_, rfl, q⟩
theorem xs_if {c : BF} {f g : SF} {Q : Out → Prop} (h : XB c env fun b e => (b = true → XS f e Q) ∧ (b = false → XS g e Q)) : XS (sIf c f g) env Q := by
  obtain ⟨b, e, h1, h2, h3⟩ := h
  cases b with
  | true =>
    obtain ⟨o, h4, q⟩ := h2 rfl
    exact ⟨o, by simp only [sIf, h1, Option.bind_some, if_true]; exact h4, q⟩
  | false =>
    obtain ⟨o, h4, q⟩ := h3 rfl
    exact ⟨o, by simp only [sIf, h1, Option.bind_some, Bool.false_eq_true, if_false]; exact h4, q⟩
theorem xs_brk {Q : Out → Prop} (q : Q (.bk env)) : XS sBrk env Q := ⟨_, rfl, q⟩
theorem xs_cont {Q : Out → Prop} (q : Q (.ct env)) : XS sCont env Q := ⟨_, rfl, q⟩
theorem xs_setIx {fv : DF} {fi : EF} {Q : Out → Prop} (h : XD fv env fun d e => kindS e i = "list" ∧ XE fi e fun a e1 => XO (hGet e1 a) fun x => XO (asI x) fun k => XO (mutS e1 i (setL k d)) fun w => Q (.nx w.2)) : XS (sSetIx i fv fi) env Q := by
  obtain ⟨d, e, h1, hk, a, e1, h2, x, h3, k, h4, w, h5, q⟩ := h
  exact ⟨_, by simp only [sSetIx, h1, Option.bind_some, if_pos hk, h2, h3, h4, h5], q⟩
theorem xs_augIx {fi fe : EF} {op : O → O → Option O} {Q : Out → Prop} (hk : kindS env i = "list") (h : XE fi env fun a e => XO (hGet e a) fun x => XO (asI x) fun k => XO (hGet e (.var i)) fun ol => XO (asL ol) fun ds => XO (atI ds k) fun d =>
    XE fe e fun b e1 => XO (hGet e1 b) fun y => XO (op (.shr d) y) fun z => ∃ dz, z = .shr dz ∧ XO (mutS e1 i (setL k dz)) fun w => Q (.nx w.2)) : XS (sAugIx i fi op fe) env Q := by
  obtain ⟨a, e, h1, x, h2, k, h3, ol, h4, ds, h5, d, h6, b, e1, h7, y, h8, z, h9, dz, rfl, w, h10, q⟩ := h
  exact ⟨_, by simp only [sAugIx, h1, Option.bind_some, if_pos hk, h2, h3, h4, h5, h6, h7, h8, h9, h10], q⟩
theorem xs_aug {fe : EF} {op : O → O → Option O} {Q : Out → Prop} (h : XO (hGet env (.var i)) fun x => ∃ d, x = .shr d ∧ XE fe env fun b e1 => XO (hGet e1 b) fun y => XO (op (.shr d) y) fun z => XO (bindH i (.tmp z) e1) fun e2 => Q (.nx e2)) : XS (sAug i op fe) env Q := by
  obtain ⟨x, h1, d, rfl, b, e1, h2, y, h3, z, h4, e2, h5, q⟩ := h
  exact ⟨_, by simp only [sAug, h1, Option.bind_some, h2, h3, h4, h5], q⟩
/-! loops -/
def XL (g : GF) (b : SF) (ds : List D) (env : Sto) (Q : Out → Prop) : Prop := ∃ o, loopF g b ds env = some o ∧ Q o
theorem xs_for {fi : IF} {g : GF} {b : SF} {Q : Out → Prop} (h : XI fi env fun ds l e => XL g b ds (lockS e l) fun o => Q (unlockO l o)) : XS (sFor fi g b) env Q := by
  obtain ⟨ds, l, e, h1, o, h2, q⟩ := h
  exact ⟨_, by simp only [sFor, h1, Option.bind_some, h2], q⟩
theorem xl_nil {g : GF} {b : SF} {Q : Out → Prop} (q : Q (.nx env)) : XL g b [] env Q := ⟨_, rfl, q⟩
theorem xl_cons {g : GF} {b : SF} {ds : List D} {Q : Out → Prop} (h : XO (g d env) fun e => XS b e fun o => match o with
    | .nx e' => XL g b ds e' Q
    | .ct e' => XL g b ds e' Q
    | .bk e' => Q (.nx e')
    | .rt x e' => Q (.rt x e')) : XL g b (d :: ds) env Q := by
  obtain ⟨e, h1, o, h2, q⟩ := h
  cases o with
  | nx e' => obtain ⟨o', h3, q⟩ := q; exact ⟨o', by simp only [loopF, h1, Option.bind_some, h2]; exact h3, q⟩
  | ct e' => obtain ⟨o', h3, q⟩ := q; exact ⟨o', by simp only [loopF, h1, Option.bind_some, h2]; exact h3, q⟩
  | bk e' => exact ⟨_, by simp only [loopF, h1, Option.bind_some, h2], q⟩
  | rt x e' => exact ⟨_, by simp only [loopF, h1, Option.bind_some, h2], q⟩
/-- by what holds ahead of each turn, of what is left -/
theorem xl_inv {g : GF} {b : SF} {Q : Out → Prop} (I : List D → Sto → Prop) (hd : ∀ e, I [] e → Q (.nx e)) (hs : ∀ d r e, I (d :: r) e → XO (g d e) fun e1 => XS b e1 fun o => match o with
    | .nx e' => I r e'
    | .ct e' => I r e'
    | .bk e' => Q (.nx e')
    | .rt x e' => Q (.rt x e')) : ∀ (ds : List D) (env : Sto), I ds env → XL g b ds env Q
  | [], e, h => xl_nil (hd e h)
  | d :: r, e, h => by
    refine xl_cons ((hs d r e h).mono fun e1 h1 => h1.mono fun o h2 => ?_)
    cases o with
    | nx e' => exact xl_inv I hd hs r e' h2
    | ct e' => exact xl_inv I hd hs r e' h2
    | bk e' => exact h2
    | rt x e' => exact h2
theorem xi_r1 {f : HsF} {Q : List D → Option (Nat × Slot) → Sto → Prop} (h : XHs f env fun hs e => XO (hGets e hs) fun os => ∃ j, os = [.shr (.int j)] ∧ inR j = true ∧ Q ((List.range j.toNat).map fun (k : Nat) => D.int (k : Int)) none e) : XI (iR1 f) env Q := by
  obtain ⟨hs, e, h1, os, h2, j, rfl, h3, q⟩ := h
  exact ⟨_, _, _, by simp only [iR1, h1, Option.bind_some, h2, asI, h3, if_true], q⟩
theorem xi_r2 {f : HsF} {Q : List D → Option (Nat × Slot) → Sto → Prop} (h : XHs f env fun hs e => XO (hGets e hs) fun os => ∃ i j, os = [.shr (.int i), .shr (.int j)] ∧ inR i = true ∧ inR j = true ∧ Q ((List.range (j - i).toNat).map fun (k : Nat) => D.int (i + (k : Int))) none e) : XI (iR2 f) env Q := by
  obtain ⟨hs, e, h1, os, h2, i, j, rfl, h3, h4, q⟩ := h
  exact ⟨_, _, _, by simp only [iR2, h1, Option.bind_some, h2, asI, h3, h4, Bool.and_true, if_true], q⟩
theorem xi_seq {Q : List D → Option (Nat × Slot) → Sto → Prop} (h : XE fa env fun a e => XO (hGet e a) fun x => XO ((asLQ x).or (asT x)) fun ds => Q ds (lkOf e a) e) : XI (iSeq fa) env Q := by
  obtain ⟨a, e, h1, x, h2, ds, h3, q⟩ := h
  exact ⟨_, _, _, by simp only [iSeq, h1, Option.bind_some, h2, h3], q⟩
/-! comprehensions -/
def XC (g : GF) (c : BF) (f : DF) (vs : List Nat) (ds acc : List D) (env : Sto) (Q : List D → Sto → Prop) : Prop := ∃ a e, loopC g c f vs ds acc env = some (a, e) ∧ Q a e
theorem xe_lc {fi : IF} {g : GF} {c : BF} {f : DF} {vs : List Nat} {Q : Hnd → Sto → Prop} (h : XI fi env fun ds l e => XC g c f vs ds [] (wipeE (lockS e l) vs) fun acc e2 => Q (.tmp (.ol acc)) (unlockS (restE e2 (lockS e l) vs) l)) : XE (vLc fi g c f vs) env Q := by
  obtain ⟨ds, l, e, h1, acc, e2, h2, q⟩ := h
  exact ⟨_, _, by simp only [vLc, h1, Option.bind_some, h2], q⟩
theorem xc_nil {g : GF} {c : BF} {f : DF} {vs : List Nat} {acc : List D} {Q : List D → Sto → Prop} (q : Q acc env) : XC g c f vs [] acc env Q := ⟨_, _, rfl, q⟩
theorem xc_cons {g : GF} {c : BF} {f : DF} {vs : List Nat} {ds acc : List D} {Q : List D → Sto → Prop} (h : XO (g d env) fun e1 => XB c e1 fun b e2 => (b = true → XD f e2 fun y e3 => acc.length < 1000000 ∧ XC g c f vs ds (acc ++ [y]) (wipeE e3 vs) Q) ∧ (b = false → XC g c f vs ds acc (wipeE e2 vs) Q)) : XC g c f vs (d :: ds) acc env Q := by
  obtain ⟨e1, h1, b, e2, h2, h3, h4⟩ := h
  cases b with
  | true =>
    obtain ⟨y, e3, h5, h6, a, e, h7, q⟩ := h3 rfl
    exact ⟨a, e, by simp only [loopC, h1, Option.bind_some, h2, if_true, h5, if_pos h6]; exact h7, q⟩
  | false =>
    obtain ⟨a, e, h7, q⟩ := h4 rfl
    exact ⟨a, e, by simp only [loopC, h1, Option.bind_some, h2, Bool.false_eq_true, if_false]; exact h7, q⟩
theorem xc_inv {g : GF} {c : BF} {f : DF} {vs : List Nat} {Q : List D → Sto → Prop} (I : List D → List D → Sto → Prop) (hd : ∀ acc e, I [] acc e → Q acc e)
    (hs : ∀ d r acc e, I (d :: r) acc e → XO (g d e) fun e1 => XB c e1 fun b e2 => (b = true → XD f e2 fun y e3 => acc.length < 1000000 ∧ I r (acc ++ [y]) (wipeE e3 vs)) ∧ (b = false → I r acc (wipeE e2 vs))) : ∀ (ds acc : List D) (env : Sto), I ds acc env → XC g c f vs ds acc env Q
  | [], acc, e, h => xc_nil (hd acc e h)
  | d :: r, acc, e, h => by
    refine xc_cons ((hs d r acc e h).mono fun e1 h1 => ?_)
    obtain ⟨b, e2, h2, h3, h4⟩ := h1
    refine ⟨b, e2, h2, fun hb => ?_, fun hb => xc_inv I hd hs r acc _ (h4 hb)⟩
    obtain ⟨y, e3, h5, h6, h7⟩ := h3 hb
    exact ⟨y, e3, h5, h6, xc_inv I hd hs r _ _ h7⟩
/-! a def -/
theorem xf {n m : Nat} {f : SF} {os : List O} {Q : Rs × List O → Prop} (hl : os.length = m) (h : XS f (initE n os) fun o => match o with
    | .rt r e => Q (r, (e.take m).map contO)
    | .nx e => Q (.o (.shr .non), (e.take m).map contO)
    | _ => False) : XO (defF n m f os) Q := by
  obtain ⟨o, h1, q⟩ := h
  cases o with
  | rt r e => exact ⟨_, by simp only [defF, if_pos hl, h1], q⟩
  | nx e => exact ⟨_, by simp only [defF, if_pos hl, h1], q⟩
  | bk e => exact q.elim
  | ct e => exact q.elim
/-! operations on values -/
variable {Q : O → Prop} {a b : Int} {x y : Str}
theorem xo_addI (q : Q (.shr (.int (a + b)))) : XO (oAdd (.shr (.int a)) (.shr (.int b))) Q := ⟨_, rfl, q⟩
theorem xo_addI' (q : Q (.shr (.int (a + b)))) : XO (oAddI (.shr (.int a)) (.shr (.int b))) Q := ⟨_, rfl, q⟩
theorem xo_addS (h : x.length + y.length ≤ 1000000) (q : Q (.shr (.str (x ++ y)))) : XO (oAdd (.shr (.str x)) (.shr (.str y))) Q := ⟨_, by simp only [oAdd, oAddI, oI2, asI, oAddS, asS, Option.bind_some, Option.bind_none, Option.none_or, if_pos h, Option.some_or], q⟩
theorem xo_addL {ds es : List D} (h : ds.length + es.length ≤ 1000000) (q : Q (.ol (ds ++ es))) : XO (oAdd (.ol ds) (.ol es)) Q := ⟨_, by simp only [oAdd, oAddI, oI2, asI, oAddS, asS, oAddL, asL, Option.bind_some, Option.bind_none, Option.none_or, if_pos h, Option.some_or], q⟩
theorem xo_addT {ds es : List D} (h : ds ≠ [] ∧ es ≠ [] ∧ ds.length + es.length ≤ 1000000) (q : Q (.shr (.tup (ds ++ es)))) : XO (oAdd (.shr (.tup ds)) (.shr (.tup es))) Q := ⟨_, by simp only [oAdd, oAddI, oI2, asI, oAddS, asS, oAddL, asL, oAddT, asT, Option.bind_some, Option.bind_none, Option.none_or, if_pos h, Option.some_or], q⟩
theorem xo_sub (q : Q (.shr (.int (a - b)))) : XO (oSub (.shr (.int a)) (.shr (.int b))) Q := ⟨_, rfl, q⟩
theorem xo_mul (h : CMulG a b) (q : Q (.shr (.int (a * b)))) : XO (oMul (.shr (.int a)) (.shr (.int b))) Q := ⟨_, by simp only [oMul, oI2, asI, Option.bind_some, if_pos h, Option.map_some], q⟩
theorem xo_div (h : CDivG a b) (q : Q (.shr (.int (a.fdiv b)))) : XO (oDiv (.shr (.int a)) (.shr (.int b))) Q := ⟨_, by simp only [oDiv, oI2, asI, Option.bind_some, if_pos h, Option.map_some], q⟩
theorem xo_mod (h : b ≠ 0) (q : Q (.shr (.int (a.fmod b)))) : XO (oMod (.shr (.int a)) (.shr (.int b))) Q := ⟨_, by simp only [oMod, oI2, asI, Option.bind_some, if_pos h, Option.map_some], q⟩
theorem xo_pow (h : CPow a b) (q : Q (.shr (.int (a ^ b.toNat)))) : XO (oPow (.shr (.int a)) (.shr (.int b))) Q := ⟨_, by simp only [oPow, oI2, asI, Option.bind_some, if_pos h, Option.map_some], q⟩
theorem xo_lt (q : Q (.shr (.bl (decide (a < b))))) : XO (oLt (.shr (.int a)) (.shr (.int b))) Q := ⟨_, rfl, q⟩
theorem xo_le (q : Q (.shr (.bl (decide (a ≤ b))))) : XO (oLe (.shr (.int a)) (.shr (.int b))) Q := ⟨_, rfl, q⟩
theorem xo_gt (q : Q (.shr (.bl (decide (b < a))))) : XO (oGt (.shr (.int a)) (.shr (.int b))) Q := ⟨_, rfl, q⟩
theorem xo_ge (q : Q (.shr (.bl (decide (b ≤ a))))) : XO (oGe (.shr (.int a)) (.shr (.int b))) Q := ⟨_, rfl, q⟩
theorem xo_neg (q : Q (.shr (.int (-a)))) : XO (oNeg (.shr (.int a))) Q := ⟨_, rfl, q⟩
theorem eqO_int : eqO (.shr (.int a)) (.shr (.int b)) = some (decide (a = b)) := by
  have e : decide (V.int a = V.int b) = decide (a = b) := by
    by_cases h : a = b
    · rw [h]; simp
    · rw [decide_eq_false h, decide_eq_false fun z => h (V.int.inj z)]
  simp only [eqO, asF, flat?, Option.bind_some, eqS, scal, if_true, e, Option.some_or]
theorem eqO_str : eqO (.shr (.str x)) (.shr (.str y)) = some (decide (x = y)) := by
  have e : decide (V.str x = V.str y) = decide (x = y) := by
    by_cases h : x = y
    · rw [h]; simp
    · rw [decide_eq_false h, decide_eq_false fun z => h (V.str.inj z)]
  simp only [eqO, asF, flat?, Option.bind_some, eqS, scal, if_true, e, Option.some_or]
theorem xo_eq {ox oy : O} {c : Bool} (h : eqO ox oy = some c) (q : Q (.shr (.bl c))) : XO (oEq ox oy) Q := ⟨_, by rw [oEq, h]; rfl, q⟩
theorem xo_ne {ox oy : O} {c : Bool} (h : eqO ox oy = some c) (q : Q (.shr (.bl (!c)))) : XO (oNe ox oy) Q := ⟨_, by rw [oNe, h]; rfl, q⟩
theorem xo_ix {ox : O} {ds : List D} {e : D} (h1 : asQ ox = some ds) (h2 : atI ds a = some e) (q : Q (.shr e)) : XO (oIx ox (.shr (.int a))) Q := ⟨_, by simp only [oIx, asI, Option.bind_some, h1, h2, Option.map_some, Option.some_or], q⟩
theorem xo_ixS {c : Nat} (hl : x.length ≤ 1000000) (h2 : atI x.cps.toList a = some c) (q : Q (.shr (.str ⟨#[c]⟩))) : XO (oIx (.shr (.str x)) (.shr (.int a))) Q := ⟨_, by simp only [oIx, asI, Option.bind_some, asQ, asS, Option.bind_none, Option.none_or, if_pos hl, h2, Option.map_some], q⟩
theorem xo_len {ox : O} {ds : List D} (h1 : asQ ox = some ds) (q : Q (.shr (.int ds.length))) : XO (oLen [ox]) Q := ⟨_, by simp only [oLen, one1, h1, Option.map_some, Option.some_or], q⟩
theorem xo_lenS (hl : x.length ≤ 1000000) (q : Q (.shr (.int x.length))) : XO (oLen [.shr (.str x)]) Q := ⟨_, by simp only [oLen, one1, asQ, asS, Option.bind_some, Option.map_none, Option.none_or, if_pos hl, Option.some_or], q⟩
theorem xo_intI (q : Q (.shr (.int a))) : XO (oInt [.shr (.int a)]) Q := ⟨_, rfl, q⟩
theorem xo_intB {c : Bool} (q : Q (.shr (.int (if c then 1 else 0)))) : XO (oInt [.shr (.bl c)]) Q := ⟨_, rfl, q⟩
theorem xo_intS (hl : x.length ≤ 640) (h : PySem.intText? x = some a) (q : Q (.shr (.int a))) : XO (oInt [.shr (.str x)]) Q := ⟨_, by simp only [oInt, oInt1, one1, oIntS, asS, Option.bind_some, Option.none_or, if_pos hl, h, Option.map_some], q⟩
theorem xo_str (h : a.natAbs.log2 < 1920) (q : Q (.shr (.str (toString a)))) : XO (oStr [.shr (.int a)]) Q := ⟨_, by simp only [oStr, one1, asI, Option.bind_some, if_pos h], q⟩
theorem xo_abs (q : Q (.shr (.int (if a < 0 then -a else a)))) : XO (oAbs [.shr (.int a)]) Q := ⟨_, rfl, q⟩
theorem xo_max (q : Q (.shr (.int (if b > a then b else a)))) : XO (oMax [.shr (.int a), .shr (.int b)]) Q := ⟨_, rfl, q⟩
theorem xo_min (q : Q (.shr (.int (if b < a then b else a)))) : XO (oMin [.shr (.int a), .shr (.int b)]) Q := ⟨_, rfl, q⟩
theorem xo_list {ox : O} {ds : List D} (h1 : asQ ox = some ds) (q : Q (.ol ds)) : XO (oList [ox]) Q := ⟨_, by simp only [oList, one1, h1, Option.map_some], q⟩
theorem xo_sum {ox : O} {ds : List D} {ns : List Int} (h1 : asLQ ox = some ds) (h2 : asInts ds = some ns) (q : Q (.shr (.int ns.sum))) : XO (oSum [ox]) Q := ⟨_, by simp only [oSum, one1, h1, h2, Option.bind_some, Option.map_some], q⟩
theorem xo_all {ox : O} {ds : List D} {ns : List Bool} (h1 : asLQ ox = some ds) (h2 : asBls ds = some ns) (q : Q (.shr (.bl (ns.all id)))) : XO (oAll [ox]) Q := ⟨_, by simp only [oAll, one1, h1, h2, Option.bind_some, Option.map_some], q⟩
theorem xo_any {ox : O} {ds : List D} {ns : List Bool} (h1 : asLQ ox = some ds) (h2 : asBls ds = some ns) (q : Q (.shr (.bl (ns.any id)))) : XO (oAny [ox]) Q := ⟨_, by simp only [oAny, one1, h1, h2, Option.bind_some, Option.map_some], q⟩
theorem xo_isi {ox : O} {t : Option Ty} {n : String} {c : Ty} (h1 : tyO ox = some t) (hn : n = c.name) (q : Q (.shr (.bl (isTy t c)))) : XO (oIsi [ox, .shr (.opq (.ty n))]) Q := by
  subst hn
  refine ⟨_, ?_, q⟩
  cases c <;> simp only [oIsi, two2, h1, Option.bind_some, Ty.name]
end
end PV

set_option maxRecDepth 100000
set_option maxHeartbeats 2000000
namespace PV
open PySem L2
/-! ### slots, by steps that compute -/
inductive At : Sto → Nat → O → Bool → Bool → Prop
  | z {o : O} {p l : Bool} {e : Sto} : At (some ⟨o, p, l⟩ :: e) 0 o p l
  | s {x : Option Slot} {e : Sto} {i : Nat} {o : O} {p l : Bool} : At e i o p l → At (x :: e) (i + 1) o p l
theorem At.at {e : Sto} {i : Nat} {o : O} {p l : Bool} (h : At e i o p l) : e[i]? = some (some ⟨o, p, l⟩) := by
  induction h with
  | z => rfl
  | s _ ih => exact ih
inductive Slt : Sto → Nat → Option Slot → Prop
  | z {x : Option Slot} {e : Sto} : Slt (x :: e) 0 x
  | s {x y : Option Slot} {e : Sto} {i : Nat} : Slt e i y → Slt (x :: e) (i + 1) y
theorem Slt.at {e : Sto} {i : Nat} {x : Option Slot} (h : Slt e i x) : e.getD i none = x := by
  induction h with
  | z => rfl
  | s _ ih => exact ih
inductive SetAt : Sto → Nat → Option Slot → Sto → Prop
  | z {x y : Option Slot} {e : Sto} : SetAt (x :: e) 0 y (y :: e)
  | s {x y : Option Slot} {e e' : Sto} {i : Nat} : SetAt e i y e' → SetAt (x :: e) (i + 1) y (x :: e')
theorem SetAt.eq {e e' : Sto} {i : Nat} {x : Option Slot} (h : SetAt e i x e') : e.set i x = e' := by
  induction h with
  | z => rfl
  | s _ ih => exact congrArg _ ih
def Fre' (x : Option Slot) : Prop := x = none ∨ ∃ o, x = some ⟨o, false, false⟩
theorem Fre'.n : Fre' none := .inl rfl
theorem Fre'.s {o : O} : Fre' (some ⟨o, false, false⟩) := .inr ⟨_, rfl⟩
inductive Put : Sto → Nat → O → Sto → Prop
  | n {o : O} {e : Sto} : Put (none :: e) 0 o (some ⟨o, false, false⟩ :: e)
  | z {o o' : O} {e : Sto} : Put (some ⟨o', false, false⟩ :: e) 0 o (some ⟨o, false, false⟩ :: e)
  | f {x : Option Slot} {o : O} {e : Sto} : Fre' x → Put (x :: e) 0 o (some ⟨o, false, false⟩ :: e)
  | s {x : Option Slot} {e e' : Sto} {i : Nat} {o : O} : Put e i o e' → Put (x :: e) (i + 1) o (x :: e')
theorem setS_cons {x : Option Slot} {e : Sto} {i : Nat} {o : O} : setS (x :: e) (i + 1) o = (setS e i o).map (x :: ·) := by
  unfold setS
  rw [List.getElem?_cons_succ]
  cases e[i]? with
  | none => rfl
  | some y =>
    cases y with
    | none => rfl
    | some s => dsimp only; cases s.pin || s.lk <;> rfl
theorem Put.eq {e e' : Sto} {i : Nat} {o : O} (h : Put e i o e') : setS e i o = some e' := by
  induction h with
  | n => rfl
  | z => rfl
  | f h => rcases h with rfl | ⟨o, rfl⟩ <;> rfl
  | s _ ih => rw [setS_cons, ih]; rfl
inductive Chg : Sto → Nat → O → O → Sto → Prop
  | z {o o' : O} {p : Bool} {e : Sto} : Chg (some ⟨o, p, false⟩ :: e) 0 o o' (some ⟨o', p, false⟩ :: e)
  | s {x : Option Slot} {e e' : Sto} {i : Nat} {o o' : O} : Chg e i o o' e' → Chg (x :: e) (i + 1) o o' (x :: e')
theorem Chg.at {e e' : Sto} {i : Nat} {o o' : O} (h : Chg e i o o' e') : ∃ p, e[i]? = some (some ⟨o, p, false⟩) ∧ e' = e.set i (some ⟨o', p, false⟩) := by
  induction h with
  | z => exact ⟨_, rfl, rfl⟩
  | s _ ih => obtain ⟨p, h1, h2⟩ := ih; exact ⟨p, h1, by rw [h2]; rfl⟩
inductive Fin' : Sto → Nat → List O → Prop
  | z {e : Sto} : Fin' e 0 []
  | s {e : Sto} {o : O} {p l : Bool} {m : Nat} {os : List O} : Fin' e m os → Fin' (some ⟨o, p, l⟩ :: e) (m + 1) (o :: os)
theorem Fin'.eq {e : Sto} {m : Nat} {os : List O} (h : Fin' e m os) : (e.take m).map contO = os := by
  induction h with
  | z => rfl
  | s _ ih => rw [List.take_succ_cons, List.map_cons, ih]; rfl
inductive Ini : Nat → List O → Sto → Prop
  | z : Ini 0 [] []
  | n {m : Nat} {e : Sto} : Ini m [] e → Ini (m + 1) [] (none :: e)
  | shr {m : Nat} {d : D} {os : List O} {e : Sto} : Ini m os e → Ini (m + 1) (.shr d :: os) (some ⟨.shr d, false, false⟩ :: e)
  | ol {m : Nat} {d : List D} {os : List O} {e : Sto} : Ini m os e → Ini (m + 1) (.ol d :: os) (some ⟨.ol d, true, false⟩ :: e)
  | od {m : Nat} {d : List (Key × D)} {os : List O} {e : Sto} : Ini m os e → Ini (m + 1) (.od d :: os) (some ⟨.od d, true, false⟩ :: e)
theorem initE_cons {m : Nat} {o : O} {os : List O} : initE (m + 1) (o :: os) = some { o := o, pin := o.own } :: initE m os := by
  unfold initE
  rw [List.length_cons, Nat.add_sub_add_right]; rfl
theorem Ini.eq {m : Nat} {os : List O} {e : Sto} (h : Ini m os e) : initE m os = e := by
  induction h with
  | z => rfl
  | n _ ih => rw [← ih]; rfl
  | shr _ ih => rw [initE_cons, ih]; rfl
  | ol _ ih => rw [initE_cons, ih]; rfl
  | od _ ih => rw [initE_cons, ih]; rfl
inductive Wb : Sto → List Hnd → List O → List O → Sto → Prop
  | nil {e : Sto} : Wb e [] [] [] e
  | tmp {e e' : Sto} {hs : List Hnd} {os fs : List O} {t x f : O} : Wb e hs os fs e' → Wb e (.tmp t :: hs) (x :: os) (f :: fs) e'
  | shr {e e' : Sto} {hs : List Hnd} {os fs : List O} {j : Nat} {d : D} {f : O} : Wb e hs os fs e' → Wb e (.var j :: hs) (.shr d :: os) (f :: fs) e'
  | ol {e e1 e' : Sto} {hs : List Hnd} {os fs : List O} {j : Nat} {x : List D} {f y : O} : Wb e hs os fs e1 → Chg e1 j y f e' → lent j hs os = false → Wb e (.var j :: hs) (.ol x :: os) (f :: fs) e'
  | od {e e1 e' : Sto} {hs : List Hnd} {os fs : List O} {j : Nat} {x : List (Key × D)} {f y : O} : Wb e hs os fs e1 → Chg e1 j y f e' → lent j hs os = false → Wb e (.var j :: hs) (.od x :: os) (f :: fs) e'
theorem Wb.ol' {e e1 e' : Sto} {hs : List Hnd} {os fs : List O} {j : Nat} {x : List D} {f y : O} (l : lent j hs os = false) (h : Wb e hs os fs e1) (c : Chg e1 j y f e') : Wb e (.var j :: hs) (.ol x :: os) (f :: fs) e' := .ol h c l
theorem Wb.od' {e e1 e' : Sto} {hs : List Hnd} {os fs : List O} {j : Nat} {x : List (Key × D)} {f y : O} (l : lent j hs os = false) (h : Wb e hs os fs e1) (c : Chg e1 j y f e') : Wb e (.var j :: hs) (.od x :: os) (f :: fs) e' := .od h c l
theorem fnd_lent {j : Nat} : ∀ {hs : List Hnd} {os fs : List O}, lent j hs os = false → fnd j hs os fs = none
  | [], _, _, _ => by unfold fnd; rfl
  | .tmp t :: hs, [], _, h => by unfold fnd; rfl
  | .var i :: hs, [], _, h => by unfold fnd; rfl
  | .tmp t :: hs, _ :: _, [], h => by unfold fnd; rfl
  | .var i :: hs, _ :: _, [], h => by unfold fnd; rfl
  | .tmp t :: hs, o :: os, f :: fs, h => by
    unfold fnd
    unfold lent at h
    exact fnd_lent h
  | .var i :: hs, o :: os, f :: fs, h => by
    unfold fnd
    unfold lent at h
    rw [Bool.or_eq_false_iff] at h
    have h1 := h.1
    rw [if_neg, fnd_lent h.2]
    rintro ⟨e, w⟩
    rw [decide_eq_true e, w] at h1
    cases h1
theorem wb_own {e e1 e' : Sto} {hs : List Hnd} {os fs : List O} {j : Nat} {x f y : O} (hx : x.own = true) (ih : wb e hs os fs = e1) (c : Chg e1 j y f e') (hl : lent j hs os = false) : wb e (.var j :: hs) (x :: os) (f :: fs) = e' := by
  obtain ⟨p, h1, rfl⟩ := c.at
  subst ih
  apply List.ext_getElem?
  intro i
  rw [wb, List.getElem?_set]
  have hlen : (wb e hs os fs).length = e.length := by rw [wb, List.length_mapIdx]
  by_cases hji : j = i
  · subst hji
    have hlt : j < (wb e hs os fs).length := (List.getElem?_eq_some_iff.mp h1).1
    rw [if_pos rfl, if_pos hlt, List.getElem?_mapIdx]
    rw [wb, List.getElem?_mapIdx] at h1
    cases he : e[j]? with
    | none => rw [he] at h1; cases h1
    | some z =>
      rw [he] at h1
      cases z with
      | none => cases h1
      | some s =>
        simp only [Option.map_some, fnd_lent hl, Option.some.injEq] at h1
        subst h1
        simp only [Option.map_some, fnd, hx, and_self, if_true]
  · rw [if_neg hji, List.getElem?_mapIdx, wb, List.getElem?_mapIdx]
    have : fnd i (.var j :: hs) (x :: os) (f :: fs) = fnd i hs os fs := by
      rw [fnd, if_neg fun z => hji z.1]
    rw [this]
theorem Wb.eq {e e' : Sto} {hs : List Hnd} {os fs : List O} (h : Wb e hs os fs e') : wb e hs os fs = e' := by
  induction h with
  | @nil =>
    rw [wb]
    apply List.ext_getElem?
    intro i
    rw [List.getElem?_mapIdx]
    generalize (_ : Sto)[i]? = y
    cases y with
    | none => rfl
    | some x => cases x <;> rfl
  | tmp _ ih => rw [← ih, wb, wb]; rfl
  | shr _ ih =>
    rw [← ih, wb, wb]
    congr 1
    funext i x
    rw [fnd, if_neg fun z => by cases z.2]
  | ol _ c l ih => exact wb_own rfl ih c l
  | od _ c l ih => exact wb_own rfl ih c l
section
variable {env env' env1 env2 : Sto} {fa fb : EF} {i j : Nat} {d : D} {o x : O} {s : Slot} {p l : Bool} {ds : List D} {kvs : List (Key × D)}
/-! handles -/
theorem xv {Q : Hnd → Sto → Prop} (h : At env i o p l) (q : Q (.var i) env) : XE (vVar i) env Q := xe_var h.at q
theorem xg_v {Q : O → Prop} (h : At env i o p l) (q : Q o) : XO (hGet env (.var i)) Q := ⟨_, by rw [hGet, h.at], q⟩
theorem xg_t {Q : O → Prop} (q : Q o) : XO (hGet env (.tmp o)) Q := ⟨_, rfl, q⟩
def XT (a : Hnd) (e : Sto) (Q : D → Sto → Prop) : Prop := XO (hTake e a) fun p => Q p.1 p.2
theorem xd {Q : D → Sto → Prop} (h : XE fa env fun a e => XT a e Q) : XD (vTake fa) env Q := xd_take h
theorem xt_s {Q : D → Sto → Prop} (q : Q d env) : XT (.tmp (.shr d)) env Q := ⟨_, rfl, q⟩
theorem xt_l {Q : D → Sto → Prop} (q : Q (.lst ds) env) : XT (.tmp (.ol ds)) env Q := ⟨_, rfl, q⟩
theorem xt_k {Q : D → Sto → Prop} (q : Q (.dk kvs) env) : XT (.tmp (.od kvs)) env Q := ⟨_, rfl, q⟩
theorem xt_vs {Q : D → Sto → Prop} (h : At env i (.shr d) p l) (q : Q d env) : XT (.var i) env Q := ⟨(d, env), by rw [hTake, h.at], q⟩
theorem xt_vl {Q : D → Sto → Prop} (h : Chg env i (.ol ds) (.shr (.lst ds)) env') (q : Q (.lst ds) env') : XT (.var i) env Q := by
  obtain ⟨p, h', rfl⟩ := h.at
  exact ⟨(.lst ds, _), by rw [hTake, h']; rfl, q⟩
theorem xt_vk {Q : D → Sto → Prop} (h : Chg env i (.od kvs) (.shr (.dk kvs)) env') (q : Q (.dk kvs) env') : XT (.var i) env Q := by
  obtain ⟨p, h', rfl⟩ := h.at
  exact ⟨(.dk kvs, _), by rw [hTake, h']; rfl, q⟩
/-! storing -/
def XW (i : Nat) (a : Hnd) (e : Sto) (Q : Sto → Prop) : Prop := XO (bindH i a e) Q
theorem xw_t {Q : Sto → Prop} (h : Put env i o env') (q : Q env') : XW i (.tmp o) env Q := ⟨_, h.eq, q⟩
theorem xw_v {Q : Sto → Prop} (h : XT (.var j) env fun d e => XO (setS e i (.shr d)) Q) : XW i (.var j) env Q := by
  obtain ⟨p, h, e, h2, q⟩ := h
  exact ⟨_, by simp only [bindH, h, Option.bind_some, h2], q⟩
theorem xw_s {Q : Sto → Prop} (h : Put env i o env') (q : Q env') : XO (setS env i o) Q := ⟨_, h.eq, q⟩
theorem xs_set' {Q : Out → Prop} (h : XE fa env fun a e => XW i a e fun e' => Q (.nx e')) : XS (sSet i fa) env Q := xs_set h
/-! handed arguments -/
theorem xh_nil {Q : List O → Prop} (q : Q []) : XO (hGets env []) Q := ⟨_, rfl, q⟩
theorem xh_v {hs : List Hnd} {Q : List O → Prop} (h : At env i o p l) (q : XO (hGets env hs) fun os => Q (o :: os)) : XO (hGets env (.var i :: hs)) Q := by
  obtain ⟨os, h2, q⟩ := q
  exact ⟨_, by simp only [hGets, hGet, h.at, Option.bind_some, h2], q⟩
theorem xh_t {hs : List Hnd} {Q : List O → Prop} (q : XO (hGets env hs) fun os => Q (o :: os)) : XO (hGets env (.tmp o :: hs)) Q := by
  obtain ⟨os, h2, q⟩ := q
  exact ⟨_, by simp only [hGets, hGet, Option.bind_some, h2], q⟩
/-! a call -/
def XK (F : FF) (hs : List Hnd) (os : List O) (e : Sto) (Q : Hnd → Sto → Prop) : Prop := XO (F os) fun p => p.2.length = os.length ∧ XO (resH hs os p.2 p.1) fun r => Q r (wb e hs os p.2)
theorem xe_call' {F : FF} {f : HsF} {Q : Hnd → Sto → Prop} (h : XHs f env fun hs e => XO (hGets e hs) fun os => lendOk e hs os = true ∧ XK F hs os e Q) : XE (vCall F f) env Q := xe_call h
/-- F os, as what it leaves -/
def XF (F : FF) (os : List O) (Q : Rs → List O → Prop) : Prop := XO (F os) fun p => Q p.1 p.2
theorem XF.mk' {F : FF} {os fs : List O} {r : Rs} {Q : Rs → List O → Prop} (h : F os = some (r, fs)) (q : Q r fs) : XF F os Q := ⟨_, h, q⟩
theorem XF.mono {F : FF} {os : List O} {Q Q' : Rs → List O → Prop} (h : XF F os Q) (k : ∀ r fs, Q r fs → Q' r fs) : XF F os Q' := let ⟨x, e, q⟩ := h; ⟨x, e, k _ _ q⟩
theorem xk {F : FF} {hs : List Hnd} {os : List O} {e : Sto} {Q : Hnd → Sto → Prop} (h : XF F os fun r fs => XO (resH hs os fs r) fun a => ∃ e', Wb e hs os fs e' ∧ fs.length = os.length ∧ Q a e') : XK F hs os e Q := by
  obtain ⟨⟨r, fs⟩, h1, a, h2, e', h3, h4, q⟩ := h
  exact ⟨_, h1, h4, a, h2, by rw [h3.eq]; exact q⟩
theorem xr_o {hs : List Hnd} {os fs : List O} {Q : Hnd → Prop} (q : Q (.tmp o)) : XO (resH hs os fs (.o o)) Q := ⟨_, rfl, q⟩
/-! what follows -/
def seqQ (g : SF) (Q : Out → Prop) : Out → Prop
  | .nx e => XS g e Q
  | o => Q o
theorem xs_seq' {f g : SF} {Q : Out → Prop} (h : XS f env (seqQ g Q)) : XS (sSeq f g) env Q := by
  refine xs_seq (h.mono fun o q => ?_)
  cases o <;> exact q
theorem seq_nx {g : SF} {Q : Out → Prop} (q : XS g env Q) : seqQ g Q (.nx env) := q
theorem seq_rt {g : SF} {r : Rs} {Q : Out → Prop} (q : Q (.rt r env)) : seqQ g Q (.rt r env) := q
theorem seq_bk {g : SF} {Q : Out → Prop} (q : Q (.bk env)) : seqQ g Q (.bk env) := q
theorem seq_ct {g : SF} {Q : Out → Prop} (q : Q (.ct env)) : seqQ g Q (.ct env) := q
/-- after one turn: I what must hold ahead of the next, Q what holds after the loop -/
def turnQ (I : Sto → Prop) (Q : Out → Prop) : Out → Prop
  | .nx e => I e
  | .ct e => I e
  | .bk e => Q (.nx e)
  | .rt x e => Q (.rt x e)
theorem turn_nx {I : Sto → Prop} {Q : Out → Prop} (q : I env) : turnQ I Q (.nx env) := q
theorem turn_ct {I : Sto → Prop} {Q : Out → Prop} (q : I env) : turnQ I Q (.ct env) := q
theorem turn_bk {I : Sto → Prop} {Q : Out → Prop} (q : Q (.nx env)) : turnQ I Q (.bk env) := q
theorem turn_rt {I : Sto → Prop} {r : Rs} {Q : Out → Prop} (q : Q (.rt r env)) : turnQ I Q (.rt r env) := q
theorem xl_nil' {g : GF} {b : SF} {Q : Out → Prop} (q : Q (.nx env)) : XL g b [] env Q := xl_nil q
theorem xl_cons' {g : GF} {b : SF} {Q : Out → Prop} (h : XO (g d env) fun e => XS b e (turnQ (fun e' => XL g b ds e' Q) Q)) : XL g b (d :: ds) env Q := by
  refine xl_cons (h.mono fun e h => h.mono fun o q => ?_)
  cases o <;> exact q
theorem xl_inv' {g : GF} {b : SF} {Q : Out → Prop} (I : List D → Sto → Prop) (h0 : I ds env) (hd : ∀ e, I [] e → Q (.nx e)) (hs : ∀ d r e, I (d :: r) e → XO (g d e) fun e1 => XS b e1 (turnQ (I r) Q)) : XL g b ds env Q :=
  xl_inv I hd (fun d r e h => (hs d r e h).mono fun e1 h1 => h1.mono fun o q => by cases o <;> exact q) ds env h0
def unlQ (l : Option (Nat × Slot)) (Q : Out → Prop) : Out → Prop := fun o => Q (unlockO l o)
theorem unl_n {Q : Out → Prop} {o : Out} (q : Q o) : unlQ none Q o := by cases o <;> exact q
theorem unl_nx {Q : Out → Prop} {i : Nat} {s : Slot} (h : SetAt env i (some s) env') (q : Q (.nx env')) : unlQ (some (i, s)) Q (.nx env) := by
  have := h.eq; subst this; exact q
theorem unl_rt {Q : Out → Prop} {l : Option (Nat × Slot)} {r : Rs} (q : Q (.rt r env)) : unlQ l Q (.rt r env) := q
theorem xs_forN {fi : IF} {g : GF} {b : SF} {Q : Out → Prop} (h : XI fi env fun ds l e => match l with
    | none => XL g b ds e Q
    | some (i, s) => ∃ e', SetAt e i (some { s with lk := true }) e' ∧ XL g b ds e' (unlQ (some (i, s)) Q)) : XS (sFor fi g b) env Q := by
  refine xs_for ?_
  obtain ⟨ds, l, e, h1, h2⟩ := h
  refine ⟨ds, l, e, h1, ?_⟩
  match l, h2 with
  | none, ⟨o, h3, h4⟩ => exact ⟨o, h3, by cases o <;> exact h4⟩
  | some (i, s), ⟨e', h3, o, h4, h5⟩ =>
    have := h3.eq
    subst this
    exact ⟨o, h4, h5⟩
/-! where a loop comes from -/
def XJ (o : O) (Q : List D → Prop) : Prop := XO ((asLQ o).or (asT o)) Q
theorem xj_l {Q : List D → Prop} (q : Q ds) : XJ (.ol ds) Q := ⟨_, rfl, q⟩
theorem xj_ls {Q : List D → Prop} (q : Q ds) : XJ (.shr (.lst ds)) Q := ⟨_, rfl, q⟩
theorem xj_t {Q : List D → Prop} (q : Q ds) : XJ (.shr (.tup ds)) Q := ⟨_, rfl, q⟩
theorem xj_s {ns : List Int} {Q : List D → Prop} (q : Q (ns.map .int)) : XJ (.shr (.scr ns)) Q := ⟨_, rfl, q⟩
def XLk (e : Sto) (a : Hnd) (Q : Option (Nat × Slot) → Prop) : Prop := Q (lkOf e a)
theorem xlk_t {Q : Option (Nat × Slot) → Prop} (q : Q none) : XLk env (.tmp o) Q := q
theorem xlk_s {Q : Option (Nat × Slot) → Prop} (h : At env i (.shr d) p l) (q : Q none) : XLk env (.var i) Q := by
  show Q (lkOf _ _); rw [lkOf, h.at]; exact q
theorem xlk_l {Q : Option (Nat × Slot) → Prop} (h : At env i (.ol ds) p l) (q : Q (some (i, ⟨.ol ds, p, l⟩))) : XLk env (.var i) Q := by
  show Q (lkOf _ _); rw [lkOf, h.at]; exact q
theorem xlk_k {Q : Option (Nat × Slot) → Prop} (h : At env i (.od kvs) p l) (q : Q (some (i, ⟨.od kvs, p, l⟩))) : XLk env (.var i) Q := by
  show Q (lkOf _ _); rw [lkOf, h.at]; exact q
/-- a loop's source -/
def forQ (g : GF) (b : SF) (Q : Out → Prop) (ds : List D) (l : Option (Nat × Slot)) (e : Sto) : Prop := match l with
    | none => XL g b ds e Q
    | some (i, s) => ∃ e', SetAt e i (some { s with lk := true }) e' ∧ XL g b ds e' (unlQ (some (i, s)) Q)
theorem xs_for' {fi : IF} {g : GF} {b : SF} {Q : Out → Prop} (h : XI fi env (forQ g b Q)) : XS (sFor fi g b) env Q := xs_forN h
theorem for_n {g : GF} {b : SF} {Q : Out → Prop} (h : XL g b ds env Q) : forQ g b Q ds none env := h
theorem for_l {g : GF} {b : SF} {Q : Out → Prop} (h1 : SetAt env i (some ⟨o, p, true⟩) env') (h : XL g b ds env' (unlQ (some (i, ⟨o, p, l⟩)) Q)) : forQ g b Q ds (some (i, ⟨o, p, l⟩)) env := ⟨_, h1, h⟩
theorem xi_seq' {Q : List D → Option (Nat × Slot) → Sto → Prop} (h : XE fa env fun a e => XO (hGet e a) fun x => XJ x fun ds => XLk e a fun l => Q ds l e) : XI (iSeq fa) env Q := xi_seq h
def R1 (os : List O) (Q : List D → Prop) : Prop := ∃ j, os = [.shr (.int j)] ∧ inR j = true ∧ Q ((List.range j.toNat).map fun (k : Nat) => D.int (k : Int))
theorem r1 {j : Int} {Q : List D → Prop} (h : -(2 ^ 62) ≤ j ∧ j < 2 ^ 62) (q : Q ((List.range j.toNat).map fun (k : Nat) => D.int (k : Int))) : R1 [.shr (.int j)] Q := ⟨j, rfl, by rw [inR, decide_eq_true h.1, decide_eq_true h.2]; rfl, q⟩
theorem xi_r1' {f : HsF} {Q : List D → Option (Nat × Slot) → Sto → Prop} (h : XHs f env fun hs e => XO (hGets e hs) fun os => R1 os fun ds => Q ds none e) : XI (iR1 f) env Q := xi_r1 h
def R2' (os : List O) (Q : List D → Prop) : Prop := ∃ i j, os = [.shr (.int i), .shr (.int j)] ∧ inR i = true ∧ inR j = true ∧ Q ((List.range (j - i).toNat).map fun (k : Nat) => D.int (i + (k : Int)))
theorem r2 {i j : Int} {Q : List D → Prop} (h : -(2 ^ 62) ≤ i ∧ i < 2 ^ 62 ∧ -(2 ^ 62) ≤ j ∧ j < 2 ^ 62) (q : Q ((List.range (j - i).toNat).map fun (k : Nat) => D.int (i + (k : Int)))) : R2' [.shr (.int i), .shr (.int j)] Q := ⟨i, j, rfl, by rw [inR, decide_eq_true h.1, decide_eq_true h.2.1]; rfl, by rw [inR, decide_eq_true h.2.2.1, decide_eq_true h.2.2.2]; rfl, q⟩
theorem xi_r2' {f : HsF} {Q : List D → Option (Nat × Slot) → Sto → Prop} (h : XHs f env fun hs e => XO (hGets e hs) fun os => R2' os fun ds => Q ds none e) : XI (iR2 f) env Q := xi_r2 h
/-! comprehensions over one name -/
def lcQ (g : GF) (c : BF) (f : DF) (v : Nat) (Q : Hnd → Sto → Prop) (ds : List D) (l : Option (Nat × Slot)) (e : Sto) : Prop := match l with
    | none => ∃ e1 x, SetAt e v none e1 ∧ Slt e v x ∧ XC g c f [v] ds [] e1 fun acc e2 => ∃ e3, SetAt e2 v x e3 ∧ Q (.tmp (.ol acc)) e3
    | some (i, s) => ∃ e0 e1 x, SetAt e i (some { s with lk := true }) e0 ∧ SetAt e0 v none e1 ∧ Slt e0 v x ∧ XC g c f [v] ds [] e1 fun acc e2 => ∃ e3 e4, SetAt e2 v x e3 ∧ SetAt e3 i (some s) e4 ∧ Q (.tmp (.ol acc)) e4
theorem xe_lc' {fi : IF} {g : GF} {c : BF} {f : DF} {v : Nat} {Q : Hnd → Sto → Prop} (h : XI fi env (lcQ g c f v Q)) : XE (vLc fi g c f [v]) env Q := by
  refine xe_lc ?_
  obtain ⟨ds, l, e, h1, h2⟩ := h
  refine ⟨ds, l, e, h1, ?_⟩
  match l, h2 with
  | none, ⟨e1, x, h3, h4, acc, e2, h5, e3, h6, q⟩ =>
    have a := h3.eq
    subst a
    refine ⟨acc, e2, h5, ?_⟩
    have b : restE e2 e [v] = e3 := by rw [← h6.eq, ← h4.at]; rfl
    show Q _ (restE e2 e [v])
    rw [b]; exact q
  | some (i, s), ⟨e0, e1, x, h3, h3', h4, acc, e2, h5, e3, e4, h6, h7, q⟩ =>
    have a := h3.eq
    subst a
    have a := h3'.eq
    subst a
    refine ⟨acc, e2, h5, ?_⟩
    have b : restE e2 (e.set i (some { s with lk := true })) [v] = e3 := by rw [← h6.eq, ← h4.at]; rfl
    show Q _ ((restE e2 (e.set i (some { s with lk := true })) [v]).set i (some s))
    rw [b, h7.eq]; exact q
theorem lc_n {g : GF} {c : BF} {f : DF} {v : Nat} {Q : Hnd → Sto → Prop} {y : Option Slot} (h1 : SetAt env v none env1) (h2 : Slt env v y) (h : XC g c f [v] ds [] env1 fun acc e2 => ∃ e3, SetAt e2 v y e3 ∧ Q (.tmp (.ol acc)) e3) : lcQ g c f v Q ds none env := ⟨_, _, h1, h2, h⟩
theorem lc_l {g : GF} {c : BF} {f : DF} {v : Nat} {Q : Hnd → Sto → Prop} {y : Option Slot} (h0 : SetAt env i (some ⟨o, p, true⟩) env2) (h1 : SetAt env2 v none env1) (h2 : Slt env2 v y) (h : XC g c f [v] ds [] env1 fun acc e2 => ∃ e3 e4, SetAt e2 v y e3 ∧ SetAt e3 i (some ⟨o, p, l⟩) e4 ∧ Q (.tmp (.ol acc)) e4) : lcQ g c f v Q ds (some (i, ⟨o, p, l⟩)) env := ⟨_, _, _, h0, h1, h2, h⟩
/-- after one element -/
def accQ (acc : List D) (v : Nat) (I : List D → Sto → Prop) (y : D) (e : Sto) : Prop := acc.length < 1000000 ∧ ∃ e', SetAt e v none e' ∧ I (acc ++ [y]) e'
theorem acc_q {acc : List D} {v : Nat} {I : List D → Sto → Prop} {y : D} (h : acc.length < 1000000) (h2 : SetAt env v none env') (q : I (acc ++ [y]) env') : accQ acc v I y env := ⟨h, _, h2, q⟩
theorem xc_yes {g : GF} {f : DF} {v : Nat} {acc : List D} {Q : List D → Sto → Prop} (I : List D → List D → Sto → Prop) (h0 : I ds acc env) (hd : ∀ acc e, I [] acc e → Q acc e)
    (hs : ∀ d r acc e, I (d :: r) acc e → XO (g d e) fun e1 => XD f e1 (accQ acc v (I r))) : XC g bYes f [v] ds acc env Q :=
  xc_inv I hd (fun d r acc e h => (hs d r acc e h).mono fun e1 h1 => by
    obtain ⟨y, e3, h2, h3, e', h4, h5⟩ := h1
    refine ⟨true, e1, rfl, fun _ => ⟨y, e3, h2, h3, ?_⟩, fun z => nomatch z⟩
    have b := h4.eq
    subst b
    exact h5) ds acc env h0
theorem xc_nil' {g : GF} {c : BF} {f : DF} {v : Nat} {acc : List D} {Q : List D → Sto → Prop} (q : Q acc env) : XC g c f [v] [] acc env Q := xc_nil q
theorem xc_yes1 {g : GF} {f : DF} {v : Nat} {acc : List D} {Q : List D → Sto → Prop} (h : XO (g d env) fun e1 => XD f e1 (accQ acc v fun acc' e' => XC g bYes f [v] ds acc' e' Q)) : XC g bYes f [v] (d :: ds) acc env Q :=
  xc_cons (h.mono fun e1 h1 => by
    obtain ⟨y, e3, h2, h3, e', h4, h5⟩ := h1
    refine ⟨true, e1, rfl, fun _ => ⟨y, e3, h2, h3, ?_⟩, fun z => nomatch z⟩
    have b := h4.eq
    subst b
    exact h5)
theorem xp_g {Q : Sto → Prop} (h : Put env i (.shr d) env') (q : Q env') : XO (gN i d env) Q := ⟨_, h.eq, q⟩
/-! targets of several names -/
theorem xg_T {n : Nat} {f : List D → Sto → Option Sto} {Q : Sto → Prop} (hn : ds.length = n) (h : XO (f ds env) Q) : XO (gT n f (.tup ds) env) Q := by
  obtain ⟨e, h, q⟩ := h
  exact ⟨e, by simp only [gT, if_pos hn, h], q⟩
theorem xg_nil {Q : Sto → Prop} (q : Q env) : XO (gNilF [] env) Q := ⟨_, rfl, q⟩
theorem xg_cons {f : GF} {r : List D → Sto → Option Sto} {Q : Sto → Prop} (h : XO (f d env) fun e => XO (r ds e) Q) : XO (gConsF f r (d :: ds) env) Q := by
  obtain ⟨e, h, e', h', q⟩ := h
  exact ⟨e', by simp only [gConsF, h, Option.bind_some, h'], q⟩
theorem xs_par2 {f : DsF} {Q : Out → Prop} (h : XDs f env fun ds e => ∃ a b, ds = [a, b] ∧ XO (setS e i (.shr a)) fun e1 => XO (setS e1 j (.shr b)) fun e2 => Q (.nx e2)) : XS (sPar i j f) env Q := by
  refine xs_par ?_
  obtain ⟨ds, e, h1, a, b, rfl, h⟩ := h
  exact ⟨_, e, h1, h⟩
/-! returning -/
def XRt (a : Hnd) (e : Sto) (Q : Out → Prop) : Prop := XO (retH a e) Q
theorem xs_ret' {Q : Out → Prop} (h : XE fa env fun a e => XRt a e Q) : XS (sRet fa) env Q := xs_ret h
theorem xrt_t {Q : Out → Prop} (q : Q (.rt (.o o) env)) : XRt (.tmp o) env Q := ⟨_, rfl, q⟩
theorem xrt_s {Q : Out → Prop} (h : At env i (.shr d) p l) (q : Q (.rt (.o (.shr d)) env)) : XRt (.var i) env Q := ⟨_, by rw [retH, h.at], q⟩
theorem xrt_l {Q : Out → Prop} (h : At env i (.ol ds) false l) (h2 : SetAt env i none env') (q : Q (.rt (.o (.ol ds)) env')) : XRt (.var i) env Q := ⟨_, by simp only [retH, h.at, Bool.false_eq_true, if_false, h2.eq], q⟩
theorem xrt_k {Q : Out → Prop} (h : At env i (.od kvs) false l) (h2 : SetAt env i none env') (q : Q (.rt (.o (.od kvs)) env')) : XRt (.var i) env Q := ⟨_, by simp only [retH, h.at, Bool.false_eq_true, if_false, h2.eq], q⟩
theorem xrt_pl {Q : Out → Prop} (h : At env i (.ol ds) true l) (q : Q (.rt (.par i) env)) : XRt (.var i) env Q := ⟨_, by simp only [retH, h.at, if_true], q⟩
theorem xrt_pk {Q : Out → Prop} (h : At env i (.od kvs) true l) (q : Q (.rt (.par i) env)) : XRt (.var i) env Q := ⟨_, by simp only [retH, h.at, if_true], q⟩
/-! a def -/
def defQ (m : Nat) (Q : Rs → List O → Prop) : Out → Prop
  | .rt r e => ∃ fs, Fin' e m fs ∧ Q r fs
  | .nx e => ∃ fs, Fin' e m fs ∧ Q (.o (.shr .non)) fs
  | _ => False
theorem def_rt {m : Nat} {Q : Rs → List O → Prop} {r : Rs} {fs : List O} (h : Fin' env m fs) (q : Q r fs) : defQ m Q (.rt r env) := ⟨_, h, q⟩
theorem def_nx {m : Nat} {Q : Rs → List O → Prop} {fs : List O} (h : Fin' env m fs) (q : Q (.o (.shr .non)) fs) : defQ m Q (.nx env) := ⟨_, h, q⟩
theorem xf' {n m : Nat} {f : SF} {os : List O} {e : Sto} {Q : Rs → List O → Prop} (hl : os.length = m) (he : Ini n os e) (h : XS f e (defQ m Q)) : XF (defF n m f) os Q := by
  refine xf hl ?_
  have he := he.eq
  subst he
  refine h.mono fun o q => ?_
  cases o with
  | rt r e => obtain ⟨fs, h1, h2⟩ := q; show Q _ _; rw [h1.eq]; exact h2
  | nx e => obtain ⟨fs, h1, h2⟩ := q; show Q _ _; rw [h1.eq]; exact h2
  | bk e => exact q
  | ct e => exact q
/-! an object of one's own, changed -/
def XM (i : Nat) (g : O → Option (D × O)) (e : Sto) (Q : D → Sto → Prop) : Prop := XO (mutS e i g) fun p => Q p.1 p.2
theorem xm2 {g : O → Option (D × O)} {x x' : O} {d : D} {Q : D → Sto → Prop} (h : Chg env i x x' env') (hg : g x = some (d, x')) (h1 : x.own = true) (h2 : x'.own = true) (q : Q d env') : XM i g env Q := by
  obtain ⟨p, h3, rfl⟩ := h.at
  exact ⟨(d, _), by simp only [mutS, h3, Bool.false_eq_true, if_false, hg, Option.bind_some, h1, h2, Bool.and_self, if_true], q⟩
theorem xe_mt' {T : String} {m : List D → O → Option (D × O)} {f : DsF} {Q : Hnd → Sto → Prop} (h0 : At env i x p l) (hk : kindOf x = T) (h : XDs f env fun ds e => XM i (m ds) e fun d e => Q (.tmp (.shr d)) e) : XE (vMt i T m f) env Q := xe_mt (by rw [kindS, h0.at]; exact hk) h
theorem xs_setIx' {fv : DF} {fi : EF} {Q : Out → Prop} (h : XD fv env fun d e => ∃ o p l, At e i o p l ∧ kindOf o = "list" ∧ XE fi e fun a e1 => XO (hGet e1 a) fun x => XO (asI x) fun k => XM i (setL k d) e1 fun _ e => Q (.nx e)) : XS (sSetIx i fv fi) env Q := by
  refine xs_setIx ?_
  obtain ⟨d, e, h1, o, p, l, h2, h3, h4⟩ := h
  exact ⟨d, e, h1, by rw [kindS, h2.at]; exact h3, h4⟩
theorem xs_augIx' {fi fe : EF} {op : O → O → Option O} {Q : Out → Prop} (h0 : At env i x p l) (hk : kindOf x = "list") (h : XE fi env fun a e => XO (hGet e a) fun x => XO (asI x) fun k => XO (hGet e (.var i)) fun ol => XO (asL ol) fun ds => XO (atI ds k) fun d =>
    XE fe e fun b e1 => XO (hGet e1 b) fun y => XO (op (.shr d) y) fun z => ∃ dz, z = .shr dz ∧ XM i (setL k dz) e1 fun _ e => Q (.nx e)) : XS (sAugIx i fi op fe) env Q := xs_augIx (by rw [kindS, h0.at]; exact hk) h
theorem xs_aug' {fe : EF} {op : O → O → Option O} {Q : Out → Prop} (h : At env i (.shr d) p l) (h2 : XE fe env fun b e1 => XO (hGet e1 b) fun y => XO (op (.shr d) y) fun z => XW i (.tmp z) e1 fun e2 => Q (.nx e2)) : XS (sAug i op fe) env Q :=
  xs_aug ⟨.shr d, by rw [hGet, h.at], d, rfl, h2⟩
theorem xai {a : Int} {Q : Int → Prop} (q : Q a) : XO (asI (.shr (.int a))) Q := ⟨_, rfl, q⟩
theorem xab {a : Bool} {Q : Bool → Prop} (q : Q a) : XO (asB (.shr (.bl a))) Q := ⟨_, rfl, q⟩
theorem xal {Q : List D → Prop} (q : Q ds) : XO (asL (.ol ds)) Q := ⟨_, rfl, q⟩
theorem xals {Q : List D → Prop} (q : Q ds) : XO (asL (.shr (.lst ds))) Q := ⟨_, rfl, q⟩
theorem xat {k : Int} {Q : D → Prop} (h : atI ds k = some d) (q : Q d) : XO (atI ds k) Q := ⟨_, h, q⟩
namespace Nx
theorem ixN_nat {n k : Nat} (h : k < n) : ixN n (k : Int) = some k := by
  unfold ixN
  rw [if_pos (by omega), if_pos (by omega)]; rfl
end Nx
open Nx
theorem xe_mt'L {m : List D → O → Option (D × O)} {f : DsF} {Q : Hnd → Sto → Prop} (h0 : At env i (.ol ds) p l) (h : XDs f env fun ds e => XM i (m ds) e fun d e => Q (.tmp (.shr d)) e) : XE (vMt i "list" m f) env Q := xe_mt' h0 rfl h
theorem xs_augIx'L {fi fe : EF} {op : O → O → Option O} {Q : Out → Prop} (h0 : At env i (.ol ds) p l) (h : XE fi env fun a e => XO (hGet e a) fun x => XO (asI x) fun k => XO (hGet e (.var i)) fun ol => XO (asL ol) fun ds => XO (atI ds k) fun d =>
    XE fe e fun b e1 => XO (hGet e1 b) fun y => XO (op (.shr d) y) fun z => ∃ dz, z = .shr dz ∧ XM i (setL k dz) e1 fun _ e => Q (.nx e)) : XS (sAugIx i fi op fe) env Q := xs_augIx' h0 rfl h
def XSi (i : Nat) (d : D) (fi : EF) (e : Sto) (Q : Out → Prop) : Prop := ∃ o p l, At e i o p l ∧ kindOf o = "list" ∧ XE fi e fun a e1 => XO (hGet e1 a) fun x => XO (asI x) fun k => XM i (setL k d) e1 fun _ e => Q (.nx e)
theorem xs_setIx2 {fv : DF} {fi : EF} {Q : Out → Prop} (h : XD fv env fun d e => XSi i d fi e Q) : XS (sSetIx i fv fi) env Q := xs_setIx' h
theorem xsi {fi : EF} {Q : Out → Prop} (h0 : At env i (.ol ds) p l) (h : XE fi env fun a e1 => XO (hGet e1 a) fun x => XO (asI x) fun k => XM i (setL k d) e1 fun _ e => Q (.nx e)) : XSi i d fi env Q := ⟨_, _, _, h0, rfl, h⟩
theorem xm_set {k : Int} {es : List D} {Q : D → Sto → Prop} (h0 : At env i (.ol ds) p l) (hs : setL k d (.ol ds) = some (.non, .ol es)) (h : Chg env i (.ol ds) (.ol es) env') (q : Q .non env') : XM i (setL k d) env Q := xm2 h hs rfl rfl q
theorem xm_app {y : D} {Q : D → Sto → Prop} (h0 : At env i (.ol ds) p l) (hl : ds.length ≤ 1000000) (h : Chg env i (.ol ds) (.ol (ds ++ [y])) env') (q : Q .non env') : XM i (mAppend [y]) env Q := xm2 h (by simp only [mAppend, if_pos hl]) rfl rfl q
theorem setL_nat {k : Nat} {ds : List D} {d : D} (h : k < ds.length) : setL (k : Int) d (.ol ds) = some (.non, .ol (ds.set k d)) := by
  show Option.map _ (ixN ds.length (k : Int)) = _
  rw [Nx.ixN_nat h]; rfl
theorem setL0 {a : D} : setL 0 d (.ol (a :: ds)) = some (.non, .ol (d :: ds)) := setL_nat (k := 0) (by simp)
theorem setL1 {a b : D} : setL 1 d (.ol (a :: b :: ds)) = some (.non, .ol (a :: d :: ds)) := setL_nat (k := 1) (by simp)
theorem setL2 {a b c : D} : setL 2 d (.ol (a :: b :: c :: ds)) = some (.non, .ol (a :: b :: d :: ds)) := setL_nat (k := 2) (by simp)
theorem ex_shr {d : D} {Q : D → Prop} (q : Q d) : ∃ dz, O.shr d = .shr dz ∧ Q dz := ⟨_, rfl, q⟩
theorem lend_ok {F : FF} {hs : List Hnd} {os : List O} {Q : Hnd → Sto → Prop} (h : lendOk env hs os = true) (k : XF F os fun r fs => XO (resH hs os fs r) fun a => ∃ e', Wb env hs os fs e' ∧ fs.length = os.length ∧ Q a e') : lendOk env hs os = true ∧ XK F hs os env Q := ⟨h, xk k⟩
theorem wbx {hs : List Hnd} {os fs : List O} {Q : Sto → Prop} (h : Wb env hs os fs env') (hl : fs.length = os.length) (q : Q env') : ∃ e', Wb env hs os fs e' ∧ fs.length = os.length ∧ Q e' := ⟨_, h, hl, q⟩
theorem mulR {i j : Int} (h : -18446744073709551616 < j ∧ j < 18446744073709551616) : CMulG i j := .inl (.inr h)
theorem mulL {i j : Int} (h : -18446744073709551616 < i ∧ i < 18446744073709551616) : CMulG i j := .inl (.inl h)
theorem divK {a m : Int} (h : 0 < m ∧ m < 1152921504606846976) : CDivG a m := ⟨by omega, by
  have : m.natAbs < 2 ^ 60 := by omega
  have h := (Nat.log2_lt (n := m.natAbs) (k := 60) (by omega)).mpr this
  omega⟩
theorem powK {i j : Int} (h : 0 ≤ j ∧ j ≤ 1000000 ∧ i.natAbs < 18446744073709551616) : CPow i j := h
theorem par2 {a b : D} {P : D → D → Prop} (h : P a b) : ∃ x y, [a, b] = [x, y] ∧ P x y := ⟨_, _, rfl, h⟩
/-! tests -/
def TF (b : Bool) (p q : Prop) : Prop := (b = true → p) ∧ (b = false → q)
theorem tf_t {p q : Prop} (h : p) : TF true p q := ⟨fun _ => h, fun z => nomatch z⟩
theorem tf_f {p q : Prop} (h : q) : TF false p q := ⟨(fun z => nomatch z), fun _ => h⟩
theorem tf_d {c p q : Prop} [Decidable c] (h1 : c → p) (h2 : ¬ c → q) : TF (decide c) p q := ⟨fun h => h1 (of_decide_eq_true h), fun h => h2 (of_decide_eq_false h)⟩
theorem tf_nd {c p q : Prop} [Decidable c] (h1 : ¬ c → p) (h2 : c → q) : TF (!decide c) p q := ⟨fun h => h1 (by simpa using h), fun h => h2 (by simpa using h)⟩
theorem tf_b {b : Bool} {p q : Prop} (h1 : b = true → p) (h2 : b = false → q) : TF b p q := ⟨h1, h2⟩
theorem xs_if' {c : BF} {f g : SF} {Q : Out → Prop} (h : XB c env fun b e => TF b (XS f e Q) (XS g e Q)) : XS (sIf c f g) env Q := xs_if h
theorem xe_if' {c : BF} {Q : Hnd → Sto → Prop} (h : XB c env fun b e => TF b (XE fa e Q) (XE fb e Q)) : XE (vIf c fa fb) env Q := xe_if h
theorem xb_and' {a b : BF} {Q : Bool → Sto → Prop} (h : XB a env fun x e => TF x (XB b e Q) (Q false e)) : XB (bAnd a b) env Q := xb_and h
theorem xb_or' {a b : BF} {Q : Bool → Sto → Prop} (h : XB a env fun x e => TF x (Q true e) (XB b e Q)) : XB (bOr a b) env Q := xb_or h
/-- one definite answer of a test -/
theorem xb_is {b c : Bool} {Q : Bool → Sto → Prop} (h : b = c) (q : Q c env) : Q b env := h ▸ q
theorem trI {a : Int} {Q : Bool → Prop} (q : Q (a != 0)) : XO (truO (.shr (.int a))) Q := ⟨_, rfl, q⟩
theorem trB {a : Bool} {Q : Bool → Prop} (q : Q a) : XO (truO (.shr (.bl a))) Q := ⟨_, rfl, q⟩
theorem trN {Q : Bool → Prop} (q : Q false) : XO (truO (.shr .non)) Q := ⟨_, rfl, q⟩
theorem trL {Q : Bool → Prop} (q : Q !ds.isEmpty) : XO (truO (.ol ds)) Q := ⟨_, rfl, q⟩
theorem trLs {Q : Bool → Prop} (q : Q !ds.isEmpty) : XO (truO (.shr (.lst ds))) Q := ⟨_, rfl, q⟩
theorem isN {Q : O → Prop} (q : Q (.shr (.bl true))) : XO (oIsN (.shr .non) (.shr .non)) Q := ⟨_, rfl, q⟩
theorem isN0 {ds : List D} {Q : O → Prop} (q : Q (.shr (.bl false))) : XO (oIsN (.shr (.tup ds)) (.shr .non)) Q := ⟨_, rfl, q⟩
theorem isN1 {a : Int} {Q : O → Prop} (q : Q (.shr (.bl false))) : XO (oIsN (.shr (.int a)) (.shr .non)) Q := ⟨_, rfl, q⟩
theorem isN2 {a : Str} {Q : O → Prop} (q : Q (.shr (.bl false))) : XO (oIsN (.shr (.str a)) (.shr .non)) Q := ⟨_, rfl, q⟩
theorem isN3 {Q : O → Prop} (q : Q (.shr (.bl false))) : XO (oIsN (.shr (.lst ds)) (.shr .non)) Q := ⟨_, rfl, q⟩
theorem isN4 {a : Bool} {Q : O → Prop} (q : Q (.shr (.bl false))) : XO (oIsN (.shr (.bl a)) (.shr .non)) Q := ⟨_, rfl, q⟩
theorem isN5 {Q : O → Prop} (q : Q (.shr (.bl false))) : XO (oIsN (.ol ds) (.shr .non)) Q := ⟨_, rfl, q⟩
theorem noN {Q : O → Prop} (q : Q (.shr (.bl false))) : XO (oNotN (.shr .non) (.shr .non)) Q := ⟨_, rfl, q⟩
theorem noN0 {ds : List D} {Q : O → Prop} (q : Q (.shr (.bl true))) : XO (oNotN (.shr (.tup ds)) (.shr .non)) Q := ⟨_, rfl, q⟩
theorem noN1 {a : Int} {Q : O → Prop} (q : Q (.shr (.bl true))) : XO (oNotN (.shr (.int a)) (.shr .non)) Q := ⟨_, rfl, q⟩
theorem noN2 {a : Str} {Q : O → Prop} (q : Q (.shr (.bl true))) : XO (oNotN (.shr (.str a)) (.shr .non)) Q := ⟨_, rfl, q⟩
theorem ixL {k : Int} {e : D} {Q : O → Prop} (h : atI ds k = some e) (q : Q (.shr e)) : XO (oIx (.ol ds) (.shr (.int k))) Q := xo_ix rfl h q
theorem ixLs {k : Int} {e : D} {Q : O → Prop} (h : atI ds k = some e) (q : Q (.shr e)) : XO (oIx (.shr (.lst ds)) (.shr (.int k))) Q := xo_ix rfl h q
theorem ixT {k : Int} {e : D} {Q : O → Prop} (h : atI ds k = some e) (q : Q (.shr e)) : XO (oIx (.shr (.tup ds)) (.shr (.int k))) Q := xo_ix rfl h q
theorem lnL {Q : O → Prop} (q : Q (.shr (.int ds.length))) : XO (oLen [.ol ds]) Q := xo_len rfl q
theorem lnLs {Q : O → Prop} (q : Q (.shr (.int ds.length))) : XO (oLen [.shr (.lst ds)]) Q := xo_len rfl q
theorem lnT {Q : O → Prop} (q : Q (.shr (.int ds.length))) : XO (oLen [.shr (.tup ds)]) Q := xo_len rfl q
theorem lsL {Q : O → Prop} (q : Q (.ol ds)) : XO (oList [.ol ds]) Q := xo_list rfl q
theorem lsLs {Q : O → Prop} (q : Q (.ol ds)) : XO (oList [.shr (.lst ds)]) Q := xo_list rfl q
theorem lsT {Q : O → Prop} (q : Q (.ol ds)) : XO (oList [.shr (.tup ds)]) Q := xo_list rfl q
theorem slL {lo hi : Option Int} {Q : O → Prop} (q : Q (.ol (cutD ds lo hi))) : XO (oSl (.ol ds) lo hi) Q := ⟨_, rfl, q⟩
theorem slLs {lo hi : Option Int} {Q : O → Prop} (q : Q (.ol (cutD ds lo hi))) : XO (oSl (.shr (.lst ds)) lo hi) Q := ⟨_, rfl, q⟩
theorem xo_addLL {es : List D} {Q : O → Prop} (h : ds.length + es.length ≤ 1000000) (q : Q (.ol (ds ++ es))) : XO (oAdd (.ol ds) (.ol es)) Q := xo_addL h q
theorem eqI {a b : Int} {Q : O → Prop} (q : Q (.shr (.bl (decide (a = b))))) : XO (oEq (.shr (.int a)) (.shr (.int b))) Q := xo_eq eqO_int q
theorem neI {a b : Int} {Q : O → Prop} (q : Q (.shr (.bl (!decide (a = b))))) : XO (oNe (.shr (.int a)) (.shr (.int b))) Q := xo_ne eqO_int q
theorem eqSt {a b : Str} {Q : O → Prop} (q : Q (.shr (.bl (decide (a = b))))) : XO (oEq (.shr (.str a)) (.shr (.str b))) Q := xo_eq eqO_str q
theorem neSt {a b : Str} {Q : O → Prop} (q : Q (.shr (.bl (!decide (a = b))))) : XO (oNe (.shr (.str a)) (.shr (.str b))) Q := xo_ne eqO_str q
theorem at_nat {α : Type} {xs : List α} {k : Nat} (h : k < xs.length) : atI xs (k : Int) = some xs[k] := by
  unfold atI
  rw [ixN_nat h, Option.bind_some, List.getElem?_eq_getElem h]
theorem at_of {α : Type} {xs : List α} {k : Nat} {x : α} (h : xs[k]? = some x) : atI xs (k : Int) = some x := by
  obtain ⟨hl, e⟩ := List.getElem?_eq_some_iff.mp h
  rw [at_nat hl, e]
theorem at_int {α : Type} {xs : List α} {k : Int} (h0 : 0 ≤ k) (h1 : k < xs.length) : ∃ n : Nat, k = n ∧ ∃ h : n < xs.length, atI xs k = some xs[n] := by
  obtain ⟨n, rfl⟩ := Int.eq_ofNat_of_zero_le h0
  exact ⟨n, rfl, by omega, at_nat (by omega)⟩
theorem at0 {α : Type} {a : α} {xs : List α} : atI (a :: xs) 0 = some a := at_of (k := 0) rfl
theorem at1 {α : Type} {a b : α} {xs : List α} : atI (a :: b :: xs) 1 = some b := at_of (k := 1) rfl
theorem at2 {α : Type} {a b c : α} {xs : List α} : atI (a :: b :: c :: xs) 2 = some c := at_of (k := 2) rfl
end
end PV

set_option maxRecDepth 100000
set_option maxHeartbeats 2000000
namespace PV
open PySem L2
/-! ### plain data: == is equality -/
mutual
def pl : D → Bool
  | .non => true
  | .int _ => true
  | .str x => PyData.strOk x
  | .tup ds => decide (ds.length ≤ 1000) && pls ds
  | _ => false
def pls : List D → Bool
  | [] => true
  | d :: r => pl d && pls r
end
mutual
def dp : D → Nat
  | .tup ds => dps ds + 1
  | _ => 0
def dps : List D → Nat
  | [] => 0
  | d :: r => max (dp d) (dps r)
end
mutual
theorem py_pl : ∀ {d : D}, pl d = true → ∃ p, toPy d = some p ∧ p.canLay0 = true ∧ p.depth = dp d
  | .non, _ => ⟨_, by unfold toPy; rfl, by simp only [PyData.canLay0], by simp only [PyData.depth, dp]⟩
  | .int i, _ => ⟨_, by unfold toPy; rfl, by simp only [PyData.canLay0], by simp only [PyData.depth, dp]⟩
  | .str x, h => ⟨_, by unfold toPy; rfl, by rw [pl] at h; rw [PyData.canLay0]; exact h, by simp only [PyData.depth, dp]⟩
  | .tup ds, h => by
    rw [pl, Bool.and_eq_true] at h
    obtain ⟨ps, h1, h2, h3⟩ := pys_pl h.2
    exact ⟨.tuple ps, by rw [toPy, h1]; rfl, by rw [PyData.canLay0]; exact h2, by rw [PyData.depth, dp, h3]⟩
  | .bl _, h => nomatch h
  | .lst _, h => nomatch h
  | .dk _, h => nomatch h
  | .scr _, h => nomatch h
  | .opq _, h => nomatch h
theorem pys_pl : ∀ {ds : List D}, pls ds = true → ∃ ps, toPys ds = some ps ∧ PyData.canLayAll0 ps = true ∧ PyData.depthAll ps = dps ds
  | [], _ => ⟨[], by rw [toPys], by rw [PyData.canLayAll0], by rw [PyData.depthAll, dps]⟩
  | d :: r, h => by
    rw [pls, Bool.and_eq_true] at h
    obtain ⟨p, h1, h2, h3⟩ := py_pl h.1
    obtain ⟨ps, h4, h5, h6⟩ := pys_pl h.2
    exact ⟨p :: ps, by rw [toPys, h1, h4]; rfl, by rw [PyData.canLayAll0, h2, h5]; rfl, by rw [PyData.depthAll, dps, h3, h6]⟩
end
mutual
theorem eqv_pl : ∀ {x y : D} {p q : PyData}, pl x = true → pl y = true → toPy x = some p → toPy y = some q → (PyData.eqv p q = true ↔ x = y)
  | .tup xs, .tup ys, p, q, hx, hy, ex, ey => by
    rw [pl, Bool.and_eq_true] at hx hy
    obtain ⟨ps, h1, _⟩ := pys_pl hx.2
    obtain ⟨qs, h2, _⟩ := pys_pl hy.2
    rw [toPy, h1] at ex
    rw [toPy, h2] at ey
    cases ex
    cases ey
    rw [PyData.eqv, D.tup.injEq]
    exact eqvs_pl hx.2 hy.2 h1 h2
  | .tup xs, .non, p, q, hx, hy, ex, ey | .tup xs, .int _, p, q, hx, hy, ex, ey | .tup xs, .str _, p, q, hx, hy, ex, ey => by
    rw [pl, Bool.and_eq_true] at hx
    obtain ⟨ps, h1, _⟩ := pys_pl hx.2
    rw [toPy, h1] at ex
    simp only [toPy] at ey
    cases ex
    cases ey
    simp [PyData.eqv]
  | .non, .tup xs, p, q, hy, hx, ey, ex | .int _, .tup xs, p, q, hy, hx, ey, ex | .str _, .tup xs, p, q, hy, hx, ey, ex => by
    rw [pl, Bool.and_eq_true] at hx
    obtain ⟨ps, h1, _⟩ := pys_pl hx.2
    rw [toPy, h1] at ex
    simp only [toPy] at ey
    cases ex
    cases ey
    simp [PyData.eqv]
  | .non, .non, p, q, hx, hy, ex, ey | .non, .int _, p, q, hx, hy, ex, ey | .non, .str _, p, q, hx, hy, ex, ey
  | .int _, .non, p, q, hx, hy, ex, ey | .int _, .int _, p, q, hx, hy, ex, ey | .int _, .str _, p, q, hx, hy, ex, ey
  | .str _, .non, p, q, hx, hy, ex, ey | .str _, .int _, p, q, hx, hy, ex, ey | .str _, .str _, p, q, hx, hy, ex, ey => by
    simp only [toPy] at ex ey
    cases ex
    cases ey
    simp [PyData.eqv]
theorem eqvs_pl : ∀ {x y : List D} {p q : List PyData}, pls x = true → pls y = true → toPys x = some p → toPys y = some q → (PyData.eqvAll p q = true ↔ x = y)
  | [], [], p, q, hx, hy, ex, ey => by
    rw [toPys] at ex ey
    cases ex
    cases ey
    simp [PyData.eqvAll]
  | [], y :: ys, p, q, hx, hy, ex, ey => by
    rw [pls, Bool.and_eq_true] at hy
    obtain ⟨p1, h1, _⟩ := py_pl hy.1
    obtain ⟨ps, h4, _⟩ := pys_pl hy.2
    rw [toPys] at ex
    rw [toPys, h1, h4] at ey
    cases ex
    cases ey
    simp [PyData.eqvAll]
  | y :: ys, [], p, q, hy, hx, ey, ex => by
    rw [pls, Bool.and_eq_true] at hy
    obtain ⟨p1, h1, _⟩ := py_pl hy.1
    obtain ⟨ps, h4, _⟩ := pys_pl hy.2
    rw [toPys] at ex
    rw [toPys, h1, h4] at ey
    cases ex
    cases ey
    simp [PyData.eqvAll]
  | x :: xs, y :: ys, p, q, hx, hy, ex, ey => by
    rw [pls, Bool.and_eq_true] at hx hy
    obtain ⟨p1, h1, _⟩ := py_pl hx.1
    obtain ⟨ps, h4, _⟩ := pys_pl hx.2
    obtain ⟨q1, g1, _⟩ := py_pl hy.1
    obtain ⟨qs, g4, _⟩ := pys_pl hy.2
    rw [toPys, h1, h4] at ex
    rw [toPys, g1, g4] at ey
    cases ex
    cases ey
    rw [PyData.eqvAll, Bool.and_eq_true, eqv_pl hx.1 hy.1 h1 g1, eqvs_pl hx.2 hy.2 h4 g4, List.cons.injEq]
end
theorem eqP_pl {x y : D} (hx : pl x = true) (hy : pl y = true) (dx : dp x ≤ 64) (dy : dp y ≤ 64) : ∃ b : Bool, (toPy x).bind (fun p => (toPy y).bind fun q => eqP p q) = some b ∧ (b = true ↔ x = y) := by
  obtain ⟨p, h1, h2, h3⟩ := py_pl hx
  obtain ⟨q, g1, g2, g3⟩ := py_pl hy
  refine ⟨PyData.eqv p q, ?_, eqv_pl hx hy h1 g1⟩
  have a : SeqAt.shaped p = true := by rw [SeqAt.shaped, h2, h3, decide_eq_true dx]; rfl
  have b : SeqAt.shaped q = true := by rw [SeqAt.shaped, g2, g3, decide_eq_true dy]; rfl
  rw [h1, Option.bind_some, g1, Option.bind_some, eqP, if_pos ⟨a, b⟩]
theorem eqO_pl {x y : D} (hx : pl x = true) (hy : pl y = true) (dx : dp x ≤ 64) (dy : dp y ≤ 64) : ∃ b : Bool, eqO (.shr x) (.shr y) = some b ∧ (b = true ↔ x = y) := by
  have key := eqP_pl hx hy dx dy
  have gen : ((asF (.shr x)).bind fun i => (asF (.shr y)).bind fun j => eqS i j) = none → ∃ b : Bool, eqO (.shr x) (.shr y) = some b ∧ (b = true ↔ x = y) := fun h => by
    rw [eqO, h, Option.none_or]; exact key
  have flat : ∀ v w, asF (.shr x) = some v → asF (.shr y) = some w → scal v w = true → (v = w ↔ x = y) → ∃ b : Bool, eqO (.shr x) (.shr y) = some b ∧ (b = true ↔ x = y) := fun v w h1 h2 h3 h4 => ⟨decide (v = w), by rw [eqO, h1, h2, Option.bind_some, Option.bind_some, eqS, if_pos h3, Option.some_or], by rw [decide_eq_true_iff]; exact h4⟩
  cases x with
  | tup xs => exact gen rfl
  | non => cases y with
    | tup ys => exact gen rfl
    | non | int _ | str _ => exact flat _ _ rfl rfl rfl (by simp)
    | _ => cases hy
  | int _ => cases y with
    | tup ys => exact gen rfl
    | non | int _ | str _ => exact flat _ _ rfl rfl rfl (by simp)
    | _ => cases hy
  | str _ => cases y with
    | tup ys => exact gen rfl
    | non | int _ | str _ => exact flat _ _ rfl rfl rfl (by simp)
    | _ => cases hy
  | _ => cases hx
section
open Classical
theorem eqPl {x y : D} {Q : O → Prop} (hx : pl x = true) (hy : pl y = true) (dx : dp x ≤ 64) (dy : dp y ≤ 64) (q : Q (.shr (.bl (decide (x = y))))) : XO (oEq (.shr x) (.shr y)) Q := by
  obtain ⟨b, h, e⟩ := eqO_pl hx hy dx dy
  refine xo_eq h ?_
  have : b = decide (x = y) := by cases b <;> simp_all
  rw [this]; exact q
theorem nePl {x y : D} {Q : O → Prop} (hx : pl x = true) (hy : pl y = true) (dx : dp x ≤ 64) (dy : dp y ≤ 64) (q : Q (.shr (.bl (!decide (x = y))))) : XO (oNe (.shr x) (.shr y)) Q := by
  obtain ⟨b, h, e⟩ := eqO_pl hx hy dx dy
  refine xo_ne h ?_
  have : b = decide (x = y) := by cases b <;> simp_all
  rw [this]; exact q
end
/-! ### text -/
theorem ok_of (s : String) : PyData.strOk (Str.ofString s) = true := by
  rw [Str.ofString_eq_toList, PyData.strOk]
  simp only [List.all_toArray, List.all_map, List.all_eq_true]
  intro c _
  have := c.valid
  simp only [Function.comp, decide_eq_true_eq]
  have h : c.val.toNat < 0x110000 := by
    rcases this with h | h
    · omega
    · omega
  exact h
theorem ok_app {x y : Str} (h : PyData.strOk x = true) (g : PyData.strOk y = true) : PyData.strOk (x ++ y) = true := by
  show (x.cps ++ y.cps).all _ = true
  rw [Array.all_append, Bool.and_eq_true]
  exact ⟨h, g⟩
theorem len_num {n : Nat} (h : n < 1000000000000000000) : (Str.ofString (toString ((n : Nat) : Int))).length ≤ 18 := by
  have e : (Str.ofString (toString ((n : Nat) : Int))).length = (TL.tl (Str.ofString (toString ((n : Nat) : Int)))).length := by
    show Array.size _ = (Array.toList _).length
    rw [Array.length_toList]
  rw [e, TL.tl_num]
  exact TL.numL_len (by decide) (Nat.lt_of_lt_of_le h (by decide))
theorem len_int {i : Int} (h : 0 ≤ i ∧ i < 1000000000000000000) : (Str.ofString (toString i)).length ≤ 18 := by
  obtain ⟨n, rfl⟩ := Int.eq_ofNat_of_zero_le h.1
  exact len_num (by omega)
theorem strI {i : Int} {Q : O → Prop} (h : 0 ≤ i ∧ i < 1000000000000000000) (q : Q (.shr (.str (Str.ofString (toString i))))) : XO (oStr [.shr (.int i)]) Q := by
  refine xo_str ?_ q
  by_cases h0 : i.natAbs = 0
  · rw [h0]; decide
  · have h2 : i.natAbs < 2 ^ 64 := by
      have : (1000000000000000000:Int) < 2 ^ 64 := by decide
      omega
    have := (Nat.log2_lt h0).mpr h2
    omega
/-! ### which built-in class -/
theorem isiT {ox : O} {t : Option Ty} {n : String} {c : Ty} {Q : O → Prop} (h1 : tyO ox = some t) (hn : n = c.name) (hb : isTy t c = true) (q : Q (.shr (.bl true))) : XO (oIsi [ox, .shr (.opq (.ty n))]) Q := xo_isi h1 hn (hb ▸ q)
theorem isiF {ox : O} {t : Option Ty} {n : String} {c : Ty} {Q : O → Prop} (h1 : tyO ox = some t) (hn : n = c.name) (hb : isTy t c = false) (q : Q (.shr (.bl false))) : XO (oIsi [ox, .shr (.opq (.ty n))]) Q := xo_isi h1 hn (hb ▸ q)
theorem tf_T {b : Bool} {p q : Prop} (h : b = true) (k : p) : TF b p q := h ▸ tf_t k
theorem tf_F {b : Bool} {p q : Prop} (h : b = false) (k : q) : TF b p q := h ▸ tf_f k
theorem lnSc {ns : List Int} {Q : O → Prop} (q : Q (.shr (.int ns.length))) : XO (oLen [.shr (.scr ns)]) Q := xo_len (ds := ns.map .int) rfl (by rw [List.length_map]; exact q)
theorem ixSc {ns : List Int} {k i : Int} {Q : O → Prop} (h : atI ns k = some i) (q : Q (.shr (.int i))) : XO (oIx (.shr (.scr ns)) (.shr (.int k))) Q := xo_ix (ds := ns.map .int) rfl (by
  obtain ⟨j, h1, h2, h3, _⟩ := atI_get h
  unfold atI at h ⊢
  rw [List.length_map]
  cases e : ixN ns.length k with
  | none => rw [e] at h; cases h
  | some j =>
    rw [e] at h
    rw [Option.bind_some, List.getElem?_map]
    rw [Option.bind_some] at h
    rw [h]; rfl) q
theorem slSc {ns : List Int} {lo hi : Option Int} {Q : O → Prop} (q : Q (.ol (cutD (ns.map .int) lo hi))) : XO (oSl (.shr (.scr ns)) lo hi) Q := ⟨_, rfl, q⟩
theorem xo_sumL {ds : List D} {ns : List Int} {Q : O → Prop} (h2 : asInts ds = some ns) (q : Q (.shr (.int ns.sum))) : XO (oSum [.ol ds]) Q := xo_sum rfl h2 q
theorem mulW {i j : Int} (h : i.natAbs.log2 + j.natAbs.log2 < 1000000) : CMulG i j := .inr h
theorem lenAnd {ds : List D} {p : Prop} (h : ds.length ≤ 100000) (q : p) : ds.length ≤ 100000 ∧ p := ⟨h, q⟩
theorem xo_modP {a b : Int} {Q : O → Prop} (h : 0 < b) (q : ∀ r, 0 ≤ r → r < b → Q (.shr (.int r))) : XO (oMod (.shr (.int a)) (.shr (.int b))) Q := xo_mod (by omega) (q _ (Int.fmod_nonneg_of_pos a h) (Int.fmod_lt_of_pos a h))
theorem xo_addN {s : Str} {i : Int} {Q : O → Prop} (h : s.length ≤ 1000) (h2 : 0 ≤ i ∧ i < 1000000000000000000) (q : Q (.shr (.str (s ++ Str.ofString (toString i))))) : XO (oAdd (.shr (.str s)) (.shr (.str (Str.ofString (toString i))))) Q := xo_addS (by have := len_int h2; omega) q
theorem ixL3 {a b c : D} {r : Int} {Q : O → Prop} (h0 : 0 ≤ r) (h1 : r < 3) (q0 : Q (.shr a)) (q1 : Q (.shr b)) (q2 : Q (.shr c)) : XO (oIx (.ol [a, b, c]) (.shr (.int r))) Q := by
  have : r = 0 ∨ r = 1 ∨ r = 2 := by omega
  rcases this with rfl | rfl | rfl
  · exact ixL at0 q0
  · exact ixL at1 q1
  · exact ixL at2 q2
/-! ### loops by place -/
theorem xl_ix' {g : GF} {b : SF} {Q : Out → Prop} {ds : List D} {env : Sto} (J : Nat → Sto → Prop) (h0 : J 0 env) (hd : ∀ e, J ds.length e → Q (.nx e))
    (hs : ∀ (k : Nat) e (h : k < ds.length), J k e → XO (g ds[k] e) fun e1 => XS b e1 (turnQ (J (k + 1)) Q)) : XL g b ds env Q := by
  refine xl_inv' (fun r e => ∃ k, k ≤ ds.length ∧ r = ds.drop k ∧ J k e) ⟨0, Nat.zero_le _, rfl, h0⟩ ?_ ?_
  · rintro e ⟨k, hk, hr, j⟩
    have : ds.length ≤ k := by
      have := congrArg List.length hr
      simp at this; omega
    have : k = ds.length := by omega
    exact hd e (this ▸ j)
  · rintro d r e ⟨k, hk, hr, j⟩
    have hl : k < ds.length := by
      have := congrArg List.length hr
      simp at this; omega
    rw [List.drop_eq_getElem_cons hl] at hr
    obtain ⟨rfl, rfl⟩ := List.cons.inj hr
    refine (hs k e hl j).mono fun e1 h1 => h1.mono fun o q => ?_
    cases o with
    | nx e => exact ⟨k + 1, hl, rfl, q⟩
    | ct e => exact ⟨k + 1, hl, rfl, q⟩
    | bk e => exact q
    | rt x e => exact q
theorem xl_rng {g : GF} {b : SF} {Q : Out → Prop} {n : Nat} {env : Sto} (J : Nat → Sto → Prop) (h0 : J 0 env) (hd : ∀ e, J n e → Q (.nx e))
    (hs : ∀ (k : Nat) e, k < n → J k e → XO (g (.int k) e) fun e1 => XS b e1 (turnQ (J (k + 1)) Q)) : XL g b ((List.range n).map fun (k : Nat) => D.int (k : Int)) env Q :=
  xl_ix' J h0 (by simpa using hd) fun k e h j => by
    rw [List.getElem_map, List.getElem_range]
    exact hs k e (by simpa using h) j
theorem xl_rng2 {g : GF} {b : SF} {Q : Out → Prop} {n : Nat} {lo : Int} {env : Sto} (J : Nat → Sto → Prop) (h0 : J 0 env) (hd : ∀ e, J n e → Q (.nx e))
    (hs : ∀ (k : Nat) e, k < n → J k e → XO (g (.int (lo + k)) e) fun e1 => XS b e1 (turnQ (J (k + 1)) Q)) : XL g b ((List.range n).map fun (k : Nat) => D.int (lo + (k : Int))) env Q :=
  xl_ix' J h0 (by simpa using hd) fun k e h j => by
    rw [List.getElem_map, List.getElem_range]
    exact hs k e (by simpa using h) j
theorem xc_ix {g : GF} {f : DF} {v : Nat} {ds : List D} {env : Sto} {Q : List D → Sto → Prop} (J : Nat → List D → Sto → Prop) (h0 : J 0 [] env) (hd : ∀ acc e, J ds.length acc e → Q acc e)
    (hs : ∀ (k : Nat) acc e (h : k < ds.length), J k acc e → XO (g ds[k] e) fun e1 => XD f e1 (accQ acc v (J (k + 1)))) : XC g bYes f [v] ds [] env Q := by
  refine xc_yes (fun r acc e => ∃ k, k ≤ ds.length ∧ r = ds.drop k ∧ J k acc e) ⟨0, Nat.zero_le _, rfl, h0⟩ ?_ ?_
  · rintro acc e ⟨k, hk, hr, j⟩
    have : ds.length ≤ k := by
      have := congrArg List.length hr
      simp at this; omega
    have : k = ds.length := by omega
    exact hd acc e (this ▸ j)
  · rintro d r acc e ⟨k, hk, hr, j⟩
    have hl : k < ds.length := by
      have := congrArg List.length hr
      simp at this; omega
    rw [List.drop_eq_getElem_cons hl] at hr
    obtain ⟨rfl, rfl⟩ := List.cons.inj hr
    refine (hs k acc e hl j).mono fun e1 h1 => ?_
    obtain ⟨y, e2, h2, h3, e', h4, h5⟩ := h1
    exact ⟨y, e2, h2, h3, e', h4, k + 1, hl, rfl, h5⟩
theorem xc_rng {g : GF} {f : DF} {v : Nat} {n : Nat} {env : Sto} {Q : List D → Sto → Prop} (J : Nat → List D → Sto → Prop) (h0 : J 0 [] env) (hd : ∀ acc e, J n acc e → Q acc e)
    (hs : ∀ (k : Nat) acc e, k < n → J k acc e → XO (g (.int k) e) fun e1 => XD f e1 (accQ acc v (J (k + 1)))) : XC g bYes f [v] ((List.range n).map fun (k : Nat) => D.int (k : Int)) [] env Q :=
  xc_ix J h0 (by simpa using hd) fun k acc e h j => by
    rw [List.getElem_map, List.getElem_range]
    exact hs k acc e (by simpa using h) j
theorem xl_map {g : GF} {b : SF} {Q : Out → Prop} {n : Nat} {f : Nat → D} {env : Sto} (J : Nat → Sto → Prop) (h0 : J 0 env) (hd : ∀ e, J n e → Q (.nx e))
    (hs : ∀ (k : Nat) e, k < n → J k e → XO (g (f k) e) fun e1 => XS b e1 (turnQ (J (k + 1)) Q)) : XL g b ((List.range n).map f) env Q :=
  xl_ix' J h0 (by simpa using hd) fun k e h j => by
    rw [List.getElem_map, List.getElem_range]
    exact hs k e (by simpa using h) j
theorem xo_minN {a b : Nat} {Q : O → Prop} (q : Q (.shr (.int ((min a b : Nat) : Int)))) : XO (oMin [.shr (.int (a : Int)), .shr (.int (b : Int))]) Q := xo_min (by
  have : (if (b : Int) < (a : Int) then (b : Int) else (a : Int)) = ((min a b : Nat) : Int) := by split <;> omega
  rw [this]; exact q)
theorem xo_maxN {a b : Nat} {Q : O → Prop} (q : Q (.shr (.int ((max a b : Nat) : Int)))) : XO (oMax [.shr (.int (a : Int)), .shr (.int (b : Int))]) Q := xo_max (by
  have : (if (b : Int) > (a : Int) then (b : Int) else (a : Int)) = ((max a b : Nat) : Int) := by split <;> omega
  rw [this]; exact q)
theorem xo_max1 {n : Nat} {Q : O → Prop} (q : Q (.shr (.int ((max 1 n : Nat) : Int)))) : XO (oMax [.shr (.int 1), .shr (.int (n : Int))]) Q := xo_maxN (a := 1) q
theorem cut_take {ps : List D} {k : Nat} : cutD ps none (some (k : Int)) = ps.take k := by
  unfold cutD
  rw [HT.sIx_none, HT.sIx_nat, List.drop_zero, Nat.sub_zero]
  by_cases h : k ≤ ps.length
  · rw [Nat.min_eq_left h]
  · rw [Nat.min_eq_right (by omega), List.take_length, List.take_of_length_le (by omega)]
theorem r1N {n : Nat} {Q : List D → Prop} (h : n < 4611686018427387904) (q : Q ((List.range n).map fun (k : Nat) => D.int (k : Int))) : R1 [.shr (.int (n : Int))] Q := r1 (by omega) (by rw [Int.toNat_natCast]; exact q)
theorem r2S {i n : Nat} {Q : List D → Prop} (h : i < 4611686018427387903 ∧ n < 4611686018427387904) (q : Q ((List.range (n - (i + 1))).map fun (k : Nat) => D.int ((i + 1 + k : Nat) : Int))) : R2' [.shr (.int ((i : Int) + 1)), .shr (.int (n : Int))] Q := r2 (by omega) (by
  have e : ((n : Int) - ((i : Int) + 1)).toNat = n - (i + 1) := by omega
  rw [e]
  exact q)
theorem nd_T {c : Prop} [Decidable c] (h : ¬ c) : (!decide c) = true := by simp [h]
theorem nd_F {c : Prop} [Decidable c] (h : c) : (!decide c) = false := by simp [h]
end PV

set_option maxRecDepth 100000
set_option maxHeartbeats 2000000
namespace PV
open PySem L2
/-! ### dicts with keys that are ints and texts -/
def keyO : O → Option Key
  | .shr (.int i) => some (.inl i)
  | .shr (.str s) => some (.inr s)
  | _ => none
def valD (kvs : List (Key × D)) (k : Key) : Option D := (kvs.find? fun kv => decide (kv.1 = k)).map (·.2)
def putD (kvs : List (Key × D)) (k : Key) (d : D) : List (Key × D) :=
  if (kvs.any fun kv => decide (kv.1 = k)) = true then kvs.map (fun kv => if kv.1 = k then (kv.1, d) else kv) else kvs ++ [(k, d)]
section
variable {K : PySem.W.Frag} {Hs H : Hp} {v : V} {o : O}
theorem keyO_ok {k : Key} (h : keyO o = some k) (r : ROk K Hs H v o) : v = kV k := by
  cases o with
  | shr d =>
    cases d with
    | int i => cases h; cases r; rfl
    | str i => cases h; cases r; rfl
    | _ => cases h
  | _ => cases h
theorem dd_val {kvs : List (Key × D)} {es : List (Key × V)} (h : DdKv K Hs kvs es) (k : Key) : (valD kvs k = none → valV es k = none) ∧ ∀ d, valD kvs k = some d → ∃ v, valV es k = some v ∧ Dd K Hs d v := by
  induction kvs generalizing es with
  | nil => cases h; exact ⟨fun _ => rfl, fun d z => nomatch z⟩
  | cons p r ih =>
    cases h with
    | @cons k' d v ds vs hd ht =>
      by_cases e : k' = k
      · refine ⟨fun z => ?_, fun d' z => ⟨v, ?_, ?_⟩⟩
        · simp [valD, List.find?_cons, e] at z
        · exact valV_pos e
        · simp [valD, List.find?_cons, e] at z
          exact z ▸ hd
      · obtain ⟨h1, h2⟩ := ih ht
        have e1 : valD ((k', d) :: r) k = valD r k := by simp [valD, List.find?_cons, e]
        have e2 : valV ((k', v) :: vs) k = valV vs k := valV_neg e
        rw [e1, e2]
        exact ⟨h1, h2⟩
theorem dd_any {kvs : List (Key × D)} {es : List (Key × V)} (h : DdKv K Hs kvs es) (k : Key) : (kvs.any fun kv => decide (kv.1 = k)) = (es.any fun kv => decide (kv.1 = k)) := by
  induction kvs generalizing es with
  | nil => cases h; rfl
  | cons p r ih =>
    cases h with
    | cons hd ht => rw [List.any_cons, List.any_cons, ih ht]
theorem dd_app {kvs : List (Key × D)} {es : List (Key × V)} {k : Key} {d : D} {v : V} (h : DdKv K Hs kvs es) (hd : Dd K Hs d v) : DdKv K Hs (kvs ++ [(k, d)]) (es ++ [(k, v)]) := by
  induction kvs generalizing es with
  | nil => cases h; exact .cons hd .nil
  | cons p r ih =>
    cases h with
    | cons h1 ht => exact .cons h1 (ih ht)
theorem dd_map {kvs : List (Key × D)} {es : List (Key × V)} {k : Key} {d : D} {v : V} (h : DdKv K Hs kvs es) (hd : Dd K Hs d v) : DdKv K Hs (kvs.map fun kv => if kv.1 = k then (kv.1, d) else kv) (es.map fun kv => if kv.1 = k then (kv.1, v) else kv) := by
  induction kvs generalizing es with
  | nil => cases h; exact .nil
  | cons p r ih =>
    cases h with
    | @cons k' d' v' ds vs h1 ht =>
      by_cases e : k' = k
      · simp only [List.map_cons, e, if_true]; exact .cons hd (ih ht)
      · simp only [List.map_cons, e, if_false]; exact .cons h1 (ih ht)
theorem dd_put {kvs : List (Key × D)} {es : List (Key × V)} {d : D} {v : V} (h : DdKv K Hs kvs es) (k : Key) (hd : Dd K Hs d v) : DdKv K Hs (putD kvs k d) (putK es k v) := by
  unfold putD putK
  rw [← dd_any h k]
  split
  · exact dd_map h hd
  · exact dd_app h hd
theorem dd_len {kvs : List (Key × D)} {es : List (Key × V)} (h : DdKv K Hs kvs es) : es.length = kvs.length := by
  induction kvs generalizing es with
  | nil => cases h; rfl
  | cons p r ih =>
    cases h with
    | cons h1 ht => simp [ih ht]
end
def oDGet (x y : O) : Option O := (asK x).bind fun kvs => (keyO y).bind fun k => (valD kvs k).map .shr
def rDGet : R2 := fun x y H Q => ∃ a v, x = .ref a ∧ DGet H a y (some v) ∧ Q v H
theorem s_dget {K : PySem.W.Frag} : OpSat K rDGet oDGet := fun Hs H x y ox oy o sb kx ky e Q q => by
  simp only [oDGet, Option.bind_eq_some_iff, Option.map_eq_some_iff] at e
  obtain ⟨kvs, h1, k, h2, d, h3, rfl⟩ := e
  obtain ⟨a, es, rfl, ha, dd⟩ := asK_ok sb h1 kx
  obtain ⟨v, hv, dv⟩ := (dd_val dd k).2 d h3
  refine ⟨a, v, rfl, ?_, q.val sb dv⟩
  rw [keyO_ok h2 ky, ← hv]
  exact DGet.k ha
def oDIn (y x : O) : Option O := (asK x).bind fun kvs => (keyO y).map fun k => .shr (.bl (valD kvs k).isSome)
def rDIn : R2 := fun y x H Q => ∃ a o, x = .ref a ∧ DGet H a y o ∧ Q (.bl o.isSome) H
theorem s_din {K : PySem.W.Frag} : OpSat K rDIn oDIn := fun Hs H y x oy ox o sb ky kx e Q q => by
  simp only [oDIn, Option.bind_eq_some_iff, Option.map_eq_some_iff] at e
  obtain ⟨kvs, h1, k, h2, rfl⟩ := e
  obtain ⟨a, es, rfl, ha, dd⟩ := asK_ok sb h1 kx
  refine ⟨a, valV es k, rfl, ?_, ?_⟩
  · rw [keyO_ok h2 ky]
    exact DGet.k ha
  · have e : (valV es k).isSome = (valD kvs k).isSome := by
      cases h : valD kvs k with
      | none => rw [(dd_val dd k).1 h]; rfl
      | some d => obtain ⟨v, hv, _⟩ := (dd_val dd k).2 d h; rw [hv]; rfl
    rw [e]
    exact q.val sb (.bl _)
/-- o.get(k, x) -/
def vGet2 (fo fk fx : EF) : EF := fun env => (fo env).bind fun p => (hGet p.2 p.1).bind fun o0 => (asK o0).bind fun _ => (fk p.2).bind fun q => (fx q.2).bind fun r => (hGet r.2 p.1).bind fun o => (asK o).bind fun kvs => (hGet r.2 q.1).bind fun ok => (keyO ok).bind fun k =>
  match valD kvs k with
  | some d => some (.tmp (.shr d), r.2)
  | none => some (r.1, r.2)
theorem sat_get2 {K : PySem.W.Frag} {td ty tx : TE} {fo fk fx : EF} (ho : SatE K td fo) (hk : SatE K ty fk) (hx : SatE K tx fx) : SatE K (tDGet2 td ty tx) (vGet2 fo fk fx) := fun Hs H σ env h env' rr g Q q => by
  simp only [vGet2, Option.bind_eq_some_iff] at g
  obtain ⟨⟨x, e1⟩, g1, o0, g2, k0, g3, ⟨y, e2⟩, g4, ⟨z, e3⟩, g5, o, g6, kvs, g7, ok, g8, k, g9, g10⟩ := g
  refine ho Hs H σ env x e1 rr g1 _ fun Hs1 H1 v p1 k1 f1 => ?_
  obtain ⟨a, es0, rfl, ha0, _⟩ := asK_ok p1.r.sub g3 (k1.get p1.r g2)
  refine ⟨a, rfl, .inl ⟨es0, .inl ha0⟩, hk Hs1 H1 σ e1 y e2 p1.r g4 _ fun Hs2 H2 u p2 k2 f2 => hx Hs2 H2 σ e2 z e3 p2.r g5 _ fun Hs3 H3 w p3 k3 f3 => ?_⟩
  obtain ⟨a', es, ea, ha, dd⟩ := asK_ok p3.r.sub g7 (((k1.step p2).step p3).get p3.r g6)
  cases ea
  have ey := keyO_ok g9 ((k2.step p3).get p3.r g8)
  refine ⟨valV es k, by rw [ey]; exact DGet.k ha, ?_⟩
  have pp := (p1.trans p2).trans p3
  cases hv : valD kvs k with
  | none =>
    rw [hv] at g10
    obtain ⟨rfl, rfl⟩ := Prod.mk.inj (Option.some.inj g10)
    rw [(dd_val dd k).1 hv]
    exact q Hs3 H3 w pp k3 (HFr.back f3 (p1.trans p2).ext)
  | some d =>
    rw [hv] at g10
    obtain ⟨rfl, rfl⟩ := Prod.mk.inj (Option.some.inj g10)
    obtain ⟨v, hv', dv⟩ := (dd_val dd k).2 d hv
    rw [hv']
    exact q Hs3 H3 v pp ⟨dv, fun z => nomatch z⟩ fun z => nomatch z
/-- o.get(k) -/
def vGet1 (fo fk : EF) : EF := fun env => (fo env).bind fun p => (hGet p.2 p.1).bind fun o0 => (asK o0).bind fun _ => (fk p.2).bind fun q => (hGet q.2 p.1).bind fun o => (asK o).bind fun kvs => (hGet q.2 q.1).bind fun ok => (keyO ok).bind fun k =>
  some (.tmp (.shr ((valD kvs k).getD .non)), q.2)
theorem sat_get1 {K : PySem.W.Frag} {td ty : TE} {fo fk : EF} (ho : SatE K td fo) (hk : SatE K ty fk) : SatE K (tDGet1 td ty) (vGet1 fo fk) := fun Hs H σ env h env' rr g Q q => by
  simp only [vGet1, Option.bind_eq_some_iff] at g
  obtain ⟨⟨x, e1⟩, g1, o0, g2, k0, g3, ⟨y, e2⟩, g4, o, g6, kvs, g7, ok, g8, k, g9, g10⟩ := g
  refine ho Hs H σ env x e1 rr g1 _ fun Hs1 H1 v p1 k1 f1 => ?_
  obtain ⟨a, es0, rfl, ha0, _⟩ := asK_ok p1.r.sub g3 (k1.get p1.r g2)
  refine ⟨a, rfl, .inl ⟨es0, .inl ha0⟩, hk Hs1 H1 σ e1 y e2 p1.r g4 _ fun Hs2 H2 u p2 k2 f2 => ?_⟩
  obtain ⟨a', es, ea, ha, dd⟩ := asK_ok p2.r.sub g7 ((k1.step p2).get p2.r g6)
  cases ea
  have ey := keyO_ok g9 (k2.get p2.r g8)
  refine ⟨valV es k, by rw [ey]; exact DGet.k ha, ?_⟩
  obtain ⟨rfl, rfl⟩ := Prod.mk.inj (Option.some.inj g10)
  have dv : Dd K Hs2 ((valD kvs k).getD .non) ((valV es k).getD .non) := by
    cases hv : valD kvs k with
    | none => rw [(dd_val dd k).1 hv]; exact .non
    | some d => obtain ⟨v, hv', dv⟩ := (dd_val dd k).2 d hv; rw [hv']; exact dv
  exact q Hs2 H2 _ (p1.trans p2) ⟨dv, fun z => nomatch z⟩ fun z => nomatch z
/-- dict(x) -/
def rDictD : List V → Hp → VK → Prop := fun xs H Q => ∃ (a : Addr) (kvs : List (Key × V)), xs = [.ref a] ∧ Rd H a (.dK kvs) ∧ ∀ p, H p = none → Q (.ref p) (upd H p (.dK kvs))
def oDict : List O → Option O := one1 fun o => (asK o).map .od
theorem s_dict {K : PySem.W.Frag} : CallSat K rDictD oDict := sat_one fun Hs H x ox o sb k e Q q => by
  simp only [Option.map_eq_some_iff] at e
  obtain ⟨ds, hd, rfl⟩ := e
  obtain ⟨a, xs, rfl, hq, dd⟩ := asK_ok sb hd k
  exact ⟨a, xs, rfl, .inl hq, q.dic sb dd⟩
/-- {} -/
theorem sat_dnew {K : PySem.W.Frag} : SatE K tDNewK (vO (.od [])) := fun Hs H σ env h env' rr g Q q => by
  obtain ⟨rfl, rfl⟩ := Prod.mk.inj (Option.some.inj g)
  exact ((Po.refl rr).res q).dic rr.sub .nil
/-- d1 == d2, d1 != d2: where they are the same -/
def dEq (ks ls : List (Key × D)) : Bool := decide (ks.length = ls.length) && ks.all fun p => match flat? p.2, (valD ls p.1).bind flat? with
  | some v, some w => decide (v = w) && flatB v
  | _, _ => false
def oNeD (x y : O) : Option O := (asK x).bind fun ks => (asK y).bind fun ls => if dEq ks ls then some (.shr (.bl false)) else none
def oEqD (x y : O) : Option O := (asK x).bind fun ks => (asK y).bind fun ls => if dEq ks ls then some (.shr (.bl true)) else none
theorem flat_vd {K : PySem.W.Frag} {Hs : Hp} {d : D} {v w : V} (h : flat? d = some w) (k : Dd K Hs d v) : v = w := by
  cases d with
  | non => cases h; cases k; rfl
  | bl _ => cases h; cases k; rfl
  | int _ => cases h; cases k; rfl
  | str _ => cases h; cases k; rfl
  | _ => cases h
theorem dEq_ok {K : PySem.W.Frag} {Hs : Hp} {ks ls : List (Key × D)} {es fs : List (Key × V)} (h : dEq ks ls = true) (hk : DdKv K Hs ks es) (hl : DdKv K Hs ls fs) : es.length = fs.length ∧ ∀ p ∈ es, valV fs p.1 = some p.2 ∧ flatB p.2 = true := by
  unfold dEq at h
  rw [Bool.and_eq_true, decide_eq_true_eq] at h
  refine ⟨by rw [dd_len hk, dd_len hl, h.1], ?_⟩
  have h2 := h.2
  clear h
  induction ks generalizing es with
  | nil => cases hk; intro p hp; cases hp
  | cons q r ih =>
    cases hk with
    | @cons k d v ds vs h1 ht =>
      rw [List.all_cons, Bool.and_eq_true] at h2
      intro p hp
      rcases List.mem_cons.mp hp with rfl | hp
      · have h3 := h2.1
        split at h3
        · next v' w' e1 e2 =>
          rw [Bool.and_eq_true, decide_eq_true_eq] at h3
          simp only [Option.bind_eq_some_iff] at e2
          obtain ⟨d', e3, e4⟩ := e2
          obtain ⟨u, e5, e6⟩ := (dd_val hl k).2 d' e3
          have a := flat_vd e1 h1
          have b := flat_vd e4 e6
          refine ⟨?_, ?_⟩
          · show valV fs k = some v
            rw [e5, b, a, h3.1]
          · show flatB v = true
            rw [a]; exact h3.2
        · cases h3
      · exact ih ht h2.2 p hp
theorem s_neD {K : PySem.W.Frag} : OpSat K rNeDA oNeD := fun Hs H x y ox oy o sb kx ky e Q q => by
  simp only [oNeD, Option.bind_eq_some_iff] at e
  obtain ⟨ks, h1, ls, h2, h3⟩ := e
  split at h3
  · next c =>
    cases h3
    obtain ⟨a, es, rfl, ha, dd⟩ := asK_ok sb h1 kx
    obtain ⟨b, fs, rfl, hb, de⟩ := asK_ok sb h2 ky
    obtain ⟨l1, l2⟩ := dEq_ok c dd de
    exact ⟨a, b, es, fs, rfl, rfl, ha, hb, l1, l2, q.val sb (.bl _)⟩
  · cases h3
theorem s_eqD {K : PySem.W.Frag} : OpSat K rEqDA oEqD := fun Hs H x y ox oy o sb kx ky e Q q => by
  simp only [oEqD, Option.bind_eq_some_iff] at e
  obtain ⟨ks, h1, ls, h2, h3⟩ := e
  split at h3
  · next c =>
    cases h3
    obtain ⟨a, es, rfl, ha, dd⟩ := asK_ok sb h1 kx
    obtain ⟨b, fs, rfl, hb, de⟩ := asK_ok sb h2 ky
    obtain ⟨l1, l2⟩ := dEq_ok c dd de
    exact ⟨a, b, es, fs, rfl, rfl, ha, hb, l1, l2, q.val sb (.bl _)⟩
  · cases h3
/-- sep.join(xs) -/
def oJoin (x y : O) : Option O := (asS x).bind fun s => ((asLQ y).or (asT y)).bind fun ds => (asStrs ds).bind fun ys => if (ys.map (·.length)).sum + ys.length * s.length ≤ 16777216 then some (.shr (.str (Txt.join s ys))) else none
def rJoin (K : PySem.W.Frag) : V → List V → Hp → VK → Prop := fun x xs H Q => ∃ a p, ∃ ys : List Str, x = .str a ∧ xs = [.ref p] ∧ (SqL K H p (ys.map V.str) ∨ SqT K H p (ys.map V.str)) ∧ (ys.map (·.length)).sum + ys.length * a.length ≤ 16777216 ∧ Q (.str (Txt.join a ys)) H
def vJoin (fo fe : EF) : EF := fun env => (fo env).bind fun p => (hGet p.2 p.1).bind fun ox => (asS ox).bind fun s => (fe p.2).bind fun q => (hGet q.2 q.1).bind fun oy => (oJoin (.shr (.str s)) oy).bind fun o => some (.tmp o, q.2)
theorem sat_join {K : PySem.W.Frag} {to te : TE} {fo fe : EF} (ho : SatE K to fo) (he : SatE K te fe) : SatE K (tM1 (rJoin K) to te) (vJoin fo fe) := fun Hs H σ env h env' rr g Q q => by
  simp only [vJoin, Option.bind_eq_some_iff] at g
  obtain ⟨⟨x, e1⟩, g1, ox, g3, s, g5, ⟨y, e2⟩, g2, oy, g4, o, g6, g7⟩ := g
  obtain ⟨rfl, rfl⟩ := Prod.mk.inj (Option.some.inj g7)
  refine ho Hs H σ env x e1 rr g1 _ fun Hs1 H1 v p1 k1 f1 => ?_
  have ev := asS_ok g5 (k1.get p1.r g3)
  subst ev
  refine ⟨⟨s, rfl⟩, he Hs1 H1 σ e1 y _ p1.r g2 _ fun Hs2 H2 u p2 k2 f2 => ?_⟩
  simp only [oJoin, asS, Option.bind_some, Option.bind_eq_some_iff] at g6
  obtain ⟨ds, h1, ys, h2, h3⟩ := g6
  split at h3
  · next c =>
    cases h3
    have kk := k2.get p2.r g4
    cases e : asLQ oy with
    | some zs =>
      rw [e] at h1
      cases h1
      obtain ⟨a, xs, rfl, hq, dd⟩ := asLQ_ok p2.r.sub e kk
      have ex := asStrs_ok h2 dd
      subst ex
      exact ⟨s, a, ys, rfl, rfl, .inl hq, c, ((p1.trans p2).res q).val p2.r.sub (.str _)⟩
    | none =>
      rw [e] at h1
      obtain ⟨a, xs, rfl, hq, dd⟩ := asT_ok p2.r.sub h1 kk
      have ex := asStrs_ok h2 dd
      subst ex
      exact ⟨s, a, ys, rfl, rfl, .inr (SqT.of hq), c, ((p1.trans p2).res q).val p2.r.sub (.str _)⟩
  · cases h3
/-! ### {k: v, ..} -/
abbrev PsF := Sto → Option (List (Key × D) × Sto)
def SatPs (K : PySem.W.Frag) (trs : List (TE × TE)) (f : PsF) : Prop := ∀ Hs H σ env kvs env', R K Hs H σ env → f env = some (kvs, env') →
  ∀ Q : List (V × V) → Hp → Prop, (∀ Hs' H' es, Po K Hs H σ env Hs' H' σ env' → DdKv K Hs' kvs es → Q (es.map fun kv => (kV kv.1, kv.2)) H') → tPairs trs σ H Q
def pNil : PsF := fun env => some ([], env)
def pCons (fk : EF) (fv : DF) (r : PsF) : PsF := fun env => (fk env).bind fun p => (hGet p.2 p.1).bind fun ok => (keyO ok).bind fun k => (fv p.2).bind fun q => (r q.2).bind fun w => some ((k, q.1) :: w.1, w.2)
section
variable {K : PySem.W.Frag}
theorem sat_pNil : SatPs K [] pNil := fun Hs H σ env kvs env' rr g Q q => by
  obtain ⟨rfl, rfl⟩ := Prod.mk.inj (Option.some.inj g)
  exact q Hs H [] (Po.refl rr) .nil
theorem sat_pCons {tk tv : TE} {trs : List (TE × TE)} {fk : EF} {fv : DF} {r : PsF} (hk : SatE K tk fk) (hv : SatD K tv fv) (hr : SatPs K trs r) : SatPs K ((tk, tv) :: trs) (pCons fk fv r) := fun Hs H σ env kvs env' rr g Q q => by
  simp only [pCons, Option.bind_eq_some_iff] at g
  obtain ⟨⟨x, e1⟩, g1, ok, g2, k, g3, ⟨d, e2⟩, g4, ⟨w, e3⟩, g5, g6⟩ := g
  obtain ⟨rfl, rfl⟩ := Prod.mk.inj (Option.some.inj g6)
  refine hk Hs H σ env x e1 rr g1 _ fun Hs1 H1 v p1 k1 f1 => ?_
  have ev := keyO_ok g3 (k1.get p1.r g2)
  subst ev
  exact hv Hs1 H1 σ e1 d e2 p1.r g4 _ fun Hs2 H2 y p2 d2 => hr Hs2 H2 σ e2 w e3 p2.r g5 _ fun Hs3 H3 es p3 dd => q Hs3 H3 ((k, y) :: es) ((p1.trans p2).trans p3) (.cons (d2.mono p3.ext.hs) dd)
def mergeD (kvs more : List (Key × D)) : List (Key × D) := more.foldl (fun acc kv => putD acc kv.1 kv.2) kvs
theorem dd_merge {Hs : Hp} {more : List (Key × D)} : ∀ {ms : List (Key × V)} {kvs : List (Key × D)} {es : List (Key × V)}, DdKv K Hs more ms → DdKv K Hs kvs es → DdKv K Hs (mergeD kvs more) (mergeK es ms) := by
  induction more with
  | nil => intro ms kvs es h h2; cases h; exact h2
  | cons p r ih => intro ms kvs es h h2; cases h with | @cons k d v ds vs h1 ht => have z := ih ht (dd_put h2 k h1); exact z
def vDisp (f : PsF) : EF := fun env => (f env).bind fun p => if p.1.length ≤ 15 then some (.tmp (.od (mergeD [] p.1)), p.2) else none
/-- a new cell that nobody else has may be written -/
theorem Po.cell {Hs H Hs2 H2 : Hp} {σ : L2.St} {env env2 : Sto} {p : Addr} {u u0 : HO} (n : H p = none) (sb : ∀ a o, Hs a = some o → H a = some o) (rr : R K Hs H σ env) (p2 : Po K Hs (upd H p u0) σ env Hs2 H2 σ env2) (hs : Hs2 p = none) : Po K Hs H σ env Hs2 (upd H2 p u) σ env2 ∧ (∀ i, owns env2 i → σ[i]? ≠ some (some (.ref p))) := by
  have e0 : Po K Hs H σ env Hs (upd H p u0) σ env := Po.keep rr (ext_new n sb) (sub_new n sb)
  have pp := e0.trans p2
  have no : ∀ i, owns env i → σ[i]? ≠ some (some (.ref p)) := fun i ⟨s, es, ow⟩ ev => by
    obtain ⟨v, e, k⟩ := rr.ok i s es
    rw [ev] at e
    cases e
    obtain ⟨a, w, ea, _, hu⟩ := k.ref ow
    cases ea
    rw [n] at hu; cases hu
  have no2 : ∀ i, owns env2 i → σ[i]? ≠ some (some (.ref p)) := fun i oi ev => by
    rcases p2.own i p oi ev with ⟨o, e, _⟩ | z
    · exact no i o e
    · rw [upd_same] at z; cases z
  refine ⟨⟨⟨pp.r.len, fun a o h => ?_, fun i s es => ?_, pp.r.inj⟩, ⟨pp.ext.hs, fun a o h m => ?_, pp.ext.out, fun a o h => ?_⟩, pp.own, pp.pin, pp.lk, pp.np⟩, no2⟩
  · have : a ≠ p := fun z => by rw [z, hs] at h; cases h
    rw [upd_ne this]; exact pp.r.sub a o h
  · obtain ⟨v, ev, k⟩ := pp.r.ok i s es
    refine ⟨v, ev, ?_⟩
    cases hw : s.o.own with
    | false =>
      cases ho : s.o with
      | shr d => rw [ho] at k; exact k
      | ol _ => rw [ho] at hw; cases hw
      | od _ => rw [ho] at hw; cases hw
    | true =>
      have hne : v ≠ .ref p := fun z => no2 i ⟨s, es, hw⟩ (z ▸ ev)
      cases ho : s.o with
      | shr d => rw [ho] at hw; cases hw
      | ol ds =>
        rw [ho] at k
        obtain ⟨a, xs, rfl, k1, k2, k3⟩ := k
        exact ⟨a, xs, rfl, k1, by rw [upd_ne fun z => hne (by rw [z])]; exact k2, k3⟩
      | od ds =>
        rw [ho] at k
        obtain ⟨a, xs, rfl, k1, k2, k3⟩ := k
        exact ⟨a, xs, rfl, k1, by rw [upd_ne fun z => hne (by rw [z])]; exact k2, k3⟩
  · have : a ≠ p := fun z => by rw [z, n] at h; cases h
    rw [upd_ne this]; exact pp.ext.kp a o h m
  · by_cases z : a = p
    · exact ⟨u, by rw [z, upd_same]⟩
    · rw [upd_ne z]; exact pp.ext.dom a o h
theorem sat_disp {trs : List (TE × TE)} {f : PsF} (hf : SatPs K trs f) : SatE K (tDisp trs) (vDisp f) := fun Hs H σ env h env' rr g Q q => by
  simp only [vDisp, Option.bind_eq_some_iff] at g
  obtain ⟨⟨kvs, e1⟩, g1, g2⟩ := g
  split at g2
  · next hl =>
    obtain ⟨rfl, rfl⟩ := Prod.mk.inj (Option.some.inj g2)
    intro p n
    have e0 : Po K Hs H σ env Hs (upd H p (.dK [])) σ env := Po.keep rr (ext_new n rr.sub) (sub_new n rr.sub)
    refine hf Hs (upd H p (.dK [])) σ env kvs e1 e0.r g1 _ fun Hs2 H2 es p2 dd => ?_
    have nm : ¬ Mof σ env p := fun ⟨i, m, e⟩ => by
      obtain ⟨s, es, ow⟩ := m.owns
      obtain ⟨v, e', k⟩ := rr.ok i s es
      rw [e] at e'
      cases e'
      obtain ⟨a, w, ea, _, hu⟩ := k.ref ow
      cases ea
      rw [n] at hu; cases hu
    have hp := p2.ext.kp p _ upd_same nm
    have hs := p2.ext.out p _ upd_same (none_s n rr.sub) nm
    refine ⟨hp, es, rfl, by rw [dd_len dd]; exact hl, ?_⟩
    obtain ⟨p3, no⟩ := Po.cell (u := .dK (mergeK [] es)) n rr.sub rr p2 hs
    refine q Hs2 _ (.ref p) p3 ⟨⟨p, _, rfl, hs, upd_same, dd_merge dd .nil⟩, fun _ => no⟩ fun _ a e => ?_
    cases e
    exact n
  · cases g2
/-! ### d[k] = v, d one's own -/
def putO (k : Key) (d : D) : O → Option (D × O) := fun o => match o with
  | .od kvs => if kvs.length < 1000000 then some (.non, .od (putD kvs k d)) else none
  | _ => none
def sSetDx (i : Nat) (fv : DF) (fi : EF) : SF := fun env => (fv env).bind fun p => if kindS p.2 i = "dict" then (fi p.2).bind fun q => (hGet q.2 q.1).bind fun o => (keyO o).bind fun k => (mutS q.2 i (putO k p.1)).bind fun w => some (.nx w.2) else none
theorem sat_setDx {i : Nat} {tv ti : TE} {fv : DF} {fi : EF} (hv : SatD K tv fv) (hi : SatE K ti fi) : SatS K (sDPut (tVar i) ti tv) (sSetDx i fv fi) := fun Hs H σ env out rr g DE k => by
  simp only [sSetDx, Option.bind_eq_some_iff] at g
  obtain ⟨⟨d, e1⟩, g1, g⟩ := g
  split at g
  · next hk =>
    simp only [Option.bind_eq_some_iff] at g
    obtain ⟨⟨x, e2⟩, g2, o, g3, kk, g4, ⟨dn, e3⟩, g5, g6⟩ := g
    cases g6
    refine hv Hs H σ env d e1 rr g1 _ fun Hs1 H1 v p1 d1 => ?_
    obtain ⟨w, ew⟩ := slot_of p1.r hk (by decide)
    refine ⟨w, ew, hi Hs1 H1 σ e1 x e2 p1.r g2 _ fun Hs2 H2 iv p2 k2 f2 => ?_⟩
    obtain ⟨a, o, o', rfl, ko, ow, hg, go⟩ := (p1.trans p2).mutted ew g5
    have ey := keyO_ok g4 (k2.get p2.r g3)
    subst ey
    unfold putO at hg
    split at hg
    · next kvs =>
      split at hg
      · next hl =>
        cases hg
        obtain ⟨b, es, eb, n, hx, tx⟩ := ko
        cases eb
        have hz : es.length < sizeLine := by rw [dd_len tx, sizeLine_eq]; omega
        exact ⟨a, _, rfl, DPut.k hx hz, k Hs2 _ σ (go _ ⟨a, _, rfl, n, upd_same, dd_put tx kk (d1.mono p2.ext.hs)⟩)⟩
      · cases hg
    · cases hg
  · cases g
end
/-! ### the rules for the text -/
section
variable {X : Cx} {a b c o e k v : Expr} {es : List Expr} {ta tb tc te to tk tv : TE} {fa fb fc fo fe fk : EF} {fv : DF} {pos apos cpos : Pos}
theorem v_dget (hu : X.A.units + 64 < cLine) (ha : VE X a ta fa) (hb : VE X b tb fb) (hs : NoSl b := by exact fun _ _ => rfl) : VE X (.Subscript a b pos) (tDGet ta tb) (vBin oDGet fa fb) := ⟨pe_dget (by omega) ha.pe hb.pe hs, sat_bin s_dget ha.sat hb.sat⟩
theorem v_get2 (hu : X.A.units + 64 < cLine) (ha : VE X a ta fa) (hb : VE X b tb fb) (hc : VE X c tc fc) (m1 : attributeBase a "get" X.env (eval a X.env) = eval a X.env := by rfl) (m2 : ((backTo cpos (starEach [b, c] X.env)).all (fun x => !x.1) && (backToKw cpos (keywordEach [] X.env)).all (fun x => x.1.isSome)
    && decide (([b, c] : List Expr).length + ([] : List Keyword).length + (if ([] : List Keyword).isEmpty then 0 else 1) < 30)) = true := by rfl) (m3 : (apos.endLine == cpos.line) = true := by rfl) (m4 : backTo cpos (starEach [b, c] X.env) = [(false, eval b X.env), (false, eval c X.env)] := by rfl) :
    VE X (.Call (.Attribute a "get" apos) [b, c] [] cpos) (tDGet2 ta tb tc) (vGet2 fa fb fc) := ⟨pe_dget2 (by omega) ha.pe hb.pe hc.pe ⟨m1, m2, m3, m4⟩, sat_get2 ha.sat hb.sat hc.sat⟩
theorem v_get1 (hu : X.A.units + 64 < cLine) (ha : VE X a ta fa) (hb : VE X b tb fb) (m1 : attributeBase a "get" X.env (eval a X.env) = eval a X.env := by rfl) (m2 : ((backTo cpos (starEach [b] X.env)).all (fun x => !x.1) && (backToKw cpos (keywordEach [] X.env)).all (fun x => x.1.isSome)
    && decide (([b] : List Expr).length + ([] : List Keyword).length + (if ([] : List Keyword).isEmpty then 0 else 1) < 30)) = true := by rfl) (m3 : (apos.endLine == cpos.line) = true := by rfl) (m4 : backTo cpos (starEach [b] X.env) = [(false, eval b X.env)] := by rfl) :
    VE X (.Call (.Attribute a "get" apos) [b] [] cpos) (tDGet1 ta tb) (vGet1 fa fb) := ⟨pe_dget1 (by omega) ha.pe hb.pe ⟨m1, m2, m3, m4⟩, sat_get1 ha.sat hb.sat⟩
theorem v_dnew : VE X (.Dict [] [] pos) tDNewK (vO (.od [])) := ⟨pe_dnewK, sat_dnew⟩
structure VPs (X : Cx) (pos : Pos) (keys : List (Option Expr)) (values : List Expr) (trs : List (TE × TE)) (f : PsF) : Prop where
  pe : PPs X pos keys values trs
  sat : SatPs X.K trs f
theorem vps_nil : VPs X pos [] [] [] pNil := ⟨pps_nil, sat_pNil⟩
theorem vps_cons {ks : List (Option Expr)} {vs : List Expr} {trs : List (TE × TE)} {f : PsF} (hk : VE X k tk fk) (hv : VE X v tv fe) (hr : VPs X pos ks vs trs f) : VPs X pos (some k :: ks) (v :: vs) ((tk, tv) :: trs) (pCons fk (vTake fe) f) := ⟨pps_cons hk.pe hv.pe hr.pe, sat_pCons hk.sat (sat_take hv.sat) hr.sat⟩
theorem v_disp {keys : List (Option Expr)} {values : List Expr} {trs : List (TE × TE)} {f : PsF} (h : VPs X pos keys values trs f) (h1 : keys.all (·.isSome) = true := by rfl) (h2 : keys.length = values.length := by rfl) (h3 : keys ≠ [] := by exact List.cons_ne_nil _ _) (h4 : keys.length ≤ 15 := by decide) : VE X (.Dict keys values pos) (tDisp trs) (vDisp f) := ⟨pe_disp h.pe h1 h2 h3 h4, sat_disp h.sat⟩
theorem v_join {K : PySem.W.Frag} (ho : VE X o to fo) (he : VE X e te fe) (hs : starEach [e] X.env = [(false, eval e X.env)] := by rfl) (hbase : attributeBase o "join" X.env (eval o X.env) = eval o X.env := by rfl) (hline : (apos.endLine == pos.line) = true := by rfl) (eK : X.K = K := by rfl) :
    VE X (.Call (.Attribute o "join" apos) [e] [] pos) (tM1 (rJoin K) to te) (vJoin fo fe) := by subst eK; exact ⟨pe_join ho.pe he.pe hs hbase hline, sat_join ho.sat he.sat⟩
theorem v_setDx (i : Nat) {x : Str} {px p2 : Pos} {ix : Expr} {ti : TE} {fi : EF} (hu : X.A.units + 64 < cLine) (ho : VE X (.Name x px) (tVar i) (vVar i)) (hi : VE X ix ti fi) (hv : VE X e te fe) (hs : swapsWith e (some (.Subscript (.Name x px) ix p2)) pos.line X.env = pure false := by rfl) :
    VS X (.Assign [.Subscript (.Name x px) ix p2] e pos) (sDPut (tVar i) ti te) (sSetDx i (vTake fe) fi) := ⟨ps_dput (by omega) ho.pe hi.pe hv.pe hs, sat_setDx (sat_take hv.sat) hi.sat⟩
theorem call_dictR {X : Cx} : CallR X (.type "dict") rDictD := call_dictD
theorem op_neDK {X : Cx} (hu : X.A.units + 64 < cLine) : OpR X (compareOp .NotEq) rNeDA := op_ne_dictA (by omega)
theorem op_eqDK {X : Cx} (hu : X.A.units + 64 < cLine) : OpR X (compareOp .Eq) rEqDA := op_eq_dictA (by omega)
theorem v_globC {x : Str} {i : Int} (h : ∃ t, X.mg x = some (.int i t)) (hg : Gl X x := by rfl) (hd : (x == ("__debug__" : Str)) = false := by decide) : VE X (.Name x pos) (tC (.int i)) (vC (.int i)) := by
  obtain ⟨t, e⟩ := h
  exact v_globI hg e ⟨t, rfl⟩ hd
def sPar3 (i j l : Nat) (f : DsF) : SF := fun env => (f env).bind fun p => match p.1 with
  | [a, b, c] => (setS p.2 i (.shr a)).bind fun e1 => (setS e1 j (.shr b)).bind fun e2 => (setS e2 l (.shr c)).bind fun e3 => some (.nx e3)
  | _ => none
theorem sat_par3 {K : PySem.W.Frag} {i j l : Nat} {t : TA} {fds : DsF} (h : SatDs K t fds) : SatS K (tPar3 i j l t) (sPar3 i j l fds) := fun Hs H σ env out rr e DE k => by
  simp only [sPar3, Option.bind_eq_some_iff] at e
  obtain ⟨⟨ds, e1⟩, g1, g2⟩ := e
  refine h Hs H σ env ds e1 rr g1 _ fun Hs1 H1 vs p1 d1 => ?_
  match ds, d1, g2 with
  | [a, b, c], .cons da (.cons db (.cons dc .nil)), g2 =>
    simp only [Option.bind_eq_some_iff] at g2
    obtain ⟨e2, g3, e3, g4, e4, g5, g6⟩ := g2
    cases g6
    exact ⟨_, _, _, rfl, k Hs1 H1 _ (((p1.setD da g3).setD db g4).setD dc g5)⟩
theorem v_par3 (i j l : Nat) {x y z : Str} {fds : DsF} {t : TA} {px py pz pt : Pos} {kt k2 pt2} (hN : X.N.Nodup) (ha : VDs X [a, b, c] t fds) (hw : swappedStores [.Tuple [.Name x px, .Name y py, .Name z pz] kt pt] (.Tuple [a, b, c] k2 pt2) X.env = pure (some [x, y, z]) := by rfl) (hi : X.N[i]? = some x := by rfl) (hj : X.N[j]? = some y := by rfl) (hl : X.N[l]? = some z := by rfl) (hij : i ≠ j := by decide) (hil : i ≠ l := by decide) (hjl : j ≠ l := by decide)
    (hx : X.env.scope.names.lookup x = some .local := by rfl) (hy : X.env.scope.names.lookup y = some .local := by rfl) (hz : X.env.scope.names.lookup z = some .local := by rfl) (hc : X.calm = true := by rfl)
    (hs : swapsWithSole [.Tuple [.Name x px, .Name y py, .Name z pz] kt pt] (.Tuple [a, b, c] k2 pt2) pos.line X.env = pure false := by rfl) :
    VS X (.Assign [.Tuple [.Name x px, .Name y py, .Name z pz] kt pt] (.Tuple [a, b, c] k2 pt2) pos) (tPar3 i j l t) (sPar3 i j l fds) := ⟨ps_par3 hc hN hi hj hl hij hil hjl hx hy hz ha.pe hw hs, sat_par3 ha.sat⟩
end
end PV

set_option maxRecDepth 100000
set_option maxHeartbeats 2000000
namespace PV
open PySem L2
/-! ### running rules: dicts, join, three names at once -/
section
variable {env env' env1 : Sto} {fa fb fc : EF} {i j l : Nat} {d : D} {kvs ks : List (Key × D)} {k : Key} {p lk : Bool}
theorem xe_o {o : O} {Q : Hnd → Sto → Prop} (q : Q (.tmp o) env) : XE (vO o) env Q := ⟨_, _, rfl, q⟩
def getQ (kvs : List (Key × D)) (k : Key) (c : Hnd) (e : Sto) (Q : Hnd → Sto → Prop) : Prop := match valD kvs k with
  | some d => Q (.tmp (.shr d)) e
  | none => Q c e
theorem get_s {c : Hnd} {Q : Hnd → Sto → Prop} (h : valD kvs k = some d) (q : Q (.tmp (.shr d)) env) : getQ kvs k c env Q := by unfold getQ; rw [h]; exact q
theorem get_n {c : Hnd} {Q : Hnd → Sto → Prop} (h : valD kvs k = none) (q : Q c env) : getQ kvs k c env Q := by unfold getQ; rw [h]; exact q
theorem xe_get2 {Q : Hnd → Sto → Prop} (h : XE fa env fun a e => XO (hGet e a) fun x0 => XO (asK x0) fun _ => XE fb e fun b e1 => XE fc e1 fun c e2 => XO (hGet e2 a) fun x => XO (asK x) fun kvs => XO (hGet e2 b) fun y => XO (keyO y) fun k => getQ kvs k c e2 Q) : XE (vGet2 fa fb fc) env Q := by
  obtain ⟨a, e, h1, x0, h2, k0, h3, b, e1, h4, c, e2, h5, x, h6, kvs, h7, y, h8, k, h9, q⟩ := h
  unfold getQ at q
  cases hv : valD kvs k with
  | none => rw [hv] at q; exact ⟨c, e2, by simp only [vGet2, h1, Option.bind_some, h2, h3, h4, h5, h6, h7, h8, h9, hv], q⟩
  | some d => rw [hv] at q; exact ⟨.tmp (.shr d), e2, by simp only [vGet2, h1, Option.bind_some, h2, h3, h4, h5, h6, h7, h8, h9, hv], q⟩
theorem xe_get1 {Q : Hnd → Sto → Prop} (h : XE fa env fun a e => XO (hGet e a) fun x0 => XO (asK x0) fun _ => XE fb e fun b e1 => XO (hGet e1 a) fun x => XO (asK x) fun kvs => XO (hGet e1 b) fun y => XO (keyO y) fun k => Q (.tmp (.shr ((valD kvs k).getD .non))) e1) : XE (vGet1 fa fb) env Q := by
  obtain ⟨a, e, h1, x0, h2, k0, h3, b, e1, h4, x, h6, kvs, h7, y, h8, k, h9, q⟩ := h
  exact ⟨_, _, by simp only [vGet1, h1, Option.bind_some, h2, h3, h4, h6, h7, h8, h9], q⟩
theorem ak_o {Q : List (Key × D) → Prop} (q : Q kvs) : XO (asK (.od kvs)) Q := ⟨_, rfl, q⟩
theorem ak_s {Q : List (Key × D) → Prop} (q : Q kvs) : XO (asK (.shr (.dk kvs))) Q := ⟨_, rfl, q⟩
theorem ko_s {s : Str} {Q : Key → Prop} (q : Q (.inr s)) : XO (keyO (.shr (.str s))) Q := ⟨_, rfl, q⟩
theorem ko_i {s : Int} {Q : Key → Prop} (q : Q (.inl s)) : XO (keyO (.shr (.int s))) Q := ⟨_, rfl, q⟩
theorem xo_dget {x y : O} {Q : O → Prop} (h : XO (asK x) fun kvs => XO (keyO y) fun k => XO (valD kvs k) fun d => Q (.shr d)) : XO (oDGet x y) Q := by
  obtain ⟨kvs, h1, k, h2, d, h3, q⟩ := h
  exact ⟨_, by simp only [oDGet, h1, Option.bind_some, h2, h3, Option.map_some], q⟩
theorem xo_din {x y : O} {Q : O → Prop} (h : XO (asK x) fun kvs => XO (keyO y) fun k => Q (.shr (.bl (valD kvs k).isSome))) : XO (oDIn y x) Q := by
  obtain ⟨kvs, h1, k, h2, q⟩ := h
  exact ⟨_, by simp only [oDIn, h1, Option.bind_some, h2, Option.map_some], q⟩
theorem xo_dict {x : O} {Q : O → Prop} (h : XO (asK x) fun kvs => Q (.od kvs)) : XO (oDict [x]) Q := by
  obtain ⟨kvs, h1, q⟩ := h
  exact ⟨_, by simp only [oDict, one1, h1, Option.map_some], q⟩
theorem xo_neD {x y : O} {Q : O → Prop} (h : XO (asK x) fun ks => XO (asK y) fun ls => dEq ks ls = true ∧ Q (.shr (.bl false))) : XO (oNeD x y) Q := by
  obtain ⟨ks, h1, ls, h2, h3, q⟩ := h
  exact ⟨_, by simp only [oNeD, h1, Option.bind_some, h2, h3, if_true], q⟩
theorem xo_eqD {x y : O} {Q : O → Prop} (h : XO (asK x) fun ks => XO (asK y) fun ls => dEq ks ls = true ∧ Q (.shr (.bl true))) : XO (oEqD x y) Q := by
  obtain ⟨ks, h1, ls, h2, h3, q⟩ := h
  exact ⟨_, by simp only [oEqD, h1, Option.bind_some, h2, h3, if_true], q⟩
def XPs (f : PsF) (env : Sto) (Q : List (Key × D) → Sto → Prop) : Prop := ∃ h e, f env = some (h, e) ∧ Q h e
theorem xps_nil {Q : List (Key × D) → Sto → Prop} (q : Q [] env) : XPs pNil env Q := ⟨_, _, rfl, q⟩
theorem xps_cons {fv : DF} {r : PsF} {Q : List (Key × D) → Sto → Prop} (h : XE fa env fun a e => XO (hGet e a) fun x => XO (keyO x) fun k => XD fv e fun d e1 => XPs r e1 fun kvs e2 => Q ((k, d) :: kvs) e2) : XPs (pCons fa fv r) env Q := by
  obtain ⟨a, e, h1, x, h2, k, h3, d, e1, h4, kvs, e2, h5, q⟩ := h
  exact ⟨_, _, by simp only [pCons, h1, Option.bind_some, h2, h3, h4, h5], q⟩
theorem xe_disp {f : PsF} {Q : Hnd → Sto → Prop} (h : XPs f env fun kvs e => kvs.length ≤ 15 ∧ Q (.tmp (.od (mergeD [] kvs))) e) : XE (vDisp f) env Q := by
  obtain ⟨kvs, e, h1, h2, q⟩ := h
  exact ⟨_, _, by simp only [vDisp, h1, Option.bind_some, if_pos h2], q⟩
theorem len15 {kvs : List (Key × D)} {p : Prop} (h : kvs.length ≤ 15) (q : p) : kvs.length ≤ 15 ∧ p := ⟨h, q⟩
theorem xe_join {Q : Hnd → Sto → Prop} (h : XE fa env fun a e => XO (hGet e a) fun x => XO (asS x) fun s => XE fb e fun b e1 => XO (hGet e1 b) fun y => XO (oJoin (.shr (.str s)) y) fun z => Q (.tmp z) e1) : XE (vJoin fa fb) env Q := by
  obtain ⟨a, e, h1, x, h2, s, h3, b, e1, h4, y, h5, z, h6, q⟩ := h
  exact ⟨_, _, by simp only [vJoin, h1, Option.bind_some, h2, h3, h4, h5, h6], q⟩
theorem xas {s : Str} {Q : Str → Prop} (q : Q s) : XO (asS (.shr (.str s))) Q := ⟨_, rfl, q⟩
theorem xo_joinL {s : Str} {ds : List D} {ys : List Str} {Q : O → Prop} (h : asStrs ds = some ys) (hl : (ys.map (·.length)).sum + ys.length * s.length ≤ 16777216) (q : Q (.shr (.str (Txt.join s ys)))) : XO (oJoin (.shr (.str s)) (.ol ds)) Q :=
  ⟨_, by simp only [oJoin, asS, Option.bind_some, asLQ, Option.some_or, h, if_pos hl], q⟩
def XSd (i : Nat) (d : D) (fi : EF) (e : Sto) (Q : Out → Prop) : Prop := kindS e i = "dict" ∧ XE fi e fun a e1 => XO (hGet e1 a) fun x => XO (keyO x) fun k => XM i (putO k d) e1 fun _ e => Q (.nx e)
theorem xs_setDx {fv : DF} {fi : EF} {Q : Out → Prop} (h : XD fv env fun d e => XSd i d fi e Q) : XS (sSetDx i fv fi) env Q := by
  obtain ⟨d, e, h1, hk, a, e1, h2, x, h3, k, h4, w, h5, q⟩ := h
  exact ⟨_, by simp only [sSetDx, h1, Option.bind_some, if_pos hk, h2, h3, h4, h5], q⟩
theorem xsd {fi : EF} {Q : Out → Prop} (h0 : At env i (.od kvs) p lk) (h : XE fi env fun a e1 => XO (hGet e1 a) fun x => XO (keyO x) fun k => XM i (putO k d) e1 fun _ e => Q (.nx e)) : XSd i d fi env Q := ⟨by rw [kindS, h0.at]; rfl, h⟩
theorem xm_put {Q : D → Sto → Prop} (h0 : At env i (.od kvs) p lk) (hl : kvs.length < 1000000) (h : Chg env i (.od kvs) (.od (putD kvs k d)) env') (q : Q .non env') : XM i (putO k d) env Q := xm2 h (by simp only [putO, if_pos hl]) rfl rfl q
theorem xs_par3 {f : DsF} {Q : Out → Prop} (h : XDs f env fun ds e => ∃ a b c, ds = [a, b, c] ∧ XO (setS e i (.shr a)) fun e1 => XO (setS e1 j (.shr b)) fun e2 => XO (setS e2 l (.shr c)) fun e3 => Q (.nx e3)) : XS (sPar3 i j l f) env Q := by
  obtain ⟨ds, e, h1, a, b, c, rfl, e1, h2, e2, h3, e3, h4, q⟩ := h
  exact ⟨_, by simp only [sPar3, h1, Option.bind_some, h2, h3, h4], q⟩
theorem par3 {a b c : D} {P : D → D → D → Prop} (h : P a b c) : ∃ x y z, [a, b, c] = [x, y, z] ∧ P x y z := ⟨_, _, _, rfl, h⟩
/-! comprehensions over two names -/
def lcQ2 (g : GF) (f : DF) (v w : Nat) (Q : Hnd → Sto → Prop) (ds : List D) (lk : Option (Nat × Slot)) (e : Sto) : Prop := match lk with
    | none => ∃ e1 e1' x y, SetAt e w none e1 ∧ SetAt e1 v none e1' ∧ Slt e w x ∧ Slt e v y ∧ XC g bYes f [v, w] ds [] e1' fun acc e2 => ∃ e3 e3', SetAt e2 w x e3 ∧ SetAt e3 v y e3' ∧ Q (.tmp (.ol acc)) e3'
    | some (i, s) => ∃ e0 e1 e1' x y, SetAt e i (some { s with lk := true }) e0 ∧ SetAt e0 w none e1 ∧ SetAt e1 v none e1' ∧ Slt e0 w x ∧ Slt e0 v y ∧ XC g bYes f [v, w] ds [] e1' fun acc e2 => ∃ e3 e3' e4, SetAt e2 w x e3 ∧ SetAt e3 v y e3' ∧ SetAt e3' i (some s) e4 ∧ Q (.tmp (.ol acc)) e4
theorem xe_lc2 {fi : IF} {g : GF} {f : DF} {v w : Nat} {Q : Hnd → Sto → Prop} (h : XI fi env (lcQ2 g f v w Q)) : XE (vLc fi g bYes f [v, w]) env Q := by
  refine xe_lc ?_
  obtain ⟨ds, lk, e, h1, h2⟩ := h
  refine ⟨ds, lk, e, h1, ?_⟩
  match lk, h2 with
  | none, ⟨e1, e1', x, y, h3, h3', h4, h4', acc, e2, h5, e3, e3', h6, h6', q⟩ =>
    have a := h3.eq
    subst a
    have a := h3'.eq
    subst a
    refine ⟨acc, e2, h5, ?_⟩
    have b : restE e2 e [v, w] = e3' := by rw [← h6'.eq, ← h6.eq, ← h4.at, ← h4'.at]; rfl
    show Q _ (restE e2 e [v, w])
    rw [b]; exact q
  | some (i, s), ⟨e0, e1, e1', x, y, h3, h7, h8, h4, h4', acc, e2, h5, e3, e3', e4, h6, h6', h9, q⟩ =>
    have a := h3.eq
    subst a
    have a := h7.eq
    subst a
    have a := h8.eq
    subst a
    refine ⟨acc, e2, h5, ?_⟩
    have b : restE e2 (e.set i (some { s with lk := true })) [v, w] = e3' := by rw [← h6'.eq, ← h6.eq, ← h4.at, ← h4'.at]; rfl
    show Q _ ((restE e2 (e.set i (some { s with lk := true })) [v, w]).set i (some s))
    rw [b, h9.eq]; exact q
theorem lc2_n {g : GF} {f : DF} {v w : Nat} {Q : Hnd → Sto → Prop} {ds : List D} {x y : Option Slot} {e1 e1' : Sto} (h1 : SetAt env w none e1) (h2 : SetAt e1 v none e1') (h3 : Slt env w x) (h4 : Slt env v y) (h : XC g bYes f [v, w] ds [] e1' fun acc e2 => ∃ e3 e3', SetAt e2 w x e3 ∧ SetAt e3 v y e3' ∧ Q (.tmp (.ol acc)) e3') : lcQ2 g f v w Q ds none env := ⟨_, _, _, _, h1, h2, h3, h4, h⟩
theorem lc2_l {g : GF} {f : DF} {v w : Nat} {Q : Hnd → Sto → Prop} {ds : List D} {x y : Option Slot} {o : O} {e0 e1 e1' : Sto} (h0 : SetAt env i (some ⟨o, p, true⟩) e0) (h1 : SetAt e0 w none e1) (h2 : SetAt e1 v none e1') (h3 : Slt e0 w x) (h4 : Slt e0 v y) (h : XC g bYes f [v, w] ds [] e1' fun acc e2 => ∃ e3 e3' e4, SetAt e2 w x e3 ∧ SetAt e3 v y e3' ∧ SetAt e3' i (some ⟨o, p, lk⟩) e4 ∧ Q (.tmp (.ol acc)) e4) : lcQ2 g f v w Q ds (some (i, ⟨o, p, lk⟩)) env := ⟨_, _, _, _, _, h0, h1, h2, h3, h4, h⟩
def accQ2 (acc : List D) (v w : Nat) (I : List D → Sto → Prop) (y : D) (e : Sto) : Prop := acc.length < 1000000 ∧ ∃ e' e'', SetAt e w none e' ∧ SetAt e' v none e'' ∧ I (acc ++ [y]) e''
theorem xc2_cons {g : GF} {f : DF} {v w : Nat} {ds acc : List D} {Q : List D → Sto → Prop} (h : XO (g d env) fun e1 => XD f e1 (accQ2 acc v w fun acc' e' => XC g bYes f [v, w] ds acc' e' Q)) : XC g bYes f [v, w] (d :: ds) acc env Q :=
  xc_cons (h.mono fun e1 h1 => by
    obtain ⟨y, e3, h2, h3, e', e'', h4, h4', h5⟩ := h1
    refine ⟨true, e1, rfl, fun _ => ⟨y, e3, h2, h3, ?_⟩, fun z => nomatch z⟩
    have b := h4.eq
    subst b
    have b := h4'.eq
    subst b
    exact h5)
theorem xc2_nil {g : GF} {f : DF} {v w : Nat} {acc : List D} {Q : List D → Sto → Prop} (q : Q acc env) : XC g bYes f [v, w] [] acc env Q := xc_nil q
theorem acc2 {acc : List D} {v w : Nat} {I : List D → Sto → Prop} {y : D} {e' e'' : Sto} (h : acc.length < 1000000) (h2 : SetAt env w none e') (h3 : SetAt e' v none e'') (q : I (acc ++ [y]) e'') : accQ2 acc v w I y env := ⟨h, _, _, h2, h3, q⟩
/-! the same -/
theorem dEq_self {kvs : List (Key × D)} (h : (kvs.map (·.1)).Nodup) (hf : ∀ p ∈ kvs, ∃ v, flat? p.2 = some v ∧ flatB v = true) : dEq kvs kvs = true := by
  unfold dEq
  rw [Bool.and_eq_true]
  refine ⟨decide_eq_true rfl, ?_⟩
  have key : ∀ (l : List (Key × D)), (l.map (·.1)).Nodup → ∀ p ∈ l, valD l p.1 = some p.2 := by
    intro l
    induction l with
    | nil => intro _ p hp; cases hp
    | cons q r ih =>
      intro hn p hp
      rw [List.map_cons, List.nodup_cons] at hn
      rcases List.mem_cons.mp hp with rfl | hp
      · simp [valD, List.find?_cons]
      · have hne : ¬ q.1 = p.1 := fun z => hn.1 (z ▸ List.mem_map.mpr ⟨p, hp, rfl⟩)
        have := ih hn.2 p hp
        simpa [valD, List.find?_cons, hne] using this
  rw [List.all_eq_true]
  intro p hp
  obtain ⟨v, h1, h2⟩ := hf p hp
  rw [key kvs h p hp, Option.bind_some, h1]
  simp [h2]
end
end PV

set_option maxRecDepth 100000
set_option maxHeartbeats 2000000
namespace PV
open PySem L2 PySem.Spec PyProof.Rows
/-! ### pop(), pop(0), str.index, str of a text, a list times a number, a text in a text, a written dict of the module -/
section
variable {K : PySem.W.Frag}
def mPop0 : List D → O → Option (D × O) := fun ds o => match ds, o with
  | [.int 0], .ol (e :: es) => some (e, .ol es)
  | _, _ => none
theorem s_pop0 : MtSat K rPopAt mPop0 := fun Hs H a o ds vs d o' sb k ow dd e Q q => by
  unfold mPop0 at e
  split at e
  · next x es =>
    cases e
    obtain ⟨b, xs, eb, n, hx, tx⟩ := k
    cases eb
    cases dd with
    | cons d1 d2 =>
      cases d2
      cases d1
      cases tx with
      | @cons _ y _ ys h1 h2 =>
        refine ⟨a, y :: ys, 0, 0, y, rfl, rfl, hx, by decide, by decide, ?_, rfl, q _ _ h1 ⟨a, _, rfl, n, upd_same, h2⟩⟩
        simp [seqIndex?]
  · cases e
def oStrS : List O → Option O := one1 fun o => (asS o).map fun s => .shr (.str s)
def oStrA (os : List O) : Option O := (oStr os).or (oStrS os)
def rStrA : List V → Hp → VK → Prop := fun xs H Q => rStrI xs H Q ∨ ∃ a, xs = [.str a] ∧ Q (.str a) H
theorem s_strA : CallSat K rStrA oStrA := by
  refine CallSat.or s_str (sat_one fun Hs H x ox o sb k e Q q => ?_)
  simp only [Option.map_eq_some_iff] at e
  obtain ⟨s, hs, rfl⟩ := e
  exact ⟨s, by rw [asS_ok hs k], q.val sb (.str _)⟩
theorem call_strA {X : Cx} : CallR X (.type "str") rStrA := call_str_int.or SkE.call_str_str
def oRep (x y : O) : Option O := (asL x).bind fun ds => (asI y).bind fun k => if ds.length ≤ 1000 ∧ -1000 ≤ k ∧ k ≤ 1000 then some (.ol (List.replicate k.toNat ds).flatten) else none
theorem DdAll.rep {Hs : Hp} {ds : List D} {xs : List V} (h : DdAll K Hs ds xs) : ∀ n : Nat, DdAll K Hs (List.replicate n ds).flatten (List.replicate n xs).flatten
  | 0 => .nil
  | n + 1 => by
    rw [List.replicate_succ, List.replicate_succ, List.flatten_cons, List.flatten_cons]
    exact h.append (DdAll.rep h n)
theorem s_rep : OpSat K rRep oRep := by
  intro Hs H x y ox oy o sb kx ky e Q q
  simp only [oRep, Option.bind_eq_some_iff] at e
  obtain ⟨ds, h1, k, h2, e⟩ := e
  split at e
  · next h =>
    cases e
    obtain ⟨a, xs, rfl, ha, da⟩ := asL_ok sb h1 kx
    refine ⟨a, k, xs, rfl, asI_ok h2 ky, ha, by omega, by omega, ?_, q.lst sb (da.rep _)⟩
    rw [da.length]
    have z : k.toNat ≤ 1000 := by omega
    exact Nat.le_trans (Nat.mul_le_mul h.1 z) (by decide)
  · cases e
def oInStr (x y : O) : Option O := (asS x).bind fun i => (asS y).map fun j => .shr (.bl (!(Builtin.Str.occurrences j i 0 j.length 1).isEmpty))
def rInStr : R2 := fun x y H Q => ∃ i j, x = .str i ∧ y = .str j ∧ Q (.bl (!(Builtin.Str.occurrences j i 0 j.length 1).isEmpty)) H
theorem s_inStr : OpSat K rInStr oInStr := by
  intro Hs H x y ox oy o sb kx ky e Q q
  simp only [oInStr, Option.bind_eq_some_iff, Option.map_eq_some_iff] at e
  obtain ⟨i, hi, j, hj, rfl⟩ := e
  exact ⟨i, j, asS_ok hi kx, asS_ok hj ky, q.val sb (.bl _)⟩
theorem op_inStrR {X : Cx} : OpR X (compareOp .In) rInStr := op_in_str
def oNotInStr (x y : O) : Option O := (asS x).bind fun i => (asS y).map fun j => .shr (.bl (!(!(Builtin.Str.occurrences j i 0 j.length 1).isEmpty)))
def rNotInStr : R2 := fun x y H Q => ∃ i j, x = .str i ∧ y = .str j ∧ Q (.bl (!(!(Builtin.Str.occurrences j i 0 j.length 1).isEmpty))) H
theorem s_notInStr : OpSat K rNotInStr oNotInStr := by
  intro Hs H x y ox oy o sb kx ky e Q q
  simp only [oNotInStr, Option.bind_eq_some_iff, Option.map_eq_some_iff] at e
  obtain ⟨i, hi, j, hj, rfl⟩ := e
  exact ⟨i, j, asS_ok hi kx, asS_ok hj ky, q.val sb (.bl _)⟩
theorem op_notInStrR {X : Cx} : OpR X (compareOp .NotIn) rNotInStr := op_notIn_str
/-! a.index(b), texts -/
def oSidx (x y : O) : Option O := (asS x).bind fun a => (asS y).bind fun b => match Builtin.Str.occurrences a b 0 a.length 1 with
  | i :: _ => some (.shr (.int (i : Nat)))
  | [] => none
def rSidx : V → List V → Hp → VK → Prop := fun x xs H Q => ∃ a b i rest, x = .str a ∧ xs = [.str b] ∧ Builtin.Str.occurrences a b 0 a.length 1 = i :: rest ∧ Q (.int (i : Nat)) H
def vSidx (fo fe : EF) : EF := fun env => (fo env).bind fun p => (hGet p.2 p.1).bind fun ox => (asS ox).bind fun s => (fe p.2).bind fun q => (hGet q.2 q.1).bind fun oy => (oSidx (.shr (.str s)) oy).bind fun o => some (.tmp o, q.2)
theorem sat_sidx {to te : TE} {fo fe : EF} (ho : SatE K to fo) (he : SatE K te fe) : SatE K (tM1 rSidx to te) (vSidx fo fe) := fun Hs H σ env h env' rr g Q q => by
  simp only [vSidx, Option.bind_eq_some_iff] at g
  obtain ⟨⟨x, e1⟩, g1, ox, g3, s, g5, ⟨y, e2⟩, g2, oy, g4, o, g6, g7⟩ := g
  obtain ⟨rfl, rfl⟩ := Prod.mk.inj (Option.some.inj g7)
  refine ho Hs H σ env x e1 rr g1 _ fun Hs1 H1 v p1 k1 f1 => ?_
  have ev := asS_ok g5 (k1.get p1.r g3)
  subst ev
  refine ⟨⟨s, rfl⟩, he Hs1 H1 σ e1 y _ p1.r g2 _ fun Hs2 H2 u p2 k2 f2 => ?_⟩
  simp only [oSidx, asS, Option.bind_some, Option.bind_eq_some_iff] at g6
  obtain ⟨b, h1, h2⟩ := g6
  have kk := k2.get p2.r g4
  have eu := asS_ok (o := oy) h1 kk
  subst eu
  split at h2
  · next i rest hh =>
    cases h2
    exact ⟨s, b, i, rest, rfl, rfl, hh, ((p1.trans p2).res q).val p2.r.sub (.int _)⟩
  · cases h2
/-! a written dict of the module: texts to texts -/
def TabOk : List DictEntry → List (Str × Str) → Prop
  | [], [] => True
  | e :: r, p :: s => (∃ t, e.key = .str p.1 t) ∧ (∃ t, e.val = .str p.2 t) ∧ TabOk r s
  | _, _ => False
theorem TabOk.find {z : Str} : ∀ {l : List DictEntry} {kvs : List (Str × Str)}, TabOk l kvs → (match kvs.lookup z with
    | some v => ∃ e t, l.find? (·.key.isStr z) = some e ∧ e.val = .str v t
    | none => l.find? (·.key.isStr z) = none ∧ l.any (·.refKey) = false)
  | [], [], _ => ⟨rfl, rfl⟩
  | [], _ :: _, h => h.elim
  | _ :: _, [], h => h.elim
  | e :: r, p :: s, ⟨⟨t, h1⟩, ⟨t2, h2⟩, h3⟩ => by
    obtain ⟨k, v⟩ := p
    have ih := TabOk.find (z := z) h3
    have ek : e.key.isStr z = (k == z) := by rw [h1]; rfl
    have er : e.refKey = false := by unfold DictEntry.refKey; rw [h1]
    by_cases c : z = k
    · subst c
      have e1 : (z == z) = true := by simp
      rw [List.lookup_cons, e1]
      exact ⟨e, t2, by rw [List.find?_cons, ek, e1], h2⟩
    · have e1 : (z == k) = false := by simpa using c
      have e2 : (k == z) = false := by simpa using fun w : k = z => c w.symm
      rw [List.lookup_cons, e1]
      dsimp only
      cases hl : s.lookup z with
      | some w =>
        rw [hl] at ih
        obtain ⟨e', t', h4, h5⟩ := ih
        exact ⟨e', t', by rw [List.find?_cons, ek, e2]; exact h4, h5⟩
      | none =>
        rw [hl] at ih
        exact ⟨by rw [List.find?_cons, ek, e2]; exact ih.1, by rw [List.any_cons, er, ih.2] <;> rfl⟩
/-- where it stands -/
structure TabAt (K : PySem.W.Frag) (w : World) (d : Addr) (kvs : List (Str × Str)) : Prop where
  ex : ∃ es n, KDict K w d es n ∧ TabOk es.toList kvs
theorem TabAt.some {w : World} {d : Addr} {kvs : List (Str × Str)} {z v : Str} {es : Array DictEntry} {n : Nat} (D : KDict K w d es n) (h : TabOk es.toList kvs) (hl : kvs.lookup z = some v) : ∃ t, PySem.W.nsIn K d z = some (some (.str v t)) := by
  have q := h.find (z := z)
  rw [hl] at q
  obtain ⟨e, t, h1, h2⟩ := q
  refine ⟨t, ?_⟩
  unfold PySem.W.nsIn
  rw [D.at_]
  dsimp only
  rw [h1, ← h2]
theorem TabAt.none {w : World} {d : Addr} {kvs : List (Str × Str)} {z : Str} {es : Array DictEntry} {n : Nat} (D : KDict K w d es n) (h : TabOk es.toList kvs) (hl : kvs.lookup z = none) : PySem.W.nsIn K d z = Option.some Option.none := by
  have q := h.find (z := z)
  rw [hl] at q
  unfold PySem.W.nsIn
  rw [D.at_]
  dsimp only
  rw [q.1, q.2] <;> rfl
def oInG (kvs : List (Str × Str)) (x : O) : Option O := (asS x).map fun s => .shr (.bl (kvs.lookup s).isSome)
def oIxG (kvs : List (Str × Str)) (x : O) : Option O := (asS x).bind fun s => (kvs.lookup s).map fun t => .shr (.str t)
def rInG (K : PySem.W.Frag) (d : Addr) : R2 := fun x y H Q => ∃ (z : Str) (r : Option Value), x = .str z ∧ y = .ref d ∧ PySem.W.nsIn K d z = some r ∧ Q (.bl r.isSome) H
theorem s_inG {w : World} {d : Addr} {kvs : List (Str × Str)} (T : TabAt K w d kvs) : UnSat K (fun x H Q => rInG K d x (.ref d) H Q) (oInG kvs) := by
  intro Hs H x ox o sb kx e Q q
  obtain ⟨es, n, D, h⟩ := T.ex
  simp only [oInG, Option.map_eq_some_iff] at e
  obtain ⟨z, hz, rfl⟩ := e
  have ex := asS_ok hz kx
  cases hl : kvs.lookup z with
  | some v =>
    rw [hl] at q
    obtain ⟨t, ht⟩ := TabAt.some D h hl
    exact ⟨z, _, ex, rfl, ht, q.val sb (.bl _)⟩
  | none =>
    rw [hl] at q
    exact ⟨z, _, ex, rfl, TabAt.none D h hl, q.val sb (.bl _)⟩
theorem s_ixG {w : World} {d : Addr} {kvs : List (Str × Str)} (T : TabAt K w d kvs) : UnSat K (fun x H Q => rIxD K w (.ref d) x H Q) (oIxG kvs) := by
  intro Hs H x ox o sb kx e Q q
  obtain ⟨es, n, D, h⟩ := T.ex
  simp only [oIxG, Option.bind_eq_some_iff, Option.map_eq_some_iff] at e
  obtain ⟨z, hz, v, hl, rfl⟩ := e
  have ex := asS_ok hz kx
  obtain ⟨t, ht⟩ := TabAt.some D h hl
  exact ⟨d, z, .str v, rfl, ex, ⟨es, n, _, D.at_, D.lit, ht, ⟨t, rfl⟩⟩, q.val sb (.str _)⟩
end
/-! ### the rules for the text -/
section
variable {X : Cx} {a b c o e k v : Expr} {es : List Expr} {ta tb tc te to tk tv : TE} {fa fb fc fo fe fk : EF} {pos apos cpos : Pos}
theorem v_pop {x : Str} {p : Pos} (i : Nat) (ho : VE X (.Name x p) (tVar i) (vVar i)) (hbase : attributeBase (.Name x p) "pop" X.env (eval (.Name x p) X.env) = eval (.Name x p) X.env := by rfl) (hline : (apos.endLine == cpos.line) = true := by rfl) :
    VE X (.Call (.Attribute (.Name x p) "pop" apos) [] [] cpos) (tBM0 X.K "list" rPop (tVar i)) (vMt i "list" mPop vNilD) :=
  ⟨pe_bm0 PySem.F.plainAttrs_list PySem.F.slot_list_pop PySem.F.type_list_pop mt_pop ho.pe hbase hline, sat_mt0 s_pop (by decide)⟩
theorem v_pop0 {x : Str} {p : Pos} (i : Nat) (ho : VE X (.Name x p) (tVar i) (vVar i)) (h : VE X e te fe)
    (hbase : attributeBase (.Name x p) "pop" X.env (eval (.Name x p) X.env) = eval (.Name x p) X.env := by rfl)
    (hfew : ((backTo cpos (starEach [e] X.env)).all (fun x => !x.1) && (backToKw cpos (keywordEach [] X.env)).all (fun x => x.1.isSome)
      && decide (([e] : List Expr).length + ([] : List Keyword).length + (if ([] : List Keyword).isEmpty then 0 else 1) < 30)) = true := by rfl)
    (hline : (apos.endLine == cpos.line) = true := by rfl) (hst : starEach [e] X.env = (false, eval e X.env) :: starEach [] X.env := by rfl) (hplain : (backTo cpos (starEach [] X.env)).any (·.1) = false := by rfl) :
    VE X (.Call (.Attribute (.Name x p) "pop" apos) [e] [] cpos) (tBM X.K "list" rPopAt (tVar i) (tCons te tNil)) (vMt i "list" mPop0 (vConsD (vTake fe) vNilD)) :=
  v_mt i PySem.F.plainAttrs_list PySem.F.slot_list_pop PySem.F.type_list_pop mt_popAt s_pop0 (by decide) ho (vds_cons h vds_nil hst) hbase hfew hline hst hplain
theorem v_sidx (ho : VE X o to fo) (he : VE X e te fe) (hs : starEach [e] X.env = [(false, eval e X.env)] := by rfl) (hbase : attributeBase o "index" X.env (eval o X.env) = eval o X.env := by rfl) (hline : (apos.endLine == pos.line) = true := by rfl) :
    VE X (.Call (.Attribute o "index" apos) [e] [] pos) (tM1 rSidx to te) (vSidx fo fe) := ⟨pe_m1 PySem.F.slot_str_index PySem.F.type_str_index mt_sindex ho.pe he.pe hs hbase hline, sat_sidx ho.sat he.sat⟩
theorem v_rep (ha : VE X a ta fa) (hb : VE X b tb fb) : VE X (.BinOp a .Mult b pos) (tOp rRep ta tb) (vBin oRep fa fb) := ⟨pe_op op_rep ha.pe hb.pe, sat_bin s_rep ha.sat hb.sat⟩
/-- the dict of the module under the name x -/
structure TabG (K : PySem.W.Frag) (w : World) (mg : Str → Option Value) (x : Str) (kvs : List (Str × Str)) : Prop where
  ex : ∃ d, mg x = some (.ref d) ∧ TabAt K w d kvs
theorem v_inG {x : Str} {p : Pos} {kvs : List (Str × Str)} {K : PySem.W.Frag} {w : World} {mg : Str → Option Value} (T : TabG K w mg x kvs) (ha : VE X a ta fa) (hg : Gl X x := by rfl) (hd : (x == ("__debug__" : Str)) = false := by decide) (hm : behindInMarks .In (.Name x p) = false := by first | exact nomark _ (by decide) (by decide) | rfl)
    (eK : X.K = K := by rfl) (ew : X.w = w := by rfl) (em : X.mg = mg := by rfl) :
    VE X (.Compare a [.In] [.Name x p] pos) (tOp (rInG K T.ex.choose) ta (tC (.ref T.ex.choose))) (vUn (oInG kvs) fa) := by
  subst eK ew em
  obtain ⟨h1, h2⟩ := T.ex.choose_spec
  obtain ⟨es, n, D, _⟩ := h2.ex
  exact ⟨pe_cmpR (op_in_kd D) ha.pe (pe_glob hg h1 rfl hd) hm, sat_un (s_inG h2) ha.sat⟩
theorem vt_inG {x : Str} {p : Pos} {kvs : List (Str × Str)} {K : PySem.W.Frag} {w : World} {mg : Str → Option Value} (T : TabG K w mg x kvs) (ha : VE X a ta fa) (hg : Gl X x := by rfl) (hd : (x == ("__debug__" : Str)) = false := by decide) (hm : behindInMarks .In (.Name x p) = false := by first | exact nomark _ (by decide) (by decide) | rfl)
    (eK : X.K = K := by rfl) (ew : X.w = w := by rfl) (em : X.mg = mg := by rfl) :
    VT X (.Compare a [.In] [.Name x p] pos) (tTest (tOp (rInG K T.ex.choose) ta (tC (.ref T.ex.choose)))) (bVal (vUn (oInG kvs) fa)) := by
  subst eK ew em
  obtain ⟨h1, h2⟩ := T.ex.choose_spec
  obtain ⟨es, n, D, _⟩ := h2.ex
  exact ⟨pt_cmpR (op_in_kd D) ha.pe (pe_glob hg h1 rfl hd) hm, sat_test (sat_un (s_inG h2) ha.sat)⟩
theorem v_ixG {x : Str} {p : Pos} {kvs : List (Str × Str)} {K : PySem.W.Frag} {w : World} {mg : Str → Option Value} (T : TabG K w mg x kvs) (hb : VE X b tb fb) (hg : Gl X x := by rfl) (hd : (x == ("__debug__" : Str)) = false := by decide) (hs : PlainIx b := by exact fun _ _ => rfl)
    (eK : X.K = K := by rfl) (ew : X.w = w := by rfl) (em : X.mg = mg := by rfl) :
    VE X (.Subscript (.Name x p) b pos) (tOp (rIxD K w) (tC (.ref T.ex.choose)) tb) (vUn (oIxG kvs) fb) := by
  subst eK ew em
  obtain ⟨h1, h2⟩ := T.ex.choose_spec
  exact ⟨pe_ix ix_kdict (pe_glob hg h1 rfl hd) hb.pe hs, sat_un (s_ixG h2) hb.sat⟩
end
/-! ### running rules -/
section
variable {env env' env1 : Sto} {fa fb fc : EF} {i j l : Nat} {d : D} {p lk : Bool}
theorem xo_strAS {s : Str} {Q : O → Prop} (q : Q (.shr (.str s))) : XO (oStrA [.shr (.str s)]) Q := ⟨_, by simp [oStrA, oStr, oStrS, one1, asI, asS], q⟩
theorem xo_strAI {x : Int} {Q : O → Prop} (h : x.natAbs.log2 < 1920) (q : Q (.shr (.str (toString x)))) : XO (oStrA [.shr (.int x)]) Q := ⟨_, by simp [oStrA, oStr, oStrS, one1, asI, asS, h], q⟩
theorem xo_rep {x : O} {ds : List D} {k : Int} {Q : O → Prop} (h : asL x = some ds) (hl : ds.length ≤ 1000 ∧ -1000 ≤ k ∧ k ≤ 1000) (q : Q (.ol (List.replicate k.toNat ds).flatten)) : XO (oRep x (.shr (.int k))) Q := ⟨_, by simp only [oRep, h, asI, Option.bind_some, if_pos hl], q⟩
theorem xo_inStr {s t : Str} {Q : O → Prop} (q : Q (.shr (.bl (!(Builtin.Str.occurrences t s 0 t.length 1).isEmpty)))) : XO (oInStr (.shr (.str s)) (.shr (.str t))) Q := ⟨_, rfl, q⟩
theorem xo_notInStr {s t : Str} {Q : O → Prop} (q : Q (.shr (.bl (!(!(Builtin.Str.occurrences t s 0 t.length 1).isEmpty))))) : XO (oNotInStr (.shr (.str s)) (.shr (.str t))) Q := ⟨_, rfl, q⟩
theorem xo_inG {kvs : List (Str × Str)} {s : Str} {Q : O → Prop} (q : Q (.shr (.bl (kvs.lookup s).isSome))) : XO (oInG kvs (.shr (.str s))) Q := ⟨_, rfl, q⟩
theorem xo_ixG {kvs : List (Str × Str)} {s t : Str} {Q : O → Prop} (h : kvs.lookup s = some t) (q : Q (.shr (.str t))) : XO (oIxG kvs (.shr (.str s))) Q := ⟨_, by simp only [oIxG, asS, Option.bind_some, h, Option.map_some], q⟩
theorem xe_sidx {Q : Hnd → Sto → Prop} (h : XE fa env fun a e => XO (hGet e a) fun x => XO (asS x) fun s => XE fb e fun b e1 => XO (hGet e1 b) fun y => XO (oSidx (.shr (.str s)) y) fun z => Q (.tmp z) e1) : XE (vSidx fa fb) env Q := by
  obtain ⟨a, e, h1, x, h2, s, h3, b, e1, h4, y, h5, z, h6, q⟩ := h
  exact ⟨_, _, by simp only [vSidx, h1, Option.bind_some, h2, h3, h4, h5, h6], q⟩
theorem xo_sidx {s t : Str} {n : Nat} {r : List Nat} {Q : O → Prop} (h : Builtin.Str.occurrences s t 0 s.length 1 = n :: r) (q : Q (.shr (.int (n : Nat)))) : XO (oSidx (.shr (.str s)) (.shr (.str t))) Q := ⟨_, by simp only [oSidx, asS, Option.bind_some, h], q⟩
theorem xm_pop0 {ds : List D} {e : D} {Q : D → Sto → Prop} (h0 : At env i (.ol (e :: ds)) p lk) (h : Chg env i (.ol (e :: ds)) (.ol ds) env') (q : Q e env') : XM i (mPop0 [.int 0]) env Q := xm2 h (by rfl) rfl rfl q
theorem xm_pop {ds : List D} {e : D} {Q : D → Sto → Prop} (h0 : At env i (.ol (ds ++ [e])) p lk) (h : Chg env i (.ol (ds ++ [e])) (.ol ds) env') (q : Q e env') : XM i (mPop []) env Q := xm2 h (by simp [mPop]) rfl rfl q
end
end PV

set_option maxRecDepth 100000
set_option maxHeartbeats 2000000
namespace PV
open PySem L2 PySem.Spec PyProof.Rows
/-! ### two comparisons in a row, texts compared, startswith, find, zip -/
section
variable {K : PySem.W.Frag}
def vChain (op op' : O → O → Option O) (fa fb fc : EF) : EF := fun env => (fa env).bind fun p => (fb p.2).bind fun q => (hGet q.2 p.1).bind fun x => (hGet q.2 q.1).bind fun y => (op x y).bind fun z => (asB z).bind fun k =>
  if k = true then (fc q.2).bind fun s => (hGet s.2 q.1).bind fun y' => (hGet s.2 s.1).bind fun w => (op' y' w).bind fun o => some (.tmp o, s.2) else some (.tmp (.shr (.bl false)), q.2)
theorem sat_chain {r r' : R2} {op op' : O → O → Option O} {ta tb tc : TE} {fa fb fc : EF} (hop : OpSat K r op) (hop' : OpSat K r' op') (ha : SatE K ta fa) (hb : SatE K tb fb) (hc : SatE K tc fc) : SatE K (tChain r r' ta tb tc) (vChain op op' fa fb fc) := fun Hs H σ env h env' rr g Q q => by
  simp only [vChain, Option.bind_eq_some_iff] at g
  obtain ⟨⟨x, e1⟩, g1, ⟨y, e2⟩, g2, ox, g3, oy, g4, oz, g5, k, g6, g7⟩ := g
  refine ha Hs H σ env x e1 rr g1 _ fun Hs1 H1 v p1 k1 f1 => ?_
  refine hb Hs1 H1 σ e1 y e2 p1.r g2 _ fun Hs2 H2 u p2 k2 f2 => ?_
  refine hop Hs2 H2 v u ox oy oz p2.r.sub ((k1.step p2).get p2.r g3) (k2.get p2.r g4) g5 _ fun Hs3 H3 z e sb kz fz => ?_
  have p3 := Po.keep p2.r e sb
  have ez := asB_ok g6 kz
  refine ⟨k, ez, ?_⟩
  cases k with
  | true =>
    simp only [if_true, Option.bind_eq_some_iff] at g7 ⊢
    obtain ⟨⟨c, e3⟩, g8, oy', g9, ow, g10, o, g11, g12⟩ := g7
    obtain ⟨rfl, rfl⟩ := Prod.mk.inj (Option.some.inj g12)
    refine hc Hs3 H3 σ e2 c e3 p3.r g8 _ fun Hs4 H4 w p4 k4 f4 => ?_
    exact hop' Hs4 H4 u w oy' ow o p4.r.sub (((k2.step p3).step p4).get p4.r g9) (k4.get p4.r g10) g11 Q ((((p1.trans p2).trans p3).trans p4).res q)
  | false =>
    simp only [Bool.false_eq_true, if_false] at g7 ⊢
    obtain ⟨rfl, rfl⟩ := Prod.mk.inj (Option.some.inj g7)
    exact (((p1.trans p2).trans p3).res q).val p3.r.sub (.bl _)
/-- texts -/
def ltS (a b : Str) : Bool := decide (a.cps.toList < b.cps.toList)
def oLtS (x y : O) : Option O := (asS x).bind fun a => (asS y).map fun b => .shr (.bl (decide (a.cps.toList < b.cps.toList)))
def oLeS (x y : O) : Option O := (asS x).bind fun a => (asS y).map fun b => .shr (.bl (!decide (b.cps.toList < a.cps.toList)))
def rLeS : R2 := fun x y H Q => ∃ i j, x = .str i ∧ y = .str j ∧ Q (.bl (!decide (j.cps.toList < i.cps.toList))) H
theorem s_leS : OpSat K rLeS oLeS := by
  intro Hs H x y ox oy o sb kx ky e Q q
  simp only [oLeS, Option.bind_eq_some_iff, Option.map_eq_some_iff] at e
  obtain ⟨i, hi, j, hj, rfl⟩ := e
  exact ⟨i, j, asS_ok hi kx, asS_ok hj ky, q.val sb (.bl _)⟩
theorem op_leSR {X : Cx} : OpR X (compareOp .LtE) rLeS := op_le_str
/-- methods of a text with one text: startswith, find -/
def vSm (g : Str → Str → D) (fo fe : EF) : EF := fun env => (fo env).bind fun p => (hGet p.2 p.1).bind fun ox => (asS ox).bind fun s => (fe p.2).bind fun q => (hGet q.2 q.1).bind fun oy => (asS oy).bind fun t => some (.tmp (.shr (g s t)), q.2)
def rSm (gv : Str → Str → V) : V → List V → Hp → VK → Prop := fun x xs H Q => ∃ a b, x = .str a ∧ xs = [.str b] ∧ Q (gv a b) H
theorem sat_sm {g : Str → Str → D} {gv : Str → Str → V} {to te : TE} {fo fe : EF} (hg : ∀ Hs a b, Dd K Hs (g a b) (gv a b)) (ho : SatE K to fo) (he : SatE K te fe) : SatE K (tM1 (rSm gv) to te) (vSm g fo fe) := fun Hs H σ env h env' rr e Q q => by
  simp only [vSm, Option.bind_eq_some_iff] at e
  obtain ⟨⟨x, e1⟩, g1, ox, g3, s, g5, ⟨y, e2⟩, g2, oy, g4, t, g6, g7⟩ := e
  obtain ⟨rfl, rfl⟩ := Prod.mk.inj (Option.some.inj g7)
  refine ho Hs H σ env x e1 rr g1 _ fun Hs1 H1 v p1 k1 f1 => ?_
  have ev := asS_ok g5 (k1.get p1.r g3)
  subst ev
  refine ⟨⟨s, rfl⟩, he Hs1 H1 σ e1 y _ p1.r g2 _ fun Hs2 H2 u p2 k2 f2 => ?_⟩
  have eu := asS_ok g6 (k2.get p2.r g4)
  subst eu
  exact ⟨s, t, rfl, rfl, ((p1.trans p2).res q).val p2.r.sub (hg Hs2 s t)⟩
/-- zip of two lists, shared from here on -/
def iZipD (f : DsF) : IF := fun env => (f env).bind fun p => match p.1 with
  | [.lst xs, .lst ys] => some ((List.zipWith (fun x y => D.tup [x, y]) xs ys, none), p.2)
  | _ => none
theorem sat_zip {t : TA} {f : DsF} (h : SatDs K t f) : SatI K (iZip K t) (iZipD f) := fun Hs H σ env ds l env1 r g Rr q => by
  simp only [iZipD, Option.bind_eq_some_iff] at g
  obtain ⟨⟨zs, e1⟩, g1, g2⟩ := g
  split at g2
  · next xs ys hz =>
    dsimp only at hz
    subst hz
    cases g2
    refine h Hs H σ env _ e1 r g1 _ fun Hs1 H1 vs p1 dd => ?_
    cases dd with
    | cons da db =>
      cases db with
      | cons db dn =>
        cases dn
        cases da with
        | @lst a us _ ha dx =>
          cases db with
          | @lst b ws _ hb dy =>
            refine ⟨a, b, us, ws, rfl, SqL.of (p1.r.sub _ _ ha), SqL.of (p1.r.sub _ _ hb), q Hs1 H1 _ p1 trivial fun Hs2 H2 x sb i => ?_⟩
            have qa : SqL K H2 a us := SqL.of (sb _ _ (x.hs _ _ ha))
            have qb : SqL K H2 b ws := SqL.of (sb _ _ (x.hs _ _ hb))
            refine ⟨fun d ed => ?_, fun hi => ⟨us, ws, qa, qb, ?_⟩⟩
            · rw [List.getElem?_zipWith] at ed
              cases ex : xs[i]? with
              | none => rw [ex] at ed; cases ed
              | some dx1 =>
                cases ey : ys[i]? with
                | none => rw [ex, ey] at ed; cases ed
                | some dy1 =>
                  rw [ex, ey] at ed
                  cases ed
                  obtain ⟨u, eu, du⟩ := dx.get ex
                  obtain ⟨w, ew, dw⟩ := dy.get ey
                  refine ⟨⟨us, ws, u, w, qa, qb, eu, ew⟩, fun y H3 yl => ?_⟩
                  obtain ⟨T, x1, y1, rfl, hT, rfl, h1, h2⟩ := yl
                  have e1' := h1 us qa
                  have e2' := h2 ws qb
                  rw [eu] at e1'
                  rw [ew] at e2'
                  cases e1'
                  cases e2'
                  have mono := x.hs
                  refine ⟨upd Hs2 T (.tup [u, w]), ext_newS hT sb, sub_newS sb, .tup upd_same (.cons ?_ (.cons ?_ .nil))⟩
                  · exact (du.mono mono).mono (ext_newS hT sb).hs
                  · exact (dw.mono mono).mono (ext_newS hT sb).hs
            · rw [List.length_zipWith] at hi
              rw [dx.length, dy.length]
              omega
  · cases g2
/-! a written dict of the module: texts to numbers -/
def TabOkI : List DictEntry → List (Str × Int) → Prop
  | [], [] => True
  | e :: r, p :: s => (∃ t, e.key = .str p.1 t) ∧ (∃ t, e.val = .int p.2 t) ∧ TabOkI r s
  | _, _ => False
theorem TabOkI.find {z : Str} : ∀ {l : List DictEntry} {kvs : List (Str × Int)}, TabOkI l kvs → (match kvs.lookup z with
    | some v => ∃ e t, l.find? (·.key.isStr z) = some e ∧ e.val = .int v t
    | none => l.find? (·.key.isStr z) = none ∧ l.any (·.refKey) = false)
  | [], [], _ => ⟨rfl, rfl⟩
  | [], _ :: _, h => h.elim
  | _ :: _, [], h => h.elim
  | e :: r, p :: s, ⟨⟨t, h1⟩, ⟨t2, h2⟩, h3⟩ => by
    obtain ⟨k, v⟩ := p
    have ih := TabOkI.find (z := z) h3
    have ek : e.key.isStr z = (k == z) := by rw [h1]; rfl
    have er : e.refKey = false := by unfold DictEntry.refKey; rw [h1]
    by_cases c : z = k
    · subst c
      have e1 : (z == z) = true := by simp
      rw [List.lookup_cons, e1]
      exact ⟨e, t2, by rw [List.find?_cons, ek, e1], h2⟩
    · have e1 : (z == k) = false := by simpa using c
      have e2 : (k == z) = false := by simpa using fun w : k = z => c w.symm
      rw [List.lookup_cons, e1]
      dsimp only
      cases hl : s.lookup z with
      | some w =>
        rw [hl] at ih
        obtain ⟨e', t', h4, h5⟩ := ih
        exact ⟨e', t', by rw [List.find?_cons, ek, e2]; exact h4, h5⟩
      | none =>
        rw [hl] at ih
        exact ⟨by rw [List.find?_cons, ek, e2]; exact ih.1, by rw [List.any_cons, er, ih.2] <;> rfl⟩
structure TabAtI (K : PySem.W.Frag) (w : World) (d : Addr) (kvs : List (Str × Int)) : Prop where
  ex : ∃ es n, KDict K w d es n ∧ TabOkI es.toList kvs
theorem tabI_some {w : World} {d : Addr} {kvs : List (Str × Int)} {z : Str} {v : Int} {es : Array DictEntry} {n : Nat} (D : KDict K w d es n) (h : TabOkI es.toList kvs) (hl : kvs.lookup z = some v) : ∃ t, PySem.W.nsIn K d z = some (some (.int v t)) := by
  have q := h.find (z := z)
  rw [hl] at q
  obtain ⟨e, t, h1, h2⟩ := q
  refine ⟨t, ?_⟩
  unfold PySem.W.nsIn
  rw [D.at_]
  dsimp only
  rw [h1, ← h2]
theorem tabI_none {w : World} {d : Addr} {kvs : List (Str × Int)} {z : Str} {es : Array DictEntry} {n : Nat} (D : KDict K w d es n) (h : TabOkI es.toList kvs) (hl : kvs.lookup z = none) : PySem.W.nsIn K d z = Option.some Option.none := by
  have q := h.find (z := z)
  rw [hl] at q
  unfold PySem.W.nsIn
  rw [D.at_]
  dsimp only
  rw [q.1, q.2] <;> rfl
def oInGI (kvs : List (Str × Int)) (x : O) : Option O := (asS x).map fun s => .shr (.bl (kvs.lookup s).isSome)
def oIxGI (kvs : List (Str × Int)) (x : O) : Option O := (asS x).bind fun s => (kvs.lookup s).map fun t => .shr (.int t)
theorem s_inGI {w : World} {d : Addr} {kvs : List (Str × Int)} (T : TabAtI K w d kvs) : UnSat K (fun x H Q => rInG K d x (.ref d) H Q) (oInGI kvs) := by
  intro Hs H x ox o sb kx e Q q
  obtain ⟨es, n, D, h⟩ := T.ex
  simp only [oInGI, Option.map_eq_some_iff] at e
  obtain ⟨z, hz, rfl⟩ := e
  have ex := asS_ok hz kx
  cases hl : kvs.lookup z with
  | some v =>
    rw [hl] at q
    obtain ⟨t, ht⟩ := tabI_some D h hl
    exact ⟨z, _, ex, rfl, ht, q.val sb (.bl _)⟩
  | none =>
    rw [hl] at q
    exact ⟨z, _, ex, rfl, tabI_none D h hl, q.val sb (.bl _)⟩
theorem s_ixGI {w : World} {d : Addr} {kvs : List (Str × Int)} (T : TabAtI K w d kvs) : UnSat K (fun x H Q => rIxD K w (.ref d) x H Q) (oIxGI kvs) := by
  intro Hs H x ox o sb kx e Q q
  obtain ⟨es, n, D, h⟩ := T.ex
  simp only [oIxGI, Option.bind_eq_some_iff, Option.map_eq_some_iff] at e
  obtain ⟨z, hz, v, hl, rfl⟩ := e
  have ex := asS_ok hz kx
  obtain ⟨t, ht⟩ := tabI_some D h hl
  exact ⟨d, z, .int v, rfl, ex, ⟨es, n, _, D.at_, D.lit, ht, ⟨t, rfl⟩⟩, q.val sb (.int _)⟩
structure TabGI (K : PySem.W.Frag) (w : World) (mg : Str → Option Value) (x : Str) (kvs : List (Str × Int)) : Prop where
  ex : ∃ d, mg x = some (.ref d) ∧ TabAtI K w d kvs
end
section
variable {X : Cx} {a b c o e k v : Expr} {es : List Expr} {ta tb tc te to tk tv : TE} {fa fb fc fo fe fk : EF} {pos apos cpos : Pos}
theorem v_chain {op op' : CmpOp} {r r' : R2} {f f' : O → O → Option O} (ho : OpR X (compareOp op) r) (hs : OpSat X.K r f) (ho' : OpR X (compareOp op') r') (hs' : OpSat X.K r' f') (ha : VE X a ta fa) (hb : VE X b tb fb) (hc : VE X c tc fc) (hm : lastMarks [op, op'] [b, c] = false := by with_unfolding_all rfl) :
    VE X (.Compare a [op, op'] [b, c] pos) (tChain r r' ta tb tc) (vChain f f' fa fb fc) := ⟨pe_chain ho ho' ha.pe hb.pe hc.pe hm, sat_chain hs hs' ha.sat hb.sat hc.sat⟩
theorem vt_chain {op op' : CmpOp} {r r' : R2} {f f' : O → O → Option O} (ho : OpR X (compareOp op) r) (hs : OpSat X.K r f) (ho' : OpR X (compareOp op') r') (hs' : OpSat X.K r' f') (ha : VE X a ta fa) (hb : VE X b tb fb) (hc : VE X c tc fc) (hm : lastMarks [op, op'] [b, c] = false := by with_unfolding_all rfl) :
    VT X (.Compare a [op, op'] [b, c] pos) (tTest (tChain r r' ta tb tc)) (bVal (vChain f f' fa fb fc)) := ⟨pt_chain ho ho' ha.pe hb.pe hc.pe hm, sat_test (sat_chain hs hs' ha.sat hb.sat hc.sat)⟩
theorem v_starts (ho : VE X o to fo) (he : VE X e te fe) (hs : starEach [e] X.env = [(false, eval e X.env)] := by rfl) (hbase : attributeBase o "startswith" X.env (eval o X.env) = eval o X.env := by rfl) (hline : (apos.endLine == pos.line) = true := by rfl) :
    VE X (.Call (.Attribute o "startswith" apos) [e] [] pos) (tM1 (rSm fun a b => .bl (Txt.startswith a b)) to te) (vSm (fun a b => .bl (Txt.startswith a b)) fo fe) := ⟨pe_m1 PySem.F.slot_str_startswith PySem.F.type_str_startswith mt_startswith ho.pe he.pe hs hbase hline, sat_sm (fun _ _ _ => .bl _) ho.sat he.sat⟩
theorem v_find (ho : VE X o to fo) (he : VE X e te fe) (hs : starEach [e] X.env = [(false, eval e X.env)] := by rfl) (hbase : attributeBase o "find" X.env (eval o X.env) = eval o X.env := by rfl) (hline : (apos.endLine == pos.line) = true := by rfl) :
    VE X (.Call (.Attribute o "find" apos) [e] [] pos) (tM1 (rSm fun a b => .int (Txt.find a b)) to te) (vSm (fun a b => .int (Txt.find a b)) fo fe) := ⟨pe_m1 PySem.F.slot_str_find PySem.F.type_str_find mt_find ho.pe he.pe hs hbase hline, sat_sm (fun _ _ _ => .int _) ho.sat he.sat⟩
theorem vi_zip {K : PySem.W.Frag} {elts : List Expr} {kk : Nat} {tpos p : Pos} {t : TA} {f : DsF} (hm : X.mg "zip" = none) (ha : VDs X [a, b] t f) (hg : Gl X "zip" := by rfl) (eK : X.K = K := by rfl) (hs : starEach [a, b] X.env = (false, eval a X.env) :: starEach [b] X.env := by rfl) (hpl : (backTo pos (starEach [b] X.env)).any (·.1) = false := by rfl) :
    VI X (.Tuple elts kk tpos) (.Call (.Name "zip" p) [a, b] [] pos) (iZip K t) (iZipD f) := by subst eK; exact ⟨pi_zip hg hm ha.pe hs hpl, sat_zip ha.sat⟩
theorem v_globS {x s : Str} (h : ∃ t, X.mg x = some (.str s t)) (hg : Gl X x := by rfl) (hd : (x == ("__debug__" : Str)) = false := by decide) : VE X (.Name x pos) (tC (.str s)) (vC (.str s)) := by
  obtain ⟨t, e⟩ := h
  exact ⟨pe_glob hg e ⟨t, rfl⟩ hd, sat_c fun _ => .str s⟩
theorem v_inGI {x : Str} {p : Pos} {kvs : List (Str × Int)} {K : PySem.W.Frag} {w : World} {mg : Str → Option Value} (T : TabGI K w mg x kvs) (ha : VE X a ta fa) (hg : Gl X x := by rfl) (hd : (x == ("__debug__" : Str)) = false := by decide) (hm : behindInMarks .In (.Name x p) = false := by first | exact nomark _ (by decide) (by decide) | rfl)
    (eK : X.K = K := by rfl) (ew : X.w = w := by rfl) (em : X.mg = mg := by rfl) :
    VE X (.Compare a [.In] [.Name x p] pos) (tOp (rInG K T.ex.choose) ta (tC (.ref T.ex.choose))) (vUn (oInGI kvs) fa) := by
  subst eK ew em
  obtain ⟨h1, h2⟩ := T.ex.choose_spec
  obtain ⟨es, n, D, _⟩ := h2.ex
  exact ⟨pe_cmpR (op_in_kd D) ha.pe (pe_glob hg h1 rfl hd) hm, sat_un (s_inGI h2) ha.sat⟩
theorem vt_inGI {x : Str} {p : Pos} {kvs : List (Str × Int)} {K : PySem.W.Frag} {w : World} {mg : Str → Option Value} (T : TabGI K w mg x kvs) (ha : VE X a ta fa) (hg : Gl X x := by rfl) (hd : (x == ("__debug__" : Str)) = false := by decide) (hm : behindInMarks .In (.Name x p) = false := by first | exact nomark _ (by decide) (by decide) | rfl)
    (eK : X.K = K := by rfl) (ew : X.w = w := by rfl) (em : X.mg = mg := by rfl) :
    VT X (.Compare a [.In] [.Name x p] pos) (tTest (tOp (rInG K T.ex.choose) ta (tC (.ref T.ex.choose)))) (bVal (vUn (oInGI kvs) fa)) := by
  subst eK ew em
  obtain ⟨h1, h2⟩ := T.ex.choose_spec
  obtain ⟨es, n, D, _⟩ := h2.ex
  exact ⟨pt_cmpR (op_in_kd D) ha.pe (pe_glob hg h1 rfl hd) hm, sat_test (sat_un (s_inGI h2) ha.sat)⟩
theorem v_ixGI {x : Str} {p : Pos} {kvs : List (Str × Int)} {K : PySem.W.Frag} {w : World} {mg : Str → Option Value} (T : TabGI K w mg x kvs) (hb : VE X b tb fb) (hg : Gl X x := by rfl) (hd : (x == ("__debug__" : Str)) = false := by decide) (hs : PlainIx b := by exact fun _ _ => rfl)
    (eK : X.K = K := by rfl) (ew : X.w = w := by rfl) (em : X.mg = mg := by rfl) :
    VE X (.Subscript (.Name x p) b pos) (tOp (rIxD K w) (tC (.ref T.ex.choose)) tb) (vUn (oIxGI kvs) fb) := by
  subst eK ew em
  obtain ⟨h1, h2⟩ := T.ex.choose_spec
  exact ⟨pe_ix ix_kdict (pe_glob hg h1 rfl hd) hb.pe hs, sat_un (s_ixGI h2) hb.sat⟩
end
/-! ### running rules -/
section
variable {env env' env1 : Sto} {fa fb fc : EF} {i j l : Nat} {d : D} {p lk : Bool}
def chQ (k : Bool) (op' : O → O → Option O) (fc : EF) (b : Hnd) (e : Sto) (Q : Hnd → Sto → Prop) : Prop := TF k (XE fc e fun c e2 => XO (hGet e2 b) fun y => XO (hGet e2 c) fun w => XO (op' y w) fun o => Q (.tmp o) e2) (Q (.tmp (.shr (.bl false))) e)
theorem xe_chain {op op' : O → O → Option O} {Q : Hnd → Sto → Prop} (h : XE fa env fun a e => XE fb e fun b e1 => XO (hGet e1 a) fun x => XO (hGet e1 b) fun y => XO (op x y) fun z => XO (asB z) fun k => TF k (XE fc e1 fun c e2 => XO (hGet e2 b) fun y => XO (hGet e2 c) fun w => XO (op' y w) fun o => Q (.tmp o) e2) (Q (.tmp (.shr (.bl false))) e1)) : XE (vChain op op' fa fb fc) env Q := by
  obtain ⟨a, e, h1, b, e1, h2, x, h3, y, h4, z, h5, k, h6, h7, h8⟩ := h
  cases k with
  | true =>
    obtain ⟨c, e2, g1, y', g2, w, g3, o, g4, q⟩ := h7 rfl
    exact ⟨.tmp o, e2, by simp only [vChain, h1, Option.bind_some, h2, h3, h4, h5, h6, if_true, g1, g2, g3, g4], q⟩
  | false => exact ⟨.tmp (.shr (.bl false)), e1, by simp only [vChain, h1, Option.bind_some, h2, h3, h4, h5, h6, Bool.false_eq_true, if_false], h8 rfl⟩
theorem xo_leS {s t : Str} {Q : O → Prop} (q : Q (.shr (.bl (!decide (t.cps.toList < s.cps.toList))))) : XO (oLeS (.shr (.str s)) (.shr (.str t))) Q := ⟨_, rfl, q⟩
theorem xe_sm {g : Str → Str → D} {Q : Hnd → Sto → Prop} (h : XE fa env fun a e => XO (hGet e a) fun x => XO (asS x) fun s => XE fb e fun b e1 => XO (hGet e1 b) fun y => XO (asS y) fun t => Q (.tmp (.shr (g s t))) e1) : XE (vSm g fa fb) env Q := by
  obtain ⟨a, e, h1, x, h2, s, h3, b, e1, h4, y, h5, t, h6, q⟩ := h
  exact ⟨_, _, by simp only [vSm, h1, Option.bind_some, h2, h3, h4, h5, h6], q⟩
theorem xi_zip {f : DsF} {Q : List D → Option (Nat × Slot) → Sto → Prop} (h : XDs f env fun ds e => ∃ xs ys, ds = [.lst xs, .lst ys] ∧ Q (List.zipWith (fun x y => D.tup [x, y]) xs ys) none e) : XI (iZipD f) env Q := by
  obtain ⟨ds, e, h1, xs, ys, rfl, q⟩ := h
  exact ⟨_, _, _, by simp only [iZipD, h1, Option.bind_some], q⟩
theorem zip2 {xs ys : List D} {P : List D → List D → Prop} (h : P xs ys) : ∃ us ws, [D.lst xs, .lst ys] = [.lst us, .lst ws] ∧ P us ws := ⟨_, _, rfl, h⟩
theorem xo_inGI {kvs : List (Str × Int)} {s : Str} {Q : O → Prop} (q : Q (.shr (.bl (kvs.lookup s).isSome))) : XO (oInGI kvs (.shr (.str s))) Q := ⟨_, rfl, q⟩
theorem xo_ixGI {kvs : List (Str × Int)} {s : Str} {t : Int} {Q : O → Prop} (h : kvs.lookup s = some t) (q : Q (.shr (.int t))) : XO (oIxGI kvs (.shr (.str s))) Q := ⟨_, by simp only [oIxGI, asS, Option.bind_some, h, Option.map_some], q⟩
theorem slS {s : Str} {lo hi : Option Int} {Q : O → Prop} (hl : s.length ≤ 1000000) (q : Q (.shr (.str (cutS s lo hi)))) : XO (oSl (.shr (.str s)) lo hi) Q := ⟨_, by simp only [oSl, asLQ, asT, asS, Option.map_none, Option.none_or, Option.bind_none, Option.bind_some, if_pos hl], q⟩
end
end PV

set_option maxRecDepth 100000
set_option maxHeartbeats 2000000
namespace PV
open PySem L2 PySem.Spec PyProof.Rows
/-! ### two loops in a comprehension; the inner one walks shared data -/
section
variable {K : PySem.W.Frag}
def SrcH (K : PySem.W.Frag) (J : It) (ds : List D) (Hs1 : Hp) : Prop := ∀ Hs2 H2, (∀ a u, Hs1 a = some u → Hs2 a = some u) → (∀ a u, Hs2 a = some u → H2 a = some u) → ∀ i : Nat,
  (∀ d, ds[i]? = some d → J.go i H2 ∧ ∀ x H3, J.yld i H2 x H3 → ∃ Hs3, Ext (fun _ => False) Hs2 H2 Hs3 H3 ∧ (∀ a u, Hs3 a = some u → H3 a = some u) ∧ Dd K Hs3 d x) ∧ (ds.length ≤ i → J.stop i H2)
abbrev IHF := Sto → Option (List D × Sto)
def SatIH (K : PySem.W.Frag) (wi : TI) (f : IHF) : Prop := ∀ Hs H σ env ds env1, R K Hs H σ env → f env = some (ds, env1) →
  ∀ Rr : It → Hp → Prop, (∀ Hs1 H1 J, Po K Hs H σ env Hs1 H1 σ env1 → SrcH K J ds Hs1 → Rr J H1) → wi σ H Rr
def iSeqH (f : DF) : IHF := fun env => (f env).bind fun p => match p.1 with
  | .lst ds => some (ds, p.2)
  | _ => none
theorem sat_seqH {te : TE} {f : DF} (h : SatD K te f) : SatIH K (wSeq K te) (iSeqH f) := fun Hs H σ env ds env1 r g Rr q => by
  simp only [iSeqH, Option.bind_eq_some_iff] at g
  obtain ⟨⟨d, e1⟩, g1, g2⟩ := g
  split at g2
  · next ds' hz =>
    dsimp only at hz
    subst hz
    cases g2
    refine .inl (h Hs H σ env _ e1 r g1 _ fun Hs1 H1 v p1 dd => ?_)
    cases dd with
    | @lst a us _ ha dx =>
      refine ⟨a, rfl, ⟨us, SqL.of (p1.r.sub _ _ ha)⟩, q Hs1 H1 _ p1 fun Hs2 H2 x sb i => ?_⟩
      have qa : SqL K H2 a us := SqL.of (sb _ _ (x _ _ ha))
      refine ⟨fun d e => ?_, fun h => ⟨us, qa, by rw [dx.length]; exact h⟩⟩
      obtain ⟨v, ev, dv⟩ := dx.get e
      refine ⟨⟨us, v, qa, ev⟩, fun y H3 yl => ?_⟩
      obtain ⟨rfl, yl⟩ := yl
      have e2 := yl us qa
      rw [ev] at e2
      cases e2
      exact ⟨Hs2, Ext.refl, sb, dv.mono x⟩
  · cases g2
theorem Po.wipedB {Hs H Hs1 H1 : Hp} {σ1 σ2 : L2.St} {env1 e : Sto} {vs : List Nat} (p : Po K Hs1 H1 σ1 env1 Hs H σ2 e) (n1 : ∀ (i : Nat) (s : Slot), i ∈ vs → env1[i]? ≠ some (some s)) : Po K Hs1 H1 σ1 env1 Hs H (wipe σ2 vs) (wipeE e vs) := by
  have at_ : ∀ {i : Nat} {s : Slot}, (wipeE e vs)[i]? = some (some s) → i ∉ vs ∧ e[i]? = some (some s) := fun {i s} h => by
    have m : i ∉ vs := fun m => wipeE_in m s h
    exact ⟨m, by rw [wipeE_out m] at h; exact h⟩
  refine ⟨p.r.wiped vs, p.ext, fun i a oi ea => ?_, fun i s es pn => ?_, fun i s es lk => ?_, fun i s es pn => p.np i s (at_ es).2 pn⟩
  · obtain ⟨s0, h0, w0⟩ := oi
    obtain ⟨m, h0'⟩ := at_ h0
    rcases p.own i a ⟨s0, h0', w0⟩ (by rw [wipe_out m] at ea; exact ea) with ⟨c1, c2, c3⟩ | c
    · exact .inl ⟨c1, c2, fun ⟨s, h, w, l⟩ => c3 ⟨s, (at_ h).2, w, l⟩⟩
    · exact .inr c
  · have m : i ∉ vs := fun m => n1 i s m es
    obtain ⟨c1, s', c2, c3, c4⟩ := p.pin i s es pn
    exact ⟨by rw [wipe_out m]; exact c1, s', by rw [wipeE_out m]; exact c2, c3, c4⟩
  · have m : i ∉ vs := fun m => n1 i s m es
    obtain ⟨c1, c2⟩ := p.lk i s es lk
    exact ⟨by rw [wipeE_out m]; exact c1, by rw [wipe_out m]; exact c2⟩
def loopC2 (g : GF) (c : BF) (fi1 : IHF) (g1 : GF) (c1 : BF) (f : DF) (vs vs1 : List Nat) : List D → List D → Sto → Option (List D × Sto)
  | [], acc, e => some (acc, e)
  | d :: r, acc, e => (g d e).bind fun e1 => (c e1).bind fun p => if p.1 then (fi1 p.2).bind fun q => (loopC g1 c1 f vs1 q.1 acc q.2).bind fun w => loopC2 g c fi1 g1 c1 f vs vs1 r w.1 (wipeE w.2 vs) else loopC2 g c fi1 g1 c1 f vs vs1 r acc (wipeE p.2 vs)
def vLc2 (fi : IF) (g : GF) (c : BF) (fi1 : IHF) (g1 : GF) (c1 : BF) (f : DF) (vs vs1 : List Nat) : EF := fun env => (fi env).bind fun p => (loopC2 g c fi1 g1 c1 f vs vs1 p.1.1 [] (wipeE (lockS p.2 p.1.2) vs)).bind fun q => some (.tmp (.ol q.1), unlockS (restE q.2 (lockS p.2 p.1.2) vs) p.1.2)
theorem sat_lc2 {wi wi1 : TI} {fi : IF} {fi1 : IHF} {g g1 : TG} {ws ws1 vs vs1 : List Nat} {gf gf1 : GF} {tt tt1 : TT} {c c1 : BF} {te : TE} {f : DF} (hi : SatI K wi fi) (hg : SatG K g ws gf) (hs : ∀ i ∈ ws, i ∈ vs) (ht : SatT K tt c) (hi1 : SatIH K wi1 fi1) (hg1 : SatG K g1 ws1 gf1) (hs1 : ∀ i ∈ ws1, i ∈ vs1) (hv : ∀ i ∈ vs1, i ∈ vs) (hd : ∀ i ∈ vs1, i ∉ ws) (ht1 : SatT K tt1 c1) (he : SatD K te f) :
    SatE K (tLc2 wi g tt wi1 g1 tt1 te vs vs1) (vLc2 fi gf c fi1 gf1 c1 f vs vs1) := fun Hs H σ env h env' rr e Q q => by
  simp only [vLc2, Option.bind_eq_some_iff] at e
  obtain ⟨⟨⟨ds, l⟩, env1⟩, g1', ⟨acc, e2⟩, g2, g3⟩ := e
  obtain ⟨rfl, rfl⟩ := Prod.mk.inj (Option.some.inj g3)
  refine hi Hs H σ env ds l env1 rr g1' _ fun Hs1 H1 J p1 hl src => ?_
  dsimp only at g2 q ⊢
  have r1 := p1.r.lock hl
  intro Da hD
  have hsD : Hs1 Da = none := none_s hD p1.r.sub
  have xD : Ext (fun _ => False) Hs1 H1 Hs1 (upd H1 Da (.lst [])) := ext_new hD p1.r.sub
  have rw1 := r1.wiped vs
  have nB : ∀ (i : Nat) (s : Slot), i ∈ vs → (wipeE (lockS env1 l) vs)[i]? ≠ some (some s) := fun i s m => wipeE_in m s
  have nD : ∀ i, owns (wipeE (lockS env1 l) vs) i → (wipe σ vs)[i]? ≠ some (some (.ref Da)) := fun i o e => by
    obtain ⟨_, u, hu⟩ := rw1.there o e
    rw [hD] at hu
    cases hu
  refine ⟨fun i m H' => m = ds.length - i ∧ i ≤ ds.length ∧ ∃ Hs' e' acc' xs, Po K Hs1 H1 (wipe σ vs) (wipeE (lockS env1 l) vs) Hs' H' (wipe σ vs) e' ∧ (∀ (i : Nat) (s : Slot), i ∈ vs → e'[i]? ≠ some (some s)) ∧
      (∀ i, owns e' i → (wipe σ vs)[i]? ≠ some (some (.ref Da))) ∧ H' Da = some (.lst xs) ∧ DdAll K Hs' acc' xs ∧ Hs' Da = none ∧ loopC2 gf c fi1 gf1 c1 f vs vs1 (ds.drop i) acc' e' = some (acc, e2),
    ⟨ds.length, by simp, Nat.zero_le _, Hs1, _, [], [], Po.keep rw1 xD (sub_new hD p1.r.sub), nB, nD, upd_same, .nil, hsD, g2⟩, ?_⟩
  rintro i m H' ⟨rfl, hi', Hs', e', acc', xs, p, nv, nd, hx, dx, sx, hr⟩
  have xt : Ext (Mof σ (lockS env1 l)) Hs1 H1 Hs' H' := p.ext.weak fun a ⟨j, ⟨s, hj, w, lk⟩, ea⟩ => by
    have mj : j ∉ vs := fun mj => wipeE_in mj s hj
    rw [wipeE_out mj] at hj
    rw [wipe_out mj] at ea
    exact ⟨j, ⟨s, hj, w, lk⟩, ea⟩
  obtain ⟨s1, s2⟩ := src Hs' H' xt p.r.sub i
  by_cases hlt : i < ds.length
  · have ed : ds[i]? = some ds[i] := List.getElem?_eq_getElem hlt
    rw [List.drop_eq_getElem_cons hlt] at hr
    simp only [loopC2, Option.bind_eq_some_iff] at hr
    obtain ⟨ea, h1, ⟨b, eb⟩, h2, h3⟩ := hr
    obtain ⟨go, yl⟩ := s1 _ ed
    refine .inr ⟨go, fun H2 => ∃ Hs2 e3 acc3 xs3, Po K Hs1 H1 (wipe σ vs) (wipeE (lockS env1 l) vs) Hs2 H2 (wipe σ vs) e3 ∧ (∀ (i : Nat) (s : Slot), i ∈ vs → e3[i]? ≠ some (some s)) ∧
      (∀ i, owns e3 i → (wipe σ vs)[i]? ≠ some (some (.ref Da))) ∧ H2 Da = some (.lst xs3) ∧ DdAll K Hs2 acc3 xs3 ∧ Hs2 Da = none ∧ loopC2 gf c fi1 gf1 c1 f vs vs1 (ds.drop (i + 1)) acc3 e3 = some (acc, e2),
      fun H2 ⟨Hs2, e3, acc3, xs3, z⟩ => ⟨ds.length - (i + 1), by omega, rfl, hlt, Hs2, e3, acc3, xs3, z⟩, fun x H3 y => ?_⟩
    obtain ⟨Hs3, x3, sb3, dx3⟩ := yl x H3 y
    have q3 := Po.keep p.r x3 sb3
    refine hg Hs' H' (wipe σ vs) e' Hs3 H3 (wipe σ vs) e' _ x ea q3 dx3 h1 _ fun Hs4 H4 σ4 q4 _ o4 l4 => ?_
    have w4 : wipe σ4 vs = wipe σ vs := by
      rw [← wipe_wipe (σ := σ) (vs := vs)]
      exact wipe_same l4 fun j mj => o4 j fun z => mj (hs j z)
    refine ⟨w4, ht Hs4 H4 σ4 ea b eb q4.r h2 _ fun Hs5 H5 q5 => ?_⟩
    have q5' := q4.trans q5
    -- the list that grows is not touched by a piece of code that does not know it
    have keepD : ∀ {Hsi Hi Hsk Hk : Hp} {σi σk : L2.St} {ei ek : Sto} {xs : List V}, Po K Hsi Hi σi ei Hsk Hk σk ek → Hi Da = some (.lst xs) → Hsi Da = none → (∀ i, owns ei i → σi[i]? ≠ some (some (.ref Da))) → Hk Da = some (.lst xs) ∧ Hsk Da = none ∧ ∀ i, owns ek i → σk[i]? ≠ some (some (.ref Da)) := fun {Hsi Hi Hsk Hk σi σk ei ek xs} qk hx sx nd => by
      have nm : ¬ Mof σi ei Da := fun ⟨j, mu, ej⟩ => nd j mu.owns ej
      refine ⟨qk.ext.kp _ _ hx nm, qk.ext.out _ _ hx sx nm, fun j oj ej => ?_⟩
      rcases qk.own j Da oj ej with ⟨c1, c2, _⟩ | c
      · exact nd j c1 c2
      · rw [hx] at c; cases c
    cases b with
    | true =>
      simp only [if_true, Option.bind_eq_some_iff] at h3
      obtain ⟨⟨ds1, e3⟩, h4, ⟨acc4, e4⟩, h5, h6⟩ := h3
      dsimp only at h5 h6
      show wi1 σ4 H5 _
      refine hi1 Hs5 H5 σ4 eb ds1 e3 q5'.r h4 _ fun Hs6 H6 J1 q6 src1 => ?_
      have q6' := q5'.trans q6
      obtain ⟨y1, y2, y3⟩ := keepD q6' hx sx nd
      have pI := p.trans q6'
      have w5 : wipe σ4 vs1 = σ4 := by
        apply List.ext_getElem?
        intro j
        by_cases mj : j ∈ vs1
        · rw [wipe_in mj, o4 j (hd j mj), wipe_in (hv j mj), l4, wipe_length]
        · rw [wipe_out mj]
      refine ⟨fun j k H' => k = ds1.length - j ∧ j ≤ ds1.length ∧ ∃ Hs' e' acc' xs, Po K Hs1 H1 (wipe σ vs) (wipeE (lockS env1 l) vs) Hs' H' σ4 e' ∧ (∀ a u, Hs6 a = some u → Hs' a = some u) ∧
        (∀ i, owns e' i → σ4[i]? ≠ some (some (.ref Da))) ∧ H' Da = some (.lst xs) ∧ DdAll K Hs' acc' xs ∧ Hs' Da = none ∧ loopC gf1 c1 f vs1 (ds1.drop j) acc' e' = some (acc4, e4),
        ⟨ds1.length, by simp, Nat.zero_le _, Hs6, e3, acc', xs, pI, fun _ _ h => h, y3, y1, dx.mono q6'.ext.hs, y2, h5⟩, ?_⟩
      rintro j k H' ⟨rfl, hj', Hs', e', acc', xs, pJ, hup, ndJ, hxJ, dxJ, sxJ, hrJ⟩
      obtain ⟨s3, s4⟩ := src1 Hs' H' hup pJ.r.sub j
      by_cases hltj : j < ds1.length
      · have edj : ds1[j]? = some ds1[j] := List.getElem?_eq_getElem hltj
        rw [List.drop_eq_getElem_cons hltj] at hrJ
        simp only [loopC, Option.bind_eq_some_iff] at hrJ
        obtain ⟨ea1, k1, ⟨b1, eb1⟩, k2, k3⟩ := hrJ
        obtain ⟨go1, yl1⟩ := s3 _ edj
        refine .inr ⟨go1, fun H2 => ∃ Hs2 e5 acc5 xs5, Po K Hs1 H1 (wipe σ vs) (wipeE (lockS env1 l) vs) Hs2 H2 σ4 e5 ∧ (∀ a u, Hs6 a = some u → Hs2 a = some u) ∧
          (∀ i, owns e5 i → σ4[i]? ≠ some (some (.ref Da))) ∧ H2 Da = some (.lst xs5) ∧ DdAll K Hs2 acc5 xs5 ∧ Hs2 Da = none ∧ loopC gf1 c1 f vs1 (ds1.drop (j + 1)) acc5 e5 = some (acc4, e4),
          fun H2 ⟨Hs2, e5, acc5, xs5, z⟩ => ⟨ds1.length - (j + 1), by omega, rfl, hltj, Hs2, e5, acc5, xs5, z⟩, fun x1 H7 yy => ?_⟩
        obtain ⟨Hs7, x7, sb7, dx7⟩ := yl1 x1 H7 yy
        have t3 := Po.keep pJ.r x7 sb7
        rw [w5]
        refine hg1 Hs' H' σ4 e' Hs7 H7 σ4 e' _ x1 ea1 t3 dx7 k1 _ fun Hs8 H8 σ8 t4 _ o8 l8 => ?_
        have w8 : wipe σ8 vs1 = σ4 := by
          rw [← w5]
          exact wipe_same l8 fun z mz => o8 z fun w => mz (hs1 z w)
        refine ⟨(by first | exact w8 | exact w8.trans w5.symm), ht1 Hs8 H8 σ8 ea1 b1 eb1 t4.r k2 _ fun Hs9 H9 t5 => ?_⟩
        have t5' := t4.trans t5
        have n1 : ∀ (i : Nat) (s : Slot), i ∈ vs1 → (wipeE (lockS env1 l) vs)[i]? ≠ some (some s) := fun i s m => wipeE_in (hv i m) s
        have back : ∀ {ek : Sto}, (∀ i, owns ek i → σ8[i]? ≠ some (some (.ref Da))) → ∀ i, owns (wipeE ek vs1) i → σ4[i]? ≠ some (some (.ref Da)) := fun {ek} y i ⟨s, hj, w⟩ ej => by
          have mj : i ∉ vs1 := fun mj => wipeE_in mj s hj
          rw [wipeE_out mj] at hj
          refine y i ⟨s, hj, w⟩ ?_
          rw [← w8, wipe_out mj] at ej
          exact ej
        cases b1 with
        | true =>
          simp only [if_true, Option.bind_eq_some_iff] at k3
          obtain ⟨⟨d, ec⟩, k4, k5⟩ := k3
          split at k5
          · next hlen =>
            show te σ8 H9 _
            refine he Hs9 H9 σ8 eb1 d ec t5'.r k4 _ fun Hs10 H10 yv t6 d6 => ?_
            have t6' := t5'.trans t6
            obtain ⟨z1, z2, z3⟩ := keepD t6' hxJ sxJ ndJ
            have pw := (pJ.trans t6').wipedB n1
            rw [w8] at pw
            have up : Ext (fun b => b = Da) Hs10 H10 Hs10 (upd H10 Da (.lst (xs ++ [yv]))) := ⟨fun _ _ h => h, fun b w h n => by rw [upd_ne n]; exact h, fun _ _ _ h _ => h, fun b w h => by
              by_cases z : b = Da
              · exact ⟨_, by rw [z]; exact upd_same⟩
              · exact ⟨w, by rw [upd_ne z]; exact h⟩⟩
            have sbu : ∀ a u, Hs10 a = some u → upd H10 Da (.lst (xs ++ [yv])) a = some u := fun a u ha => by
              have z : a ≠ Da := fun z => by rw [z, z2] at ha; cases ha
              rw [upd_ne z]
              exact pw.r.sub a u ha
            have nd2 := back z3
            have pu : Po K Hs1 H1 (wipe σ vs) (wipeE (lockS env1 l) vs) Hs10 (upd H10 Da (.lst (xs ++ [yv]))) σ4 (wipeE ec vs1) := by
              refine ⟨⟨pw.r.len, sbu, fun j s hj => ?_, pw.r.inj⟩, pw.ext.trans up fun a z => .inr (by rw [z]; exact hD), pw.own, pw.pin, pw.lk, pw.np⟩
              obtain ⟨v, ev, kv⟩ := pw.r.ok j s hj
              exact ⟨v, ev, kv.step up fun ow a ea z => nd2 j ⟨s, hj, ow⟩ (by rw [ev, ea, z])⟩
            exact ⟨xs, z1, by rw [dxJ.length]; exact Nat.lt_of_lt_of_le hlen (by decide), Hs10, _, _, _, pu, fun a u h => t6'.ext.hs a u (hup a u h), nd2, upd_same, (dxJ.mono t6'.ext.hs).append (.cons d6 .nil), z2, k5⟩
          · cases k5
        | false =>
          simp only [Bool.false_eq_true, if_false] at k3
          obtain ⟨z1, z2, z3⟩ := keepD t5' hxJ sxJ ndJ
          have pw := (pJ.trans t5').wipedB n1
          rw [w8] at pw
          exact ⟨Hs9, _, acc', xs, pw, fun a u h => t5'.ext.hs a u (hup a u h), back z3, z1, dxJ.mono t5'.ext.hs, z2, k3⟩
      · have ej : j = ds1.length := by omega
        subst ej
        rw [List.drop_length] at hrJ
        cases hrJ
        refine .inl ⟨s4 (Nat.le_refl _), ?_⟩
        have pw := pJ.wiped (vs := vs) nB wipe_wipe w4
        refine ⟨Hs', _, acc4, xs, pw, fun j s mj => wipeE_in mj s, fun j ⟨s, hj, w⟩ ej => ?_, hxJ, dxJ, sxJ, h6⟩
        have mj : j ∉ vs := fun mj => wipeE_in mj s hj
        rw [wipeE_out mj] at hj
        refine ndJ j ⟨s, hj, w⟩ ?_
        rw [← w4, wipe_out mj] at ej
        exact ej
    | false =>
      simp only [Bool.false_eq_true, if_false] at h3
      show ∃ Hs2 e3 acc3 xs3, _
      obtain ⟨y1, y2, y3⟩ := keepD q5' hx sx nd
      have pw := (p.trans q5').wiped (vs := vs) (fun j s mj => wipeE_in mj s) wipe_wipe w4
      refine ⟨Hs5, _, acc', xs, pw, fun j s mj => wipeE_in mj s, fun j ⟨s, hj, w⟩ ej => ?_, y1, dx.mono q5'.ext.hs, y2, h3⟩
      have mj : j ∉ vs := fun mj => wipeE_in mj s hj
      rw [wipeE_out mj] at hj
      refine y3 j ⟨s, hj, w⟩ ?_
      rw [← w4, wipe_out mj] at ej
      exact ej
  · have ei : i = ds.length := by omega
    subst ei
    rw [List.drop_length] at hr
    cases hr
    refine .inl ⟨s2 (Nat.le_refl _), ?_⟩
    have pr := Po.rest r1 p nv
    have pu := Po.unlock hl p1.r pr
    refine q Hs' H' _ (p1.trans pu) ⟨⟨Da, xs, rfl, sx, hx, dx⟩, fun _ j oj ej => ?_⟩ fun _ a ea => by cases ea; exact p1.ext.new hD
    have back : owns (restE e2 (lockS env1 l) vs) j := by
      cases l with
      | none => exact oj
      | some ks =>
        obtain ⟨k, s⟩ := ks
        have e1 : (lockS env1 (some (k, s)))[k]? = some (some { s with lk := true }) := List.getElem?_set_self (List.getElem?_eq_some_iff.mp (show env1[k]? = some (some s) from hl)).1
        obtain ⟨e3, _⟩ := pr.lk k _ e1 rfl
        obtain ⟨s', hs', w⟩ := oj
        have hs' : ((restE e2 (lockS env1 (some (k, s))) vs).set k (some s))[j]? = some (some s') := hs'
        by_cases z : k = j
        · subst z
          rw [List.getElem?_set_self (List.getElem?_eq_some_iff.mp e3).1] at hs'
          cases hs'
          exact ⟨_, e3, w⟩
        · rw [List.getElem?_set_ne z] at hs'
          exact ⟨s', hs', w⟩
    have hl2 : e2.length = (lockS env1 l).length := by rw [p.r.len, wipe_length, r1.len]
    obtain ⟨s', hs', w⟩ := back
    by_cases mj : j ∈ vs
    · rw [restE_in hl2 mj] at hs'
      obtain ⟨_, u, hu⟩ := r1.there ⟨s', hs', w⟩ ej
      rw [hD] at hu
      cases hu
    · rw [restE_out mj] at hs'
      exact nd j ⟨s', hs', w⟩ (by rw [wipe_out mj]; exact ej)
end
structure VIH (X : Cx) (tg e : Expr) (t : TI) (f : IHF) : Prop where
  pe : PI X tg e t
  sat : SatIH X.K t f
section
variable {X : Cx} {pos : Pos}
theorem vi_seqH {K : PySem.W.Frag} {tg e : Expr} {te : TE} {fe : EF} (h : VE X e te fe) (eK : X.K = K := by rfl) : VIH X tg e (wSeq K te) (iSeqH (vTake fe)) := by subst eK; exact ⟨pi_seq h.pe, sat_seqH (sat_take h.sat)⟩
theorem v_lc2 {elt tg iter tg1 iter1 : Expr} {scope : Scope} (own : List (Str × Nat)) (vs1 : List Nat) {wi wi1 : TI} {fi : IF} {fi1 : IHF} {g g1 : TG} {ws ws1 : List Nat} {gf gf1 : GF} {te : TE} {fe : EF} (hN : X.N.Nodup) (hi : VI X tg iter wi fi) (ok : blkC X.N X.env.scope scope own = true)
    (hg : ∀ (s : Shared) (H : Hp) (C : Addr) (cl : List (Str × Addr)) (fp : List Addr), VG (X.blk s H scope (compEnvC scope cl C X.env) fp) tg g ws gf)
    (hi1 : ∀ (s : Shared) (H : Hp) (C : Addr) (cl : List (Str × Addr)) (fp : List Addr), VIH (X.blk s H scope (compEnvC scope cl C X.env) fp) tg1 iter1 wi1 fi1)
    (hg1 : ∀ (s : Shared) (H : Hp) (C : Addr) (cl : List (Str × Addr)) (fp : List Addr), VG (X.blk s H scope (compEnvC scope cl C X.env) fp) tg1 g1 ws1 gf1)
    (he : ∀ (s : Shared) (H : Hp) (C : Addr) (cl : List (Str × Addr)) (fp : List Addr), VE (X.blk s H scope (compEnvC scope cl C X.env) fp) elt te fe)
    (h1 : ∀ i ∈ ws, i ∈ own.map (·.2) := by decide) (h2 : ∀ i ∈ ws1, i ∈ vs1 := by decide) (h3 : ∀ i ∈ vs1, i ∈ own.map (·.2) := by decide) (h4 : ∀ i ∈ vs1, i ∉ ws := by decide)
    (hc : X.calm = true := by rfl) (hs : ∀ x, foldedSetIterable iter X.env x = pure x := by intro _; rfl) (hs1 : ∀ env x, foldedSetIterable iter1 env x = pure x := by intro _ _; rfl) :
    VE X (.ListComp elt [⟨tg, iter, [], 0⟩, ⟨tg1, iter1, [], 0⟩] scope pos) (tLc2 wi g tYes wi1 g1 tYes te (own.map (·.2)) vs1) (vLc2 fi gf bYes fi1 gf1 bYes (vTake fe) (own.map (·.2)) vs1) :=
  ⟨pe_lc2 hc hN hi.pe (blkOk_by ok) h3 (fun s H C cl fp => (hg s H C cl fp).pe) (fun _ _ _ _ _ => pts_nil) (fun s H C cl fp => (hi1 s H C cl fp).pe) (fun s H C cl fp => (hg1 s H C cl fp).pe) (fun _ _ _ _ _ => pts_nil) (fun s H C cl fp => (he s H C cl fp).pe) hs hs1,
   sat_lc2 hi.sat (hg {} (fun _ => none) 0 [] []).sat h1 sat_yes (hi1 {} (fun _ => none) 0 [] []).sat (hg1 {} (fun _ => none) 0 [] []).sat h2 h3 h4 sat_yes (sat_take (he {} (fun _ => none) 0 [] []).sat)⟩
end
end PV

set_option maxRecDepth 100000
set_option maxHeartbeats 2000000
namespace PV
open PySem L2 PySem.Spec PyProof.Rows
/-! ### pairs: a new tuple of shared data and a new list of one's own, or None -/
abbrev PF := Sto → Option (Option (D × List D) × Sto)
def PrOk (K : PySem.W.Frag) (Hs' H' : Hp) (σ : L2.St) (env' : Sto) (H : Hp) (v : V) : Option (D × List D) → Prop
  | none => v = .non
  | some (d, ds) => ∃ T v1 a, v = .ref T ∧ Hs' T = some (.tup [v1, .ref a]) ∧ Dd K Hs' d v1 ∧ ROk K Hs' H' (.ref a) (.ol ds) ∧ (∀ i, owns env' i → σ[i]? ≠ some (some (.ref a))) ∧ H a = none
def SatPr (K : PySem.W.Frag) (t : TE) (f : PF) : Prop := ∀ Hs H σ env r env', R K Hs H σ env → f env = some (r, env') → ∀ Q : VK, (∀ Hs' H' v, Po K Hs H σ env Hs' H' σ env' → PrOk K Hs' H' σ env' H v r → Q v H') → t σ H Q
section
variable {K : PySem.W.Frag}
/-- (a, b), b a new list -/
def vTup2 (fd : DF) (fe : EF) : PF := fun env => (fd env).bind fun p => (fe p.2).bind fun q => match q.1 with
  | .tmp (.ol ds) => some (some (p.1, ds), q.2)
  | _ => none
theorem sat_tup2 {ta tb : TE} {fd : DF} {fe : EF} (ha : SatD K ta fd) (hb : SatE K tb fe) : SatPr K (tTup (tCons ta (tCons tb tNil))) (vTup2 fd fe) := fun Hs H σ env r env' rr g Q q => by
  simp only [vTup2, Option.bind_eq_some_iff] at g
  obtain ⟨⟨d, e1⟩, g1, ⟨x, e2⟩, g2, g3⟩ := g
  split at g3
  · next ds hx =>
    dsimp only at hx
    subst hx
    obtain ⟨rfl, rfl⟩ := Prod.mk.inj (Option.some.inj g3)
    refine ha Hs H σ env d e1 rr g1 _ fun Hs1 H1 v1 p1 d1 => ?_
    refine hb Hs1 H1 σ e1 _ e2 p1.r g2 _ fun Hs2 H2 v2 p2 k2 f2 => ?_
    obtain ⟨⟨a, xs, rfl, k3, k4, k5⟩, k6⟩ := k2
    refine ⟨sz100 (by simp), fun T hT => ?_⟩
    have ne : a ≠ T := fun z => by rw [z, hT] at k4; cases k4
    have p3 := Po.keep p2.r (ext_newS (o := .tup [v1, .ref a]) hT p2.r.sub) (sub_newS p2.r.sub)
    refine q _ _ (.ref T) ((p1.trans p2).trans p3) ⟨T, v1, a, rfl, upd_same, (d1.mono p2.ext.hs).mono p3.ext.hs, ⟨a, xs, rfl, ?_, ?_, k5.mono p3.ext.hs⟩, k6 rfl, p1.ext.new (f2 rfl a rfl)⟩
    · rw [upd_ne ne]; exact k3
    · rw [upd_ne ne]; exact k4
  · cases g3
/-- a call of a def that hands back a pair or None -/
def vCallP (F : FF) (fhs : HsF) : PF := fun env => (fhs env).bind fun p => (hGets p.2 p.1).bind fun os => if lendOk p.2 p.1 os then (F os).bind fun q => if q.2.length = os.length then (match q.1 with
  | .o (.shr .non) => some (none, wb p.2 p.1 os q.2)
  | .two d ds => some (some (d, ds), wb p.2 p.1 os q.2)
  | _ => none) else none else none
theorem sat_callP {F : FF} {t : TA} {fhs : HsF} {E : L2.XK} (ha : SatHs K t fhs) : SatPr K (tCall (spV K F) [] E t) (vCallP F fhs) := fun Hs H σ env r' env' r0 g Q q => by
  simp only [vCallP, Option.bind_eq_some_iff] at g
  obtain ⟨⟨hs, e1⟩, g1, os, g2, g⟩ := g
  split at g
  · next hl =>
    simp only [Option.bind_eq_some_iff] at g
    obtain ⟨⟨r, fin⟩, g3, g⟩ := g
    split at g
    · next hlen =>
      refine call_all ha r0 g1 g2 hl g3 hlen fun Hs1 H1 vs Hs2 H2 v p1 k1 f1 fo owb po there ro => ?_
      split at g
      · next hr =>
        dsimp only at hr
        subst hr
        obtain ⟨rfl, rfl⟩ := Prod.mk.inj (Option.some.inj g)
        obtain ⟨ko, _⟩ := ro
        cases (show Dd K Hs2 .non v from ko)
        exact q Hs2 H2 .non po rfl
      · next d ds hr =>
        dsimp only at hr
        subst hr
        obtain ⟨rfl, rfl⟩ := Prod.mk.inj (Option.some.inj g)
        obtain ⟨T, v1, a, h1, h2, h3, h4, h5⟩ := ro
        refine q Hs2 H2 v po ⟨T, v1, a, h1, h2, h3, h4, fun i oi e => ?_, p1.ext.new h5⟩
        obtain ⟨u, hu⟩ := there oi e
        rw [h5] at hu
        cases hu
      · cases g
    · cases g
  · cases g
/-- its parts -/
def vFst (f : PF) : EF := fun env => (f env).bind fun p => match p.1 with
  | some (d, _) => some (.tmp (.shr d), p.2)
  | none => none
def vSnd (f : PF) : EF := fun env => (f env).bind fun p => match p.1 with
  | some (_, ds) => some (.tmp (.ol ds), p.2)
  | none => none
theorem sat_fst {t : TE} {f : PF} (h : SatPr K t f) : SatE K (tOp (rIx K) t (tC (.int 0))) (vFst f) := fun Hs H σ env x env' rr g Q q => by
  simp only [vFst, Option.bind_eq_some_iff] at g
  obtain ⟨⟨r, e1⟩, g1, g2⟩ := g
  split at g2
  · next d ds hr =>
    dsimp only at hr
    subst hr
    obtain ⟨rfl, rfl⟩ := Prod.mk.inj (Option.some.inj g2)
    refine h Hs H σ env _ e1 rr g1 _ fun Hs1 H1 v p1 k => ?_
    obtain ⟨T, v1, a, rfl, h2, h3, h4, h5, h6⟩ := k
    exact .inr (.inl ⟨T, _, 0, v1, rfl, rfl, SqT.of (p1.r.sub _ _ h2), rfl, q Hs1 H1 v1 p1 ⟨h3, fun z => nomatch z⟩ fun z => nomatch z⟩)
  · cases g2
theorem sat_snd {t : TE} {f : PF} (h : SatPr K t f) : SatE K (tOp (rIx K) t (tC (.int 1))) (vSnd f) := fun Hs H σ env x env' rr g Q q => by
  simp only [vSnd, Option.bind_eq_some_iff] at g
  obtain ⟨⟨r, e1⟩, g1, g2⟩ := g
  split at g2
  · next d ds hr =>
    dsimp only at hr
    subst hr
    obtain ⟨rfl, rfl⟩ := Prod.mk.inj (Option.some.inj g2)
    refine h Hs H σ env _ e1 rr g1 _ fun Hs1 H1 v p1 k => ?_
    obtain ⟨T, v1, a, rfl, h2, h3, h4, h5, h6⟩ := k
    exact .inr (.inl ⟨T, _, 1, .ref a, rfl, rfl, SqT.of (p1.r.sub _ _ h2), rfl, q Hs1 H1 (.ref a) p1 ⟨h4, fun _ => h5⟩ fun _ x ex => by cases ex; exact h6⟩)
  · cases g2
/-- return of a pair -/
def sRet2 (f : PF) : SF := fun env => (f env).bind fun p => match p.1 with
  | none => some (.rt (.o (.shr .non)) p.2)
  | some (d, ds) => some (.rt (.two d ds) p.2)
theorem sat_ret2 {te : TE} {f : PF} (h : SatPr K te f) : SatS K (tRet te) (sRet2 f) := fun Hs H σ env out rr g DE k => by
  simp only [sRet2, Option.bind_eq_some_iff] at g
  obtain ⟨⟨r, e1⟩, g1, g2⟩ := g
  refine h Hs H σ env r e1 rr g1 _ fun Hs1 H1 v p1 kv => ?_
  cases r with
  | none =>
    cases g2
    have e : v = .non := kv
    subst e
    exact k Hs1 H1 σ .non p1.por ⟨.non, fun w => nomatch w⟩
  | some p =>
    obtain ⟨d, ds⟩ := p
    cases g2
    obtain ⟨T, v1, a, h1, h2, h3, h4, h5, h6⟩ := kv
    exact k Hs1 H1 σ v p1.por ⟨T, v1, a, h1, h2, h3, h4, h6⟩
/-- x = e; if x is None: return b; return x -/
def sOr (i : Nat) (f b : PF) : SF := fun env => (f env).bind fun p => match p.1 with
  | none => (setS p.2 i (.shr .non)).bind fun e => sRet2 b e
  | some (d, ds) => (setS p.2 i (.shr .non)).bind fun _ => some (.rt (.two d ds) (p.2.set i none))
theorem t_or {i : Nat} {a b : TS} {σ : L2.St} {H : Hp} {v : V} {DD} (ev : σ[i]? = some (some v)) (k : Bool) (hk : decide (v = .non) = k) (h : if k = true then a DD σ H else b DD σ H) : tIfS (tTest (tOp rIsN2 (tVar i) (tC .non))) a b DD σ H := ⟨v, ev, rfl, k, congrArg _ hk, h⟩
theorem sat_orP {i : Nat} {te tb : TE} {f b : PF} (h : SatPr K te f) (hb : SatPr K tb b) : SatS K (tSeq (tAsg te (gName i)) (tSeq (tIfS (tTest (tOp rIsN2 (tVar i) (tC .non))) (tRet tb) tNext) (tRet (tVar i)))) (sOr i f b) := fun Hs H σ env out rr g DE k => by
  simp only [sOr, Option.bind_eq_some_iff] at g
  obtain ⟨⟨r, e1⟩, g1, g2⟩ := g
  refine h Hs H σ env r e1 rr g1 _ fun Hs1 H1 v p1 kv => ?_
  cases r with
  | none =>
    dsimp only at g2
    simp only [Option.bind_eq_some_iff] at g2
    obtain ⟨e2, g3, g4⟩ := g2
    have e : v = .non := kv
    subst e
    have p2 := p1.setD (d := .non) (v := .non) .non g3
    have hi : i < σ.length := by
      have := (setS_some g3).1
      rw [← p1.r.len]; exact this
    have ev : (σ.set i (some .non))[i]? = some (some .non) := List.getElem?_set_self hi
    refine t_or (a := tRet tb) (b := tNext) (DD := { DE with nx := tRet (tVar i) DE }) (σ := σ.set i (some .non)) ev true (by simp) ?_
    have z : tRet tb DE (σ.set i (some .non)) H1 := sat_ret2 hb Hs1 H1 (σ.set i (some .non)) e2 out p2.r g4 DE (k.after p2)
    exact z
  | some pr =>
    obtain ⟨d, ds⟩ := pr
    dsimp only at g2
    simp only [Option.bind_eq_some_iff] at g2
    obtain ⟨e2, g3, g4⟩ := g2
    cases g4
    obtain ⟨T, v1, a, rfl, h2, h3, h4, h5, h6⟩ := kv
    obtain ⟨hi0, _, hfree⟩ := setS_some g3
    have g5 : setS e1 i (.shr (.opq (.ref T))) = some (e1.set i (some { o := .shr (.opq (.ref T)) })) := by
      unfold setS at g3 ⊢
      split at g3
      · next s es =>
        split at g3
        · cases g3
        · next hh => rw [if_neg hh]
      · rfl
      · cases g3
    have p2 := p1.setD (d := .opq (.ref T)) (v := .ref T) (.opq _) g5
    have hi : i < σ.length := by rw [← p1.r.len]; exact hi0
    have ev : (σ.set i (some (.ref T)))[i]? = some (some (.ref T)) := List.getElem?_set_self hi
    refine t_or (a := tRet tb) (b := tNext) (DD := { DE with nx := tRet (tVar i) DE }) (σ := σ.set i (some (.ref T))) ev false (by simp) ?_
    show tRet (tVar i) DE (σ.set i (some (.ref T))) H1
    refine ⟨.ref T, ev, ?_⟩
    have at_ : ∀ {j : Nat} {s : Slot}, (e1.set i none)[j]? = some (some s) → j ≠ i ∧ (e1.set i (some { o := .shr (.opq (.ref T)) }))[j]? = some (some s) := fun {j s} ej => by
      by_cases z : i = j
      · subst z
        rw [List.getElem?_set_self hi0] at ej
        cases ej
      · rw [List.getElem?_set_ne z] at ej
        exact ⟨fun w => z w.symm, by rw [List.getElem?_set_ne z]; exact ej⟩
    refine k Hs1 H1 _ (.ref T) ⟨⟨by rw [List.length_set, List.length_set]; exact p1.r.len, p2.r.sub, fun j s ej => p2.r.ok j s (at_ ej).2, fun j l w ⟨s1, a1, b1⟩ ⟨s2, a2, b2⟩ => p2.r.inj j l w ⟨s1, (at_ a1).2, b1⟩ ⟨s2, (at_ a2).2, b2⟩⟩, p2.ext, fun j s ej pn => ?_⟩ ⟨T, v1, a, rfl, h2, h3, h4, h6⟩
    obtain ⟨c1, s', c2, c3, _⟩ := p2.pin j s ej pn
    have ne : i ≠ j := fun z => by
      subst z
      rw [List.getElem?_set_self hi0] at c2
      cases c2
      cases c3
    exact ⟨c1, s', by rw [List.getElem?_set_ne ne]; rw [List.getElem?_set_ne ne] at c2; exact c2, c3⟩
end
/-! ### for the text -/
structure VPr (X : Cx) (e : Expr) (t : TE) (f : PF) : Prop where
  pe : PE X e t
  sat : SatPr X.K t f
section
variable {X : Cx} {a b e : Expr} {es : List Expr} {ta tb te : TE} {fa fb fe : EF} {pos : Pos} {t : TA} {fhs : HsF}
theorem v_tup2 {x1} (ha : VE X a ta fa) (hb : VE X b tb fb) (hs : starEach [a, b] X.env = (false, eval a X.env) :: starEach [b] X.env := by rfl) (hs2 : starEach [b] X.env = (false, eval b X.env) :: starEach [] X.env := by rfl) : VPr X (.Tuple [a, b] x1 pos) (tTup (tCons ta (tCons tb tNil))) (vTup2 (vTake fa) fb) :=
  ⟨pe_tup (pa_cons ha.pe (pa_cons hb.pe pa_nil hs2) hs), sat_tup2 (sat_take ha.sat) hb.sat⟩
theorem v_callP {x : Str} {p : Pos} {k j : Nat} {ps : List Str} {F : FF} {P : Program} {w : World} {K : PySem.W.Frag} {mg : Str → Option Value} {base : Heap} {A : Around} (hD : Df P w K mg base j x ps F) (hr : Room k A) (ha : VHs X (e :: es) t fhs) (hk : j ≤ k := by omega) (hg : Gl X x := by rfl)
    (eP : X.prog = P := by rfl) (ew : X.w = w := by rfl) (eK : X.K = K := by rfl) (em : X.mg = mg := by rfl) (eb : X.base = base := by rfl) (eA : X.A = A := by rfl) (hdb : (x == ("__debug__" : Str)) = false := by decide)
    (he : starEach (e :: es) X.env = (false, eval e X.env) :: starEach es X.env := by rfl) (hpl : (backTo pos (starEach es X.env)).any (·.1) = false := by rfl) : VPr X (.Call (.Name x p) (e :: es) [] pos) (tCall (spV K F) [] (fun _ _ _ => False) t) (vCallP F fhs) := by
  subst eP ew eK em eb eA
  exact ⟨pe_callE (hD.mono hk) hr ha.pe hg hdb he hpl, sat_callP ha.sat⟩
theorem v_fst {f : PF} {K : PySem.W.Frag} {p2 : Pos} {j} (ha : VPr X a ta f) (hs : PlainIx (.Constant (.int 0) j p2) := by exact fun _ _ => rfl) (eK : X.K = K := by rfl) : VE X (.Subscript a (.Constant (.int 0) j p2) pos) (tOp (rIx K) ta (tC (.int 0))) (vFst f) := by subst eK; exact ⟨pe_ix ix_seq ha.pe pe_int hs, sat_fst ha.sat⟩
theorem v_snd {f : PF} {K : PySem.W.Frag} {p2 : Pos} {j} (ha : VPr X a ta f) (hs : PlainIx (.Constant (.int 1) j p2) := by exact fun _ _ => rfl) (eK : X.K = K := by rfl) : VE X (.Subscript a (.Constant (.int 1) j p2) pos) (tOp (rIx K) ta (tC (.int 1))) (vSnd f) := by subst eK; exact ⟨pe_ix ix_seq ha.pe pe_int hs, sat_snd ha.sat⟩
theorem v_ret2 {f : PF} (h : VPr X e te f) : VS X (.Return (some e) pos) (tRet te) (sRet2 f) := ⟨ps_ret h.pe, sat_ret2 h.sat⟩
theorem vs_or (i : Nat) {x : Str} {px px2 px3 pa pif pr pr2 pc pn : Pos} {jn} {f g : PF} (hN : X.N.Nodup) (he : VPr X e te f) (hb : VPr X b tb g) (hi : X.N[i]? = some x := by rfl) (hx : Loc X.env.scope x := by first | exact Or.inl rfl | exact Or.inr rfl) (hs : swapsWith e (some (.Name x px)) pa.line X.env = pure false := by rfl) (hf : X.fn x = true ∨ X.env.scope.names.lookup x = some .local := by first | exact .inl rfl | exact .inr rfl | assumption)
    (ho : VE X (.Name x px2) (tVar i) (vVar i)) (ho3 : VE X (.Name x px3) (tVar i) (vVar i)) (hm : behindInMarks .Is (.Constant .none jn pn) = false := by rfl) :
    VSs X [.Assign [.Name x px] e pa, .If (.Compare (.Name x px2) [.Is] [.Constant .none jn pn] pc) [.Return (some b) pr] [] pif, .Return (some (.Name x px3)) pr2] (tSeq (tAsg te (gName i)) (tSeq (tIfS (tTest (tOp rIsN2 (tVar i) (tC .non))) (tRet tb) tNext) (tRet (tVar i)))) (sOr i f g) :=
  ⟨pss_cons (ps_set hN hi hx he.pe hs hf) (pss_cons (ps_if (pt_cmpR op_isN2 ho.pe pe_non hm) (pss_one (ps_ret hb.pe)) pss_nil) (pss_one (ps_ret ho3.pe))), sat_orP he.sat hb.sat⟩
end
section
variable {X : Cx} {pos : Pos}
theorem v_setLc2 (i : Nat) {y : Str} {py : Pos} {elt tg iter tg1 iter1 : Expr} {scope : Scope} (own : List (Str × Nat)) (vs1 : List Nat) {spos : Pos} {wi wi1 : TI} {fi : IF} {fi1 : IHF} {g g1 : TG} {ws ws1 : List Nat} {gf gf1 : GF} {te : TE} {fe : EF} (hN : X.N.Nodup)
    (hsw : swapsWith (.ListComp elt [⟨tg, iter, [], 0⟩, ⟨tg1, iter1, [], 0⟩] scope pos) (some (.Name y py)) spos.line X.env = pure true) (hi : VI X tg iter wi fi) (ok : blkC X.N X.env.scope scope own = true)
    (hg : ∀ (s : Shared) (H : Hp) (C : Addr) (cl : List (Str × Addr)) (fp : List Addr), VG (X.blk s H scope (compEnvC scope cl C X.env) fp) tg g ws gf)
    (hi1 : ∀ (s : Shared) (H : Hp) (C : Addr) (cl : List (Str × Addr)) (fp : List Addr), VIH (X.blk s H scope (compEnvC scope cl C X.env) fp) tg1 iter1 wi1 fi1)
    (hg1 : ∀ (s : Shared) (H : Hp) (C : Addr) (cl : List (Str × Addr)) (fp : List Addr), VG (X.blk s H scope (compEnvC scope cl C X.env) fp) tg1 g1 ws1 gf1)
    (he : ∀ (s : Shared) (H : Hp) (C : Addr) (cl : List (Str × Addr)) (fp : List Addr), VE (X.blk s H scope (compEnvC scope cl C X.env) fp) elt te fe) (hy : X.N[i]? = some y := by rfl) (hyl : X.env.scope.names.lookup y = some .local := by rfl)
    (h1 : ∀ i ∈ ws, i ∈ own.map (·.2) := by decide) (h2 : ∀ i ∈ ws1, i ∈ vs1 := by decide) (h3 : ∀ i ∈ vs1, i ∈ own.map (·.2) := by decide) (h4 : ∀ i ∈ vs1, i ∉ ws := by decide)
    (hc : X.calm = true := by rfl) (hs : ∀ x, foldedSetIterable iter X.env x = pure x := by intro _; rfl) (hs1 : ∀ env x, foldedSetIterable iter1 env x = pure x := by intro _ _; rfl) :
    VS X (.Assign [.Name y py] (.ListComp elt [⟨tg, iter, [], 0⟩, ⟨tg1, iter1, [], 0⟩] scope pos) spos) (tAsg (tLc2 wi g tYes wi1 g1 tYes te (own.map (·.2)) vs1) (gName i)) (sSet i (vLc2 fi gf bYes fi1 gf1 bYes (vTake fe) (own.map (·.2)) vs1)) :=
  ⟨ps_setLc2 hc hN hy hyl hsw hi.pe (blkOk_by ok) h3 (fun s H C cl fp => (hg s H C cl fp).pe) (fun _ _ _ _ _ => pts_nil) (fun s H C cl fp => (hi1 s H C cl fp).pe) (fun s H C cl fp => (hg1 s H C cl fp).pe) (fun _ _ _ _ _ => pts_nil) (fun s H C cl fp => (he s H C cl fp).pe) hs hs1,
   sat_set (sat_lc2 hi.sat (hg {} (fun _ => none) 0 [] []).sat h1 sat_yes (hi1 {} (fun _ => none) 0 [] []).sat (hg1 {} (fun _ => none) 0 [] []).sat h2 h3 h4 sat_yes (sat_take (he {} (fun _ => none) 0 [] []).sat))⟩
end
/-! ### running -/
section
variable {env : Sto} {fa fb : EF}
def XPr (f : PF) (env : Sto) (Q : Option (D × List D) → Sto → Prop) : Prop := ∃ r e, f env = some (r, e) ∧ Q r e
theorem xpr_tup {fd : DF} {fe : EF} {Q : Option (D × List D) → Sto → Prop} (h : XD fd env fun d e => XE fe e fun x e1 => ∃ ds, x = .tmp (.ol ds) ∧ Q (some (d, ds)) e1) : XPr (vTup2 fd fe) env Q := by
  obtain ⟨d, e, h1, x, e1, h2, ds, rfl, q⟩ := h
  exact ⟨_, _, by simp only [vTup2, h1, Option.bind_some, h2], q⟩
theorem ol_tmp {ds : List D} {P : List D → Prop} (q : P ds) : ∃ xs, Hnd.tmp (.ol ds) = .tmp (.ol xs) ∧ P xs := ⟨_, rfl, q⟩
def prOf : Rs → Option (Option (D × List D))
  | .o (.shr .non) => some none
  | .two d ds => some (some (d, ds))
  | _ => none
def XKP (F : FF) (hs : List Hnd) (os : List O) (e : Sto) (Q : Option (D × List D) → Sto → Prop) : Prop := XF F os fun r fs => XO (prOf r) fun a => ∃ e', Wb e hs os fs e' ∧ fs.length = os.length ∧ Q a e'
theorem xpr_call {F : FF} {f : HsF} {Q : Option (D × List D) → Sto → Prop} (h : XHs f env fun hs e => XO (hGets e hs) fun os => lendOk e hs os = true ∧ XKP F hs os e Q) : XPr (vCallP F f) env Q := by
  obtain ⟨hs, e, h1, os, h2, h3, ⟨r, fs⟩, h4, a, h5, e', h6, h7, q⟩ := h
  refine ⟨a, e', ?_, q⟩
  simp only [vCallP, h1, Option.bind_some, h2, h3, if_true, h4, h7, if_true, h6.eq]
  dsimp only at h5
  unfold prOf at h5
  split at h5
  · cases h5; rfl
  · cases h5; rfl
  · cases h5
theorem lendP {F : FF} {hs : List Hnd} {os : List O} {Q : Option (D × List D) → Sto → Prop} (h : lendOk env hs os = true) (k : XF F os fun r fs => XO (prOf r) fun a => ∃ e', Wb env hs os fs e' ∧ fs.length = os.length ∧ Q a e') : lendOk env hs os = true ∧ XKP F hs os env Q := ⟨h, k⟩
theorem pr_n {Q : Option (D × List D) → Prop} (q : Q none) : XO (prOf (.o (.shr .non))) Q := ⟨_, rfl, q⟩
theorem pr_t {d : D} {ds : List D} {Q : Option (D × List D) → Prop} (q : Q (some (d, ds))) : XO (prOf (.two d ds)) Q := ⟨_, rfl, q⟩
theorem xe_fst {f : PF} {Q : Hnd → Sto → Prop} (h : XPr f env fun r e => ∃ d ds, r = some (d, ds) ∧ Q (.tmp (.shr d)) e) : XE (vFst f) env Q := by
  obtain ⟨r, e, h1, d, ds, rfl, q⟩ := h
  exact ⟨_, _, by simp only [vFst, h1, Option.bind_some], q⟩
theorem xe_snd {f : PF} {Q : Hnd → Sto → Prop} (h : XPr f env fun r e => ∃ d ds, r = some (d, ds) ∧ Q (.tmp (.ol ds)) e) : XE (vSnd f) env Q := by
  obtain ⟨r, e, h1, d, ds, rfl, q⟩ := h
  exact ⟨_, _, by simp only [vSnd, h1, Option.bind_some], q⟩
theorem some2 {d : D} {ds : List D} {P : D → List D → Prop} (q : P d ds) : ∃ x xs, some (d, ds) = some (x, xs) ∧ P x xs := ⟨_, _, rfl, q⟩
def ret2Q (Q : Out → Prop) : Option (D × List D) → Sto → Prop
  | none, e => Q (.rt (.o (.shr .non)) e)
  | some (d, ds), e => Q (.rt (.two d ds) e)
theorem xs_ret2 {f : PF} {Q : Out → Prop} (h : XPr f env (ret2Q Q)) : XS (sRet2 f) env Q := by
  obtain ⟨r, e, h1, q⟩ := h
  cases r with
  | none => exact ⟨_, by simp only [sRet2, h1, Option.bind_some], q⟩
  | some p => exact ⟨_, by simp only [sRet2, h1, Option.bind_some], q⟩
theorem ret2_n {Q : Out → Prop} (q : Q (.rt (.o (.shr .non)) env)) : ret2Q Q none env := q
theorem ret2_s {d : D} {ds : List D} {Q : Out → Prop} (q : Q (.rt (.two d ds) env)) : ret2Q Q (some (d, ds)) env := q
def orQ (i : Nat) (b : PF) (Q : Out → Prop) : Option (D × List D) → Sto → Prop
  | none, e => ∃ e', Put e i (.shr .non) e' ∧ XPr b e' (ret2Q Q)
  | some (d, ds), e => ∃ e' e'', Put e i (.shr .non) e' ∧ SetAt e i none e'' ∧ Q (.rt (.two d ds) e'')
theorem xs_or {i : Nat} {f b : PF} {Q : Out → Prop} (h : XPr f env (orQ i b Q)) : XS (sOr i f b) env Q := by
  obtain ⟨r, e, h1, q⟩ := h
  cases r with
  | none =>
    obtain ⟨e', h2, r, e2, h3, q⟩ := q
    cases r with
    | none => exact ⟨_, by simp only [sOr, sRet2, h1, Option.bind_some, h2.eq, h3], q⟩
    | some p => exact ⟨_, by simp only [sOr, sRet2, h1, Option.bind_some, h2.eq, h3], q⟩
  | some p =>
    obtain ⟨d, ds⟩ := p
    obtain ⟨e', e'', h2, h3, q⟩ := q
    exact ⟨_, by simp only [sOr, h1, Option.bind_some, h2.eq, h3.eq], q⟩
theorem or_n {i : Nat} {b : PF} {Q : Out → Prop} {e' : Sto} (h : Put env i (.shr .non) e') (q : XPr b e' (ret2Q Q)) : orQ i b Q none env := ⟨_, h, q⟩
theorem or_s {i : Nat} {b : PF} {d : D} {ds : List D} {Q : Out → Prop} {e' e'' : Sto} (h : Put env i (.shr .non) e') (h2 : SetAt env i none e'') (q : Q (.rt (.two d ds) e'')) : orQ i b Q (some (d, ds)) env := ⟨_, _, h, h2, q⟩
end
end PV

set_option maxRecDepth 100000
set_option maxHeartbeats 2000000
namespace PV
open PySem L2 PySem.Spec PyProof.Rows
/-! ### walking a text -/
def iStrD (f : EF) : IF := fun env => (f env).bind fun p => (hGet p.2 p.1).bind fun x => (asS x).map fun s => ((s.cps.toList.map fun c => D.str ⟨#[c]⟩, none), p.2)
section
variable {K : PySem.W.Frag}
theorem sat_strI {te : TE} {f : EF} (h : SatE K te f) : SatI K (iStr te) (iStrD f) := fun Hs H σ env ds l env1 r g Rr q => by
  simp only [iStrD, Option.bind_eq_some_iff, Option.map_eq_some_iff] at g
  obtain ⟨⟨a, e1⟩, g1, x, g2, s, g3, g4⟩ := g
  obtain ⟨g5, rfl⟩ := Prod.mk.inj g4
  obtain ⟨rfl, rfl⟩ := Prod.mk.inj g5
  refine h Hs H σ env a e1 r g1 _ fun Hs1 H1 v p1 k1 f1 => ?_
  have ev := asS_ok g3 (k1.get p1.r g2)
  subst ev
  refine ⟨s, rfl, q Hs1 H1 _ p1 trivial fun Hs2 H2 x sb i => ⟨fun d ed => ?_, fun hi => ?_⟩⟩
  · rw [List.getElem?_map, Option.map_eq_some_iff] at ed
    obtain ⟨c, hc, rfl⟩ := ed
    have hl : i < s.cps.size := by
      have := (List.getElem?_eq_some_iff.mp hc).1
      simpa using this
    refine ⟨hl, fun y H3 yl => ?_⟩
    obtain ⟨rfl, c', hc', rfl⟩ := yl
    have : c' = c := by
      rw [← Array.getElem?_toList, hc] at hc'
      exact (Option.some.inj hc').symm
    subst this
    exact ⟨Hs2, Ext.refl, sb, .str _⟩
  · rw [List.length_map] at hi
    show s.cps.size ≤ i
    simpa using hi
end
section
variable {X : Cx} {e : Expr} {te : TE} {fe : EF}
theorem vi_str {tg : Expr} (h : VE X e te fe) : VI X tg e (iStr te) (iStrD fe) := ⟨pi_str h.pe, sat_strI h.sat⟩
end
/-! ### running -/
section
variable {env env' : Sto} {fa fb : EF} {i : Nat}
theorem xi_str {Q : List D → Option (Nat × Slot) → Sto → Prop} (h : XE fa env fun a e => XO (hGet e a) fun x => XO (asS x) fun s => Q (s.cps.toList.map fun c => D.str ⟨#[c]⟩) none e) : XI (iStrD fa) env Q := by
  obtain ⟨a, e, h1, x, h2, s, h3, q⟩ := h
  exact ⟨_, _, _, by simp only [iStrD, h1, Option.bind_some, h2, h3, Option.map_some], q⟩
def wlQ (I : Nat → Sto → Prop) (m : Nat) (Q : Out → Prop) : Out → Prop
  | .nx e => ∃ k, k < m ∧ I k e
  | .ct e => ∃ k, k < m ∧ I k e
  | .bk e => Q (.nx e)
  | .rt x e => Q (.rt x e)
theorem wl_nx {I : Nat → Sto → Prop} {m k : Nat} {Q : Out → Prop} (h : k < m) (q : I k env) : wlQ I m Q (.nx env) := ⟨k, h, q⟩
theorem wl_ct {I : Nat → Sto → Prop} {m k : Nat} {Q : Out → Prop} (h : k < m) (q : I k env) : wlQ I m Q (.ct env) := ⟨k, h, q⟩
theorem wl_bk {I : Nat → Sto → Prop} {m : Nat} {Q : Out → Prop} (q : Q (.nx env)) : wlQ I m Q (.bk env) := q
theorem wl_rt {I : Nat → Sto → Prop} {m : Nat} {r : Rs} {Q : Out → Prop} (q : Q (.rt r env)) : wlQ I m Q (.rt r env) := q
theorem xs_while {c : BF} {b : SF} {Q : Out → Prop} (I : Nat → Sto → Prop) (hs : ∀ m e, I m e → XB c e fun k e1 => TF k (XS b e1 (wlQ I m Q)) (Q (.nx e1))) : ∀ (n m : Nat) (env : Sto), m < n → I m env → XS (sWhile n c b) env Q
  | 0, m, env, hm, _ => by omega
  | n + 1, m, env, hm, h => by
    obtain ⟨k, e1, h1, h2, h3⟩ := hs m env h
    cases k with
    | false => exact ⟨_, by simp only [sWhile, h1, Option.bind_some, Bool.false_eq_true, if_false], h3 rfl⟩
    | true =>
      obtain ⟨o, h4, q⟩ := h2 rfl
      cases o with
      | nx e =>
        obtain ⟨k, hk, hi⟩ := q
        obtain ⟨o', h5, q'⟩ := xs_while I hs n k e (by omega) hi
        exact ⟨o', by simp only [sWhile, h1, Option.bind_some, if_true, h4]; exact h5, q'⟩
      | ct e =>
        obtain ⟨k, hk, hi⟩ := q
        obtain ⟨o', h5, q'⟩ := xs_while I hs n k e (by omega) hi
        exact ⟨o', by simp only [sWhile, h1, Option.bind_some, if_true, h4]; exact h5, q'⟩
      | bk e => exact ⟨_, by simp only [sWhile, h1, Option.bind_some, if_true, h4], q⟩
      | rt r e => exact ⟨_, by simp only [sWhile, h1, Option.bind_some, if_true, h4], q⟩
/-- a comprehension over any names -/
theorem xc_G {g : GF} {f : DF} {vs : List Nat} {ds acc0 : List D} {Q : List D → Sto → Prop} (J : Nat → List D → Sto → Prop) (h0 : J 0 acc0 env) (hd : ∀ acc e, J ds.length acc e → Q acc e)
    (hs : ∀ (k : Nat) acc e (h : k < ds.length), J k acc e → XO (g ds[k] e) fun e1 => XD f e1 fun y e3 => acc.length < 1000000 ∧ J (k + 1) (acc ++ [y]) (wipeE e3 vs)) : XC g bYes f vs ds acc0 env Q := by
  refine xc_inv (fun r acc e => ∃ k, k ≤ ds.length ∧ r = ds.drop k ∧ J k acc e) ?_ ?_ ds acc0 env ⟨0, Nat.zero_le _, rfl, h0⟩
  · rintro acc e ⟨k, hk, hr, j⟩
    have : ds.length ≤ k := by
      have := congrArg List.length hr
      simp at this; omega
    have : k = ds.length := by omega
    exact hd acc e (this ▸ j)
  · rintro d r acc e ⟨k, hk, hr, j⟩
    have hl : k < ds.length := by
      have := congrArg List.length hr
      simp at this; omega
    rw [List.drop_eq_getElem_cons hl] at hr
    obtain ⟨rfl, rfl⟩ := List.cons.inj hr
    refine (hs k acc e hl j).mono fun e1 h1 => ?_
    obtain ⟨y, e3, h2, h3, h4⟩ := h1
    exact ⟨true, e1, rfl, fun _ => ⟨y, e3, h2, h3, k + 1, hl, rfl, h4⟩, fun z => nomatch z⟩
def XC2 (g : GF) (fi1 : IHF) (g1 : GF) (f : DF) (vs vs1 : List Nat) (ds acc : List D) (env : Sto) (Q : List D → Sto → Prop) : Prop := ∃ a e, loopC2 g bYes fi1 g1 bYes f vs vs1 ds acc env = some (a, e) ∧ Q a e
theorem xe_lcc {fi : IF} {g g1 : GF} {fi1 : IHF} {f : DF} {vs vs1 : List Nat} {Q : Hnd → Sto → Prop} (h : XI fi env fun ds l e => XC2 g fi1 g1 f vs vs1 ds [] (wipeE (lockS e l) vs) fun acc e2 => Q (.tmp (.ol acc)) (unlockS (restE e2 (lockS e l) vs) l)) : XE (vLc2 fi g bYes fi1 g1 bYes f vs vs1) env Q := by
  obtain ⟨ds, l, e, h1, acc, e2, h2, q⟩ := h
  exact ⟨_, _, by simp only [vLc2, h1, Option.bind_some, h2], q⟩
theorem xcc_G {g g1 : GF} {fi1 : IHF} {f : DF} {vs vs1 : List Nat} {Q : List D → Sto → Prop} (J : List D → List D → Sto → Prop) (hd : ∀ acc e, J [] acc e → Q acc e)
    (hs : ∀ d r acc e, J (d :: r) acc e → XO (g d e) fun e1 => ∃ es e2, fi1 e1 = some (es, e2) ∧ XC g1 bYes f vs1 es acc e2 fun acc' e3 => J r acc' (wipeE e3 vs)) : ∀ (ds acc0 : List D) (env : Sto), J ds acc0 env → XC2 g fi1 g1 f vs vs1 ds acc0 env Q
  | [], acc0, env, h => ⟨_, _, rfl, hd _ _ h⟩
  | d :: r, acc0, env, h => by
    obtain ⟨e1, h1, es, e2, h2, acc', e3, h3, h4⟩ := hs d r acc0 env h
    obtain ⟨a, e, h5, q⟩ := xcc_G J hd hs r acc' _ h4
    refine ⟨a, e, ?_, q⟩
    rw [loopC2, h1, Option.bind_some, show bYes e1 = some (true, e1) from rfl, Option.bind_some, if_pos rfl, h2, Option.bind_some, h3, Option.bind_some]
    exact h5
theorem xih {f : DF} {P : List D → Sto → Prop} (h : XD f env fun d e => ∃ es, d = .lst es ∧ P es e) : ∃ es e2, iSeqH f env = some (es, e2) ∧ P es e2 := by
  obtain ⟨d, e, h1, es, rfl, q⟩ := h
  exact ⟨es, e, by simp only [iSeqH, h1, Option.bind_some], q⟩
/-! a list handed in for good -/
theorem v_frz {X : Cx} {e : Expr} {t : TE} {f : EF} (h : VE X e t f) : VE X e t (vRet (vTake f)) := ⟨h.pe, sat_ret (sat_take h.sat)⟩
theorem xe_frz {fd : DF} {Q : Hnd → Sto → Prop} (h : XD fd env fun d e => Q (.tmp (.shr d)) e) : XE (vRet fd) env Q := by
  obtain ⟨d, e, h1, q⟩ := h
  exact ⟨_, _, by simp only [vRet, h1, Option.bind_some], q⟩
end
end PV

set_option maxRecDepth 100000
set_option maxHeartbeats 4000000
namespace K39
open PV PySem L2 PySem.Spec PyProof.Rows
def top (i : Nat) : Stmt := PySem.Challenge.pw_knewbetter_k39_columns_meet_the_words.main.body.getD i (.Pass ⟨0, 0, 0, 0⟩)
/-! ### the built-ins that the text leaves as they are -/
def T_SIGN_OPS : List (Str × Str) := [("+", "add"), ("-", "sub"), ("*", "mul"), ("/", "div"), ("<", "less"), ("=", "same"), (">", "more")]
def T_RANKS : List (Str × Int) := [("<", 1), ("=", 1), (">", 1), ("+", 2), ("-", 2), ("*", 3), ("/", 3), ("minus", 4)]
structure Gb (mg : Str → Option Value) (K : PySem.W.Frag) (w : World) : Prop where
  b_len : mg "len" = none
  b_int : mg "int" = none
  b_RANKS : TabGI K w mg "RANKS" T_RANKS
  b_all : mg "all" = none
  b_SMALL : ∃ t, mg "SMALL" = some (.str "abcdefghijklmnopqrstuvwxyz" t)
  b_WORD_SIGNS : ∃ t, mg "WORD_SIGNS" = some (.str "abcdefghijklmnopqrstuvwxyz0123456789" t)
  b_PATH_SIGNS : ∃ t, mg "PATH_SIGNS" = some (.str "abcdefghijklmnopqrstuvwxyz0123456789/" t)
  b_MOST_LINE : ∃ t, mg "MOST_LINE" = some (.int 1000000 t)
  b_SIGN_OPS : TabG K w mg "SIGN_OPS" T_SIGN_OPS
  b_zip : mg "zip" = none
  b_sum : mg "sum" = none
  b_abs : mg "abs" = none
  b_bool : mg "bool" = none
  b_isinstance : mg "isinstance" = none
  b_str : mg "str" = none
  b_dict : mg "dict" = none
  b_tuple : mg "tuple" = none
  b_list : mg "list" = none
  b_range : mg "range" = none
  b_max : mg "max" = none
section
variable {P : Program} {w : World} {K : PySem.W.Frag} {mg : Str → Option Value} {base : Heap} {f : Addr} {fd : FuncData}
/-! ### is_variable -/
abbrev tx_is_variable : Stmt := top 2
theorem sc_is_variable : FnScope ["word"] ["word"] (defScope tx_is_variable) := ⟨rfl, rfl, rfl, by decide +kernel, rfl, by decide +kernel, by decide +kernel⟩
def f_is_variable : SF :=
    (sSeq (sIf (bTru (vSm (fun a b => .bl (Txt.startswith a b)) (vVar 0) (vC (.str "@"))))
      (sRet (vBin oLe (vCallB oLen (vConsH (vVar 0) vNilH)) (vC (.int 9))))
      sNil)
    (sRet (vBin oLe (vCallB oLen (vConsH (vVar 0) vNilH)) (vC (.int 8)))))
def F_is_variable : FF := defF 1 1 f_is_variable
theorem df_is_variable (g : Gb mg K w) (F' : Fun K "is_variable" "is_variable" tx_is_variable f fd) (m : mg "is_variable" = some (.ref f))  : Df P w K mg base 1 "is_variable" ["word"] F_is_variable :=
  ⟨f, fd, fnV F' sc_is_variable (fun cdv A outer s H E hr => VSs.ex (have hu := hr.units; have sc := sc_is_variable;
    (vs_cons (v_ifS (vt_tru (K := K) (v_starts (v_var 0) v_str))
      (vs_one (v_ret (v_cmp op_le (fun _ _ => s_le) (v_callB (call_lenK2 (K := K) rfl) (fun _ e => e ▸ s_len) PySem.boot_len g.b_len (vhs_cons (v_var 0) vhs_nil)) v_int)))
      vs_nil)
    (vs_one (v_ret (v_cmp op_le (fun _ _ => s_le) (v_callB (call_lenK2 (K := K) rfl) (fun _ e => e ▸ s_len) PySem.boot_len g.b_len (vhs_cons (v_var 0) vhs_nil)) v_int)))))), m, F'.kp, F'.binds (ps := ["word"]) fun _ _ _ _ _ _ us hl => match us, hl with | [_], _ => rfl⟩
/-! ### is_number -/
abbrev tx_is_number : Stmt := top 3
theorem sc_is_number : FnScope ["word"] ["word"] (defScope tx_is_number) := ⟨rfl, rfl, rfl, by decide +kernel, rfl, by decide +kernel, by decide +kernel⟩
def f_is_number : SF :=
    (sRet (vB (bAnd (bVal (vBin oLe (vCallB oLen (vConsH (vVar 0) vNilH)) (vC (.int 30)))) (bOr (bVal (vBin oEq (vVar 0) (vC (.str "0")))) (bNot (bVal (vSm (fun a b => .bl (Txt.startswith a b)) (vVar 0) (vC (.str "0")))))))))
def F_is_number : FF := defF 1 1 f_is_number
theorem df_is_number (g : Gb mg K w) (F' : Fun K "is_number" "is_number" tx_is_number f fd) (m : mg "is_number" = some (.ref f))  : Df P w K mg base 1 "is_number" ["word"] F_is_number :=
  ⟨f, fd, fnV F' sc_is_number (fun cdv A outer s H E hr => VSs.ex (have hu := hr.units; have sc := sc_is_number;
    (vs_one (v_ret (v_and (v_b (v_cmp op_le (fun _ _ => s_le) (v_callB (call_lenK2 (K := K) rfl) (fun _ e => e ▸ s_len) PySem.boot_len g.b_len (vhs_cons (v_var 0) vhs_nil)) v_int)) (v_one (v_or (v_b (v_cmp (op_eqK (K := K) rfl hu) (fun _ e => e ▸ s_eq) (v_var 0) v_str)) (v_one (v_not (v_b (v_starts (v_var 0) v_str))))))))))), m, F'.kp, F'.binds (ps := ["word"]) fun _ _ _ _ _ _ us hl => match us, hl with | [_], _ => rfl⟩
/-! ### leaf_of -/
abbrev tx_leaf_of : Stmt := top 4
theorem sc_leaf_of : FnScope ["token", "column", "kind", "word", "last"] ["token"] (defScope tx_leaf_of) := ⟨rfl, rfl, rfl, by decide +kernel, rfl, by decide +kernel, by decide +kernel⟩
def f_leaf_of : SF :=
    (sSeq (sAsg (vTake (vVar 0)) (gT 3 (gConsF (gN 1) (gConsF (gN 2) (gConsF (gN 3) gNilF)))))
    (sSeq (sSet 4 (vBin oSub (vBin oAdd (vVar 1) (vCallB oLen (vConsH (vVar 3) vNilH))) (vC (.int 1))))
    (sSeq (sIf (bAnd (bVal (vBin oEq (vVar 2) (vC (.str "number")))) (bTru (vCall F_is_number (vConsH (vVar 3) vNilH))))
      (sRet (vTup (vConsD (vTake (vC (.str "number"))) (vConsD (vTake (vCallB oInt (vConsH (vVar 3) vNilH))) (vConsD (vTake (vVar 1)) (vConsD (vTake (vVar 4)) vNilD))))))
      sNil)
    (sSeq (sIf (bAnd (bVal (vBin oEq (vVar 2) (vC (.str "name")))) (bTru (vCall F_is_variable (vConsH (vVar 3) vNilH))))
      (sRet (vTup (vConsD (vTake (vC (.str "name"))) (vConsD (vTake (vVar 3)) (vConsD (vTake (vVar 1)) (vConsD (vTake (vVar 4)) vNilD))))))
      sNil)
    (sRet (vC .non))))))
def F_leaf_of : FF := defF 5 1 f_leaf_of
theorem df_leaf_of (g : Gb mg K w) (F' : Fun K "leaf_of" "leaf_of" tx_leaf_of f fd) (m : mg "leaf_of" = some (.ref f)) (d_is_number : Df P w K mg base 1 "is_number" ["word"] F_is_number) (d_is_variable : Df P w K mg base 1 "is_variable" ["word"] F_is_variable) : Df P w K mg base 2 "leaf_of" ["token"] F_leaf_of :=
  ⟨f, fd, fnV F' sc_leaf_of (fun cdv A outer s H E hr => VSs.ex (have hu := hr.units; have sc := sc_leaf_of;
    (vs_cons (v_asg (v_var 0) (vg_tup (K := K) (vgs_cons (vg_name 1 sc.nd) (vgs_cons (vg_name 2 sc.nd) (vgs_cons (vg_name 3 sc.nd) vgs_nil)))))
    (vs_cons (v_set 4 sc.nd (v_sub (v_add (K := K) (v_var 1) (v_callB (call_lenK2 (K := K) rfl) (fun _ e => e ▸ s_len) PySem.boot_len g.b_len (vhs_cons (v_var 3) vhs_nil))) v_int))
    (vs_cons (v_ifS (vw_t (vw_and (vt_cmp (op_eqK (K := K) rfl hu) (fun _ e => e ▸ s_eq) (v_var 2) v_str) (vw_and1 (vt_tru (K := K) (v_call d_is_number hr (vhs_cons (v_var 3) vhs_nil))))))
      (vs_one (v_ret (v_tup (vds_cons v_str (vds_cons (v_callTy call_intA (fun _ _ => s_int) PyProof.Rows.boot_int g.b_int (vhs_cons (v_var 3) vhs_nil)) (vds_cons (v_var 1) (vds_cons (v_var 4) vds_nil)))))))
      vs_nil)
    (vs_cons (v_ifS (vw_t (vw_and (vt_cmp (op_eqK (K := K) rfl hu) (fun _ e => e ▸ s_eq) (v_var 2) v_str) (vw_and1 (vt_tru (K := K) (v_call d_is_variable hr (vhs_cons (v_var 3) vhs_nil))))))
      (vs_one (v_ret (v_tup (vds_cons v_str (vds_cons (v_var 3) (vds_cons (v_var 1) (vds_cons (v_var 4) vds_nil)))))))
      vs_nil)
    (vs_one (v_ret v_non)))))))), m, F'.kp, F'.binds (ps := ["token"]) fun _ _ _ _ _ _ us hl => match us, hl with | [_], _ => rfl⟩
/-! ### move_waiting -/
abbrev tx_move_waiting : Stmt := top 5
theorem sc_move_waiting : FnScope ["found", "waiting", "rank", "least", "sign", "column"] ["found", "waiting", "rank"] (defScope tx_move_waiting) := ⟨rfl, rfl, rfl, by decide +kernel, rfl, by decide +kernel, by decide +kernel⟩
def f_move_waiting : SF :=
    (sSeq (sSet 3 (vC (.int 5)))
    (sSeq (sWhile 100000 (bAnd (bTru (vVar 1)) (bAnd (bVal (vBin oNe (vBin oIx (vBin oIx (vVar 1) (vUn oNeg (vC (.int 1)))) (vC (.int 0))) (vC (.str "(")))) (bVal (vBin oGe (vUn (oIxGI T_RANKS) (vBin oIx (vBin oIx (vVar 1) (vUn oNeg (vC (.int 1)))) (vC (.int 0)))) (vVar 2)))))
      (sSeq (sAsg (vTake (vMt 1 "list" mPop vNilD)) (gT 2 (gConsF (gN 4) (gConsF (gN 5) gNilF))))
    (sSeq (sDrop (vMt 0 "list" mAppend (vConsD (vTake (vTup (vConsD (vTake (vVar 4)) (vConsD (vTake (vC .non)) (vConsD (vTake (vVar 5)) (vConsD (vTake (vVar 5)) vNilD)))))) vNilD)))
    (sSet 3 (vUn (oIxGI T_RANKS) (vVar 4))))))
    (sRet (vVar 3))))
def F_move_waiting : FF := defF 6 3 f_move_waiting
theorem df_move_waiting (g : Gb mg K w) (F' : Fun K "move_waiting" "move_waiting" tx_move_waiting f fd) (m : mg "move_waiting" = some (.ref f))  : Df P w K mg base 1 "move_waiting" ["found", "waiting", "rank"] F_move_waiting :=
  ⟨f, fd, fnV F' sc_move_waiting (fun cdv A outer s H E hr => VSs.ex (have hu := hr.units; have sc := sc_move_waiting;
    (vs_cons (v_set 3 sc.nd v_int)
    (vs_cons (v_while 100000 (vw_t (vw_and (vt_tru (K := K) (v_var 1)) (vw_and (vt_cmp (op_neK (K := K) rfl hu) (fun _ e => e ▸ s_ne) (v_ix (K := K) (v_ix (K := K) (v_var 1) (v_neg v_int)) v_int) v_str) (vw_and1 (vt_cmp op_ge (fun _ _ => s_ge) (v_ixGI g.b_RANKS (v_ix (K := K) (v_ix (K := K) (v_var 1) (v_neg v_int)) v_int)) (v_var 2))))))
      (vs_cons (v_asg (v_pop 1 (v_var 1)) (vg_tup (K := K) (vgs_cons (vg_name 4 sc.nd) (vgs_cons (vg_name 5 sc.nd) vgs_nil))))
    (vs_cons (v_expr (v_append 0 (v_var 0) (v_tup (vds_cons (v_var 4) (vds_cons v_non (vds_cons (v_var 5) (vds_cons (v_var 5) vds_nil)))))))
    (vs_one (v_set 3 sc.nd (v_ixGI g.b_RANKS (v_var 4)))))))
    (vs_one (v_ret (v_var 3))))))), m, F'.kp, F'.binds (ps := ["found", "waiting", "rank"]) fun _ _ _ _ _ _ us hl => match us, hl with | [_, _, _], _ => rfl⟩
/-! ### put_sign -/
abbrev tx_put_sign : Stmt := top 6
theorem sc_put_sign : FnScope ["found", "waiting", "sign", "column", "least"] ["found", "waiting", "sign", "column"] (defScope tx_put_sign) := ⟨rfl, rfl, rfl, by decide +kernel, rfl, by decide +kernel, by decide +kernel⟩
def f_put_sign : SF :=
    (sSeq (sSet 4 (vCall F_move_waiting (vConsH (vVar 0) (vConsH (vVar 1) (vConsH (vUn (oIxGI T_RANKS) (vVar 2)) vNilH)))))
    (sSeq (sDrop (vMt 1 "list" mAppend (vConsD (vTake (vTup (vConsD (vTake (vVar 2)) (vConsD (vTake (vVar 3)) vNilD)))) vNilD)))
    (sRet (vB (bNot (bAnd (bVal (vBin oEq (vVar 4) (vC (.int 1)))) (bVal (vBin oEq (vUn (oIxGI T_RANKS) (vVar 2)) (vC (.int 1))))))))))
def F_put_sign : FF := defF 5 4 f_put_sign
theorem df_put_sign (g : Gb mg K w) (F' : Fun K "put_sign" "put_sign" tx_put_sign f fd) (m : mg "put_sign" = some (.ref f)) (d_move_waiting : Df P w K mg base 1 "move_waiting" ["found", "waiting", "rank"] F_move_waiting) : Df P w K mg base 2 "put_sign" ["found", "waiting", "sign", "column"] F_put_sign :=
  ⟨f, fd, fnV F' sc_put_sign (fun cdv A outer s H E hr => VSs.ex (have hu := hr.units; have sc := sc_put_sign;
    (vs_cons (v_set 4 sc.nd (v_call d_move_waiting hr (vhs_cons (v_var 0) (vhs_cons (v_var 1) (vhs_cons (v_ixGI g.b_RANKS (v_var 2)) vhs_nil)))))
    (vs_cons (v_expr (v_append 1 (v_var 1) (v_tup (vds_cons (v_var 2) (vds_cons (v_var 3) vds_nil)))))
    (vs_one (v_ret (v_not (v_and (v_b (v_cmp (op_eqK (K := K) rfl hu) (fun _ e => e ▸ s_eq) (v_var 4) v_int)) (v_one (v_b (v_cmp (op_eqK (K := K) rfl hu) (fun _ e => e ▸ s_eq) (v_ixGI g.b_RANKS (v_var 2)) v_int))))))))))), m, F'.kp, F'.binds (ps := ["found", "waiting", "sign", "column"]) fun _ _ _ _ _ _ us hl => match us, hl with | [_, _, _, _], _ => rfl⟩
/-! ### close_bracket -/
abbrev tx_close_bracket : Stmt := top 7
theorem sc_close_bracket : FnScope ["found", "waiting", "one"] ["found", "waiting"] (defScope tx_close_bracket) := ⟨rfl, rfl, rfl, by decide +kernel, rfl, by decide +kernel, by decide +kernel⟩
def f_close_bracket : SF :=
    (sSeq (sIf (bVal (vBin oNotInQ (vC (.str "(")) (vLc (iSeq (vVar 1)) (gN 2) bYes (vTake (vBin oIx (vVar 2) (vC (.int 0)))) [2])))
      (sRet (vC (.bl false)))
      sNil)
    (sSeq (sDrop (vCall F_move_waiting (vConsH (vVar 0) (vConsH (vVar 1) (vConsH (vC (.int 1)) vNilH)))))
    (sSeq (sDrop (vMt 1 "list" mPop vNilD))
    (sRet (vC (.bl true))))))
def F_close_bracket : FF := defF 3 2 f_close_bracket
theorem df_close_bracket (g : Gb mg K w) (F' : Fun K "close_bracket" "close_bracket" tx_close_bracket f fd) (m : mg "close_bracket" = some (.ref f)) (d_move_waiting : Df P w K mg base 1 "move_waiting" ["found", "waiting", "rank"] F_move_waiting) : Df P w K mg base 2 "close_bracket" ["found", "waiting"] F_close_bracket :=
  ⟨f, fd, fnV F' sc_close_bracket (fun cdv A outer s H E hr => VSs.ex (have hu := hr.units; have sc := sc_close_bracket;
    (vs_cons (v_ifS (vt_cmp (op_notInK (K := K) rfl) (fun _ e => e ▸ s_notInQ) v_str (v_lc [("one", 2)] sc.nd (vi_seq (K := K) (v_var 1)) (by kernel_rfl) (fun _ _ _ _ _ => (vg_name 2 sc.nd)) (fun _ _ _ _ _ => by exact vts_nil) (fun _ _ _ _ _ => by exact (v_ix (K := K) (v_var 2) v_int))))
      (vs_one (v_ret v_bl))
      vs_nil)
    (vs_cons (v_expr (v_call d_move_waiting hr (vhs_cons (v_var 0) (vhs_cons (v_var 1) (vhs_cons v_int vhs_nil)))))
    (vs_cons (v_expr (v_pop 1 (v_var 1)))
    (vs_one (v_ret v_bl))))))), m, F'.kp, F'.binds (ps := ["found", "waiting"]) fun _ _ _ _ _ _ us hl => match us, hl with | [_, _], _ => rfl⟩
/-! ### read_postfix -/
abbrev tx_read_postfix : Stmt := top 8
theorem sc_read_postfix : FnScope ["row", "at", "found", "waiting", "wants", "column", "kind", "word", "leaf", "one"] ["row", "at"] (defScope tx_read_postfix) := ⟨rfl, rfl, rfl, by decide +kernel, rfl, by decide +kernel, by decide +kernel⟩
def f_read_postfix : SF :=
    (sSeq (sSet 2 (vLst vNilD))
    (sSeq (sSet 3 (vLst vNilD))
    (sSeq (sSet 4 (vC (.bl true)))
    (sSeq (sWhile 100000 (bVal (vBin oLt (vVar 1) (vCallB oLen (vConsH (vVar 0) vNilH))))
      (sSeq (sAsg (vTake (vBin oIx (vVar 0) (vVar 1))) (gT 3 (gConsF (gN 5) (gConsF (gN 6) (gConsF (gN 7) gNilF)))))
    (sSeq (sIf (bAnd (bTru (vVar 4)) (bAnd (bVal (vBin oEq (vVar 6) (vC (.str "sign")))) (bVal (vBin oInQ (vVar 7) (vTup (vConsD (vTake (vC (.str "-"))) (vConsD (vTake (vC (.str "("))) vNilD)))))))
      (sDrop (vMt 3 "list" mAppend (vConsD (vTake (vTup (vConsD (vTake (vIf (bVal (vBin oEq (vVar 7) (vC (.str "-")))) (vC (.str "minus")) (vC (.str "(")))) (vConsD (vTake (vVar 5)) vNilD)))) vNilD)))
      (sIf (bTru (vVar 4))
      (sSeq (sSet 8 (vCall F_leaf_of (vConsH (vBin oIx (vVar 0) (vVar 1)) vNilH)))
    (sSeq (sIf (bVal (vBin oIsN (vVar 8) (vC .non)))
      (sRet (vC .non))
      sNil)
    (sSeq (sDrop (vMt 2 "list" mAppend (vConsD (vTake (vVar 8)) vNilD)))
    (sSet 4 (vC (.bl false))))))
      (sIf (bAnd (bVal (vBin oEq (vVar 6) (vC (.str "sign")))) (bVal (vUn (oInGI T_RANKS) (vVar 7))))
      (sSeq (sIf (bNot (bTru (vCall F_put_sign (vConsH (vVar 2) (vConsH (vVar 3) (vConsH (vVar 7) (vConsH (vVar 5) vNilH)))))))
      (sRet (vC .non))
      sNil)
    (sSet 4 (vC (.bl true))))
      (sIf (bOr (bVal (vBin oNe (vVar 7) (vC (.str ")")))) (bNot (bTru (vCall F_close_bracket (vConsH (vVar 2) (vConsH (vVar 3) vNilH))))))
      sBrk
      sNil))))
    (sAug 1 oAddI (vC (.int 1))))))
    (sSeq (sIf (bOr (bTru (vVar 4)) (bVal (vBin oInQ (vC (.str "(")) (vLc (iSeq (vVar 3)) (gN 9) bYes (vTake (vBin oIx (vVar 9) (vC (.int 0)))) [9]))))
      (sRet (vC .non))
      sNil)
    (sSeq (sDrop (vCall F_move_waiting (vConsH (vVar 2) (vConsH (vVar 3) (vConsH (vC (.int 1)) vNilH)))))
    (sRet (vTup (vConsD (vTake (vVar 2)) (vConsD (vTake (vVar 1)) vNilD))))))))))
def F_read_postfix : FF := defF 10 2 f_read_postfix
theorem df_read_postfix (g : Gb mg K w) (F' : Fun K "read_postfix" "read_postfix" tx_read_postfix f fd) (m : mg "read_postfix" = some (.ref f)) (d_leaf_of : Df P w K mg base 2 "leaf_of" ["token"] F_leaf_of) (d_put_sign : Df P w K mg base 2 "put_sign" ["found", "waiting", "sign", "column"] F_put_sign) (d_close_bracket : Df P w K mg base 2 "close_bracket" ["found", "waiting"] F_close_bracket) (d_move_waiting : Df P w K mg base 1 "move_waiting" ["found", "waiting", "rank"] F_move_waiting) : Df P w K mg base 3 "read_postfix" ["row", "at"] F_read_postfix :=
  ⟨f, fd, fnV F' sc_read_postfix (fun cdv A outer s H E hr => VSs.ex (have hu := hr.units; have sc := sc_read_postfix;
    (vs_cons (v_set 2 sc.nd (v_lst vds_nil))
    (vs_cons (v_set 3 sc.nd (v_lst vds_nil))
    (vs_cons (v_set 4 sc.nd v_bl)
    (vs_cons (v_while 100000 (vt_cmp op_lt (fun _ _ => s_lt) (v_var 1) (v_callB (call_lenK2 (K := K) rfl) (fun _ e => e ▸ s_len) PySem.boot_len g.b_len (vhs_cons (v_var 0) vhs_nil)))
      (vs_cons (v_asg (v_ix (K := K) (v_var 0) (v_var 1)) (vg_tup (K := K) (vgs_cons (vg_name 5 sc.nd) (vgs_cons (vg_name 6 sc.nd) (vgs_cons (vg_name 7 sc.nd) vgs_nil)))))
    (vs_cons (v_ifS (vw_t (vw_and (vt_tru (K := K) (v_var 4)) (vw_and (vt_cmp (op_eqK (K := K) rfl hu) (fun _ e => e ▸ s_eq) (v_var 6) v_str) (vw_and1 (vt_cmp (op_inK (K := K) rfl) (fun _ e => e ▸ s_inQ) (v_var 7) (v_tup (vds_cons v_str (vds_cons v_str vds_nil))))))))
      (vs_one (v_expr (v_append 3 (v_var 3) (v_tup (vds_cons (v_if (vt_cmp (op_eqK (K := K) rfl hu) (fun _ e => e ▸ s_eq) (v_var 7) v_str) v_str v_str) (vds_cons (v_var 5) vds_nil))))))
      (vs_one (v_ifS (vt_tru (K := K) (v_var 4))
      (vs_cons (v_set 8 sc.nd (v_call d_leaf_of hr (vhs_cons (v_ix (K := K) (v_var 0) (v_var 1)) vhs_nil)))
    (vs_cons (v_ifS (vt_cmp op_isN2 (fun _ _ => s_isN) (v_var 8) v_non)
      (vs_one (v_ret v_non))
      vs_nil)
    (vs_cons (v_expr (v_append 2 (v_var 2) (v_var 8)))
    (vs_one (v_set 4 sc.nd v_bl)))))
      (vs_one (v_ifS (vw_t (vw_and (vt_cmp (op_eqK (K := K) rfl hu) (fun _ e => e ▸ s_eq) (v_var 6) v_str) (vw_and1 (vt_inGI g.b_RANKS (v_var 7)))))
      (vs_cons (v_ifS (vt_not (vt_tru (K := K) (v_call d_put_sign hr (vhs_cons (v_var 2) (vhs_cons (v_var 3) (vhs_cons (v_var 7) (vhs_cons (v_var 5) vhs_nil)))))))
      (vs_one (v_ret v_non))
      vs_nil)
    (vs_one (v_set 4 sc.nd v_bl)))
      (vs_one (v_ifS (vw_t (vw_or (vt_cmp (op_neK (K := K) rfl hu) (fun _ e => e ▸ s_ne) (v_var 7) v_str) (vw_or1 (vt_not (vt_tru (K := K) (v_call d_close_bracket hr (vhs_cons (v_var 2) (vhs_cons (v_var 3) vhs_nil))))))))
      (vs_one v_brk)
      vs_nil)))))))
    (vs_one (v_aug 1 ip_add s_ipadd sc.nd v_int)))))
    (vs_cons (v_ifS (vw_t (vw_or (vt_tru (K := K) (v_var 4)) (vw_or1 (vt_cmp (op_inK (K := K) rfl) (fun _ e => e ▸ s_inQ) v_str (v_lc [("one", 9)] sc.nd (vi_seq (K := K) (v_var 3)) (by kernel_rfl) (fun _ _ _ _ _ => (vg_name 9 sc.nd)) (fun _ _ _ _ _ => by exact vts_nil) (fun _ _ _ _ _ => by exact (v_ix (K := K) (v_var 9) v_int)))))))
      (vs_one (v_ret v_non))
      vs_nil)
    (vs_cons (v_expr (v_call d_move_waiting hr (vhs_cons (v_var 2) (vhs_cons (v_var 3) (vhs_cons v_int vhs_nil)))))
    (vs_one (v_ret (v_tup (vds_cons (v_var 2) (vds_cons (v_var 1) vds_nil))))))))))))), m, F'.kp, F'.binds (ps := ["row", "at"]) fun _ _ _ _ _ _ us hl => match us, hl with | [_, _], _ => rfl⟩
/-! ### tree_of -/
abbrev tx_tree_of : Stmt := top 9
theorem sc_tree_of : FnScope ["items", "left", "sign", "argument", "_", "right"] ["items"] (defScope tx_tree_of) := ⟨rfl, rfl, rfl, by decide +kernel, rfl, by decide +kernel, by decide +kernel⟩
def f_tree_of : SF :=
    (sSeq (sSet 1 (vLst vNilD))
    (sSeq (sFor (iSeq (vVar 0)) (gT 4 (gConsF (gN 2) (gConsF (gN 3) (gConsF (gN 4) (gConsF (gN 4) gNilF)))))
      (sIf (bOr (bVal (vBin oEq (vVar 2) (vC (.str "number")))) (bVal (vBin oEq (vVar 2) (vC (.str "name")))))
      (sDrop (vMt 1 "list" mAppend (vConsD (vTake (vTup (vConsD (vTake (vVar 2)) (vConsD (vTake (vVar 3)) vNilD)))) vNilD)))
      (sIf (bVal (vBin oEq (vVar 2) (vC (.str "minus"))))
      (sDrop (vMt 1 "list" mAppend (vConsD (vTake (vTup (vConsD (vTake (vVar 2)) (vConsD (vTake (vMt 1 "list" mPop vNilD)) vNilD)))) vNilD)))
      (sSeq (sSet 5 (vMt 1 "list" mPop vNilD))
    (sDrop (vMt 1 "list" mAppend (vConsD (vTake (vTup (vConsD (vTake (vVar 2)) (vConsD (vTake (vMt 1 "list" mPop vNilD)) (vConsD (vTake (vVar 5)) vNilD))))) vNilD)))))))
    (sRet (vMt 1 "list" mPop vNilD))))
def F_tree_of : FF := defF 6 1 f_tree_of
theorem df_tree_of (g : Gb mg K w) (F' : Fun K "tree_of" "tree_of" tx_tree_of f fd) (m : mg "tree_of" = some (.ref f))  : Df P w K mg base 1 "tree_of" ["items"] F_tree_of :=
  ⟨f, fd, fnV F' sc_tree_of (fun cdv A outer s H E hr => VSs.ex (have hu := hr.units; have sc := sc_tree_of;
    (vs_cons (v_set 1 sc.nd (v_lst vds_nil))
    (vs_cons (v_for (vi_seq (K := K) (v_var 0)) (vg_tup (K := K) (vgs_cons (vg_name 2 sc.nd) (vgs_cons (vg_name 3 sc.nd) (vgs_cons (vg_name 4 sc.nd) (vgs_cons (vg_name 4 sc.nd) vgs_nil)))))
      (vs_one (v_ifS (vw_t (vw_or (vt_cmp (op_eqK (K := K) rfl hu) (fun _ e => e ▸ s_eq) (v_var 2) v_str) (vw_or1 (vt_cmp (op_eqK (K := K) rfl hu) (fun _ e => e ▸ s_eq) (v_var 2) v_str))))
      (vs_one (v_expr (v_append 1 (v_var 1) (v_tup (vds_cons (v_var 2) (vds_cons (v_var 3) vds_nil))))))
      (vs_one (v_ifS (vt_cmp (op_eqK (K := K) rfl hu) (fun _ e => e ▸ s_eq) (v_var 2) v_str)
      (vs_one (v_expr (v_append 1 (v_var 1) (v_tup (vds_cons (v_var 2) (vds_cons (v_pop 1 (v_var 1)) vds_nil))))))
      (vs_cons (v_set 5 sc.nd (v_pop 1 (v_var 1)))
    (vs_one (v_expr (v_append 1 (v_var 1) (v_tup (vds_cons (v_var 2) (vds_cons (v_pop 1 (v_var 1)) (vds_cons (v_var 5) vds_nil)))))))))))))
    (vs_one (v_ret (v_pop 1 (v_var 1)))))))), m, F'.kp, F'.binds (ps := ["items"]) fun _ _ _ _ _ _ us hl => match us, hl with | [_], _ => rfl⟩
/-! ### places_of_items -/
abbrev tx_places_of_items : Stmt := top 10
theorem sc_places_of_items : FnScope ["items", "_", "first", "last"] ["items"] (defScope tx_places_of_items) := ⟨rfl, rfl, rfl, by decide +kernel, rfl, by decide +kernel, by decide +kernel⟩
def f_places_of_items : SF :=
    (sRet (vLc (iSeq (vVar 0)) (gT 4 (gConsF (gN 1) (gConsF (gN 1) (gConsF (gN 2) (gConsF (gN 3) gNilF))))) bYes (vTake (vTup (vConsD (vTake (vVar 2)) (vConsD (vTake (vVar 3)) vNilD)))) [1, 2, 3]))
def F_places_of_items : FF := defF 4 1 f_places_of_items
theorem df_places_of_items (g : Gb mg K w) (F' : Fun K "places_of_items" "places_of_items" tx_places_of_items f fd) (m : mg "places_of_items" = some (.ref f))  : Df P w K mg base 1 "places_of_items" ["items"] F_places_of_items :=
  ⟨f, fd, fnV F' sc_places_of_items (fun cdv A outer s H E hr => VSs.ex (have hu := hr.units; have sc := sc_places_of_items;
    (vs_one (v_ret (v_lc [("_", 1), ("first", 2), ("last", 3)] sc.nd (vi_seq (K := K) (v_var 0)) (by kernel_rfl) (fun _ _ _ _ _ => (vg_tup (K := K) (vgs_cons (vg_name 1 sc.nd) (vgs_cons (vg_name 1 sc.nd) (vgs_cons (vg_name 2 sc.nd) (vgs_cons (vg_name 3 sc.nd) vgs_nil)))))) (fun _ _ _ _ _ => by exact vts_nil) (fun _ _ _ _ _ => by exact (v_tup (vds_cons (v_var 2) (vds_cons (v_var 3) vds_nil))))))))), m, F'.kp, F'.binds (ps := ["items"]) fun _ _ _ _ _ _ us hl => match us, hl with | [_], _ => rfl⟩
/-! ### made_of -/
abbrev tx_made_of : Stmt := top 16
theorem sc_made_of : FnScope ["text", "signs", "sign"] ["text", "signs"] (defScope tx_made_of) := ⟨rfl, rfl, rfl, by decide +kernel, rfl, by decide +kernel, by decide +kernel⟩
def f_made_of : SF :=
    (sRet (vCallB oAll (vConsH (vLc (iStrD (vVar 0)) (gN 2) bYes (vTake (vBin oInStr (vVar 2) (vVar 1))) [2]) vNilH)))
def F_made_of : FF := defF 3 2 f_made_of
theorem df_made_of (g : Gb mg K w) (F' : Fun K "made_of" "made_of" tx_made_of f fd) (m : mg "made_of" = some (.ref f))  : Df P w K mg base 1 "made_of" ["text", "signs"] F_made_of :=
  ⟨f, fd, fnV F' sc_made_of (fun cdv A outer s H E hr => VSs.ex (have hu := hr.units; have sc := sc_made_of;
    (vs_one (v_ret (v_callB (call_allK (K := K) rfl rfl) (fun _ e => e ▸ s_all) boot_all g.b_all (vhs_cons (v_lc [("sign", 2)] sc.nd (vi_str (v_var 0)) (by kernel_rfl) (fun _ _ _ _ _ => (vg_name 2 sc.nd)) (fun _ _ _ _ _ => by exact vts_nil) (fun _ _ _ _ _ => by exact (v_cmp op_inStrR (fun _ _ => s_inStr) (v_var 2) (v_var 1)))) vhs_nil)))))), m, F'.kp, F'.binds (ps := ["text", "signs"]) fun _ _ _ _ _ _ us hl => match us, hl with | [_, _], _ => rfl⟩
/-! ### is_word -/
abbrev tx_is_word : Stmt := top 17
theorem sc_is_word : FnScope ["text"] ["text"] (defScope tx_is_word) := ⟨rfl, rfl, rfl, by decide +kernel, rfl, by decide +kernel, by decide +kernel⟩
def f_is_word : SF :=
    (sRet (vB (bAnd (bVal (vChain oLe oLe (vC (.int 1)) (vCallB oLen (vConsH (vVar 0) vNilH)) (vC (.int 10)))) (bAnd (bVal (vBin oInStr (vBin oIx (vVar 0) (vC (.int 0))) (vC (.str "abcdefghijklmnopqrstuvwxyz")))) (bVal (vCall F_made_of (vConsH (vVar 0) (vConsH (vC (.str "abcdefghijklmnopqrstuvwxyz0123456789")) vNilH))))))))
def F_is_word : FF := defF 1 1 f_is_word
theorem df_is_word (g : Gb mg K w) (F' : Fun K "is_word" "is_word" tx_is_word f fd) (m : mg "is_word" = some (.ref f)) (d_made_of : Df P w K mg base 1 "made_of" ["text", "signs"] F_made_of) : Df P w K mg base 2 "is_word" ["text"] F_is_word :=
  ⟨f, fd, fnV F' sc_is_word (fun cdv A outer s H E hr => VSs.ex (have hu := hr.units; have sc := sc_is_word;
    (vs_one (v_ret (v_and (v_b (v_chain op_le s_le op_le s_le v_int (v_callB (call_lenK2 (K := K) rfl) (fun _ e => e ▸ s_len) PySem.boot_len g.b_len (vhs_cons (v_var 0) vhs_nil)) v_int)) (v_and (v_b (v_cmp op_inStrR (fun _ _ => s_inStr) (v_ix (K := K) (v_var 0) v_int) (v_globS g.b_SMALL))) (v_one (v_b (v_call d_made_of hr (vhs_cons (v_var 0) (vhs_cons (v_globS g.b_WORD_SIGNS) vhs_nil))))))))))), m, F'.kp, F'.binds (ps := ["text"]) fun _ _ _ _ _ _ us hl => match us, hl with | [_], _ => rfl⟩
/-! ### is_path -/
abbrev tx_is_path : Stmt := top 18
theorem sc_is_path : FnScope ["text"] ["text"] (defScope tx_is_path) := ⟨rfl, rfl, rfl, by decide +kernel, rfl, by decide +kernel, by decide +kernel⟩
def f_is_path : SF :=
    (sRet (vB (bAnd (bVal (vChain oLe oLe (vC (.int 1)) (vCallB oLen (vConsH (vVar 0) vNilH)) (vC (.int 20)))) (bAnd (bVal (vBin oInStr (vBin oIx (vVar 0) (vC (.int 0))) (vC (.str "abcdefghijklmnopqrstuvwxyz")))) (bVal (vCall F_made_of (vConsH (vVar 0) (vConsH (vC (.str "abcdefghijklmnopqrstuvwxyz0123456789/")) vNilH))))))))
def F_is_path : FF := defF 1 1 f_is_path
theorem df_is_path (g : Gb mg K w) (F' : Fun K "is_path" "is_path" tx_is_path f fd) (m : mg "is_path" = some (.ref f)) (d_made_of : Df P w K mg base 1 "made_of" ["text", "signs"] F_made_of) : Df P w K mg base 2 "is_path" ["text"] F_is_path :=
  ⟨f, fd, fnV F' sc_is_path (fun cdv A outer s H E hr => VSs.ex (have hu := hr.units; have sc := sc_is_path;
    (vs_one (v_ret (v_and (v_b (v_chain op_le s_le op_le s_le v_int (v_callB (call_lenK2 (K := K) rfl) (fun _ e => e ▸ s_len) PySem.boot_len g.b_len (vhs_cons (v_var 0) vhs_nil)) v_int)) (v_and (v_b (v_cmp op_inStrR (fun _ _ => s_inStr) (v_ix (K := K) (v_var 0) v_int) (v_globS g.b_SMALL))) (v_one (v_b (v_call d_made_of hr (vhs_cons (v_var 0) (vhs_cons (v_globS g.b_PATH_SIGNS) vhs_nil))))))))))), m, F'.kp, F'.binds (ps := ["text"]) fun _ _ _ _ _ _ us hl => match us, hl with | [_], _ => rfl⟩
/-! ### is_letter -/
abbrev tx_is_letter : Stmt := top 20
theorem sc_is_letter : FnScope ["sign"] ["sign"] (defScope tx_is_letter) := ⟨rfl, rfl, rfl, by decide +kernel, rfl, by decide +kernel, by decide +kernel⟩
def f_is_letter : SF :=
    (sRet (vChain oLeS oLeS (vC (.str "a")) (vVar 0) (vC (.str "z"))))
def F_is_letter : FF := defF 1 1 f_is_letter
theorem df_is_letter (g : Gb mg K w) (F' : Fun K "is_letter" "is_letter" tx_is_letter f fd) (m : mg "is_letter" = some (.ref f))  : Df P w K mg base 1 "is_letter" ["sign"] F_is_letter :=
  ⟨f, fd, fnV F' sc_is_letter (fun cdv A outer s H E hr => VSs.ex (have hu := hr.units; have sc := sc_is_letter;
    (vs_one (v_ret (v_chain op_leSR s_leS op_leSR s_leS v_str (v_var 0) v_str))))), m, F'.kp, F'.binds (ps := ["sign"]) fun _ _ _ _ _ _ us hl => match us, hl with | [_], _ => rfl⟩
/-! ### is_figure -/
abbrev tx_is_figure : Stmt := top 21
theorem sc_is_figure : FnScope ["sign"] ["sign"] (defScope tx_is_figure) := ⟨rfl, rfl, rfl, by decide +kernel, rfl, by decide +kernel, by decide +kernel⟩
def f_is_figure : SF :=
    (sRet (vChain oLeS oLeS (vC (.str "0")) (vVar 0) (vC (.str "9"))))
def F_is_figure : FF := defF 1 1 f_is_figure
theorem df_is_figure (g : Gb mg K w) (F' : Fun K "is_figure" "is_figure" tx_is_figure f fd) (m : mg "is_figure" = some (.ref f))  : Df P w K mg base 1 "is_figure" ["sign"] F_is_figure :=
  ⟨f, fd, fnV F' sc_is_figure (fun cdv A outer s H E hr => VSs.ex (have hu := hr.units; have sc := sc_is_figure;
    (vs_one (v_ret (v_chain op_leSR s_leS op_leSR s_leS v_str (v_var 0) v_str))))), m, F'.kp, F'.binds (ps := ["sign"]) fun _ _ _ _ _ _ us hl => match us, hl with | [_], _ => rfl⟩
/-! ### run_end -/
abbrev tx_run_end : Stmt := top 22
theorem sc_run_end : FnScope ["text", "at"] ["text", "at"] (defScope tx_run_end) := ⟨rfl, rfl, rfl, by decide +kernel, rfl, by decide +kernel, by decide +kernel⟩
def f_run_end : SF :=
    (sSeq (sWhile 100000 (bAnd (bVal (vBin oLt (vVar 1) (vCallB oLen (vConsH (vVar 0) vNilH)))) (bOr (bTru (vCall F_is_letter (vConsH (vBin oIx (vVar 0) (vVar 1)) vNilH))) (bTru (vCall F_is_figure (vConsH (vBin oIx (vVar 0) (vVar 1)) vNilH)))))
      (sAug 1 oAddI (vC (.int 1))))
    (sRet (vVar 1)))
def F_run_end : FF := defF 2 2 f_run_end
theorem df_run_end (g : Gb mg K w) (F' : Fun K "run_end" "run_end" tx_run_end f fd) (m : mg "run_end" = some (.ref f)) (d_is_letter : Df P w K mg base 1 "is_letter" ["sign"] F_is_letter) (d_is_figure : Df P w K mg base 1 "is_figure" ["sign"] F_is_figure) : Df P w K mg base 2 "run_end" ["text", "at"] F_run_end :=
  ⟨f, fd, fnV F' sc_run_end (fun cdv A outer s H E hr => VSs.ex (have hu := hr.units; have sc := sc_run_end;
    (vs_cons (v_while 100000 (vw_t (vw_and (vt_cmp op_lt (fun _ _ => s_lt) (v_var 1) (v_callB (call_lenK2 (K := K) rfl) (fun _ e => e ▸ s_len) PySem.boot_len g.b_len (vhs_cons (v_var 0) vhs_nil))) (vw_and1 (vw_t (vw_or (vt_tru (K := K) (v_call d_is_letter hr (vhs_cons (v_ix (K := K) (v_var 0) (v_var 1)) vhs_nil))) (vw_or1 (vt_tru (K := K) (v_call d_is_figure hr (vhs_cons (v_ix (K := K) (v_var 0) (v_var 1)) vhs_nil)))))))))
      (vs_one (v_aug 1 ip_add s_ipadd sc.nd v_int)))
    (vs_one (v_ret (v_var 1)))))), m, F'.kp, F'.binds (ps := ["text", "at"]) fun _ _ _ _ _ _ us hl => match us, hl with | [_, _], _ => rfl⟩
/-! ### token_end -/
abbrev tx_token_end : Stmt := top 23
theorem sc_token_end : FnScope ["text", "at", "sign", "end"] ["text", "at"] (defScope tx_token_end) := ⟨rfl, rfl, rfl, by decide +kernel, rfl, by decide +kernel, by decide +kernel⟩
def f_token_end : SF :=
    (sSeq (sSet 2 (vBin oIx (vVar 0) (vVar 1)))
    (sSeq (sIf (bTru (vCall F_is_figure (vConsH (vVar 2) vNilH)))
      (sSeq (sSet 3 (vVar 1))
    (sSeq (sWhile 100000 (bAnd (bVal (vBin oLt (vVar 3) (vCallB oLen (vConsH (vVar 0) vNilH)))) (bTru (vCall F_is_figure (vConsH (vBin oIx (vVar 0) (vVar 3)) vNilH))))
      (sAug 3 oAddI (vC (.int 1))))
    (sRet (vTup (vConsD (vTake (vC (.str "number"))) (vConsD (vTake (vVar 3)) vNilD))))))
      sNil)
    (sSeq (sIf (bTru (vCall F_is_letter (vConsH (vVar 2) vNilH)))
      (sRet (vTup (vConsD (vTake (vC (.str "name"))) (vConsD (vTake (vCall F_run_end (vConsH (vVar 0) (vConsH (vVar 1) vNilH)))) vNilD))))
      sNil)
    (sSeq (sIf (bAnd (bVal (vBin oEq (vVar 2) (vC (.str "@")))) (bAnd (bVal (vBin oLt (vBin oAdd (vVar 1) (vC (.int 1))) (vCallB oLen (vConsH (vVar 0) vNilH)))) (bTru (vCall F_is_letter (vConsH (vBin oIx (vVar 0) (vBin oAdd (vVar 1) (vC (.int 1)))) vNilH)))))
      (sRet (vTup (vConsD (vTake (vC (.str "name"))) (vConsD (vTake (vCall F_run_end (vConsH (vVar 0) (vConsH (vBin oAdd (vVar 1) (vC (.int 1))) vNilH)))) vNilD))))
      sNil)
    (sRet (vTup (vConsD (vTake (vC (.str "sign"))) (vConsD (vTake (vBin oAdd (vVar 1) (vC (.int 1)))) vNilD))))))))
def F_token_end : FF := defF 4 2 f_token_end
theorem df_token_end (g : Gb mg K w) (F' : Fun K "token_end" "token_end" tx_token_end f fd) (m : mg "token_end" = some (.ref f)) (d_is_figure : Df P w K mg base 1 "is_figure" ["sign"] F_is_figure) (d_is_letter : Df P w K mg base 1 "is_letter" ["sign"] F_is_letter) (d_run_end : Df P w K mg base 2 "run_end" ["text", "at"] F_run_end) : Df P w K mg base 3 "token_end" ["text", "at"] F_token_end :=
  ⟨f, fd, fnV F' sc_token_end (fun cdv A outer s H E hr => VSs.ex (have hu := hr.units; have sc := sc_token_end;
    (vs_cons (v_set 2 sc.nd (v_ix (K := K) (v_var 0) (v_var 1)))
    (vs_cons (v_ifS (vt_tru (K := K) (v_call d_is_figure hr (vhs_cons (v_var 2) vhs_nil)))
      (vs_cons (v_set 3 sc.nd (v_var 1))
    (vs_cons (v_while 100000 (vw_t (vw_and (vt_cmp op_lt (fun _ _ => s_lt) (v_var 3) (v_callB (call_lenK2 (K := K) rfl) (fun _ e => e ▸ s_len) PySem.boot_len g.b_len (vhs_cons (v_var 0) vhs_nil))) (vw_and1 (vt_tru (K := K) (v_call d_is_figure hr (vhs_cons (v_ix (K := K) (v_var 0) (v_var 3)) vhs_nil))))))
      (vs_one (v_aug 3 ip_add s_ipadd sc.nd v_int)))
    (vs_one (v_ret (v_tup (vds_cons v_str (vds_cons (v_var 3) vds_nil)))))))
      vs_nil)
    (vs_cons (v_ifS (vt_tru (K := K) (v_call d_is_letter hr (vhs_cons (v_var 2) vhs_nil)))
      (vs_one (v_ret (v_tup (vds_cons v_str (vds_cons (v_call d_run_end hr (vhs_cons (v_var 0) (vhs_cons (v_var 1) vhs_nil))) vds_nil)))))
      vs_nil)
    (vs_cons (v_ifS (vw_t (vw_and (vt_cmp (op_eqK (K := K) rfl hu) (fun _ e => e ▸ s_eq) (v_var 2) v_str) (vw_and (vt_cmp op_lt (fun _ _ => s_lt) (v_add (K := K) (v_var 1) v_int) (v_callB (call_lenK2 (K := K) rfl) (fun _ e => e ▸ s_len) PySem.boot_len g.b_len (vhs_cons (v_var 0) vhs_nil))) (vw_and1 (vt_tru (K := K) (v_call d_is_letter hr (vhs_cons (v_ix (K := K) (v_var 0) (v_add (K := K) (v_var 1) v_int)) vhs_nil)))))))
      (vs_one (v_ret (v_tup (vds_cons v_str (vds_cons (v_call d_run_end hr (vhs_cons (v_var 0) (vhs_cons (v_add (K := K) (v_var 1) v_int) vhs_nil))) vds_nil)))))
      vs_nil)
    (vs_one (v_ret (v_tup (vds_cons v_str (vds_cons (v_add (K := K) (v_var 1) v_int) vds_nil))))))))))), m, F'.kp, F'.binds (ps := ["text", "at"]) fun _ _ _ _ _ _ us hl => match us, hl with | [_, _], _ => rfl⟩
/-! ### tokens_from -/
abbrev tx_tokens_from : Stmt := top 24
theorem sc_tokens_from : FnScope ["text", "at", "found", "kind", "end"] ["text", "at"] (defScope tx_tokens_from) := ⟨rfl, rfl, rfl, by decide +kernel, rfl, by decide +kernel, by decide +kernel⟩
def f_tokens_from : SF :=
    (sSeq (sSet 2 (vLst vNilD))
    (sSeq (sWhile 100000 (bVal (vBin oLt (vVar 1) (vCallB oLen (vConsH (vVar 0) vNilH))))
      (sIf (bVal (vBin oEq (vBin oIx (vVar 0) (vVar 1)) (vC (.str " "))))
      (sAug 1 oAddI (vC (.int 1)))
      (sSeq (sAsg (vTake (vCall F_token_end (vConsH (vVar 0) (vConsH (vVar 1) vNilH)))) (gT 2 (gConsF (gN 3) (gConsF (gN 4) gNilF))))
    (sSeq (sDrop (vMt 2 "list" mAppend (vConsD (vTake (vTup (vConsD (vTake (vBin oAdd (vVar 1) (vC (.int 1)))) (vConsD (vTake (vVar 3)) (vConsD (vTake (vSl (vVar 0) (vP (vVar 1)) (vP (vVar 4)))) vNilD))))) vNilD)))
    (sSet 1 (vVar 4))))))
    (sRet (vVar 2))))
def F_tokens_from : FF := defF 5 2 f_tokens_from
theorem df_tokens_from (g : Gb mg K w) (F' : Fun K "tokens_from" "tokens_from" tx_tokens_from f fd) (m : mg "tokens_from" = some (.ref f)) (d_token_end : Df P w K mg base 3 "token_end" ["text", "at"] F_token_end) : Df P w K mg base 4 "tokens_from" ["text", "at"] F_tokens_from :=
  ⟨f, fd, fnV F' sc_tokens_from (fun cdv A outer s H E hr => VSs.ex (have hu := hr.units; have sc := sc_tokens_from;
    (vs_cons (v_set 2 sc.nd (v_lst vds_nil))
    (vs_cons (v_while 100000 (vt_cmp op_lt (fun _ _ => s_lt) (v_var 1) (v_callB (call_lenK2 (K := K) rfl) (fun _ e => e ▸ s_len) PySem.boot_len g.b_len (vhs_cons (v_var 0) vhs_nil)))
      (vs_one (v_ifS (vt_cmp (op_eqK (K := K) rfl hu) (fun _ e => e ▸ s_eq) (v_ix (K := K) (v_var 0) (v_var 1)) v_str)
      (vs_one (v_aug 1 ip_add s_ipadd sc.nd v_int))
      (vs_cons (v_asg (v_call d_token_end hr (vhs_cons (v_var 0) (vhs_cons (v_var 1) vhs_nil))) (vg_tup (K := K) (vgs_cons (vg_name 3 sc.nd) (vgs_cons (vg_name 4 sc.nd) vgs_nil))))
    (vs_cons (v_expr (v_append 2 (v_var 2) (v_tup (vds_cons (v_add (K := K) (v_var 1) v_int) (vds_cons (v_var 3) (vds_cons (v_sl (K := K) (v_var 0) (vo_some (v_var 1)) (vo_some (v_var 4))) vds_nil))))))
    (vs_one (v_set 1 sc.nd (v_var 4))))))))
    (vs_one (v_ret (v_var 2))))))), m, F'.kp, F'.binds (ps := ["text", "at"]) fun _ _ _ _ _ _ us hl => match us, hl with | [_, _], _ => rfl⟩
/-! ### first_word -/
abbrev tx_first_word : Stmt := top 25
theorem sc_first_word : FnScope ["text", "at"] ["text"] (defScope tx_first_word) := ⟨rfl, rfl, rfl, by decide +kernel, rfl, by decide +kernel, by decide +kernel⟩
def f_first_word : SF :=
    (sSeq (sSet 1 (vSm (fun a b => .int (Txt.find a b)) (vVar 0) (vC (.str " "))))
    (sSeq (sIf (bVal (vBin oLt (vVar 1) (vC (.int 0))))
      (sRet (vVar 0))
      sNil)
    (sRet (vSl (vVar 0) vNoP (vP (vVar 1))))))
def F_first_word : FF := defF 2 1 f_first_word
theorem df_first_word (g : Gb mg K w) (F' : Fun K "first_word" "first_word" tx_first_word f fd) (m : mg "first_word" = some (.ref f))  : Df P w K mg base 1 "first_word" ["text"] F_first_word :=
  ⟨f, fd, fnV F' sc_first_word (fun cdv A outer s H E hr => VSs.ex (have hu := hr.units; have sc := sc_first_word;
    (vs_cons (v_set 1 sc.nd (v_find (v_var 0) v_str))
    (vs_cons (v_ifS (vt_cmp op_lt (fun _ _ => s_lt) (v_var 1) v_int)
      (vs_one (v_ret (v_var 0)))
      vs_nil)
    (vs_one (v_ret (v_sl (K := K) (v_var 0) vo_none (vo_some (v_var 1))))))))), m, F'.kp, F'.binds (ps := ["text"]) fun _ _ _ _ _ _ us hl => match us, hl with | [_], _ => rfl⟩
/-! ### tokens_of -/
abbrev tx_tokens_of : Stmt := top 26
theorem sc_tokens_of : FnScope ["text"] ["text"] (defScope tx_tokens_of) := ⟨rfl, rfl, rfl, by decide +kernel, rfl, by decide +kernel, by decide +kernel⟩
def f_tokens_of : SF :=
    (sRet (vCall F_tokens_from (vConsH (vVar 0) (vConsH (vCallB oLen (vConsH (vCall F_first_word (vConsH (vVar 0) vNilH)) vNilH)) vNilH))))
def F_tokens_of : FF := defF 1 1 f_tokens_of
theorem df_tokens_of (g : Gb mg K w) (F' : Fun K "tokens_of" "tokens_of" tx_tokens_of f fd) (m : mg "tokens_of" = some (.ref f)) (d_first_word : Df P w K mg base 1 "first_word" ["text"] F_first_word) (d_tokens_from : Df P w K mg base 4 "tokens_from" ["text", "at"] F_tokens_from) : Df P w K mg base 5 "tokens_of" ["text"] F_tokens_of :=
  ⟨f, fd, fnV F' sc_tokens_of (fun cdv A outer s H E hr => VSs.ex (have hu := hr.units; have sc := sc_tokens_of;
    (vs_one (v_ret (v_call d_tokens_from hr (vhs_cons (v_var 0) (vhs_cons (v_callB (call_lenK2 (K := K) rfl) (fun _ e => e ▸ s_len) PySem.boot_len g.b_len (vhs_cons (v_call d_first_word hr (vhs_cons (v_var 0) vhs_nil)) vhs_nil)) vhs_nil))))))), m, F'.kp, F'.binds (ps := ["text"]) fun _ _ _ _ _ _ us hl => match us, hl with | [_], _ => rfl⟩
/-! ### path_end -/
abbrev tx_path_end : Stmt := top 27
theorem sc_path_end : FnScope ["text", "at"] ["text", "at"] (defScope tx_path_end) := ⟨rfl, rfl, rfl, by decide +kernel, rfl, by decide +kernel, by decide +kernel⟩
def f_path_end : SF :=
    (sSeq (sWhile 100000 (bAnd (bVal (vBin oLt (vVar 1) (vCallB oLen (vConsH (vVar 0) vNilH)))) (bOr (bTru (vCall F_is_letter (vConsH (vBin oIx (vVar 0) (vVar 1)) vNilH))) (bOr (bTru (vCall F_is_figure (vConsH (vBin oIx (vVar 0) (vVar 1)) vNilH))) (bVal (vBin oEq (vBin oIx (vVar 0) (vVar 1)) (vC (.str "/")))))))
      (sAug 1 oAddI (vC (.int 1))))
    (sRet (vVar 1)))
def F_path_end : FF := defF 2 2 f_path_end
theorem df_path_end (g : Gb mg K w) (F' : Fun K "path_end" "path_end" tx_path_end f fd) (m : mg "path_end" = some (.ref f)) (d_is_letter : Df P w K mg base 1 "is_letter" ["sign"] F_is_letter) (d_is_figure : Df P w K mg base 1 "is_figure" ["sign"] F_is_figure) : Df P w K mg base 2 "path_end" ["text", "at"] F_path_end :=
  ⟨f, fd, fnV F' sc_path_end (fun cdv A outer s H E hr => VSs.ex (have hu := hr.units; have sc := sc_path_end;
    (vs_cons (v_while 100000 (vw_t (vw_and (vt_cmp op_lt (fun _ _ => s_lt) (v_var 1) (v_callB (call_lenK2 (K := K) rfl) (fun _ e => e ▸ s_len) PySem.boot_len g.b_len (vhs_cons (v_var 0) vhs_nil))) (vw_and1 (vw_t (vw_or (vt_tru (K := K) (v_call d_is_letter hr (vhs_cons (v_ix (K := K) (v_var 0) (v_var 1)) vhs_nil))) (vw_or (vt_tru (K := K) (v_call d_is_figure hr (vhs_cons (v_ix (K := K) (v_var 0) (v_var 1)) vhs_nil))) (vw_or1 (vt_cmp (op_eqK (K := K) rfl hu) (fun _ e => e ▸ s_eq) (v_ix (K := K) (v_var 0) (v_var 1)) v_str))))))))
      (vs_one (v_aug 1 ip_add s_ipadd sc.nd v_int)))
    (vs_one (v_ret (v_var 1)))))), m, F'.kp, F'.binds (ps := ["text", "at"]) fun _ _ _ _ _ _ us hl => match us, hl with | [_, _], _ => rfl⟩
/-! ### place_of -/
abbrev tx_place_of : Stmt := top 28
theorem sc_place_of : FnScope ["token", "column", "_", "word"] ["token"] (defScope tx_place_of) := ⟨rfl, rfl, rfl, by decide +kernel, rfl, by decide +kernel, by decide +kernel⟩
def f_place_of : SF :=
    (sSeq (sAsg (vTake (vVar 0)) (gT 3 (gConsF (gN 1) (gConsF (gN 2) (gConsF (gN 3) gNilF)))))
    (sRet (vTup (vConsD (vTake (vVar 1)) (vConsD (vTake (vBin oSub (vBin oAdd (vVar 1) (vCallB oLen (vConsH (vVar 3) vNilH))) (vC (.int 1)))) vNilD)))))
def F_place_of : FF := defF 4 1 f_place_of
theorem df_place_of (g : Gb mg K w) (F' : Fun K "place_of" "place_of" tx_place_of f fd) (m : mg "place_of" = some (.ref f))  : Df P w K mg base 1 "place_of" ["token"] F_place_of :=
  ⟨f, fd, fnV F' sc_place_of (fun cdv A outer s H E hr => VSs.ex (have hu := hr.units; have sc := sc_place_of;
    (vs_cons (v_asg (v_var 0) (vg_tup (K := K) (vgs_cons (vg_name 1 sc.nd) (vgs_cons (vg_name 2 sc.nd) (vgs_cons (vg_name 3 sc.nd) vgs_nil)))))
    (vs_one (v_ret (v_tup (vds_cons (v_var 1) (vds_cons (v_sub (v_add (K := K) (v_var 1) (v_callB (call_lenK2 (K := K) rfl) (fun _ e => e ▸ s_len) PySem.boot_len g.b_len (vhs_cons (v_var 3) vhs_nil))) v_int) vds_nil)))))))), m, F'.kp, F'.binds (ps := ["token"]) fun _ _ _ _ _ _ us hl => match us, hl with | [_], _ => rfl⟩
/-! ### is_target -/
abbrev tx_is_target : Stmt := top 31
theorem sc_is_target : FnScope ["token"] ["token"] (defScope tx_is_target) := ⟨rfl, rfl, rfl, by decide +kernel, rfl, by decide +kernel, by decide +kernel⟩
def f_is_target : SF :=
    (sRet (vB (bAnd (bVal (vBin oEq (vBin oIx (vVar 0) (vC (.int 1))) (vC (.str "name")))) (bVal (vCall F_is_variable (vConsH (vBin oIx (vVar 0) (vC (.int 2))) vNilH))))))
def F_is_target : FF := defF 1 1 f_is_target
theorem df_is_target (g : Gb mg K w) (F' : Fun K "is_target" "is_target" tx_is_target f fd) (m : mg "is_target" = some (.ref f)) (d_is_variable : Df P w K mg base 1 "is_variable" ["word"] F_is_variable) : Df P w K mg base 2 "is_target" ["token"] F_is_target :=
  ⟨f, fd, fnV F' sc_is_target (fun cdv A outer s H E hr => VSs.ex (have hu := hr.units; have sc := sc_is_target;
    (vs_one (v_ret (v_and (v_b (v_cmp (op_eqK (K := K) rfl hu) (fun _ e => e ▸ s_eq) (v_ix (K := K) (v_var 0) v_int) v_str)) (v_one (v_b (v_call d_is_variable hr (vhs_cons (v_ix (K := K) (v_var 0) v_int) vhs_nil))))))))), m, F'.kp, F'.binds (ps := ["token"]) fun _ _ _ _ _ _ us hl => match us, hl with | [_], _ => rfl⟩
/-! ### whole_items -/
abbrev tx_whole_items : Stmt := top 32
theorem sc_whole_items : FnScope ["row", "at", "told"] ["row", "at"] (defScope tx_whole_items) := ⟨rfl, rfl, rfl, by decide +kernel, rfl, by decide +kernel, by decide +kernel⟩
def f_whole_items : SF :=
    (sSeq (sSet 2 (vCall F_read_postfix (vConsH (vVar 0) (vConsH (vVar 1) vNilH))))
    (sSeq (sIf (bOr (bVal (vBin oIsN (vVar 2) (vC .non))) (bVal (vBin oNe (vBin oIx (vVar 2) (vC (.int 1))) (vCallB oLen (vConsH (vVar 0) vNilH)))))
      (sRet (vC .non))
      sNil)
    (sRet (vBin oIx (vVar 2) (vC (.int 0))))))
def F_whole_items : FF := defF 3 2 f_whole_items
theorem df_whole_items (g : Gb mg K w) (F' : Fun K "whole_items" "whole_items" tx_whole_items f fd) (m : mg "whole_items" = some (.ref f)) (d_read_postfix : Df P w K mg base 3 "read_postfix" ["row", "at"] F_read_postfix) : Df P w K mg base 4 "whole_items" ["row", "at"] F_whole_items :=
  ⟨f, fd, fnV F' sc_whole_items (fun cdv A outer s H E hr => VSs.ex (have hu := hr.units; have sc := sc_whole_items;
    (vs_cons (v_set 2 sc.nd (v_call d_read_postfix hr (vhs_cons (v_var 0) (vhs_cons (v_var 1) vhs_nil))))
    (vs_cons (v_ifS (vw_t (vw_or (vt_cmp op_isN2 (fun _ _ => s_isN) (v_var 2) v_non) (vw_or1 (vt_cmp (op_neK (K := K) rfl hu) (fun _ e => e ▸ s_ne) (v_ix (K := K) (v_var 2) v_int) (v_callB (call_lenK2 (K := K) rfl) (fun _ e => e ▸ s_len) PySem.boot_len g.b_len (vhs_cons (v_var 0) vhs_nil))))))
      (vs_one (v_ret v_non))
      vs_nil)
    (vs_one (v_ret (v_ix (K := K) (v_var 2) v_int))))))), m, F'.kp, F'.binds (ps := ["row", "at"]) fun _ _ _ _ _ _ us hl => match us, hl with | [_, _], _ => rfl⟩
/-! ### read_set -/
abbrev tx_read_set : Stmt := top 33
theorem sc_read_set : FnScope ["row", "items"] ["row"] (defScope tx_read_set) := ⟨rfl, rfl, rfl, by decide +kernel, rfl, by decide +kernel, by decide +kernel⟩
def f_read_set : SF :=
    (sSeq (sIf (bOr (bVal (vBin oLt (vCallB oLen (vConsH (vVar 0) vNilH)) (vC (.int 3)))) (bOr (bNot (bTru (vCall F_is_target (vConsH (vBin oIx (vVar 0) (vC (.int 0))) vNilH)))) (bVal (vBin oNe (vBin oIx (vBin oIx (vVar 0) (vC (.int 1))) (vC (.int 2))) (vC (.str "="))))))
      (sRet (vC .non))
      sNil)
    (sSeq (sSet 1 (vCall F_whole_items (vConsH (vVar 0) (vConsH (vC (.int 2)) vNilH))))
    (sSeq (sIf (bVal (vBin oIsN (vVar 1) (vC .non)))
      (sRet (vC .non))
      sNil)
    (sRet2 (vTup2 (vTake (vTup (vConsD (vTake (vC (.str "set"))) (vConsD (vTake (vBin oIx (vBin oIx (vVar 0) (vC (.int 0))) (vC (.int 2)))) (vConsD (vTake (vCall F_tree_of (vConsH (vVar 1) vNilH))) vNilD))))) (vBin oAdd (vCall F_places_of_items (vConsH (vVar 1) vNilH)) (vLst (vConsD (vTake (vCall F_place_of (vConsH (vBin oIx (vVar 0) (vC (.int 0))) vNilH))) vNilD))))))))
def F_read_set : FF := defF 2 1 f_read_set
theorem df_read_set (g : Gb mg K w) (F' : Fun K "read_set" "read_set" tx_read_set f fd) (m : mg "read_set" = some (.ref f)) (d_is_target : Df P w K mg base 2 "is_target" ["token"] F_is_target) (d_whole_items : Df P w K mg base 4 "whole_items" ["row", "at"] F_whole_items) (d_tree_of : Df P w K mg base 1 "tree_of" ["items"] F_tree_of) (d_places_of_items : Df P w K mg base 1 "places_of_items" ["items"] F_places_of_items) (d_place_of : Df P w K mg base 1 "place_of" ["token"] F_place_of) : Df P w K mg base 5 "read_set" ["row"] F_read_set :=
  ⟨f, fd, fnV F' sc_read_set (fun cdv A outer s H E hr => VSs.ex (have hu := hr.units; have sc := sc_read_set;
    (vs_cons (v_ifS (vw_t (vw_or (vt_cmp op_lt (fun _ _ => s_lt) (v_callB (call_lenK2 (K := K) rfl) (fun _ e => e ▸ s_len) PySem.boot_len g.b_len (vhs_cons (v_var 0) vhs_nil)) v_int) (vw_or (vt_not (vt_tru (K := K) (v_call d_is_target hr (vhs_cons (v_ix (K := K) (v_var 0) v_int) vhs_nil)))) (vw_or1 (vt_cmp (op_neK (K := K) rfl hu) (fun _ e => e ▸ s_ne) (v_ix (K := K) (v_ix (K := K) (v_var 0) v_int) v_int) v_str)))))
      (vs_one (v_ret v_non))
      vs_nil)
    (vs_cons (v_set 1 sc.nd (v_call d_whole_items hr (vhs_cons (v_var 0) (vhs_cons v_int vhs_nil))))
    (vs_cons (v_ifS (vt_cmp op_isN2 (fun _ _ => s_isN) (v_var 1) v_non)
      (vs_one (v_ret v_non))
      vs_nil)
    (vs_one (v_ret2 (v_tup2 (v_tup (vds_cons v_str (vds_cons (v_ix (K := K) (v_ix (K := K) (v_var 0) v_int) v_int) (vds_cons (v_call d_tree_of hr (vhs_cons (v_var 1) vhs_nil)) vds_nil)))) (v_add (K := K) (v_call d_places_of_items hr (vhs_cons (v_var 1) vhs_nil)) (v_lst (vds_cons (v_call d_place_of hr (vhs_cons (v_ix (K := K) (v_var 0) v_int) vhs_nil)) vds_nil))))))))))), m, F'.kp, F'.binds (ps := ["row"]) fun _ _ _ _ _ _ us hl => match us, hl with | [_], _ => rfl⟩
/-! ### read_line_number -/
abbrev tx_read_line_number : Stmt := top 34
theorem sc_read_line_number : FnScope ["token", "number"] ["token"] (defScope tx_read_line_number) := ⟨rfl, rfl, rfl, by decide +kernel, rfl, by decide +kernel, by decide +kernel⟩
def f_read_line_number : SF :=
    (sSeq (sIf (bOr (bVal (vBin oNe (vBin oIx (vVar 0) (vC (.int 1))) (vC (.str "number")))) (bOr (bTru (vSm (fun a b => .bl (Txt.startswith a b)) (vBin oIx (vVar 0) (vC (.int 2))) (vC (.str "0")))) (bVal (vBin oGt (vCallB oLen (vConsH (vBin oIx (vVar 0) (vC (.int 2))) vNilH)) (vC (.int 7))))))
      (sRet (vC .non))
      sNil)
    (sSeq (sSet 1 (vCallB oInt (vConsH (vBin oIx (vVar 0) (vC (.int 2))) vNilH)))
    (sSeq (sIf (bVal (vBin oGt (vVar 1) (vC (.int 1000000))))
      (sRet (vC .non))
      sNil)
    (sRet (vVar 1)))))
def F_read_line_number : FF := defF 2 1 f_read_line_number
theorem df_read_line_number (g : Gb mg K w) (F' : Fun K "read_line_number" "read_line_number" tx_read_line_number f fd) (m : mg "read_line_number" = some (.ref f))  : Df P w K mg base 1 "read_line_number" ["token"] F_read_line_number :=
  ⟨f, fd, fnV F' sc_read_line_number (fun cdv A outer s H E hr => VSs.ex (have hu := hr.units; have sc := sc_read_line_number;
    (vs_cons (v_ifS (vw_t (vw_or (vt_cmp (op_neK (K := K) rfl hu) (fun _ e => e ▸ s_ne) (v_ix (K := K) (v_var 0) v_int) v_str) (vw_or (vt_tru (K := K) (v_starts (v_ix (K := K) (v_var 0) v_int) v_str)) (vw_or1 (vt_cmp op_gt (fun _ _ => s_gt) (v_callB (call_lenK2 (K := K) rfl) (fun _ e => e ▸ s_len) PySem.boot_len g.b_len (vhs_cons (v_ix (K := K) (v_var 0) v_int) vhs_nil)) v_int)))))
      (vs_one (v_ret v_non))
      vs_nil)
    (vs_cons (v_set 1 sc.nd (v_callTy call_intA (fun _ _ => s_int) PyProof.Rows.boot_int g.b_int (vhs_cons (v_ix (K := K) (v_var 0) v_int) vhs_nil)))
    (vs_cons (v_ifS (vt_cmp op_gt (fun _ _ => s_gt) (v_var 1) (v_globC g.b_MOST_LINE))
      (vs_one (v_ret v_non))
      vs_nil)
    (vs_one (v_ret (v_var 1)))))))), m, F'.kp, F'.binds (ps := ["token"]) fun _ _ _ _ _ _ us hl => match us, hl with | [_], _ => rfl⟩
/-! ### read_go -/
abbrev tx_read_go : Stmt := top 35
theorem sc_read_go : FnScope ["row", "number", "items"] ["row"] (defScope tx_read_go) := ⟨rfl, rfl, rfl, by decide +kernel, rfl, by decide +kernel, by decide +kernel⟩
def f_read_go : SF :=
    (sSeq (sIf (bNot (bTru (vVar 0)))
      (sRet (vC .non))
      sNil)
    (sSeq (sSet 1 (vCall F_read_line_number (vConsH (vBin oIx (vVar 0) (vC (.int 0))) vNilH)))
    (sSeq (sIf (bVal (vBin oIsN (vVar 1) (vC .non)))
      (sRet (vC .non))
      sNil)
    (sSeq (sIf (bVal (vBin oEq (vCallB oLen (vConsH (vVar 0) vNilH)) (vC (.int 1))))
      (sRet2 (vTup2 (vTake (vTup (vConsD (vTake (vC (.str "go"))) (vConsD (vTake (vVar 1)) (vConsD (vTake (vC .non)) vNilD))))) (vLst (vConsD (vTake (vCall F_place_of (vConsH (vBin oIx (vVar 0) (vC (.int 0))) vNilH))) vNilD))))
      sNil)
    (sSeq (sIf (bVal (vBin oNe (vBin oIx (vBin oIx (vVar 0) (vC (.int 1))) (vC (.int 2))) (vC (.str "if"))))
      (sRet (vC .non))
      sNil)
    (sSeq (sSet 2 (vCall F_whole_items (vConsH (vVar 0) (vConsH (vC (.int 2)) vNilH))))
    (sSeq (sIf (bVal (vBin oIsN (vVar 2) (vC .non)))
      (sRet (vC .non))
      sNil)
    (sRet2 (vTup2 (vTake (vTup (vConsD (vTake (vC (.str "go"))) (vConsD (vTake (vVar 1)) (vConsD (vTake (vCall F_tree_of (vConsH (vVar 2) vNilH))) vNilD))))) (vBin oAdd (vCall F_places_of_items (vConsH (vVar 2) vNilH)) (vLst (vConsD (vTake (vCall F_place_of (vConsH (vBin oIx (vVar 0) (vC (.int 0))) vNilH))) vNilD))))))))))))
def F_read_go : FF := defF 3 1 f_read_go
theorem df_read_go (g : Gb mg K w) (F' : Fun K "read_go" "read_go" tx_read_go f fd) (m : mg "read_go" = some (.ref f)) (d_read_line_number : Df P w K mg base 1 "read_line_number" ["token"] F_read_line_number) (d_place_of : Df P w K mg base 1 "place_of" ["token"] F_place_of) (d_whole_items : Df P w K mg base 4 "whole_items" ["row", "at"] F_whole_items) (d_tree_of : Df P w K mg base 1 "tree_of" ["items"] F_tree_of) (d_places_of_items : Df P w K mg base 1 "places_of_items" ["items"] F_places_of_items) : Df P w K mg base 5 "read_go" ["row"] F_read_go :=
  ⟨f, fd, fnV F' sc_read_go (fun cdv A outer s H E hr => VSs.ex (have hu := hr.units; have sc := sc_read_go;
    (vs_cons (v_ifS (vt_not (vt_tru (K := K) (v_var 0)))
      (vs_one (v_ret v_non))
      vs_nil)
    (vs_cons (v_set 1 sc.nd (v_call d_read_line_number hr (vhs_cons (v_ix (K := K) (v_var 0) v_int) vhs_nil)))
    (vs_cons (v_ifS (vt_cmp op_isN2 (fun _ _ => s_isN) (v_var 1) v_non)
      (vs_one (v_ret v_non))
      vs_nil)
    (vs_cons (v_ifS (vt_cmp (op_eqK (K := K) rfl hu) (fun _ e => e ▸ s_eq) (v_callB (call_lenK2 (K := K) rfl) (fun _ e => e ▸ s_len) PySem.boot_len g.b_len (vhs_cons (v_var 0) vhs_nil)) v_int)
      (vs_one (v_ret2 (v_tup2 (v_tup (vds_cons v_str (vds_cons (v_var 1) (vds_cons v_non vds_nil)))) (v_lst (vds_cons (v_call d_place_of hr (vhs_cons (v_ix (K := K) (v_var 0) v_int) vhs_nil)) vds_nil)))))
      vs_nil)
    (vs_cons (v_ifS (vt_cmp (op_neK (K := K) rfl hu) (fun _ e => e ▸ s_ne) (v_ix (K := K) (v_ix (K := K) (v_var 0) v_int) v_int) v_str)
      (vs_one (v_ret v_non))
      vs_nil)
    (vs_cons (v_set 2 sc.nd (v_call d_whole_items hr (vhs_cons (v_var 0) (vhs_cons v_int vhs_nil))))
    (vs_cons (v_ifS (vt_cmp op_isN2 (fun _ _ => s_isN) (v_var 2) v_non)
      (vs_one (v_ret v_non))
      vs_nil)
    (vs_one (v_ret2 (v_tup2 (v_tup (vds_cons v_str (vds_cons (v_var 1) (vds_cons (v_call d_tree_of hr (vhs_cons (v_var 2) vhs_nil)) vds_nil)))) (v_add (K := K) (v_call d_places_of_items hr (vhs_cons (v_var 2) vhs_nil)) (v_lst (vds_cons (v_call d_place_of hr (vhs_cons (v_ix (K := K) (v_var 0) v_int) vhs_nil)) vds_nil))))))))))))))), m, F'.kp, F'.binds (ps := ["row"]) fun _ _ _ _ _ _ us hl => match us, hl with | [_], _ => rfl⟩
/-! ### read_arguments -/
abbrev tx_read_arguments : Stmt := top 36
theorem sc_read_arguments : FnScope ["row", "found", "at", "told", "sign"] ["row"] (defScope tx_read_arguments) := ⟨rfl, rfl, rfl, by decide +kernel, rfl, by decide +kernel, by decide +kernel⟩
def f_read_arguments : SF :=
    (sSeq (sIf (bOr (bVal (vBin oLt (vCallB oLen (vConsH (vVar 0) vNilH)) (vC (.int 2)))) (bVal (vBin oNe (vBin oIx (vBin oIx (vVar 0) (vC (.int 0))) (vC (.int 2))) (vC (.str "(")))))
      (sRet (vC .non))
      sNil)
    (sSeq (sIf (bVal (vBin oEq (vBin oIx (vBin oIx (vVar 0) (vC (.int 1))) (vC (.int 2))) (vC (.str ")"))))
      (sRet (vTup (vConsD (vTake (vLst vNilD)) (vConsD (vTake (vC (.int 2))) vNilD))))
      sNil)
    (sSeq (sSet 1 (vLst vNilD))
    (sSeq (sSet 2 (vC (.int 1)))
    (sWhile 100000 (bTru (vC (.bl true)))
      (sSeq (sSet 3 (vCall F_read_postfix (vConsH (vVar 0) (vConsH (vVar 2) vNilH))))
    (sSeq (sIf (bOr (bVal (vBin oIsN (vVar 3) (vC .non))) (bVal (vBin oEq (vBin oIx (vVar 3) (vC (.int 1))) (vCallB oLen (vConsH (vVar 0) vNilH)))))
      (sRet (vC .non))
      sNil)
    (sSeq (sDrop (vMt 1 "list" mAppend (vConsD (vTake (vBin oIx (vVar 3) (vC (.int 0)))) vNilD)))
    (sSeq (sSet 4 (vBin oIx (vBin oIx (vVar 0) (vBin oIx (vVar 3) (vC (.int 1)))) (vC (.int 2))))
    (sSeq (sSet 2 (vBin oAdd (vBin oIx (vVar 3) (vC (.int 1))) (vC (.int 1))))
    (sSeq (sIf (bVal (vBin oEq (vVar 4) (vC (.str ")"))))
      (sRet (vTup (vConsD (vTake (vVar 1)) (vConsD (vTake (vVar 2)) vNilD))))
      sNil)
    (sIf (bOr (bVal (vBin oNe (vVar 4) (vC (.str ",")))) (bVal (vBin oEq (vCallB oLen (vConsH (vVar 1) vNilH)) (vC (.int 4)))))
      (sRet (vC .non))
      sNil))))))))))))
def F_read_arguments : FF := defF 5 1 f_read_arguments
theorem df_read_arguments (g : Gb mg K w) (F' : Fun K "read_arguments" "read_arguments" tx_read_arguments f fd) (m : mg "read_arguments" = some (.ref f)) (d_read_postfix : Df P w K mg base 3 "read_postfix" ["row", "at"] F_read_postfix) : Df P w K mg base 4 "read_arguments" ["row"] F_read_arguments :=
  ⟨f, fd, fnV F' sc_read_arguments (fun cdv A outer s H E hr => VSs.ex (have hu := hr.units; have sc := sc_read_arguments;
    (vs_cons (v_ifS (vw_t (vw_or (vt_cmp op_lt (fun _ _ => s_lt) (v_callB (call_lenK2 (K := K) rfl) (fun _ e => e ▸ s_len) PySem.boot_len g.b_len (vhs_cons (v_var 0) vhs_nil)) v_int) (vw_or1 (vt_cmp (op_neK (K := K) rfl hu) (fun _ e => e ▸ s_ne) (v_ix (K := K) (v_ix (K := K) (v_var 0) v_int) v_int) v_str))))
      (vs_one (v_ret v_non))
      vs_nil)
    (vs_cons (v_ifS (vt_cmp (op_eqK (K := K) rfl hu) (fun _ e => e ▸ s_eq) (v_ix (K := K) (v_ix (K := K) (v_var 0) v_int) v_int) v_str)
      (vs_one (v_ret (v_tup (vds_cons (v_lst vds_nil) (vds_cons v_int vds_nil)))))
      vs_nil)
    (vs_cons (v_set 1 sc.nd (v_lst vds_nil))
    (vs_cons (v_set 2 sc.nd v_int)
    (vs_one (v_while 100000 (vt_tru (K := K) v_bl)
      (vs_cons (v_set 3 sc.nd (v_call d_read_postfix hr (vhs_cons (v_var 0) (vhs_cons (v_var 2) vhs_nil))))
    (vs_cons (v_ifS (vw_t (vw_or (vt_cmp op_isN2 (fun _ _ => s_isN) (v_var 3) v_non) (vw_or1 (vt_cmp (op_eqK (K := K) rfl hu) (fun _ e => e ▸ s_eq) (v_ix (K := K) (v_var 3) v_int) (v_callB (call_lenK2 (K := K) rfl) (fun _ e => e ▸ s_len) PySem.boot_len g.b_len (vhs_cons (v_var 0) vhs_nil))))))
      (vs_one (v_ret v_non))
      vs_nil)
    (vs_cons (v_expr (v_append 1 (v_var 1) (v_ix (K := K) (v_var 3) v_int)))
    (vs_cons (v_set 4 sc.nd (v_ix (K := K) (v_ix (K := K) (v_var 0) (v_ix (K := K) (v_var 3) v_int)) v_int))
    (vs_cons (v_set 2 sc.nd (v_add (K := K) (v_ix (K := K) (v_var 3) v_int) v_int))
    (vs_cons (v_ifS (vt_cmp (op_eqK (K := K) rfl hu) (fun _ e => e ▸ s_eq) (v_var 4) v_str)
      (vs_one (v_ret (v_tup (vds_cons (v_var 1) (vds_cons (v_var 2) vds_nil)))))
      vs_nil)
    (vs_one (v_ifS (vw_t (vw_or (vt_cmp (op_neK (K := K) rfl hu) (fun _ e => e ▸ s_ne) (v_var 4) v_str) (vw_or1 (vt_cmp (op_eqK (K := K) rfl hu) (fun _ e => e ▸ s_eq) (v_callB (call_lenK2 (K := K) rfl) (fun _ e => e ▸ s_len) PySem.boot_len g.b_len (vhs_cons (v_var 1) vhs_nil)) v_int))))
      (vs_one (v_ret v_non))
      vs_nil)))))))))))))))), m, F'.kp, F'.binds (ps := ["row"]) fun _ _ _ _ _ _ us hl => match us, hl with | [_], _ => rfl⟩
/-! ### read_call -/
abbrev tx_read_call : Stmt := top 37
theorem sc_read_call : FnScope ["text", "end", "path", "row", "told", "found", "at", "name", "places", "items", "place"] ["text"] (defScope tx_read_call) := ⟨rfl, rfl, rfl, by decide +kernel, rfl, by decide +kernel, by decide +kernel⟩
def f_read_call : SF :=
    (sSeq (sSet 1 (vCall F_path_end (vConsH (vVar 0) (vConsH (vC (.int 5)) vNilH))))
    (sSeq (sSet 2 (vSl (vVar 0) (vP (vC (.int 5))) (vP (vVar 1))))
    (sSeq (sIf (bNot (bTru (vCall F_is_path (vConsH (vVar 2) vNilH))))
      (sRet (vC .non))
      sNil)
    (sSeq (sSet 3 (vCall F_tokens_from (vConsH (vVar 0) (vConsH (vVar 1) vNilH))))
    (sSeq (sSet 4 (vCall F_read_arguments (vConsH (vVar 3) vNilH)))
    (sSeq (sIf (bVal (vBin oIsN (vVar 4) (vC .non)))
      (sRet (vC .non))
      sNil)
    (sSeq (sAsg (vTake (vVar 4)) (gT 2 (gConsF (gN 5) (gConsF (gN 6) gNilF))))
    (sSeq (sSet 7 (vC .non))
    (sSeq (sIf (bVal (vBin oLt (vVar 6) (vCallB oLen (vConsH (vVar 3) vNilH))))
      (sSeq (sIf (bOr (bVal (vBin oNe (vCallB oLen (vConsH (vVar 3) vNilH)) (vBin oAdd (vVar 6) (vC (.int 2))))) (bOr (bVal (vBin oNe (vBin oIx (vBin oIx (vVar 3) (vVar 6)) (vC (.int 2))) (vC (.str "as")))) (bNot (bTru (vCall F_is_target (vConsH (vBin oIx (vVar 3) (vBin oAdd (vVar 6) (vC (.int 1)))) vNilH))))))
      (sRet (vC .non))
      sNil)
    (sSet 7 (vBin oIx (vBin oIx (vVar 3) (vBin oAdd (vVar 6) (vC (.int 1)))) (vC (.int 2)))))
      sNil)
    (sSeq (sSet 8 (vLc2 (iSeq (vVar 5)) (gN 9) bYes (iSeqH (vTake (vCall F_places_of_items (vConsH (vVar 9) vNilH)))) (gN 10) bYes (vTake (vVar 10)) [9, 10] [10]))
    (sRet2 (vTup2 (vTake (vTup (vConsD (vTake (vC (.str "call"))) (vConsD (vTake (vVar 2)) (vConsD (vTake (vLc (iSeq (vVar 5)) (gN 9) bYes (vTake (vCall F_tree_of (vConsH (vVar 9) vNilH))) [9])) (vConsD (vTake (vVar 7)) vNilD)))))) (vBin oAdd (vVar 8) (vLst (vConsD (vTake (vTup (vConsD (vTake (vC (.int 6))) (vConsD (vTake (vVar 1)) vNilD)))) vNilD)))))))))))))))
def F_read_call : FF := defF 11 1 f_read_call
theorem df_read_call (g : Gb mg K w) (F' : Fun K "read_call" "read_call" tx_read_call f fd) (m : mg "read_call" = some (.ref f)) (d_path_end : Df P w K mg base 2 "path_end" ["text", "at"] F_path_end) (d_is_path : Df P w K mg base 2 "is_path" ["text"] F_is_path) (d_tokens_from : Df P w K mg base 4 "tokens_from" ["text", "at"] F_tokens_from) (d_read_arguments : Df P w K mg base 4 "read_arguments" ["row"] F_read_arguments) (d_is_target : Df P w K mg base 2 "is_target" ["token"] F_is_target) (d_places_of_items : Df P w K mg base 1 "places_of_items" ["items"] F_places_of_items) (d_tree_of : Df P w K mg base 1 "tree_of" ["items"] F_tree_of) : Df P w K mg base 5 "read_call" ["text"] F_read_call :=
  ⟨f, fd, fnV F' sc_read_call (fun cdv A outer s H E hr => VSs.ex (have hu := hr.units; have sc := sc_read_call;
    (vs_cons (v_set 1 sc.nd (v_call d_path_end hr (vhs_cons (v_var 0) (vhs_cons v_int vhs_nil))))
    (vs_cons (v_set 2 sc.nd (v_sl (K := K) (v_var 0) (vo_some v_int) (vo_some (v_var 1))))
    (vs_cons (v_ifS (vt_not (vt_tru (K := K) (v_call d_is_path hr (vhs_cons (v_var 2) vhs_nil))))
      (vs_one (v_ret v_non))
      vs_nil)
    (vs_cons (v_set 3 sc.nd (v_call d_tokens_from hr (vhs_cons (v_var 0) (vhs_cons (v_var 1) vhs_nil))))
    (vs_cons (v_set 4 sc.nd (v_call d_read_arguments hr (vhs_cons (v_var 3) vhs_nil)))
    (vs_cons (v_ifS (vt_cmp op_isN2 (fun _ _ => s_isN) (v_var 4) v_non)
      (vs_one (v_ret v_non))
      vs_nil)
    (vs_cons (v_asg (v_var 4) (vg_tup (K := K) (vgs_cons (vg_name 5 sc.nd) (vgs_cons (vg_name 6 sc.nd) vgs_nil))))
    (vs_cons (v_set 7 sc.nd v_non)
    (vs_cons (v_ifS (vt_cmp op_lt (fun _ _ => s_lt) (v_var 6) (v_callB (call_lenK2 (K := K) rfl) (fun _ e => e ▸ s_len) PySem.boot_len g.b_len (vhs_cons (v_var 3) vhs_nil)))
      (vs_cons (v_ifS (vw_t (vw_or (vt_cmp (op_neK (K := K) rfl hu) (fun _ e => e ▸ s_ne) (v_callB (call_lenK2 (K := K) rfl) (fun _ e => e ▸ s_len) PySem.boot_len g.b_len (vhs_cons (v_var 3) vhs_nil)) (v_add (K := K) (v_var 6) v_int)) (vw_or (vt_cmp (op_neK (K := K) rfl hu) (fun _ e => e ▸ s_ne) (v_ix (K := K) (v_ix (K := K) (v_var 3) (v_var 6)) v_int) v_str) (vw_or1 (vt_not (vt_tru (K := K) (v_call d_is_target hr (vhs_cons (v_ix (K := K) (v_var 3) (v_add (K := K) (v_var 6) v_int)) vhs_nil))))))))
      (vs_one (v_ret v_non))
      vs_nil)
    (vs_one (v_set 7 sc.nd (v_ix (K := K) (v_ix (K := K) (v_var 3) (v_add (K := K) (v_var 6) v_int)) v_int))))
      vs_nil)
    (vs_cons (v_setLc2 8 [("items", 9), ("place", 10)] [10] sc.nd (sw_true rfl rfl rfl (by decide +kernel))  (vi_seq (K := K) (v_var 5)) (by kernel_rfl) (fun _ _ _ _ _ => (vg_name 9 sc.nd)) (fun _ _ _ _ _ => by exact (vi_seqH (K := K) (v_call d_places_of_items hr (vhs_cons (v_var 9) vhs_nil)))) (fun _ _ _ _ _ => (vg_name 10 sc.nd)) (fun _ _ _ _ _ => by exact (v_var 10)))
    (vs_one (v_ret2 (v_tup2 (v_tup (vds_cons v_str (vds_cons (v_var 2) (vds_cons (v_lc [("items", 9)] sc.nd (vi_seq (K := K) (v_var 5)) (by kernel_rfl) (fun _ _ _ _ _ => (vg_name 9 sc.nd)) (fun _ _ _ _ _ => by exact vts_nil) (fun _ _ _ _ _ => by exact (v_call d_tree_of hr (vhs_cons (v_var 9) vhs_nil)))) (vds_cons (v_var 7) vds_nil))))) (v_add (K := K) (v_var 8) (v_lst (vds_cons (v_tup (vds_cons v_int (vds_cons (v_var 1) vds_nil))) vds_nil)))))))))))))))))), m, F'.kp, F'.binds (ps := ["text"]) fun _ _ _ _ _ _ us hl => match us, hl with | [_], _ => rfl⟩
/-! ### read_value -/
abbrev tx_read_value : Stmt := top 38
theorem sc_read_value : FnScope ["word", "row", "place", "items"] ["word", "row"] (defScope tx_read_value) := ⟨rfl, rfl, rfl, by decide +kernel, rfl, by decide +kernel, by decide +kernel⟩
def f_read_value : SF :=
    (sSeq (sSet 2 (vTup (vConsD (vTake (vC (.int 1))) (vConsD (vTake (vCallB oLen (vConsH (vVar 0) vNilH))) vNilD))))
    (sSeq (sIf (bAnd (bVal (vBin oEq (vVar 0) (vC (.str "back")))) (bNot (bTru (vVar 1))))
      (sRet2 (vTup2 (vTake (vTup (vConsD (vTake (vVar 0)) (vConsD (vTake (vC .non)) vNilD)))) (vLst (vConsD (vTake (vVar 2)) vNilD))))
      sNil)
    (sSeq (sSet 3 (vCall F_whole_items (vConsH (vVar 1) (vConsH (vC (.int 0)) vNilH))))
    (sSeq (sIf (bVal (vBin oIsN (vVar 3) (vC .non)))
      (sRet (vC .non))
      sNil)
    (sRet2 (vTup2 (vTake (vTup (vConsD (vTake (vVar 0)) (vConsD (vTake (vCall F_tree_of (vConsH (vVar 3) vNilH))) vNilD)))) (vBin oAdd (vCall F_places_of_items (vConsH (vVar 3) vNilH)) (vLst (vConsD (vTake (vVar 2)) vNilD)))))))))
def F_read_value : FF := defF 4 2 f_read_value
theorem df_read_value (g : Gb mg K w) (F' : Fun K "read_value" "read_value" tx_read_value f fd) (m : mg "read_value" = some (.ref f)) (d_whole_items : Df P w K mg base 4 "whole_items" ["row", "at"] F_whole_items) (d_tree_of : Df P w K mg base 1 "tree_of" ["items"] F_tree_of) (d_places_of_items : Df P w K mg base 1 "places_of_items" ["items"] F_places_of_items) : Df P w K mg base 5 "read_value" ["word", "row"] F_read_value :=
  ⟨f, fd, fnV F' sc_read_value (fun cdv A outer s H E hr => VSs.ex (have hu := hr.units; have sc := sc_read_value;
    (vs_cons (v_set 2 sc.nd (v_tup (vds_cons v_int (vds_cons (v_callB (call_lenK2 (K := K) rfl) (fun _ e => e ▸ s_len) PySem.boot_len g.b_len (vhs_cons (v_var 0) vhs_nil)) vds_nil))))
    (vs_cons (v_ifS (vw_t (vw_and (vt_cmp (op_eqK (K := K) rfl hu) (fun _ e => e ▸ s_eq) (v_var 0) v_str) (vw_and1 (vt_not (vt_tru (K := K) (v_var 1))))))
      (vs_one (v_ret2 (v_tup2 (v_tup (vds_cons (v_var 0) (vds_cons v_non vds_nil))) (v_lst (vds_cons (v_var 2) vds_nil)))))
      vs_nil)
    (vs_cons (v_set 3 sc.nd (v_call d_whole_items hr (vhs_cons (v_var 1) (vhs_cons v_int vhs_nil))))
    (vs_cons (v_ifS (vt_cmp op_isN2 (fun _ _ => s_isN) (v_var 3) v_non)
      (vs_one (v_ret v_non))
      vs_nil)
    (vs_one (v_ret2 (v_tup2 (v_tup (vds_cons (v_var 0) (vds_cons (v_call d_tree_of hr (vhs_cons (v_var 3) vhs_nil)) vds_nil))) (v_add (K := K) (v_call d_places_of_items hr (vhs_cons (v_var 3) vhs_nil)) (v_lst (vds_cons (v_var 2) vds_nil)))))))))))), m, F'.kp, F'.binds (ps := ["word", "row"]) fun _ _ _ _ _ _ us hl => match us, hl with | [_, _], _ => rfl⟩
/-! ### read_hear -/
abbrev tx_read_hear : Stmt := top 39
theorem sc_read_hear : FnScope ["row", "_", "kind", "thing"] ["row"] (defScope tx_read_hear) := ⟨rfl, rfl, rfl, by decide +kernel, rfl, by decide +kernel, by decide +kernel⟩
def f_read_hear : SF :=
    (sSeq (sIf (bOr (bVal (vBin oNe (vCallB oLen (vConsH (vVar 0) vNilH)) (vC (.int 3)))) (bOr (bNot (bTru (vCall F_is_target (vConsH (vBin oIx (vVar 0) (vC (.int 0))) vNilH)))) (bVal (vBin oNe (vBin oIx (vBin oIx (vVar 0) (vC (.int 1))) (vC (.int 2))) (vC (.str "="))))))
      (sRet (vC .non))
      sNil)
    (sSeq (sAsg (vTake (vBin oIx (vVar 0) (vC (.int 2)))) (gT 3 (gConsF (gN 1) (gConsF (gN 2) (gConsF (gN 3) gNilF)))))
    (sSeq (sIf (bOr (bVal (vBin oNe (vVar 2) (vC (.str "name")))) (bNot (bTru (vCall F_is_word (vConsH (vVar 3) vNilH)))))
      (sRet (vC .non))
      sNil)
    (sRet2 (vTup2 (vTake (vTup (vConsD (vTake (vC (.str "hear"))) (vConsD (vTake (vBin oIx (vBin oIx (vVar 0) (vC (.int 0))) (vC (.int 2)))) (vConsD (vTake (vVar 3)) vNilD))))) (vLst (vConsD (vTake (vCall F_place_of (vConsH (vBin oIx (vVar 0) (vC (.int 0))) vNilH))) vNilD)))))))
def F_read_hear : FF := defF 4 1 f_read_hear
theorem df_read_hear (g : Gb mg K w) (F' : Fun K "read_hear" "read_hear" tx_read_hear f fd) (m : mg "read_hear" = some (.ref f)) (d_is_target : Df P w K mg base 2 "is_target" ["token"] F_is_target) (d_is_word : Df P w K mg base 2 "is_word" ["text"] F_is_word) (d_place_of : Df P w K mg base 1 "place_of" ["token"] F_place_of) : Df P w K mg base 3 "read_hear" ["row"] F_read_hear :=
  ⟨f, fd, fnV F' sc_read_hear (fun cdv A outer s H E hr => VSs.ex (have hu := hr.units; have sc := sc_read_hear;
    (vs_cons (v_ifS (vw_t (vw_or (vt_cmp (op_neK (K := K) rfl hu) (fun _ e => e ▸ s_ne) (v_callB (call_lenK2 (K := K) rfl) (fun _ e => e ▸ s_len) PySem.boot_len g.b_len (vhs_cons (v_var 0) vhs_nil)) v_int) (vw_or (vt_not (vt_tru (K := K) (v_call d_is_target hr (vhs_cons (v_ix (K := K) (v_var 0) v_int) vhs_nil)))) (vw_or1 (vt_cmp (op_neK (K := K) rfl hu) (fun _ e => e ▸ s_ne) (v_ix (K := K) (v_ix (K := K) (v_var 0) v_int) v_int) v_str)))))
      (vs_one (v_ret v_non))
      vs_nil)
    (vs_cons (v_asg (v_ix (K := K) (v_var 0) v_int) (vg_tup (K := K) (vgs_cons (vg_name 1 sc.nd) (vgs_cons (vg_name 2 sc.nd) (vgs_cons (vg_name 3 sc.nd) vgs_nil)))))
    (vs_cons (v_ifS (vw_t (vw_or (vt_cmp (op_neK (K := K) rfl hu) (fun _ e => e ▸ s_ne) (v_var 2) v_str) (vw_or1 (vt_not (vt_tru (K := K) (v_call d_is_word hr (vhs_cons (v_var 3) vhs_nil)))))))
      (vs_one (v_ret v_non))
      vs_nil)
    (vs_one (v_ret2 (v_tup2 (v_tup (vds_cons v_str (vds_cons (v_ix (K := K) (v_ix (K := K) (v_var 0) v_int) v_int) (vds_cons (v_var 3) vds_nil)))) (v_lst (vds_cons (v_call d_place_of hr (vhs_cons (v_ix (K := K) (v_var 0) v_int) vhs_nil)) vds_nil)))))))))), m, F'.kp, F'.binds (ps := ["row"]) fun _ _ _ _ _ _ us hl => match us, hl with | [_], _ => rfl⟩
/-! ### read_form -/
abbrev tx_read_form : Stmt := top 40
theorem sc_read_form : FnScope ["text", "word", "row"] ["text"] (defScope tx_read_form) := ⟨rfl, rfl, rfl, by decide +kernel, rfl, by decide +kernel, by decide +kernel⟩
def f_read_form : SF :=
    (sSeq (sSet 1 (vCall F_first_word (vConsH (vVar 0) vNilH)))
    (sSeq (sIf (bVal (vBin oEq (vVar 1) (vC (.str "rem"))))
      (sRet2 (vTup2 (vTake (vTup (vConsD (vTake (vC (.str "rem"))) vNilD))) (vLst (vConsD (vTake (vTup (vConsD (vTake (vC (.int 1))) (vConsD (vTake (vC (.int 3))) vNilD)))) vNilD))))
      sNil)
    (sSeq (sIf (bAnd (bVal (vBin oEq (vVar 1) (vC (.str "call")))) (bVal (vBin oGt (vCallB oLen (vConsH (vVar 0) vNilH)) (vC (.int 5)))))
      (sRet2 (vCallP F_read_call (vConsH (vVar 0) vNilH)))
      sNil)
    (sSeq (sSet 2 (vCall F_tokens_of (vConsH (vVar 0) vNilH)))
    (sSeq (sIf (bVal (vBin oEq (vVar 1) (vC (.str "set"))))
      (sRet2 (vCallP F_read_set (vConsH (vVar 2) vNilH)))
      sNil)
    (sSeq (sIf (bVal (vBin oEq (vVar 1) (vC (.str "go"))))
      (sRet2 (vCallP F_read_go (vConsH (vVar 2) vNilH)))
      sNil)
    (sSeq (sIf (bOr (bVal (vBin oEq (vVar 1) (vC (.str "back")))) (bOr (bVal (vBin oEq (vVar 1) (vC (.str "tell")))) (bOr (bVal (vBin oEq (vVar 1) (vC (.str "give")))) (bVal (vBin oEq (vVar 1) (vC (.str "put")))))))
      (sRet2 (vCallP F_read_value (vConsH (vVar 1) (vConsH (vVar 2) vNilH))))
      sNil)
    (sSeq (sIf (bAnd (bVal (vBin oEq (vVar 1) (vC (.str "take")))) (bAnd (bVal (vBin oEq (vCallB oLen (vConsH (vVar 2) vNilH)) (vC (.int 1)))) (bTru (vCall F_is_target (vConsH (vBin oIx (vVar 2) (vC (.int 0))) vNilH)))))
      (sRet2 (vTup2 (vTake (vTup (vConsD (vTake (vC (.str "take"))) (vConsD (vTake (vBin oIx (vBin oIx (vVar 2) (vC (.int 0))) (vC (.int 2)))) vNilD)))) (vLst (vConsD (vTake (vCall F_place_of (vConsH (vBin oIx (vVar 2) (vC (.int 0))) vNilH))) vNilD))))
      sNil)
    (sSeq (sIf (bVal (vBin oEq (vVar 1) (vC (.str "hear"))))
      (sRet2 (vCallP F_read_hear (vConsH (vVar 2) vNilH)))
      sNil)
    (sRet (vC .non)))))))))))
def F_read_form : FF := defF 3 1 f_read_form
theorem df_read_form (g : Gb mg K w) (F' : Fun K "read_form" "read_form" tx_read_form f fd) (m : mg "read_form" = some (.ref f)) (d_first_word : Df P w K mg base 1 "first_word" ["text"] F_first_word) (d_read_call : Df P w K mg base 5 "read_call" ["text"] F_read_call) (d_tokens_of : Df P w K mg base 5 "tokens_of" ["text"] F_tokens_of) (d_read_set : Df P w K mg base 5 "read_set" ["row"] F_read_set) (d_read_go : Df P w K mg base 5 "read_go" ["row"] F_read_go) (d_read_value : Df P w K mg base 5 "read_value" ["word", "row"] F_read_value) (d_is_target : Df P w K mg base 2 "is_target" ["token"] F_is_target) (d_place_of : Df P w K mg base 1 "place_of" ["token"] F_place_of) (d_read_hear : Df P w K mg base 3 "read_hear" ["row"] F_read_hear) : Df P w K mg base 6 "read_form" ["text"] F_read_form :=
  ⟨f, fd, fnV F' sc_read_form (fun cdv A outer s H E hr => VSs.ex (have hu := hr.units; have sc := sc_read_form;
    (vs_cons (v_set 1 sc.nd (v_call d_first_word hr (vhs_cons (v_var 0) vhs_nil)))
    (vs_cons (v_ifS (vt_cmp (op_eqK (K := K) rfl hu) (fun _ e => e ▸ s_eq) (v_var 1) v_str)
      (vs_one (v_ret2 (v_tup2 (v_tup (vds_cons v_str vds_nil)) (v_lst (vds_cons (v_tup (vds_cons v_int (vds_cons v_int vds_nil))) vds_nil)))))
      vs_nil)
    (vs_cons (v_ifS (vw_t (vw_and (vt_cmp (op_eqK (K := K) rfl hu) (fun _ e => e ▸ s_eq) (v_var 1) v_str) (vw_and1 (vt_cmp op_gt (fun _ _ => s_gt) (v_callB (call_lenK2 (K := K) rfl) (fun _ e => e ▸ s_len) PySem.boot_len g.b_len (vhs_cons (v_var 0) vhs_nil)) v_int))))
      (vs_one (v_ret2 (v_callP d_read_call hr (vhs_cons (v_var 0) vhs_nil))))
      vs_nil)
    (vs_cons (v_set 2 sc.nd (v_call d_tokens_of hr (vhs_cons (v_var 0) vhs_nil)))
    (vs_cons (v_ifS (vt_cmp (op_eqK (K := K) rfl hu) (fun _ e => e ▸ s_eq) (v_var 1) v_str)
      (vs_one (v_ret2 (v_callP d_read_set hr (vhs_cons (v_var 2) vhs_nil))))
      vs_nil)
    (vs_cons (v_ifS (vt_cmp (op_eqK (K := K) rfl hu) (fun _ e => e ▸ s_eq) (v_var 1) v_str)
      (vs_one (v_ret2 (v_callP d_read_go hr (vhs_cons (v_var 2) vhs_nil))))
      vs_nil)
    (vs_cons (v_ifS (vw_t (vw_or (vt_cmp (op_eqK (K := K) rfl hu) (fun _ e => e ▸ s_eq) (v_var 1) v_str) (vw_or (vt_cmp (op_eqK (K := K) rfl hu) (fun _ e => e ▸ s_eq) (v_var 1) v_str) (vw_or (vt_cmp (op_eqK (K := K) rfl hu) (fun _ e => e ▸ s_eq) (v_var 1) v_str) (vw_or1 (vt_cmp (op_eqK (K := K) rfl hu) (fun _ e => e ▸ s_eq) (v_var 1) v_str))))))
      (vs_one (v_ret2 (v_callP d_read_value hr (vhs_cons (v_var 1) (vhs_cons (v_var 2) vhs_nil)))))
      vs_nil)
    (vs_cons (v_ifS (vw_t (vw_and (vt_cmp (op_eqK (K := K) rfl hu) (fun _ e => e ▸ s_eq) (v_var 1) v_str) (vw_and (vt_cmp (op_eqK (K := K) rfl hu) (fun _ e => e ▸ s_eq) (v_callB (call_lenK2 (K := K) rfl) (fun _ e => e ▸ s_len) PySem.boot_len g.b_len (vhs_cons (v_var 2) vhs_nil)) v_int) (vw_and1 (vt_tru (K := K) (v_call d_is_target hr (vhs_cons (v_ix (K := K) (v_var 2) v_int) vhs_nil)))))))
      (vs_one (v_ret2 (v_tup2 (v_tup (vds_cons v_str (vds_cons (v_ix (K := K) (v_ix (K := K) (v_var 2) v_int) v_int) vds_nil))) (v_lst (vds_cons (v_call d_place_of hr (vhs_cons (v_ix (K := K) (v_var 2) v_int) vhs_nil)) vds_nil)))))
      vs_nil)
    (vs_cons (v_ifS (vt_cmp (op_eqK (K := K) rfl hu) (fun _ e => e ▸ s_eq) (v_var 1) v_str)
      (vs_one (v_ret2 (v_callP d_read_hear hr (vhs_cons (v_var 2) vhs_nil))))
      vs_nil)
    (vs_one (v_ret v_non))))))))))))), m, F'.kp, F'.binds (ps := ["text"]) fun _ _ _ _ _ _ us hl => match us, hl with | [_], _ => rfl⟩
/-! ### read_whole -/
abbrev tx_read_whole : Stmt := top 41
theorem sc_read_whole : FnScope ["text", "told"] ["text"] (defScope tx_read_whole) := ⟨rfl, rfl, rfl, by decide +kernel, rfl, by decide +kernel, by decide +kernel⟩
def f_read_whole : SF :=
    (sSeq (sIf (bTru (vSm (fun a b => .bl (Txt.startswith a b)) (vVar 0) (vC (.str "!"))))
      (sRet2 (vTup2 (vTake (vTup (vConsD (vTake (vC (.str "broken"))) vNilD))) (vLst vNilD)))
      sNil)
    (sOr 1 (vCallP F_read_form (vConsH (vVar 0) vNilH)) (vTup2 (vTake (vTup (vConsD (vTake (vC (.str "wrong"))) vNilD))) (vLst (vConsD (vTake (vTup (vConsD (vTake (vC (.int 1))) (vConsD (vTake (vCallB oLen (vConsH (vVar 0) vNilH))) vNilD)))) vNilD)))))
def F_read_whole : FF := defF 2 1 f_read_whole
theorem df_read_whole (g : Gb mg K w) (F' : Fun K "read_whole" "read_whole" tx_read_whole f fd) (m : mg "read_whole" = some (.ref f)) (d_read_form : Df P w K mg base 6 "read_form" ["text"] F_read_form) : Df P w K mg base 7 "read_whole" ["text"] F_read_whole :=
  ⟨f, fd, fnV F' sc_read_whole (fun cdv A outer s H E hr => VSs.ex (have hu := hr.units; have sc := sc_read_whole;
    (vs_cons (v_ifS (vt_tru (K := K) (v_starts (v_var 0) v_str))
      (vs_one (v_ret2 (v_tup2 (v_tup (vds_cons v_str vds_nil)) (v_lst vds_nil))))
      vs_nil)
    (vs_or 1 sc.nd (v_callP d_read_form hr (vhs_cons (v_var 0) vhs_nil)) (v_tup2 (v_tup (vds_cons v_str vds_nil)) (v_lst (vds_cons (v_tup (vds_cons v_int (vds_cons (v_callB (call_lenK2 (K := K) rfl) (fun _ e => e ▸ s_len) PySem.boot_len g.b_len (vhs_cons (v_var 0) vhs_nil)) vds_nil))) vds_nil))) (ho := v_var 1) (ho3 := v_var 1))))), m, F'.kp, F'.binds (ps := ["text"]) fun _ _ _ _ _ _ us hl => match us, hl with | [_], _ => rfl⟩
/-! ### read_code -/
abbrev tx_read_code : Stmt := top 42
theorem sc_read_code : FnScope ["text"] ["text"] (defScope tx_read_code) := ⟨rfl, rfl, rfl, by decide +kernel, rfl, by decide +kernel, by decide +kernel⟩
def f_read_code : SF :=
    (sRet (vFst (vCallP F_read_whole (vConsH (vVar 0) vNilH))))
def F_read_code : FF := defF 1 1 f_read_code
theorem df_read_code (g : Gb mg K w) (F' : Fun K "read_code" "read_code" tx_read_code f fd) (m : mg "read_code" = some (.ref f)) (d_read_whole : Df P w K mg base 7 "read_whole" ["text"] F_read_whole) : Df P w K mg base 8 "read_code" ["text"] F_read_code :=
  ⟨f, fd, fnV F' sc_read_code (fun cdv A outer s H E hr => VSs.ex (have hu := hr.units; have sc := sc_read_code;
    (vs_one (v_ret (v_fst (v_callP d_read_whole hr (vhs_cons (v_var 0) vhs_nil))))))), m, F'.kp, F'.binds (ps := ["text"]) fun _ _ _ _ _ _ us hl => match us, hl with | [_], _ => rfl⟩
/-! ### columns_of -/
abbrev tx_columns_of : Stmt := top 44
theorem sc_columns_of : FnScope ["text"] ["text"] (defScope tx_columns_of) := ⟨rfl, rfl, rfl, by decide +kernel, rfl, by decide +kernel, by decide +kernel⟩
def f_columns_of : SF :=
    (sRet (vSnd (vCallP F_read_whole (vConsH (vVar 0) vNilH))))
def F_columns_of : FF := defF 1 1 f_columns_of
theorem df_columns_of (g : Gb mg K w) (F' : Fun K "columns_of" "columns_of" tx_columns_of f fd) (m : mg "columns_of" = some (.ref f)) (d_read_whole : Df P w K mg base 7 "read_whole" ["text"] F_read_whole) : Df P w K mg base 8 "columns_of" ["text"] F_columns_of :=
  ⟨f, fd, fnV F' sc_columns_of (fun cdv A outer s H E hr => VSs.ex (have hu := hr.units; have sc := sc_columns_of;
    (vs_one (v_ret (v_snd (v_callP d_read_whole hr (vhs_cons (v_var 0) vhs_nil))))))), m, F'.kp, F'.binds (ps := ["text"]) fun _ _ _ _ _ _ us hl => match us, hl with | [_], _ => rfl⟩
/-! ### put_expression -/
abbrev tx_put_expression : Stmt := top 50
theorem sc_put_expression : FnScope ["tree", "found", "sign"] ["tree", "found"] (defScope tx_put_expression) := ⟨rfl, rfl, rfl, by decide +kernel, rfl, by decide +kernel, by decide +kernel⟩
def f_put_expression (F_put_expression : FF) : SF :=
    (sSeq (sSet 2 (vBin oIx (vVar 0) (vC (.int 0))))
    (sIf (bVal (vBin oEq (vVar 2) (vC (.str "number"))))
      (sDrop (vMt 1 "list" mAppend (vConsD (vTake (vTup (vConsD (vTake (vC (.str "push"))) (vConsD (vTake (vBin oIx (vVar 0) (vC (.int 1)))) vNilD)))) vNilD)))
      (sIf (bVal (vBin oEq (vVar 2) (vC (.str "name"))))
      (sDrop (vMt 1 "list" mAppend (vConsD (vTake (vTup (vConsD (vTake (vC (.str "get"))) (vConsD (vTake (vBin oIx (vVar 0) (vC (.int 1)))) vNilD)))) vNilD)))
      (sIf (bVal (vBin oEq (vVar 2) (vC (.str "minus"))))
      (sSeq (sDrop (vCall F_put_expression (vConsH (vBin oIx (vVar 0) (vC (.int 1))) (vConsH (vVar 1) vNilH))))
    (sDrop (vMt 1 "list" mAppend (vConsD (vTake (vTup (vConsD (vTake (vC (.str "neg"))) (vConsD (vTake (vC .non)) vNilD)))) vNilD))))
      (sSeq (sDrop (vCall F_put_expression (vConsH (vBin oIx (vVar 0) (vC (.int 1))) (vConsH (vVar 1) vNilH))))
    (sSeq (sDrop (vCall F_put_expression (vConsH (vBin oIx (vVar 0) (vC (.int 2))) (vConsH (vVar 1) vNilH))))
    (sDrop (vMt 1 "list" mAppend (vConsD (vTake (vTup (vConsD (vTake (vUn (oIxG T_SIGN_OPS) (vVar 2))) (vConsD (vTake (vC .non)) vNilD)))) vNilD)))))))))
def F_put_expression : Nat → FF
  | 0 => fun _ => none
  | k + 1 => defF 3 2 (f_put_expression (F_put_expression k))
theorem st_put_expression (g : Gb mg K w) (F' : Fun K "put_expression" "put_expression" tx_put_expression f fd) (m : mg "put_expression" = some (.ref f)) {F : FF} {k : Nat} (hk : 0 ≤ k) (d_put_expression : Df P w K mg base k "put_expression" ["tree", "found"] F) : Df P w K mg base (k + 1) "put_expression" ["tree", "found"] (defF 3 2 (f_put_expression F)) :=
  ⟨f, fd, fnV F' sc_put_expression (fun cdv A outer s H E hr => VSs.ex (have hu := hr.units; have sc := sc_put_expression;
    (vs_cons (v_set 2 sc.nd (v_ix (K := K) (v_var 0) v_int))
    (vs_one (v_ifS (vt_cmp (op_eqK (K := K) rfl hu) (fun _ e => e ▸ s_eq) (v_var 2) v_str)
      (vs_one (v_expr (v_append 1 (v_var 1) (v_tup (vds_cons v_str (vds_cons (v_ix (K := K) (v_var 0) v_int) vds_nil))))))
      (vs_one (v_ifS (vt_cmp (op_eqK (K := K) rfl hu) (fun _ e => e ▸ s_eq) (v_var 2) v_str)
      (vs_one (v_expr (v_append 1 (v_var 1) (v_tup (vds_cons v_str (vds_cons (v_ix (K := K) (v_var 0) v_int) vds_nil))))))
      (vs_one (v_ifS (vt_cmp (op_eqK (K := K) rfl hu) (fun _ e => e ▸ s_eq) (v_var 2) v_str)
      (vs_cons (v_expr (v_call d_put_expression hr (vhs_cons (v_ix (K := K) (v_var 0) v_int) (vhs_cons (v_var 1) vhs_nil))))
    (vs_one (v_expr (v_append 1 (v_var 1) (v_tup (vds_cons v_str (vds_cons v_non vds_nil)))))))
      (vs_cons (v_expr (v_call d_put_expression hr (vhs_cons (v_ix (K := K) (v_var 0) v_int) (vhs_cons (v_var 1) vhs_nil))))
    (vs_cons (v_expr (v_call d_put_expression hr (vhs_cons (v_ix (K := K) (v_var 0) v_int) (vhs_cons (v_var 1) vhs_nil))))
    (vs_one (v_expr (v_append 1 (v_var 1) (v_tup (vds_cons (v_ixG g.b_SIGN_OPS (v_var 2)) (vds_cons v_non vds_nil))))))))))))))))), m, F'.kp, F'.binds (ps := ["tree", "found"]) fun _ _ _ _ _ _ us hl => match us, hl with | [_, _], _ => rfl⟩
theorem df_put_expression (g : Gb mg K w) (F' : Fun K "put_expression" "put_expression" tx_put_expression f fd) (m : mg "put_expression" = some (.ref f))  : ∀ k, Df P w K mg base (0 + k) "put_expression" ["tree", "found"] (F_put_expression k)
  | 0 => ⟨f, fd, fn_none (fun _ => rfl), m, F'.kp, F'.binds (ps := ["tree", "found"]) fun _ _ _ _ _ _ us hl => match us, hl with | [_, _], _ => rfl⟩
  | k + 1 => st_put_expression (k := 0 + k) g F' m (by omega) (df_put_expression g F' m  k)
/-! ### expressions_in -/
abbrev tx_expressions_in : Stmt := top 51
theorem sc_expressions_in : FnScope ["tree", "word", "expression"] ["tree"] (defScope tx_expressions_in) := ⟨rfl, rfl, rfl, by decide +kernel, rfl, by decide +kernel, by decide +kernel⟩
def f_expressions_in : SF :=
    (sSeq (sSet 1 (vBin oIx (vVar 0) (vC (.int 0))))
    (sSeq (sIf (bVal (vBin oEq (vVar 1) (vC (.str "call"))))
      (sRet (vBin oIx (vVar 0) (vC (.int 2))))
      sNil)
    (sSeq (sIf (bOr (bVal (vBin oEq (vVar 1) (vC (.str "set")))) (bVal (vBin oEq (vVar 1) (vC (.str "go")))))
      (sSet 2 (vBin oIx (vVar 0) (vC (.int 2))))
      (sIf (bOr (bVal (vBin oEq (vVar 1) (vC (.str "back")))) (bOr (bVal (vBin oEq (vVar 1) (vC (.str "tell")))) (bOr (bVal (vBin oEq (vVar 1) (vC (.str "give")))) (bVal (vBin oEq (vVar 1) (vC (.str "put")))))))
      (sSet 2 (vBin oIx (vVar 0) (vC (.int 1))))
      (sSet 2 (vC .non))))
    (sRet (vIf (bVal (vBin oIsN (vVar 2) (vC .non))) (vLst vNilD) (vLst (vConsD (vTake (vVar 2)) vNilD)))))))
def F_expressions_in : FF := defF 3 1 f_expressions_in
theorem df_expressions_in (g : Gb mg K w) (F' : Fun K "expressions_in" "expressions_in" tx_expressions_in f fd) (m : mg "expressions_in" = some (.ref f))  : Df P w K mg base 1 "expressions_in" ["tree"] F_expressions_in :=
  ⟨f, fd, fnV F' sc_expressions_in (fun cdv A outer s H E hr => VSs.ex (have hu := hr.units; have sc := sc_expressions_in;
    (vs_cons (v_set 1 sc.nd (v_ix (K := K) (v_var 0) v_int))
    (vs_cons (v_ifS (vt_cmp (op_eqK (K := K) rfl hu) (fun _ e => e ▸ s_eq) (v_var 1) v_str)
      (vs_one (v_ret (v_ix (K := K) (v_var 0) v_int)))
      vs_nil)
    (vs_cons (v_ifS (vw_t (vw_or (vt_cmp (op_eqK (K := K) rfl hu) (fun _ e => e ▸ s_eq) (v_var 1) v_str) (vw_or1 (vt_cmp (op_eqK (K := K) rfl hu) (fun _ e => e ▸ s_eq) (v_var 1) v_str))))
      (vs_one (v_set 2 sc.nd (v_ix (K := K) (v_var 0) v_int)))
      (vs_one (v_ifS (vw_t (vw_or (vt_cmp (op_eqK (K := K) rfl hu) (fun _ e => e ▸ s_eq) (v_var 1) v_str) (vw_or (vt_cmp (op_eqK (K := K) rfl hu) (fun _ e => e ▸ s_eq) (v_var 1) v_str) (vw_or (vt_cmp (op_eqK (K := K) rfl hu) (fun _ e => e ▸ s_eq) (v_var 1) v_str) (vw_or1 (vt_cmp (op_eqK (K := K) rfl hu) (fun _ e => e ▸ s_eq) (v_var 1) v_str))))))
      (vs_one (v_set 2 sc.nd (v_ix (K := K) (v_var 0) v_int)))
      (vs_one (v_set 2 sc.nd v_non)))))
    (vs_one (v_ret (v_if (vt_cmp op_isN2 (fun _ _ => s_isN) (v_var 2) v_non) (v_lst vds_nil) (v_lst (vds_cons (v_var 2) vds_nil)))))))))), m, F'.kp, F'.binds (ps := ["tree"]) fun _ _ _ _ _ _ us hl => match us, hl with | [_], _ => rfl⟩
/-! ### deed_of -/
abbrev tx_deed_of : Stmt := top 52
theorem sc_deed_of : FnScope ["tree", "word"] ["tree"] (defScope tx_deed_of) := ⟨rfl, rfl, rfl, by decide +kernel, rfl, by decide +kernel, by decide +kernel⟩
def f_deed_of : SF :=
    (sSeq (sSet 1 (vBin oIx (vVar 0) (vC (.int 0))))
    (sSeq (sIf (bOr (bVal (vBin oEq (vVar 1) (vC (.str "set")))) (bVal (vBin oEq (vVar 1) (vC (.str "take")))))
      (sRet (vTup (vConsD (vTake (vVar 1)) (vConsD (vTake (vBin oIx (vVar 0) (vC (.int 1)))) vNilD))))
      sNil)
    (sSeq (sIf (bVal (vBin oEq (vVar 1) (vC (.str "go"))))
      (sRet (vTup (vConsD (vTake (vIf (bVal (vBin oIsN (vBin oIx (vVar 0) (vC (.int 2))) (vC .non))) (vC (.str "go")) (vC (.str "if")))) (vConsD (vTake (vBin oIx (vVar 0) (vC (.int 1)))) vNilD))))
      sNil)
    (sSeq (sIf (bVal (vBin oEq (vVar 1) (vC (.str "call"))))
      (sRet (vTup (vConsD (vTake (vC (.str "call"))) (vConsD (vTake (vTup (vConsD (vTake (vBin oIx (vVar 0) (vC (.int 1)))) (vConsD (vTake (vCallB oLen (vConsH (vBin oIx (vVar 0) (vC (.int 2))) vNilH))) (vConsD (vTake (vBin oIx (vVar 0) (vC (.int 3)))) vNilD))))) vNilD))))
      sNil)
    (sSeq (sIf (bVal (vBin oEq (vVar 1) (vC (.str "back"))))
      (sRet (vTup (vConsD (vTake (vC (.str "back"))) (vConsD (vTake (vIf (bVal (vBin oIsN (vBin oIx (vVar 0) (vC (.int 1))) (vC .non))) (vC (.int 0)) (vC (.int 1)))) vNilD))))
      sNil)
    (sSeq (sIf (bVal (vBin oEq (vVar 1) (vC (.str "hear"))))
      (sRet (vTup (vConsD (vTake (vC (.str "hear"))) (vConsD (vTake (vTup (vConsD (vTake (vBin oIx (vVar 0) (vC (.int 1)))) (vConsD (vTake (vBin oIx (vVar 0) (vC (.int 2)))) vNilD)))) vNilD))))
      sNil)
    (sRet (vTup (vConsD (vTake (vVar 1)) (vConsD (vTake (vC .non)) vNilD))))))))))
def F_deed_of : FF := defF 2 1 f_deed_of
theorem df_deed_of (g : Gb mg K w) (F' : Fun K "deed_of" "deed_of" tx_deed_of f fd) (m : mg "deed_of" = some (.ref f))  : Df P w K mg base 1 "deed_of" ["tree"] F_deed_of :=
  ⟨f, fd, fnV F' sc_deed_of (fun cdv A outer s H E hr => VSs.ex (have hu := hr.units; have sc := sc_deed_of;
    (vs_cons (v_set 1 sc.nd (v_ix (K := K) (v_var 0) v_int))
    (vs_cons (v_ifS (vw_t (vw_or (vt_cmp (op_eqK (K := K) rfl hu) (fun _ e => e ▸ s_eq) (v_var 1) v_str) (vw_or1 (vt_cmp (op_eqK (K := K) rfl hu) (fun _ e => e ▸ s_eq) (v_var 1) v_str))))
      (vs_one (v_ret (v_tup (vds_cons (v_var 1) (vds_cons (v_ix (K := K) (v_var 0) v_int) vds_nil)))))
      vs_nil)
    (vs_cons (v_ifS (vt_cmp (op_eqK (K := K) rfl hu) (fun _ e => e ▸ s_eq) (v_var 1) v_str)
      (vs_one (v_ret (v_tup (vds_cons (v_if (vt_cmp op_isN2 (fun _ _ => s_isN) (v_ix (K := K) (v_var 0) v_int) v_non) v_str v_str) (vds_cons (v_ix (K := K) (v_var 0) v_int) vds_nil)))))
      vs_nil)
    (vs_cons (v_ifS (vt_cmp (op_eqK (K := K) rfl hu) (fun _ e => e ▸ s_eq) (v_var 1) v_str)
      (vs_one (v_ret (v_tup (vds_cons v_str (vds_cons (v_tup (vds_cons (v_ix (K := K) (v_var 0) v_int) (vds_cons (v_callB (call_lenK2 (K := K) rfl) (fun _ e => e ▸ s_len) PySem.boot_len g.b_len (vhs_cons (v_ix (K := K) (v_var 0) v_int) vhs_nil)) (vds_cons (v_ix (K := K) (v_var 0) v_int) vds_nil)))) vds_nil)))))
      vs_nil)
    (vs_cons (v_ifS (vt_cmp (op_eqK (K := K) rfl hu) (fun _ e => e ▸ s_eq) (v_var 1) v_str)
      (vs_one (v_ret (v_tup (vds_cons v_str (vds_cons (v_if (vt_cmp op_isN2 (fun _ _ => s_isN) (v_ix (K := K) (v_var 0) v_int) v_non) v_int v_int) vds_nil)))))
      vs_nil)
    (vs_cons (v_ifS (vt_cmp (op_eqK (K := K) rfl hu) (fun _ e => e ▸ s_eq) (v_var 1) v_str)
      (vs_one (v_ret (v_tup (vds_cons v_str (vds_cons (v_tup (vds_cons (v_ix (K := K) (v_var 0) v_int) (vds_cons (v_ix (K := K) (v_var 0) v_int) vds_nil))) vds_nil)))))
      vs_nil)
    (vs_one (v_ret (v_tup (vds_cons (v_var 1) (vds_cons v_non vds_nil))))))))))))), m, F'.kp, F'.binds (ps := ["tree"]) fun _ _ _ _ _ _ us hl => match us, hl with | [_], _ => rfl⟩
/-! ### compile_code -/
abbrev tx_compile_code : Stmt := top 53
theorem sc_compile_code : FnScope ["text", "tree", "found", "expression", "places", "op", "argument", "place"] ["text"] (defScope tx_compile_code) := ⟨rfl, rfl, rfl, by decide +kernel, rfl, by decide +kernel, by decide +kernel⟩
def f_compile_code : SF :=
    (sSeq (sSet 1 (vCall F_read_code (vConsH (vVar 0) vNilH)))
    (sSeq (sIf (bVal (vBin oEq (vBin oIx (vVar 1) (vC (.int 0))) (vC (.str "broken"))))
      sNever
      sNil)
    (sSeq (sSet 2 (vLst vNilD))
    (sSeq (sFor (iSeq (vCall F_expressions_in (vConsH (vVar 1) vNilH))) (gN 3)
      (sDrop (vCall (F_put_expression 40) (vConsH (vVar 3) (vConsH (vVar 2) vNilH)))))
    (sSeq (sDrop (vMt 2 "list" mAppend (vConsD (vTake (vCall F_deed_of (vConsH (vVar 1) vNilH))) vNilD)))
    (sSeq (sSet 4 (vCall F_columns_of (vConsH (vVar 0) vNilH)))
    (sRet (vLc (iZipD (vConsD (vTake (vVar 2)) (vConsD (vTake (vVar 4)) vNilD))) (gT 2 (gConsF (gT 2 (gConsF (gN 5) (gConsF (gN 6) gNilF))) (gConsF (gN 7) gNilF))) bYes (vTake (vTup (vConsD (vTake (vVar 5)) (vConsD (vTake (vVar 6)) (vConsD (vTake (vBin oIx (vVar 7) (vC (.int 0)))) (vConsD (vTake (vBin oIx (vVar 7) (vC (.int 1)))) vNilD)))))) [5, 6, 7]))))))))
def F_compile_code : FF := defF 8 1 f_compile_code
theorem df_compile_code (g : Gb mg K w) (F' : Fun K "compile_code" "compile_code" tx_compile_code f fd) (m : mg "compile_code" = some (.ref f)) (d_read_code : Df P w K mg base 8 "read_code" ["text"] F_read_code) (d_expressions_in : Df P w K mg base 1 "expressions_in" ["tree"] F_expressions_in) (d_put_expression : Df P w K mg base 40 "put_expression" ["tree", "found"] (F_put_expression 40)) (d_deed_of : Df P w K mg base 1 "deed_of" ["tree"] F_deed_of) (d_columns_of : Df P w K mg base 8 "columns_of" ["text"] F_columns_of) : Df P w K mg base 41 "compile_code" ["text"] F_compile_code :=
  ⟨f, fd, fnV F' sc_compile_code (fun cdv A outer s H E hr => VSs.ex (have hu := hr.units; have sc := sc_compile_code;
    (vs_cons (v_set 1 sc.nd (v_call d_read_code hr (vhs_cons (v_var 0) vhs_nil)))
    (vs_cons (v_ifS (vt_cmp (op_eqK (K := K) rfl hu) (fun _ e => e ▸ s_eq) (v_ix (K := K) (v_var 1) v_int) v_str)
      (vs_one v_never)
      vs_nil)
    (vs_cons (v_set 2 sc.nd (v_lst vds_nil))
    (vs_cons (v_for (vi_seq (K := K) (v_call d_expressions_in hr (vhs_cons (v_var 1) vhs_nil))) (vg_name 3 sc.nd)
      (vs_one (v_expr (v_call d_put_expression hr (vhs_cons (v_var 3) (vhs_cons (v_var 2) vhs_nil))))))
    (vs_cons (v_expr (v_append 2 (v_var 2) (v_call d_deed_of hr (vhs_cons (v_var 1) vhs_nil))))
    (vs_cons (v_set 4 sc.nd (v_call d_columns_of hr (vhs_cons (v_var 0) vhs_nil)))
    (vs_one (v_ret (v_lc [("op", 5), ("argument", 6), ("place", 7)] sc.nd (vi_zip g.b_zip (vds_cons (v_var 2) (vds_cons (v_var 4) vds_nil))) (by kernel_rfl) (fun _ _ _ _ _ => (vg_tup (K := K) (vgs_cons (vg_tup (K := K) (vgs_cons (vg_name 5 sc.nd) (vgs_cons (vg_name 6 sc.nd) vgs_nil))) (vgs_cons (vg_name 7 sc.nd) vgs_nil)))) (fun _ _ _ _ _ => by exact vts_nil) (fun _ _ _ _ _ => by exact (v_tup (vds_cons (v_var 5) (vds_cons (v_var 6) (vds_cons (v_ix (K := K) (v_var 7) v_int) (vds_cons (v_ix (K := K) (v_var 7) v_int) vds_nil))))))))))))))))), m, F'.kp, F'.binds (ps := ["text"]) fun _ _ _ _ _ _ us hl => match us, hl with | [_], _ => rfl⟩
/-! ### _law_source -/
abbrev tx_source : Stmt := top 55
theorem sc_source : FnScope ["script", "at", "cell", "size", "small", "one"] ["script", "at"] (defScope tx_source) := ⟨rfl, rfl, rfl, by decide +kernel, rfl, by decide +kernel, by decide +kernel⟩
def f_source : SF :=
    (sSeq (sSet 2 (vIf (bVal (vBin oLt (vVar 1) (vCallB oLen (vConsH (vVar 0) vNilH)))) (vCallB oInt (vConsH (vBin oIx (vVar 0) (vVar 1)) vNilH)) (vBin oAdd (vBin oMul (vC (.int 41)) (vCallB oSum (vConsH (vLc (iSeq (vSl (vVar 0) vNoP (vP (vC (.int 6))))) (gN 5) bYes (vTake (vBin oMod (vCallB oInt (vConsH (vVar 5) vNilH)) (vC (.int 999961)))) [5]) vNilH))) (vC (.int 29)))))
    (sSeq (sSet 3 (vBin oMod (vCallB oAbs (vConsH (vVar 2) vNilH)) (vBin oMul (vBin oPow (vC (.int 10)) (vC (.int 60))) (vBin oPow (vC (.int 10)) (vC (.int 60))))))
    (sSeq (sSet 4 (vBin oMod (vCallB oInt (vConsH (vBin oAdd (vBin oAdd (vBin oAdd (vBin oMul (vC (.int 2)) (vVar 3)) (vIf (bVal (vBin oLt (vVar 2) (vC (.int 0)))) (vC (.int 1)) (vC (.int 0)))) (vBin oMul (vVar 1) (vC (.int 120011)))) (vC (.int 70019))) vNilH)) (vC (.int 2147483629))))
    (sRet (vLst (vConsD (vTake (vIf (bVal (vBin oGe (vVar 3) (vBin oPow (vC (.int 10)) (vC (.int 18))))) (vVar 3) (vC (.int 0)))) (vConsD (vTake (vBin oMod (vCallB oInt (vConsH (vBin oMul (vBin oAdd (vVar 4) (vC (.int 6101))) (vBin oAdd (vVar 4) (vC (.int 90011)))) vNilH)) (vC (.int 2147483629)))) (vConsD (vTake (vVar 1)) vNilD))))))))
def F_source : FF := defF 6 2 f_source
theorem df_source (g : Gb mg K w) (F' : Fun K "_law_source" "_law_source" tx_source f fd) (m : mg "_law_source" = some (.ref f))  : Df P w K mg base 1 "_law_source" ["script", "at"] F_source :=
  ⟨f, fd, fnV F' sc_source (fun cdv A outer s H E hr => VSs.ex (have hu := hr.units; have sc := sc_source;
    (vs_cons (v_set 2 sc.nd (v_if (vt_cmp op_lt (fun _ _ => s_lt) (v_var 1) (v_callB (call_lenK2 (K := K) rfl) (fun _ e => e ▸ s_len) PySem.boot_len g.b_len (vhs_cons (v_var 0) vhs_nil))) (v_callTy call_intA (fun _ _ => s_int) PyProof.Rows.boot_int g.b_int (vhs_cons (v_ix (K := K) (v_var 0) (v_var 1)) vhs_nil)) (v_add (K := K) (v_mul v_int (v_callB (call_sumK (K := K) rfl rfl) (fun _ e => e ▸ s_sum) boot_sum g.b_sum (vhs_cons (v_lc [("one", 5)] sc.nd (vi_seq (K := K) (v_sl (K := K) (v_var 0) vo_none (vo_some v_int))) (by kernel_rfl) (fun _ _ _ _ _ => (vg_name 5 sc.nd)) (fun _ _ _ _ _ => by exact vts_nil) (fun _ _ _ _ _ => by exact (v_mod (v_callTy call_intA (fun _ _ => s_int) PyProof.Rows.boot_int g.b_int (vhs_cons (v_var 5) vhs_nil)) v_int))) vhs_nil))) v_int)))
    (vs_cons (v_set 3 sc.nd (v_mod (v_callB call_abs (fun _ _ => s_abs) boot_abs g.b_abs (vhs_cons (v_var 2) vhs_nil)) (v_mul (v_pow v_int v_int) (v_pow v_int v_int))))
    (vs_cons (v_set 4 sc.nd (v_mod (v_callTy call_intA (fun _ _ => s_int) PyProof.Rows.boot_int g.b_int (vhs_cons (v_add (K := K) (v_add (K := K) (v_add (K := K) (v_mul v_int (v_var 3)) (v_if (vt_cmp op_lt (fun _ _ => s_lt) (v_var 2) v_int) v_int v_int)) (v_mul (v_var 1) v_int)) v_int) vhs_nil)) v_int))
    (vs_one (v_ret (v_lst (vds_cons (v_if (vt_cmp op_ge (fun _ _ => s_ge) (v_var 3) (v_pow v_int v_int)) (v_var 3) v_int) (vds_cons (v_mod (v_callTy call_intA (fun _ _ => s_int) PyProof.Rows.boot_int g.b_int (vhs_cons (v_mul (v_add (K := K) (v_var 4) v_int) (v_add (K := K) (v_var 4) v_int)) vhs_nil)) v_int) (vds_cons (v_var 1) vds_nil))))))))))), m, F'.kp, F'.binds (ps := ["script", "at"]) fun _ _ _ _ _ _ us hl => match us, hl with | [_, _], _ => rfl⟩
/-! ### _law_pick -/
abbrev tx_pick : Stmt := top 56
theorem sc_pick : FnScope ["source", "many", "found"] ["source", "many"] (defScope tx_pick) := ⟨rfl, rfl, rfl, by decide +kernel, rfl, by decide +kernel, by decide +kernel⟩
def f_pick : SF :=
    (sSeq (sIf (bVal (vBin oGt (vBin oIx (vVar 0) (vC (.int 0))) (vC (.int 0))))
      (sSeq (sSet 2 (vBin oMod (vCallB oInt (vConsH (vBin oIx (vVar 0) (vC (.int 0))) vNilH)) (vVar 1)))
    (sSeq (sSetIx 0 (vTake (vBin oDiv (vBin oIx (vVar 0) (vC (.int 0))) (vVar 1))) (vC (.int 0)))
    (sRet (vVar 2))))
      sNil)
    (sSeq (sAugIx 0 (vC (.int 2)) oAddI (vC (.int 1)))
    (sSeq (sSetIx 0 (vTake (vBin oMod (vCallB oInt (vConsH (vBin oAdd (vBin oMul (vBin oIx (vVar 0) (vC (.int 1))) (vC (.int 48271))) (vBin oMul (vBin oIx (vVar 0) (vC (.int 2))) (vC (.int 70001)))) vNilH)) (vC (.int 2147483647)))) (vC (.int 1)))
    (sRet (vBin oMod (vBin oDiv (vBin oMod (vCallB oInt (vConsH (vBin oAdd (vBin oMul (vBin oIx (vVar 0) (vC (.int 1))) (vC (.int 16807))) (vBin oMul (vBin oIx (vVar 0) (vC (.int 2))) (vC (.int 6301)))) vNilH)) (vC (.int 2147483629))) (vC (.int 8))) (vVar 1))))))
def F_pick : FF := defF 3 2 f_pick
theorem df_pick (g : Gb mg K w) (F' : Fun K "_law_pick" "_law_pick" tx_pick f fd) (m : mg "_law_pick" = some (.ref f))  : Df P w K mg base 1 "_law_pick" ["source", "many"] F_pick :=
  ⟨f, fd, fnV F' sc_pick (fun cdv A outer s H E hr => VSs.ex (have hu := hr.units; have sc := sc_pick;
    (vs_cons (v_ifS (vt_cmp op_gt (fun _ _ => s_gt) (v_ix (K := K) (v_var 0) v_int) v_int)
      (vs_cons (v_set 2 sc.nd (v_mod (v_callTy call_intA (fun _ _ => s_int) PyProof.Rows.boot_int g.b_int (vhs_cons (v_ix (K := K) (v_var 0) v_int) vhs_nil)) (v_var 1)))
    (vs_cons (v_setIx 0 (v_var 0) v_int (v_div (v_ix (K := K) (v_var 0) v_int) (v_var 1)))
    (vs_one (v_ret (v_var 2)))))
      vs_nil)
    (vs_cons (v_augIx 0 ip_add s_ipadd (v_var 0) v_int v_int)
    (vs_cons (v_setIx 0 (v_var 0) v_int (v_mod (v_callTy call_intA (fun _ _ => s_int) PyProof.Rows.boot_int g.b_int (vhs_cons (v_add (K := K) (v_mul (v_ix (K := K) (v_var 0) v_int) v_int) (v_mul (v_ix (K := K) (v_var 0) v_int) v_int)) vhs_nil)) v_int))
    (vs_one (v_ret (v_mod (v_div (v_mod (v_callTy call_intA (fun _ _ => s_int) PyProof.Rows.boot_int g.b_int (vhs_cons (v_add (K := K) (v_mul (v_ix (K := K) (v_var 0) v_int) v_int) (v_mul (v_ix (K := K) (v_var 0) v_int) v_int)) vhs_nil)) v_int) v_int) (v_var 1))))))))), m, F'.kp, F'.binds (ps := ["source", "many"]) fun _ _ _ _ _ _ us hl => match us, hl with | [_, _], _ => rfl⟩
/-! ### _law_same -/
abbrev tx_same : Stmt := top 57
theorem sc_same : FnScope ["answer", "due", "key", "at"] ["answer", "due"] (defScope tx_same) := ⟨rfl, rfl, rfl, by decide +kernel, rfl, by decide +kernel, by decide +kernel⟩
def f_same (F_same : FF) : SF :=
    (sSeq (sIf (bOr (bVal (vBin oIsN (vVar 1) (vC .non))) (bVal (vBin oIsN (vVar 0) (vC .non))))
      (sRet (vB (bAnd (bVal (vBin oIsN (vVar 1) (vC .non))) (bVal (vBin oIsN (vVar 0) (vC .non))))))
      sNil)
    (sSeq (sIf (bOr (bTru (vCallB oIsi (vConsH (vVar 1) (vConsH (vC (.opq (.ty "bool"))) vNilH)))) (bTru (vCallB oIsi (vConsH (vVar 0) (vConsH (vC (.opq (.ty "bool"))) vNilH)))))
      (sRet (vB (bAnd (bVal (vCallB oIsi (vConsH (vVar 1) (vConsH (vC (.opq (.ty "bool"))) vNilH)))) (bAnd (bVal (vCallB oIsi (vConsH (vVar 0) (vConsH (vC (.opq (.ty "bool"))) vNilH)))) (bVal (vBin oEq (vVar 0) (vVar 1)))))))
      sNil)
    (sSeq (sIf (bTru (vCallB oIsi (vConsH (vVar 1) (vConsH (vC (.opq (.ty "int"))) vNilH))))
      (sRet (vB (bAnd (bVal (vCallB oIsi (vConsH (vVar 0) (vConsH (vC (.opq (.ty "int"))) vNilH)))) (bVal (vBin oEq (vVar 0) (vVar 1))))))
      sNil)
    (sSeq (sIf (bTru (vCallB oIsi (vConsH (vVar 1) (vConsH (vC (.opq (.ty "str"))) vNilH))))
      (sRet (vB (bAnd (bVal (vCallB oIsi (vConsH (vVar 0) (vConsH (vC (.opq (.ty "str"))) vNilH)))) (bVal (vBin oEq (vVar 0) (vVar 1))))))
      sNil)
    (sSeq (sIf (bTru (vCallB oIsi (vConsH (vVar 1) (vConsH (vC (.opq (.ty "dict"))) vNilH))))
      (sSeq sNever
    sNever)
      sNil)
    (sSeq (sIf (bAnd (bTru (vCallB oIsi (vConsH (vVar 1) (vConsH (vC (.opq (.ty "tuple"))) vNilH)))) (bNot (bTru (vCallB oIsi (vConsH (vVar 0) (vConsH (vC (.opq (.ty "tuple"))) vNilH))))))
      (sRet (vC (.bl false)))
      sNil)
    (sSeq (sIf (bAnd (bTru (vCallB oIsi (vConsH (vVar 1) (vConsH (vC (.opq (.ty "list"))) vNilH)))) (bNot (bTru (vCallB oIsi (vConsH (vVar 0) (vConsH (vC (.opq (.ty "list"))) vNilH))))))
      (sRet (vC (.bl false)))
      sNil)
    (sRet (vB (bAnd (bVal (vBin oEq (vCallB oLen (vConsH (vVar 0) vNilH)) (vCallB oLen (vConsH (vVar 1) vNilH)))) (bVal (vCallB oAll (vConsH (vLc (iR1 (vConsH (vCallB oLen (vConsH (vVar 1) vNilH)) vNilH)) (gN 3) bYes (vTake (vCall F_same (vConsH (vBin oIx (vVar 0) (vVar 3)) (vConsH (vBin oIx (vVar 1) (vVar 3)) vNilH)))) [3]) vNilH)))))))))))))
def F_same : Nat → FF
  | 0 => fun _ => none
  | k + 1 => defF 4 2 (f_same (F_same k))
theorem st_same (g : Gb mg K w) (F' : Fun K "_law_same" "_law_same" tx_same f fd) (m : mg "_law_same" = some (.ref f)) {F : FF} {k : Nat} (hk : 0 ≤ k) (d_same : Df P w K mg base k "_law_same" ["answer", "due"] F) : Df P w K mg base (k + 1) "_law_same" ["answer", "due"] (defF 4 2 (f_same F)) :=
  ⟨f, fd, fnV F' sc_same (fun cdv A outer s H E hr => VSs.ex (have hu := hr.units; have sc := sc_same;
    (vs_cons (v_ifS (vw_t (vw_or (vt_cmp op_isN2 (fun _ _ => s_isN) (v_var 1) v_non) (vw_or1 (vt_cmp op_isN2 (fun _ _ => s_isN) (v_var 0) v_non))))
      (vs_one (v_ret (v_and (v_b (v_cmp op_isN2 (fun _ _ => s_isN) (v_var 1) v_non)) (v_one (v_b (v_cmp op_isN2 (fun _ _ => s_isN) (v_var 0) v_non))))))
      vs_nil)
    (vs_cons (v_ifS (vw_t (vw_or (vt_tru (K := K) (v_callB (call_isiK2 (K := K) rfl) (fun _ e => e ▸ s_isi) boot_isinstance g.b_isinstance (vhs_cons (v_var 1) (vhs_cons (v_ty g.b_bool PyProof.Rows.boot_bool) vhs_nil)))) (vw_or1 (vt_tru (K := K) (v_callB (call_isiK2 (K := K) rfl) (fun _ e => e ▸ s_isi) boot_isinstance g.b_isinstance (vhs_cons (v_var 0) (vhs_cons (v_ty g.b_bool PyProof.Rows.boot_bool) vhs_nil)))))))
      (vs_one (v_ret (v_and (v_b (v_callB (call_isiK2 (K := K) rfl) (fun _ e => e ▸ s_isi) boot_isinstance g.b_isinstance (vhs_cons (v_var 1) (vhs_cons (v_ty g.b_bool PyProof.Rows.boot_bool) vhs_nil)))) (v_and (v_b (v_callB (call_isiK2 (K := K) rfl) (fun _ e => e ▸ s_isi) boot_isinstance g.b_isinstance (vhs_cons (v_var 0) (vhs_cons (v_ty g.b_bool PyProof.Rows.boot_bool) vhs_nil)))) (v_one (v_b (v_cmp (op_eqK (K := K) rfl hu) (fun _ e => e ▸ s_eq) (v_var 0) (v_var 1))))))))
      vs_nil)
    (vs_cons (v_ifS (vt_tru (K := K) (v_callB (call_isiK2 (K := K) rfl) (fun _ e => e ▸ s_isi) boot_isinstance g.b_isinstance (vhs_cons (v_var 1) (vhs_cons (v_ty g.b_int PyProof.Rows.boot_int) vhs_nil))))
      (vs_one (v_ret (v_and (v_b (v_callB (call_isiK2 (K := K) rfl) (fun _ e => e ▸ s_isi) boot_isinstance g.b_isinstance (vhs_cons (v_var 0) (vhs_cons (v_ty g.b_int PyProof.Rows.boot_int) vhs_nil)))) (v_one (v_b (v_cmp (op_eqK (K := K) rfl hu) (fun _ e => e ▸ s_eq) (v_var 0) (v_var 1)))))))
      vs_nil)
    (vs_cons (v_ifS (vt_tru (K := K) (v_callB (call_isiK2 (K := K) rfl) (fun _ e => e ▸ s_isi) boot_isinstance g.b_isinstance (vhs_cons (v_var 1) (vhs_cons (v_ty g.b_str PyProof.Rows.boot_str) vhs_nil))))
      (vs_one (v_ret (v_and (v_b (v_callB (call_isiK2 (K := K) rfl) (fun _ e => e ▸ s_isi) boot_isinstance g.b_isinstance (vhs_cons (v_var 0) (vhs_cons (v_ty g.b_str PyProof.Rows.boot_str) vhs_nil)))) (v_one (v_b (v_cmp (op_eqK (K := K) rfl hu) (fun _ e => e ▸ s_eq) (v_var 0) (v_var 1)))))))
      vs_nil)
    (vs_cons (v_ifS (vt_tru (K := K) (v_callB (call_isiK2 (K := K) rfl) (fun _ e => e ▸ s_isi) boot_isinstance g.b_isinstance (vhs_cons (v_var 1) (vhs_cons (v_ty g.b_dict PyProof.Rows.boot_dict) vhs_nil))))
      (vs_cons v_never
    (vs_one v_never))
      vs_nil)
    (vs_cons (v_ifS (vw_t (vw_and (vt_tru (K := K) (v_callB (call_isiK2 (K := K) rfl) (fun _ e => e ▸ s_isi) boot_isinstance g.b_isinstance (vhs_cons (v_var 1) (vhs_cons (v_ty g.b_tuple PyProof.Rows.boot_tuple) vhs_nil)))) (vw_and1 (vt_not (vt_tru (K := K) (v_callB (call_isiK2 (K := K) rfl) (fun _ e => e ▸ s_isi) boot_isinstance g.b_isinstance (vhs_cons (v_var 0) (vhs_cons (v_ty g.b_tuple PyProof.Rows.boot_tuple) vhs_nil))))))))
      (vs_one (v_ret v_bl))
      vs_nil)
    (vs_cons (v_ifS (vw_t (vw_and (vt_tru (K := K) (v_callB (call_isiK2 (K := K) rfl) (fun _ e => e ▸ s_isi) boot_isinstance g.b_isinstance (vhs_cons (v_var 1) (vhs_cons (v_ty g.b_list PyProof.Rows.boot_list) vhs_nil)))) (vw_and1 (vt_not (vt_tru (K := K) (v_callB (call_isiK2 (K := K) rfl) (fun _ e => e ▸ s_isi) boot_isinstance g.b_isinstance (vhs_cons (v_var 0) (vhs_cons (v_ty g.b_list PyProof.Rows.boot_list) vhs_nil))))))))
      (vs_one (v_ret v_bl))
      vs_nil)
    (vs_one (v_ret (v_and (v_b (v_cmp (op_eqK (K := K) rfl hu) (fun _ e => e ▸ s_eq) (v_callB (call_lenK2 (K := K) rfl) (fun _ e => e ▸ s_len) PySem.boot_len g.b_len (vhs_cons (v_var 0) vhs_nil)) (v_callB (call_lenK2 (K := K) rfl) (fun _ e => e ▸ s_len) PySem.boot_len g.b_len (vhs_cons (v_var 1) vhs_nil)))) (v_one (v_b (v_callB (call_allK (K := K) rfl rfl) (fun _ e => e ▸ s_all) boot_all g.b_all (vhs_cons (v_lc [("at", 3)] sc.nd (vi_r1 g.b_range (vhs_cons (v_callB (call_lenK2 (K := K) rfl) (fun _ e => e ▸ s_len) PySem.boot_len g.b_len (vhs_cons (v_var 1) vhs_nil)) vhs_nil)) (by kernel_rfl) (fun _ _ _ _ _ => (vg_name 3 sc.nd)) (fun _ _ _ _ _ => by exact vts_nil) (fun _ _ _ _ _ => by exact (v_call d_same hr (vhs_cons (v_ix (K := K) (v_var 0) (v_var 3)) (vhs_cons (v_ix (K := K) (v_var 1) (v_var 3)) vhs_nil))))) vhs_nil)))))))))))))))), m, F'.kp, F'.binds (ps := ["answer", "due"]) fun _ _ _ _ _ _ us hl => match us, hl with | [_, _], _ => rfl⟩
theorem df_same (g : Gb mg K w) (F' : Fun K "_law_same" "_law_same" tx_same f fd) (m : mg "_law_same" = some (.ref f))  : ∀ k, Df P w K mg base (0 + k) "_law_same" ["answer", "due"] (F_same k)
  | 0 => ⟨f, fd, fn_none (fun _ => rfl), m, F'.kp, F'.binds (ps := ["answer", "due"]) fun _ _ _ _ _ _ us hl => match us, hl with | [_, _], _ => rfl⟩
  | k + 1 => st_same (k := 0 + k) g F' m (by omega) (df_same g F' m  k)
/-! ### _law_big -/
abbrev tx_big : Stmt := top 58
theorem sc_big : FnScope ["source", "many", "text", "k"] ["source"] (defScope tx_big) := ⟨rfl, rfl, rfl, by decide +kernel, rfl, by decide +kernel, by decide +kernel⟩
def f_big : SF :=
    (sSeq (sSet 1 (vBin oIx (vLst (vConsD (vTake (vC (.int 1))) (vConsD (vTake (vC (.int 1))) (vConsD (vTake (vC (.int 2))) (vConsD (vTake (vC (.int 3))) (vConsD (vTake (vC (.int 30))) (vConsD (vTake (vBin oAdd (vC (.int 1)) (vCall F_pick (vConsH (vVar 0) (vConsH (vC (.int 30)) vNilH))))) vNilD))))))) (vCall F_pick (vConsH (vVar 0) (vConsH (vC (.int 6)) vNilH)))))
    (sSeq (sSet 2 (vBin oAdd (vCallB oStr (vConsH (vBin oAdd (vC (.int 1)) (vCall F_pick (vConsH (vVar 0) (vConsH (vC (.int 9)) vNilH)))) vNilH)) (vJoin (vC (.str "")) (vLc (iR1 (vConsH (vBin oSub (vVar 1) (vC (.int 1))) vNilH)) (gN 3) bYes (vTake (vCallB oStr (vConsH (vCall F_pick (vConsH (vVar 0) (vConsH (vC (.int 10)) vNilH))) vNilH))) [3]))))
    (sRet (vIf (bVal (vBin oGt (vCall F_pick (vConsH (vVar 0) (vConsH (vC (.int 8)) vNilH))) (vC (.int 0)))) (vCallB oInt (vConsH (vVar 2) vNilH)) (vC (.int 0))))))
def F_big : FF := defF 4 1 f_big
theorem df_big (g : Gb mg K w) (F' : Fun K "_law_big" "_law_big" tx_big f fd) (m : mg "_law_big" = some (.ref f)) (d_pick : Df P w K mg base 1 "_law_pick" ["source", "many"] F_pick) : Df P w K mg base 2 "_law_big" ["source"] F_big :=
  ⟨f, fd, fnV F' sc_big (fun cdv A outer s H E hr => VSs.ex (have hu := hr.units; have sc := sc_big;
    (vs_cons (v_set 1 sc.nd (v_ix (K := K) (v_lst (vds_cons v_int (vds_cons v_int (vds_cons v_int (vds_cons v_int (vds_cons v_int (vds_cons (v_add (K := K) v_int (v_call d_pick hr (vhs_cons (v_var 0) (vhs_cons v_int vhs_nil)))) vds_nil))))))) (v_call d_pick hr (vhs_cons (v_var 0) (vhs_cons v_int vhs_nil)))))
    (vs_cons (v_set 2 sc.nd (v_add (K := K) (v_callTy call_str_int (fun _ _ => s_str) PyProof.Rows.boot_str g.b_str (vhs_cons (v_add (K := K) v_int (v_call d_pick hr (vhs_cons (v_var 0) (vhs_cons v_int vhs_nil)))) vhs_nil)) (v_join (K := K) v_str (v_lc [("k", 3)] sc.nd (vi_r1 g.b_range (vhs_cons (v_sub (v_var 1) v_int) vhs_nil)) (by kernel_rfl) (fun _ _ _ _ _ => (vg_name 3 sc.nd)) (fun _ _ _ _ _ => by exact vts_nil) (fun _ _ _ _ _ => by exact (v_callTy call_str_int (fun _ _ => s_str) PyProof.Rows.boot_str g.b_str (vhs_cons (v_call d_pick hr (vhs_cons (v_var 0) (vhs_cons v_int vhs_nil))) vhs_nil)))))))
    (vs_one (v_ret (v_if (vt_cmp op_gt (fun _ _ => s_gt) (v_call d_pick hr (vhs_cons (v_var 0) (vhs_cons v_int vhs_nil))) v_int) (v_callTy call_intA (fun _ _ => s_int) PyProof.Rows.boot_int g.b_int (vhs_cons (v_var 2) vhs_nil)) v_int))))))), m, F'.kp, F'.binds (ps := ["source"]) fun _ _ _ _ _ _ us hl => match us, hl with | [_], _ => rfl⟩
/-! ### _law_stem -/
abbrev tx_stem : Stmt := top 59
theorem sc_stem : FnScope ["source", "most", "letters", "k"] ["source", "most"] (defScope tx_stem) := ⟨rfl, rfl, rfl, by decide +kernel, rfl, by decide +kernel, by decide +kernel⟩
def f_stem : SF :=
    (sSeq (sSet 2 (vC (.str "abcdefghijklmnopqrstuvwxyz0123456789")))
    (sSeq (sIf (bVal (vBin oEq (vCall F_pick (vConsH (vVar 0) (vConsH (vC (.int 8)) vNilH))) (vC (.int 0))))
      (sRet (vBin oIx (vLst (vConsD (vTake (vC (.str "if"))) (vConsD (vTake (vC (.str "as"))) (vConsD (vTake (vC (.str "set"))) (vConsD (vTake (vC (.str "back"))) (vConsD (vTake (vC (.str "go"))) (vConsD (vTake (vC (.str "a"))) (vConsD (vTake (vC (.str "d"))) (vConsD (vTake (vC (.str "rem"))) vNilD))))))))) (vCall F_pick (vConsH (vVar 0) (vConsH (vC (.int 8)) vNilH)))))
      sNil)
    (sRet (vBin oAdd (vBin oIx (vVar 2) (vCall F_pick (vConsH (vVar 0) (vConsH (vC (.int 26)) vNilH)))) (vJoin (vC (.str "")) (vLc (iR1 (vConsH (vCall F_pick (vConsH (vVar 0) (vConsH (vVar 1) vNilH))) vNilH)) (gN 3) bYes (vTake (vBin oIx (vVar 2) (vCall F_pick (vConsH (vVar 0) (vConsH (vC (.int 36)) vNilH))))) [3]))))))
def F_stem : FF := defF 4 2 f_stem
theorem df_stem (g : Gb mg K w) (F' : Fun K "_law_stem" "_law_stem" tx_stem f fd) (m : mg "_law_stem" = some (.ref f)) (d_pick : Df P w K mg base 1 "_law_pick" ["source", "many"] F_pick) : Df P w K mg base 2 "_law_stem" ["source", "most"] F_stem :=
  ⟨f, fd, fnV F' sc_stem (fun cdv A outer s H E hr => VSs.ex (have hu := hr.units; have sc := sc_stem;
    (vs_cons (v_set 2 sc.nd v_str)
    (vs_cons (v_ifS (vt_cmp (op_eqK (K := K) rfl hu) (fun _ e => e ▸ s_eq) (v_call d_pick hr (vhs_cons (v_var 0) (vhs_cons v_int vhs_nil))) v_int)
      (vs_one (v_ret (v_ix (K := K) (v_lst (vds_cons v_str (vds_cons v_str (vds_cons v_str (vds_cons v_str (vds_cons v_str (vds_cons v_str (vds_cons v_str (vds_cons v_str vds_nil))))))))) (v_call d_pick hr (vhs_cons (v_var 0) (vhs_cons v_int vhs_nil))))))
      vs_nil)
    (vs_one (v_ret (v_add (K := K) (v_ix (K := K) (v_var 2) (v_call d_pick hr (vhs_cons (v_var 0) (vhs_cons v_int vhs_nil)))) (v_join (K := K) v_str (v_lc [("k", 3)] sc.nd (vi_r1 g.b_range (vhs_cons (v_call d_pick hr (vhs_cons (v_var 0) (vhs_cons (v_var 1) vhs_nil))) vhs_nil)) (by kernel_rfl) (fun _ _ _ _ _ => (vg_name 3 sc.nd)) (fun _ _ _ _ _ => by exact vts_nil) (fun _ _ _ _ _ => by exact (v_ix (K := K) (v_var 2) (v_call d_pick hr (vhs_cons (v_var 0) (vhs_cons v_int vhs_nil)))))))))))))), m, F'.kp, F'.binds (ps := ["source", "most"]) fun _ _ _ _ _ _ us hl => match us, hl with | [_, _], _ => rfl⟩
/-! ### _law_variable -/
abbrev tx_variable : Stmt := top 60
theorem sc_variable : FnScope ["source"] ["source"] (defScope tx_variable) := ⟨rfl, rfl, rfl, by decide +kernel, rfl, by decide +kernel, by decide +kernel⟩
def f_variable : SF :=
    (sRet (vBin oAdd (vBin oIx (vLst (vConsD (vTake (vC (.str ""))) (vConsD (vTake (vC (.str ""))) (vConsD (vTake (vC (.str "@"))) vNilD)))) (vCall F_pick (vConsH (vVar 0) (vConsH (vC (.int 3)) vNilH)))) (vCall F_stem (vConsH (vVar 0) (vConsH (vC (.int 8)) vNilH)))))
def F_variable : FF := defF 1 1 f_variable
theorem df_variable (g : Gb mg K w) (F' : Fun K "_law_variable" "_law_variable" tx_variable f fd) (m : mg "_law_variable" = some (.ref f)) (d_pick : Df P w K mg base 1 "_law_pick" ["source", "many"] F_pick) (d_stem : Df P w K mg base 2 "_law_stem" ["source", "most"] F_stem) : Df P w K mg base 3 "_law_variable" ["source"] F_variable :=
  ⟨f, fd, fnV F' sc_variable (fun cdv A outer s H E hr => VSs.ex (have hu := hr.units; have sc := sc_variable;
    (vs_one (v_ret (v_add (K := K) (v_ix (K := K) (v_lst (vds_cons v_str (vds_cons v_str (vds_cons v_str vds_nil)))) (v_call d_pick hr (vhs_cons (v_var 0) (vhs_cons v_int vhs_nil)))) (v_call d_stem hr (vhs_cons (v_var 0) (vhs_cons v_int vhs_nil)))))))), m, F'.kp, F'.binds (ps := ["source"]) fun _ _ _ _ _ _ us hl => match us, hl with | [_], _ => rfl⟩
/-! ### _law_grown -/
abbrev tx_grown : Stmt := top 61
theorem sc_grown : FnScope ["source", "depth", "kind", "sign", "left"] ["source", "depth"] (defScope tx_grown) := ⟨rfl, rfl, rfl, by decide +kernel, rfl, by decide +kernel, by decide +kernel⟩
def f_grown (F_grown : FF) : SF :=
    (sSeq (sSet 2 (vCall F_pick (vConsH (vVar 0) (vConsH (vC (.int 11)) vNilH))))
    (sSeq (sIf (bOr (bVal (vBin oEq (vVar 1) (vC (.int 0)))) (bVal (vBin oLt (vVar 2) (vC (.int 2)))))
      (sRet (vIf (bVal (vBin oEq (vCall F_pick (vConsH (vVar 0) (vConsH (vC (.int 2)) vNilH))) (vC (.int 0)))) (vTup (vConsD (vTake (vC (.str "number"))) (vConsD (vTake (vCall F_big (vConsH (vVar 0) vNilH))) vNilD))) (vTup (vConsD (vTake (vC (.str "name"))) (vConsD (vTake (vCall F_variable (vConsH (vVar 0) vNilH))) vNilD)))))
      sNil)
    (sSeq (sIf (bVal (vBin oLt (vVar 2) (vC (.int 4))))
      (sRet (vTup (vConsD (vTake (vC (.str "minus"))) (vConsD (vTake (vCall F_grown (vConsH (vVar 0) (vConsH (vBin oSub (vVar 1) (vC (.int 1))) vNilH)))) vNilD))))
      sNil)
    (sSeq (sSet 3 (vBin oIx (vLst (vConsD (vTake (vC (.str "+"))) (vConsD (vTake (vC (.str "-"))) (vConsD (vTake (vC (.str "*"))) (vConsD (vTake (vC (.str "/"))) (vConsD (vTake (vC (.str "<"))) (vConsD (vTake (vC (.str "="))) (vConsD (vTake (vC (.str ">"))) vNilD)))))))) (vBin oSub (vVar 2) (vC (.int 4)))))
    (sSeq (sSet 4 (vCall F_grown (vConsH (vVar 0) (vConsH (vBin oSub (vVar 1) (vC (.int 1))) vNilH))))
    (sRet (vTup (vConsD (vTake (vVar 3)) (vConsD (vTake (vVar 4)) (vConsD (vTake (vCall F_grown (vConsH (vVar 0) (vConsH (vBin oSub (vVar 1) (vC (.int 1))) vNilH)))) vNilD))))))))))
def F_grown : Nat → FF
  | 0 => fun _ => none
  | k + 1 => defF 5 2 (f_grown (F_grown k))
theorem st_grown (g : Gb mg K w) (F' : Fun K "_law_grown" "_law_grown" tx_grown f fd) (m : mg "_law_grown" = some (.ref f)) {F : FF} {k : Nat} (hk : 3 ≤ k) (d_pick : Df P w K mg base 1 "_law_pick" ["source", "many"] F_pick) (d_big : Df P w K mg base 2 "_law_big" ["source"] F_big) (d_variable : Df P w K mg base 3 "_law_variable" ["source"] F_variable) (d_grown : Df P w K mg base k "_law_grown" ["source", "depth"] F) : Df P w K mg base (k + 1) "_law_grown" ["source", "depth"] (defF 5 2 (f_grown F)) :=
  ⟨f, fd, fnV F' sc_grown (fun cdv A outer s H E hr => VSs.ex (have hu := hr.units; have sc := sc_grown;
    (vs_cons (v_set 2 sc.nd (v_call d_pick hr (vhs_cons (v_var 0) (vhs_cons v_int vhs_nil))))
    (vs_cons (v_ifS (vw_t (vw_or (vt_cmp (op_eqK (K := K) rfl hu) (fun _ e => e ▸ s_eq) (v_var 1) v_int) (vw_or1 (vt_cmp op_lt (fun _ _ => s_lt) (v_var 2) v_int))))
      (vs_one (v_ret (v_if (vt_cmp (op_eqK (K := K) rfl hu) (fun _ e => e ▸ s_eq) (v_call d_pick hr (vhs_cons (v_var 0) (vhs_cons v_int vhs_nil))) v_int) (v_tup (vds_cons v_str (vds_cons (v_call d_big hr (vhs_cons (v_var 0) vhs_nil)) vds_nil))) (v_tup (vds_cons v_str (vds_cons (v_call d_variable hr (vhs_cons (v_var 0) vhs_nil)) vds_nil))))))
      vs_nil)
    (vs_cons (v_ifS (vt_cmp op_lt (fun _ _ => s_lt) (v_var 2) v_int)
      (vs_one (v_ret (v_tup (vds_cons v_str (vds_cons (v_call d_grown hr (vhs_cons (v_var 0) (vhs_cons (v_sub (v_var 1) v_int) vhs_nil))) vds_nil)))))
      vs_nil)
    (vs_cons (v_set 3 sc.nd (v_ix (K := K) (v_lst (vds_cons v_str (vds_cons v_str (vds_cons v_str (vds_cons v_str (vds_cons v_str (vds_cons v_str (vds_cons v_str vds_nil)))))))) (v_sub (v_var 2) v_int)))
    (vs_cons (v_set 4 sc.nd (v_call d_grown hr (vhs_cons (v_var 0) (vhs_cons (v_sub (v_var 1) v_int) vhs_nil))))
    (vs_one (v_ret (v_tup (vds_cons (v_var 3) (vds_cons (v_var 4) (vds_cons (v_call d_grown hr (vhs_cons (v_var 0) (vhs_cons (v_sub (v_var 1) v_int) vhs_nil))) vds_nil))))))))))))), m, F'.kp, F'.binds (ps := ["source", "depth"]) fun _ _ _ _ _ _ us hl => match us, hl with | [_, _], _ => rfl⟩
theorem df_grown (g : Gb mg K w) (F' : Fun K "_law_grown" "_law_grown" tx_grown f fd) (m : mg "_law_grown" = some (.ref f)) (d_pick : Df P w K mg base 1 "_law_pick" ["source", "many"] F_pick) (d_big : Df P w K mg base 2 "_law_big" ["source"] F_big) (d_variable : Df P w K mg base 3 "_law_variable" ["source"] F_variable) : ∀ k, Df P w K mg base (3 + k) "_law_grown" ["source", "depth"] (F_grown k)
  | 0 => ⟨f, fd, fn_none (fun _ => rfl), m, F'.kp, F'.binds (ps := ["source", "depth"]) fun _ _ _ _ _ _ us hl => match us, hl with | [_, _], _ => rfl⟩
  | k + 1 => st_grown (k := 3 + k) g F' m (by omega) d_pick d_big d_variable (df_grown g F' m d_pick d_big d_variable k)
/-! ### _law_chain -/
abbrev tx_chain : Stmt := top 62
theorem sc_chain : FnScope ["source", "many", "tree", "k", "leaf", "sign"] ["source", "many"] (defScope tx_chain) := ⟨rfl, rfl, rfl, by decide +kernel, rfl, by decide +kernel, by decide +kernel⟩
def f_chain : SF :=
    (sSeq (sSet 2 (vTup (vConsD (vTake (vC (.str "name"))) (vConsD (vTake (vCall F_variable (vConsH (vVar 0) vNilH))) vNilD))))
    (sSeq (sFor (iR1 (vConsH (vVar 1) vNilH)) (gN 3)
      (sSeq (sSet 4 (vTup (vConsD (vTake (vC (.str "number"))) (vConsD (vTake (vCall F_pick (vConsH (vVar 0) (vConsH (vC (.int 100)) vNilH)))) vNilD))))
    (sSeq (sSet 5 (vBin oIx (vLst (vConsD (vTake (vC (.str "minus"))) (vConsD (vTake (vC (.str "+"))) (vConsD (vTake (vC (.str "-"))) (vConsD (vTake (vC (.str "*"))) (vConsD (vTake (vC (.str "/"))) (vConsD (vTake (vC (.str "<"))) (vConsD (vTake (vC (.str "="))) (vConsD (vTake (vC (.str ">"))) vNilD))))))))) (vCall F_pick (vConsH (vVar 0) (vConsH (vC (.int 8)) vNilH)))))
    (sSet 2 (vIf (bVal (vBin oEq (vVar 5) (vC (.str "minus")))) (vTup (vConsD (vTake (vC (.str "minus"))) (vConsD (vTake (vVar 2)) vNilD))) (vIf (bVal (vBin oEq (vCall F_pick (vConsH (vVar 0) (vConsH (vC (.int 2)) vNilH))) (vC (.int 0)))) (vTup (vConsD (vTake (vVar 5)) (vConsD (vTake (vVar 2)) (vConsD (vTake (vVar 4)) vNilD)))) (vTup (vConsD (vTake (vVar 5)) (vConsD (vTake (vVar 4)) (vConsD (vTake (vVar 2)) vNilD))))))))))
    (sRet (vVar 2))))
def F_chain : FF := defF 6 2 f_chain
theorem df_chain (g : Gb mg K w) (F' : Fun K "_law_chain" "_law_chain" tx_chain f fd) (m : mg "_law_chain" = some (.ref f)) (d_variable : Df P w K mg base 3 "_law_variable" ["source"] F_variable) (d_pick : Df P w K mg base 1 "_law_pick" ["source", "many"] F_pick) : Df P w K mg base 4 "_law_chain" ["source", "many"] F_chain :=
  ⟨f, fd, fnV F' sc_chain (fun cdv A outer s H E hr => VSs.ex (have hu := hr.units; have sc := sc_chain;
    (vs_cons (v_set 2 sc.nd (v_tup (vds_cons v_str (vds_cons (v_call d_variable hr (vhs_cons (v_var 0) vhs_nil)) vds_nil))))
    (vs_cons (v_for (vi_r1 g.b_range (vhs_cons (v_var 1) vhs_nil)) (vg_name 3 sc.nd)
      (vs_cons (v_set 4 sc.nd (v_tup (vds_cons v_str (vds_cons (v_call d_pick hr (vhs_cons (v_var 0) (vhs_cons v_int vhs_nil))) vds_nil))))
    (vs_cons (v_set 5 sc.nd (v_ix (K := K) (v_lst (vds_cons v_str (vds_cons v_str (vds_cons v_str (vds_cons v_str (vds_cons v_str (vds_cons v_str (vds_cons v_str (vds_cons v_str vds_nil))))))))) (v_call d_pick hr (vhs_cons (v_var 0) (vhs_cons v_int vhs_nil)))))
    (vs_one (v_set 2 sc.nd (v_if (vt_cmp (op_eqK (K := K) rfl hu) (fun _ e => e ▸ s_eq) (v_var 5) v_str) (v_tup (vds_cons v_str (vds_cons (v_var 2) vds_nil))) (v_if (vt_cmp (op_eqK (K := K) rfl hu) (fun _ e => e ▸ s_eq) (v_call d_pick hr (vhs_cons (v_var 0) (vhs_cons v_int vhs_nil))) v_int) (v_tup (vds_cons (v_var 5) (vds_cons (v_var 2) (vds_cons (v_var 4) vds_nil)))) (v_tup (vds_cons (v_var 5) (vds_cons (v_var 4) (vds_cons (v_var 2) vds_nil)))))))))))
    (vs_one (v_ret (v_var 2))))))), m, F'.kp, F'.binds (ps := ["source", "many"]) fun _ _ _ _ _ _ us hl => match us, hl with | [_, _], _ => rfl⟩
/-! ### _law_some -/
abbrev tx_some : Stmt := top 63
theorem sc_some : FnScope ["source"] ["source"] (defScope tx_some) := ⟨rfl, rfl, rfl, by decide +kernel, rfl, by decide +kernel, by decide +kernel⟩
def f_some : SF :=
    (sRet (vIf (bVal (vBin oEq (vCall F_pick (vConsH (vVar 0) (vConsH (vC (.int 10)) vNilH))) (vC (.int 0)))) (vCall F_chain (vConsH (vVar 0) (vConsH (vC (.int 25)) vNilH))) (vCall (F_grown 6) (vConsH (vVar 0) (vConsH (vCall F_pick (vConsH (vVar 0) (vConsH (vC (.int 5)) vNilH))) vNilH)))))
def F_some : FF := defF 1 1 f_some
theorem df_some (g : Gb mg K w) (F' : Fun K "_law_some" "_law_some" tx_some f fd) (m : mg "_law_some" = some (.ref f)) (d_pick : Df P w K mg base 1 "_law_pick" ["source", "many"] F_pick) (d_chain : Df P w K mg base 4 "_law_chain" ["source", "many"] F_chain) (d_grown : Df P w K mg base 9 "_law_grown" ["source", "depth"] (F_grown 6)) : Df P w K mg base 10 "_law_some" ["source"] F_some :=
  ⟨f, fd, fnV F' sc_some (fun cdv A outer s H E hr => VSs.ex (have hu := hr.units; have sc := sc_some;
    (vs_one (v_ret (v_if (vt_cmp (op_eqK (K := K) rfl hu) (fun _ e => e ▸ s_eq) (v_call d_pick hr (vhs_cons (v_var 0) (vhs_cons v_int vhs_nil))) v_int) (v_call d_chain hr (vhs_cons (v_var 0) (vhs_cons v_int vhs_nil))) (v_call d_grown hr (vhs_cons (v_var 0) (vhs_cons (v_call d_pick hr (vhs_cons (v_var 0) (vhs_cons v_int vhs_nil))) vhs_nil)))))))), m, F'.kp, F'.binds (ps := ["source"]) fun _ _ _ _ _ _ us hl => match us, hl with | [_], _ => rfl⟩
/-! ### _law_pathname -/
abbrev tx_pathname : Stmt := top 64
theorem sc_pathname : FnScope ["source", "letters", "many", "k"] ["source"] (defScope tx_pathname) := ⟨rfl, rfl, rfl, by decide +kernel, rfl, by decide +kernel, by decide +kernel⟩
def f_pathname : SF :=
    (sSeq (sSet 1 (vC (.str "abcdefghijklmnopqrstuvwxyz0123456789/")))
    (sSeq (sSet 2 (vBin oIx (vLst (vConsD (vTake (vC (.int 0))) (vConsD (vTake (vC (.int 2))) (vConsD (vTake (vC (.int 5))) (vConsD (vTake (vC (.int 19))) (vConsD (vTake (vCall F_pick (vConsH (vVar 0) (vConsH (vC (.int 20)) vNilH)))) vNilD)))))) (vCall F_pick (vConsH (vVar 0) (vConsH (vC (.int 5)) vNilH)))))
    (sRet (vBin oAdd (vBin oIx (vVar 1) (vCall F_pick (vConsH (vVar 0) (vConsH (vC (.int 26)) vNilH)))) (vJoin (vC (.str "")) (vLc (iR1 (vConsH (vVar 2) vNilH)) (gN 3) bYes (vTake (vBin oIx (vVar 1) (vCall F_pick (vConsH (vVar 0) (vConsH (vC (.int 37)) vNilH))))) [3]))))))
def F_pathname : FF := defF 4 1 f_pathname
theorem df_pathname (g : Gb mg K w) (F' : Fun K "_law_pathname" "_law_pathname" tx_pathname f fd) (m : mg "_law_pathname" = some (.ref f)) (d_pick : Df P w K mg base 1 "_law_pick" ["source", "many"] F_pick) : Df P w K mg base 2 "_law_pathname" ["source"] F_pathname :=
  ⟨f, fd, fnV F' sc_pathname (fun cdv A outer s H E hr => VSs.ex (have hu := hr.units; have sc := sc_pathname;
    (vs_cons (v_set 1 sc.nd v_str)
    (vs_cons (v_set 2 sc.nd (v_ix (K := K) (v_lst (vds_cons v_int (vds_cons v_int (vds_cons v_int (vds_cons v_int (vds_cons (v_call d_pick hr (vhs_cons (v_var 0) (vhs_cons v_int vhs_nil))) vds_nil)))))) (v_call d_pick hr (vhs_cons (v_var 0) (vhs_cons v_int vhs_nil)))))
    (vs_one (v_ret (v_add (K := K) (v_ix (K := K) (v_var 1) (v_call d_pick hr (vhs_cons (v_var 0) (vhs_cons v_int vhs_nil)))) (v_join (K := K) v_str (v_lc [("k", 3)] sc.nd (vi_r1 g.b_range (vhs_cons (v_var 2) vhs_nil)) (by kernel_rfl) (fun _ _ _ _ _ => (vg_name 3 sc.nd)) (fun _ _ _ _ _ => by exact vts_nil) (fun _ _ _ _ _ => by exact (v_ix (K := K) (v_var 1) (v_call d_pick hr (vhs_cons (v_var 0) (vhs_cons v_int vhs_nil)))))))))))))), m, F'.kp, F'.binds (ps := ["source"]) fun _ _ _ _ _ _ us hl => match us, hl with | [_], _ => rfl⟩
/-! ### _law_formed -/
abbrev tx_formed : Stmt := top 65
theorem sc_formed : FnScope ["source", "word", "parts", "k"] ["source"] (defScope tx_formed) := ⟨rfl, rfl, rfl, by decide +kernel, rfl, by decide +kernel, by decide +kernel⟩
def f_formed : SF :=
    (sSeq (sSet 1 (vBin oIx (vLst (vConsD (vTake (vC (.str "set"))) (vConsD (vTake (vC (.str "go"))) (vConsD (vTake (vC (.str "go"))) (vConsD (vTake (vC (.str "call"))) (vConsD (vTake (vC (.str "call"))) (vConsD (vTake (vC (.str "back"))) (vConsD (vTake (vC (.str "back"))) (vConsD (vTake (vC (.str "tell"))) (vConsD (vTake (vC (.str "give"))) (vConsD (vTake (vC (.str "put"))) (vConsD (vTake (vC (.str "take"))) (vConsD (vTake (vC (.str "hear"))) (vConsD (vTake (vC (.str "rem"))) vNilD)))))))))))))) (vCall F_pick (vConsH (vVar 0) (vConsH (vC (.int 13)) vNilH)))))
    (sSeq (sIf (bVal (vBin oEq (vVar 1) (vC (.str "rem"))))
      (sRet (vTup (vConsD (vTake (vC (.str "rem"))) vNilD)))
      sNil)
    (sSeq (sIf (bVal (vBin oEq (vVar 1) (vC (.str "take"))))
      (sRet (vTup (vConsD (vTake (vC (.str "take"))) (vConsD (vTake (vCall F_variable (vConsH (vVar 0) vNilH))) vNilD))))
      sNil)
    (sSeq (sIf (bVal (vBin oEq (vVar 1) (vC (.str "hear"))))
      (sRet (vTup (vConsD (vTake (vC (.str "hear"))) (vConsD (vTake (vCall F_variable (vConsH (vVar 0) vNilH))) (vConsD (vTake (vCall F_stem (vConsH (vVar 0) (vConsH (vC (.int 10)) vNilH)))) vNilD)))))
      sNil)
    (sSeq (sIf (bVal (vBin oEq (vVar 1) (vC (.str "go"))))
      (sRet (vTup (vConsD (vTake (vC (.str "go"))) (vConsD (vTake (vBin oIx (vLst (vConsD (vTake (vBin oAdd (vC (.int 1)) (vCall F_pick (vConsH (vVar 0) (vConsH (vBin oPow (vC (.int 10)) (vC (.int 6))) vNilH))))) (vConsD (vTake (vBin oPow (vC (.int 10)) (vC (.int 6)))) (vConsD (vTake (vC (.int 10))) vNilD)))) (vCall F_pick (vConsH (vVar 0) (vConsH (vC (.int 3)) vNilH))))) (vConsD (vTake (vBin oIx (vLst (vConsD (vTake (vC .non)) (vConsD (vTake (vCall F_some (vConsH (vVar 0) vNilH))) vNilD))) (vCall F_pick (vConsH (vVar 0) (vConsH (vC (.int 2)) vNilH))))) vNilD)))))
      sNil)
    (sSeq (sIf (bVal (vBin oEq (vVar 1) (vC (.str "call"))))
      (sSeq (sSet 2 (vLc (iR1 (vConsH (vCall F_pick (vConsH (vVar 0) (vConsH (vC (.int 5)) vNilH))) vNilH)) (gN 3) bYes (vTake (vCall (F_grown 6) (vConsH (vVar 0) (vConsH (vCall F_pick (vConsH (vVar 0) (vConsH (vC (.int 3)) vNilH))) vNilH)))) [3]))
    (sRet (vTup (vConsD (vTake (vC (.str "call"))) (vConsD (vTake (vCall F_pathname (vConsH (vVar 0) vNilH))) (vConsD (vTake (vVar 2)) (vConsD (vTake (vBin oIx (vLst (vConsD (vTake (vC .non)) (vConsD (vTake (vCall F_variable (vConsH (vVar 0) vNilH))) vNilD))) (vCall F_pick (vConsH (vVar 0) (vConsH (vC (.int 2)) vNilH))))) vNilD)))))))
      sNil)
    (sSeq (sIf (bVal (vBin oEq (vVar 1) (vC (.str "set"))))
      (sRet (vTup (vConsD (vTake (vC (.str "set"))) (vConsD (vTake (vCall F_variable (vConsH (vVar 0) vNilH))) (vConsD (vTake (vCall F_some (vConsH (vVar 0) vNilH))) vNilD)))))
      sNil)
    (sRet (vTup (vConsD (vTake (vVar 1)) (vConsD (vTake (vIf (bAnd (bVal (vBin oEq (vVar 1) (vC (.str "back")))) (bVal (vBin oEq (vCall F_pick (vConsH (vVar 0) (vConsH (vC (.int 2)) vNilH))) (vC (.int 0))))) (vC .non) (vCall F_some (vConsH (vVar 0) vNilH)))) vNilD)))))))))))
def F_formed : FF := defF 4 1 f_formed
theorem df_formed (g : Gb mg K w) (F' : Fun K "_law_formed" "_law_formed" tx_formed f fd) (m : mg "_law_formed" = some (.ref f)) (d_pick : Df P w K mg base 1 "_law_pick" ["source", "many"] F_pick) (d_variable : Df P w K mg base 3 "_law_variable" ["source"] F_variable) (d_stem : Df P w K mg base 2 "_law_stem" ["source", "most"] F_stem) (d_some : Df P w K mg base 10 "_law_some" ["source"] F_some) (d_grown : Df P w K mg base 9 "_law_grown" ["source", "depth"] (F_grown 6)) (d_pathname : Df P w K mg base 2 "_law_pathname" ["source"] F_pathname) : Df P w K mg base 11 "_law_formed" ["source"] F_formed :=
  ⟨f, fd, fnV F' sc_formed (fun cdv A outer s H E hr => VSs.ex (have hu := hr.units; have sc := sc_formed;
    (vs_cons (v_set 1 sc.nd (v_ix (K := K) (v_lst (vds_cons v_str (vds_cons v_str (vds_cons v_str (vds_cons v_str (vds_cons v_str (vds_cons v_str (vds_cons v_str (vds_cons v_str (vds_cons v_str (vds_cons v_str (vds_cons v_str (vds_cons v_str (vds_cons v_str vds_nil)))))))))))))) (v_call d_pick hr (vhs_cons (v_var 0) (vhs_cons v_int vhs_nil)))))
    (vs_cons (v_ifS (vt_cmp (op_eqK (K := K) rfl hu) (fun _ e => e ▸ s_eq) (v_var 1) v_str)
      (vs_one (v_ret (v_tup (vds_cons v_str vds_nil))))
      vs_nil)
    (vs_cons (v_ifS (vt_cmp (op_eqK (K := K) rfl hu) (fun _ e => e ▸ s_eq) (v_var 1) v_str)
      (vs_one (v_ret (v_tup (vds_cons v_str (vds_cons (v_call d_variable hr (vhs_cons (v_var 0) vhs_nil)) vds_nil)))))
      vs_nil)
    (vs_cons (v_ifS (vt_cmp (op_eqK (K := K) rfl hu) (fun _ e => e ▸ s_eq) (v_var 1) v_str)
      (vs_one (v_ret (v_tup (vds_cons v_str (vds_cons (v_call d_variable hr (vhs_cons (v_var 0) vhs_nil)) (vds_cons (v_call d_stem hr (vhs_cons (v_var 0) (vhs_cons v_int vhs_nil))) vds_nil))))))
      vs_nil)
    (vs_cons (v_ifS (vt_cmp (op_eqK (K := K) rfl hu) (fun _ e => e ▸ s_eq) (v_var 1) v_str)
      (vs_one (v_ret (v_tup (vds_cons v_str (vds_cons (v_ix (K := K) (v_lst (vds_cons (v_add (K := K) v_int (v_call d_pick hr (vhs_cons (v_var 0) (vhs_cons (v_pow v_int v_int) vhs_nil)))) (vds_cons (v_pow v_int v_int) (vds_cons v_int vds_nil)))) (v_call d_pick hr (vhs_cons (v_var 0) (vhs_cons v_int vhs_nil)))) (vds_cons (v_ix (K := K) (v_lst (vds_cons v_non (vds_cons (v_call d_some hr (vhs_cons (v_var 0) vhs_nil)) vds_nil))) (v_call d_pick hr (vhs_cons (v_var 0) (vhs_cons v_int vhs_nil)))) vds_nil))))))
      vs_nil)
    (vs_cons (v_ifS (vt_cmp (op_eqK (K := K) rfl hu) (fun _ e => e ▸ s_eq) (v_var 1) v_str)
      (vs_cons (v_setLc 2 [("k", 3)] sc.nd (sw_true rfl rfl rfl (by decide +kernel)) (vi_r1 g.b_range (vhs_cons (v_call d_pick hr (vhs_cons (v_var 0) (vhs_cons v_int vhs_nil))) vhs_nil)) (by kernel_rfl) (fun _ _ _ _ _ => (vg_name 3 sc.nd)) (fun _ _ _ _ _ => by exact vts_nil) (fun _ _ _ _ _ => by exact (v_call d_grown hr (vhs_cons (v_var 0) (vhs_cons (v_call d_pick hr (vhs_cons (v_var 0) (vhs_cons v_int vhs_nil))) vhs_nil)))))
    (vs_one (v_ret (v_tup (vds_cons v_str (vds_cons (v_call d_pathname hr (vhs_cons (v_var 0) vhs_nil)) (vds_cons (v_var 2) (vds_cons (v_ix (K := K) (v_lst (vds_cons v_non (vds_cons (v_call d_variable hr (vhs_cons (v_var 0) vhs_nil)) vds_nil))) (v_call d_pick hr (vhs_cons (v_var 0) (vhs_cons v_int vhs_nil)))) vds_nil))))))))
      vs_nil)
    (vs_cons (v_ifS (vt_cmp (op_eqK (K := K) rfl hu) (fun _ e => e ▸ s_eq) (v_var 1) v_str)
      (vs_one (v_ret (v_tup (vds_cons v_str (vds_cons (v_call d_variable hr (vhs_cons (v_var 0) vhs_nil)) (vds_cons (v_call d_some hr (vhs_cons (v_var 0) vhs_nil)) vds_nil))))))
      vs_nil)
    (vs_one (v_ret (v_tup (vds_cons (v_var 1) (vds_cons (v_if (vw_t (vw_and (vt_cmp (op_eqK (K := K) rfl hu) (fun _ e => e ▸ s_eq) (v_var 1) v_str) (vw_and1 (vt_cmp (op_eqK (K := K) rfl hu) (fun _ e => e ▸ s_eq) (v_call d_pick hr (vhs_cons (v_var 0) (vhs_cons v_int vhs_nil))) v_int)))) v_non (v_call d_some hr (vhs_cons (v_var 0) vhs_nil))) vds_nil)))))))))))))), m, F'.kp, F'.binds (ps := ["source"]) fun _ _ _ _ _ _ us hl => match us, hl with | [_], _ => rfl⟩
/-! ### _law_spelled -/
abbrev tx_spelled : Stmt := top 66
theorem sc_spelled : FnScope ["source", "tree", "least", "count", "sign", "rank", "found", "inner", "left", "right", "extra", "k"] ["source", "tree", "least", "count"] (defScope tx_spelled) := ⟨rfl, rfl, rfl, by decide +kernel, rfl, by decide +kernel, by decide +kernel⟩
def f_spelled (F_spelled : FF) : SF :=
    (sSeq (sSet 4 (vBin oIx (vVar 1) (vC (.int 0))))
    (sSeq (sSet 5 (vC (.int 5)))
    (sSeq (sIf (bOr (bVal (vBin oEq (vVar 4) (vC (.str "number")))) (bVal (vBin oEq (vVar 4) (vC (.str "name")))))
      (sSet 6 (vLst (vConsD (vTake (vTup (vConsD (vTake (vCallB oStrA (vConsH (vBin oIx (vVar 1) (vC (.int 1))) vNilH))) (vConsD (vTake (vBin oIx (vVar 3) (vC (.int 0)))) vNilD)))) vNilD)))
      (sIf (bVal (vBin oEq (vVar 4) (vC (.str "minus"))))
      (sSeq (sSet 5 (vC (.int 4)))
    (sSeq (sSet 7 (vCall F_spelled (vConsH (vVar 0) (vConsH (vBin oIx (vVar 1) (vC (.int 1))) (vConsH (vC (.int 4)) (vConsH (vVar 3) vNilH))))))
    (sSet 6 (vBin oAdd (vLst (vConsD (vTake (vTup (vConsD (vTake (vC (.str "-"))) (vConsD (vTake (vBin oIx (vVar 3) (vC (.int 0)))) vNilD)))) vNilD)) (vVar 7)))))
      (sSeq (sSet 5 (vIf (bVal (vBin oInQ (vVar 4) (vLst (vConsD (vTake (vC (.str "<"))) (vConsD (vTake (vC (.str "="))) (vConsD (vTake (vC (.str ">"))) vNilD)))))) (vC (.int 1)) (vIf (bVal (vBin oInQ (vVar 4) (vLst (vConsD (vTake (vC (.str "+"))) (vConsD (vTake (vC (.str "-"))) vNilD))))) (vC (.int 2)) (vC (.int 3)))))
    (sSeq (sSet 8 (vCall F_spelled (vConsH (vVar 0) (vConsH (vBin oIx (vVar 1) (vC (.int 1))) (vConsH (vCallB oMax (vConsH (vC (.int 2)) (vConsH (vVar 5) vNilH))) (vConsH (vVar 3) vNilH))))))
    (sSeq (sSet 9 (vCall F_spelled (vConsH (vVar 0) (vConsH (vBin oIx (vVar 1) (vC (.int 2))) (vConsH (vBin oAdd (vVar 5) (vC (.int 1))) (vConsH (vVar 3) vNilH))))))
    (sSet 6 (vBin oAdd (vBin oAdd (vVar 8) (vLst (vConsD (vTake (vTup (vConsD (vTake (vVar 4)) (vConsD (vTake (vBin oIx (vVar 3) (vC (.int 0)))) vNilD)))) vNilD))) (vVar 9))))))))
    (sSeq (sAugIx 3 (vC (.int 0)) oAddI (vC (.int 1)))
    (sSeq (sSet 10 (vIf (bAnd (bVal (vBin oNotN (vVar 0) (vC .non))) (bVal (vBin oEq (vCall F_pick (vConsH (vVar 0) (vConsH (vC (.int 6)) vNilH))) (vC (.int 0))))) (vC (.int 1)) (vC (.int 0))))
    (sSeq (sFor (iR1 (vConsH (vBin oAdd (vVar 10) (vCallB oInt (vConsH (vBin oLt (vVar 5) (vVar 2)) vNilH))) vNilH)) (gN 11)
      (sSet 6 (vBin oAdd (vBin oAdd (vLst (vConsD (vTake (vTup (vConsD (vTake (vC (.str "("))) (vConsD (vTake (vC .non)) vNilD)))) vNilD)) (vVar 6)) (vLst (vConsD (vTake (vTup (vConsD (vTake (vC (.str ")"))) (vConsD (vTake (vC .non)) vNilD)))) vNilD)))))
    (sRet (vVar 6))))))))
def F_spelled : Nat → FF
  | 0 => fun _ => none
  | k + 1 => defF 12 4 (f_spelled (F_spelled k))
theorem st_spelled (g : Gb mg K w) (F' : Fun K "_law_spelled" "_law_spelled" tx_spelled f fd) (m : mg "_law_spelled" = some (.ref f)) {F : FF} {k : Nat} (hk : 1 ≤ k) (d_spelled : Df P w K mg base k "_law_spelled" ["source", "tree", "least", "count"] F) (d_pick : Df P w K mg base 1 "_law_pick" ["source", "many"] F_pick) : Df P w K mg base (k + 1) "_law_spelled" ["source", "tree", "least", "count"] (defF 12 4 (f_spelled F)) :=
  ⟨f, fd, fnV F' sc_spelled (fun cdv A outer s H E hr => VSs.ex (have hu := hr.units; have sc := sc_spelled;
    (vs_cons (v_set 4 sc.nd (v_ix (K := K) (v_var 1) v_int))
    (vs_cons (v_set 5 sc.nd v_int)
    (vs_cons (v_ifS (vw_t (vw_or (vt_cmp (op_eqK (K := K) rfl hu) (fun _ e => e ▸ s_eq) (v_var 4) v_str) (vw_or1 (vt_cmp (op_eqK (K := K) rfl hu) (fun _ e => e ▸ s_eq) (v_var 4) v_str))))
      (vs_one (v_set 6 sc.nd (v_lst (vds_cons (v_tup (vds_cons (v_callTy call_strA (fun _ _ => s_strA) PyProof.Rows.boot_str g.b_str (vhs_cons (v_ix (K := K) (v_var 1) v_int) vhs_nil)) (vds_cons (v_ix (K := K) (v_var 3) v_int) vds_nil))) vds_nil))))
      (vs_one (v_ifS (vt_cmp (op_eqK (K := K) rfl hu) (fun _ e => e ▸ s_eq) (v_var 4) v_str)
      (vs_cons (v_set 5 sc.nd v_int)
    (vs_cons (v_set 7 sc.nd (v_call d_spelled hr (vhs_cons (v_var 0) (vhs_cons (v_ix (K := K) (v_var 1) v_int) (vhs_cons v_int (vhs_cons (v_var 3) vhs_nil))))))
    (vs_one (v_set 6 sc.nd (v_add (K := K) (v_lst (vds_cons (v_tup (vds_cons v_str (vds_cons (v_ix (K := K) (v_var 3) v_int) vds_nil))) vds_nil)) (v_var 7))))))
      (vs_cons (v_set 5 sc.nd (v_if (vt_cmp (op_inK (K := K) rfl) (fun _ e => e ▸ s_inQ) (v_var 4) (v_lst (vds_cons v_str (vds_cons v_str (vds_cons v_str vds_nil))))) v_int (v_if (vt_cmp (op_inK (K := K) rfl) (fun _ e => e ▸ s_inQ) (v_var 4) (v_lst (vds_cons v_str (vds_cons v_str vds_nil)))) v_int v_int)))
    (vs_cons (v_set 8 sc.nd (v_call d_spelled hr (vhs_cons (v_var 0) (vhs_cons (v_ix (K := K) (v_var 1) v_int) (vhs_cons (v_callB (call_maxK (K := K) rfl rfl) (fun _ e => e ▸ s_max) boot_max g.b_max (vhs_cons v_int (vhs_cons (v_var 5) vhs_nil))) (vhs_cons (v_var 3) vhs_nil))))))
    (vs_cons (v_set 9 sc.nd (v_call d_spelled hr (vhs_cons (v_var 0) (vhs_cons (v_ix (K := K) (v_var 1) v_int) (vhs_cons (v_add (K := K) (v_var 5) v_int) (vhs_cons (v_var 3) vhs_nil))))))
    (vs_one (v_set 6 sc.nd (v_add (K := K) (v_add (K := K) (v_var 8) (v_lst (vds_cons (v_tup (vds_cons (v_var 4) (vds_cons (v_ix (K := K) (v_var 3) v_int) vds_nil))) vds_nil))) (v_var 9))))))))))
    (vs_cons (v_augIx 3 ip_add s_ipadd (v_var 3) v_int v_int)
    (vs_cons (v_set 10 sc.nd (v_if (vw_t (vw_and (vt_cmp op_notN2 (fun _ _ => s_notN) (v_var 0) v_non) (vw_and1 (vt_cmp (op_eqK (K := K) rfl hu) (fun _ e => e ▸ s_eq) (v_call d_pick hr (vhs_cons (v_var 0) (vhs_cons v_int vhs_nil))) v_int)))) v_int v_int))
    (vs_cons (v_for (vi_r1 g.b_range (vhs_cons (v_add (K := K) (v_var 10) (v_callTy call_intA (fun _ _ => s_int) PyProof.Rows.boot_int g.b_int (vhs_cons (v_cmp op_lt (fun _ _ => s_lt) (v_var 5) (v_var 2)) vhs_nil))) vhs_nil)) (vg_name 11 sc.nd)
      (vs_one (v_set 6 sc.nd (v_add (K := K) (v_add (K := K) (v_lst (vds_cons (v_tup (vds_cons v_str (vds_cons v_non vds_nil))) vds_nil)) (v_var 6)) (v_lst (vds_cons (v_tup (vds_cons v_str (vds_cons v_non vds_nil))) vds_nil))))))
    (vs_one (v_ret (v_var 6))))))))))), m, F'.kp, F'.binds (ps := ["source", "tree", "least", "count"]) fun _ _ _ _ _ _ us hl => match us, hl with | [_, _, _, _], _ => rfl⟩
theorem df_spelled (g : Gb mg K w) (F' : Fun K "_law_spelled" "_law_spelled" tx_spelled f fd) (m : mg "_law_spelled" = some (.ref f)) (d_pick : Df P w K mg base 1 "_law_pick" ["source", "many"] F_pick) : ∀ k, Df P w K mg base (1 + k) "_law_spelled" ["source", "tree", "least", "count"] (F_spelled k)
  | 0 => ⟨f, fd, fn_none (fun _ => rfl), m, F'.kp, F'.binds (ps := ["source", "tree", "least", "count"]) fun _ _ _ _ _ _ us hl => match us, hl with | [_, _, _, _], _ => rfl⟩
  | k + 1 => st_spelled (k := 1 + k) g F' m (by omega) (df_spelled g F' m d_pick k) d_pick
/-! ### _law_tokened -/
abbrev tx_tokened : Stmt := top 67
theorem sc_tokened : FnScope ["source", "tree", "count", "word", "found", "part"] ["source", "tree"] (defScope tx_tokened) := ⟨rfl, rfl, rfl, by decide +kernel, rfl, by decide +kernel, by decide +kernel⟩
def f_tokened : SF :=
    (sSeq (sSet 2 (vLst (vConsD (vTake (vC (.int 0))) vNilD)))
    (sSeq (sSet 3 (vBin oIx (vVar 1) (vC (.int 0))))
    (sSeq (sIf (bVal (vBin oEq (vVar 3) (vC (.str "rem"))))
      (sRet (vTup (vConsD (vTake (vLst vNilD)) (vConsD (vTake (vC (.int 1))) vNilD))))
      sNil)
    (sSeq (sSet 4 (vLst vNilD))
    (sSeq (sIf (bAnd (bVal (vBin oInQ (vVar 3) (vLst (vConsD (vTake (vC (.str "set"))) (vConsD (vTake (vC (.str "go"))) vNilD))))) (bVal (vBin oNotN (vBin oIx (vVar 1) (vC (.int 2))) (vC .non))))
      (sSet 4 (vCall (F_spelled 40) (vConsH (vVar 0) (vConsH (vBin oIx (vVar 1) (vC (.int 2))) (vConsH (vC (.int 1)) (vConsH (vVar 2) vNilH))))))
      sNil)
    (sSeq (sIf (bAnd (bVal (vBin oInQ (vVar 3) (vLst (vConsD (vTake (vC (.str "back"))) (vConsD (vTake (vC (.str "tell"))) (vConsD (vTake (vC (.str "give"))) (vConsD (vTake (vC (.str "put"))) vNilD))))))) (bVal (vBin oNotN (vBin oIx (vVar 1) (vC (.int 1))) (vC .non))))
      (sSet 4 (vCall (F_spelled 40) (vConsH (vVar 0) (vConsH (vBin oIx (vVar 1) (vC (.int 1))) (vConsH (vC (.int 1)) (vConsH (vVar 2) vNilH))))))
      sNil)
    (sSeq (sIf (bVal (vBin oEq (vVar 3) (vC (.str "call"))))
      (sSeq (sFor (iSeq (vBin oIx (vVar 1) (vC (.int 2)))) (gN 5)
      (sSet 4 (vBin oAdd (vBin oAdd (vVar 4) (vIf (bVal (vBin oGt (vCallB oLen (vConsH (vVar 4) vNilH)) (vC (.int 0)))) (vLst (vConsD (vTake (vTup (vConsD (vTake (vC (.str ","))) (vConsD (vTake (vC .non)) vNilD)))) vNilD)) (vLst vNilD))) (vCall (F_spelled 40) (vConsH (vVar 0) (vConsH (vVar 5) (vConsH (vC (.int 1)) (vConsH (vVar 2) vNilH))))))))
    (sSet 4 (vBin oAdd (vBin oAdd (vBin oAdd (vLst (vConsD (vTake (vTup (vConsD (vTake (vC (.str "("))) (vConsD (vTake (vC .non)) vNilD)))) vNilD)) (vVar 4)) (vLst (vConsD (vTake (vTup (vConsD (vTake (vC (.str ")"))) (vConsD (vTake (vC .non)) vNilD)))) vNilD))) (vIf (bVal (vBin oNotN (vBin oIx (vVar 1) (vC (.int 3))) (vC .non))) (vLst (vConsD (vTake (vTup (vConsD (vTake (vC (.str "as"))) (vConsD (vTake (vC .non)) vNilD)))) (vConsD (vTake (vTup (vConsD (vTake (vBin oIx (vVar 1) (vC (.int 3)))) (vConsD (vTake (vC .non)) vNilD)))) vNilD))) (vLst vNilD)))))
      sNil)
    (sSeq (sIf (bVal (vBin oEq (vVar 3) (vC (.str "set"))))
      (sSet 4 (vBin oAdd (vLst (vConsD (vTake (vTup (vConsD (vTake (vBin oIx (vVar 1) (vC (.int 1)))) (vConsD (vTake (vBin oIx (vVar 2) (vC (.int 0)))) vNilD)))) (vConsD (vTake (vTup (vConsD (vTake (vC (.str "="))) (vConsD (vTake (vC .non)) vNilD)))) vNilD))) (vVar 4)))
      sNil)
    (sSeq (sIf (bVal (vBin oEq (vVar 3) (vC (.str "go"))))
      (sSet 4 (vBin oAdd (vBin oAdd (vLst (vConsD (vTake (vTup (vConsD (vTake (vCallB oStrA (vConsH (vBin oIx (vVar 1) (vC (.int 1))) vNilH))) (vConsD (vTake (vBin oIx (vVar 2) (vC (.int 0)))) vNilD)))) vNilD)) (vIf (bVal (vBin oGt (vCallB oLen (vConsH (vVar 4) vNilH)) (vC (.int 0)))) (vLst (vConsD (vTake (vTup (vConsD (vTake (vC (.str "if"))) (vConsD (vTake (vC .non)) vNilD)))) vNilD)) (vLst vNilD))) (vVar 4)))
      sNil)
    (sSeq (sIf (bVal (vBin oEq (vVar 3) (vC (.str "take"))))
      (sSet 4 (vLst (vConsD (vTake (vTup (vConsD (vTake (vBin oIx (vVar 1) (vC (.int 1)))) (vConsD (vTake (vC (.int 0))) vNilD)))) vNilD)))
      sNil)
    (sSeq (sIf (bVal (vBin oEq (vVar 3) (vC (.str "hear"))))
      (sSet 4 (vLst (vConsD (vTake (vTup (vConsD (vTake (vBin oIx (vVar 1) (vC (.int 1)))) (vConsD (vTake (vC (.int 0))) vNilD)))) (vConsD (vTake (vTup (vConsD (vTake (vC (.str "="))) (vConsD (vTake (vC .non)) vNilD)))) (vConsD (vTake (vTup (vConsD (vTake (vBin oIx (vVar 1) (vC (.int 2)))) (vConsD (vTake (vC .non)) vNilD)))) vNilD)))))
      sNil)
    (sRet (vTup (vConsD (vTake (vVar 4)) (vConsD (vTake (vBin oAdd (vBin oIx (vVar 2) (vC (.int 0))) (vC (.int 1)))) vNilD)))))))))))))))
def F_tokened : FF := defF 6 2 f_tokened
theorem df_tokened (g : Gb mg K w) (F' : Fun K "_law_tokened" "_law_tokened" tx_tokened f fd) (m : mg "_law_tokened" = some (.ref f)) (d_spelled : Df P w K mg base 41 "_law_spelled" ["source", "tree", "least", "count"] (F_spelled 40)) : Df P w K mg base 42 "_law_tokened" ["source", "tree"] F_tokened :=
  ⟨f, fd, fnV F' sc_tokened (fun cdv A outer s H E hr => VSs.ex (have hu := hr.units; have sc := sc_tokened;
    (vs_cons (v_set 2 sc.nd (v_lst (vds_cons v_int vds_nil)))
    (vs_cons (v_set 3 sc.nd (v_ix (K := K) (v_var 1) v_int))
    (vs_cons (v_ifS (vt_cmp (op_eqK (K := K) rfl hu) (fun _ e => e ▸ s_eq) (v_var 3) v_str)
      (vs_one (v_ret (v_tup (vds_cons (v_lst vds_nil) (vds_cons v_int vds_nil)))))
      vs_nil)
    (vs_cons (v_set 4 sc.nd (v_lst vds_nil))
    (vs_cons (v_ifS (vw_t (vw_and (vt_cmp (op_inK (K := K) rfl) (fun _ e => e ▸ s_inQ) (v_var 3) (v_lst (vds_cons v_str (vds_cons v_str vds_nil)))) (vw_and1 (vt_cmp op_notN2 (fun _ _ => s_notN) (v_ix (K := K) (v_var 1) v_int) v_non))))
      (vs_one (v_set 4 sc.nd (v_call d_spelled hr (vhs_cons (v_var 0) (vhs_cons (v_ix (K := K) (v_var 1) v_int) (vhs_cons v_int (vhs_cons (v_var 2) vhs_nil)))))))
      vs_nil)
    (vs_cons (v_ifS (vw_t (vw_and (vt_cmp (op_inK (K := K) rfl) (fun _ e => e ▸ s_inQ) (v_var 3) (v_lst (vds_cons v_str (vds_cons v_str (vds_cons v_str (vds_cons v_str vds_nil)))))) (vw_and1 (vt_cmp op_notN2 (fun _ _ => s_notN) (v_ix (K := K) (v_var 1) v_int) v_non))))
      (vs_one (v_set 4 sc.nd (v_call d_spelled hr (vhs_cons (v_var 0) (vhs_cons (v_ix (K := K) (v_var 1) v_int) (vhs_cons v_int (vhs_cons (v_var 2) vhs_nil)))))))
      vs_nil)
    (vs_cons (v_ifS (vt_cmp (op_eqK (K := K) rfl hu) (fun _ e => e ▸ s_eq) (v_var 3) v_str)
      (vs_cons (v_for (vi_seq (K := K) (v_ix (K := K) (v_var 1) v_int)) (vg_name 5 sc.nd)
      (vs_one (v_set 4 sc.nd (v_add (K := K) (v_add (K := K) (v_var 4) (v_if (vt_cmp op_gt (fun _ _ => s_gt) (v_callB (call_lenK2 (K := K) rfl) (fun _ e => e ▸ s_len) PySem.boot_len g.b_len (vhs_cons (v_var 4) vhs_nil)) v_int) (v_lst (vds_cons (v_tup (vds_cons v_str (vds_cons v_non vds_nil))) vds_nil)) (v_lst vds_nil))) (v_call d_spelled hr (vhs_cons (v_var 0) (vhs_cons (v_var 5) (vhs_cons v_int (vhs_cons (v_var 2) vhs_nil)))))))))
    (vs_one (v_set 4 sc.nd (v_add (K := K) (v_add (K := K) (v_add (K := K) (v_lst (vds_cons (v_tup (vds_cons v_str (vds_cons v_non vds_nil))) vds_nil)) (v_var 4)) (v_lst (vds_cons (v_tup (vds_cons v_str (vds_cons v_non vds_nil))) vds_nil))) (v_if (vt_cmp op_notN2 (fun _ _ => s_notN) (v_ix (K := K) (v_var 1) v_int) v_non) (v_lst (vds_cons (v_tup (vds_cons v_str (vds_cons v_non vds_nil))) (vds_cons (v_tup (vds_cons (v_ix (K := K) (v_var 1) v_int) (vds_cons v_non vds_nil))) vds_nil))) (v_lst vds_nil))))))
      vs_nil)
    (vs_cons (v_ifS (vt_cmp (op_eqK (K := K) rfl hu) (fun _ e => e ▸ s_eq) (v_var 3) v_str)
      (vs_one (v_set 4 sc.nd (v_add (K := K) (v_lst (vds_cons (v_tup (vds_cons (v_ix (K := K) (v_var 1) v_int) (vds_cons (v_ix (K := K) (v_var 2) v_int) vds_nil))) (vds_cons (v_tup (vds_cons v_str (vds_cons v_non vds_nil))) vds_nil))) (v_var 4))))
      vs_nil)
    (vs_cons (v_ifS (vt_cmp (op_eqK (K := K) rfl hu) (fun _ e => e ▸ s_eq) (v_var 3) v_str)
      (vs_one (v_set 4 sc.nd (v_add (K := K) (v_add (K := K) (v_lst (vds_cons (v_tup (vds_cons (v_callTy call_strA (fun _ _ => s_strA) PyProof.Rows.boot_str g.b_str (vhs_cons (v_ix (K := K) (v_var 1) v_int) vhs_nil)) (vds_cons (v_ix (K := K) (v_var 2) v_int) vds_nil))) vds_nil)) (v_if (vt_cmp op_gt (fun _ _ => s_gt) (v_callB (call_lenK2 (K := K) rfl) (fun _ e => e ▸ s_len) PySem.boot_len g.b_len (vhs_cons (v_var 4) vhs_nil)) v_int) (v_lst (vds_cons (v_tup (vds_cons v_str (vds_cons v_non vds_nil))) vds_nil)) (v_lst vds_nil))) (v_var 4))))
      vs_nil)
    (vs_cons (v_ifS (vt_cmp (op_eqK (K := K) rfl hu) (fun _ e => e ▸ s_eq) (v_var 3) v_str)
      (vs_one (v_set 4 sc.nd (v_lst (vds_cons (v_tup (vds_cons (v_ix (K := K) (v_var 1) v_int) (vds_cons v_int vds_nil))) vds_nil))))
      vs_nil)
    (vs_cons (v_ifS (vt_cmp (op_eqK (K := K) rfl hu) (fun _ e => e ▸ s_eq) (v_var 3) v_str)
      (vs_one (v_set 4 sc.nd (v_lst (vds_cons (v_tup (vds_cons (v_ix (K := K) (v_var 1) v_int) (vds_cons v_int vds_nil))) (vds_cons (v_tup (vds_cons v_str (vds_cons v_non vds_nil))) (vds_cons (v_tup (vds_cons (v_ix (K := K) (v_var 1) v_int) (vds_cons v_non vds_nil))) vds_nil))))))
      vs_nil)
    (vs_one (v_ret (v_tup (vds_cons (v_var 4) (vds_cons (v_add (K := K) (v_ix (K := K) (v_var 2) v_int) v_int) vds_nil)))))))))))))))))), m, F'.kp, F'.binds (ps := ["source", "tree"]) fun _ _ _ _ _ _ us hl => match us, hl with | [_, _], _ => rfl⟩
/-! ### _law_spread -/
abbrev tx_spread : Stmt := top 68
theorem sc_spread : FnScope ["source", "tree", "figures", "letters", "tokens", "many", "text", "places", "last", "token", "mark", "glued"] ["source", "tree"] (defScope tx_spread) := ⟨rfl, rfl, rfl, by decide +kernel, rfl, by decide +kernel, by decide +kernel⟩
def f_spread : SF :=
    (sSeq (sAsg (vTake (vTup (vConsD (vTake (vC (.str "0123456789"))) (vConsD (vTake (vC (.str "abcdefghijklmnopqrstuvwxyz0123456789"))) vNilD)))) (gT 2 (gConsF (gN 2) (gConsF (gN 3) gNilF))))
    (sSeq (sAsg (vTake (vCall F_tokened (vConsH (vVar 0) (vConsH (vVar 1) vNilH)))) (gT 2 (gConsF (gN 4) (gConsF (gN 5) gNilF))))
    (sSeq (sSet 6 (vBin oAdd (vBin oIx (vVar 1) (vC (.int 0))) (vIf (bVal (vBin oEq (vBin oIx (vVar 1) (vC (.int 0))) (vC (.str "call")))) (vBin oAdd (vC (.str " ")) (vBin oIx (vVar 1) (vC (.int 1)))) (vC (.str "")))))
    (sSeq (sSet 7 (vBin oRep (vLst (vConsD (vTake (vIf (bVal (vBin oEq (vBin oIx (vVar 1) (vC (.int 0))) (vC (.str "call")))) (vTup (vConsD (vTake (vC (.int 6))) (vConsD (vTake (vCallB oLen (vConsH (vVar 6) vNilH))) vNilD))) (vTup (vConsD (vTake (vC (.int 1))) (vConsD (vTake (vCallB oLen (vConsH (vVar 6) vNilH))) vNilD))))) vNilD)) (vVar 5)))
    (sSeq (sSet 8 (vIf (bVal (vBin oEq (vBin oIx (vVar 1) (vC (.int 0))) (vC (.str "call")))) (vC (.str ")")) (vC (.str "a"))))
    (sSeq (sFor (iSeq (vVar 4)) (gT 2 (gConsF (gN 9) (gConsF (gN 10) gNilF)))
      (sSeq (sSet 11 (vB (bAnd (bVal (vBin oInStr (vBin oIx (vVar 8) (vUn oNeg (vC (.int 1)))) (vVar 3))) (bAnd (bVal (vBin oInStr (vBin oIx (vVar 9) (vC (.int 0))) (vVar 3))) (bOr (bVal (vBin oNotInStr (vBin oIx (vVar 8) (vC (.int 0))) (vVar 2))) (bVal (vBin oInStr (vBin oIx (vVar 9) (vC (.int 0))) (vVar 2))))))))
    (sSeq (sIf (bOr (bVal (vBin oEq (vCallB oLen (vConsH (vVar 6) vNilH)) (vCallB oLen (vConsH (vBin oIx (vVar 1) (vC (.int 0))) vNilH)))) (bOr (bTru (vVar 11)) (bVal (vBin oEq (vCall F_pick (vConsH (vVar 0) (vConsH (vC (.int 2)) vNilH))) (vC (.int 0))))))
      (sSet 6 (vBin oAdd (vVar 6) (vC (.str " "))))
      sNil)
    (sSeq (sIf (bVal (vBin oNotN (vVar 10) (vC .non)))
      (sSetIx 7 (vTake (vTup (vConsD (vTake (vBin oAdd (vCallB oLen (vConsH (vVar 6) vNilH)) (vC (.int 1)))) (vConsD (vTake (vBin oAdd (vCallB oLen (vConsH (vVar 6) vNilH)) (vCallB oLen (vConsH (vVar 9) vNilH)))) vNilD)))) (vVar 10))
      sNil)
    (sSeq (sSet 6 (vBin oAdd (vVar 6) (vVar 9)))
    (sSet 8 (vVar 9)))))))
    (sSeq (sIf (bAnd (bVal (vBin oEq (vBin oIx (vVar 1) (vC (.int 0))) (vC (.str "rem")))) (bVal (vBin oEq (vCall F_pick (vConsH (vVar 0) (vConsH (vC (.int 2)) vNilH))) (vC (.int 0)))))
      (sSet 6 (vBin oAdd (vBin oAdd (vBin oAdd (vVar 6) (vC (.str " "))) (vCallB oStr (vConsH (vCall F_big (vConsH (vVar 0) vNilH)) vNilH))) (vC (.str " $ A!"))))
      sNil)
    (sRet (vTup (vConsD (vTake (vVar 6)) (vConsD (vTake (vVar 7)) vNilD)))))))))))
def F_spread : FF := defF 12 2 f_spread
theorem df_spread (g : Gb mg K w) (F' : Fun K "_law_spread" "_law_spread" tx_spread f fd) (m : mg "_law_spread" = some (.ref f)) (d_tokened : Df P w K mg base 42 "_law_tokened" ["source", "tree"] F_tokened) (d_pick : Df P w K mg base 1 "_law_pick" ["source", "many"] F_pick) (d_big : Df P w K mg base 2 "_law_big" ["source"] F_big) : Df P w K mg base 43 "_law_spread" ["source", "tree"] F_spread :=
  ⟨f, fd, fnV F' sc_spread (fun cdv A outer s H E hr => VSs.ex (have hu := hr.units; have sc := sc_spread;
    (vs_cons (v_asg (v_tup (vds_cons v_str (vds_cons v_str vds_nil))) (vg_tup (K := K) (vgs_cons (vg_name 2 sc.nd) (vgs_cons (vg_name 3 sc.nd) vgs_nil))))
    (vs_cons (v_asg (v_call d_tokened hr (vhs_cons (v_var 0) (vhs_cons (v_var 1) vhs_nil))) (vg_tup (K := K) (vgs_cons (vg_name 4 sc.nd) (vgs_cons (vg_name 5 sc.nd) vgs_nil))))
    (vs_cons (v_set 6 sc.nd (v_add (K := K) (v_ix (K := K) (v_var 1) v_int) (v_if (vt_cmp (op_eqK (K := K) rfl hu) (fun _ e => e ▸ s_eq) (v_ix (K := K) (v_var 1) v_int) v_str) (v_add (K := K) v_str (v_ix (K := K) (v_var 1) v_int)) v_str)))
    (vs_cons (v_set 7 sc.nd (v_rep (v_lst (vds_cons (v_if (vt_cmp (op_eqK (K := K) rfl hu) (fun _ e => e ▸ s_eq) (v_ix (K := K) (v_var 1) v_int) v_str) (v_tup (vds_cons v_int (vds_cons (v_callB (call_lenK2 (K := K) rfl) (fun _ e => e ▸ s_len) PySem.boot_len g.b_len (vhs_cons (v_var 6) vhs_nil)) vds_nil))) (v_tup (vds_cons v_int (vds_cons (v_callB (call_lenK2 (K := K) rfl) (fun _ e => e ▸ s_len) PySem.boot_len g.b_len (vhs_cons (v_var 6) vhs_nil)) vds_nil)))) vds_nil)) (v_var 5)))
    (vs_cons (v_set 8 sc.nd (v_if (vt_cmp (op_eqK (K := K) rfl hu) (fun _ e => e ▸ s_eq) (v_ix (K := K) (v_var 1) v_int) v_str) v_str v_str))
    (vs_cons (v_for (vi_seq (K := K) (v_var 4)) (vg_tup (K := K) (vgs_cons (vg_name 9 sc.nd) (vgs_cons (vg_name 10 sc.nd) vgs_nil)))
      (vs_cons (v_set 11 sc.nd (v_and (v_b (v_cmp op_inStrR (fun _ _ => s_inStr) (v_ix (K := K) (v_var 8) (v_neg v_int)) (v_var 3))) (v_and (v_b (v_cmp op_inStrR (fun _ _ => s_inStr) (v_ix (K := K) (v_var 9) v_int) (v_var 3))) (v_one (v_or (v_b (v_cmp op_notInStrR (fun _ _ => s_notInStr) (v_ix (K := K) (v_var 8) v_int) (v_var 2))) (v_one (v_b (v_cmp op_inStrR (fun _ _ => s_inStr) (v_ix (K := K) (v_var 9) v_int) (v_var 2)))))))))
    (vs_cons (v_ifS (vw_t (vw_or (vt_cmp (op_eqK (K := K) rfl hu) (fun _ e => e ▸ s_eq) (v_callB (call_lenK2 (K := K) rfl) (fun _ e => e ▸ s_len) PySem.boot_len g.b_len (vhs_cons (v_var 6) vhs_nil)) (v_callB (call_lenK2 (K := K) rfl) (fun _ e => e ▸ s_len) PySem.boot_len g.b_len (vhs_cons (v_ix (K := K) (v_var 1) v_int) vhs_nil))) (vw_or (vt_tru (K := K) (v_var 11)) (vw_or1 (vt_cmp (op_eqK (K := K) rfl hu) (fun _ e => e ▸ s_eq) (v_call d_pick hr (vhs_cons (v_var 0) (vhs_cons v_int vhs_nil))) v_int)))))
      (vs_one (v_set 6 sc.nd (v_add (K := K) (v_var 6) v_str)))
      vs_nil)
    (vs_cons (v_ifS (vt_cmp op_notN2 (fun _ _ => s_notN) (v_var 10) v_non)
      (vs_one (v_setIx 7 (v_var 7) (v_var 10) (v_tup (vds_cons (v_add (K := K) (v_callB (call_lenK2 (K := K) rfl) (fun _ e => e ▸ s_len) PySem.boot_len g.b_len (vhs_cons (v_var 6) vhs_nil)) v_int) (vds_cons (v_add (K := K) (v_callB (call_lenK2 (K := K) rfl) (fun _ e => e ▸ s_len) PySem.boot_len g.b_len (vhs_cons (v_var 6) vhs_nil)) (v_callB (call_lenK2 (K := K) rfl) (fun _ e => e ▸ s_len) PySem.boot_len g.b_len (vhs_cons (v_var 9) vhs_nil))) vds_nil)))))
      vs_nil)
    (vs_cons (v_set 6 sc.nd (v_add (K := K) (v_var 6) (v_var 9)))
    (vs_one (v_set 8 sc.nd (v_var 9))))))))
    (vs_cons (v_ifS (vw_t (vw_and (vt_cmp (op_eqK (K := K) rfl hu) (fun _ e => e ▸ s_eq) (v_ix (K := K) (v_var 1) v_int) v_str) (vw_and1 (vt_cmp (op_eqK (K := K) rfl hu) (fun _ e => e ▸ s_eq) (v_call d_pick hr (vhs_cons (v_var 0) (vhs_cons v_int vhs_nil))) v_int))))
      (vs_one (v_set 6 sc.nd (v_add (K := K) (v_add (K := K) (v_add (K := K) (v_var 6) v_str) (v_callTy call_str_int (fun _ _ => s_str) PyProof.Rows.boot_str g.b_str (vhs_cons (v_call d_big hr (vhs_cons (v_var 0) vhs_nil)) vhs_nil))) v_str)))
      vs_nil)
    (vs_one (v_ret (v_tup (vds_cons (v_var 6) (vds_cons (v_var 7) vds_nil)))))))))))))), m, F'.kp, F'.binds (ps := ["source", "tree"]) fun _ _ _ _ _ _ us hl => match us, hl with | [_, _], _ => rfl⟩
/-! ### _law_ops -/
abbrev tx_ops : Stmt := top 69
theorem sc_ops : FnScope ["tree", "found", "names"] ["tree", "found"] (defScope tx_ops) := ⟨rfl, rfl, rfl, by decide +kernel, rfl, by decide +kernel, by decide +kernel⟩
def f_ops (F_ops : FF) : SF :=
    (sSeq (sIf (bVal (vBin oEq (vBin oIx (vVar 0) (vC (.int 0))) (vC (.str "number"))))
      (sRet (vBin oAdd (vVar 1) (vLst (vConsD (vTake (vTup (vConsD (vTake (vC (.str "push"))) (vConsD (vTake (vBin oIx (vVar 0) (vC (.int 1)))) vNilD)))) vNilD))))
      sNil)
    (sSeq (sIf (bVal (vBin oEq (vBin oIx (vVar 0) (vC (.int 0))) (vC (.str "name"))))
      (sRet (vBin oAdd (vVar 1) (vLst (vConsD (vTake (vTup (vConsD (vTake (vC (.str "get"))) (vConsD (vTake (vBin oIx (vVar 0) (vC (.int 1)))) vNilD)))) vNilD))))
      sNil)
    (sSeq (sSet 1 (vCall F_ops (vConsH (vBin oIx (vVar 0) (vC (.int 1))) (vConsH (vRet (vTake (vVar 1))) vNilH))))
    (sSeq (sIf (bVal (vBin oEq (vBin oIx (vVar 0) (vC (.int 0))) (vC (.str "minus"))))
      (sRet (vBin oAdd (vVar 1) (vLst (vConsD (vTake (vTup (vConsD (vTake (vC (.str "neg"))) (vConsD (vTake (vC .non)) vNilD)))) vNilD))))
      sNil)
    (sSeq (sSet 2 (vLst (vConsD (vTake (vC (.str "add"))) (vConsD (vTake (vC (.str "sub"))) (vConsD (vTake (vC (.str "mul"))) (vConsD (vTake (vC (.str "div"))) (vConsD (vTake (vC (.str "less"))) (vConsD (vTake (vC (.str "same"))) (vConsD (vTake (vC (.str "more"))) vNilD)))))))))
    (sRet (vBin oAdd (vCall F_ops (vConsH (vBin oIx (vVar 0) (vC (.int 2))) (vConsH (vRet (vTake (vVar 1))) vNilH))) (vLst (vConsD (vTake (vTup (vConsD (vTake (vBin oIx (vVar 2) (vSidx (vC (.str "+-*/<=>")) (vBin oIx (vVar 0) (vC (.int 0)))))) (vConsD (vTake (vC .non)) vNilD)))) vNilD)))))))))
def F_ops : Nat → FF
  | 0 => fun _ => none
  | k + 1 => defF 3 2 (f_ops (F_ops k))
theorem st_ops (g : Gb mg K w) (F' : Fun K "_law_ops" "_law_ops" tx_ops f fd) (m : mg "_law_ops" = some (.ref f)) {F : FF} {k : Nat} (hk : 0 ≤ k) (d_ops : Df P w K mg base k "_law_ops" ["tree", "found"] F) : Df P w K mg base (k + 1) "_law_ops" ["tree", "found"] (defF 3 2 (f_ops F)) :=
  ⟨f, fd, fnV F' sc_ops (fun cdv A outer s H E hr => VSs.ex (have hu := hr.units; have sc := sc_ops;
    (vs_cons (v_ifS (vt_cmp (op_eqK (K := K) rfl hu) (fun _ e => e ▸ s_eq) (v_ix (K := K) (v_var 0) v_int) v_str)
      (vs_one (v_ret (v_add (K := K) (v_var 1) (v_lst (vds_cons (v_tup (vds_cons v_str (vds_cons (v_ix (K := K) (v_var 0) v_int) vds_nil))) vds_nil)))))
      vs_nil)
    (vs_cons (v_ifS (vt_cmp (op_eqK (K := K) rfl hu) (fun _ e => e ▸ s_eq) (v_ix (K := K) (v_var 0) v_int) v_str)
      (vs_one (v_ret (v_add (K := K) (v_var 1) (v_lst (vds_cons (v_tup (vds_cons v_str (vds_cons (v_ix (K := K) (v_var 0) v_int) vds_nil))) vds_nil)))))
      vs_nil)
    (vs_cons (v_set 1 sc.nd (v_call d_ops hr (vhs_cons (v_ix (K := K) (v_var 0) v_int) (vhs_cons (v_frz (v_var 1)) vhs_nil))))
    (vs_cons (v_ifS (vt_cmp (op_eqK (K := K) rfl hu) (fun _ e => e ▸ s_eq) (v_ix (K := K) (v_var 0) v_int) v_str)
      (vs_one (v_ret (v_add (K := K) (v_var 1) (v_lst (vds_cons (v_tup (vds_cons v_str (vds_cons v_non vds_nil))) vds_nil)))))
      vs_nil)
    (vs_cons (v_set 2 sc.nd (v_lst (vds_cons v_str (vds_cons v_str (vds_cons v_str (vds_cons v_str (vds_cons v_str (vds_cons v_str (vds_cons v_str vds_nil)))))))))
    (vs_one (v_ret (v_add (K := K) (v_call d_ops hr (vhs_cons (v_ix (K := K) (v_var 0) v_int) (vhs_cons (v_frz (v_var 1)) vhs_nil))) (v_lst (vds_cons (v_tup (vds_cons (v_ix (K := K) (v_var 2) (v_sidx v_str (v_ix (K := K) (v_var 0) v_int))) (vds_cons v_non vds_nil))) vds_nil)))))))))))), m, F'.kp, F'.binds (ps := ["tree", "found"]) fun _ _ _ _ _ _ us hl => match us, hl with | [_, _], _ => rfl⟩
theorem df_ops (g : Gb mg K w) (F' : Fun K "_law_ops" "_law_ops" tx_ops f fd) (m : mg "_law_ops" = some (.ref f))  : ∀ k, Df P w K mg base (0 + k) "_law_ops" ["tree", "found"] (F_ops k)
  | 0 => ⟨f, fd, fn_none (fun _ => rfl), m, F'.kp, F'.binds (ps := ["tree", "found"]) fun _ _ _ _ _ _ us hl => match us, hl with | [_, _], _ => rfl⟩
  | k + 1 => st_ops (k := 0 + k) g F' m (by omega) (df_ops g F' m  k)
/-! ### _law_words -/
abbrev tx_words : Stmt := top 70
theorem sc_words : FnScope ["tree", "word", "found", "part"] ["tree"] (defScope tx_words) := ⟨rfl, rfl, rfl, by decide +kernel, rfl, by decide +kernel, by decide +kernel⟩
def f_words : SF :=
    (sSeq (sSet 1 (vBin oIx (vVar 0) (vC (.int 0))))
    (sSeq (sIf (bVal (vBin oEq (vVar 1) (vC (.str "rem"))))
      (sRet (vLst (vConsD (vTake (vTup (vConsD (vTake (vC (.str "rem"))) (vConsD (vTake (vC .non)) vNilD)))) vNilD)))
      sNil)
    (sSeq (sIf (bVal (vBin oEq (vVar 1) (vC (.str "take"))))
      (sRet (vLst (vConsD (vTake (vTup (vConsD (vTake (vC (.str "take"))) (vConsD (vTake (vBin oIx (vVar 0) (vC (.int 1)))) vNilD)))) vNilD)))
      sNil)
    (sSeq (sIf (bVal (vBin oEq (vVar 1) (vC (.str "hear"))))
      (sRet (vLst (vConsD (vTake (vTup (vConsD (vTake (vC (.str "hear"))) (vConsD (vTake (vTup (vConsD (vTake (vBin oIx (vVar 0) (vC (.int 1)))) (vConsD (vTake (vBin oIx (vVar 0) (vC (.int 2)))) vNilD)))) vNilD)))) vNilD)))
      sNil)
    (sSeq (sIf (bVal (vBin oEq (vVar 1) (vC (.str "set"))))
      (sRet (vBin oAdd (vCall (F_ops 40) (vConsH (vBin oIx (vVar 0) (vC (.int 2))) (vConsH (vRet (vTake (vLst vNilD))) vNilH))) (vLst (vConsD (vTake (vTup (vConsD (vTake (vC (.str "set"))) (vConsD (vTake (vBin oIx (vVar 0) (vC (.int 1)))) vNilD)))) vNilD))))
      sNil)
    (sSeq (sIf (bVal (vBin oEq (vVar 1) (vC (.str "go"))))
      (sRet (vIf (bVal (vBin oIsN (vBin oIx (vVar 0) (vC (.int 2))) (vC .non))) (vLst (vConsD (vTake (vTup (vConsD (vTake (vC (.str "go"))) (vConsD (vTake (vBin oIx (vVar 0) (vC (.int 1)))) vNilD)))) vNilD)) (vBin oAdd (vCall (F_ops 40) (vConsH (vBin oIx (vVar 0) (vC (.int 2))) (vConsH (vRet (vTake (vLst vNilD))) vNilH))) (vLst (vConsD (vTake (vTup (vConsD (vTake (vC (.str "if"))) (vConsD (vTake (vBin oIx (vVar 0) (vC (.int 1)))) vNilD)))) vNilD)))))
      sNil)
    (sSeq (sIf (bVal (vBin oEq (vVar 1) (vC (.str "back"))))
      (sRet (vIf (bVal (vBin oIsN (vBin oIx (vVar 0) (vC (.int 1))) (vC .non))) (vLst (vConsD (vTake (vTup (vConsD (vTake (vC (.str "back"))) (vConsD (vTake (vC (.int 0))) vNilD)))) vNilD)) (vBin oAdd (vCall (F_ops 40) (vConsH (vBin oIx (vVar 0) (vC (.int 1))) (vConsH (vRet (vTake (vLst vNilD))) vNilH))) (vLst (vConsD (vTake (vTup (vConsD (vTake (vC (.str "back"))) (vConsD (vTake (vC (.int 1))) vNilD)))) vNilD)))))
      sNil)
    (sSeq (sIf (bVal (vBin oNe (vVar 1) (vC (.str "call"))))
      (sRet (vBin oAdd (vCall (F_ops 40) (vConsH (vBin oIx (vVar 0) (vC (.int 1))) (vConsH (vRet (vTake (vLst vNilD))) vNilH))) (vLst (vConsD (vTake (vTup (vConsD (vTake (vVar 1)) (vConsD (vTake (vC .non)) vNilD)))) vNilD))))
      sNil)
    (sSeq (sSet 2 (vLst vNilD))
    (sSeq (sFor (iSeq (vBin oIx (vVar 0) (vC (.int 2)))) (gN 3)
      (sSet 2 (vCall (F_ops 40) (vConsH (vVar 3) (vConsH (vRet (vTake (vVar 2))) vNilH)))))
    (sRet (vBin oAdd (vVar 2) (vLst (vConsD (vTake (vTup (vConsD (vTake (vC (.str "call"))) (vConsD (vTake (vTup (vConsD (vTake (vBin oIx (vVar 0) (vC (.int 1)))) (vConsD (vTake (vCallB oLen (vConsH (vBin oIx (vVar 0) (vC (.int 2))) vNilH))) (vConsD (vTake (vBin oIx (vVar 0) (vC (.int 3)))) vNilD))))) vNilD)))) vNilD))))))))))))))
def F_words : FF := defF 4 1 f_words
theorem df_words (g : Gb mg K w) (F' : Fun K "_law_words" "_law_words" tx_words f fd) (m : mg "_law_words" = some (.ref f)) (d_ops : Df P w K mg base 40 "_law_ops" ["tree", "found"] (F_ops 40)) : Df P w K mg base 41 "_law_words" ["tree"] F_words :=
  ⟨f, fd, fnV F' sc_words (fun cdv A outer s H E hr => VSs.ex (have hu := hr.units; have sc := sc_words;
    (vs_cons (v_set 1 sc.nd (v_ix (K := K) (v_var 0) v_int))
    (vs_cons (v_ifS (vt_cmp (op_eqK (K := K) rfl hu) (fun _ e => e ▸ s_eq) (v_var 1) v_str)
      (vs_one (v_ret (v_lst (vds_cons (v_tup (vds_cons v_str (vds_cons v_non vds_nil))) vds_nil))))
      vs_nil)
    (vs_cons (v_ifS (vt_cmp (op_eqK (K := K) rfl hu) (fun _ e => e ▸ s_eq) (v_var 1) v_str)
      (vs_one (v_ret (v_lst (vds_cons (v_tup (vds_cons v_str (vds_cons (v_ix (K := K) (v_var 0) v_int) vds_nil))) vds_nil))))
      vs_nil)
    (vs_cons (v_ifS (vt_cmp (op_eqK (K := K) rfl hu) (fun _ e => e ▸ s_eq) (v_var 1) v_str)
      (vs_one (v_ret (v_lst (vds_cons (v_tup (vds_cons v_str (vds_cons (v_tup (vds_cons (v_ix (K := K) (v_var 0) v_int) (vds_cons (v_ix (K := K) (v_var 0) v_int) vds_nil))) vds_nil))) vds_nil))))
      vs_nil)
    (vs_cons (v_ifS (vt_cmp (op_eqK (K := K) rfl hu) (fun _ e => e ▸ s_eq) (v_var 1) v_str)
      (vs_one (v_ret (v_add (K := K) (v_call d_ops hr (vhs_cons (v_ix (K := K) (v_var 0) v_int) (vhs_cons (v_frz (v_lst vds_nil)) vhs_nil))) (v_lst (vds_cons (v_tup (vds_cons v_str (vds_cons (v_ix (K := K) (v_var 0) v_int) vds_nil))) vds_nil)))))
      vs_nil)
    (vs_cons (v_ifS (vt_cmp (op_eqK (K := K) rfl hu) (fun _ e => e ▸ s_eq) (v_var 1) v_str)
      (vs_one (v_ret (v_if (vt_cmp op_isN2 (fun _ _ => s_isN) (v_ix (K := K) (v_var 0) v_int) v_non) (v_lst (vds_cons (v_tup (vds_cons v_str (vds_cons (v_ix (K := K) (v_var 0) v_int) vds_nil))) vds_nil)) (v_add (K := K) (v_call d_ops hr (vhs_cons (v_ix (K := K) (v_var 0) v_int) (vhs_cons (v_frz (v_lst vds_nil)) vhs_nil))) (v_lst (vds_cons (v_tup (vds_cons v_str (vds_cons (v_ix (K := K) (v_var 0) v_int) vds_nil))) vds_nil))))))
      vs_nil)
    (vs_cons (v_ifS (vt_cmp (op_eqK (K := K) rfl hu) (fun _ e => e ▸ s_eq) (v_var 1) v_str)
      (vs_one (v_ret (v_if (vt_cmp op_isN2 (fun _ _ => s_isN) (v_ix (K := K) (v_var 0) v_int) v_non) (v_lst (vds_cons (v_tup (vds_cons v_str (vds_cons v_int vds_nil))) vds_nil)) (v_add (K := K) (v_call d_ops hr (vhs_cons (v_ix (K := K) (v_var 0) v_int) (vhs_cons (v_frz (v_lst vds_nil)) vhs_nil))) (v_lst (vds_cons (v_tup (vds_cons v_str (vds_cons v_int vds_nil))) vds_nil))))))
      vs_nil)
    (vs_cons (v_ifS (vt_cmp (op_neK (K := K) rfl hu) (fun _ e => e ▸ s_ne) (v_var 1) v_str)
      (vs_one (v_ret (v_add (K := K) (v_call d_ops hr (vhs_cons (v_ix (K := K) (v_var 0) v_int) (vhs_cons (v_frz (v_lst vds_nil)) vhs_nil))) (v_lst (vds_cons (v_tup (vds_cons (v_var 1) (vds_cons v_non vds_nil))) vds_nil)))))
      vs_nil)
    (vs_cons (v_set 2 sc.nd (v_lst vds_nil))
    (vs_cons (v_for (vi_seq (K := K) (v_ix (K := K) (v_var 0) v_int)) (vg_name 3 sc.nd)
      (vs_one (v_set 2 sc.nd (v_call d_ops hr (vhs_cons (v_var 3) (vhs_cons (v_frz (v_var 2)) vhs_nil))))))
    (vs_one (v_ret (v_add (K := K) (v_var 2) (v_lst (vds_cons (v_tup (vds_cons v_str (vds_cons (v_tup (vds_cons (v_ix (K := K) (v_var 0) v_int) (vds_cons (v_callB (call_lenK2 (K := K) rfl) (fun _ e => e ▸ s_len) PySem.boot_len g.b_len (vhs_cons (v_ix (K := K) (v_var 0) v_int) vhs_nil)) (vds_cons (v_ix (K := K) (v_var 0) v_int) vds_nil)))) vds_nil))) vds_nil))))))))))))))))), m, F'.kp, F'.binds (ps := ["tree"]) fun _ _ _ _ _ _ us hl => match us, hl with | [_], _ => rfl⟩
/-! ### law -/
abbrev tx_law : Stmt := top 71
theorem sc_law : FnScope ["script", "turn", "source", "tree", "text", "places", "told", "words", "due", "odd", "at"] ["script"] (defScope tx_law) := ⟨rfl, rfl, rfl, by decide +kernel, rfl, by decide +kernel, by decide +kernel⟩
def f_law : SF :=
    (sSeq (sFor (iR1 (vConsH (vC (.int 6)) vNilH)) (gN 1)
      (sSeq (sSet 2 (vCall F_source (vConsH (vVar 0) (vConsH (vVar 1) vNilH))))
    (sSeq (sSet 3 (vCall F_formed (vConsH (vVar 2) vNilH)))
    (sSeq (sAsg (vTake (vCall F_spread (vConsH (vVar 2) (vConsH (vVar 3) vNilH)))) (gT 2 (gConsF (gN 4) (gConsF (gN 5) gNilF))))
    (sSeq (sSet 6 (vCall F_columns_of (vConsH (vVar 4) vNilH)))
    (sSeq (sIf (bNot (bTru (vCall (F_same 6) (vConsH (vVar 6) (vConsH (vVar 5) vNilH)))))
      (sRet (vC (.bl false)))
      sNil)
    (sSeq (sDrop (vMt 6 "list" mAppend (vConsD (vTake (vTup (vConsD (vTake (vC (.int 1))) (vConsD (vTake (vC (.int 1))) vNilD)))) vNilD)))
    (sSeq (sSetIx 6 (vTake (vTup (vConsD (vTake (vC (.int 0))) (vConsD (vTake (vC (.int 0))) vNilD)))) (vC (.int 0)))
    (sSeq (sSet 7 (vCall F_words (vConsH (vVar 3) vNilH)))
    (sSeq (sSet 8 (vLc (iR1 (vConsH (vCallB oLen (vConsH (vVar 7) vNilH)) vNilH)) (gN 10) bYes (vTake (vBin oAdd (vBin oIx (vVar 7) (vVar 10)) (vBin oIx (vVar 5) (vVar 10)))) [10]))
    (sIf (bOr (bVal (vBin oNe (vCallB oLen (vConsH (vVar 7) vNilH)) (vCallB oLen (vConsH (vVar 5) vNilH)))) (bOr (bNot (bTru (vCall (F_same 6) (vConsH (vCall F_compile_code (vConsH (vVar 4) vNilH)) (vConsH (vVar 8) vNilH))))) (bNot (bTru (vCall (F_same 6) (vConsH (vCall F_columns_of (vConsH (vVar 4) vNilH)) (vConsH (vVar 5) vNilH)))))))
      (sRet (vC (.bl false)))
      sNil)))))))))))
    (sSeq (sSet 9 (vBin oAdd (vBin oAdd (vC (.str "tell ")) (vCall F_stem (vConsH (vCall F_source (vConsH (vVar 0) (vConsH (vC (.int 6)) vNilH))) (vConsH (vC (.int 8)) vNilH)))) (vC (.str " ="))))
    (sSeq (sIf (bOr (bNot (bTru (vCall (F_same 6) (vConsH (vCall F_columns_of (vConsH (vBin oAdd (vC (.str "!")) (vVar 9)) vNilH)) (vConsH (vLst vNilD) vNilH))))) (bNot (bTru (vCall (F_same 6) (vConsH (vCall F_columns_of (vConsH (vVar 9) vNilH)) (vConsH (vLst (vConsD (vTake (vTup (vConsD (vTake (vC (.int 1))) (vConsD (vTake (vCallB oLen (vConsH (vVar 9) vNilH))) vNilD)))) vNilD)) vNilH))))))
      (sRet (vC (.bl false)))
      sNil)
    (sRet (vCall (F_same 6) (vConsH (vCall F_compile_code (vConsH (vVar 9) vNilH)) (vConsH (vLst (vConsD (vTake (vTup (vConsD (vTake (vC (.str "wrong"))) (vConsD (vTake (vC .non)) (vConsD (vTake (vC (.int 1))) (vConsD (vTake (vCallB oLen (vConsH (vVar 9) vNilH))) vNilD)))))) vNilD)) vNilH)))))))
def F_law : FF := defF 11 1 f_law
theorem ok_law (g : Gb mg K w) (F' : Fun K "law" "law" tx_law f fd) (d_source : Df P w K mg base 1 "_law_source" ["script", "at"] F_source) (d_formed : Df P w K mg base 11 "_law_formed" ["source"] F_formed) (d_spread : Df P w K mg base 43 "_law_spread" ["source", "tree"] F_spread) (d_columns_of : Df P w K mg base 8 "columns_of" ["text"] F_columns_of) (d_same : Df P w K mg base 6 "_law_same" ["answer", "due"] (F_same 6)) (d_words : Df P w K mg base 41 "_law_words" ["tree"] F_words) (d_compile_code : Df P w K mg base 41 "compile_code" ["text"] F_compile_code) (d_stem : Df P w K mg base 2 "_law_stem" ["source", "most"] F_stem) : FnOk P w K mg base CX0 44 f fd ["script"] (spV K F_law) :=
  fnV F' sc_law (fun cdv A outer s H E hr => VSs.ex (have hu := hr.units; have sc := sc_law;
    (vs_cons (v_for (vi_r1 g.b_range (vhs_cons v_int vhs_nil)) (vg_name 1 sc.nd)
      (vs_cons (v_set 2 sc.nd (v_call d_source hr (vhs_cons (v_var 0) (vhs_cons (v_var 1) vhs_nil))))
    (vs_cons (v_set 3 sc.nd (v_call d_formed hr (vhs_cons (v_var 2) vhs_nil)))
    (vs_cons (v_asg (v_call d_spread hr (vhs_cons (v_var 2) (vhs_cons (v_var 3) vhs_nil))) (vg_tup (K := K) (vgs_cons (vg_name 4 sc.nd) (vgs_cons (vg_name 5 sc.nd) vgs_nil))))
    (vs_cons (v_set 6 sc.nd (v_call d_columns_of hr (vhs_cons (v_var 4) vhs_nil)))
    (vs_cons (v_ifS (vt_not (vt_tru (K := K) (v_call d_same hr (vhs_cons (v_var 6) (vhs_cons (v_var 5) vhs_nil)))))
      (vs_one (v_ret v_bl))
      vs_nil)
    (vs_cons (v_expr (v_append 6 (v_var 6) (v_tup (vds_cons v_int (vds_cons v_int vds_nil)))))
    (vs_cons (v_setIx 6 (v_var 6) v_int (v_tup (vds_cons v_int (vds_cons v_int vds_nil))))
    (vs_cons (v_set 7 sc.nd (v_call d_words hr (vhs_cons (v_var 3) vhs_nil)))
    (vs_cons (v_setLc 8 [("at", 10)] sc.nd (sw_true rfl rfl rfl (by decide +kernel)) (vi_r1 g.b_range (vhs_cons (v_callB (call_lenK2 (K := K) rfl) (fun _ e => e ▸ s_len) PySem.boot_len g.b_len (vhs_cons (v_var 7) vhs_nil)) vhs_nil)) (by kernel_rfl) (fun _ _ _ _ _ => (vg_name 10 sc.nd)) (fun _ _ _ _ _ => by exact vts_nil) (fun _ _ _ _ _ => by exact (v_add (K := K) (v_ix (K := K) (v_var 7) (v_var 10)) (v_ix (K := K) (v_var 5) (v_var 10)))))
    (vs_one (v_ifS (vw_t (vw_or (vt_cmp (op_neK (K := K) rfl hu) (fun _ e => e ▸ s_ne) (v_callB (call_lenK2 (K := K) rfl) (fun _ e => e ▸ s_len) PySem.boot_len g.b_len (vhs_cons (v_var 7) vhs_nil)) (v_callB (call_lenK2 (K := K) rfl) (fun _ e => e ▸ s_len) PySem.boot_len g.b_len (vhs_cons (v_var 5) vhs_nil))) (vw_or (vt_not (vt_tru (K := K) (v_call d_same hr (vhs_cons (v_call d_compile_code hr (vhs_cons (v_var 4) vhs_nil)) (vhs_cons (v_var 8) vhs_nil))))) (vw_or1 (vt_not (vt_tru (K := K) (v_call d_same hr (vhs_cons (v_call d_columns_of hr (vhs_cons (v_var 4) vhs_nil)) (vhs_cons (v_var 5) vhs_nil)))))))))
      (vs_one (v_ret v_bl))
      vs_nil))))))))))))
    (vs_cons (v_set 9 sc.nd (v_add (K := K) (v_add (K := K) v_str (v_call d_stem hr (vhs_cons (v_call d_source hr (vhs_cons (v_var 0) (vhs_cons v_int vhs_nil))) (vhs_cons v_int vhs_nil)))) v_str))
    (vs_cons (v_ifS (vw_t (vw_or (vt_not (vt_tru (K := K) (v_call d_same hr (vhs_cons (v_call d_columns_of hr (vhs_cons (v_add (K := K) v_str (v_var 9)) vhs_nil)) (vhs_cons (v_lst vds_nil) vhs_nil))))) (vw_or1 (vt_not (vt_tru (K := K) (v_call d_same hr (vhs_cons (v_call d_columns_of hr (vhs_cons (v_var 9) vhs_nil)) (vhs_cons (v_lst (vds_cons (v_tup (vds_cons v_int (vds_cons (v_callB (call_lenK2 (K := K) rfl) (fun _ e => e ▸ s_len) PySem.boot_len g.b_len (vhs_cons (v_var 9) vhs_nil)) vds_nil))) vds_nil)) vhs_nil))))))))
      (vs_one (v_ret v_bl))
      vs_nil)
    (vs_one (v_ret (v_call d_same hr (vhs_cons (v_call d_compile_code hr (vhs_cons (v_var 9) vhs_nil)) (vhs_cons (v_lst (vds_cons (v_tup (vds_cons v_str (vds_cons v_non (vds_cons v_int (vds_cons (v_callB (call_lenK2 (K := K) rfl) (fun _ e => e ▸ s_len) PySem.boot_len g.b_len (vhs_cons (v_var 9) vhs_nil)) vds_nil))))) vds_nil)) vhs_nil))))))))))
end
end K39

set_option maxRecDepth 100000
set_option maxHeartbeats 4000000
namespace K39
open PV PySem L2
local macro_rules | `(tactic| walk_at "all") => `(tactic| repeat' (first | walk_at "1" | ((with_reducible refine lend_ok ?_ ?_); (focus rfl)) | ((with_reducible apply wbx); (focus (walk_at "wb"; done)); (focus rfl)) | walk_at "tf" | walk_at "isi" | walk_at "both" | with_reducible refine ixL3 (by omega) (by omega) ?_ ?_ ?_))
local macro_rules | `(tactic| walk_at "run") => `(tactic| repeat (first | walk_at "1" | ((with_reducible refine lend_ok ?_ ?_); (focus rfl)) | ((with_reducible apply wbx); (focus (walk_at "wb"; done)); (focus rfl)) | walk_at "tf" | walk_at "isi"))
local macro_rules | `(tactic| walk_at "isi") => `(tactic| ((with_reducible show XO (oIsi _) _); first
  | refine isiT (c := .bool) rfl rfl rfl ?_ | refine isiF (c := .bool) rfl rfl rfl ?_ | refine isiT (c := .int) rfl rfl rfl ?_ | refine isiF (c := .int) rfl rfl rfl ?_ | refine isiT (c := .str) rfl rfl rfl ?_ | refine isiF (c := .str) rfl rfl rfl ?_
  | refine isiT (c := .dict) rfl rfl rfl ?_ | refine isiF (c := .dict) rfl rfl rfl ?_ | refine isiT (c := .tuple) rfl rfl rfl ?_ | refine isiF (c := .tuple) rfl rfl rfl ?_ | refine isiT (c := .list) rfl rfl rfl ?_ | refine isiF (c := .list) rfl rfl rfl ?_))
local macro_rules | `(tactic| walk_at "both") => `(tactic| with_reducible first | refine tf_d (fun _ => ?_) fun _ => ?_ | refine tf_nd (fun _ => ?_) fun _ => ?_ | refine tf_b (fun _ => ?_) fun _ => ?_)
local macro_rules | `(tactic| walk_at "tf") => `(tactic| with_reducible first | refine tf_T (by decide +kernel) ?_ | refine tf_F (by decide +kernel) ?_ | refine tf_T (decide_eq_true (by omega)) ?_ | refine tf_T (decide_eq_true (by simp only [List.length_cons]; omega)) ?_ | refine tf_F (decide_eq_false (by omega)) ?_ | refine tf_F (decide_eq_false (by assumption)) ?_ | refine tf_T (decide_eq_true (by assumption)) ?_ | refine tf_T (nd_T (by omega)) ?_ | refine tf_F (nd_F (by omega)) ?_ | refine tf_T (nd_T (by assumption)) ?_ | refine tf_F (nd_F (by assumption)) ?_)
local macro_rules | `(tactic| walk_at "wb") => `(tactic| (repeat (first | exact Wb.nil | apply Wb.tmp | apply Wb.shr | (apply Wb.ol'; (focus rfl)) | (apply Wb.od'; (focus rfl)) | (exact Chg.z) | apply Chg.s)))
local macro_rules | `(tactic| walk_at "op") => `(tactic| with_reducible first | refine xal ?_ | refine xals ?_ | (apply xat; (focus (first | exact at0 | exact at1 | exact at2 | assumption))) | refine trI ?_ | refine trB ?_ | refine trN ?_ | refine trL ?_ | refine trLs ?_)
local macro_rules | `(tactic| walk_at "op") => `(tactic| with_reducible first | refine xo_minN ?_ | refine xo_max ?_ | refine xo_min ?_ | (apply strI; (focus omega)) | (apply xo_addN; (focus decide +kernel); (focus omega)) | (apply xo_addS; (focus decide +kernel)) | (apply xo_addT; (focus (refine ⟨List.cons_ne_nil _ _, List.cons_ne_nil _ _, ?_⟩; simp only [List.length_cons, List.length_nil]; omega))) | refine xai ?_ | refine xab ?_)
local macro_rules | `(tactic| walk_at "op") => `(tactic| with_reducible first | refine lsL ?_ | refine lsLs ?_ | refine lsT ?_ | refine slL ?_ | refine slLs ?_ | refine xo_intI ?_ | refine xo_abs ?_ | refine xo_maxN ?_ | refine xo_max1 ?_)
local macro_rules | `(tactic| walk_at "op") => `(tactic| with_reducible first | (apply ixLs; (focus (first | exact at0 | exact at1 | exact at2 | assumption))) | (apply ixT; (focus (first | exact at0 | exact at1 | exact at2 | assumption))) | refine lnL ?_ | refine lnLs ?_ | refine lnT ?_ | refine lnSc ?_ | refine slSc ?_ | (apply ixSc; (focus (first | exact at0 | exact at1 | exact at2 | assumption))) | (apply xo_sumL rfl))
local macro_rules | `(tactic| walk_at "op") => `(tactic| with_reducible first | refine isN2 ?_ | refine isN3 ?_ | refine isN4 ?_ | refine isN5 ?_ | refine noN ?_ | refine noN0 ?_ | refine noN1 ?_ | refine noN2 ?_ | (apply ixL; (focus (first | exact at0 | exact at1 | exact at2 | assumption))))
local macro_rules | `(tactic| walk_at "op") => `(tactic| with_reducible first | refine xo_ge ?_ | refine xo_neg ?_ | refine eqI ?_ | refine neI ?_ | refine eqSt ?_ | refine neSt ?_ | refine isN ?_ | refine isN0 ?_ | refine isN1 ?_)
local macro_rules | `(tactic| walk_at "op") => `(tactic| with_reducible first | refine xo_sub ?_ | (apply xo_mul; (focus (first | exact mulR (by decide) | exact mulL (by decide) | exact mulR (by omega) | exact mulL (by omega) | exact mulW (by decide +kernel)))) | (apply xo_div; (focus (first | exact divK (by decide) | exact divK (by omega)))) | (apply xo_modP; (focus (first | decide | omega | decide +kernel)); intro _ _ _) | (apply xo_mod; (focus (first | decide | omega | decide +kernel))) | (apply xo_pow; focus exact powK (by decide)) | refine xo_lt ?_ | refine xo_le ?_ | refine xo_gt ?_)
local macro_rules | `(tactic| walk_at "op") => `(tactic| with_reducible first | refine xo_neD ?_ | refine xo_eqD ?_ | refine xas ?_ | refine xo_strAS ?_ | refine xo_inStr ?_ | refine xo_notInStr ?_ | refine xo_inG ?_ | refine xo_addI ?_ | refine xo_addI' ?_)
local macro_rules | `(tactic| walk_at "op") => `(tactic| with_reducible first | (apply xp_g; (focus (walk_at "at"; done))) | refine xr_o ?_ | refine ak_o ?_ | refine ak_s ?_ | refine ko_s ?_ | refine ko_i ?_ | refine xo_dget ?_ | refine xo_din ?_ | refine xo_dict ?_)
local macro_rules | `(tactic| walk_at "op") => `(tactic| with_reducible first | (apply xg_v; (focus (walk_at "at"; done))) | refine xg_t ?_ | refine xh_nil ?_ | (apply xh_v; (focus (walk_at "at"; done))) | refine xh_t ?_ | (refine xg_T rfl ?_) | refine xg_nil ?_ | refine xg_cons ?_ | (apply xw_s; (focus (walk_at "at"; done))))
local macro_rules | `(tactic| walk_at "1") => `(tactic| with_reducible first | refine par2 ?_ | refine lenAnd (by simp only [List.length_cons, List.length_nil]; omega) ?_ | (apply r1N; (focus omega)) | (apply r2S; (focus omega)) | (apply r1; (focus omega)) | (apply r2; (focus omega)) | refine xl_nil' ?_ | (apply def_rt; (focus (walk_at "at"; done))) | (apply def_nx; (focus (walk_at "at"; done))))
local macro_rules | `(tactic| walk_at "1") => `(tactic| with_reducible first | (apply xsi; (focus (walk_at "at"; done))) | refine ex_shr ?_ | refine len15 (by simp only [List.length_cons, List.length_nil]; omega) ?_ | (apply xsd; (focus (walk_at "at"; done))) | refine par3 ?_ | (apply acc2; (focus (first | omega | (simp only [List.length_cons, List.length_nil, List.length_append]; omega))); (focus (walk_at "at"; done)); (focus (walk_at "at"; done))))
local macro_rules | `(tactic| walk_at "1") => `(tactic| with_reducible ((show XPs _ _ _); (first | refine xps_nil ?_ | refine xps_cons ?_)))
local macro_rules | `(tactic| walk_at "1") => `(tactic| with_reducible ((show XLk _ _ _); (first | refine xlk_t ?_ | (apply xlk_s; (focus (walk_at "at"; done))) | (apply xlk_l; (focus (walk_at "at"; done))))))
local macro_rules | `(tactic| walk_at "1") => `(tactic| with_reducible ((show XJ _ _); (first | refine xj_l ?_ | refine xj_ls ?_ | refine xj_t ?_ | refine xj_s ?_)))
local macro_rules | `(tactic| walk_at "1") => `(tactic| with_reducible ((show lcQ2 _ _ _ _ _ _ _ _); (first | (apply lc2_n; (focus (walk_at "at"; done)); (focus (walk_at "at"; done)); (focus (walk_at "at"; done)); (focus (walk_at "at"; done))) | (apply lc2_l; (focus (walk_at "at"; done)); (focus (walk_at "at"; done)); (focus (walk_at "at"; done)); (focus (walk_at "at"; done)); (focus (walk_at "at"; done))))))
local macro_rules | `(tactic| walk_at "1") => `(tactic| with_reducible ((show lcQ _ _ _ _ _ _ _ _); (first | (apply lc_n; (focus (walk_at "at"; done)); (focus (walk_at "at"; done))) | (apply lc_l; (focus (walk_at "at"; done)); (focus (walk_at "at"; done)); (focus (walk_at "at"; done))))))
local macro_rules | `(tactic| walk_at "1") => `(tactic| with_reducible ((show forQ _ _ _ _ _ _); (first | refine for_n ?_ | (apply for_l; (focus (walk_at "at"; done))))))
local macro_rules | `(tactic| walk_at "1") => `(tactic| with_reducible ((show unlQ _ _ _); (first | refine unl_n ?_ | (apply unl_nx; (focus (walk_at "at"; done))) | refine unl_rt ?_)))
local macro_rules | `(tactic| walk_at "1") => `(tactic| with_reducible ((show turnQ _ _ _); (first | refine turn_nx ?_ | refine turn_ct ?_ | refine turn_bk ?_ | refine turn_rt ?_)))
local macro_rules | `(tactic| walk_at "1") => `(tactic| with_reducible ((show XC _ _ _ _ _ _ _ _); (first | refine xc_nil' ?_ | refine xc2_nil ?_ | refine xc2_cons ?_ | refine xc_yes1 ?_)))
local macro_rules | `(tactic| walk_at "1") => `(tactic| with_reducible ((show XM _ _ _ _); (first | (apply xm_set; (focus (walk_at "at"; done)); (focus (first | exact setL0 | exact setL1 | exact setL2 | assumption)); (focus (walk_at "at"; done))) | (apply xm_app; (focus (walk_at "at"; done)); (focus (first | assumption | omega | decide | (simp only [List.length_append, List.length_cons, List.length_nil]; omega))); (focus (walk_at "at"; done))) | (apply xm_put; (focus (walk_at "at"; done)); (focus omega); (focus (walk_at "at"; done))) | (apply xm_pop0; (focus (walk_at "at"; done)); (focus (walk_at "at"; done))) | (apply xm_pop; (focus (walk_at "at"; done)); (focus (walk_at "at"; done))))))
local macro_rules | `(tactic| walk_at "1") => `(tactic| with_reducible ((show XRt _ _ _); (first | refine xrt_t ?_ | (apply xrt_s; (focus (walk_at "at"; done))) | (apply xrt_pl; (focus (walk_at "at"; done))) | (apply xrt_l; (focus (walk_at "at"; done)); (focus (walk_at "at"; done))) | (apply xrt_k; (focus (walk_at "at"; done)); (focus (walk_at "at"; done))) | (apply xrt_pk; (focus (walk_at "at"; done))))))
local macro_rules | `(tactic| walk_at "1") => `(tactic| with_reducible ((show XI _ _ _); (first | refine xi_r1' ?_ | refine xi_r2' ?_ | refine xi_seq' ?_)))
local macro_rules | `(tactic| walk_at "1") => `(tactic| with_reducible ((show XP _ _ _); (first | refine xp_no ?_ | refine xp_some ?_)))
local macro_rules | `(tactic| walk_at "1") => `(tactic| with_reducible ((show seqQ _ _ _); (first | refine seq_nx ?_ | refine seq_rt ?_ | refine seq_bk ?_ | refine seq_ct ?_)))
local macro_rules | `(tactic| walk_at "1") => `(tactic| with_reducible ((show XW _ _ _ _); (first | (apply xw_t; (focus (walk_at "at"; done))) | refine xw_v ?_)))
local macro_rules | `(tactic| walk_at "1") => `(tactic| with_reducible ((show XT _ _ _); (first | refine xt_s ?_ | refine xt_l ?_ | refine xt_k ?_ | (apply xt_vs; (focus (walk_at "at"; done))) | (apply xt_vl; (focus (walk_at "at"; done))) | (apply xt_vk; (focus (walk_at "at"; done))))))
local macro_rules | `(tactic| walk_at "1") => `(tactic| with_reducible ((show XD _ _ _); (first | refine xd ?_)))
local macro_rules | `(tactic| walk_at "1") => `(tactic| with_reducible ((show TF _ _ _); (first | refine tf_t ?_ | refine tf_f ?_)))
local macro_rules | `(tactic| walk_at "1") => `(tactic| with_reducible ((show XHs _ _ _); (first | refine xhs_nil ?_ | refine xhs_cons ?_)))
local macro_rules | `(tactic| walk_at "1") => `(tactic| with_reducible ((show XDs _ _ _); (first | refine xds_nil ?_ | refine xds_cons ?_)))
local macro_rules | `(tactic| walk_at "1") => `(tactic| with_reducible ((show XB _ _ _); (first | refine xb_and' ?_ | refine xb_or' ?_ | refine xb_not ?_ | refine xb_val ?_ | refine xb_tru ?_ | refine xb_yes ?_)))
local macro_rules | `(tactic| walk_at "1") => `(tactic| with_reducible ((show XS _ _ _); (first | refine xs_seq' ?_ | refine xs_nil ?_ | refine xs_set' ?_ | refine xs_asg ?_ | refine xs_par2 ?_ | refine xs_drop ?_ | refine xs_ret' ?_ | refine xs_retN ?_ | refine xs_if' ?_ | refine xs_brk ?_ | refine xs_cont ?_ | refine xs_for' ?_ | (refine xs_setIx2 ?_) | (apply xs_augIx'L; (focus (walk_at "at"; done))) | (apply xs_aug'; (focus (walk_at "at"; done))) | refine xs_setDx ?_ | refine xs_par3 ?_)))
local macro_rules | `(tactic| walk_at "1") => `(tactic| with_reducible ((show XE _ _ _); (first | (apply xv; (focus (walk_at "at"; done))) | refine xe_c ?_ | refine xe_bin ?_ | refine xe_un ?_ | refine xe_if' ?_ | refine xe_B ?_ | refine xe_callB ?_ | refine xe_tup ?_ | refine xe_lst ?_ | refine xe_sl ?_ | (apply xe_mt'L; (focus (walk_at "at"; done))) | refine xe_lc' ?_ | (refine xe_call' ?_) | refine xe_o ?_ | refine xe_get2 ?_ | refine xe_get1 ?_ | refine xe_disp ?_ | refine xe_join ?_ | refine xe_lc2 ?_ | refine xe_sidx ?_)))
local macro_rules | `(tactic| walk_at "1") => `(tactic| with_reducible ((show XO _ _); (walk_at "op")))
local macro_rules | `(tactic| walk_at "at") => `(tactic| with_reducible first | ((repeat (apply At.s)); (exact At.z)) | ((repeat (apply Put.s)); (first | exact Put.n | exact Put.z | exact Put.f (by assumption))) | ((repeat (apply Chg.s)); (exact Chg.z)) | ((repeat (apply SetAt.s)); (exact SetAt.z)) | ((repeat (apply Slt.s)); (exact Slt.z)) | ((repeat (apply Fin'.s)); (exact Fin'.z)) | ((repeat (first | apply Ini.shr | apply Ini.n | apply Ini.ol | apply Ini.od)); (exact Ini.z)) | exact Wb.nil)
local macro_rules | `(tactic| walk_at "1") => `(tactic| with_reducible ((show XE _ _ _); (first | refine xe_chain ?_ | refine xe_sm ?_ | refine xe_fst ?_ | refine xe_snd ?_)))
local macro_rules | `(tactic| walk_at "1") => `(tactic| with_reducible ((show XS _ _ _); (first | refine xs_ret2 ?_ | refine xs_or ?_)))
local macro_rules | `(tactic| walk_at "1") => `(tactic| with_reducible ((show XPr _ _ _); (first | refine xpr_tup ?_ | refine xpr_call ?_)))
local macro_rules | `(tactic| walk_at "1") => `(tactic| with_reducible ((show XI _ _ _); (first | refine xi_zip ?_ | refine xi_str ?_)))
local macro_rules | `(tactic| walk_at "1") => `(tactic| with_reducible ((show wlQ _ _ _ _); (first | refine wl_bk ?_ | refine wl_rt ?_)))
local macro_rules | `(tactic| walk_at "1") => `(tactic| with_reducible ((show ret2Q _ _ _); (first | refine ret2_n ?_ | refine ret2_s ?_)))
local macro_rules | `(tactic| walk_at "1") => `(tactic| with_reducible ((show orQ _ _ _ _ _); (first | (apply or_n; (focus (walk_at "at"; done))) | (apply or_s; (focus (walk_at "at"; done)); (focus (walk_at "at"; done))))))
local macro_rules | `(tactic| walk_at "1") => `(tactic| with_reducible first | refine lendP rfl ?_ | refine ol_tmp ?_ | refine some2 ?_ | refine zip2 ?_)
local macro_rules | `(tactic| walk_at "op") => `(tactic| with_reducible first | refine pr_n ?_ | refine pr_t ?_ | refine xo_inGI ?_ | (apply xo_ixGI; (focus (first | rfl | assumption))) | refine xo_leS ?_)
/-! ### plain: signs, trees, tokens, the parser -/
inductive Op | add | sub | mul | div | lt | eq | gt
deriving DecidableEq
def Op.str : Op → Str
  | .add => "+" | .sub => "-" | .mul => "*" | .div => "/" | .lt => "<" | .eq => "=" | .gt => ">"
def Op.cd : Op → Nat
  | .add => 43 | .sub => 45 | .mul => 42 | .div => 47 | .lt => 60 | .eq => 61 | .gt => 62
def Op.nam : Op → Str
  | .add => "add" | .sub => "sub" | .mul => "mul" | .div => "div" | .lt => "less" | .eq => "same" | .gt => "more"
def Op.rk : Op → Nat
  | .lt => 1 | .eq => 1 | .gt => 1 | .add => 2 | .sub => 2 | .mul => 3 | .div => 3
def num (n : Nat) : Str := Str.ofString (toString ((n : Nat) : Int))
inductive E | num (n : Nat) | nam (s : Str) | neg (e : E) | bin (o : Op) (l r : E)
def toD : E → D
  | .num n => .tup [.str "number", .int (n : Int)]
  | .nam s => .tup [.str "name", .str s]
  | .neg e => .tup [.str "minus", toD e]
  | .bin o l r => .tup [.str o.str, toD l, toD r]
def E.n : E → Nat
  | .num _ => 1 | .nam _ => 1 | .neg e => e.n + 1 | .bin _ l r => l.n + r.n + 1
inductive Tk | num (n : Nat) | name (s : Str) | op (o : Op) | lp | rp | cm
def Tk.kind : Tk → Str
  | .num _ => "number" | .name _ => "name" | _ => "sign"
def Tk.word : Tk → Str
  | .num n => K39.num n | .name s => s | .op o => o.str | .lp => "(" | .rp => ")" | .cm => ","
abbrev LT := Int × Tk
def rowD (t : LT) : D := .tup [.int t.1, .str t.2.kind, .str t.2.word]
/-- trees with brackets and columns -/
inductive B | num (c : Int) (n : Nat) | nam (c : Int) (s : Str) | neg (c : Int) (b : B) | bin (o : Op) (c : Int) (l r : B) | par (c d : Int) (b : B)
def B.e : B → E
  | .num _ n => .num n | .nam _ s => .nam s | .neg _ b => .neg b.e | .bin o _ l r => .bin o l.e r.e | .par _ _ b => b.e
def B.rank : B → Nat
  | .num .. => 5 | .nam .. => 5 | .neg .. => 4 | .bin o .. => o.rk | .par .. => 5
def B.wf : B → Prop
  | .num _ _ => True | .nam _ _ => True | .neg _ b => b.wf ∧ 4 ≤ b.rank | .bin o _ l r => l.wf ∧ r.wf ∧ max 2 o.rk ≤ l.rank ∧ o.rk + 1 ≤ r.rank | .par _ _ b => b.wf
def B.tks : B → List LT
  | .num c n => [(c, .num n)] | .nam c s => [(c, .name s)] | .neg c b => (c, .op .sub) :: b.tks | .bin o c l r => l.tks ++ (c, .op o) :: r.tks | .par c d b => (c, .lp) :: (b.tks ++ [(d, .rp)])
structure Item where
  sign : Str
  arg : D
  a : Int
  b : Int
def Item.d (i : Item) : D := .tup [.str i.sign, i.arg, .int i.a, .int i.b]
inductive Ws | op (o : Op) | minus | lp
def Ws.str : Ws → Str
  | .op o => o.str | .minus => "minus" | .lp => "("
def Ws.rk : Ws → Nat
  | .op o => o.rk | .minus => 4 | .lp => 0
abbrev Wt := Ws × Int
def wtD (w : Wt) : D := .tup [.str w.1.str, .int w.2]
def wit (w : Wt) : Item := ⟨w.1.str, .non, w.2, w.2⟩
def leafI (c : Int) : Tk → Option Item
  | .num n => some ⟨"number", .int (n : Int), c, c + (num n).length - 1⟩
  | .name s => if (if Txt.startswith s "@" = true then decide ((s.length : Int) ≤ 9) else decide ((s.length : Int) ≤ 8)) = true then some ⟨"name", .str s, c, c + s.length - 1⟩ else none
  | _ => none
def B.its : B → List Item
  | .num c n => [⟨"number", .int (n : Int), c, c + (K39.num n).length - 1⟩]
  | .nam c s => [⟨"name", .str s, c, c + s.length - 1⟩]
  | .neg c b => b.its ++ [wit (.minus, c)]
  | .bin o c l r => l.its ++ r.its ++ [wit (.op o, c)]
  | .par _ _ b => b.its
def okName (s : Str) : Prop := (if Txt.startswith s "@" = true then decide ((s.length : Int) ≤ 9) else decide ((s.length : Int) ≤ 8)) = true
def B.named : B → Prop
  | .num _ _ => True | .nam _ s => okName s | .neg _ b => b.named | .bin _ _ l r => l.named ∧ r.named | .par _ _ b => b.named
/-- what move_waiting pops, the stack's top first -/
def mvI (p : Nat) : List Wt → List Item
  | [] => []
  | (w, c) :: r => if w.rk ≥ p ∧ 1 ≤ w.rk then wit (w, c) :: mvI p r else []
def mvR (p : Nat) : List Wt → List Wt
  | [] => []
  | (w, c) :: r => if w.rk ≥ p ∧ 1 ≤ w.rk then mvR p r else (w, c) :: r
def mvL (p : Nat) : Nat → List Wt → Nat
  | l, [] => l
  | l, (w, c) :: r => if w.rk ≥ p ∧ 1 ≤ w.rk then mvL p w.rk r else l
def isLp : Wt → Bool
  | (.lp, _) => true
  | _ => false
def fin (F : List Item) (W : List Wt) (wants : Bool) (at' : Nat) : Option (List Item × Nat) := if wants || W.any isLp then none else some (F ++ mvI 1 W, at')
def pre : Tk → Option Ws
  | .op .sub => some .minus
  | .lp => some .lp
  | _ => none
def Tk.opr : Tk → Option Op
  | .op o => some o
  | _ => none
def Tk.isRp : Tk → Bool
  | .rp => true
  | _ => false
def rp : List LT → List Item → List Wt → Bool → Nat → Option (List Item × Nat)
  | [], F, W, w, k => fin F W w k
  | (c, t) :: r, F, W, true, k => match pre t with
    | some w => rp r F ((w, c) :: W) true (k + 1)
    | none => match leafI c t with
      | none => none
      | some i => rp r (F ++ [i]) W false (k + 1)
  | (c, t) :: r, F, W, false, k => match t.opr with
    | some o => if mvL o.rk 5 W = 1 ∧ o.rk = 1 then none else rp r (F ++ mvI o.rk W) ((.op o, c) :: mvR o.rk W) true (k + 1)
    | none => if (t.isRp && W.any isLp) = true then rp r (F ++ mvI 1 W) (mvR 1 W).tail false (k + 1) else fin F W false k
def B.A : B → List Item
  | .neg _ b => b.A
  | .bin _ _ l r => l.its ++ r.A
  | .num c n => (B.num c n).its
  | .nam c s => (B.nam c s).its
  | .par _ _ b => b.its
def B.V : B → List Wt
  | .neg c b => b.V ++ [(.minus, c)]
  | .bin o c _ r => r.V ++ [(.op o, c)]
  | .num _ _ => []
  | .nam _ _ => []
  | .par _ _ _ => []
theorem its_AV : ∀ b : B, b.its = b.A ++ b.V.map wit
  | .num _ _ => rfl
  | .nam _ _ => rfl
  | .neg c b => by rw [B.its, B.A, B.V, its_AV b, List.map_append, List.append_assoc]; rfl
  | .bin o c l r => by rw [B.its, B.A, B.V, its_AV r, List.map_append, List.append_assoc, List.append_assoc, List.append_assoc]; rfl
  | .par _ _ b => by rw [B.its, B.A, B.V]; simp
theorem Op.rk1 (o : Op) : 1 ≤ o.rk ∧ o.rk ≤ 3 := by cases o <;> decide
theorem rank1 (b : B) : 1 ≤ b.rank ∧ b.rank ≤ 5 := by cases b <;> simp only [B.rank] <;> try omega
                                                      rename_i o _ _ _; have := o.rk1; omega
theorem V_rk : ∀ b : B, b.wf → ∀ w ∈ b.V, b.rank ≤ w.1.rk ∧ 1 ≤ w.1.rk
  | .num _ _, _, w, h => by cases h
  | .nam _ _, _, w, h => by cases h
  | .par _ _ b, _, w, h => by cases h
  | .neg c b, hw, w, h => by
    rw [B.V, List.mem_append, List.mem_singleton] at h
    rcases h with h | rfl
    · have := V_rk b hw.1 w h
      have := hw.2
      rw [B.rank]; omega
    · exact ⟨Nat.le_refl _, by show 1 ≤ 4; decide⟩
  | .bin o c l r, hw, w, h => by
    rw [B.V, List.mem_append, List.mem_singleton] at h
    rcases h with h | rfl
    · have := V_rk r hw.2.1 w h
      have := hw.2.2.2
      rw [B.rank]; omega
    · exact ⟨Nat.le_refl _, o.rk1.1⟩
def topOk (p : Nat) : List Wt → Prop
  | [] => True
  | (w, _) :: _ => w.rk < p
theorem mv_stop {p : Nat} {W : List Wt} (h : topOk p W) : mvI p W = [] ∧ mvR p W = W ∧ ∀ l, mvL p l W = l := by
  cases W with
  | nil => exact ⟨rfl, rfl, fun _ => rfl⟩
  | cons w r =>
    obtain ⟨w, c⟩ := w
    have h : w.rk < p := h
    have n : ¬ (w.rk ≥ p ∧ 1 ≤ w.rk) := by omega
    exact ⟨by rw [mvI, if_neg n], by rw [mvR, if_neg n], fun l => by rw [mvL, if_neg n]⟩
theorem mv_app {p : Nat} {W : List Wt} : ∀ {V : List Wt}, (∀ w ∈ V, p ≤ w.1.rk ∧ 1 ≤ w.1.rk) → mvI p (V ++ W) = V.map wit ++ mvI p W ∧ mvR p (V ++ W) = mvR p W
  | [], _ => ⟨rfl, rfl⟩
  | (w, c) :: V, h => by
    have h1 := h _ (List.mem_cons_self ..)
    obtain ⟨i1, i2⟩ := mv_app (W := W) (V := V) fun w hw => h w (List.mem_cons_of_mem _ hw)
    exact ⟨by rw [List.cons_append, mvI, if_pos ⟨h1.1, h1.2⟩, i1]; rfl, by rw [List.cons_append, mvR, if_pos ⟨h1.1, h1.2⟩, i2]⟩
theorem mvL_snoc {p : Nat} {W : List Wt} (hW : topOk p W) {x : Wt} (hx : p ≤ x.1.rk ∧ 1 ≤ x.1.rk) : ∀ {V : List Wt} (l : Nat), (∀ w ∈ V, p ≤ w.1.rk ∧ 1 ≤ w.1.rk) → mvL p l (V ++ [x] ++ W) = x.1.rk
  | [], l, _ => by
    obtain ⟨x, c⟩ := x
    show mvL p l ((x, c) :: W) = _
    rw [mvL, if_pos ⟨hx.1, hx.2⟩, (mv_stop hW).2.2]
  | (w, c) :: V, l, h => by
    have h1 := h _ (List.mem_cons_self ..)
    show mvL p l ((w, c) :: (V ++ [x] ++ W)) = _
    rw [mvL, if_pos ⟨h1.1, h1.2⟩]
    exact mvL_snoc hW hx _ fun w hw => h w (List.mem_cons_of_mem _ hw)
theorem mvL_B {p : Nat} {b : B} (hb : b.wf) (hp : p ≤ b.rank) {W : List Wt} (hW : topOk p W) : mvL p 5 (b.V ++ W) = b.rank := by
  have hv : ∀ w ∈ b.V, p ≤ w.1.rk ∧ 1 ≤ w.1.rk := fun w hw => by have := V_rk b hb w hw; omega
  cases b with
  | num c n => exact (mv_stop hW).2.2 5
  | nam c n => exact (mv_stop hW).2.2 5
  | par c d b => exact (mv_stop hW).2.2 5
  | neg c b => exact mvL_snoc hW (x := (.minus, c)) (hv _ (by rw [B.V]; simp)) 5 fun w hw => hv w (by rw [B.V]; simp [hw])
  | bin o c l r => exact mvL_snoc hW (x := (.op o, c)) (hv _ (by rw [B.V]; simp)) 5 fun w hw => hv w (by rw [B.V]; simp [hw])
theorem any_V : ∀ b : B, b.wf → b.V.any isLp = false := fun b hb => by
  rw [List.any_eq_false]
  rintro ⟨w, c⟩ hw
  have := V_rk b hb _ hw
  cases w <;> simp [isLp, Ws.rk] at this ⊢
/-- a tree on top of the stack: only a sign of two sides minds what is below -/
def binTop : B → List Wt → Prop
  | .bin o _ _ _, W => topOk o.rk W
  | _, _ => True
theorem topOk_mono {p q : Nat} (h : p ≤ q) : ∀ {W : List Wt}, topOk p W → topOk q W
  | [], _ => trivial
  | (w, c) :: r, hw => Nat.lt_of_lt_of_le hw h
theorem binTop_of {b : B} {W : List Wt} (h : topOk b.rank W) : binTop b W := by
  cases b <;> first | exact trivial | exact h
theorem rp_B : ∀ (b : B), b.wf → b.named → ∀ (rest : List LT) (F : List Item) (W : List Wt) (k : Nat), binTop b W → rp (b.tks ++ rest) F W true k = rp rest (F ++ b.A) (b.V ++ W) false (k + b.tks.length)
  | .num c n, hb, hn, rest, F, W, k, hW => rfl
  | .nam c s, hb, hn, rest, F, W, k, hW => by
    have e : leafI c (.name s) = some ⟨"name", .str s, c, c + s.length - 1⟩ := if_pos hn
    show rp ((c, Tk.name s) :: rest) F W true k = _
    rw [rp, show pre (.name s) = none from rfl]
    dsimp only
    rw [e]; rfl
  | .neg c b, hb, hn, rest, F, W, k, hW => by
    show rp ((c, Tk.op .sub) :: (b.tks ++ rest)) F W true k = _
    have hbt : binTop b ((.minus, c) :: W) := by
      have := hb.2
      cases b with
      | bin o c' l r => have h4 : 4 ≤ o.rk := this; have := o.rk1; omega
      | _ => trivial
    rw [rp, show pre (.op .sub) = some .minus from rfl]
    dsimp only
    rw [rp_B b hb.1 hn rest F _ _ hbt, B.A, B.V, B.tks, List.length_cons, List.append_assoc]
    congr 1; omega
  | .par c d b, hb, hn, rest, F, W, k, hW => by
    show rp ((c, Tk.lp) :: ((b.tks ++ [(d, Tk.rp)]) ++ rest)) F W true k = _
    have hbt : binTop b ((.lp, c) :: W) := by
      cases b with
      | bin o c' l r => show Ws.rk .lp < o.rk; have := o.rk1; simp [Ws.rk]; omega
      | _ => trivial
    have hv : ∀ w ∈ b.V, 1 ≤ w.1.rk ∧ 1 ≤ w.1.rk := fun w hw => ⟨(V_rk b hb w hw).2, (V_rk b hb w hw).2⟩
    rw [rp, show pre .lp = some .lp from rfl]
    dsimp only
    rw [List.append_assoc, rp_B b hb hn _ F _ _ hbt]
    show rp ((d, Tk.rp) :: rest) _ _ false _ = _
    have t : topOk 1 ((Ws.lp, c) :: W) := by show Ws.rk .lp < 1; decide
    rw [rp, show Tk.opr .rp = none from rfl]
    dsimp only
    rw [if_pos (by simp [isLp, Tk.isRp]), (mv_app hv).1, (mv_app hv).2, (mv_stop t).1, (mv_stop t).2.1, B.A, B.V, B.tks, its_AV b]
    simp only [List.append_nil, List.append_assoc, List.tail_cons, List.nil_append, List.length_cons, List.length_append, List.length_nil]
    congr 1; omega
  | .bin o c l r, hb, hn, rest, F, W, k, hW => by
    show rp ((l.tks ++ (c, Tk.op o) :: r.tks) ++ rest) F W true k = _
    have h1 : max 2 o.rk ≤ l.rank := hb.2.2.1
    have h2 : o.rk + 1 ≤ r.rank := hb.2.2.2
    have hW : topOk o.rk W := hW
    have hv : ∀ w ∈ l.V, o.rk ≤ w.1.rk ∧ 1 ≤ w.1.rk := fun w hw => by have := V_rk l hb.1 w hw; omega
    have hbt : binTop r ((.op o, c) :: mvR o.rk (l.V ++ W)) := binTop_of (show o.rk < r.rank by omega)
    have hl := mvL_B hb.1 (show o.rk ≤ l.rank by omega) hW
    rw [List.append_assoc, rp_B l hb.1 hn.1 _ F W k (binTop_of (topOk_mono (show o.rk ≤ l.rank by omega) hW)), List.cons_append, rp, show Tk.opr (.op o) = some o from rfl]
    dsimp only
    rw [if_neg (by rw [hl]; omega), rp_B r hb.2.1 hn.2 rest _ _ _ hbt,
      (mv_app hv).1, (mv_app hv).2, (mv_stop hW).1, (mv_stop hW).2.1, B.A, B.V, B.tks, its_AV l]
    simp only [List.append_nil, List.append_assoc, List.length_append, List.length_cons, List.cons_append, List.nil_append]
    congr 1; omega
/-- what ends an expression -/
def stops : List LT → Prop
  | [] => True
  | (_, .op _) :: _ => False
  | _ => True
theorem rp_whole {b : B} (hb : b.wf) (hn : b.named) {rest : List LT} (hr : stops rest) (k : Nat) : rp (b.tks ++ rest) [] [] true k = some (b.its, k + b.tks.length) := by
  rw [rp_B b hb hn rest [] [] k (binTop_of (by trivial))]
  have hv : ∀ w ∈ b.V, 1 ≤ w.1.rk ∧ 1 ≤ w.1.rk := fun w hw => ⟨(V_rk b hb w hw).2, (V_rk b hb w hw).2⟩
  have f : fin ([] ++ b.A) (b.V ++ []) false (k + b.tks.length) = some (b.its, k + b.tks.length) := by
    rw [fin, if_neg (by rw [List.append_nil, any_V b hb]; decide), (mv_app hv).1, its_AV b]; simp [mvI]
  match rest, hr with
  | [], _ => exact f
  | (_, .num _) :: _, _ => exact f
  | (_, .name _) :: _, _ => exact f
  | (_, .lp) :: _, _ => exact f
  | (_, .cm) :: _, _ => exact f
  | (_, .rp) :: _, _ =>
    rw [rp, show Tk.opr .rp = none from rfl]
    dsimp only
    rw [if_neg (by rw [List.append_nil, any_V b hb]; decide)]; exact f
/-- the items' tree -/
def push1 (i : Item) : List D → Option (List D)
  | x :: st => some (.tup [.str i.sign, x] :: st)
  | [] => none
def push2 (i : Item) : List D → Option (List D)
  | y :: x :: st => some (.tup [.str i.sign, x, y] :: st)
  | _ => none
def evS (i : Item) (st : List D) : Option (List D) := if i.sign = "number" ∨ i.sign = "name" then some (.tup [.str i.sign, i.arg] :: st) else if i.sign = "minus" then push1 i st else push2 i st
def ev : List Item → List D → Option (List D)
  | [], st => some st
  | i :: r, st => (evS i st).bind (ev r)
theorem op_no (s : Op) : ¬ s.str = Str.ofString "number" ∧ ¬ s.str = Str.ofString "name" ∧ ¬ s.str = Str.ofString "minus" := by cases s <;> decide +kernel
theorem ev_B : ∀ (b : B) (rest : List Item) (st : List D), ev (b.its ++ rest) st = ev rest (toD b.e :: st)
  | .num c n, rest, st => by
    show ev (_ :: rest) st = _
    rw [ev, evS, if_pos (.inl rfl)]; rfl
  | .nam c s, rest, st => by
    show ev (_ :: rest) st = _
    rw [ev, evS, if_pos (.inr rfl)]; rfl
  | .par c d b, rest, st => ev_B b rest st
  | .neg c b, rest, st => by
    rw [B.its, List.append_assoc, ev_B b]
    show ev (_ :: rest) _ = _
    have h : ¬ ((wit (Ws.minus, c)).sign = Str.ofString "number" ∨ (wit (Ws.minus, c)).sign = Str.ofString "name") := by show ¬ (Str.ofString "minus" = Str.ofString "number" ∨ Str.ofString "minus" = Str.ofString "name"); decide +kernel
    have h2 : (wit (Ws.minus, c)).sign = Str.ofString "minus" := rfl
    rw [ev, evS, if_neg h, if_pos h2]; rfl
  | .bin o c l r, rest, st => by
    rw [B.its, List.append_assoc, List.append_assoc, ev_B l, ev_B r]
    show ev (_ :: rest) _ = _
    have := op_no o
    have h : ¬ ((wit (Ws.op o, c)).sign = Str.ofString "number" ∨ (wit (Ws.op o, c)).sign = Str.ofString "name") := by rintro (h | h); exact this.1 h; exact this.2.1 h
    have h2 : ¬ (wit (Ws.op o, c)).sign = Str.ofString "minus" := this.2.2
    rw [ev, evS, if_neg h, if_neg h2]; rfl
/-! ### walks: leaves, the stack, the postfix -/
theorem at_m1 {α : Type} {xs : List α} {x : α} : atI (xs ++ [x]) (-1) = some x := by
  unfold atI ixN
  rw [if_neg (by decide), if_pos (by simp; omega), Option.bind_some]
  have : ((-1 : Int) + ((xs ++ [x]).length : Nat)).toNat = xs.length := by simp; omega
  rw [this]; simp
theorem ixm1 {xs : List D} {x : D} {Q : O → Prop} (q : Q (.shr x)) : XO (oIx (.ol (xs ++ [x])) (.shr (.int (-1)))) Q := ixL at_m1 q
theorem in_T {x y : O} {Q : O → Prop} (h : inQ x y = some true) (q : Q (.shr (.bl true))) : XO (oInQ x y) Q := ⟨_, by rw [oInQ, h]; rfl, q⟩
theorem in_F {x y : O} {Q : O → Prop} (h : inQ x y = some false) (q : Q (.shr (.bl false))) : XO (oInQ x y) Q := ⟨_, by rw [oInQ, h]; rfl, q⟩
theorem inQ_strs {x : Str} {l : List Str} : inQ (.shr (.str x)) (.ol (l.map D.str)) = some (decide (x ∈ l)) := by
  have f : flats (l.map D.str) = some (l.map V.str) := by
    induction l with
    | nil => rfl
    | cons a r ih => rw [List.map_cons, flats, ih]; rfl
  show ((some (V.str x)).bind fun v => (some (l.map D.str)).bind fun ds => (flats ds).map fun vs => inV v vs) = _
  rw [Option.bind_some, Option.bind_some, f, Option.map_some]
  congr 1
  unfold inV
  rw [List.any_map]
  by_cases h : x ∈ l
  · rw [decide_eq_true h, List.any_eq_true]
    exact ⟨x, h, by simp [eqV]⟩
  · rw [decide_eq_false h, List.any_eq_false]
    intro y hy
    simp [eqV]
    rintro rfl
    exact h hy
theorem inL {x : Str} {l : List Str} {Q : O → Prop} (q : Q (.shr (.bl (decide (x ∈ l))))) : XO (oInQ (.shr (.str x)) (.ol (l.map D.str))) Q := ⟨_, by rw [oInQ, inQ_strs]; rfl, q⟩
theorem notInL {x : Str} {l : List Str} {Q : O → Prop} (q : Q (.shr (.bl (!decide (x ∈ l))))) : XO (oNotInQ (.shr (.str x)) (.ol (l.map D.str))) Q := ⟨_, by rw [oNotInQ, inQ_strs]; rfl, q⟩
/-! numerals -/
theorem num_tl (n : Nat) : TL.tl (num n) = TL.numL n := TL.tl_num n
theorem num_len (n : Nat) : (num n).length = (TL.numL n).length := by rw [TL.len_tl, num_tl]
theorem numL_head : ∀ n : Nat, 0 < n → ∃ c r, TL.numL n = c :: r ∧ c ≠ 48
  | n, h => by
    by_cases hn : n < 10
    · exact ⟨48 + n, [], TL.numL_lt hn, by omega⟩
    · obtain ⟨c, r, e, hc⟩ := numL_head (n / 10) (by omega)
      exact ⟨c, r ++ [48 + n % 10], by rw [TL.numL_step (by omega), e]; rfl, hc⟩
def Tk.ok : Tk → Prop
  | .num n => n < 1000000000000000000000000000000
  | .name s => s.length ≤ 100 ∧ s ≠ Str.ofString ")"
  | _ => True
theorem num_le {n : Nat} (h : n < 1000000000000000000000000000000) : (num n).length ≤ 30 := by
  rw [num_len]
  exact TL.numL_len (by decide) (by rw [show (10:Nat) ^ 30 = 1000000000000000000000000000000 by decide +kernel]; exact h)
theorem num_int {n : Nat} (h : n < 1000000000000000000000000000000) : intText? (num n) = some (n : Int) := TL.int_num (by rw [← num_len]; have := num_le h; omega)
theorem sw1 {x : Str} {c d : Nat} {r : List Nat} (h : TL.tl x = c :: r) : Txt.startswith x ⟨#[d]⟩ = decide (c = d) := by
  have hl : x.length = (c :: r).length := by rw [TL.len_tl, h]
  unfold Txt.startswith
  rw [StrLaws.subAt_eq, show x.cps.toList = c :: r from h, hl]
  simp [Str.length]
  by_cases e : c = d
  · simp [e]
  · simp [e]
theorem sw0 {n : Nat} (h : 0 < n) : Txt.startswith (num n) "0" = false := by
  obtain ⟨c, r, e, hc⟩ := numL_head n h
  have := sw1 (d := 48) ((num_tl n).trans e)
  rw [decide_eq_false hc] at this
  exact this
theorem lenS {x : Str} (hl : x.length ≤ 1000000) {Q : O → Prop} (q : Q (.shr (.int x.length))) : XO (oLen [.shr (.str x)]) Q := xo_lenS hl q
local macro_rules | `(tactic| walk_at "law") => `(tactic| repeat' (first | walk_at "1" | ((with_reducible refine lend_ok ?_ ?_); (focus rfl)) | ((with_reducible apply wbx); (focus (walk_at "wb"; done)); (focus rfl)) | walk_at "tf" | walk_at "isi" | (with_reducible refine lenS (by omega) ?_) | walk_at "both"))
theorem x_isvar {s : Str} (hl : s.length ≤ 100) {Q : Rs → List O → Prop} (q : Q (.o (.shr (.bl (if Txt.startswith s "@" = true then decide ((s.length : Int) ≤ 9) else decide ((s.length : Int) ≤ 8))))) [.shr (.str s)]) : XF F_is_variable [.shr (.str s)] Q := by
  refine xf' rfl (by walk_at "at") ?_
  unfold f_is_variable
  walk_at "law"
  · rename_i h
    rw [if_pos h] at q
    exact q
  · rename_i h
    rw [if_neg (by rw [h]; decide)] at q
    exact q
theorem x_isnum {n : Nat} (h : n < 1000000000000000000000000000000) {Q : Rs → List O → Prop} (q : Q (.o (.shr (.bl true))) [.shr (.str (num n))]) : XF F_is_number [.shr (.str (num n))] Q := by
  have hl := num_le h
  refine xf' rfl (by walk_at "at") ?_
  unfold f_is_number
  by_cases h0 : n = 0
  · subst h0
    have e : decide (num 0 = Str.ofString "0") = true := by decide +kernel
    walk_at "law"
    exact q
  · have e : ¬ num n = Str.ofString "0" := fun z => by
      obtain ⟨c, r, e, hc⟩ := numL_head n (by omega)
      have e2 := num_tl n
      rw [z, e] at e2
      have : TL.tl (Str.ofString "0") = [48] := by decide +kernel
      rw [this] at e2
      exact hc (List.cons.inj e2).1.symm
    have e2 := sw0 (n := n) (by omega)
    walk_at "law"
    · rw [e2]; exact q
theorem leafN {c : Int} {s : Str} (h : (if Txt.startswith s "@" = true then decide ((s.length : Int) ≤ 9) else decide ((s.length : Int) ≤ 8)) = true) : leafI c (.name s) = some ⟨"name", .str s, c, c + s.length - 1⟩ := if_pos h
theorem leafF {c : Int} {s : Str} (h : (if Txt.startswith s "@" = true then decide ((s.length : Int) ≤ 9) else decide ((s.length : Int) ≤ 8)) = false) : leafI c (.name s) = none := if_neg (by rw [h]; decide)
def lfD : Option Item → D
  | none => .non
  | some i => i.d
theorem x_leaf {c : Int} {t : Tk} (ht : t.ok) {Q : Rs → List O → Prop} (q : Q (.o (.shr (lfD (leafI c t)))) [.shr (rowD (c, t))]) : XF F_leaf_of [.shr (rowD (c, t))] Q := by
  refine xf' rfl (by walk_at "at") ?_
  unfold f_leaf_of rowD
  cases t with
  | num n =>
    have hl := num_le ht
    simp only [Tk.kind, Tk.word]
    walk_at "law"
    refine x_isnum ht ?_
    walk_at "law"
    refine xo_intS (by omega) (num_int ht) ?_
    walk_at "law"
    exact q
  | name s =>
    have hl : s.length ≤ 100 := ht.1
    simp only [Tk.kind, Tk.word]
    walk_at "law"
    refine x_isvar hl ?_
    walk_at "law"
    · rename_i h
      rw [leafN h] at q
      exact q
    · rename_i h
      rw [leafF h] at q
      exact q
  | op o =>
    have hl : o.str.length ≤ 100 := by cases o <;> decide +kernel
    simp only [Tk.kind, Tk.word]
    walk_at "law"
    exact q
  | lp =>
    have hl : (Str.ofString "(").length ≤ 100 := by decide +kernel
    simp only [Tk.kind, Tk.word]
    walk_at "law"
    exact q
  | rp =>
    have hl : (Str.ofString ")").length ≤ 100 := by decide +kernel
    simp only [Tk.kind, Tk.word]
    walk_at "law"
    exact q
  | cm =>
    have hl : (Str.ofString ",").length ≤ 100 := by decide +kernel
    simp only [Tk.kind, Tk.word]
    walk_at "law"
    exact q
theorem num_rp (n : Nat) : decide (num n = Str.ofString ")") = false := decide_eq_false fun z => by
  have e := num_tl n
  rw [z, show TL.tl (Str.ofString ")") = [41] by decide +kernel] at e
  have := TL.numL_digits n 41 (by rw [← e]; simp)
  omega
def ws (W : List Wt) : List D := W.reverse.map wtD
theorem ws_cons (w : Wt) (r : List Wt) : ws (w :: r) = ws r ++ [wtD w] := by simp [ws]
theorem ws_len (r : List Wt) : (ws r).length = r.length := by simp [ws]
theorem ws_ne (w : Wt) (r : List Wt) : (!(ws r ++ [wtD w]).isEmpty) = true := by simp
theorem ws_rk (w : Ws) (h : 1 ≤ w.rk) : T_RANKS.lookup w.str = some (w.rk : Int) := by
  cases w with
  | op o => cases o <;> decide +kernel
  | minus => decide +kernel
  | lp => exact absurd h (by decide)
theorem ws_lp (w : Ws) : decide (w.str = Str.ofString "(") = decide (w.rk = 0) := by
  cases w with
  | op o => cases o <;> decide +kernel
  | minus => decide +kernel
  | lp => decide +kernel
local macro_rules | `(tactic| walk_at "law") => `(tactic| repeat' (first | walk_at "1" | ((with_reducible refine lend_ok ?_ ?_); (focus rfl)) | ((with_reducible apply wbx); (focus (walk_at "wb"; done)); (focus rfl)) | walk_at "tf" | walk_at "isi" | (with_reducible refine lenS (by omega) ?_) | with_reducible refine ixm1 ?_ | with_reducible refine notInL ?_ | with_reducible refine inL ?_))
def JW (F0 : List D) (W0 : List Wt) (p : Nat) (m : Nat) (e : Sto) : Prop := ∃ (F : List D) (W : List Wt) (l : Nat) (x4 x5 : Option Slot), m = W.length ∧ F.length + W.length ≤ 100000 ∧ F ++ (mvI p W).map Item.d = F0 ++ (mvI p W0).map Item.d ∧ mvR p W = mvR p W0 ∧ mvL p l W = mvL p 5 W0 ∧ Fre' x4 ∧ Fre' x5 ∧
  e = [some ⟨.ol F, true, false⟩, some ⟨.ol (ws W), true, false⟩, some ⟨.shr (.int (p : Nat)), false, false⟩, some ⟨.shr (.int (l : Nat)), false, false⟩, x4, x5]
theorem x_move {F : List D} {W : List Wt} {p : Nat} (hl : F.length + W.length ≤ 90000) {Q : Rs → List O → Prop} (q : Q (.o (.shr (.int (mvL p 5 W : Nat)))) [.ol (F ++ (mvI p W).map Item.d), .ol (ws (mvR p W)), .shr (.int (p : Nat))]) :
    XF F_move_waiting [.ol F, .ol (ws W), .shr (.int (p : Nat))] Q := by
  refine xf' rfl (by walk_at "at") ?_
  unfold f_move_waiting
  walk_at "law"
  refine xs_while (JW F W p) ?_ 100000 W.length _ (by omega) ⟨F, W, 5, none, none, rfl, by omega, rfl, rfl, rfl, .n, .n, rfl⟩
  rintro m e ⟨F', W', l, x4, x5, rfl, h1, h2, h3, h4, f4, f5, rfl⟩
  have fin : mvI p W' = [] → mvR p W' = W' → (∀ l, mvL p l W' = l) → Q (.o (.shr (.int (l : Nat)))) [.ol F', .ol (ws W'), .shr (.int (p : Nat))] := fun i1 i2 i3 => by
    rw [i1, List.map_nil, List.append_nil] at h2
    rw [i2] at h3
    rw [i3] at h4
    rw [h2, h3, h4]
    exact q
  match W', h1, h2, h3, h4, fin with
  | [], h1, h2, h3, h4, fin =>
    have hw : ws [] = [] := rfl
    rw [hw] at fin ⊢
    walk_at "law"
    exact fin rfl rfl fun _ => rfl
  | (w, c) :: r, h1, h2, h3, h4, fin =>
    have hne := ws_ne (w, c) r
    have hlr : (ws r).length ≤ 100000 := by rw [ws_len]; simp at h1; omega
    have hw : decide (w.str = Str.ofString "(") = decide (w.rk = 0) := ws_lp w
    rw [ws_cons] at fin ⊢
    simp only [wtD] at fin hne ⊢
    have stop : ¬ (w.rk ≥ p ∧ 1 ≤ w.rk) → Q (.o (.shr (.int (l : Nat)))) [.ol F', .ol (ws r ++ [.tup [.str w.str, .int c]]), .shr (.int (p : Nat))] := fun n => fin (by rw [mvI, if_neg n]) (by rw [mvR, if_neg n]) fun l => by rw [mvL, if_neg n]
    refine xb_and' ?_
    walk_at "law"
    refine tf_T hne ?_
    walk_at "law"
    rw [hw]
    by_cases h0 : w.rk = 0
    · have : (!decide (w.rk = 0)) = false := by simp [h0]
      rw [this]
      walk_at "law"
      exact stop (by omega)
    · have : (!decide (w.rk = 0)) = true := by simp [h0]
      rw [this]
      have hrk := ws_rk w (by omega)
      walk_at "law"
      by_cases hge : (p : Int) ≤ (w.rk : Int)
      · walk_at "law"
        have y : w.rk ≥ p ∧ 1 ≤ w.rk := by omega
        rw [mvI, if_pos y] at h2
        rw [mvR, if_pos y] at h3
        rw [mvL, if_pos y] at h4
        refine wl_nx (k := r.length) (by simp) ⟨_, r, w.rk, _, _, rfl, ?_, ?_, h3, h4, .s, .s, rfl⟩
        · simp at h1 ⊢; omega
        · rw [← h2]; simp [wit, Item.d]
      · walk_at "law"
        exact stop (by omega)
theorem op_rk (o : Op) : T_RANKS.lookup o.str = some (o.rk : Int) := by cases o <;> decide +kernel
theorem op_rkS (o : Op) : (T_RANKS.lookup o.str).isSome = true := by rw [op_rk]; rfl
def names (W : List Wt) : List Str := W.reverse.map fun w => w.1.str
theorem names_len (W : List Wt) : (names W).length = W.length := by simp [names]
theorem names_in (W : List Wt) : decide (Str.ofString "(" ∈ names W) = W.any isLp := by
  have h : ∀ w : Wt, w.1.str = Str.ofString "(" ↔ isLp w = true := fun w => by
    obtain ⟨w, c⟩ := w
    have := ws_lp w
    cases w with
    | op o => have := o.rk1.1; simp only [isLp]; constructor
              · intro h; have z : decide ((Ws.op o).str = Str.ofString "(") = true := decide_eq_true h; rw [ws_lp] at z; have z2 : o.rk = 0 := of_decide_eq_true z; omega
              · intro h; cases h
    | minus => constructor
               · intro h; have z : decide (Ws.minus.str = Str.ofString "(") = true := decide_eq_true h; rw [ws_lp] at z; simp [Ws.rk] at z
               · intro h; cases h
    | lp => exact ⟨fun _ => rfl, fun _ => rfl⟩
  by_cases hm : Str.ofString "(" ∈ names W
  · rw [decide_eq_true hm]
    simp only [names, List.mem_map, List.mem_reverse] at hm
    obtain ⟨w, hw, e⟩ := hm
    exact (List.any_eq_true.mpr ⟨w, hw, (h w).mp e⟩).symm
  · rw [decide_eq_false hm]
    refine (List.any_eq_false.mpr fun w hw z => hm ?_).symm
    simp only [names, List.mem_map, List.mem_reverse]
    exact ⟨w, hw, (h w).mpr z⟩
theorem names_at {W : List Wt} {k : Nat} (h : k < (ws W).length) : ∃ s c, (ws W)[k] = .tup [.str s, .int c] ∧ (names W).take (k + 1) = (names W).take k ++ [s] := by
  have h1 : k < (names W).length := by rw [names_len]; rwa [ws_len] at h
  have h2 : k < W.reverse.length := by rw [List.length_reverse]; rwa [ws_len] at h
  refine ⟨W.reverse[k].1.str, W.reverse[k].2, ?_, ?_⟩
  · simp only [ws, List.getElem_map]; rfl
  · rw [List.take_succ_eq_append_getElem h1]; simp only [names, List.getElem_map]
theorem mv_len (p : Nat) : ∀ W : List Wt, (mvI p W).length + (mvR p W).length = W.length
  | [] => rfl
  | (w, c) :: r => by
    have := mv_len p r
    rw [mvI, mvR]
    split <;> simp <;> omega
theorem mvR_lp : ∀ W : List Wt, W.any isLp = true → ∃ c r, mvR 1 W = (.lp, c) :: r
  | [], h => by cases h
  | (w, c) :: r, h => by
    cases w with
    | lp => exact ⟨c, r, by rw [mvR, if_neg (by decide)]⟩
    | op o =>
      have := o.rk1.1
      obtain ⟨c', r', e⟩ := mvR_lp r (by simpa [isLp] using h)
      exact ⟨c', r', by rw [mvR, if_pos ⟨this, this⟩]; exact e⟩
    | minus =>
      obtain ⟨c', r', e⟩ := mvR_lp r (by simpa [isLp] using h)
      exact ⟨c', r', by rw [mvR, if_pos ⟨by decide, by decide⟩]; exact e⟩
theorem ws_snoc (w : Ws) (c : Int) (W : List Wt) : ws W ++ [.tup [.str w.str, .int c]] = ws ((w, c) :: W) := (ws_cons (w, c) W).symm
theorem ws_snocO (o : Op) (c : Int) (W : List Wt) : ws W ++ [.tup [.str o.str, .int c]] = ws ((.op o, c) :: W) := ws_snoc (.op o) c W
local macro_rules | `(tactic| walk_at "law") => `(tactic| repeat' (first | walk_at "1" | ((with_reducible refine lend_ok ?_ ?_); (focus rfl)) | ((with_reducible apply wbx); (focus (walk_at "wb"; done)); (focus rfl)) | walk_at "tf" | walk_at "isi" | (with_reducible refine lenS (by omega) ?_) | with_reducible refine ixm1 ?_ | with_reducible refine notInL ?_ | with_reducible refine inL ?_ | with_reducible refine xo_ixGI (op_rk _) ?_ | with_reducible refine tf_T (op_rkS _) ?_ | with_reducible refine x_move (by omega) ?_))
theorem x_put {F : List D} {W : List Wt} {o : Op} {c : Int} (hl : F.length + W.length ≤ 90000) {Q : Rs → List O → Prop}
    (q : Q (.o (.shr (.bl (!(decide (mvL o.rk 5 W = 1 ∧ o.rk = 1)))))) [.ol (F ++ (mvI o.rk W).map Item.d), .ol (ws ((.op o, c) :: mvR o.rk W)), .shr (.str o.str), .shr (.int c)]) :
    XF F_put_sign [.ol F, .ol (ws W), .shr (.str o.str), .shr (.int c)] Q := by
  refine xf' rfl (by walk_at "at") ?_
  unfold f_put_sign
  walk_at "law"
  have hm := mv_len o.rk W
  have hlr : (ws (mvR o.rk W)).length ≤ 100000 := by rw [ws_len]; omega
  walk_at "law"
  rw [ws_snocO]
  by_cases h1 : mvL o.rk 5 W = 1
  · have g1 : ((mvL o.rk 5 W : Nat) : Int) = 1 := by omega
    walk_at "law"
    have e : (decide (((o.rk : Nat) : Int) = 1)) = decide (mvL o.rk 5 W = 1 ∧ o.rk = 1) := by
      by_cases h2 : o.rk = 1
      · rw [decide_eq_true (by omega), decide_eq_true ⟨h1, h2⟩]
      · rw [decide_eq_false (by omega), decide_eq_false (fun z => h2 z.2)]
    rw [e]
    exact q
  · have g1 : ¬ ((mvL o.rk 5 W : Nat) : Int) = 1 := by omega
    walk_at "law"
    rw [decide_eq_false (fun z => h1 z.1)] at q
    exact q
theorem x_close {F : List D} {W : List Wt} (hl : F.length + W.length ≤ 90000) {Q : Rs → List O → Prop}
    (q : Q (.o (.shr (.bl (W.any isLp)))) (if W.any isLp = true then [.ol (F ++ (mvI 1 W).map Item.d), .ol (ws (mvR 1 W).tail)] else [.ol F, .ol (ws W)])) :
    XF F_close_bracket [.ol F, .ol (ws W)] Q := by
  refine xf' rfl (by walk_at "at") ?_
  unfold f_close_bracket
  walk_at "law"
  refine xc_ix (fun k acc e => acc = ((names W).take k).map D.str ∧ e = [some ⟨.ol F, true, false⟩, some ⟨.ol (ws W), true, true⟩, none]) ⟨rfl, rfl⟩ ?_ ?_
  · rintro acc e ⟨rfl, rfl⟩
    rw [List.take_of_length_le (by rw [names_len, ws_len]; omega)]
    refine ⟨_, _, by walk_at "at", by walk_at "at", ?_⟩
    walk_at "law"
    rw [names_in]
    cases h : W.any isLp with
    | false =>
      rw [h] at q
      walk_at "law"
      exact q
    | true =>
      rw [h, if_pos rfl] at q
      walk_at "law"
      obtain ⟨c, r, e⟩ := mvR_lp W h
      have e1 : ((1 : Nat) : Int) = 1 := rfl
      refine (x_move (p := 1) hl ?_ : XF F_move_waiting [.ol F, .ol (ws W), .shr (.int 1)] _)
      walk_at "law"
      rw [e] at q ⊢
      rw [ws_cons]
      walk_at "law"
      exact q
  · rintro k acc e hk ⟨rfl, rfl⟩
    obtain ⟨s, c, e1, e2⟩ := names_at hk
    rw [e1, e2]
    walk_at "law"
    exact acc_q (by rw [List.length_map, List.length_take]; rw [ws_len] at hk; omega) (by walk_at "at") ⟨by rw [List.map_append]; rfl, rfl⟩
def rpD : Option (List Item × Nat) → D
  | none => .non
  | some (F, k) => .tup [.lst (F.map Item.d), .int (k : Nat)]
theorem in_open (o : Op) : inQ (.shr (.str o.str)) (.shr (.tup [.str (Str.ofString "-"), .str (Str.ofString "(")])) = some (decide (o = .sub)) := by cases o <;> decide +kernel
theorem in_lp : inQ (.shr (.str (Str.ofString "("))) (.shr (.tup [.str (Str.ofString "-"), .str (Str.ofString "(")])) = some true := by decide +kernel
theorem in_rp : inQ (.shr (.str (Str.ofString ")"))) (.shr (.tup [.str (Str.ofString "-"), .str (Str.ofString "(")])) = some false := by decide +kernel
theorem in_cm : inQ (.shr (.str (Str.ofString ","))) (.shr (.tup [.str (Str.ofString "-"), .str (Str.ofString "(")])) = some false := by decide +kernel
theorem op_par (o : Op) : decide (o.str = Str.ofString ")") = false := by cases o <;> decide +kernel
theorem op_sub (o : Op) (h : ¬ o = .sub) : decide (o.str = Str.ofString "-") = false := by cases o <;> first | decide +kernel | exact absurd rfl h
theorem pre_op {o : Op} (h : ¬ o = .sub) : pre (.op o) = none := by cases o <;> first | rfl | exact absurd rfl h
local macro_rules | `(tactic| walk_at "law") => `(tactic| repeat' (first | walk_at "1" | ((with_reducible refine lend_ok ?_ ?_); (focus rfl)) | ((with_reducible apply wbx); (focus (walk_at "wb"; done)); (focus rfl)) | walk_at "tf" | walk_at "isi" | with_reducible refine notInL ?_ | with_reducible refine inL ?_ | with_reducible refine in_T in_lp ?_ | with_reducible refine in_F in_rp ?_ | with_reducible refine in_F in_cm ?_ | (with_reducible apply tf_T; (focus (exact op_rkS _))) | (with_reducible apply tf_F; (focus (first | exact op_par _ | exact num_rp _)))))
abbrev tailP : SF := (sSeq (sIf (bOr (bTru (vVar 4)) (bVal (vBin oInQ (vC (.str "(")) (vLc (iSeq (vVar 3)) (gN 9) bYes (vTake (vBin oIx (vVar 9) (vC (.int 0)))) [9]))))
      (sRet (vC .non))
      sNil)
    (sSeq (sDrop (vCall F_move_waiting (vConsH (vVar 2) (vConsH (vVar 3) (vConsH (vC (.int 1)) vNilH)))))
    (sRet (vTup (vConsD (vTake (vVar 2)) (vConsD (vTake (vVar 1)) vNilD))))))
theorem x_tailP {rw' : List D} {F : List Item} {W : List Wt} {w : Bool} {k : Nat} {x5 x6 x7 x8 : Option Slot} (hl : F.length + W.length ≤ 90000) {Q : Rs → List O → Prop}
    (q : Q (.o (.shr (rpD (fin F W w k)))) [.ol rw', .shr (.int (k : Nat))]) :
    XS tailP [some ⟨.ol rw', true, false⟩, some ⟨.shr (.int (k : Nat)), false, false⟩, some ⟨.ol (F.map Item.d), false, false⟩, some ⟨.ol (ws W), false, false⟩, some ⟨.shr (.bl w), false, false⟩, x5, x6, x7, x8, none] (defQ 2 Q) := by
  cases w with
  | true =>
    have e : fin F W true k = none := by rw [fin, if_pos (by simp)]
    rw [e] at q
    walk_at "law"
    exact q
  | false =>
    walk_at "law"
    refine xc_ix (fun j acc e => acc = ((names W).take j).map D.str ∧ e = [some ⟨.ol rw', true, false⟩, some ⟨.shr (.int (k : Nat)), false, false⟩, some ⟨.ol (F.map Item.d), false, false⟩, some ⟨.ol (ws W), false, true⟩, some ⟨.shr (.bl false), false, false⟩, x5, x6, x7, x8, none]) ⟨rfl, rfl⟩ ?_ ?_
    · rintro acc e ⟨rfl, rfl⟩
      rw [List.take_of_length_le (by rw [names_len, ws_len]; omega)]
      refine ⟨_, _, by walk_at "at", by walk_at "at", ?_⟩
      walk_at "law"
      rw [names_in]
      unfold fin at q
      cases h : W.any isLp with
      | true =>
        rw [h] at q
        walk_at "law"
        exact q
      | false =>
        rw [h] at q
        walk_at "law"
        refine (x_move (p := 1) (by rw [List.length_map]; exact hl) ?_ : XF F_move_waiting [.ol (F.map Item.d), .ol (ws W), .shr (.int 1)] _)
        rw [← List.map_append]
        walk_at "law"
        exact q
    · rintro j acc e hk ⟨rfl, rfl⟩
      obtain ⟨s, c, e1, e2⟩ := names_at hk
      rw [e1, e2]
      walk_at "law"
      exact acc_q (by rw [List.length_map, List.length_take]; rw [ws_len] at hk; omega) (by walk_at "at") ⟨by rw [List.map_append]; rfl, rfl⟩
theorem x_tailE {rw' fs wd : List D} {w : Bool} {k : Nat} {x5 x6 x7 x8 : Option Slot} {Q : Rs → List O → Prop} (h : ∃ F W, fs = F.map Item.d ∧ wd = ws W ∧ F.length + W.length ≤ 90000 ∧ Q (.o (.shr (rpD (fin F W w k)))) [.ol rw', .shr (.int (k : Nat))]) :
    XS tailP [some ⟨.ol rw', true, false⟩, some ⟨.shr (.int (k : Nat)), false, false⟩, some ⟨.ol fs, false, false⟩, some ⟨.ol wd, false, false⟩, some ⟨.shr (.bl w), false, false⟩, x5, x6, x7, x8, none] (defQ 2 Q) := by
  obtain ⟨F, W, rfl, rfl, hl, q⟩ := h
  exact x_tailP hl q
local macro_rules | `(tactic| walk_at "law") => `(tactic| repeat' (first | with_reducible refine x_tailE ?_ | walk_at "1" | ((with_reducible refine lend_ok ?_ ?_); (focus rfl)) | ((with_reducible apply wbx); (focus (walk_at "wb"; done)); (focus rfl)) | walk_at "tf" | walk_at "isi" | with_reducible refine notInL ?_ | with_reducible refine inL ?_ | with_reducible refine in_T in_lp ?_ | with_reducible refine in_F in_rp ?_ | with_reducible refine in_F in_cm ?_ | (with_reducible apply tf_T; (focus (exact op_rkS _)))))
def JR (row : List LT) (r0 : Option (List Item × Nat)) (m : Nat) (e : Sto) : Prop := ∃ (k : Nat) (F : List Item) (W : List Wt) (w : Bool) (x5 x6 x7 x8 : Option Slot), k ≤ row.length ∧ m = row.length - k ∧ F.length + W.length ≤ k ∧ rp (row.drop k) F W w k = r0 ∧ Fre' x5 ∧ Fre' x6 ∧ Fre' x7 ∧ Fre' x8 ∧
  e = [some ⟨.ol (row.map rowD), true, false⟩, some ⟨.shr (.int (k : Nat)), false, false⟩, some ⟨.ol (F.map Item.d), false, false⟩, some ⟨.ol (ws W), false, false⟩, some ⟨.shr (.bl w), false, false⟩, x5, x6, x7, x8, none]
theorem x_postfix {row : List LT} (hrow : ∀ t ∈ row, t.2.ok) (hr : row.length ≤ 80000) {at0 : Nat} (h0 : at0 ≤ row.length) {Q : Rs → List O → Prop}
    (q : ∀ k : Nat, Q (.o (.shr (rpD (rp (row.drop at0) [] [] true at0)))) [.ol (row.map rowD), .shr (.int (k : Nat))]) : XF F_read_postfix [.ol (row.map rowD), .shr (.int (at0 : Nat))] Q := by
  refine xf' rfl (by walk_at "at") ?_
  unfold f_read_postfix
  walk_at "law"
  refine xs_while (JR row (rp (row.drop at0) [] [] true at0)) ?_ 100000 (row.length - at0) _ (by omega) ⟨at0, [], [], true, none, none, none, none, h0, rfl, by simp, rfl, .n, .n, .n, .n, rfl⟩
  rintro m e ⟨k, F, W, w, x5, x6, x7, x8, hk, rfl, hFW, hrp, f5, f6, f7, f8, rfl⟩
  rw [← hrp] at q
  have lr : (row.map rowD).length = row.length := List.length_map ..
  by_cases hlt : k < row.length
  · have ixk : atI (row.map rowD) (k : Int) = some (rowD row[k]) := by rw [at_nat (by rw [lr]; exact hlt), List.getElem_map]
    have hok := hrow _ (List.getElem_mem hlt)
    rw [List.drop_eq_getElem_cons hlt] at hrp q
    have hlF : (F.map Item.d).length ≤ 80000 := by rw [List.length_map]; omega
    have hlW : (ws W).length ≤ 80000 := by rw [ws_len]; omega
    have nx : ∀ {F' : List Item} {W' : List Wt} {w' : Bool} {x5 x6 x7 x8 : Option Slot}, F'.length + W'.length ≤ k + 1 → rp (row.drop (k + 1)) F' W' w' (k + 1) = rp (row[k] :: row.drop (k + 1)) F W w k → Fre' x5 → Fre' x6 → Fre' x7 → Fre' x8 → ∀ {Q' : Out → Prop},
        wlQ (JR row (rp (row.drop at0) [] [] true at0)) (row.length - k) Q' (.nx [some ⟨.ol (row.map rowD), true, false⟩, some ⟨.shr (.int ((k : Int) + 1)), false, false⟩, some ⟨.ol (F'.map Item.d), false, false⟩, some ⟨.ol (ws W'), false, false⟩, some ⟨.shr (.bl w'), false, false⟩, x5, x6, x7, x8, none]) := by
      intro F' W' w' x5 x6 x7 x8 h1 h2 g5 g6 g7 g8 Q'
      exact wl_nx (k := row.length - (k + 1)) (by omega) ⟨k + 1, F', W', w', _, _, _, _, by omega, rfl, h1, h2.trans hrp, g5, g6, g7, g8, rfl⟩
    have hltI : ((k : Nat) : Int) < (((row.map rowD).length : Nat) : Int) := by rw [lr]; omega
    clear hrp
    generalize row[k] = ct at ixk hok q nx
    obtain ⟨c, t⟩ := ct
    simp only [rowD] at ixk
    cases w with
    | true =>
      cases t with
      | num n =>
        simp only [Tk.kind, Tk.word] at ixk
        walk_at "law"
        refine (x_leaf (c := c) (t := .num n) hok ?_ : XF F_leaf_of [.shr (.tup [.int c, .str (Str.ofString "number"), .str (num n)])] _)
        simp only [leafI, lfD, Item.d]
        walk_at "law"
        have := @nx (F ++ [⟨"number", .int (n : Int), c, c + (num n).length - 1⟩]) W false
        simp only [List.map_append, List.map_cons, List.map_nil, Item.d] at this
        exact this (by simp; omega) rfl .s .s .s .s
      | name s =>
        simp only [Tk.kind, Tk.word] at ixk
        walk_at "law"
        refine (x_leaf (c := c) (t := .name s) hok ?_ : XF F_leaf_of [.shr (.tup [.int c, .str (Str.ofString "name"), .str s])] _)
        cases hv : (if Txt.startswith s "@" = true then decide ((s.length : Int) ≤ 9) else decide ((s.length : Int) ≤ 8)) with
        | true =>
          rw [leafN hv]
          simp only [lfD, Item.d]
          walk_at "law"
          have := @nx (F ++ [⟨"name", .str s, c, c + s.length - 1⟩]) W false
          simp only [List.map_append, List.map_cons, List.map_nil, Item.d] at this
          refine this (by simp; omega) ?_ .s .s .s .s
          rw [rp, show pre (.name s) = none from rfl]; dsimp only; rw [leafN hv]
        | false =>
          rw [leafF hv]
          have e : rp ((c, Tk.name s) :: row.drop (k + 1)) F W true k = none := by
            rw [rp, show pre (.name s) = none from rfl]; dsimp only; rw [leafF hv]
          rw [e] at q
          simp only [lfD]
          walk_at "law"
          exact q _
      | op o =>
        simp only [Tk.kind, Tk.word] at ixk
        walk_at "law"
        by_cases ho : o = .sub
        · subst ho
          refine in_T (by decide +kernel) ?_
          walk_at "law"
          have := @nx F ((.minus, c) :: W) true
          rw [ws_cons] at this
          exact this (by simp; omega) rfl .s .s .s f8
        · refine in_F (by rw [in_open, decide_eq_false ho]) ?_
          walk_at "law"
          refine (x_leaf (c := c) (t := .op o) trivial ?_ : XF F_leaf_of [.shr (.tup [.int c, .str (Str.ofString "sign"), .str o.str])] _)
          have e : rp ((c, Tk.op o) :: row.drop (k + 1)) F W true k = none := by
            rw [rp, pre_op ho]; rfl
          rw [e] at q
          simp only [leafI, lfD]
          walk_at "law"
          exact q _
      | lp =>
        simp only [Tk.kind, Tk.word] at ixk
        walk_at "law"
        have := @nx F ((.lp, c) :: W) true
        rw [ws_cons] at this
        exact this (by simp; omega) rfl .s .s .s f8
      | rp =>
        simp only [Tk.kind, Tk.word] at ixk
        walk_at "law"
        refine (x_leaf (c := c) (t := .rp) trivial ?_ : XF F_leaf_of [.shr (.tup [.int c, .str (Str.ofString "sign"), .str (Str.ofString ")")])] _)
        have e : rp ((c, Tk.rp) :: row.drop (k + 1)) F W true k = none := rfl
        rw [e] at q
        simp only [leafI, lfD]
        walk_at "law"
        exact q _
      | cm =>
        simp only [Tk.kind, Tk.word] at ixk
        walk_at "law"
        refine (x_leaf (c := c) (t := .cm) trivial ?_ : XF F_leaf_of [.shr (.tup [.int c, .str (Str.ofString "sign"), .str (Str.ofString ",")])] _)
        have e : rp ((c, Tk.cm) :: row.drop (k + 1)) F W true k = none := rfl
        rw [e] at q
        simp only [leafI, lfD]
        walk_at "law"
        exact q _
    | false =>
      cases t with
      | num n =>
        have hs : ¬ num n = Str.ofString ")" := of_decide_eq_false (num_rp n)
        simp only [Tk.kind, Tk.word] at ixk
        walk_at "law"
        exact ⟨F, W, rfl, rfl, by omega, q _⟩
      | name s =>
        have hs : ¬ s = Str.ofString ")" := hok.2
        simp only [Tk.kind, Tk.word] at ixk
        walk_at "law"
        exact ⟨F, W, rfl, rfl, by omega, q _⟩
      | op o =>
        simp only [Tk.kind, Tk.word] at ixk
        walk_at "law"
        refine x_put (by rw [List.length_map]; omega) ?_
        have hm := mv_len o.rk W
        by_cases h1 : mvL o.rk 5 W = 1 ∧ o.rk = 1
        · have e : rp ((c, Tk.op o) :: row.drop (k + 1)) F W false k = none := by
            rw [rp, show Tk.opr (.op o) = some o from rfl]; dsimp only; rw [if_pos h1]
          rw [e] at q
          rw [decide_eq_true h1]
          walk_at "law"
          exact q _
        · rw [decide_eq_false h1, ← List.map_append]
          walk_at "law"
          refine nx (by simp; omega) ?_ .s .s .s f8
          rw [rp, show Tk.opr (.op o) = some o from rfl]; dsimp only; rw [if_neg h1]
      | lp =>
        simp only [Tk.kind, Tk.word] at ixk
        walk_at "law"
        exact ⟨F, W, rfl, rfl, by omega, q _⟩
      | cm =>
        simp only [Tk.kind, Tk.word] at ixk
        walk_at "law"
        exact ⟨F, W, rfl, rfl, by omega, q _⟩
      | rp =>
        simp only [Tk.kind, Tk.word] at ixk
        walk_at "law"
        refine x_close (by rw [List.length_map]; omega) ?_
        have hm := mv_len 1 W
        cases h : W.any isLp with
        | true =>
          rw [if_pos rfl, ← List.map_append]
          walk_at "law"
          refine nx (by simp; omega) ?_ .s .s .s f8
          rw [rp, show Tk.opr .rp = none from rfl]; dsimp only; rw [if_pos (by rw [h]; rfl)]
        | false =>
          rw [if_neg (by decide)]
          walk_at "law"
          have e : rp ((c, Tk.rp) :: row.drop (k + 1)) F W false k = fin F W false k := by
            rw [rp, show Tk.opr .rp = none from rfl]; dsimp only; rw [if_neg (by rw [h]; decide)]
          rw [e] at q
          exact ⟨F, W, rfl, rfl, by omega, q _⟩
  · have e : row.drop k = [] := List.drop_eq_nil_of_le (by omega)
    rw [e, rp] at q
    have hltI : ¬ ((k : Nat) : Int) < (((row.map rowD).length : Nat) : Int) := by rw [lr]; omega
    walk_at "law"
    exact ⟨F, W, rfl, rfl, by omega, q _⟩
def isD (is : List Item) : D := .lst (is.map Item.d)
local macro_rules | `(tactic| walk_at "law") => `(tactic| repeat' (first | walk_at "1" | ((with_reducible refine lend_ok ?_ ?_); (focus rfl)) | ((with_reducible apply wbx); (focus (walk_at "wb"; done)); (focus rfl)) | walk_at "tf" | walk_at "isi" | with_reducible refine ixm1 ?_))
theorem pop_at {env env' : Sto} {i : Nat} {x : D} {st : List D} {p l : Bool} {Q : D → Sto → Prop} (h0 : At env i (.ol (x :: st).reverse) p l) (h : Chg env i (.ol (x :: st).reverse) (.ol st.reverse) env') (q : Q x env') : XM i (mPop []) env Q := by
  rw [List.reverse_cons] at h0 h
  exact xm_pop h0 h q
theorem x_tree {is : List Item} {d : D} (hev : ev is [] = some [d]) (hl : is.length ≤ 80000) {Q : Rs → List O → Prop} (q : Q (.o (.shr d)) [.shr (isD is)]) : XF F_tree_of [.shr (isD is)] Q := by
  refine xf' rfl (by walk_at "at") ?_
  unfold f_tree_of
  unfold isD
  walk_at "law"
  refine xl_inv' (fun r e => ∃ (js : List Item) (st : List D) (x2 x3 x4 x5 : Option Slot), r = js.map Item.d ∧ ev js st = some [d] ∧ js.length + st.length ≤ 80000 ∧ Fre' x2 ∧ Fre' x3 ∧ Fre' x4 ∧ Fre' x5 ∧
    e = [some ⟨.shr (.lst (is.map Item.d)), false, false⟩, some ⟨.ol st.reverse, false, false⟩, x2, x3, x4, x5]) ⟨is, [], none, none, none, none, rfl, hev, by simpa using hl, .n, .n, .n, .n, rfl⟩ ?_ ?_
  · rintro e ⟨js, st, x2, x3, x4, x5, hr, he, hj, f2, f3, f4, f5, rfl⟩
    cases js with
    | cons j r => cases hr
    | nil =>
      cases he
      have : [d].reverse = [] ++ [d] := rfl
      rw [this]
      walk_at "law"
      exact q
  · rintro y r e ⟨js, st, x2, x3, x4, x5, hr, he, hj, f2, f3, f4, f5, rfl⟩
    cases js with
    | nil => cases hr
    | cons i js =>
      obtain ⟨rfl, rfl⟩ := List.cons.inj hr
      have hsl : st.reverse.length ≤ 80000 := by rw [List.length_reverse]; simp at hj; omega
      rw [ev, Option.bind_eq_some_iff] at he
      obtain ⟨st', h1, h2⟩ := he
      unfold Item.d
      unfold evS at h1
      by_cases n1 : i.sign = "number"
      · rw [if_pos (.inl n1)] at h1
        cases h1
        walk_at "law"
        exact ⟨js, _, _, _, _, _, rfl, h2, by simp at hj ⊢; omega, .s, .s, .s, f5, by rw [List.reverse_cons]⟩
      · by_cases n2 : i.sign = "name"
        · rw [if_pos (.inr n2)] at h1
          cases h1
          walk_at "law"
          exact ⟨js, _, _, _, _, _, rfl, h2, by simp at hj ⊢; omega, .s, .s, .s, f5, by rw [List.reverse_cons]⟩
        · rw [if_neg (by rintro (h | h); exact n1 h; exact n2 h)] at h1
          by_cases n3 : i.sign = "minus"
          · rw [if_pos n3] at h1
            cases st with
            | nil => cases h1
            | cons x st =>
              cases h1
              rw [List.reverse_cons] at hsl ⊢
              have hs2 : st.reverse.length ≤ 80000 := by rw [List.length_append] at hsl; omega
              walk_at "law"
              exact ⟨js, _, _, _, _, _, rfl, h2, by simp at hj ⊢; omega, .s, .s, .s, f5, by rw [List.reverse_cons]⟩
          · rw [if_neg n3] at h1
            match st, h1 with
            | y :: x :: st, h1 =>
              cases h1
              rw [List.reverse_cons, List.reverse_cons] at hsl ⊢
              have hs2 : st.reverse.length ≤ 80000 := by rw [List.length_append, List.length_append] at hsl; omega
              walk_at "law"
              exact ⟨js, _, _, _, _, _, rfl, h2, by simp at hj ⊢; omega, .s, .s, .s, .s, by rw [List.reverse_cons]⟩
def pD (p : Int × Int) : D := .tup [.int p.1, .int p.2]
def Item.p (i : Item) : Int × Int := (i.a, i.b)
theorem x_places {is : List Item} (hl : is.length ≤ 80000) {Q : Rs → List O → Prop} (q : Q (.o (.ol ((is.map Item.p).map pD))) [.shr (isD is)]) : XF F_places_of_items [.shr (isD is)] Q := by
  refine xf' rfl (by walk_at "at") ?_
  unfold f_places_of_items isD
  walk_at "law"
  refine xe_lc ?_
  walk_at "law"
  refine xc_G (fun k acc e => acc = ((is.take k).map Item.p).map pD ∧ e = [some ⟨.shr (.lst (is.map Item.d)), false, false⟩, none, none, none]) ⟨rfl, rfl⟩ ?_ ?_
  · rintro acc e ⟨rfl, rfl⟩
    rw [List.length_map, List.take_length]
    walk_at "law"
    exact ⟨_, Fin'.s .z, q⟩
  · rintro k acc e hk ⟨rfl, rfl⟩
    have hk2 : k < is.length := by simpa using hk
    rw [List.getElem_map]
    unfold Item.d
    walk_at "law"
    refine ⟨by simp; omega, ?_, rfl⟩
    rw [List.take_succ_eq_append_getElem hk2, List.map_append, List.map_append]; rfl
theorem its_len : ∀ b : B, b.its.length ≤ b.tks.length
  | .num _ _ => Nat.le_refl _
  | .nam _ _ => Nat.le_refl _
  | .neg c b => by have := its_len b; rw [B.its, B.tks]; simp; omega
  | .bin o c l r => by have := its_len l; have := its_len r; rw [B.its, B.tks]; simp; omega
  | .par c d b => by have := its_len b; rw [B.its, B.tks]; simp; omega
structure B.good (b : B) : Prop where
  wf : b.wf
  named : b.named
  ok : ∀ t ∈ b.tks, t.2.ok
  len : b.tks.length ≤ 70000
theorem ev_its (b : B) : ev b.its [] = some [toD b.e] := by
  have := ev_B b [] []
  rw [List.append_nil] at this
  rw [this]; rfl
local macro_rules | `(tactic| walk_at "law") => `(tactic| repeat' (first | walk_at "1" | ((with_reducible refine lend_ok ?_ ?_); (focus rfl)) | ((with_reducible apply wbx); (focus (walk_at "wb"; done)); (focus rfl)) | walk_at "tf" | walk_at "isi" | (with_reducible refine lenS (by omega) ?_)))
def wiD (n : Nat) : Option (List Item × Nat) → D
  | none => .non
  | some (F, k) => if k = n then isD F else .non
theorem x_whole {row : List LT} (hrow : ∀ t ∈ row, t.2.ok) (hr : row.length ≤ 80000) {at0 : Nat} (h0 : at0 ≤ row.length) {Q : Rs → List O → Prop}
    (q : Q (.o (.shr (wiD row.length (rp (row.drop at0) [] [] true at0)))) [.ol (row.map rowD), .shr (.int (at0 : Nat))]) : XF F_whole_items [.ol (row.map rowD), .shr (.int (at0 : Nat))] Q := by
  refine xf' rfl (by walk_at "at") ?_
  unfold f_whole_items
  walk_at "law"
  refine x_postfix hrow hr h0 fun k' => ?_
  have lr : (row.map rowD).length = row.length := List.length_map ..
  match h : rp (row.drop at0) [] [] true at0, q with
  | none, q =>
    simp only [rpD]
    walk_at "law"
    exact q
  | some (F, k), q =>
    simp only [rpD]
    simp only [wiD] at q
    by_cases hk : k = row.length
    · rw [if_pos hk] at q
      have : ((k : Nat) : Int) = (((row.map rowD).length : Nat) : Int) := by omega
      walk_at "law"
      exact q
    · rw [if_neg hk] at q
      have : ¬ ((k : Nat) : Int) = (((row.map rowD).length : Nat) : Int) := by omega
      walk_at "law"
      exact q
theorem x_wholeB {L : List D} {a : Int} (p : List LT) {b : B} (hb : b.good) (hL : L = (p ++ b.tks).map rowD) (ha : a = p.length) (hp : ∀ t ∈ p, t.2.ok) (hl : p.length ≤ 1000) {Q : Rs → List O → Prop}
    (q : Q (.o (.shr (isD b.its))) [.ol L, .shr (.int a)]) : XF F_whole_items [.ol L, .shr (.int a)] Q := by
  subst hL ha
  have h1 := hb.len
  refine x_whole (fun t ht => ?_) (by simp; omega) (by simp) ?_
  · rcases List.mem_append.mp ht with h | h
    · exact hp t h
    · exact hb.ok t h
  · have e := rp_whole hb.wf hb.named (rest := []) trivial p.length
    rw [List.append_nil] at e
    rw [List.drop_left, e, wiD, if_pos (by simp)]
    exact q
/-! ### targets, places -/
def vr (s : Str) : Bool := if Txt.startswith s "@" = true then decide ((s.length : Int) ≤ 9) else decide ((s.length : Int) ≤ 8)
theorem x_targetN {c : Int} {s : Str} (hl : s.length ≤ 100) (hv : okName s) {Q : Rs → List O → Prop} (q : Q (.o (.shr (.bl true))) [.shr (.tup [.int c, .str (Str.ofString "name"), .str s])]) : XF F_is_target [.shr (.tup [.int c, .str (Str.ofString "name"), .str s])] Q := by
  refine xf' rfl (by walk_at "at") ?_
  unfold f_is_target
  walk_at "law"
  refine x_isvar hl ?_
  have : (if Txt.startswith s (Str.ofString "@") = true then decide ((s.length : Int) ≤ 9) else decide ((s.length : Int) ≤ 8)) = true := hv
  rw [this]
  walk_at "law"
  exact q
theorem x_placeof {c : Int} {k w : Str} (hl : w.length ≤ 100) {Q : Rs → List O → Prop} (q : Q (.o (.shr (.tup [.int c, .int (c + (w.length : Int) - 1)]))) [.shr (.tup [.int c, .str k, .str w])]) : XF F_place_of [.shr (.tup [.int c, .str k, .str w])] Q := by
  refine xf' rfl (by walk_at "at") ?_
  unfold f_place_of
  walk_at "law"
  exact q
/-- the places of an expression -/
def B.pls (b : B) : List D := (b.its.map Item.p).map pD
theorem pls_len (b : B) : b.pls.length ≤ b.tks.length := by have := its_len b; simp [B.pls]; omega
def plT (c : Int) (w : Str) : D := .tup [.int c, .int (c + (w.length : Int) - 1)]
local macro_rules | `(tactic| walk_at "law") => `(tactic| repeat' (first | walk_at "1" | ((with_reducible refine lend_ok ?_ ?_); (focus rfl)) | ((with_reducible apply wbx); (focus (walk_at "wb"; done)); (focus rfl)) | walk_at "tf" | walk_at "isi" | (with_reducible refine lenS (by omega) ?_) | (with_reducible refine x_targetN (by assumption) (by assumption) ?_) | (with_reducible refine x_placeof (by assumption) ?_)))
theorem x_set {c0 c1 : Int} {v : Str} {b : B} (hb : b.good) (hv : okName v) (hl : v.length ≤ 100) (hvp : v ≠ Str.ofString ")") {Q : Rs → List O → Prop}
    (q : Q (.two (.tup [.str "set", .str v, toD b.e]) (b.pls ++ [plT c0 v])) [.ol (((c0, Tk.name v) :: (c1, Tk.op .eq) :: b.tks).map rowD)]) : XF F_read_set [.ol (((c0, Tk.name v) :: (c1, Tk.op .eq) :: b.tks).map rowD)] Q := by
  have h1 := hb.len
  have hi := its_len b
  have hpl := pls_len b
  have hne : b.tks.length ≠ 0 := by cases b <;> simp [B.tks]
  refine xf' rfl (by walk_at "at") ?_
  unfold f_read_set
  simp only [List.map_cons, rowD, Tk.kind, Tk.word] at q ⊢
  have h3 : ¬ ((D.tup [.int c0, .str (Str.ofString "name"), .str v] :: D.tup [.int c1, .str (Str.ofString "sign"), .str Op.eq.str] :: b.tks.map rowD).length : Int) < 3 := by simp; omega
  have he : Op.eq.str = Str.ofString "=" := rfl
  rw [he] at h3 q ⊢
  walk_at "law"
  refine x_wholeB [(c0, .name v), (c1, .op .eq)] hb (by rfl) (by rfl) ?_ (by simp) ?_
  · intro t ht
    simp at ht
    rcases ht with rfl | rfl
    · exact ⟨hl, hvp⟩
    · trivial
  unfold isD
  walk_at "law"
  refine x_tree (ev_its b) (by omega) ?_
  unfold isD
  walk_at "law"
  refine x_places (by omega) ?_
  unfold isD
  walk_at "law"
  refine xo_addL (by simp [B.pls] at hpl ⊢; omega) ?_
  walk_at "law"
  exact q
theorem nE {α : Type} {a : α} {r : List α} : (!(a :: r).isEmpty) = true := rfl
theorem nEE {α : Type} {a : α} {r : List α} : (!!(a :: r).isEmpty) = false := rfl
local macro_rules | `(tactic| walk_at "law") => `(tactic| repeat' (first | walk_at "1" | ((with_reducible refine lend_ok ?_ ?_); (focus rfl)) | ((with_reducible apply wbx); (focus (walk_at "wb"; done)); (focus rfl)) | walk_at "tf" | walk_at "isi" | (with_reducible refine lenS (by omega) ?_) | (with_reducible refine x_targetN (by assumption) (by assumption) ?_) | (with_reducible refine x_placeof (by assumption) ?_) | (with_reducible apply tf_T; (focus exact nE)) | (with_reducible apply tf_F; (focus exact nEE))))
theorem num_not0 {n : Nat} (h : 1 ≤ n) : Txt.startswith (num n) (Str.ofString "0") = false := sw0 h
theorem num_le7 {n : Nat} (h : n ≤ 1000000) : (num n).length ≤ 7 := by
  rw [num_len]
  exact TL.numL_len (by decide) (by omega)
theorem x_lineno {c : Int} {n : Nat} (h1 : 1 ≤ n) (h2 : n ≤ 1000000) {Q : Rs → List O → Prop} (q : Q (.o (.shr (.int (n : Nat)))) [.shr (.tup [.int c, .str (Str.ofString "number"), .str (num n)])]) : XF F_read_line_number [.shr (.tup [.int c, .str (Str.ofString "number"), .str (num n)])] Q := by
  have h3 := num_not0 h1
  have h4 := num_le7 h2
  refine xf' rfl (by walk_at "at") ?_
  unfold f_read_line_number
  walk_at "law"
  refine tf_F h3 ?_
  walk_at "law"
  refine xo_intS (by omega) (num_int (by omega)) ?_
  walk_at "law"
  exact q
theorem x_go1 {c0 : Int} {n : Nat} (h1 : 1 ≤ n) (h2 : n ≤ 1000000) {Q : Rs → List O → Prop}
    (q : Q (.two (.tup [.str "go", .int (n : Nat), .non]) [plT c0 (num n)]) [.ol ([(c0, Tk.num n)].map rowD)]) : XF F_read_go [.ol ([(c0, Tk.num n)].map rowD)] Q := by
  have h7 := num_le7 h2
  have h8 : (num n).length ≤ 100 := by omega
  refine xf' rfl (by walk_at "at") ?_
  unfold f_read_go
  simp only [List.map_cons, List.map_nil, rowD, Tk.kind, Tk.word] at q ⊢
  walk_at "law"
  refine x_lineno h1 h2 ?_
  walk_at "law"
  refine tf_T (decide_eq_true rfl) ?_
  walk_at "law"
  exact q
theorem x_go {c0 c1 : Int} {n : Nat} {b : B} (hb : b.good) (h1 : 1 ≤ n) (h2 : n ≤ 1000000) {Q : Rs → List O → Prop}
    (q : Q (.two (.tup [.str "go", .int (n : Nat), toD b.e]) (b.pls ++ [plT c0 (num n)])) [.ol (((c0, Tk.num n) :: (c1, Tk.name "if") :: b.tks).map rowD)]) : XF F_read_go [.ol (((c0, Tk.num n) :: (c1, Tk.name "if") :: b.tks).map rowD)] Q := by
  have h0 := hb.len
  have hi := its_len b
  have hpl := pls_len b
  have h7 := num_le7 h2
  have h8 : (num n).length ≤ 100 := by omega
  have hne : b.tks.length ≠ 0 := by cases b <;> simp [B.tks]
  refine xf' rfl (by walk_at "at") ?_
  unfold f_read_go
  simp only [List.map_cons, rowD, Tk.kind, Tk.word] at q ⊢
  have h3 : ¬ ((D.tup [.int c0, .str (Str.ofString "number"), .str (num n)] :: D.tup [.int c1, .str (Str.ofString "name"), .str (Str.ofString "if")] :: b.tks.map rowD).length : Int) = 1 := by simp; omega
  walk_at "law"
  refine x_lineno h1 h2 ?_
  walk_at "law"
  refine x_wholeB [(c0, .num n), (c1, .name "if")] hb (by rfl) (by rfl) ?_ (by simp) ?_
  · intro t ht
    simp at ht
    rcases ht with rfl | rfl
    · show n < _; omega
    · exact ⟨by decide +kernel, by decide +kernel⟩
  unfold isD
  walk_at "law"
  refine x_tree (ev_its b) (by omega) ?_
  unfold isD
  walk_at "law"
  refine x_places (by omega) ?_
  unfold isD
  walk_at "law"
  refine xo_addL (by simp [B.pls] at hpl ⊢; omega) ?_
  walk_at "law"
  exact q
/-! back, tell, give, put -/
theorem x_back {Q : Rs → List O → Prop} (q : Q (.two (.tup [.str "back", .non]) [.tup [.int 1, .int 4]]) [.shr (.str "back"), .ol []]) : XF F_read_value [.shr (.str "back"), .ol []] Q := by
  have hl : (Str.ofString "back").length ≤ 100 := by decide +kernel
  have h4 : (Str.ofString "back").length = 4 := by decide +kernel
  refine xf' rfl (by walk_at "at") ?_
  unfold f_read_value
  walk_at "law"
  rw [h4]
  exact q
theorem x_value {w : Str} {b : B} (hb : b.good) (hw : w.length ≤ 4) {Q : Rs → List O → Prop}
    (q : Q (.two (.tup [.str w, toD b.e]) (b.pls ++ [.tup [.int 1, .int (w.length : Nat)]])) [.shr (.str w), .ol (b.tks.map rowD)]) : XF F_read_value [.shr (.str w), .ol (b.tks.map rowD)] Q := by
  have h0 := hb.len
  have hi := its_len b
  have hpl := pls_len b
  have hne : (!(b.tks.map rowD).isEmpty) = true := by cases b <;> simp [B.tks]
  refine xf' rfl (by walk_at "at") ?_
  unfold f_read_value
  by_cases hbk : w = Str.ofString "back"
  case' pos =>
    walk_at "law"
    refine tf_F (by rw [hne]; rfl) ?_
  all_goals
    walk_at "law"
    refine x_wholeB [] hb (by rfl) (by rfl) (fun t ht => nomatch ht) (by simp) ?_
    unfold isD
    walk_at "law"
    refine x_tree (ev_its b) (by omega) ?_
    unfold isD
    walk_at "law"
    refine x_places (by omega) ?_
    unfold isD
    walk_at "law"
    refine xo_addL (by simp [B.pls] at hpl ⊢; omega) ?_
    walk_at "law"
    exact q
/-! ### letters and figures -/
abbrev S := SX.S
def isFig (c : Nat) : Bool := decide (48 ≤ c) && decide (c ≤ 57)
def isLet (c : Nat) : Bool := decide (97 ≤ c) && decide (c ≤ 122)
def isAln (c : Nat) : Bool := isLet c || isFig c
def isPth (c : Nat) : Bool := isLet c || (isFig c || decide (c = 47))
theorem le_one {c d : Nat} : (!decide ((([d] : List Nat)) < [c])) = decide (c ≤ d) := by
  by_cases h : c ≤ d
  · rw [decide_eq_true h, decide_eq_false]; rfl
    intro z
    rw [List.cons_lt_cons_iff] at z
    rcases z with z | z
    · omega
    · exact absurd z.2 (by simp)
  · rw [decide_eq_false h, decide_eq_true]; rfl
    rw [List.cons_lt_cons_iff]
    exact .inl (by omega)
theorem leC {c d : Nat} {Q : O → Prop} (q : Q (.shr (.bl (decide (c ≤ d))))) : XO (oLeS (.shr (.str (S [c]))) (.shr (.str (S [d])))) Q := xo_leS (by
  have : (!decide ((S [d]).cps.toList < (S [c]).cps.toList)) = decide (c ≤ d) := le_one
  rw [this]; exact q)
theorem o_a : Str.ofString "a" = S [97] := by decide +kernel
theorem o_z : Str.ofString "z" = S [122] := by decide +kernel
theorem o_0 : Str.ofString "0" = S [48] := by decide +kernel
theorem o_9 : Str.ofString "9" = S [57] := by decide +kernel
theorem o_sp : Str.ofString " " = S [32] := by decide +kernel
theorem o_at : Str.ofString "@" = S [64] := by decide +kernel
theorem o_sl : Str.ofString "/" = S [47] := by decide +kernel
theorem eqC {c d : Nat} {Q : O → Prop} (q : Q (.shr (.bl (decide (c = d))))) : XO (oEq (.shr (.str (S [c]))) (.shr (.str (S [d])))) Q := eqSt (by
  have : decide (S [c] = S [d]) = decide (c = d) := by
    by_cases h : c = d
    · rw [h]; simp
    · rw [decide_eq_false h, decide_eq_false fun z => h (by have := SX.S_inj z; simpa using this)]
  rw [this]; exact q)
theorem lenT {l : List Nat} (hl : l.length ≤ 90000) {Q : O → Prop} (q : Q (.shr (.int (l.length : Nat)))) : XO (oLen [.shr (.str (S l))]) Q := xo_lenS (by rw [SX.S_len]; omega) (by rw [SX.S_len]; exact q)
theorem ixT' {l : List Nat} (hl : l.length ≤ 90000) {k : Nat} {c : Nat} (h : l[k]? = some c) {Q : O → Prop} (q : Q (.shr (.str (S [c])))) : XO (oIx (.shr (.str (S l))) (.shr (.int (k : Nat)))) Q := xo_ixS (c := c) (by rw [SX.S_len]; omega) (at_of h) q
local macro_rules | `(tactic| walk_at "law") => `(tactic| repeat' (first | with_reducible refine leC ?_ | with_reducible refine eqC ?_ | with_reducible refine lenT (by assumption) ?_ | with_reducible refine ixT' (by assumption) (by assumption) ?_ | walk_at "1" | ((with_reducible refine lend_ok ?_ ?_); (focus rfl)) | ((with_reducible apply wbx); (focus (walk_at "wb"; done)); (focus rfl)) | walk_at "tf" | walk_at "isi"))
theorem x_letter {c : Nat} {Q : Rs → List O → Prop} (q : Q (.o (.shr (.bl (isLet c)))) [.shr (.str (S [c]))]) : XF F_is_letter [.shr (.str (S [c]))] Q := by
  refine xf' rfl (by walk_at "at") ?_
  unfold f_is_letter
  rw [o_a, o_z]
  unfold isLet at q
  by_cases h : 97 ≤ c
  · rw [decide_eq_true h, Bool.true_and] at q
    walk_at "law"
    exact q
  · rw [decide_eq_false h, Bool.false_and] at q
    walk_at "law"
    exact q
theorem x_figure {c : Nat} {Q : Rs → List O → Prop} (q : Q (.o (.shr (.bl (isFig c)))) [.shr (.str (S [c]))]) : XF F_is_figure [.shr (.str (S [c]))] Q := by
  refine xf' rfl (by walk_at "at") ?_
  unfold f_is_figure
  rw [o_0, o_9]
  unfold isFig at q
  by_cases h : 48 ≤ c
  · rw [decide_eq_true h, Bool.true_and] at q
    walk_at "law"
    exact q
  · rw [decide_eq_false h, Bool.false_and] at q
    walk_at "law"
    exact q
/-! runs -/
def adv (p : Nat → Bool) (l : List Nat) (k : Nat) : Nat := k + ((l.drop k).takeWhile p).length
theorem adv_end {p : Nat → Bool} {l : List Nat} {k : Nat} (h : ¬ k < l.length) : adv p l k = k := by
  rw [adv, List.drop_eq_nil_of_le (by omega)]; rfl
theorem adv_no {p : Nat → Bool} {l : List Nat} {k c : Nat} (h : l[k]? = some c) (hp : p c = false) : adv p l k = k := by
  obtain ⟨hl, rfl⟩ := List.getElem?_eq_some_iff.mp h
  rw [adv, List.drop_eq_getElem_cons hl, List.takeWhile_cons_of_neg (by rw [hp]; decide)]; rfl
theorem adv_yes {p : Nat → Bool} {l : List Nat} {k c : Nat} (h : l[k]? = some c) (hp : p c = true) : adv p l k = adv p l (k + 1) := by
  obtain ⟨hl, rfl⟩ := List.getElem?_eq_some_iff.mp h
  rw [adv, adv, List.drop_eq_getElem_cons hl, List.takeWhile_cons_of_pos hp, List.length_cons]; omega
local macro_rules | `(tactic| walk_at "law") => `(tactic| repeat' (first | with_reducible refine x_letter ?_ | with_reducible refine x_figure ?_ | with_reducible refine leC ?_ | with_reducible refine eqC ?_ | with_reducible refine lenT (by assumption) ?_ | with_reducible refine ixT' (by assumption) (by assumption) ?_ | walk_at "1" | ((with_reducible refine lend_ok ?_ ?_); (focus rfl)) | ((with_reducible apply wbx); (focus (walk_at "wb"; done)); (focus rfl)) | walk_at "tf" | walk_at "isi" | (with_reducible apply tf_T; (focus assumption)) | (with_reducible apply tf_F; (focus assumption))))
def JA (p : Nat → Bool) (l : List Nat) (k0 : Nat) (mk : Nat → Sto) (m : Nat) (e : Sto) : Prop := ∃ k, m = l.length - k ∧ k ≤ l.length ∧ adv p l k = adv p l k0 ∧ e = mk k
theorem x_runend {l : List Nat} (hl : l.length ≤ 90000) {k0 : Nat} (h0 : k0 ≤ l.length) {Q : Rs → List O → Prop} (q : ∀ k : Nat, Q (.o (.shr (.int (adv isAln l k0 : Nat)))) [.shr (.str (S l)), .shr (.int (k : Nat))]) : XF F_run_end [.shr (.str (S l)), .shr (.int (k0 : Nat))] Q := by
  refine xf' rfl (by walk_at "at") ?_
  unfold f_run_end
  walk_at "law"
  refine xs_while (JA isAln l k0 fun k => [some ⟨.shr (.str (S l)), false, false⟩, some ⟨.shr (.int (k : Nat)), false, false⟩]) ?_ 100000 (l.length - k0) _ (by omega) ⟨k0, rfl, h0, rfl, rfl⟩
  rintro m e ⟨k, rfl, hk, ha, rfl⟩
  by_cases hlt : k < l.length
  · have hc : l[k]? = some l[k] := List.getElem?_eq_getElem hlt
    generalize l[k] = c at hc
    have hltI : ((k : Nat) : Int) < ((l.length : Nat) : Int) := by omega
    cases h1 : isLet c with
    | true =>
      walk_at "law"
      exact wl_nx (k := l.length - (k + 1)) (by omega) ⟨k + 1, rfl, by omega, (adv_yes hc (by rw [isAln, h1]; rfl)).symm.trans ha, rfl⟩
    | false =>
      cases h2 : isFig c with
      | true =>
        walk_at "law"
        exact wl_nx (k := l.length - (k + 1)) (by omega) ⟨k + 1, rfl, by omega, (adv_yes hc (by rw [isAln, h1, h2]; rfl)).symm.trans ha, rfl⟩
      | false =>
        rw [adv_no hc (by rw [isAln, h1, h2]; rfl)] at ha
        rw [← ha] at q
        walk_at "law"
        exact q _
  · have hltI : ¬ ((k : Nat) : Int) < ((l.length : Nat) : Int) := by omega
    rw [adv_end hlt] at ha
    rw [← ha] at q
    walk_at "law"
    exact q _
theorem x_pathend {l : List Nat} (hl : l.length ≤ 90000) {k0 : Nat} (h0 : k0 ≤ l.length) {Q : Rs → List O → Prop} (q : ∀ k : Nat, Q (.o (.shr (.int (adv isPth l k0 : Nat)))) [.shr (.str (S l)), .shr (.int (k : Nat))]) : XF F_path_end [.shr (.str (S l)), .shr (.int (k0 : Nat))] Q := by
  refine xf' rfl (by walk_at "at") ?_
  unfold f_path_end
  rw [o_sl]
  walk_at "law"
  refine xs_while (JA isPth l k0 fun k => [some ⟨.shr (.str (S l)), false, false⟩, some ⟨.shr (.int (k : Nat)), false, false⟩]) ?_ 100000 (l.length - k0) _ (by omega) ⟨k0, rfl, h0, rfl, rfl⟩
  rintro m e ⟨k, rfl, hk, ha, rfl⟩
  by_cases hlt : k < l.length
  · have hc : l[k]? = some l[k] := List.getElem?_eq_getElem hlt
    generalize l[k] = c at hc
    have hltI : ((k : Nat) : Int) < ((l.length : Nat) : Int) := by omega
    cases h1 : isLet c with
    | true =>
      walk_at "law"
      exact wl_nx (k := l.length - (k + 1)) (by omega) ⟨k + 1, rfl, by omega, (adv_yes hc (by rw [isPth, h1]; rfl)).symm.trans ha, rfl⟩
    | false =>
      cases h2 : isFig c with
      | true =>
        walk_at "law"
        exact wl_nx (k := l.length - (k + 1)) (by omega) ⟨k + 1, rfl, by omega, (adv_yes hc (by rw [isPth, h1, h2]; rfl)).symm.trans ha, rfl⟩
      | false =>
        by_cases h3 : c = 47
        · walk_at "law"
          exact wl_nx (k := l.length - (k + 1)) (by omega) ⟨k + 1, rfl, by omega, (adv_yes hc (by rw [isPth, h1, h2, decide_eq_true h3]; rfl)).symm.trans ha, rfl⟩
        · rw [adv_no hc (by rw [isPth, h1, h2, decide_eq_false h3]; rfl)] at ha
          rw [← ha] at q
          walk_at "law"
          exact q _
  · have hltI : ¬ ((k : Nat) : Int) < ((l.length : Nat) : Int) := by omega
    rw [adv_end hlt] at ha
    rw [← ha] at q
    walk_at "law"
    exact q _
/-! ### tokens -/
def Tk.cs : Tk → List Nat
  | .num n => TL.numL n | .name s => TL.tl s | .op o => [o.cd] | .lp => [40] | .rp => [41] | .cm => [44]
theorem word_S (t : Tk) : t.word = S t.cs := by
  cases t with
  | num n => exact SX.num_S n
  | name s => exact (SX.S_tl s).symm
  | op o => cases o <;> decide +kernel
  | lp => decide +kernel
  | rp => decide +kernel
  | cm => decide +kernel
def headNot (p : Nat → Bool) : List Nat → Prop
  | [] => True
  | c :: _ => p c = false
def Ends (rest : List Nat) : Tk → Prop
  | .num _ => headNot isFig rest
  | .name _ => headNot isAln rest
  | _ => True
def NameC (l : List Nat) : Prop := (∃ c r, l = c :: r ∧ isLet c = true ∧ ∀ x ∈ r, isAln x = true) ∨ (∃ c r, l = 64 :: c :: r ∧ isLet c = true ∧ ∀ x ∈ r, isAln x = true)
def Tk.spl : Tk → Prop
  | .name s => NameC (TL.tl s)
  | _ => True
inductive Tz : List Nat → Nat → List LT → Prop
  | nil {k : Nat} : Tz [] k []
  | sp {r : List Nat} {k : Nat} {ts : List LT} : Tz r (k + 1) ts → Tz (32 :: r) k ts
  | tok {t : Tk} {rest : List Nat} {k : Nat} {ts : List LT} : t.spl → Ends rest t → Tz rest (k + t.cs.length) ts → Tz (t.cs ++ rest) k (((k : Int) + 1, t) :: ts)
theorem adv_of {p : Nat → Bool} {l a rest : List Nat} {k : Nat} (hd : l.drop k = a ++ rest) (ha : ∀ x ∈ a, p x = true) (hr : headNot p rest) : adv p l k = k + a.length := by
  rw [adv, hd]
  congr 1
  clear hd
  induction a with
  | nil =>
    cases rest with
    | nil => rfl
    | cons c r => rw [List.nil_append, List.takeWhile_cons_of_neg (by rw [show p c = false from hr]; decide)]
  | cons x a ih =>
    rw [List.cons_append, List.takeWhile_cons_of_pos (ha x (List.mem_cons_self ..)), List.length_cons, List.length_cons, ih fun y hy => ha y (List.mem_cons_of_mem _ hy)]
theorem at_drop {l r : List Nat} {k c : Nat} (h : l.drop k = c :: r) : l[k]? = some c ∧ k < l.length ∧ l.drop (k + 1) = r := by
  have hl : k < l.length := by
    have := congrArg List.length h
    simp at this; omega
  rw [List.drop_eq_getElem_cons hl] at h
  obtain ⟨h1, h2⟩ := List.cons.inj h
  exact ⟨by rw [List.getElem?_eq_getElem hl, h1], hl, h2⟩
theorem numL_fig (n : Nat) : ∀ x ∈ TL.numL n, isFig x = true := fun x hx => by
  have := TL.numL_digits n x hx
  simp [isFig]; omega
theorem let_fig {c : Nat} (h : isLet c = true) : isFig c = false := by
  simp [isLet] at h
  simp [isFig]; omega
theorem op_cd (o : Op) : isFig o.cd = false ∧ isLet o.cd = false ∧ ¬ o.cd = 64 ∧ ¬ o.cd = 32 := by cases o <;> decide
local macro_rules | `(tactic| walk_at "law") => `(tactic| repeat' (first | with_reducible refine x_letter ?_ | with_reducible refine x_figure ?_ | with_reducible refine leC ?_ | with_reducible refine eqC ?_ | with_reducible refine lenT (by assumption) ?_ | with_reducible refine ixT' (by assumption) (by assumption) ?_ | walk_at "1" | ((with_reducible refine lend_ok ?_ ?_); (focus rfl)) | ((with_reducible apply wbx); (focus (walk_at "wb"; done)); (focus rfl)) | walk_at "tf" | walk_at "isi" | (with_reducible apply tf_T; (focus assumption)) | (with_reducible apply tf_F; (focus assumption))))
theorem x_signend {l : List Nat} (hl : l.length ≤ 90000) {k c : Nat} (hc : l[k]? = some c) (h1 : isFig c = false) (h2 : isLet c = false) (h3 : ¬ c = 64) {Q : Rs → List O → Prop}
    (q : Q (.o (.shr (.tup [.str "sign", .int ((k : Int) + 1)]))) [.shr (.str (S l)), .shr (.int (k : Nat))]) : XF F_token_end [.shr (.str (S l)), .shr (.int (k : Nat))] Q := by
  refine xf' rfl (by walk_at "at") ?_
  unfold f_token_end
  rw [o_at]
  walk_at "law"
  exact q
theorem x_tokenend {l rest : List Nat} (hl : l.length ≤ 90000) {k : Nat} {t : Tk} (hd : l.drop k = t.cs ++ rest) (hs : t.spl) (he : Ends rest t) {Q : Rs → List O → Prop}
    (q : Q (.o (.shr (.tup [.str t.kind, .int ((k + t.cs.length : Nat) : Int)]))) [.shr (.str (S l)), .shr (.int (k : Nat))]) : XF F_token_end [.shr (.str (S l)), .shr (.int (k : Nat))] Q := by
  cases t with
  | num n =>
    refine xf' rfl (by walk_at "at") ?_
    unfold f_token_end
    rw [o_at]
    have ha := adv_of (p := isFig) hd (numL_fig n) he
    simp only [Tk.cs] at hd ha q
    cases hn : TL.numL n with
    | nil => exact absurd hn (TL.numL_ne n)
    | cons c r =>
      have h1 : isFig c = true := numL_fig n c (by rw [hn]; simp)
      rw [hn, List.cons_append] at hd
      obtain ⟨hc, hlt, _⟩ := at_drop hd
      walk_at "law"
      refine xs_while (JA isFig l k fun k' => [some ⟨.shr (.str (S l)), false, false⟩, some ⟨.shr (.int (k : Nat)), false, false⟩, some ⟨.shr (.str (S [c])), false, false⟩, some ⟨.shr (.int (k' : Nat)), false, false⟩]) ?_ 100000 (l.length - k) _ (by omega) ⟨k, rfl, by omega, rfl, rfl⟩
      rintro m e ⟨k', rfl, hk, ha', rfl⟩
      rw [← ha, ← ha'] at q
      by_cases hlt : k' < l.length
      · have hc' : l[k']? = some l[k'] := List.getElem?_eq_getElem hlt
        generalize l[k'] = c' at hc'
        have hltI : ((k' : Nat) : Int) < ((l.length : Nat) : Int) := by omega
        cases h2 : isFig c' with
        | true =>
          walk_at "law"
          exact wl_nx (k := l.length - (k' + 1)) (by omega) ⟨k' + 1, rfl, by omega, (adv_yes hc' h2).symm.trans ha', rfl⟩
        | false =>
          rw [adv_no hc' h2] at q
          walk_at "law"
          exact q
      · have hltI : ¬ ((k' : Nat) : Int) < ((l.length : Nat) : Int) := by omega
        rw [adv_end hlt] at q
        walk_at "law"
        exact q
  | name s =>
    refine xf' rfl (by walk_at "at") ?_
    unfold f_token_end
    rw [o_at]
    simp only [Tk.cs] at hd q
    rcases hs with ⟨c, r, e, h1, h2⟩ | ⟨c, r, e, h1, h2⟩
    · rw [e] at hd q
      have ha := adv_of (p := isAln) hd (fun x hx => by rcases List.mem_cons.mp hx with rfl | hx; (rw [isAln, h1]; rfl); exact h2 x hx) he
      rw [← ha] at q
      obtain ⟨hc, hlt, _⟩ := at_drop hd
      have hf := let_fig h1
      walk_at "law"
      refine x_runend hl (by omega) fun k' => ?_
      walk_at "law"
      exact q
    · rw [e] at hd q
      obtain ⟨hc, hlt, hd2⟩ := at_drop hd
      have ha := adv_of (p := isAln) (a := c :: r) hd2 (fun x hx => by rcases List.mem_cons.mp hx with rfl | hx; (rw [isAln, h1]; rfl); exact h2 x hx) he
      have e2 : k + (64 :: c :: r).length = k + 1 + (c :: r).length := by simp; omega
      rw [e2, ← ha] at q
      obtain ⟨hc2, hlt2, _⟩ := at_drop (c := c) (r := r ++ rest) hd2
      have hf : isFig 64 = false := by decide
      have hlt' : isLet 64 = false := by decide
      have hltI : ((k : Nat) : Int) + 1 < ((l.length : Nat) : Int) := by omega
      have hc3 : (((k : Nat) : Int) + 1) = ((k + 1 : Nat) : Int) := rfl
      walk_at "law"
      rw [hc3]
      walk_at "law"
      refine (x_runend hl (k0 := k + 1) (by omega) fun k' => ?_ : XF F_run_end [.shr (.str (S l)), .shr (.int ((k : Nat) + 1))] _)
      walk_at "law"
      exact q
  | op o =>
    obtain ⟨hc, _, _⟩ := at_drop hd
    have := op_cd o
    exact x_signend hl hc this.1 this.2.1 this.2.2.1 q
  | lp => exact x_signend hl (at_drop hd).1 (by decide) (by decide) (by decide) q
  | rp => exact x_signend hl (at_drop hd).1 (by decide) (by decide) (by decide) q
  | cm => exact x_signend hl (at_drop hd).1 (by decide) (by decide) (by decide) q
theorem cut_word {l rest : List Nat} {k : Nat} {t : Tk} (hd : l.drop k = t.cs ++ rest) : cutS (S l) (some (k : Int)) (some ((k + t.cs.length : Nat) : Int)) = t.word := by
  have hl : k + t.cs.length ≤ l.length ∨ t.cs.length = 0 := by
    have := congrArg List.length hd
    simp at this; omega
  rw [word_S]
  unfold cutS
  rw [HT.sIx_nat, HT.sIx_nat, SX.S_len]
  congr 2
  show (l.drop (min k l.length)).take (min (k + t.cs.length) l.length - min k l.length) = t.cs
  rcases hl with hl | hl
  · rw [Nat.min_eq_left hl, Nat.min_eq_left (show k ≤ l.length by omega), hd, Nat.add_sub_cancel_left, List.take_left]
  · rw [hl, Nat.add_zero, Nat.sub_self, List.take_zero, List.length_eq_zero_iff.mp hl]
theorem cs_ne {t : Tk} (h : t.spl) : ∃ c r, t.cs = c :: r ∧ ¬ c = 32 := by
  cases t with
  | num n =>
    cases hn : TL.numL n with
    | nil => exact absurd hn (TL.numL_ne n)
    | cons c r =>
      have := TL.numL_digits n c (by rw [hn]; simp)
      exact ⟨c, r, hn, by omega⟩
  | name s =>
    rcases h with ⟨c, r, e, h1, h2⟩ | ⟨c, r, e, h1, h2⟩
    · exact ⟨c, r, e, by rintro rfl; simp [isLet] at h1⟩
    · exact ⟨64, _, e, by decide⟩
  | op o => exact ⟨_, _, rfl, (op_cd o).2.2.2⟩
  | lp => exact ⟨_, _, rfl, by decide⟩
  | rp => exact ⟨_, _, rfl, by decide⟩
  | cm => exact ⟨_, _, rfl, by decide⟩
def JT (l : List Nat) (ts0 : List LT) (m : Nat) (e : Sto) : Prop := ∃ (k : Nat) (F ts : List LT) (x3 x4 : Option Slot), m = l.length - k ∧ k ≤ l.length ∧ Tz (l.drop k) k ts ∧ F ++ ts = ts0 ∧ F.length ≤ k ∧ Fre' x3 ∧ Fre' x4 ∧
  e = [some ⟨.shr (.str (S l)), false, false⟩, some ⟨.shr (.int (k : Nat)), false, false⟩, some ⟨.ol (F.map rowD), false, false⟩, x3, x4]
theorem slT {l : List Nat} {k n : Nat} (hl : l.length ≤ 90000) {Q : O → Prop} (q : Q (.shr (.str (cutS (S l) (some (k : Int)) (some (n : Int)))))) : XO (oSl (.shr (.str (S l))) (some (k : Int)) (some (n : Int))) Q := slS (by rw [SX.S_len]; omega) q
theorem x_tokens {l : List Nat} (hl : l.length ≤ 90000) {k0 : Nat} (h0 : k0 ≤ l.length) {ts : List LT} (ht : Tz (l.drop k0) k0 ts) {Q : Rs → List O → Prop}
    (q : ∀ k : Nat, Q (.o (.ol (ts.map rowD))) [.shr (.str (S l)), .shr (.int (k : Nat))]) : XF F_tokens_from [.shr (.str (S l)), .shr (.int (k0 : Nat))] Q := by
  refine xf' rfl (by walk_at "at") ?_
  unfold f_tokens_from
  rw [o_sp]
  walk_at "law"
  refine xs_while (JT l ts) ?_ 100000 (l.length - k0) _ (by omega) ⟨k0, [], ts, none, none, rfl, h0, ht, rfl, by simp, .n, .n, rfl⟩
  rintro m e ⟨k, F, ts', x3, x4, rfl, hk, hz, hF, hFk, f3, f4, rfl⟩
  have hFl : (F.map rowD).length ≤ 100000 := by rw [List.length_map]; omega
  by_cases hlt : k < l.length
  · have hltI : ((k : Nat) : Int) < ((l.length : Nat) : Int) := by omega
    generalize hd : l.drop k = r at hz
    cases hz with
    | nil =>
      have := congrArg List.length hd
      simp at this; omega
    | @sp r _ _ hz' =>
      obtain ⟨hc, _, hd2⟩ := at_drop hd
      walk_at "law"
      exact wl_nx (k := l.length - (k + 1)) (by omega) ⟨k + 1, F, ts', _, _, rfl, by omega, by rw [hd2]; exact hz', hF, by omega, f3, f4, rfl⟩
    | @tok t rest _ ts'' hs he hz' =>
      obtain ⟨c, r', ec, hc32⟩ := cs_ne hs
      have hc := (at_drop (c := c) (r := r' ++ rest) (by rw [hd, ec]; rfl)).1
      have hll : k + t.cs.length ≤ l.length := by
        have := congrArg List.length hd
        simp at this; omega
      have hpos : 0 < t.cs.length := by rw [ec]; simp
      have hd3 : l.drop (k + t.cs.length) = rest := by rw [← List.drop_drop, hd, List.drop_left]
      walk_at "law"
      refine x_tokenend hl hd hs he ?_
      walk_at "law"
      refine slT hl ?_
      rw [cut_word hd]
      walk_at "law"
      rw [show F.map rowD ++ [.tup [.int ((k : Int) + 1), .str t.kind, .str t.word]] = (F ++ [((k : Int) + 1, t)]).map rowD from by rw [List.map_append]; rfl]
      exact wl_nx (k := l.length - (k + t.cs.length)) (by omega) ⟨k + t.cs.length, F ++ [((k : Int) + 1, t)], ts'', _, _, rfl, hll, by rw [hd3]; exact hz', by rw [List.append_assoc]; exact hF, by simp; omega, .s, .s, rfl⟩
  · have hltI : ¬ ((k : Nat) : Int) < ((l.length : Nat) : Int) := by omega
    rw [List.drop_eq_nil_of_le (by omega)] at hz
    have : ts' = [] := by
      generalize hr : ([] : List Nat) = r at hz
      cases hz with
      | nil => rfl
      | sp _ => cases hr
      | tok hs _ _ =>
        obtain ⟨c, r', ec, _⟩ := cs_ne hs
        rw [ec] at hr
        cases hr
    subst this
    rw [List.append_nil] at hF
    subst hF
    walk_at "law"
    exact q _
/-! ### the first word; words and paths -/
theorem find_hit {w r : List Nat} (hw : 32 ∉ w) : Txt.find (S (w ++ 32 :: r)) (S [32]) = (w.length : Nat) := by
  have hit : StrLaws.At (S (w ++ 32 :: r)) (S [32]) (S (w ++ 32 :: r)).length w.length := (TL.at_iff (by decide) _).mpr (by
    show TL.pre [32] ((w ++ 32 :: r).drop w.length) = true
    rw [List.drop_left]; simp [TL.pre])
  rcases PyProof.Rows.find_whole (S (w ++ 32 :: r)) (S [32]) with ⟨_, h⟩ | ⟨i, h1, h2, h3⟩
  · exact absurd hit (h _)
  · rw [h1]
    have le : i ≤ w.length := by
      by_cases z : w.length < i
      · exact absurd hit (h3 _ z)
      · omega
    have ge : ¬ i < w.length := fun z => by
      have p := (TL.at_iff (by decide) i).mp h2
      have e : TL.tl (S (w ++ 32 :: r)) = w ++ 32 :: r := rfl
      rw [e] at p
      rw [show TL.tl (S [32]) = [32] from rfl, List.drop_append_of_le_length (by omega), List.drop_eq_getElem_cons z] at p
      have p2 : ([w[i]] == [32]) = true := p
      have p3 : w[i] = 32 := by simpa using p2
      exact hw (p3 ▸ List.getElem_mem z)
    omega
theorem find_miss {w : List Nat} (hw : 32 ∉ w) : Txt.find (S w) (S [32]) = -1 := by
  rcases PyProof.Rows.find_whole (S w) (S [32]) with ⟨h, _⟩ | ⟨i, h1, h2, h3⟩
  · exact h
  · have p := (TL.at_iff (by decide) i).mp h2
    rw [show TL.tl (S w) = w from rfl, show TL.tl (S [32]) = [32] from rfl] at p
    cases hd : w.drop i with
    | nil => rw [hd] at p; simp [TL.pre] at p
    | cons a b =>
      rw [hd] at p
      simp [TL.pre] at p
      exact absurd (p ▸ List.mem_of_mem_drop (by rw [hd]; simp)) hw
theorem slTo {l : List Nat} {n : Nat} (hl : l.length ≤ 90000) {Q : O → Prop} (q : Q (.shr (.str (S (l.take n))))) : XO (oSl (.shr (.str (S l))) none (some (n : Int))) Q := slS (by rw [SX.S_len]; omega) (by
  have : cutS (S l) none (some (n : Int)) = S (l.take n) := by
    unfold cutS
    rw [HT.sIx_none, HT.sIx_nat, SX.S_len]
    congr 2
    show (l.drop 0).take (min n l.length - 0) = l.take n
    rw [List.drop_zero, Nat.sub_zero]
    by_cases h : n ≤ l.length
    · rw [Nat.min_eq_left h]
    · rw [Nat.min_eq_right (by omega), List.take_length, List.take_of_length_le (by omega)]
  rw [this]; exact q)
local macro_rules | `(tactic| walk_at "law") => `(tactic| repeat' (first | with_reducible refine slTo (by assumption) ?_ | with_reducible refine lenT (by assumption) ?_ | with_reducible refine ixT' (by assumption) (by assumption) ?_ | walk_at "1" | ((with_reducible refine lend_ok ?_ ?_); (focus rfl)) | ((with_reducible apply wbx); (focus (walk_at "wb"; done)); (focus rfl)) | walk_at "tf" | walk_at "isi" | (with_reducible apply tf_T; (focus assumption)) | (with_reducible apply tf_F; (focus assumption))))
theorem x_first0 {w : List Nat} (hl : w.length ≤ 90000) (hw : 32 ∉ w) {Q : Rs → List O → Prop} (q : Q (.o (.shr (.str (S w)))) [.shr (.str (S w))]) : XF F_first_word [.shr (.str (S w))] Q := by
  refine xf' rfl (by walk_at "at") ?_
  unfold f_first_word
  rw [o_sp]
  walk_at "law"
  rw [find_miss hw]
  walk_at "law"
  exact q
theorem x_first1 {w r : List Nat} (hl : (w ++ 32 :: r).length ≤ 90000) (hw : 32 ∉ w) {Q : Rs → List O → Prop} (q : Q (.o (.shr (.str (S w)))) [.shr (.str (S (w ++ 32 :: r)))]) : XF F_first_word [.shr (.str (S (w ++ 32 :: r)))] Q := by
  refine xf' rfl (by walk_at "at") ?_
  unfold f_first_word
  rw [o_sp]
  walk_at "law"
  rw [find_hit hw]
  walk_at "law"
  rw [List.take_left]
  exact q
/-- what follows the first word -/
def afterW : List Nat → Prop
  | [] => True
  | c :: _ => c = 32
theorem x_first {w r : List Nat} (hl : (w ++ r).length ≤ 90000) (hw : 32 ∉ w) (hr : afterW r) {Q : Rs → List O → Prop} (q : Q (.o (.shr (.str (S w)))) [.shr (.str (S (w ++ r)))]) : XF F_first_word [.shr (.str (S (w ++ r)))] Q := by
  cases r with
  | nil => rw [List.append_nil] at hl q ⊢; exact x_first0 hl hw q
  | cons c r =>
    have : c = 32 := hr
    subst this
    exact x_first1 hl hw q
theorem x_tokensof {w r : List Nat} {ts : List LT} (hl : (w ++ r).length ≤ 90000) (hw : 32 ∉ w) (hr : afterW r) (hz : Tz r w.length ts) {Q : Rs → List O → Prop} (q : Q (.o (.ol (ts.map rowD))) [.shr (.str (S (w ++ r)))]) : XF F_tokens_of [.shr (.str (S (w ++ r)))] Q := by
  refine xf' rfl (by walk_at "at") ?_
  unfold f_tokens_of
  walk_at "law"
  refine x_first hl hw hr ?_
  have hlw : w.length ≤ 90000 := by simp at hl; omega
  walk_at "law"
  refine x_tokens hl (by simp) (by rw [List.drop_left]; exact hz) fun k => ?_
  walk_at "law"
  exact q
theorem inOne {c : Nat} {z : List Nat} {Q : O → Prop} (q : Q (.shr (.bl (decide (c ∈ z))))) : XO (oInStr (.shr (.str (S [c]))) (.shr (.str (S z)))) Q := xo_inStr (by rw [SX.in_one]; exact q)
theorem all_bl {p : Nat → Bool} {l : List Nat} (h : ∀ c ∈ l, p c = true) {Q : O → Prop} (q : Q (.shr (.bl true))) : XO (oAll [.ol (l.map fun c => D.bl (p c))]) Q := by
  have e : asBls (l.map fun c => D.bl (p c)) = some (l.map p) := by
    clear h q
    induction l with
    | nil => rfl
    | cons a r ih => rw [List.map_cons, List.map_cons, asBls, ih]; rfl
  refine xo_all rfl e ?_
  have : (l.map p).all id = true := by rw [List.all_map, List.all_eq_true]; exact h
  rw [this]; exact q
theorem x_madeof {l z : List Nat} (hl : l.length ≤ 1000) (h : ∀ c ∈ l, c ∈ z) {Q : Rs → List O → Prop} (q : Q (.o (.shr (.bl true))) [.shr (.str (S l)), .shr (.str (S z))]) : XF F_made_of [.shr (.str (S l)), .shr (.str (S z))] Q := by
  refine xf' rfl (by walk_at "at") ?_
  unfold f_made_of
  walk_at "law"
  refine xc_ix (fun k acc e => acc = (l.take k).map (fun c => D.bl (decide (c ∈ z))) ∧ e = [some ⟨.shr (.str (S l)), false, false⟩, some ⟨.shr (.str (S z)), false, false⟩, none]) ⟨rfl, rfl⟩ ?_ ?_
  · rintro acc e ⟨rfl, rfl⟩
    rw [List.length_map]
    rw [show ((S l).cps.toList).length = l.length from rfl, List.take_length]
    refine ⟨_, by walk_at "at", ?_⟩
    walk_at "law"
    refine all_bl (fun c hc => decide_eq_true (h c hc)) ?_
    walk_at "law"
    exact q
  · rintro k acc e hk ⟨rfl, rfl⟩
    have hk2 : k < l.length := by simpa using hk
    rw [List.getElem_map]
    rw [show (S l).cps.toList[k]'(by simpa using hk2) = l[k] from rfl]
    walk_at "law"
    rw [show (⟨#[l[k]]⟩ : Str) = S [l[k]] from rfl, SX.in_one]
    refine acc_q (by simp; omega) (by walk_at "at") ⟨?_, rfl⟩
    rw [List.take_succ_eq_append_getElem hk2, List.map_append]; rfl
def sSmall : List Nat := List.range' 97 26
def sWord : List Nat := List.range' 97 26 ++ List.range' 48 10
def sPath : List Nat := List.range' 97 26 ++ List.range' 48 10 ++ [47]
theorem o_small : Str.ofString "abcdefghijklmnopqrstuvwxyz" = S sSmall := by decide +kernel
theorem o_word : Str.ofString "abcdefghijklmnopqrstuvwxyz0123456789" = S sWord := by decide +kernel
theorem o_path : Str.ofString "abcdefghijklmnopqrstuvwxyz0123456789/" = S sPath := by decide +kernel
theorem in_small {c : Nat} (h : isLet c = true) : c ∈ sSmall := by
  simp [isLet] at h
  simp [sSmall, List.mem_range'_1]; omega
theorem in_word {c : Nat} (h : isAln c = true) : c ∈ sWord := by
  simp [isAln, isLet, isFig] at h
  simp [sWord, List.mem_range'_1]; omega
theorem in_path {c : Nat} (h : isPth c = true) : c ∈ sPath := by
  simp [isPth, isLet, isFig] at h
  simp [sPath, List.mem_range'_1]; omega
local macro_rules | `(tactic| walk_at "law") => `(tactic| repeat' (first | with_reducible refine inOne ?_ | with_reducible refine slTo (by assumption) ?_ | with_reducible refine lenT (by assumption) ?_ | with_reducible refine ixT' (by assumption) (by assumption) ?_ | walk_at "1" | ((with_reducible refine lend_ok ?_ ?_); (focus rfl)) | ((with_reducible apply wbx); (focus (walk_at "wb"; done)); (focus rfl)) | walk_at "tf" | walk_at "isi" | (with_reducible apply tf_T; (focus assumption)) | (with_reducible apply tf_F; (focus assumption))))
theorem x_isword {c : Nat} {r : List Nat} (h1 : isLet c = true) (h2 : ∀ x ∈ r, isAln x = true) (hl : (c :: r).length ≤ 10) {Q : Rs → List O → Prop} (q : Q (.o (.shr (.bl true))) [.shr (.str (S (c :: r)))]) : XF F_is_word [.shr (.str (S (c :: r)))] Q := by
  refine xf' rfl (by walk_at "at") ?_
  unfold f_is_word
  rw [o_small, o_word]
  have hl2 : (c :: r).length ≤ 90000 := by omega
  have hp : 1 ≤ (((c :: r).length : Nat) : Int) := by simp; omega
  have i0 : (c :: r)[0]? = some c := rfl
  have hc := in_small h1
  have e0 : (0 : Int) = ((0 : Nat) : Int) := rfl
  have hall : ∀ x ∈ c :: r, x ∈ sWord := fun x hx => by
    rcases List.mem_cons.mp hx with rfl | hx
    · exact in_word (by rw [isAln, h1]; rfl)
    · exact in_word (h2 x hx)
  walk_at "law"
  refine (ixT' hl2 i0 ?_ : XO (oIx (.shr (.str (S (c :: r)))) (.shr (.int 0))) _)
  walk_at "law"
  refine x_madeof (by omega) hall ?_
  walk_at "law"
  exact q
theorem x_ispath {c : Nat} {r : List Nat} (h1 : isLet c = true) (h2 : ∀ x ∈ r, isPth x = true) (hl : (c :: r).length ≤ 20) {Q : Rs → List O → Prop} (q : Q (.o (.shr (.bl true))) [.shr (.str (S (c :: r)))]) : XF F_is_path [.shr (.str (S (c :: r)))] Q := by
  refine xf' rfl (by walk_at "at") ?_
  unfold f_is_path
  rw [o_small, o_path]
  have hl2 : (c :: r).length ≤ 90000 := by omega
  have hp : 1 ≤ (((c :: r).length : Nat) : Int) := by simp; omega
  have i0 : (c :: r)[0]? = some c := rfl
  have hc := in_small h1
  have hall : ∀ x ∈ c :: r, x ∈ sPath := fun x hx => by
    rcases List.mem_cons.mp hx with rfl | hx
    · exact in_path (by rw [isPth, h1]; rfl)
    · exact in_path (h2 x hx)
  walk_at "law"
  refine (ixT' hl2 i0 ?_ : XO (oIx (.shr (.str (S (c :: r)))) (.shr (.int 0))) _)
  walk_at "law"
  refine x_madeof (by omega) hall ?_
  walk_at "law"
  exact q
/-! ### hear, arguments, call -/
local macro_rules | `(tactic| walk_at "law") => `(tactic| repeat' (first | walk_at "1" | ((with_reducible refine lend_ok ?_ ?_); (focus rfl)) | ((with_reducible apply wbx); (focus (walk_at "wb"; done)); (focus rfl)) | walk_at "tf" | walk_at "isi" | (with_reducible refine lenS (by omega) ?_) | (with_reducible refine x_targetN (by assumption) (by assumption) ?_) | (with_reducible refine x_placeof (by assumption) ?_) | (with_reducible apply tf_T; (focus exact nE)) | (with_reducible apply tf_F; (focus exact nEE))))
theorem x_hear {c0 c1 c2 : Int} {v t : Str} (hv : okName v) (hl : v.length ≤ 100) {c : Nat} {r : List Nat} (ht : t = S (c :: r)) (h1 : isLet c = true) (h2 : ∀ x ∈ r, isAln x = true) (h3 : (c :: r).length ≤ 10) {Q : Rs → List O → Prop}
    (q : Q (.two (.tup [.str "hear", .str v, .str t]) [plT c0 v]) [.ol ([(c0, Tk.name v), (c1, Tk.op .eq), (c2, Tk.name t)].map rowD)]) : XF F_read_hear [.ol ([(c0, Tk.name v), (c1, Tk.op .eq), (c2, Tk.name t)].map rowD)] Q := by
  subst ht
  refine xf' rfl (by walk_at "at") ?_
  unfold f_read_hear
  simp only [List.map_cons, List.map_nil, rowD, Tk.kind, Tk.word] at q ⊢
  have he : Op.eq.str = Str.ofString "=" := rfl
  rw [he] at q ⊢
  walk_at "law"
  refine tf_F rfl ?_
  walk_at "law"
  refine x_isword h1 h2 h3 ?_
  walk_at "law"
  exact q
/-! arguments -/
def agT : List (B × Int) → List LT
  | [] => []
  | [(b, d)] => b.tks ++ [(d, .rp)]
  | (b, d) :: r => b.tks ++ (d, .cm) :: agT r
theorem agT_cons2 (b : B) (d : Int) (x : B × Int) (r : List (B × Int)) : agT ((b, d) :: x :: r) = b.tks ++ (d, .cm) :: agT (x :: r) := rfl
def argF (bs : List (B × Int)) : List D := bs.map fun p => isD p.1.its
def JG (row : List LT) (bs : List (B × Int)) (suf : List LT) (m : Nat) (e : Sto) : Prop := ∃ (dn rs : List (B × Int)) (k : Nat) (x3 x4 : Option Slot), m = rs.length ∧ dn ++ rs = bs ∧ rs ≠ [] ∧ k ≤ row.length ∧ row.drop k = agT rs ++ suf ∧ k + (agT rs).length = 1 + (agT bs).length ∧ Fre' x3 ∧ Fre' x4 ∧
  e = [some ⟨.ol (row.map rowD), true, false⟩, some ⟨.ol (argF dn), false, false⟩, some ⟨.shr (.int (k : Nat)), false, false⟩, x3, x4]
theorem row_at {row : List LT} {k : Nat} {t : LT} {r : List LT} (h : row.drop k = t :: r) : atI (row.map rowD) (k : Int) = some (rowD t) := by
  have hl : k < row.length := by
    have := congrArg List.length h
    simp at this; omega
  rw [List.drop_eq_getElem_cons hl] at h
  rw [at_nat (by simpa using hl), List.getElem_map, (List.cons.inj h).1]
theorem x_args0 {c d : Int} {suf : List LT} {Q : Rs → List O → Prop} (q : Q (.o (.shr (.tup [.lst [], .int 2]))) [.ol (((c, Tk.lp) :: (d, Tk.rp) :: suf).map rowD)]) : XF F_read_arguments [.ol (((c, Tk.lp) :: (d, Tk.rp) :: suf).map rowD)] Q := by
  refine xf' rfl (by walk_at "at") ?_
  unfold f_read_arguments
  simp only [List.map_cons, rowD, Tk.kind, Tk.word] at q ⊢
  have h3 : ¬ ((D.tup [.int c, .str (Str.ofString "sign"), .str (Str.ofString "(")] :: D.tup [.int d, .str (Str.ofString "sign"), .str (Str.ofString ")")] :: suf.map rowD).length : Int) < 2 := by simp; omega
  walk_at "law"
  exact q
theorem tks_head : ∀ {b : B}, (∀ t ∈ b.tks, t.2.ok) → ∃ t r, b.tks = t :: r ∧ ¬ t.2.word = Str.ofString ")"
  | .num c n, _ => ⟨_, _, rfl, of_decide_eq_false (num_rp n)⟩
  | .nam c s, h => ⟨_, _, rfl, (h _ (List.mem_cons_self ..)).2⟩
  | .neg c b, _ => ⟨_, _, rfl, by show ¬ Op.sub.str = _; decide +kernel⟩
  | .bin o c l r, h => by
    obtain ⟨t, r', e, h⟩ := tks_head (b := l) fun t ht => h t (by rw [B.tks]; simp [ht])
    exact ⟨t, _, by rw [B.tks, e]; rfl, h⟩
  | .par c d b, _ => ⟨_, _, rfl, by show ¬ Str.ofString "(" = _; decide +kernel⟩
theorem agT_len2 : ∀ {bs : List (B × Int)}, bs ≠ [] → (∀ p ∈ bs, p.1.good) → 2 ≤ (agT bs).length
  | [(b, d)], _, h => by
    obtain ⟨t, r, e, _⟩ := tks_head (h _ (List.mem_cons_self ..)).ok
    rw [agT, e]; simp
  | (b, d) :: x :: r, _, h => by
    obtain ⟨t, r', e, _⟩ := tks_head (h _ (List.mem_cons_self ..)).ok
    rw [agT_cons2, e]; simp; omega
theorem x_args {c : Int} {bs : List (B × Int)} {suf : List LT} (hbs : bs ≠ []) (h4 : bs.length ≤ 4) (hg : ∀ p ∈ bs, p.1.good) (hok : ∀ t ∈ agT bs ++ suf, t.2.ok) (hl : (agT bs ++ suf).length ≤ 70000) {Q : Rs → List O → Prop}
    (q : Q (.o (.shr (.tup [.lst (argF bs), .int ((1 + (agT bs).length : Nat) : Int)]))) [.ol (((c, Tk.lp) :: (agT bs ++ suf)).map rowD)]) : XF F_read_arguments [.ol (((c, Tk.lp) :: (agT bs ++ suf)).map rowD)] Q := by
  refine xf' rfl (by walk_at "at") ?_
  unfold f_read_arguments
  have hrow : ∀ t ∈ (c, Tk.lp) :: (agT bs ++ suf), t.2.ok := fun t ht => by
    rcases List.mem_cons.mp ht with rfl | ht
    · trivial
    · exact hok t ht
  have hlr : ((c, Tk.lp) :: (agT bs ++ suf)).length ≤ 80000 := by simp at hl ⊢; omega
  have h2 := agT_len2 hbs hg
  obtain ⟨t1, r1, e1, hn1⟩ : ∃ t r, agT bs ++ suf = t :: r ∧ ¬ t.2.word = Str.ofString ")" := by
    match bs, hbs, hg with
    | [(b, d)], _, hg =>
      obtain ⟨t, r, e, h⟩ := tks_head (hg _ (List.mem_cons_self ..)).ok
      exact ⟨t, _, by rw [agT, e]; rfl, h⟩
    | (b, d) :: x :: r, _, hg =>
      obtain ⟨t, r, e, h⟩ := tks_head (hg _ (List.mem_cons_self ..)).ok
      exact ⟨t, _, by rw [agT_cons2, e]; rfl, h⟩
  have i0 : atI (((c, Tk.lp) :: (agT bs ++ suf)).map rowD) 0 = some (.tup [.int c, .str (Str.ofString "sign"), .str (Str.ofString "(")]) := at_of (k := 0) rfl
  have i1 : atI (((c, Tk.lp) :: (agT bs ++ suf)).map rowD) 1 = some (.tup [.int t1.1, .str t1.2.kind, .str t1.2.word]) := at_of (k := 1) (by rw [e1]; rfl)
  have hge : ¬ (((((c, Tk.lp) :: (agT bs ++ suf)).map rowD).length : Nat) : Int) < 2 := by simp; omega
  have hd0 : ((c, Tk.lp) :: (agT bs ++ suf)).drop 1 = agT bs ++ suf := rfl
  have hk0 : 1 ≤ ((c, Tk.lp) :: (agT bs ++ suf)).length := by simp
  have lr : ((((c, Tk.lp) :: (agT bs ++ suf)).map rowD).length) = ((c, Tk.lp) :: (agT bs ++ suf)).length := List.length_map ..
  generalize (c, Tk.lp) :: (agT bs ++ suf) = row at *
  walk_at "law"
  refine xs_while (JG row bs suf) ?_ 100000 bs.length _ (by omega) ⟨[], bs, 1, none, none, rfl, rfl, hbs, hk0, hd0, rfl, .n, .n, rfl⟩
  rintro m e ⟨dn, rs, k, x3, x4, rfl, hdn, hrs, hk, hd, hkl, f3, f4, rfl⟩
  have hdl : dn.length + rs.length = bs.length := by rw [← hdn, List.length_append]
  have hfl : (argF dn).length ≤ 1000 := by simp [argF]; omega
  match rs, hrs, hdn, hd, hkl, hdl with
  | [(b, d)], _, hdn, hd, hkl, hdl =>
    have hbg := hg (b, d) (by rw [← hdn]; simp)
    have er := rp_whole hbg.wf hbg.named (rest := (d, Tk.rp) :: suf) trivial k
    rw [show agT [(b, d)] ++ suf = b.tks ++ (d, Tk.rp) :: suf from by rw [agT, List.append_assoc]; rfl] at hd
    rw [← hd] at er
    have hk2 : row.drop (k + b.tks.length) = (d, Tk.rp) :: suf := by rw [← List.drop_drop, hd, List.drop_left]
    have ix := row_at hk2
    have hne : ¬ ((k + b.tks.length : Nat) : Int) = (((row.map rowD).length : Nat) : Int) := by
      have := congrArg List.length hk2
      simp at this ⊢; omega
    simp only [rowD, Tk.kind, Tk.word] at ix
    walk_at "law"
    refine x_postfix hrow hlr hk fun k' => ?_
    rw [er]
    simp only [rpD]
    walk_at "law"
    have e9 : ((k + b.tks.length : Nat) : Int) + 1 = ((1 + (agT bs).length : Nat) : Int) := by
      have : (agT [(b, d)]).length = b.tks.length + 1 := by simp [agT]
      omega
    rw [e9]
    have e8 : argF dn ++ [D.lst (b.its.map Item.d)] = argF bs := by rw [← hdn]; simp [argF, isD]
    rw [e8]
    exact q
  | (b, d) :: y :: rs, _, hdn, hd, hkl, hdl =>
    have hbg := hg (b, d) (by rw [← hdn]; simp)
    have er := rp_whole hbg.wf hbg.named (rest := (d, Tk.cm) :: (agT (y :: rs) ++ suf)) trivial k
    rw [show agT ((b, d) :: y :: rs) ++ suf = b.tks ++ (d, Tk.cm) :: (agT (y :: rs) ++ suf) from by rw [agT_cons2, List.append_assoc]; rfl] at hd
    rw [← hd] at er
    have hk2 : row.drop (k + b.tks.length) = (d, Tk.cm) :: (agT (y :: rs) ++ suf) := by rw [← List.drop_drop, hd, List.drop_left]
    have ix := row_at hk2
    have hlt : k + b.tks.length < row.length := by
      have := congrArg List.length hk2
      simp at this ⊢; omega
    have hne : ¬ ((k + b.tks.length : Nat) : Int) = (((row.map rowD).length : Nat) : Int) := by
      simp; omega
    simp only [rowD, Tk.kind, Tk.word] at ix
    have hdl' : dn.length + (rs.length + 1 + 1) = bs.length := hdl
    have h44 : ¬ (((argF dn ++ [D.lst (b.its.map Item.d)]).length : Nat) : Int) = 4 := by simp [argF]; omega
    walk_at "law"
    refine x_postfix hrow hlr hk fun k' => ?_
    rw [er]
    simp only [rpD]
    walk_at "law"
    have e8 : argF dn ++ [D.lst (b.its.map Item.d)] = argF (dn ++ [(b, d)]) := by simp [argF, isD]
    rw [e8]
    have e7 : (agT ((b, d) :: y :: rs)).length = b.tks.length + 1 + (agT (y :: rs)).length := by rw [agT_cons2]; simp; omega
    refine wl_nx (k := (y :: rs).length) (by simp) ⟨dn ++ [(b, d)], y :: rs, k + b.tks.length + 1, _, _, rfl, by rw [List.append_assoc]; exact hdn, by simp, by omega, ?_, by omega, .s, .s, rfl⟩
    rw [← List.drop_drop, hk2]; rfl
/-! ### call -/
def agT0 (bs : List (B × Int)) (d : Int) : List LT := match bs with
  | [] => [(d, .rp)]
  | _ => agT bs
theorem x_argsAll {c d : Int} {bs : List (B × Int)} {suf : List LT} (h4 : bs.length ≤ 4) (hg : ∀ p ∈ bs, p.1.good) (hok : ∀ t ∈ agT0 bs d ++ suf, t.2.ok) (hl : (agT0 bs d ++ suf).length ≤ 70000) {Q : Rs → List O → Prop}
    (q : Q (.o (.shr (.tup [.lst (argF bs), .int ((1 + (agT0 bs d).length : Nat) : Int)]))) [.ol (((c, Tk.lp) :: (agT0 bs d ++ suf)).map rowD)]) : XF F_read_arguments [.ol (((c, Tk.lp) :: (agT0 bs d ++ suf)).map rowD)] Q := by
  cases bs with
  | nil => exact x_args0 q
  | cons b r => exact x_args (by simp) h4 hg hok hl q
def allP (bs : List (B × Int)) : List D := bs.flatMap fun p => p.1.pls
theorem allP_len : ∀ bs : List (B × Int), (allP bs).length ≤ (agT bs).length
  | [] => Nat.le_refl _
  | [(b, d)] => by have := pls_len b; simp [allP, agT]; omega
  | (b, d) :: x :: r => by
    have := pls_len b
    have := allP_len (x :: r)
    rw [agT_cons2]
    simp only [allP, List.flatMap_cons, List.length_append, List.length_cons] at this ⊢
    omega
theorem agT_agT0 (bs : List (B × Int)) (d : Int) : (agT bs).length ≤ (agT0 bs d).length := by
  cases bs with
  | nil => exact Nat.zero_le _
  | cons b r => exact Nat.le_refl _
theorem cut_mid {a b c : List Nat} : cutS (S (a ++ (b ++ c))) (some (a.length : Int)) (some ((a.length + b.length : Nat) : Int)) = S b := by
  unfold cutS
  rw [HT.sIx_nat, HT.sIx_nat, SX.S_len]
  congr 2
  show ((a ++ (b ++ c)).drop (min a.length _)).take (min (a.length + b.length) _ - min a.length _) = b
  rw [Nat.min_eq_left (by simp), Nat.min_eq_left (by simp), List.drop_left, Nat.add_sub_cancel_left, List.take_left]
def sCall : List Nat := [99, 97, 108, 108, 32]
def nameD : Option (Int × Int × Str) → D
  | none => .non
  | some (_, _, v) => .str v
def sufT : Option (Int × Int × Str) → List LT
  | none => []
  | some (c1, c2, v) => [(c1, .name "as"), (c2, .name v)]
def sufOk : Option (Int × Int × Str) → Prop
  | none => True
  | some (_, _, v) => okName v ∧ v.length ≤ 100 ∧ v ≠ Str.ofString ")"
def treesD (bs : List (B × Int)) : List D := bs.map fun p => toD p.1.e
local macro_rules | `(tactic| walk_at "law") => `(tactic| repeat' (first | with_reducible refine lenT (by assumption) ?_ | walk_at "1" | ((with_reducible refine lend_ok ?_ ?_); (focus rfl)) | ((with_reducible apply wbx); (focus (walk_at "wb"; done)); (focus rfl)) | walk_at "tf" | walk_at "isi" | (with_reducible refine x_targetN (by assumption) (by assumption) ?_)))
abbrev tailC : SF := (sSeq (sSet 8 (vLc2 (iSeq (vVar 5)) (gN 9) bYes (iSeqH (vTake (vCall F_places_of_items (vConsH (vVar 9) vNilH)))) (gN 10) bYes (vTake (vVar 10)) [9, 10] [10]))
    (sRet2 (vTup2 (vTake (vTup (vConsD (vTake (vC (.str "call"))) (vConsD (vTake (vVar 2)) (vConsD (vTake (vLc (iSeq (vVar 5)) (gN 9) bYes (vTake (vCall F_tree_of (vConsH (vVar 9) vNilH))) [9])) (vConsD (vTake (vVar 7)) vNilD)))))) (vBin oAdd (vVar 8) (vLst (vConsD (vTake (vTup (vConsD (vTake (vC (.int 6))) (vConsD (vTake (vVar 1)) vNilD)))) vNilD))))))
theorem x_tailC {bs : List (B × Int)} {d1 d2 d3 d4 d5 d6 : D} {L : List D} (hg : ∀ p ∈ bs, p.1.good) (hl : (agT bs).length ≤ 70000) (h4 : bs.length ≤ 4) {Q : Rs → List O → Prop}
    (q : Q (.two (.tup [.str "call", d3, .lst (treesD bs), d6]) (allP bs ++ [.tup [.int 6, d2]])) [.shr d1]) :
    XS tailC [some ⟨.shr d1, false, false⟩, some ⟨.shr d2, false, false⟩, some ⟨.shr d3, false, false⟩, some ⟨.ol L, false, false⟩, some ⟨.shr d4, false, false⟩, some ⟨.shr (.lst (argF bs)), false, false⟩, some ⟨.shr d5, false, false⟩, some ⟨.shr d6, false, false⟩, none, none, none] (defQ 1 Q) := by
  have hap := allP_len bs
  have hpart : ∀ dn rs : List (B × Int), dn ++ rs = bs → (allP dn).length + (allP rs).length ≤ 70000 := fun dn rs h => by
    have : allP bs = allP dn ++ allP rs := by rw [← h]; simp [allP]
    rw [this, List.length_append] at hap
    omega
  walk_at "law"
  refine xe_lcc ?_
  walk_at "law"
  refine xcc_G (fun r acc e => ∃ dn rs, r = argF rs ∧ dn ++ rs = bs ∧ acc = allP dn ∧ e = [some ⟨.shr d1, false, false⟩, some ⟨.shr d2, false, false⟩, some ⟨.shr d3, false, false⟩, some ⟨.ol L, false, false⟩, some ⟨.shr d4, false, false⟩, some ⟨.shr (.lst (argF bs)), false, false⟩, some ⟨.shr d5, false, false⟩, some ⟨.shr d6, false, false⟩, none, none, none]) ?_ ?_ _ _ _ ⟨[], bs, rfl, rfl, rfl, rfl⟩
  · rintro acc e ⟨dn, rs, h1, h2, rfl, rfl⟩
    have : rs = [] := by cases rs with
      | nil => rfl
      | cons a b => cases h1
    subst this
    rw [List.append_nil] at h2
    subst h2
    show XW 8 (.tmp (.ol (allP dn))) [some ⟨.shr d1, false, false⟩, some ⟨.shr d2, false, false⟩, some ⟨.shr d3, false, false⟩, some ⟨.ol L, false, false⟩, some ⟨.shr d4, false, false⟩, some ⟨.shr (.lst (argF dn)), false, false⟩, some ⟨.shr d5, false, false⟩, some ⟨.shr d6, false, false⟩, none, none, none] _
    walk_at "law"
    refine xc_ix (fun k acc e => acc = ((treesD dn).take k) ∧ e = [some ⟨.shr d1, false, false⟩, some ⟨.shr d2, false, false⟩, some ⟨.shr d3, false, false⟩, some ⟨.ol L, false, false⟩, some ⟨.shr d4, false, false⟩, some ⟨.shr (.lst (argF dn)), false, false⟩, some ⟨.shr d5, false, false⟩, some ⟨.shr d6, false, false⟩, some ⟨.ol (allP dn), false, false⟩, none, none]) ⟨rfl, rfl⟩ ?_ ?_
    · rintro acc e ⟨rfl, rfl⟩
      rw [List.take_of_length_le (by simp [treesD, argF])]
      refine ⟨_, by walk_at "at", ?_⟩
      walk_at "law"
      refine xo_addL (by simp; omega) ?_
      walk_at "law"
      exact q
    · rintro k acc e hk ⟨rfl, rfl⟩
      have hk2 : k < dn.length := by simpa [argF] using hk
      have hk3 : k < (treesD dn).length := by simpa [treesD] using hk2
      have e1 : (argF dn)[k] = isD dn[k].1.its := by simp [argF]
      have hgk := hg _ (List.getElem_mem hk2)
      have hi := its_len dn[k].1
      have hgl := hgk.len
      rw [e1]
      walk_at "law"
      refine x_tree (ev_its _) (by omega) ?_
      walk_at "law"
      refine acc_q (by simp [treesD]; omega) (by walk_at "at") ⟨?_, rfl⟩
      rw [List.take_succ_eq_append_getElem hk3]
      simp [treesD]
  · rintro y r acc e ⟨dn, rs, h1, h2, rfl, rfl⟩
    cases rs with
    | nil => cases h1
    | cons p rs =>
      obtain ⟨rfl, rfl⟩ := List.cons.inj h1
      have hgk := hg p (by rw [← h2]; simp)
      have hi := its_len p.1
      have hgl := hgk.len
      have hb1 := hpart dn (p :: rs) h2
      have hb2 : (allP (p :: rs)).length = p.1.pls.length + (allP rs).length := by simp [allP]
      walk_at "law"
      refine xih ?_
      walk_at "law"
      refine x_places (by omega) ?_
      walk_at "law"
      refine ⟨_, rfl, ?_⟩
      refine xc_G (fun k acc e => acc = allP dn ++ p.1.pls.take k ∧ e = [some ⟨.shr d1, false, false⟩, some ⟨.shr d2, false, false⟩, some ⟨.shr d3, false, false⟩, some ⟨.ol L, false, false⟩, some ⟨.shr d4, false, false⟩, some ⟨.shr (.lst (argF bs)), false, false⟩, some ⟨.shr d5, false, false⟩, some ⟨.shr d6, false, false⟩, none, some ⟨.shr (isD p.1.its), false, false⟩, none]) ⟨by simp, rfl⟩ ?_ ?_
      · rintro acc e ⟨rfl, rfl⟩
        refine ⟨dn ++ [p], rs, rfl, by rw [List.append_assoc]; exact h2, ?_, rfl⟩
        rw [show ((p.1.its.map Item.p).map pD).length = p.1.pls.length from rfl, List.take_length]
        simp [allP]
      · rintro k acc e hk ⟨rfl, rfl⟩
        have hk : k < p.1.pls.length := hk
        rw [show ((p.1.its.map Item.p).map pD)[k] = p.1.pls[k] from rfl]
        walk_at "law"
        refine ⟨by simp; omega, ?_, rfl⟩
        rw [List.append_assoc, List.take_succ_eq_append_getElem hk]
theorem x_tailCE {L0 : List D} {d1 d2 d3 d4 d5 d6 : D} {L : List D} {Q : Rs → List O → Prop} (h : ∃ bs : List (B × Int), L0 = argF bs ∧ (∀ p ∈ bs, p.1.good) ∧ (agT bs).length ≤ 70000 ∧ bs.length ≤ 4 ∧ Q (.two (.tup [.str "call", d3, .lst (treesD bs), d6]) (allP bs ++ [.tup [.int 6, d2]])) [.shr d1]) :
    XS tailC [some ⟨.shr d1, false, false⟩, some ⟨.shr d2, false, false⟩, some ⟨.shr d3, false, false⟩, some ⟨.ol L, false, false⟩, some ⟨.shr d4, false, false⟩, some ⟨.shr (.lst L0), false, false⟩, some ⟨.shr d5, false, false⟩, some ⟨.shr d6, false, false⟩, none, none, none] (defQ 1 Q) := by
  obtain ⟨bs, rfl, h1, h2, h3, q⟩ := h
  exact x_tailC h1 h2 h3 q
theorem slMid {L a b c : List Nat} {j n : Int} (hl : L.length ≤ 90000) (hL : L = a ++ (b ++ c)) (hj : j = (a.length : Nat)) (hn : n = ((a.length + b.length : Nat) : Int)) {Q : O → Prop} (q : Q (.shr (.str (S b)))) : XO (oSl (.shr (.str (S L))) (some j) (some n)) Q := slS (by rw [SX.S_len]; omega) (by
  subst hL hj hn
  rw [cut_mid]; exact q)
local macro_rules | `(tactic| walk_at "law") => `(tactic| repeat' (first | with_reducible refine x_tailCE ?_ | with_reducible refine lenT (by assumption) ?_ | walk_at "1" | ((with_reducible refine lend_ok ?_ ?_); (focus rfl)) | ((with_reducible apply wbx); (focus (walk_at "wb"; done)); (focus rfl)) | walk_at "tf" | walk_at "isi" | (with_reducible refine x_targetN (by assumption) (by assumption) ?_)))
theorem isPth_aln {c : Nat} (h : isAln c = true) : isPth c = true := by
  rw [isAln, Bool.or_eq_true] at h
  rw [isPth]
  rcases h with h | h <;> rw [h] <;> simp
theorem x_call {p l : List Nat} {c0 d : Int} {bs : List (B × Int)} {sf : Option (Int × Int × Str)} {pc : Nat} {pr : List Nat} (hp : p = pc :: pr) (hp1 : isLet pc = true) (hp2 : ∀ x ∈ pr, isPth x = true) (hp3 : p.length ≤ 20)
    (hhead : headNot isPth l) (hz : Tz l (5 + p.length) ((c0, Tk.lp) :: (agT0 bs d ++ sufT sf)))
    (hll : l.length ≤ 80000) (h4 : bs.length ≤ 4) (hg : ∀ q ∈ bs, q.1.good) (hok : ∀ t ∈ agT0 bs d, t.2.ok) (hlen : (agT0 bs d).length ≤ 60000) (hsf : sufOk sf) {Q : Rs → List O → Prop}
    (q : Q (.two (.tup [.str "call", .str (S p), .lst (treesD bs), nameD sf]) (allP bs ++ [.tup [.int 6, .int ((5 + p.length : Nat) : Int)]])) [.shr (.str (S (sCall ++ (p ++ l))))]) :
    XF F_read_call [.shr (.str (S (sCall ++ (p ++ l))))] Q := by
  have hL : (sCall ++ (p ++ l)).length ≤ 90000 := by simp [sCall]; omega
  have h5 : sCall.length = 5 := rfl
  have hadv : adv isPth (sCall ++ (p ++ l)) 5 = 5 + p.length := adv_of (a := p) (rest := l) (by rw [← h5, List.drop_left]) (fun x hx => by
    rw [hp] at hx
    rcases List.mem_cons.mp hx with rfl | hx
    · rw [isPth, hp1]; rfl
    · exact hp2 x hx) hhead
  have hdrop : (sCall ++ (p ++ l)).drop (5 + p.length) = l := by
    rw [← List.drop_drop, show List.drop 5 (sCall ++ (p ++ l)) = p ++ l from by rw [← h5, List.drop_left], List.drop_left]
  have hsl : (sufT sf).length ≤ 2 := by cases sf <;> simp [sufT]
  have hokA : ∀ t ∈ agT0 bs d ++ sufT sf, t.2.ok := fun t ht => by
    rcases List.mem_append.mp ht with h | h
    · exact hok t h
    · match sf, hsf, h with
      | some (c1, c2, v), hsf, h =>
        simp [sufT] at h
        rcases h with rfl | rfl
        · exact ⟨by decide +kernel, by decide +kernel⟩
        · exact ⟨hsf.2.1, hsf.2.2⟩
  have hag := agT_agT0 bs d
  refine xf' rfl (by walk_at "at") ?_
  unfold f_read_call
  walk_at "law"
  refine (x_pathend hL (k0 := 5) (by simp [sCall]) (fun k => ?_) : XF F_path_end [.shr (.str (S (sCall ++ (p ++ l)))), .shr (.int 5)] _)
  rw [hadv]
  walk_at "law"
  refine slMid hL rfl rfl rfl ?_
  walk_at "law"
  refine (show XF F_is_path [.shr (.str (S p))] _ from ?_)
  subst hp
  refine x_ispath hp1 hp2 hp3 ?_
  walk_at "law"
  refine x_tokens hL (by simp [sCall]; omega) (by rw [hdrop]; exact hz) fun k => ?_
  walk_at "law"
  refine x_argsAll h4 hg hokA (by rw [List.length_append]; omega) ?_
  have lr : ((((c0, Tk.lp) :: (agT0 bs d ++ sufT sf)).map rowD).length) = 1 + (agT0 bs d).length + (sufT sf).length := by simp; omega
  walk_at "law"
  match sf, hsf with
  | none, _ =>
    have hn : ¬ ((1 + (agT0 bs d).length : Nat) : Int) < (((((c0, Tk.lp) :: (agT0 bs d ++ sufT none)).map rowD).length : Nat) : Int) := by rw [lr]; simp [sufT]
    walk_at "law"
    exact ⟨bs, rfl, hg, by omega, h4, q⟩
  | some (c1, c2, v), hsf =>
    have hn : ((1 + (agT0 bs d).length : Nat) : Int) < (((((c0, Tk.lp) :: (agT0 bs d ++ sufT (some (c1, c2, v)))).map rowD).length : Nat) : Int) := by rw [lr]; simp [sufT]; omega
    have hn2 : (((((c0, Tk.lp) :: (agT0 bs d ++ sufT (some (c1, c2, v)))).map rowD).length : Nat) : Int) = ((1 + (agT0 bs d).length : Nat) : Int) + 2 := by rw [lr]; simp [sufT]
    obtain ⟨hv, hvl, hvp⟩ := hsf
    have hd1 : ((c0, Tk.lp) :: (agT0 bs d ++ sufT (some (c1, c2, v)))).drop (1 + (agT0 bs d).length) = [(c1, Tk.name "as"), (c2, Tk.name v)] := by
      rw [Nat.add_comm, List.drop_succ_cons, List.drop_left]; rfl
    have i1 := row_at hd1
    have i2 := row_at (row := (c0, Tk.lp) :: (agT0 bs d ++ sufT (some (c1, c2, v)))) (k := 1 + (agT0 bs d).length + 1) (t := (c2, Tk.name v)) (r := []) (by rw [← List.drop_drop, hd1]; rfl)
    have i2 : atI (((c0, Tk.lp) :: (agT0 bs d ++ sufT (some (c1, c2, v)))).map rowD) (((1 + (agT0 bs d).length : Nat) : Int) + 1) = some (.tup [.int c2, .str (Str.ofString "name"), .str v]) := i2
    simp only [rowD, Tk.kind, Tk.word] at i1
    walk_at "law"
    exact ⟨bs, rfl, hg, by omega, h4, q⟩
/-! ### a line is read -/
inductive Vw | back | tell | give | put
def Vw.str : Vw → Str
  | .back => "back" | .tell => "tell" | .give => "give" | .put => "put"
def Vw.cs : Vw → List Nat
  | .back => [98, 97, 99, 107] | .tell => [116, 101, 108, 108] | .give => [103, 105, 118, 101] | .put => [112, 117, 116]
inductive Lc
  | rem | back
  | take (c : Int) (v : Str)
  | hear (c c1 c2 : Int) (v t : Str)
  | go1 (c : Int) (n : Nat)
  | go (c c1 : Int) (n : Nat) (b : B)
  | set (c c1 : Int) (v : Str) (b : B)
  | val (w : Vw) (b : B)
  | call (p : List Nat) (c0 d : Int) (bs : List (B × Int)) (sf : Option (Int × Int × Str))
def sFour : List Nat := [99, 97, 108, 108]
def Lc.pre : Lc → List Nat
  | .rem => [114, 101, 109] | .back => [98, 97, 99, 107] | .take .. => [116, 97, 107, 101] | .hear .. => [104, 101, 97, 114]
  | .go1 .. => [103, 111] | .go .. => [103, 111] | .set .. => [115, 101, 116] | .val w _ => w.cs | .call p _ _ _ _ => sCall ++ p
def Lc.toks : Lc → List LT
  | .rem => [] | .back => [] | .take c v => [(c, .name v)] | .hear c c1 c2 v t => [(c, .name v), (c1, .op .eq), (c2, .name t)]
  | .go1 c n => [(c, .num n)] | .go c c1 n b => (c, .num n) :: (c1, .name "if") :: b.tks | .set c c1 v b => (c, .name v) :: (c1, .op .eq) :: b.tks
  | .val _ b => b.tks | .call _ c0 d bs sf => (c0, .lp) :: (agT0 bs d ++ sufT sf)
def Lc.tree : Lc → D
  | .rem => .tup [.str "rem"] | .back => .tup [.str "back", .non] | .take _ v => .tup [.str "take", .str v] | .hear _ _ _ v t => .tup [.str "hear", .str v, .str t]
  | .go1 _ n => .tup [.str "go", .int (n : Nat), .non] | .go _ _ n b => .tup [.str "go", .int (n : Nat), toD b.e] | .set _ _ v b => .tup [.str "set", .str v, toD b.e]
  | .val w b => .tup [.str w.str, toD b.e] | .call p _ _ bs sf => .tup [.str "call", .str (S p), .lst (treesD bs), nameD sf]
def Lc.pls : Lc → List D
  | .rem => [.tup [.int 1, .int 3]] | .back => [.tup [.int 1, .int 4]] | .take c v => [plT c v] | .hear c _ _ v _ => [plT c v]
  | .go1 c n => [plT c (num n)] | .go c _ n b => b.pls ++ [plT c (num n)] | .set c _ v b => b.pls ++ [plT c v]
  | .val w b => b.pls ++ [.tup [.int 1, .int (w.cs.length : Nat)]] | .call p _ _ bs _ => allP bs ++ [.tup [.int 6, .int ((5 + p.length : Nat) : Int)]]
def okV (v : Str) : Prop := okName v ∧ v.length ≤ 100 ∧ v ≠ Str.ofString ")"
def Lc.ok : Lc → Prop
  | .rem => True | .back => True | .take _ v => okV v
  | .hear _ _ _ v t => okV v ∧ ∃ c r, t = S (c :: r) ∧ isLet c = true ∧ (∀ x ∈ r, isAln x = true) ∧ (c :: r).length ≤ 10
  | .go1 _ n => 1 ≤ n ∧ n ≤ 1000000 | .go _ _ n b => 1 ≤ n ∧ n ≤ 1000000 ∧ b.good | .set _ _ v b => okV v ∧ b.good | .val _ b => b.good
  | .call p _ d bs sf => (∃ pc pr, p = pc :: pr ∧ isLet pc = true ∧ (∀ x ∈ pr, isPth x = true) ∧ p.length ≤ 20) ∧ bs.length ≤ 4 ∧ (∀ q ∈ bs, q.1.good) ∧ (∀ t ∈ agT0 bs d, t.2.ok) ∧ (agT0 bs d).length ≤ 60000 ∧ sufOk sf
def Lc.after : Lc → List Nat → Prop
  | .call .., l => headNot isPth l
  | _, l => afterW l
/-- behind the first word: a rem's text is not read -/
def Lc.tz : Lc → List Nat → Prop
  | .rem, _ => True
  | lc, l => Tz l lc.pre.length lc.toks
theorem r_rem : S [114, 101, 109] = Str.ofString "rem" := by decide +kernel
theorem r_back : S [98, 97, 99, 107] = Str.ofString "back" := by decide +kernel
theorem r_take : S [116, 97, 107, 101] = Str.ofString "take" := by decide +kernel
theorem r_hear : S [104, 101, 97, 114] = Str.ofString "hear" := by decide +kernel
theorem r_go : S [103, 111] = Str.ofString "go" := by decide +kernel
theorem r_set : S [115, 101, 116] = Str.ofString "set" := by decide +kernel
theorem r_call : S sFour = Str.ofString "call" := by decide +kernel
theorem r_vw (w : Vw) : S w.cs = w.str := by cases w <;> decide +kernel
local macro_rules | `(tactic| walk_at "law") => `(tactic| repeat' (first | with_reducible refine lenT (by assumption) ?_ | walk_at "1" | ((with_reducible refine lend_ok ?_ ?_); (focus rfl)) | ((with_reducible apply wbx); (focus (walk_at "wb"; done)); (focus rfl)) | walk_at "tf" | walk_at "isi" | (with_reducible refine x_targetN (by assumption) (by assumption) ?_) | (with_reducible refine x_placeof (by assumption) ?_)))
theorem x_form (lc : Lc) {l : List Nat} (hok : lc.ok) (hz : lc.tz l) (ha : lc.after l) (hl : l.length ≤ 80000) {Q : Rs → List O → Prop} (q : Q (.two lc.tree lc.pls) [.shr (.str (S (lc.pre ++ l)))]) :
    XF F_read_form [.shr (.str (S (lc.pre ++ l)))] Q := by
  refine xf' rfl (by walk_at "at") ?_
  unfold f_read_form
  cases lc with
  | rem =>
    simp only [Lc.pre, Lc.tree, Lc.pls] at q ⊢
    walk_at "law"
    refine x_first (by simp; omega) (by decide) ha ?_
    rw [r_rem]
    walk_at "law"
    exact q
  | back =>
    simp only [Lc.pre, Lc.tz, Lc.toks, Lc.tree, Lc.pls] at hz q ⊢
    walk_at "law"
    refine x_first (by simp; omega) (by decide) ha ?_
    rw [r_back]
    walk_at "law"
    refine x_tokensof (by simp; omega) (by decide) ha hz ?_
    walk_at "law"
    refine x_back ?_
    walk_at "law"
    exact q
  | take c v =>
    obtain ⟨hv, hvl, hvp⟩ := hok
    simp only [Lc.pre, Lc.tz, Lc.toks, Lc.tree, Lc.pls] at hz q ⊢
    walk_at "law"
    refine x_first (by simp; omega) (by decide) ha ?_
    rw [r_take]
    walk_at "law"
    refine x_tokensof (by simp; omega) (by decide) ha hz ?_
    walk_at "law"
    simp only [List.map_cons, List.map_nil, rowD, Tk.kind, Tk.word]
    walk_at "law"
    refine tf_T rfl ?_
    walk_at "law"
    exact q
  | hear c c1 c2 v t =>
    obtain ⟨⟨hv, hvl, hvp⟩, cc, r, ht, h1, h2, h3⟩ := hok
    simp only [Lc.pre, Lc.tz, Lc.toks, Lc.tree, Lc.pls] at hz q ⊢
    walk_at "law"
    refine x_first (by simp; omega) (by decide) ha ?_
    rw [r_hear]
    walk_at "law"
    refine x_tokensof (by simp; omega) (by decide) ha hz ?_
    walk_at "law"
    refine x_hear hv hvl ht h1 h2 h3 ?_
    walk_at "law"
    exact q
  | go1 c n =>
    obtain ⟨h1, h2⟩ := hok
    simp only [Lc.pre, Lc.tz, Lc.toks, Lc.tree, Lc.pls] at hz q ⊢
    walk_at "law"
    refine x_first (by simp; omega) (by decide) ha ?_
    rw [r_go]
    walk_at "law"
    refine x_tokensof (by simp; omega) (by decide) ha hz ?_
    walk_at "law"
    refine x_go1 h1 h2 ?_
    walk_at "law"
    exact q
  | go c c1 n b =>
    obtain ⟨h1, h2, hb⟩ := hok
    simp only [Lc.pre, Lc.tz, Lc.toks, Lc.tree, Lc.pls] at hz q ⊢
    walk_at "law"
    refine x_first (by simp; omega) (by decide) ha ?_
    rw [r_go]
    walk_at "law"
    refine x_tokensof (by simp; omega) (by decide) ha hz ?_
    walk_at "law"
    refine x_go hb h1 h2 ?_
    walk_at "law"
    exact q
  | set c c1 v b =>
    obtain ⟨⟨hv, hvl, hvp⟩, hb⟩ := hok
    simp only [Lc.pre, Lc.tz, Lc.toks, Lc.tree, Lc.pls] at hz q ⊢
    walk_at "law"
    refine x_first (by simp; omega) (by decide) ha ?_
    rw [r_set]
    walk_at "law"
    refine x_tokensof (by simp; omega) (by decide) ha hz ?_
    walk_at "law"
    refine x_set hb hv hvl hvp ?_
    walk_at "law"
    exact q
  | val w b =>
    have hb : b.good := hok
    simp only [Lc.pre, Lc.tz, Lc.toks, Lc.tree, Lc.pls] at hz q ⊢
    have hw4 : w.cs.length ≤ 4 := by cases w <;> decide
    have hw32 : 32 ∉ w.cs := by cases w <;> decide
    have hwl : (w.str).length = w.cs.length := by rw [← r_vw, SX.S_len]
    walk_at "law"
    refine x_first (by simp; omega) hw32 ha ?_
    rw [r_vw]
    walk_at "law"
    cases w with
    | _ =>
      simp only [Vw.str]
      walk_at "law"
      refine x_tokensof (by simp [Vw.cs]; omega) (by decide) ha hz ?_
      walk_at "law"
      refine x_value hb (by decide +kernel) ?_
      walk_at "law"
      exact q
  | call p c0 d bs sf =>
    obtain ⟨⟨pc, pr, hp, hp1, hp2, hp3⟩, h4, hg, hokt, hlen, hsf⟩ := hok
    simp only [Lc.pre, Lc.tz, Lc.toks, Lc.tree, Lc.pls] at hz q ⊢
    have e : sCall ++ p ++ l = sFour ++ 32 :: (p ++ l) := by rw [List.append_assoc]; rfl
    have hbig : (sFour ++ 32 :: (p ++ l)).length ≤ 90000 := by simp [sFour]; omega
    have hpl : 1 ≤ p.length := by rw [hp]; simp
    have hgt : (5 : Int) < (((sFour ++ 32 :: (p ++ l)).length : Nat) : Int) := by
      have : (sFour ++ 32 :: (p ++ l)).length = 4 + (p.length + l.length + 1) := by simp [sFour]; omega
      omega
    rw [e] at q ⊢
    walk_at "law"
    refine x_first1 hbig (by decide) ?_
    rw [r_call]
    walk_at "law"
    rw [← e]
    rw [← e] at q
    refine (x_call hp hp1 hp2 hp3 ha (by
      have : (sCall ++ p).length = 5 + p.length := by simp [sCall]; omega
      rw [this] at hz; exact hz) hl h4 hg hokt hlen hsf ?_ : XF F_read_call [.shr (.str (S (sCall ++ (p ++ l))))] _)
    rw [← List.append_assoc]
    walk_at "law"
    exact q
/-! ### read_whole -/
local macro_rules | `(tactic| walk_at "law") => `(tactic| repeat' (first | walk_at "1" | ((with_reducible refine lend_ok ?_ ?_); (focus rfl)) | ((with_reducible apply wbx); (focus (walk_at "wb"; done)); (focus rfl)) | walk_at "tf" | walk_at "isi"))
theorem pre_head (lc : Lc) : ∃ c r, lc.pre = c :: r ∧ ¬ c = 33 := by
  cases lc with
  | val w b => cases w <;> exact ⟨_, _, rfl, by decide⟩
  | _ => exact ⟨_, _, rfl, by decide⟩
theorem o_ex : Str.ofString "!" = ⟨#[33]⟩ := by decide +kernel
theorem x_whole1 (lc : Lc) {l : List Nat} (hok : lc.ok) (hz : lc.tz l) (ha : lc.after l) (hl : l.length ≤ 80000) {Q : Rs → List O → Prop} (q : Q (.two lc.tree lc.pls) [.shr (.str (S (lc.pre ++ l)))]) :
    XF F_read_whole [.shr (.str (S (lc.pre ++ l)))] Q := by
  refine xf' rfl (by walk_at "at") ?_
  unfold f_read_whole
  rw [o_ex]
  obtain ⟨c, r, e, hc⟩ := pre_head lc
  have hsw : Txt.startswith (S (lc.pre ++ l)) ⟨#[33]⟩ = false := by
    rw [sw1 (c := c) (r := r ++ l) (by rw [e]; rfl), decide_eq_false hc]
  walk_at "law"
  rw [hsw]
  walk_at "law"
  refine x_form lc hok hz ha hl ?_
  walk_at "law"
  exact q
theorem x_code (lc : Lc) {l : List Nat} (hok : lc.ok) (hz : lc.tz l) (ha : lc.after l) (hl : l.length ≤ 80000) {Q : Rs → List O → Prop} (q : Q (.o (.shr lc.tree)) [.shr (.str (S (lc.pre ++ l)))]) :
    XF F_read_code [.shr (.str (S (lc.pre ++ l)))] Q := by
  refine xf' rfl (by walk_at "at") ?_
  unfold f_read_code
  walk_at "law"
  refine x_whole1 lc hok hz ha hl ?_
  walk_at "law"
  exact q
theorem x_columns (lc : Lc) {l : List Nat} (hok : lc.ok) (hz : lc.tz l) (ha : lc.after l) (hl : l.length ≤ 80000) {Q : Rs → List O → Prop} (q : Q (.o (.ol lc.pls)) [.shr (.str (S (lc.pre ++ l)))]) :
    XF F_columns_of [.shr (.str (S (lc.pre ++ l)))] Q := by
  refine xf' rfl (by walk_at "at") ?_
  unfold f_columns_of
  walk_at "law"
  refine x_whole1 lc hok hz ha hl ?_
  walk_at "law"
  exact q
/-! the broken and the wrong one -/
theorem x_brk {l : List Nat} {Q : Rs → List O → Prop} (q : Q (.o (.ol [])) [.shr (.str (S (33 :: l)))]) : XF F_columns_of [.shr (.str (S (33 :: l)))] Q := by
  refine xf' rfl (by walk_at "at") ?_
  unfold f_columns_of
  walk_at "law"
  refine xf' rfl (by walk_at "at") ?_
  unfold f_read_whole
  rw [o_ex]
  have hsw : Txt.startswith (S (33 :: l)) ⟨#[33]⟩ = true := by rw [sw1 (c := 33) (r := l) rfl]; rfl
  walk_at "law"
  rw [hsw]
  walk_at "law"
  exact q
def sTell : List Nat := [116, 101, 108, 108]
theorem r_tell : S sTell = Str.ofString "tell" := by decide +kernel
theorem rp_odd {c c1 : Int} {s : Str} (h : okName s) : rp [(c, Tk.name s), (c1, Tk.op .eq)] [] [] true 0 = none := by
  have e : leafI c (.name s) = some ⟨"name", .str s, c, c + s.length - 1⟩ := if_pos h
  rw [rp, show pre (.name s) = none from rfl]
  dsimp only
  rw [e]
  rfl
theorem x_wholeO {s : Str} {l : List Nat} {c c1 : Int} (hs : okV s) (hz : Tz l 4 [(c, Tk.name s), (c1, Tk.op .eq)]) (ha : afterW l) (hl : l.length ≤ 80000) {Q : Rs → List O → Prop}
    (q : Q (.two (.tup [.str "wrong"]) [.tup [.int 1, .int ((sTell ++ l).length : Nat)]]) [.shr (.str (S (sTell ++ l)))]) : XF F_read_whole [.shr (.str (S (sTell ++ l)))] Q := by
  have hL : (sTell ++ l).length ≤ 90000 := by simp [sTell]; omega
  refine xf' rfl (by walk_at "at") ?_
  unfold f_read_whole
  rw [o_ex]
  have hsw : Txt.startswith (S (sTell ++ l)) ⟨#[33]⟩ = false := by
    rw [sw1 (c := 116) (r := [101, 108, 108] ++ l) rfl]; rfl
  walk_at "law"
  rw [hsw]
  walk_at "law"
  refine xf' rfl (by walk_at "at") ?_
  unfold f_read_form
  walk_at "law"
  refine x_first hL (by decide) ha ?_
  rw [r_tell]
  walk_at "law"
  refine x_tokensof hL (by decide) ha hz ?_
  walk_at "law"
  refine xf' rfl (by walk_at "at") ?_
  unfold f_read_value
  have h4 : (Str.ofString "tell").length ≤ 100 := by decide +kernel
  walk_at "law"
  refine lenS (by omega) ?_
  walk_at "law"
  refine (x_whole (row := [(c, Tk.name s), (c1, Tk.op .eq)]) (at0 := 0) (fun t ht => ?_) (by simp) (by simp) ?_ : XF F_whole_items [.ol ([(c, Tk.name s), (c1, Tk.op .eq)].map rowD), .shr (.int 0)] _)
  · simp at ht
    rcases ht with rfl | rfl
    · exact ⟨hs.2.1, hs.2.2⟩
    · trivial
  rw [List.drop_zero, rp_odd hs.1]
  simp only [wiD]
  walk_at "law"
  refine lenT hL ?_
  walk_at "law"
  exact q
theorem x_codeO {s : Str} {l : List Nat} {c c1 : Int} (hs : okV s) (hz : Tz l 4 [(c, Tk.name s), (c1, Tk.op .eq)]) (ha : afterW l) (hl : l.length ≤ 80000) {Q : Rs → List O → Prop}
    (q : Q (.o (.shr (.tup [.str "wrong"]))) [.shr (.str (S (sTell ++ l)))]) : XF F_read_code [.shr (.str (S (sTell ++ l)))] Q := by
  refine xf' rfl (by walk_at "at") ?_
  unfold f_read_code
  walk_at "law"
  refine x_wholeO hs hz ha hl ?_
  walk_at "law"
  exact q
theorem x_columnsO {s : Str} {l : List Nat} {c c1 : Int} (hs : okV s) (hz : Tz l 4 [(c, Tk.name s), (c1, Tk.op .eq)]) (ha : afterW l) (hl : l.length ≤ 80000) {Q : Rs → List O → Prop}
    (q : Q (.o (.ol [.tup [.int 1, .int ((sTell ++ l).length : Nat)]])) [.shr (.str (S (sTell ++ l)))]) : XF F_columns_of [.shr (.str (S (sTell ++ l)))] Q := by
  refine xf' rfl (by walk_at "at") ?_
  unfold f_columns_of
  walk_at "law"
  refine x_wholeO hs hz ha hl ?_
  walk_at "law"
  exact q
/-! ### forms: what a line says, with no blanks, brackets or columns -/
def E.dep : E → Nat
  | .num _ => 0 | .nam _ => 0 | .neg e => e.dep + 1 | .bin _ l r => max l.dep r.dep + 1
def ops : E → List (Str × D)
  | .num n => [("push", .int (n : Int))] | .nam s => [("get", .str s)] | .neg e => ops e ++ [((Str.ofString "neg"), D.non)] | .bin o l r => ops l ++ ops r ++ [(o.nam, D.non)]
def opD (p : Str × D) : D := .tup [.str p.1, p.2]
theorem ops_len : ∀ e : E, (ops e).length = e.n
  | .num _ => rfl
  | .nam _ => rfl
  | .neg e => by rw [ops, List.length_append, ops_len e]; rfl
  | .bin o l r => by rw [ops, List.length_append, List.length_append, ops_len l, ops_len r]; rfl
inductive Fm
  | rem | back
  | take (v : Str)
  | hear (v t : Str)
  | go1 (n : Nat)
  | go (n : Nat) (e : E)
  | set (v : Str) (e : E)
  | val (w : Vw) (e : E)
  | call (p : List Nat) (es : List E) (sf : Option Str)
def nmD : Option Str → D
  | none => .non
  | some v => .str v
def Fm.tree : Fm → D
  | .rem => .tup [.str "rem"] | .back => .tup [.str "back", .non] | .take v => .tup [.str "take", .str v] | .hear v t => .tup [.str "hear", .str v, .str t]
  | .go1 n => .tup [.str "go", .int (n : Nat), .non] | .go n e => .tup [.str "go", .int (n : Nat), toD e] | .set v e => .tup [.str "set", .str v, toD e]
  | .val w e => .tup [.str w.str, toD e] | .call p es sf => .tup [.str "call", .str (S p), .lst (es.map toD), nmD sf]
def Lc.fm : Lc → Fm
  | .rem => .rem | .back => .back | .take _ v => .take v | .hear _ _ _ v t => .hear v t | .go1 _ n => .go1 n | .go _ _ n b => .go n b.e | .set _ _ v b => .set v b.e
  | .val w b => .val w b.e | .call p _ _ bs sf => .call p (bs.map fun q => q.1.e) (sf.map fun q => q.2.2)
theorem fm_tree (lc : Lc) : lc.tree = lc.fm.tree := by
  cases lc with
  | call p c0 d bs sf =>
    show D.tup [_, _, .lst (treesD bs), nameD sf] = D.tup [_, _, .lst _, nmD _]
    have h1 : treesD bs = (bs.map fun q => q.1.e).map toD := by rw [List.map_map]; rfl
    have h2 : nameD sf = nmD (sf.map fun q => q.2.2) := by cases sf <;> rfl
    rw [h1, h2]
  | _ => rfl
def Fm.exps : Fm → List E
  | .go _ e => [e] | .set _ e => [e] | .val _ e => [e] | .call _ es _ => es | _ => []
def Fm.deed : Fm → Str × D
  | .rem => ("rem", .non) | .back => ("back", .int 0) | .take v => ("take", .str v) | .hear v t => ("hear", .tup [.str v, .str t])
  | .go1 n => ("go", .int (n : Nat)) | .go n _ => ("if", .int (n : Nat)) | .set v _ => ("set", .str v)
  | .val .back _ => ("back", .int 1) | .val w _ => (w.str, .non) | .call p es sf => ("call", .tup [.str (S p), .int (es.length : Nat), nmD sf])
def Fm.words (f : Fm) : List (Str × D) := f.exps.flatMap ops ++ [f.deed]
def Fm.exO : Fm → O
  | .call _ es _ => .shr (.lst (es.map toD))
  | f => .ol (f.exps.map toD)
theorem so_nam (o : Op) : T_SIGN_OPS.lookup o.str = some o.nam := by cases o <;> decide +kernel
theorem xo_ixG' {kvs : List (Str × Str)} {s t : Str} {Q : O → Prop} (h : kvs.lookup s = some t) (q : Q (.shr (.str t))) : XO (oIxG kvs (.shr (.str s))) Q := ⟨_, by simp only [oIxG, asS, Option.bind_some, h, Option.map_some], q⟩
local macro_rules | `(tactic| walk_at "law") => `(tactic| repeat' (first | walk_at "1" | ((with_reducible refine lend_ok ?_ ?_); (focus rfl)) | ((with_reducible apply wbx); (focus (walk_at "wb"; done)); (focus rfl)) | walk_at "tf" | walk_at "isi" | (with_reducible apply tf_F; (focus (exact decide_eq_false (op_no _).1))) | (with_reducible apply tf_F; (focus (exact decide_eq_false (op_no _).2.1))) | (with_reducible apply tf_F; (focus (exact decide_eq_false (op_no _).2.2))) | with_reducible refine xo_ixG' (so_nam _) ?_))
theorem x_pute : ∀ (d : Nat) (e : E), e.dep < d → ∀ {F : List D}, F.length + e.n ≤ 80000 → ∀ {Q : Rs → List O → Prop}, Q (.o (.shr .non)) [.shr (toD e), .ol (F ++ (ops e).map opD)] → XF (F_put_expression d) [.shr (toD e), .ol F] Q
  | 0, e, h, _, _, _, _ => by omega
  | d + 1, e, h, F, hl, Q, q => by
    refine xf' rfl (by walk_at "at") ?_
    unfold f_put_expression
    cases e with
    | num n =>
      simp only [toD, E.n] at q hl ⊢
      walk_at "law"
      exact q
    | nam s =>
      simp only [toD, E.n] at q hl ⊢
      walk_at "law"
      exact q
    | neg e =>
      simp only [toD, E.n, E.dep] at q hl h ⊢
      have hol := ops_len e
      walk_at "law"
      refine x_pute d e (by omega) (by omega) ?_
      have hap : (F ++ (ops e).map opD).length ≤ 100000 := by rw [List.length_append, List.length_map]; omega
      walk_at "law"
      rw [ops, List.map_append, ← List.append_assoc] at q
      exact q
    | bin o l r =>
      simp only [toD, E.n, E.dep] at q hl h ⊢
      have hol := ops_len l
      have hor := ops_len r
      walk_at "law"
      refine x_pute d l (by omega) (by omega) ?_
      walk_at "law"
      refine x_pute d r (by omega) (by rw [List.length_append, List.length_map]; omega) ?_
      have hap : (F ++ (ops l).map opD ++ (ops r).map opD).length ≤ 100000 := by rw [List.length_append, List.length_append, List.length_map, List.length_map]; omega
      walk_at "law"
      rw [ops, List.map_append, List.map_append, ← List.append_assoc, ← List.append_assoc] at q
      exact q
theorem toD_isN (e : E) : ∃ ds, toD e = .tup ds := by cases e <;> exact ⟨_, rfl⟩
local macro_rules | `(tactic| walk_at "law") => `(tactic| repeat' (first | walk_at "1" | ((with_reducible refine lend_ok ?_ ?_); (focus rfl)) | ((with_reducible apply wbx); (focus (walk_at "wb"; done)); (focus rfl)) | walk_at "tf" | walk_at "isi"))
theorem x_exps (f : Fm) {Q : Rs → List O → Prop} (q : Q (.o f.exO) [.shr f.tree]) : XF F_expressions_in [.shr f.tree] Q := by
  refine xf' rfl (by walk_at "at") ?_
  unfold f_expressions_in
  cases f with
  | go n e =>
    obtain ⟨ds, hd⟩ := toD_isN e
    simp only [Fm.tree, Fm.exO, Fm.exps, List.map_cons, List.map_nil] at q ⊢
    rw [hd] at q ⊢
    walk_at "law"
    exact q
  | set n e =>
    obtain ⟨ds, hd⟩ := toD_isN e
    simp only [Fm.tree, Fm.exO, Fm.exps, List.map_cons, List.map_nil] at q ⊢
    rw [hd] at q ⊢
    walk_at "law"
    exact q
  | val w e =>
    obtain ⟨ds, hd⟩ := toD_isN e
    cases w with
    | _ =>
      simp only [Fm.tree, Fm.exO, Fm.exps, List.map_cons, List.map_nil, Vw.str] at q ⊢
      rw [hd] at q ⊢
      walk_at "law"
      exact q
  | _ =>
    simp only [Fm.tree, Fm.exO, Fm.exps, List.map_cons, List.map_nil] at q ⊢
    walk_at "law"
    exact q
theorem ixT3 {a b c d : D} {r : List D} {Q : O → Prop} (q : Q (.shr d)) : XO (oIx (.shr (.tup (a :: b :: c :: d :: r))) (.shr (.int 3))) Q := ixT (at_of (k := 3) rfl) q
local macro_rules | `(tactic| walk_at "law") => `(tactic| repeat' (first | walk_at "1" | ((with_reducible refine lend_ok ?_ ?_); (focus rfl)) | ((with_reducible apply wbx); (focus (walk_at "wb"; done)); (focus rfl)) | walk_at "tf" | walk_at "isi" | with_reducible refine ixT3 ?_))
theorem x_deed (f : Fm) (hc : f.exps.length ≤ 1000) {Q : Rs → List O → Prop} (q : Q (.o (.shr (opD f.deed))) [.shr f.tree]) : XF F_deed_of [.shr f.tree] Q := by
  refine xf' rfl (by walk_at "at") ?_
  unfold f_deed_of
  unfold opD at q
  cases f with
  | go n e =>
    obtain ⟨ds, hd⟩ := toD_isN e
    simp only [Fm.tree, Fm.deed] at q ⊢
    rw [hd] at q ⊢
    walk_at "law"
    exact q
  | set n e =>
    simp only [Fm.tree, Fm.deed] at q ⊢
    walk_at "law"
    exact q
  | val w e =>
    obtain ⟨ds, hd⟩ := toD_isN e
    cases w with
    | _ =>
      simp only [Fm.tree, Fm.deed, Vw.str] at q ⊢
      rw [hd] at q ⊢
      walk_at "law"
      exact q
  | call p es sf =>
    simp only [Fm.tree, Fm.deed, Fm.exps] at q hc ⊢
    walk_at "law"
    rw [List.length_map]
    exact q
  | _ =>
    simp only [Fm.tree, Fm.deed] at q ⊢
    walk_at "law"
    exact q
def opsL (es : List E) : List (Str × D) := es.flatMap ops
def nL : List E → Nat
  | [] => 0
  | e :: r => e.n + nL r
theorem opsL_len : ∀ es : List E, (opsL es).length = nL es
  | [] => rfl
  | e :: r => by
    show (ops e ++ opsL r).length = e.n + nL r
    rw [List.length_append, ops_len, opsL_len r]
theorem nL_app : ∀ a b : List E, nL (a ++ b) = nL a + nL b
  | [], b => by rw [List.nil_append, nL, Nat.zero_add]
  | e :: r, b => by rw [List.cons_append, nL, nL, nL_app r b, Nat.add_assoc]
theorem words_eq (f : Fm) : f.words = opsL f.exps ++ [f.deed] := rfl
theorem words_len (f : Fm) : f.words.length = nL f.exps + 1 := by rw [words_eq, List.length_append, opsL_len]; rfl
def B.plp (b : B) : List (Int × Int) := b.its.map Item.p
def Lc.plp : Lc → List (Int × Int)
  | .rem => [(1, 3)] | .back => [(1, 4)] | .take c v => [(c, c + v.length - 1)] | .hear c _ _ v _ => [(c, c + v.length - 1)]
  | .go1 c n => [(c, c + (num n).length - 1)] | .go c _ n b => b.plp ++ [(c, c + (num n).length - 1)] | .set c _ v b => b.plp ++ [(c, c + v.length - 1)]
  | .val w b => b.plp ++ [((1 : Int), ((w.cs.length : Nat) : Int))] | .call p _ _ bs _ => (bs.flatMap fun q => q.1.plp) ++ [(6, ((5 + p.length : Nat) : Int))]
theorem pls_plp (lc : Lc) : lc.pls = lc.plp.map pD := by
  cases lc with
  | go c c1 n b => simp only [Lc.pls, Lc.plp, List.map_append]; rfl
  | set c c1 v b => simp only [Lc.pls, Lc.plp, List.map_append]; rfl
  | val w b => simp only [Lc.pls, Lc.plp, List.map_append]; rfl
  | call p c0 d bs sf =>
    simp only [Lc.pls, Lc.plp, List.map_append, allP]
    congr 1
    induction bs with
    | nil => rfl
    | cons a r ih => rw [List.flatMap_cons, List.flatMap_cons, List.map_append, ih]; rfl
  | _ => rfl
def wpD (w : Str × D) (p : Int × Int) : D := .tup [.str w.1, w.2, .int p.1, .int p.2]
def wps (W : List (Str × D)) (P : List (Int × Int)) : List D := (W.zip P).map fun q => wpD q.1 q.2
theorem zw (W : List (Str × D)) : ∀ P : List (Int × Int), List.zipWith (fun x y => D.tup [x, y]) (W.map opD) (P.map pD) = (W.zip P).map fun q => .tup [opD q.1, pD q.2] := by
  induction W with
  | nil => intro P; rfl
  | cons a r ih =>
    intro P
    cases P with
    | nil => rfl
    | cons b s => show _ :: _ = _ :: _; rw [ih]; rfl
theorem xj_ex (f : Fm) {Q : List D → Prop} (q : Q (f.exps.map toD)) : XJ f.exO Q := by
  cases f <;> first | exact xj_l q | exact xj_ls q
theorem tree_brk (lc : Lc) : ∃ s ds, lc.tree = .tup (.str s :: ds) ∧ decide (s = Str.ofString "broken") = false := by
  cases lc with
  | val w b => cases w <;> exact ⟨_, _, rfl, by decide +kernel⟩
  | _ => exact ⟨_, _, rfl, by decide +kernel⟩
abbrev compV := (vLc (iZipD (vConsD (vTake (vVar 2)) (vConsD (vTake (vVar 4)) vNilD))) (gT 2 (gConsF (gT 2 (gConsF (gN 5) (gConsF (gN 6) gNilF))) (gConsF (gN 7) gNilF))) bYes (vTake (vTup (vConsD (vTake (vVar 5)) (vConsD (vTake (vVar 6)) (vConsD (vTake (vBin oIx (vVar 7) (vC (.int 0)))) (vConsD (vTake (vBin oIx (vVar 7) (vC (.int 1)))) vNilD)))))) [5, 6, 7])
local macro_rules | `(tactic| walk_at "law") => `(tactic| repeat' (first | walk_at "1" | ((with_reducible refine lend_ok ?_ ?_); (focus rfl)) | ((with_reducible apply wbx); (focus (walk_at "wb"; done)); (focus rfl)) | walk_at "tf" | walk_at "isi"))
theorem x_compL {d0 d1 : D} {x3 : Option Slot} {W : List (Str × D)} {P : List (Int × Int)} (h3 : Fre' x3) (hl : W.length ≤ 80000) {Q : Rs → List O → Prop} (q : Q (.o (.ol (wps W P))) [.shr d0]) :
    XE compV [some ⟨.shr d0, false, false⟩, some ⟨.shr d1, false, false⟩, some ⟨.ol (W.map opD), false, false⟩, x3, some ⟨.ol (P.map pD), false, false⟩, none, none, none] (fun a e => XRt a e (defQ 1 Q)) := by
  refine xe_lc ?_
  walk_at "law"
  rw [zw]
  refine xc_G (fun k acc e => acc = (wps W P).take k ∧ e = [some ⟨.shr d0, false, false⟩, some ⟨.shr d1, false, false⟩, some ⟨.shr (.lst (W.map opD)), false, false⟩, x3, some ⟨.shr (.lst (P.map pD)), false, false⟩, none, none, none]) ⟨rfl, rfl⟩ ?_ ?_
  · rintro acc e ⟨rfl, rfl⟩
    rw [List.length_map, List.take_of_length_le (by rw [wps, List.length_map]; omega)]
    walk_at "law"
    exact ⟨_, Fin'.s .z, q⟩
  · rintro k acc e hk ⟨rfl, rfl⟩
    have hk2 : k < (wps W P).length := by simpa [wps] using hk
    have hk3 : k < (W.zip P).length := by simpa [wps] using hk
    have hk4 : k < W.length := by simp at hk3; omega
    rw [List.getElem_map]
    have hw : (wps W P)[k] = wpD (W.zip P)[k].1 (W.zip P)[k].2 := by simp only [wps, List.getElem_map]
    generalize (W.zip P)[k] = z at hw
    obtain ⟨⟨s, a⟩, p1, p2⟩ := z
    simp only [opD, pD, wpD] at hw ⊢
    walk_at "law"
    refine ⟨by rw [List.length_take]; omega, ?_, rfl⟩
    rw [List.take_succ_eq_append_getElem hk2, hw]
theorem x_compile (lc : Lc) {l : List Nat} (hok : lc.ok) (hz : lc.tz l) (ha : lc.after l) (hl : l.length ≤ 80000) (hn : nL lc.fm.exps ≤ 70000) (hd : ∀ e ∈ lc.fm.exps, e.dep < 40) (hc : lc.fm.exps.length ≤ 1000) {Q : Rs → List O → Prop}
    (q : Q (.o (.ol (wps lc.fm.words lc.plp))) [.shr (.str (S (lc.pre ++ l)))]) : XF F_compile_code [.shr (.str (S (lc.pre ++ l)))] Q := by
  refine xf' rfl (by walk_at "at") ?_
  unfold f_compile_code
  walk_at "law"
  refine x_code lc hok hz ha hl ?_
  walk_at "law"
  obtain ⟨s, ds, ht, hb⟩ := tree_brk lc
  rw [ht]
  walk_at "law"
  refine tf_F hb ?_
  walk_at "law"
  rw [← ht, fm_tree]
  refine x_exps lc.fm ?_
  walk_at "law"
  refine xj_ex lc.fm ?_
  walk_at "law"
  refine xl_inv' (fun r e => ∃ (dn es : List E) (x3 : Option Slot), r = es.map toD ∧ dn ++ es = lc.fm.exps ∧ Fre' x3 ∧
    e = [some ⟨.shr (.str (S (lc.pre ++ l))), false, false⟩, some ⟨.shr lc.fm.tree, false, false⟩, some ⟨.ol ((opsL dn).map opD), false, false⟩, x3, none, none, none, none]) ⟨[], lc.fm.exps, none, rfl, rfl, .n, rfl⟩ ?_ ?_
  · rintro e ⟨dn, es, x3, h1, h2, f3, rfl⟩
    have : es = [] := by cases es with
      | nil => rfl
      | cons a b => cases h1
    subst this
    rw [List.append_nil] at h2
    subst h2
    have hll : ((opsL lc.fm.exps).map opD).length ≤ 80000 := by rw [List.length_map, opsL_len]; omega
    walk_at "law"
    refine x_deed lc.fm hc ?_
    walk_at "law"
    refine x_columns lc hok hz ha hl ?_
    walk_at "law"
    rw [pls_plp, show List.map opD (opsL lc.fm.exps) ++ [opD lc.fm.deed] = lc.fm.words.map opD from by rw [words_eq, List.map_append]; rfl]
    exact x_compL f3 (by rw [words_len]; omega) q
  · rintro y r e ⟨dn, es, x3, h1, h2, f3, rfl⟩
    cases es with
    | nil => cases h1
    | cons a es =>
      obtain ⟨rfl, rfl⟩ := List.cons.inj h1
      have hsz : nL dn + (a.n + nL es) = nL lc.fm.exps := by rw [← h2, nL_app]; rfl
      have hdp := hd a (by rw [← h2]; simp)
      walk_at "law"
      refine x_pute 40 a hdp (by rw [List.length_map, opsL_len]; omega) ?_
      walk_at "law"
      refine ⟨dn ++ [a], es, some ⟨.shr (toD a), false, false⟩, rfl, by rw [List.append_assoc]; exact h2, .s, ?_⟩
      rw [show opsL (dn ++ [a]) = opsL dn ++ ops a from by simp [opsL], List.map_append]
theorem x_compileO {s : Str} {l : List Nat} {c c1 : Int} (hs : okV s) (hz : Tz l 4 [(c, Tk.name s), (c1, Tk.op .eq)]) (ha : afterW l) (hl : l.length ≤ 80000) {Q : Rs → List O → Prop}
    (q : Q (.o (.ol [.tup [.str "wrong", .non, .int 1, .int ((sTell ++ l).length : Nat)]])) [.shr (.str (S (sTell ++ l)))]) : XF F_compile_code [.shr (.str (S (sTell ++ l)))] Q := by
  refine xf' rfl (by walk_at "at") ?_
  unfold f_compile_code
  walk_at "law"
  refine x_codeO hs hz ha hl ?_
  walk_at "law"
  refine xf' rfl (by walk_at "at") ?_
  unfold f_expressions_in
  walk_at "law"
  refine xf' rfl (by walk_at "at") ?_
  unfold f_deed_of
  walk_at "law"
  refine x_columnsO hs hz ha hl ?_
  walk_at "law"
  exact x_compL (W := [((Str.ofString "wrong"), D.non)]) (P := [((1 : Int), (((sTell ++ l).length : Nat) : Int))]) .n (by decide) q
/-! ### draws -/
def Src3 (ds : List D) : Prop := ∃ a b c : Int, ds = [.int a, .int b, .int c]
theorem divOk {a m : Int} (h0 : 0 < m) (h1 : m < 2 ^ 60) : CDivG a m := ⟨by omega, by
  have : m.natAbs < 2 ^ 60 := by omega
  have h := (Nat.log2_lt (n := m.natAbs) (k := 60) (by omega)).mpr this
  omega⟩
theorem fmod_rng {a m : Int} (h0 : 0 < m) : 0 ≤ a.fmod m ∧ a.fmod m < m := ⟨Int.fmod_nonneg_of_pos a h0, Int.fmod_lt_of_pos a h0⟩
theorem x_pick {ds : List D} {m : Int} (hs : Src3 ds) (h0 : 0 < m) (h1 : m < 2 ^ 60) {Q : Rs → List O → Prop} (q : ∀ r ds', Src3 ds' → 0 ≤ r → r < m → Q (.o (.shr (.int r))) [.ol ds', .shr (.int m)]) : XF F_pick [.ol ds, .shr (.int m)] Q := by
  obtain ⟨a, b, c, rfl⟩ := hs
  refine xf' rfl (by walk_at "at") ?_
  unfold f_pick
  walk_at "run"
  refine tf_d (fun h => ?_) fun h => ?_
  · walk_at "run"
    exact q _ _ ⟨_, _, _, rfl⟩ (by assumption) (by assumption)
  · walk_at "run"
    exact q _ _ ⟨_, _, _, rfl⟩ (by assumption) (by assumption)

theorem asInts_app {ds : List D} {ns : List Int} {i : Int} (h : asInts ds = some ns) : asInts (ds ++ [.int i]) = some (ns ++ [i]) := by
  induction ds generalizing ns with
  | nil => cases h; rfl
  | cons d r ih =>
    cases d with
    | int j =>
      rw [asInts, Option.map_eq_some_iff] at h
      obtain ⟨ms, h1, rfl⟩ := h
      rw [List.cons_append, asInts, ih h1]; rfl
    | _ => simp [asInts] at h
def JSc (ns : List Int) (at' : Nat) (k : Nat) (acc : List D) (e : Sto) : Prop := (∃ ms, asInts acc = some ms) ∧ acc.length = k ∧ e = [some ⟨.shr (.scr ns), false, false⟩, some ⟨.shr (.int at'), false, false⟩, none, none, none, none]
theorem x_source (ns : List Int) (at' : Nat) (h63 : ns.length ≤ 63) (hat : at' ≤ 1000) {Q : Rs → List O → Prop} (q : ∀ ds', Src3 ds' → Q (.o (.ol ds')) [.shr (.scr ns), .shr (.int at')]) : XF F_source [.shr (.scr ns), .shr (.int at')] Q := by
  refine xf' rfl (by walk_at "at") ?_
  unfold f_source
  by_cases hl : at' < ns.length
  · have hx := at_nat hl
    walk_at "all" <;> exact q _ ⟨_, _, _, rfl⟩
  · walk_at "run"
    have hc : ∀ d ∈ cutD (ns.map D.int) none (some 6), ∃ i, d = .int i := fun d hd => by
      have := List.mem_of_mem_drop (List.mem_of_mem_take hd)
      obtain ⟨i, _, rfl⟩ := List.mem_map.mp this
      exact ⟨i, rfl⟩
    have hcl : (cutD (ns.map D.int) none (some 6)).length ≤ 63 := by
      unfold cutD
      rw [List.length_take, List.length_drop, List.length_map]; omega
    generalize cutD (ns.map D.int) none (some 6) = cs at hc hcl
    refine xc_ix (JSc ns at') ⟨⟨[], rfl⟩, rfl, rfl⟩ ?_ ?_
    · rintro acc e ⟨⟨ms, hm⟩, hk, rfl⟩
      refine ⟨_, by walk_at "at", ?_⟩
      walk_at "run"
      refine xo_sumL hm ?_
      walk_at "all" <;> exact q _ ⟨_, _, _, rfl⟩
    · rintro k acc e hk ⟨⟨ms, hm⟩, hk', rfl⟩
      obtain ⟨i, hi⟩ := hc _ (List.getElem_mem hk)
      rw [hi]
      walk_at "run"
      exact acc_q (by omega) (by walk_at "at") ⟨⟨_, asInts_app hm⟩, by simp [hk'], rfl⟩

theorem xo_allT {n : Nat} {acc : List D} {Q : O → Prop} (h : acc = List.replicate n (.bl true)) (q : Q (.shr (.bl true))) : XO (oAll [.ol acc]) Q := by
  have e : asBls acc = some (List.replicate n true) := by
    subst h
    induction n with
    | zero => rfl
    | succ n ih => rw [List.replicate_succ, List.replicate_succ, asBls, ih]; rfl
  refine xo_all rfl e ?_
  have : (List.replicate n true).all id = true := by simp
  rw [this]; exact q
local macro_rules | `(tactic| walk_at "law") => `(tactic| repeat' (first | walk_at "1" | ((with_reducible refine lend_ok ?_ ?_); (focus rfl)) | ((with_reducible apply wbx); (focus (walk_at "wb"; done)); (focus rfl)) | walk_at "tf" | walk_at "isi" | with_reducible refine xo_allT (by assumption) ?_ | walk_at "both"))
/-! ### the same -/
mutual
def sm : D → Bool
  | .non => true
  | .bl _ => true
  | .int _ => true
  | .str _ => true
  | .tup ds => decide (ds.length ≤ 1000) && sms ds
  | .lst ds => decide (ds.length ≤ 1000) && sms ds
  | _ => false
def sms : List D → Bool
  | [] => true
  | d :: r => sm d && sms r
end
mutual
def dq : D → Nat
  | .tup ds => dqs ds + 1
  | .lst ds => dqs ds + 1
  | _ => 0
def dqs : List D → Nat
  | [] => 0
  | d :: r => max (dq d) (dqs r)
end
theorem sms_at : ∀ {ds : List D} {x : D}, sms ds = true → x ∈ ds → sm x = true ∧ dq x ≤ dqs ds
  | d :: r, x, h, hx => by
    rw [sms, Bool.and_eq_true] at h
    rw [dqs]
    rcases List.mem_cons.mp hx with rfl | hx
    · exact ⟨h.1, by omega⟩
    · have := sms_at h.2 hx
      exact ⟨this.1, by omega⟩
theorem bl_eq {a : Bool} {Q : O → Prop} (q : Q (.shr (.bl true))) : XO (oEq (.shr (.bl a)) (.shr (.bl a))) Q := xo_eq (c := true) (by cases a <;> rfl) q
def JS (o : O) (n : Nat) (k : Nat) (acc : List D) (e : Sto) : Prop := acc = List.replicate k (.bl true) ∧ e = [some ⟨o, o.own, false⟩, some ⟨o, o.own, false⟩, none, none]
theorem x_same : ∀ (k : Nat) {d : D}, sm d = true → dq d < k → ∀ {Q : Rs → List O → Prop}, Q (.o (.shr (.bl true))) [.shr d, .shr d] → XF (F_same k) [.shr d, .shr d] Q
  | 0, d, _, h, _, _ => by omega
  | k + 1, d, hs, h, Q, q => by
    refine xf' rfl (by walk_at "at") ?_
    unfold f_same
    cases d with
    | non => walk_at "law"; exact q
    | bl a =>
      walk_at "law"
      refine bl_eq ?_
      walk_at "law"
      exact q
    | int a => walk_at "law"; simpa using q
    | str a => walk_at "law"; simpa using q
    | tup ds =>
      rw [sm, Bool.and_eq_true, decide_eq_true_eq] at hs
      rw [dq] at h
      have hl := hs.1
      walk_at "law"
      refine xc_rng (JS (.shr (.tup ds)) ds.length) ⟨rfl, rfl⟩ ?_ ?_
      · rintro acc e ⟨ha, rfl⟩
        refine ⟨_, by walk_at "at", ?_⟩
        walk_at "law"
        exact q
      · rintro j acc e hj ⟨ha, rfl⟩
        have ix := at_nat hj
        obtain ⟨s1, s2⟩ := sms_at hs.2 (List.getElem_mem hj)
        walk_at "law"
        refine x_same k s1 (by omega) ?_
        walk_at "law"
        refine acc_q (by rw [ha, List.length_replicate]; omega) (by walk_at "at") ⟨by rw [ha, ← List.replicate_succ'], rfl⟩
    | lst ds =>
      rw [sm, Bool.and_eq_true, decide_eq_true_eq] at hs
      rw [dq] at h
      have hl := hs.1
      walk_at "law"
      refine xc_rng (JS (.shr (.lst ds)) ds.length) ⟨rfl, rfl⟩ ?_ ?_
      · rintro acc e ⟨ha, rfl⟩
        refine ⟨_, by walk_at "at", ?_⟩
        walk_at "law"
        exact q
      · rintro j acc e hj ⟨ha, rfl⟩
        have ix := at_nat hj
        obtain ⟨s1, s2⟩ := sms_at hs.2 (List.getElem_mem hj)
        walk_at "law"
        refine x_same k s1 (by omega) ?_
        walk_at "law"
        refine acc_q (by rw [ha, List.length_replicate]; omega) (by walk_at "at") ⟨by rw [ha, ← List.replicate_succ'], rfl⟩
    | _ => cases hs
def JSL (ds : List D) (k : Nat) (acc : List D) (e : Sto) : Prop := acc = List.replicate k (.bl true) ∧ e = [some ⟨.ol ds, true, false⟩, some ⟨.ol ds, true, false⟩, none, none]
theorem x_sameL {k : Nat} {ds : List D} (hs : sms ds = true) (h : dqs ds < k) (hl : ds.length ≤ 1000) {Q : Rs → List O → Prop} (q : Q (.o (.shr (.bl true))) [.ol ds, .ol ds]) : XF (F_same (k + 1)) [.ol ds, .ol ds] Q := by
  refine xf' rfl (by walk_at "at") ?_
  unfold f_same
  walk_at "law"
  refine xc_rng (JSL ds) ⟨rfl, rfl⟩ ?_ ?_
  · rintro acc e ⟨ha, rfl⟩
    refine ⟨_, by walk_at "at", ?_⟩
    walk_at "law"
    exact q
  · rintro j acc e hj ⟨ha, rfl⟩
    have ix := at_nat hj
    obtain ⟨s1, s2⟩ := sms_at hs (List.getElem_mem hj)
    walk_at "law"
    refine x_same k s1 (by omega) ?_
    walk_at "law"
    refine acc_q (by rw [ha, List.length_replicate]; omega) (by walk_at "at") ⟨by rw [ha, ← List.replicate_succ'], rfl⟩


def JSM (ds : List D) (k : Nat) (acc : List D) (e : Sto) : Prop := acc = List.replicate k (.bl true) ∧ e = [some ⟨.ol ds, true, false⟩, some ⟨.shr (.lst ds), false, false⟩, none, none]
theorem x_sameM {k : Nat} {ds : List D} (hs : sms ds = true) (h : dqs ds < k) (hl : ds.length ≤ 1000) {Q : Rs → List O → Prop} (q : Q (.o (.shr (.bl true))) [.ol ds, .shr (.lst ds)]) : XF (F_same (k + 1)) [.ol ds, .shr (.lst ds)] Q := by
  refine xf' rfl (by walk_at "at") ?_
  unfold f_same
  walk_at "law"
  refine xc_rng (JSM ds) ⟨rfl, rfl⟩ ?_ ?_
  · rintro acc e ⟨ha, rfl⟩
    refine ⟨_, by walk_at "at", ?_⟩
    walk_at "law"
    exact q
  · rintro j acc e hj ⟨ha, rfl⟩
    have ix := at_nat hj
    obtain ⟨s1, s2⟩ := sms_at hs (List.getElem_mem hj)
    walk_at "law"
    refine x_same k s1 (by omega) ?_
    walk_at "law"
    refine acc_q (by rw [ha, List.length_replicate]; omega) (by walk_at "at") ⟨by rw [ha, ← List.replicate_succ'], rfl⟩
/-! ### digits -/
def Dg (x : Str) (n : Nat) : Prop := x.cps.toList.length = n ∧ ∀ c ∈ x.cps.toList, 48 ≤ c ∧ c ≤ 57
theorem dg_num {i : Int} (h : 0 ≤ i ∧ i < 10) : Dg (Str.ofString (toString i)) 1 := by
  obtain ⟨n, rfl⟩ := Int.eq_ofNat_of_zero_le h.1
  have e : (Str.ofString (toString ((n : Nat) : Int))).cps.toList = [48 + n] := by
    have := TL.tl_num n
    rw [TL.numL_lt (by omega)] at this
    exact this
  refine ⟨by rw [e]; rfl, fun c hc => ?_⟩
  rw [e, List.mem_singleton] at hc
  omega
theorem dg_app {x y : Str} {m n : Nat} (h : Dg x m) (g : Dg y n) : Dg (x ++ y) (m + n) := by
  have e : (x ++ y).cps.toList = x.cps.toList ++ y.cps.toList := by
    show (x.cps ++ y.cps).toList = _
    rw [Array.toList_append]
  refine ⟨by rw [e, List.length_append, h.1, g.1], fun c hc => ?_⟩
  rw [e, List.mem_append] at hc
  rcases hc with hc | hc
  · exact h.2 c hc
  · exact g.2 c hc
theorem dg_len {x : Str} {n : Nat} (h : Dg x n) : x.length = n := by
  rw [← h.1, Array.length_toList]; rfl
theorem join_tl (ys : List Str) : (Txt.join (Str.ofString "") ys).cps.toList = (ys.map fun y => y.cps.toList).flatten := by
  rw [TL.join_eq]
  have := TL.tl_join (Str.ofString "") ys
  have e0 : TL.tl (Str.ofString "") = [] := by decide +kernel
  rw [e0] at this
  refine this.trans ?_
  clear this
  have key : ∀ l : List (List Nat), TL.joinL [] l = l.flatten := by
    intro l
    induction l with
    | nil => rfl
    | cons p r ih =>
      cases r with
      | nil => simp [TL.joinL]
      | cons q r => rw [TL.joinL, ih]; simp
  rw [key]
theorem dg_join {ys : List Str} (h : ∀ y ∈ ys, Dg y 1) : Dg (Txt.join (Str.ofString "") ys) ys.length := by
  unfold Dg
  rw [join_tl]
  induction ys with
  | nil => exact ⟨rfl, fun c hc => nomatch hc⟩
  | cons y r ih =>
    obtain ⟨h1, h2⟩ := ih fun z hz => h z (List.mem_cons_of_mem _ hz)
    obtain ⟨g1, g2⟩ := h y (List.mem_cons_self ..)
    rw [List.map_cons, List.flatten_cons]
    refine ⟨by rw [List.length_append, h1, g1, List.length_cons]; omega, fun c hc => ?_⟩
    rcases List.mem_append.mp hc with hc | hc
    · exact g2 c hc
    · exact h2 c hc
theorem digits_lt (cs : List Nat) (h : ∀ c ∈ cs, 48 ≤ c ∧ c ≤ 57) : NumText.digitsVal cs < 10 ^ cs.length := by
  have key : ∀ (l : List Nat) (a : Nat), (∀ c ∈ l, 48 ≤ c ∧ c ≤ 57) → l.foldl (fun acc c => acc * 10 + (c - 48)) a < (a + 1) * 10 ^ l.length := by
    intro l
    induction l with
    | nil => intro a _; simp
    | cons c r ih =>
      intro a hc
      have h1 := hc c (List.mem_cons_self ..)
      have h2 := ih (a * 10 + (c - 48)) fun d hd => hc d (List.mem_cons_of_mem _ hd)
      rw [List.foldl_cons, List.length_cons, Nat.pow_succ]
      refine Nat.lt_of_lt_of_le h2 ?_
      calc (a * 10 + (c - 48) + 1) * 10 ^ r.length ≤ ((a + 1) * 10) * 10 ^ r.length := Nat.mul_le_mul_right _ (by omega)
        _ = (a + 1) * (10 ^ r.length * 10) := by rw [Nat.mul_assoc, Nat.mul_comm 10]
  have := key cs 0 h
  simpa [NumText.digitsVal] using this
theorem dg_int {x : Str} {n : Nat} (h : Dg x n) (h0 : 0 < n) (hn : n ≤ 30) : ∃ i : Nat, intText? x = some (i : Int) ∧ i < 1000000000000000000000000000000 := by
  have e := SX.int_S (a := x.cps.toList) (by
    rw [List.all_eq_true]
    intro c hc
    have := h.2 c hc
    simp; exact this) (by intro z; have w := h.1; rw [z] at w; simp at w; omega) (by rw [h.1]; omega)
  rw [SX.S_tl] at e
  refine ⟨_, e, ?_⟩
  have l := digits_lt x.cps.toList h.2
  rw [h.1] at l
  have l2 : NumText.digitsVal x.cps.toList < 10 ^ 30 := Nat.lt_of_lt_of_le l (Nat.pow_le_pow_right (by decide) hn)
  rw [show (10:Nat) ^ 30 = 1000000000000000000000000000000 by decide +kernel] at l2
  exact l2
theorem strD {i : Int} {Q : O → Prop} (h : 0 ≤ i ∧ i < 10) (q : ∀ s, Dg s 1 → Q (.shr (.str s))) : XO (oStr [.shr (.int i)]) Q := strI (by omega) (q _ (dg_num h))
theorem ixAll {ds : List D} {r : Int} {Q : O → Prop} (h0 : 0 ≤ r) (h1 : r < ds.length) (q : ∀ d ∈ ds, Q (.shr d)) : XO (oIx (.ol ds) (.shr (.int r))) Q := by
  obtain ⟨n, rfl, h, e⟩ := at_int h0 h1
  exact ixL e (q _ (List.getElem_mem h))
local macro_rules | `(tactic| walk_at "law") => `(tactic| repeat' (first | with_reducible refine strD (by omega) fun _ _ => ?_ | walk_at "1" | ((with_reducible refine lend_ok ?_ ?_); (focus rfl)) | ((with_reducible apply wbx); (focus (walk_at "wb"; done)); (focus rfl)) | walk_at "tf" | walk_at "isi" | with_reducible refine x_pick (by assumption) (by omega) (by omega) fun _ _ _ _ _ => ?_ | walk_at "both"))
def JBg (many : Int) (k : Nat) (acc : List D) (e : Sto) : Prop := ∃ (src : List D) (ys : List Str), Src3 src ∧ acc = ys.map D.str ∧ ys.length = k ∧ (∀ y ∈ ys, Dg y 1) ∧ e = [some ⟨.ol src, true, false⟩, some ⟨.shr (.int many), false, false⟩, none, none]
theorem x_big {src : List D} (hs : Src3 src) {Q : Rs → List O → Prop} (q : ∀ (i : Nat) src', i < 1000000000000000000000000000000 → Src3 src' → Q (.o (.shr (.int (i : Int)))) [.ol src']) : XF F_big [.ol src] Q := by
  refine xf' rfl (by walk_at "at") ?_
  unfold f_big
  walk_at "law"
  refine ixAll (by assumption) (by assumption) fun d hd => ?_
  have hd : ∃ i : Int, d = .int i ∧ 1 ≤ i ∧ i ≤ 30 := by
    simp only [List.mem_cons, List.mem_nil_iff, or_false] at hd
    rcases hd with rfl | rfl | rfl | rfl | rfl | rfl <;> exact ⟨_, rfl, by omega, by omega⟩
  obtain ⟨many, rfl, m1, m2⟩ := hd
  walk_at "law"
  rename_i r _ _ _ _ s1 hs1
  clear hd
  refine r1 ⟨by omega, by omega⟩ ?_
  walk_at "law"
  refine xc_rng (JBg many) ⟨_, [], by assumption, rfl, rfl, (fun y hy => nomatch hy), rfl⟩ ?_ ?_
  · rintro acc e ⟨src, ys, hs, rfl, hl, hy, rfl⟩
    refine ⟨_, by walk_at "at", ?_⟩
    have hj := dg_join hy
    walk_at "law"
    refine xo_joinL (asStrs_map ys) ?_ ?_
    · have : (ys.map (·.length)).sum = ys.length := by
        clear hj hl
        induction ys with
        | nil => rfl
        | cons y r ih =>
          rw [List.map_cons, List.sum_cons, ih fun z hz => hy z (List.mem_cons_of_mem _ hz), dg_len (hy y (List.mem_cons_self ..)), List.length_cons]; omega
      have e0 : (Str.ofString "").length = 0 := by decide +kernel
      rw [this, e0]; omega
    · walk_at "law"
      have ha := dg_app hs1 hj
      refine xo_addS (by rw [dg_len hs1, dg_len hj]; omega) ?_
      walk_at "law"
      · obtain ⟨i, e, b⟩ := dg_int ha (by omega) (by omega)
        refine xo_intS (by rw [dg_len ha]; omega) e ?_
        walk_at "law"
        exact q _ _ b (by assumption)
      · exact q 0 _ (by decide) (by assumption)
  · rintro k acc e hk ⟨src, ys, hs, rfl, hl, hy, rfl⟩
    walk_at "law"
    rename_i s2 hs2
    refine acc_q (by rw [List.length_map]; omega) (by walk_at "at") ⟨_, ys ++ [s2], by assumption, by simp, by simp [hl], ?_, rfl⟩
    intro y hy'
    rcases List.mem_append.mp hy' with h | h
    · exact hy y h
    · rw [List.mem_singleton.mp h]; exact hs2


/-! ### words, variables, paths -/
theorem ixT2 {l : List Nat} {r : Int} {p : Nat → Prop} (hl : l.length ≤ 1000) (h0 : 0 ≤ r) (h1 : r < l.length) (hp : ∀ (k c : Nat), (k : Int) = r → l[k]? = some c → p c) {Q : O → Prop} (q : ∀ c, p c → Q (.shr (.str (S [c])))) : XO (oIx (.shr (.str (S l))) (.shr (.int r))) Q := by
  obtain ⟨n, rfl⟩ := Int.eq_ofNat_of_zero_le h0
  have hn : n < l.length := by omega
  exact ixT' (by omega) (List.getElem?_eq_getElem hn) (q _ (hp n _ rfl (List.getElem?_eq_getElem hn)))
theorem word_at {k c : Nat} (h : sWord[k]? = some c) : isAln c = true ∧ (k < 26 → isLet c = true) := by
  have hk : k < sWord.length := (List.getElem?_eq_some_iff.mp h).1
  have hk : k < 36 := hk
  have key : ∀ k : Fin 36, ∀ c, sWord[k.1]? = some c → isAln c = true ∧ (k.1 < 26 → isLet c = true) := by
    have : ∀ k : Fin 36, (match sWord[k.1]? with | some c => isAln c && (!decide (k.1 < 26) || isLet c) | none => true) = true := by decide +kernel
    intro k c e
    have := this k
    rw [e] at this
    simp at this
    refine ⟨this.1, fun z => ?_⟩
    rcases this.2 with h | h
    · omega
    · exact h
  exact key ⟨k, hk⟩ c h
theorem path_at {k c : Nat} (h : sPath[k]? = some c) : isPth c = true ∧ (k < 26 → isLet c = true) := by
  have hk : k < sPath.length := (List.getElem?_eq_some_iff.mp h).1
  have hk : k < 37 := hk
  have key : ∀ k : Fin 37, ∀ c, sPath[k.1]? = some c → isPth c = true ∧ (k.1 < 26 → isLet c = true) := by
    have : ∀ k : Fin 37, (match sPath[k.1]? with | some c => isPth c && (!decide (k.1 < 26) || isLet c) | none => true) = true := by decide +kernel
    intro k c e
    have := this k
    rw [e] at this
    simp at this
    refine ⟨this.1, fun z => ?_⟩
    rcases this.2 with h | h
    · omega
    · exact h
  exact key ⟨k, hk⟩ c h
theorem ixW26 {r : Int} (h0 : 0 ≤ r) (h1 : r < 26) {Q : O → Prop} (q : ∀ c, isLet c = true → Q (.shr (.str (S [c])))) : XO (oIx (.shr (.str (S sWord))) (.shr (.int r))) Q := ixT2 (by decide) h0 (by have : sWord.length = 36 := rfl; omega) (fun k c e h => (word_at h).2 (by omega)) q
theorem ixW36 {r : Int} (h0 : 0 ≤ r) (h1 : r < 36) {Q : O → Prop} (q : ∀ c, isAln c = true → Q (.shr (.str (S [c])))) : XO (oIx (.shr (.str (S sWord))) (.shr (.int r))) Q := ixT2 (by decide) h0 (by have : sWord.length = 36 := rfl; omega) (fun k c e h => (word_at h).1) q
theorem ixP26 {r : Int} (h0 : 0 ≤ r) (h1 : r < 26) {Q : O → Prop} (q : ∀ c, isLet c = true → Q (.shr (.str (S [c])))) : XO (oIx (.shr (.str (S sPath))) (.shr (.int r))) Q := ixT2 (by decide) h0 (by have : sPath.length = 37 := rfl; omega) (fun k c e h => (path_at h).2 (by omega)) q
theorem ixP37 {r : Int} (h0 : 0 ≤ r) (h1 : r < 37) {Q : O → Prop} (q : ∀ c, isPth c = true → Q (.shr (.str (S [c])))) : XO (oIx (.shr (.str (S sPath))) (.shr (.int r))) Q := ixT2 (by decide) h0 (by have : sPath.length = 37 := rfl; omega) (fun k c e h => (path_at h).1) q
theorem joinC (ys : List Nat) : Txt.join (Str.ofString "") (ys.map fun c => S [c]) = S ys := by
  have h := join_tl (ys.map fun c => S [c])
  have e : ((ys.map fun c => S [c]).map fun y => y.cps.toList).flatten = ys := by
    induction ys with
    | nil => rfl
    | cons a r ih => rw [List.map_cons, List.map_cons, List.flatten_cons, ih (join_tl _)]; rfl
  rw [e] at h
  exact (SX.S_tl _).symm.trans (congrArg S h)
theorem joinC_len (ys : List Nat) : ((ys.map fun c => S [c]).map (·.length)).sum = ys.length := by
  induction ys with
  | nil => rfl
  | cons a r ih => rw [List.map_cons, List.map_cons, List.sum_cons, ih, SX.S_len, List.length_cons]; simp; omega
def JStm (p : Nat → Bool) (mk : List D → Sto) (k : Nat) (acc : List D) (e : Sto) : Prop := ∃ (src : List D) (ys : List Nat), Src3 src ∧ acc = (ys.map fun c => S [c]).map D.str ∧ ys.length = k ∧ (∀ c ∈ ys, p c = true) ∧ e = mk src
theorem e0_len : (Str.ofString "").length = 0 := by decide +kernel
def stemW (cs : List Nat) (most : Nat) : Prop := ∃ c r, cs = c :: r ∧ isLet c = true ∧ (∀ x ∈ r, isAln x = true) ∧ (c :: r).length ≤ most
theorem stem8 {d : D} (h : d ∈ [D.str "if", .str "as", .str "set", .str "back", .str "go", .str "a", .str "d", .str "rem"]) : ∃ cs, d = .str (S cs) ∧ stemW cs 8 := by
  simp only [List.mem_cons, List.mem_nil_iff, or_false] at h
  rcases h with rfl | rfl | rfl | rfl | rfl | rfl | rfl | rfl
  · exact ⟨[105, 102], congrArg D.str (by decide +kernel), 105, [102], rfl, by decide, by decide, by decide⟩
  · exact ⟨[97, 115], congrArg D.str (by decide +kernel), 97, [115], rfl, by decide, by decide, by decide⟩
  · exact ⟨[115, 101, 116], congrArg D.str (by decide +kernel), 115, [101, 116], rfl, by decide, by decide, by decide⟩
  · exact ⟨[98, 97, 99, 107], congrArg D.str (by decide +kernel), 98, [97, 99, 107], rfl, by decide, by decide, by decide⟩
  · exact ⟨[103, 111], congrArg D.str (by decide +kernel), 103, [111], rfl, by decide, by decide, by decide⟩
  · exact ⟨[97], congrArg D.str (by decide +kernel), 97, [], rfl, by decide, by decide, by decide⟩
  · exact ⟨[100], congrArg D.str (by decide +kernel), 100, [], rfl, by decide, by decide, by decide⟩
  · exact ⟨[114, 101, 109], congrArg D.str (by decide +kernel), 114, [101, 109], rfl, by decide, by decide, by decide⟩
theorem stem_mono {cs : List Nat} {a b : Nat} (h : stemW cs a) (hab : a ≤ b) : stemW cs b := by
  obtain ⟨c, r, e, h1, h2, h3⟩ := h
  exact ⟨c, r, e, h1, h2, by omega⟩
local macro_rules | `(tactic| walk_at "law") => `(tactic| repeat' (first | walk_at "1" | with_reducible refine ixW26 (by assumption) (by omega) fun _ _ => ?_ | with_reducible refine ixW36 (by assumption) (by omega) fun _ _ => ?_ | with_reducible refine ixP26 (by assumption) (by omega) fun _ _ => ?_ | with_reducible refine ixP37 (by assumption) (by omega) fun _ _ => ?_ | ((with_reducible refine lend_ok ?_ ?_); (focus rfl)) | ((with_reducible apply wbx); (focus (walk_at "wb"; done)); (focus rfl)) | walk_at "tf" | walk_at "isi" | with_reducible refine x_pick (by assumption) (by omega) (by omega) fun _ _ _ _ _ => ?_ | walk_at "both"))
theorem x_stem {src : List D} (hs : Src3 src) {most : Nat} (hm : 8 ≤ most ∧ most ≤ 100) {Q : Rs → List O → Prop} (q : ∀ cs src', stemW cs most → Src3 src' → Q (.o (.shr (.str (S cs)))) [.ol src', .shr (.int (most : Nat))]) : XF F_stem [.ol src, .shr (.int (most : Nat))] Q := by
  refine xf' rfl (by walk_at "at") ?_
  unfold f_stem
  rw [o_word]
  walk_at "law"
  · refine ixAll (by assumption) (by assumption) fun d hd => ?_
    obtain ⟨cs, rfl, hw⟩ := stem8 hd
    walk_at "law"
    exact q _ _ (stem_mono hw hm.1) (by assumption)
  · rename_i c hc _ r _ _ _
    refine r1 ⟨by omega, by omega⟩ ?_
    walk_at "law"
    refine xc_rng (JStm isAln fun src => [some ⟨.ol src, true, false⟩, some ⟨.shr (.int (most : Nat)), false, false⟩, some ⟨.shr (.str (S sWord)), false, false⟩, none]) ⟨_, [], by assumption, rfl, rfl, (fun y hy => nomatch hy), rfl⟩ ?_ ?_
    · rintro acc e ⟨src, ys, hs, rfl, hl, hy, rfl⟩
      refine ⟨_, by walk_at "at", ?_⟩
      walk_at "law"
      refine xo_joinL (asStrs_map _) (by rw [joinC_len, e0_len]; omega) ?_
      rw [joinC]
      walk_at "law"
      refine xo_addS (by rw [SX.S_len, SX.S_len]; simp; omega) ?_
      rw [SX.S_cat]
      walk_at "law"
      exact q _ _ ⟨c, ys, rfl, hc, hy, by simp; omega⟩ hs
    · rintro k acc e hk ⟨src, ys, hs, rfl, hl, hy, rfl⟩
      walk_at "law"
      rename_i c2 hc2
      refine acc_q (by rw [List.length_map, List.length_map]; omega) (by walk_at "at") ⟨_, ys ++ [c2], by assumption, by simp, by simp [hl], ?_, rfl⟩
      intro y hy'
      rcases List.mem_append.mp hy' with h | h
      · exact hy y h
      · rw [List.mem_singleton.mp h]; exact hc2
/-! ### variables, paths, trees -/
def varOk (v : Str) : Prop := okV v ∧ NameC (TL.tl v)
theorem rp_ne {cs : List Nat} (h : ∀ r, cs ≠ 41 :: r) : S cs ≠ Str.ofString ")" := by
  rw [show Str.ofString ")" = S [41] by decide +kernel]
  intro z
  exact h [] (SX.S_inj z)
theorem var1 {cs : List Nat} (h : stemW cs 8) : varOk (S cs) := by
  obtain ⟨c, r, rfl, h1, h2, h3⟩ := h
  have hc : ¬ c = 64 := by rintro rfl; simp [isLet] at h1
  have sw : Txt.startswith (S (c :: r)) (Str.ofString "@") = false := by
    rw [o_at, show Txt.startswith (S (c :: r)) (S [64]) = decide (c = 64) from sw1 rfl, decide_eq_false hc]
  refine ⟨⟨?_, by rw [SX.S_len]; omega, rp_ne ?_⟩, .inl ⟨c, r, rfl, h1, h2⟩⟩
  · show (if Txt.startswith (S (c :: r)) (Str.ofString "@") = true then _ else _) = true
    rw [sw, if_neg (by decide), SX.S_len]
    exact decide_eq_true (by omega)
  · rintro r' e
    obtain ⟨rfl, _⟩ := List.cons.inj e
    simp [isLet] at h1
theorem var2 {cs : List Nat} (h : stemW cs 8) : varOk (S (64 :: cs)) := by
  obtain ⟨c, r, rfl, h1, h2, h3⟩ := h
  have sw : Txt.startswith (S (64 :: c :: r)) (Str.ofString "@") = true := by
    rw [o_at, show Txt.startswith (S (64 :: c :: r)) (S [64]) = decide (64 = 64) from sw1 rfl]; rfl
  refine ⟨⟨?_, by rw [SX.S_len]; simp at h3 ⊢; omega, rp_ne ?_⟩, .inr ⟨c, r, rfl, h1, h2⟩⟩
  · show (if Txt.startswith (S (64 :: c :: r)) (Str.ofString "@") = true then _ else _) = true
    rw [sw, if_pos rfl, SX.S_len]
    exact decide_eq_true (by simp at h3 ⊢; omega)
  · rintro r' e
    cases e
theorem o_emp : Str.ofString "" = S [] := by decide +kernel
theorem oo_at : (.str "@" : D) = .str (S [64]) := by rw [← o_at]
theorem oo_emp : (.str "" : D) = .str (S []) := by rw [← o_emp]
local macro_rules | `(tactic| walk_at "law") => `(tactic| repeat' (first | walk_at "1" | ((with_reducible refine lend_ok ?_ ?_); (focus rfl)) | ((with_reducible apply wbx); (focus (walk_at "wb"; done)); (focus rfl)) | walk_at "tf" | walk_at "isi" | with_reducible refine x_pick (by assumption) (by omega) (by omega) fun _ _ _ _ _ => ?_))
theorem x_variable {src : List D} (hs : Src3 src) {Q : Rs → List O → Prop} (q : ∀ v src', varOk v → Src3 src' → Q (.o (.shr (.str v))) [.ol src']) : XF F_variable [.ol src] Q := by
  refine xf' rfl (by walk_at "at") ?_
  unfold f_variable
  walk_at "law"
  refine ixAll (by assumption) (by assumption) fun d hd => ?_
  have hd : ∃ a, d = .str (S a) ∧ (a = [] ∨ a = [64]) := by
    simp only [List.mem_cons, List.mem_nil_iff, or_false] at hd
    rcases hd with rfl | rfl | rfl
    · exact ⟨[], oo_emp, .inl rfl⟩
    · exact ⟨[], oo_emp, .inl rfl⟩
    · exact ⟨[64], oo_at, .inr rfl⟩
  obtain ⟨a, rfl, ha⟩ := hd
  walk_at "law"
  refine (x_stem (most := 8) (by assumption) (by decide) fun cs src' hw hs' => ?_ : XF F_stem [.ol _, .shr (.int 8)] _)
  walk_at "law"
  have hl : cs.length ≤ 8 := by
    obtain ⟨c, r, rfl, _, _, h⟩ := hw
    exact h
  refine xo_addS (by rw [SX.S_len, SX.S_len]; rcases ha with rfl | rfl <;> simp <;> omega) ?_
  rw [SX.S_cat]
  walk_at "law"
  rcases ha with rfl | rfl
  · exact q _ _ (var1 hw) hs'
  · exact q _ _ (var2 hw) hs'
def pthW (p : List Nat) : Prop := ∃ pc pr, p = pc :: pr ∧ isLet pc = true ∧ (∀ x ∈ pr, isPth x = true) ∧ p.length ≤ 20
local macro_rules | `(tactic| walk_at "law") => `(tactic| repeat' (first | walk_at "1" | with_reducible refine ixP26 (by assumption) (by omega) fun _ _ => ?_ | with_reducible refine ixP37 (by assumption) (by omega) fun _ _ => ?_ | ((with_reducible refine lend_ok ?_ ?_); (focus rfl)) | ((with_reducible apply wbx); (focus (walk_at "wb"; done)); (focus rfl)) | walk_at "tf" | walk_at "isi" | with_reducible refine x_pick (by assumption) (by omega) (by omega) fun _ _ _ _ _ => ?_ | walk_at "both"))
theorem x_pathname {src : List D} (hs : Src3 src) {Q : Rs → List O → Prop} (q : ∀ p src', pthW p → Src3 src' → Q (.o (.shr (.str (S p)))) [.ol src']) : XF F_pathname [.ol src] Q := by
  refine xf' rfl (by walk_at "at") ?_
  unfold f_pathname
  rw [o_path]
  walk_at "law"
  refine ixAll (by assumption) (by assumption) fun d hd => ?_
  have hd : ∃ i : Int, d = .int i ∧ 0 ≤ i ∧ i ≤ 19 := by
    simp only [List.mem_cons, List.mem_nil_iff, or_false] at hd
    rcases hd with rfl | rfl | rfl | rfl | rfl <;> exact ⟨_, rfl, by omega, by omega⟩
  obtain ⟨many, rfl, m1, m2⟩ := hd
  clear hd
  walk_at "law"
  rename_i c hc
  refine r1 ⟨by omega, by omega⟩ ?_
  walk_at "law"
  refine xc_rng (JStm isPth fun src => [some ⟨.ol src, true, false⟩, some ⟨.shr (.str (S sPath)), false, false⟩, some ⟨.shr (.int many), false, false⟩, none]) ⟨_, [], by assumption, rfl, rfl, (fun y hy => nomatch hy), rfl⟩ ?_ ?_
  · rintro acc e ⟨src, ys, hs, rfl, hl, hy, rfl⟩
    refine ⟨_, by walk_at "at", ?_⟩
    walk_at "law"
    refine xo_joinL (asStrs_map _) (by rw [joinC_len, e0_len]; omega) ?_
    rw [joinC]
    walk_at "law"
    refine xo_addS (by rw [SX.S_len, SX.S_len]; simp; omega) ?_
    rw [SX.S_cat]
    walk_at "law"
    exact q _ _ ⟨c, ys, rfl, hc, hy, by simp; omega⟩ hs
  · rintro k acc e hk ⟨src, ys, hs, rfl, hl, hy, rfl⟩
    walk_at "law"
    rename_i c2 hc2
    refine acc_q (by rw [List.length_map, List.length_map]; omega) (by walk_at "at") ⟨_, ys ++ [c2], by assumption, by simp, by simp [hl], ?_, rfl⟩
    intro y hy'
    rcases List.mem_append.mp hy' with h | h
    · exact hy y h
    · rw [List.mem_singleton.mp h]; exact hc2
def E.ok : E → Prop
  | .num n => n < 1000000000000000000000000000000
  | .nam s => varOk s
  | .neg e => e.ok
  | .bin _ l r => l.ok ∧ r.ok
local macro_rules | `(tactic| walk_at "law") => `(tactic| repeat' (first | walk_at "1" | ((with_reducible refine lend_ok ?_ ?_); (focus rfl)) | ((with_reducible apply wbx); (focus (walk_at "wb"; done)); (focus rfl)) | walk_at "tf" | walk_at "isi" | with_reducible refine x_pick (by assumption) (by omega) (by omega) fun _ _ _ _ _ => ?_ | with_reducible refine x_big (by assumption) fun _ _ _ _ => ?_ | with_reducible refine x_variable (by assumption) fun _ _ _ _ => ?_ | walk_at "both"))
theorem sgn7 {d : D} (h : d ∈ [D.str "+", .str "-", .str "*", .str "/", .str "<", .str "=", .str ">"]) : ∃ o : Op, d = .str o.str := by
  simp only [List.mem_cons, List.mem_nil_iff, or_false] at h
  rcases h with rfl | rfl | rfl | rfl | rfl | rfl | rfl
  · exact ⟨.add, rfl⟩
  · exact ⟨.sub, rfl⟩
  · exact ⟨.mul, rfl⟩
  · exact ⟨.div, rfl⟩
  · exact ⟨.lt, rfl⟩
  · exact ⟨.eq, rfl⟩
  · exact ⟨.gt, rfl⟩
theorem x_grown : ∀ (k d : Nat), d < k → d ≤ 4 → ∀ {src : List D}, Src3 src → ∀ {Q : Rs → List O → Prop}, (∀ e src', E.ok e → e.dep ≤ d → e.n + 1 ≤ 2 ^ (d + 1) → Src3 src' → Q (.o (.shr (toD e))) [.ol src', .shr (.int (d : Nat))]) → XF (F_grown k) [.ol src, .shr (.int (d : Nat))] Q
  | 0, d, h, _, _, _, _, _ => by omega
  | k + 1, d, h, h4, src, hs, Q, q => by
    refine xf' rfl (by walk_at "at") ?_
    unfold f_grown
    have hp : 2 ≤ 2 ^ (d + 1) := by
      have : 0 < 2 ^ d := Nat.pos_of_ne_zero (by simp)
      rw [Nat.pow_succ]; omega
    cases d with
    | zero =>
      walk_at "law"
      · rename_i n src' hn hs'
        exact q (.num n) _ hn (Nat.le_refl _) hp hs'
      · rename_i v src' hn hs'
        exact q (.nam v) _ hn (Nat.le_refl _) hp hs'
    | succ d =>
      have hd1 : ((d + 1 : Nat) : Int) - 1 = (d : Nat) := by omega
      have hp2 : 2 ^ (d + 1 + 1) = 2 * 2 ^ (d + 1) := by rw [Nat.pow_succ]; omega
      walk_at "law"
      · rename_i n src' hn hs'
        exact q (.num n) _ hn (Nat.zero_le _) hp hs'
      · rename_i v src' hn hs'
        exact q (.nam v) _ hn (Nat.zero_le _) hp hs'
      · rw [hd1]
        refine x_grown k d (by omega) (by omega) (by assumption) fun e src' h1 h2 h3 h4 => ?_
        walk_at "law"
        exact q (.neg e) _ h1 (by simp only [E.dep]; omega) (by simp only [E.n]; omega) h4
      · refine ixAll (by omega) (by simp only [List.length_cons, List.length_nil]; omega) fun d' hd' => ?_
        obtain ⟨o, rfl⟩ := sgn7 hd'
        clear hd'
        walk_at "law"
        rw [hd1]
        refine x_grown k d (by omega) (by omega) (by assumption) fun e1 src1 a1 a2 a3 a4 => ?_
        walk_at "law"
        rw [hd1]
        refine x_grown k d (by omega) (by omega) (by assumption) fun e2 src2 b1 b2 b3 b4 => ?_
        walk_at "law"
        exact q (.bin o e1 e2) _ ⟨a1, b1⟩ (by simp only [E.dep]; omega) (by simp only [E.n]; omega) b4
def JCh (m : Nat) (k : Nat) (e : Sto) : Prop := ∃ (src : List D) (t : E) (x3 x4 x5 : Option Slot), Src3 src ∧ t.ok ∧ t.dep ≤ k ∧ t.n ≤ 2 * k + 1 ∧ Fre' x3 ∧ Fre' x4 ∧ Fre' x5 ∧
  e = [some ⟨.ol src, true, false⟩, some ⟨.shr (.int (m : Nat)), false, false⟩, some ⟨.shr (toD t), false, false⟩, x3, x4, x5]
theorem sgn8 {d : D} (h : d ∈ [D.str "minus", .str "+", .str "-", .str "*", .str "/", .str "<", .str "=", .str ">"]) : d = .str "minus" ∨ ∃ o : Op, d = .str o.str := by
  rcases List.mem_cons.mp h with rfl | h
  · exact .inl rfl
  · exact .inr (sgn7 h)
theorem x_chain {src : List D} (hs : Src3 src) {m : Nat} (hm : m ≤ 1000) {Q : Rs → List O → Prop} (q : ∀ e src', E.ok e → e.dep ≤ m → e.n ≤ 2 * m + 1 → Src3 src' → Q (.o (.shr (toD e))) [.ol src', .shr (.int (m : Nat))]) : XF F_chain [.ol src, .shr (.int (m : Nat))] Q := by
  refine xf' rfl (by walk_at "at") ?_
  unfold f_chain
  walk_at "law"
  rename_i v src' hv hs'
  refine xl_rng (JCh m) ⟨_, .nam v, _, _, _, hs', hv, Nat.zero_le _, Nat.le_refl _, .n, .n, .n, rfl⟩ ?_ ?_
  · rintro e ⟨src, t, x3, x4, x5, hs, t1, t2, t3, f3, f4, f5, rfl⟩
    walk_at "law"
    exact q _ _ t1 t2 t3 hs
  · rintro k e hk ⟨src, t, x3, x4, x5, hs, t1, t2, t3, f3, f4, f5, rfl⟩
    walk_at "law"
    rename_i r src1 hs1 hr0 hr1 r2 src2 hs2 hr3 hr4
    obtain ⟨n, rfl⟩ := Int.eq_ofNat_of_zero_le hr0
    refine ixAll (by assumption) (by assumption) fun d' hd' => ?_
    rcases sgn8 hd' with rfl | ⟨o, rfl⟩
    · clear hd'
      walk_at "law"
      exact ⟨_, .neg t, _, _, _, hs2, t1, by simp only [E.dep]; omega, by simp only [E.n]; omega, .s, .s, .s, rfl⟩
    · clear hd'
      have ho := (op_no o).2.2
      walk_at "law"
      · rename_i hs3 _ _ _
        exact ⟨_, .bin o t (.num n), _, _, _, by assumption, ⟨t1, show n < _ by omega⟩, by simp only [E.dep]; omega, by simp only [E.n]; omega, .s, .s, .s, rfl⟩
      · exact ⟨_, .bin o (.num n) t, _, _, _, by assumption, ⟨show n < _ by omega, t1⟩, by simp only [E.dep]; omega, by simp only [E.n]; omega, .s, .s, .s, rfl⟩
def eOk (e : E) : Prop := e.ok ∧ e.dep ≤ 25 ∧ e.n ≤ 51
theorem grown_ok {e : E} {d : Nat} (h1 : e.ok) (h2 : e.dep ≤ d) (h3 : e.n + 1 ≤ 2 ^ (d + 1)) (hd : d ≤ 4) : eOk e := by
  have : 2 ^ (d + 1) ≤ 2 ^ 5 := Nat.pow_le_pow_right (by decide) (by omega)
  exact ⟨h1, by omega, by omega⟩
theorem x_some {src : List D} (hs : Src3 src) {Q : Rs → List O → Prop} (q : ∀ e src', eOk e → Src3 src' → Q (.o (.shr (toD e))) [.ol src']) : XF F_some [.ol src] Q := by
  refine xf' rfl (by walk_at "at") ?_
  unfold f_some
  walk_at "law"
  · refine (x_chain (m := 25) (by assumption) (by decide) fun e src' h1 h2 h3 h4 => ?_ : XF F_chain [.ol _, .shr (.int 25)] _)
    walk_at "law"
    exact q _ _ ⟨h1, h2, h3⟩ h4
  · rename_i r src2 hs2 hr0 hr1
    obtain ⟨d, rfl⟩ := Int.eq_ofNat_of_zero_le hr0
    refine x_grown 6 d (by omega) (by omega) (by assumption) fun e src' h1 h2 h3 h4 => ?_
    walk_at "law"
    exact q _ _ (grown_ok h1 h2 h3 (by omega)) h4
/-! ### spelled: an expression's tokens -/
def B.mtk : B → Nat → List (Tk × Option Nat)
  | .num _ n, c => [(.num n, some c)]
  | .nam _ s, c => [(.name s, some c)]
  | .neg _ b, c => (.op .sub, some (c + b.e.n)) :: b.mtk c
  | .bin o _ l r, c => l.mtk c ++ [(.op o, some (c + l.e.n + r.e.n))] ++ r.mtk (c + l.e.n)
  | .par _ _ b, c => (.lp, none) :: (b.mtk c ++ [(.rp, none)])
def mkD : Option Nat → D
  | none => .non
  | some k => .int (k : Nat)
def mD (t : Tk × Option Nat) : D := .tup [.str t.1.word, mkD t.2]
theorem mtk_tks : ∀ (b : B) (c : Nat), (b.mtk c).map (·.1) = b.tks.map (·.2)
  | .num _ _, _ => rfl
  | .nam _ _, _ => rfl
  | .neg _ b, c => by rw [B.mtk, B.tks, List.map_cons, List.map_cons, mtk_tks b]
  | .bin o _ l r, c => by rw [B.mtk, B.tks, List.map_append, List.map_append, List.map_append, List.map_cons, mtk_tks l, mtk_tks r]; simp
  | .par _ _ b, c => by rw [B.mtk, B.tks, List.map_cons, List.map_cons, List.map_append, List.map_append, mtk_tks b]; simp
theorem mtk_len (b : B) (c : Nat) : (b.mtk c).length = b.tks.length := by
  have := congrArg List.length (mtk_tks b c)
  simpa using this
theorem noL {ds : List D} {Q : O → Prop} (q : Q (.shr (.bl true))) : XO (oNotN (.ol ds) (.shr .non)) Q := ⟨_, rfl, q⟩
def spJ (e : E) (c : Nat) (b0 : B) (d1 d4 : D) (least rk : Nat) (a : Int) (x : Nat) (x7 x8 x9 : Option Slot) (src : List D) (k : Nat) (s : Sto) : Prop := ∃ (b : B) (x11 : Option Slot), Fre' x11 ∧ b.e = e ∧ b.wf ∧ b.tks.length ≤ b0.tks.length + 2 * k ∧ (k = 0 → b.rank = b0.rank) ∧ (0 < k → b.rank = 5) ∧
  s = [some ⟨.ol src, true, false⟩, some ⟨.shr d1, false, false⟩, some ⟨.shr (.int (least : Nat)), false, false⟩, some ⟨.ol [.int (x : Nat)], true, false⟩, some ⟨.shr d4, false, false⟩, some ⟨.shr (.int (rk : Nat)), false, false⟩, some ⟨.ol ((b.mtk c).map mD), false, false⟩, x7, x8, x9, some ⟨.shr (.int a), false, false⟩, x11]
abbrev spLoop : SF := (sSeq (sFor (iR1 (vConsH (vBin oAdd (vVar 10) (vCallB oInt (vConsH (vBin oLt (vVar 5) (vVar 2)) vNilH))) vNilH)) (gN 11)
      (sSet 6 (vBin oAdd (vBin oAdd (vLst (vConsD (vTake (vTup (vConsD (vTake (vC (.str "("))) (vConsD (vTake (vC .non)) vNilD)))) vNilD)) (vVar 6)) (vLst (vConsD (vTake (vTup (vConsD (vTake (vC (.str ")"))) (vConsD (vTake (vC .non)) vNilD)))) vNilD)))))
    (sRet (vVar 6)))
local macro_rules | `(tactic| walk_at "law") => `(tactic| repeat' (first | walk_at "1" | ((with_reducible refine lend_ok ?_ ?_); (focus rfl)) | ((with_reducible apply wbx); (focus (walk_at "wb"; done)); (focus rfl)) | walk_at "tf" | walk_at "isi" | with_reducible refine noL ?_ | with_reducible refine xo_intB ?_ | with_reducible refine x_pick (by assumption) (by omega) (by omega) fun _ _ _ _ _ => ?_))
theorem x_spLoop {src : List D} (hs : Src3 src) {e : E} {c : Nat} {b0 : B} {d1 d4 : D} {least x : Nat} {a : Int} {x7 x8 x9 : Option Slot} (f7 : Fre' x7) (f8 : Fre' x8) (f9 : Fre' x9) (ha : 0 ≤ a ∧ a ≤ 1) (he : b0.e = e) (hw : b0.wf) (hl : b0.tks.length ≤ 10000) (hle : least ≤ 5) {Q : Rs → List O → Prop}
    (q : ∀ b : B, b.e = e → b.wf → least ≤ b.rank → b.tks.length ≤ b0.tks.length + 4 → Q (.o (.ol ((b.mtk c).map mD))) [.ol src, .shr d1, .shr (.int (least : Nat)), .ol [.int (x : Nat)]]) :
    XS spLoop [some ⟨.ol src, true, false⟩, some ⟨.shr d1, false, false⟩, some ⟨.shr (.int (least : Nat)), false, false⟩, some ⟨.ol [.int (x : Nat)], true, false⟩, some ⟨.shr d4, false, false⟩, some ⟨.shr (.int (b0.rank : Nat)), false, false⟩, some ⟨.ol ((b0.mtk c).map mD), false, false⟩, x7, x8, x9, some ⟨.shr (.int a), false, false⟩, none] (defQ 4 Q) := by
  have h5 := rank1 b0
  walk_at "law"
  have hj : ∃ n : Nat, a + (if decide ((b0.rank : Int) < (least : Int)) = true then (1 : Int) else 0) = (n : Int) ∧ n ≤ 2 ∧ (n = 0 → least ≤ b0.rank) := by
    by_cases h : (b0.rank : Int) < (least : Int)
    · rw [if_pos (decide_eq_true h)]
      exact ⟨(a + 1).toNat, by omega, by omega, by omega⟩
    · rw [if_neg (by simpa using h)]
      exact ⟨a.toNat, by omega, by omega, by omega⟩
  obtain ⟨n, hn, hn2, hn0⟩ := hj
  rw [hn]
  refine r1N (by omega) ?_
  walk_at "law"
  refine xl_rng (spJ e c b0 d1 d4 least b0.rank a x x7 x8 x9 src) ⟨b0, none, .n, he, hw, Nat.le_refl _, fun _ => rfl, (fun h => absurd h (by omega)), rfl⟩ ?_ ?_
  · rintro s ⟨b, x11, f11, h1, h2, h3, h4, h6, rfl⟩
    walk_at "law"
    refine q b h1 h2 ?_ (by omega)
    by_cases hz : n = 0
    · rw [h4 hz]; exact hn0 hz
    · rw [h6 (by omega)]; exact hle
  · rintro k s hk ⟨b, x11, f11, h1, h2, h3, h4, h6, rfl⟩
    have hml := mtk_len b c
    walk_at "law"
    refine xo_addL (by rw [List.length_map]; simp; omega) ?_
    walk_at "law"
    refine xo_addL (by rw [List.length_append, List.length_map]; simp; omega) ?_
    walk_at "law"
    refine ⟨.par 0 0 b, some ⟨.shr (.int (k : Nat)), false, false⟩, .s, h1, h2, ?_, (fun z => absurd z (by omega)), (fun _ => rfl), ?_⟩
    · rw [B.tks, List.length_cons, List.length_append]; simp; omega
    · rw [B.mtk, List.map_cons, List.map_append, List.append_assoc]; rfl
abbrev spTail : SF := (sSeq (sAugIx 3 (vC (.int 0)) oAddI (vC (.int 1)))
    (sSeq (sSet 10 (vIf (bAnd (bVal (vBin oNotN (vVar 0) (vC .non))) (bVal (vBin oEq (vCall F_pick (vConsH (vVar 0) (vConsH (vC (.int 6)) vNilH))) (vC (.int 0))))) (vC (.int 1)) (vC (.int 0)))) spLoop))
local macro_rules | `(tactic| walk_at "law") => `(tactic| repeat' (first | walk_at "1" | ((with_reducible refine lend_ok ?_ ?_); (focus rfl)) | ((with_reducible apply wbx); (focus (walk_at "wb"; done)); (focus rfl)) | walk_at "tf" | walk_at "isi" | with_reducible refine noL ?_ | with_reducible refine xo_intB ?_ | with_reducible refine x_pick (by assumption) (by omega) (by omega) fun _ _ _ _ _ => ?_ | walk_at "both"))
theorem x_spLoopE {env : Sto} {P : Out → Prop} (h : ∃ (src : List D) (e : E) (c : Nat) (b0 : B) (d1 d4 : D) (least x : Nat) (a : Int) (x7 x8 x9 : Option Slot) (Q : Rs → List O → Prop), env = [some ⟨.ol src, true, false⟩, some ⟨.shr d1, false, false⟩, some ⟨.shr (.int (least : Nat)), false, false⟩, some ⟨.ol [.int (x : Nat)], true, false⟩, some ⟨.shr d4, false, false⟩, some ⟨.shr (.int (b0.rank : Nat)), false, false⟩, some ⟨.ol ((b0.mtk c).map mD), false, false⟩, x7, x8, x9, some ⟨.shr (.int a), false, false⟩, none] ∧ P = defQ 4 Q ∧
    Src3 src ∧ Fre' x7 ∧ Fre' x8 ∧ Fre' x9 ∧ (0 ≤ a ∧ a ≤ 1) ∧ b0.e = e ∧ b0.wf ∧ b0.tks.length ≤ 10000 ∧ least ≤ 5 ∧ (∀ b : B, b.e = e → b.wf → least ≤ b.rank → b.tks.length ≤ b0.tks.length + 4 → Q (.o (.ol ((b.mtk c).map mD))) [.ol src, .shr d1, .shr (.int (least : Nat)), .ol [.int (x : Nat)]])) : XS spLoop env P := by
  obtain ⟨src, e, c, b0, d1, d4, least, x, a, x7, x8, x9, Q, rfl, rfl, hs, f7, f8, f9, ha, he, hw, hl, hle, q⟩ := h
  exact x_spLoop hs f7 f8 f9 ha he hw hl hle q
local macro_rules | `(tactic| walk_at "law") => `(tactic| repeat' (first | with_reducible refine x_spLoopE ?_ | walk_at "1" | ((with_reducible refine lend_ok ?_ ?_); (focus rfl)) | ((with_reducible apply wbx); (focus (walk_at "wb"; done)); (focus rfl)) | walk_at "tf" | walk_at "isi" | with_reducible refine noL ?_ | with_reducible refine xo_intB ?_ | with_reducible refine x_pick (by assumption) (by omega) (by omega) fun _ _ _ _ _ => ?_ | walk_at "both"))
theorem x_spTail {src : List D} (hs : Src3 src) {e : E} {c : Nat} {b0 : B} {d1 d4 : D} {least x : Nat} {x7 x8 x9 : Option Slot} (f7 : Fre' x7) (f8 : Fre' x8) (f9 : Fre' x9) (he : b0.e = e) (hw : b0.wf) (hl : b0.tks.length ≤ 10000) (hle : least ≤ 5) {Q : Rs → List O → Prop}
    (q : ∀ (b : B) src', Src3 src' → b.e = e → b.wf → least ≤ b.rank → b.tks.length ≤ b0.tks.length + 4 → Q (.o (.ol ((b.mtk c).map mD))) [.ol src', .shr d1, .shr (.int (least : Nat)), .ol [.int ((x + 1 : Nat) : Int)]]) :
    XS spTail [some ⟨.ol src, true, false⟩, some ⟨.shr d1, false, false⟩, some ⟨.shr (.int (least : Nat)), false, false⟩, some ⟨.ol [.int (x : Nat)], true, false⟩, some ⟨.shr d4, false, false⟩, some ⟨.shr (.int (b0.rank : Nat)), false, false⟩, some ⟨.ol ((b0.mtk c).map mD), false, false⟩, x7, x8, x9, none, none] (defQ 4 Q) := by
  have e1 : ((x : Nat) : Int) + 1 = ((x + 1 : Nat) : Int) := rfl
  walk_at "law"
  all_goals
    refine ⟨_, e, c, b0, d1, d4, least, x + 1, _, x7, x8, x9, Q, rfl, rfl, by assumption, f7, f8, f9, by decide, he, hw, hl, hle, fun b h1 h2 h3 h4 => q b _ (by assumption) h1 h2 h3 h4⟩
theorem x_spTailE {env : Sto} {P : Out → Prop} (h : ∃ (src : List D) (e : E) (c : Nat) (b0 : B) (d1 d4 : D) (least x rk : Nat) (L : List D) (x7 x8 x9 : Option Slot) (Q : Rs → List O → Prop), env = [some ⟨.ol src, true, false⟩, some ⟨.shr d1, false, false⟩, some ⟨.shr (.int (least : Nat)), false, false⟩, some ⟨.ol [.int (x : Nat)], true, false⟩, some ⟨.shr d4, false, false⟩, some ⟨.shr (.int (rk : Nat)), false, false⟩, some ⟨.ol L, false, false⟩, x7, x8, x9, none, none] ∧ P = defQ 4 Q ∧ rk = b0.rank ∧ L = (b0.mtk c).map mD ∧
    Src3 src ∧ Fre' x7 ∧ Fre' x8 ∧ Fre' x9 ∧ b0.e = e ∧ b0.wf ∧ b0.tks.length ≤ 10000 ∧ least ≤ 5 ∧ (∀ (b : B) src', Src3 src' → b.e = e → b.wf → least ≤ b.rank → b.tks.length ≤ b0.tks.length + 4 → Q (.o (.ol ((b.mtk c).map mD))) [.ol src', .shr d1, .shr (.int (least : Nat)), .ol [.int ((x + 1 : Nat) : Int)]])) : XS spTail env P := by
  obtain ⟨src, e, c, b0, d1, d4, least, x, rk, L, x7, x8, x9, Q, rfl, rfl, rfl, rfl, hs, f7, f8, f9, he, hw, hl, hle, q⟩ := h
  exact x_spTail hs f7 f8 f9 he hw hl hle q
def Stop (p : Prop) : Prop := p
abbrev binRest (F : FF) : SF := (sSeq (sSet 8 (vCall F (vConsH (vVar 0) (vConsH (vBin oIx (vVar 1) (vC (.int 1))) (vConsH (vCallB oMax (vConsH (vC (.int 2)) (vConsH (vVar 5) vNilH))) (vConsH (vVar 3) vNilH))))))
    (sSeq (sSet 9 (vCall F (vConsH (vVar 0) (vConsH (vBin oIx (vVar 1) (vC (.int 2))) (vConsH (vBin oAdd (vVar 5) (vC (.int 1))) (vConsH (vVar 3) vNilH))))))
    (sSet 6 (vBin oAdd (vBin oAdd (vVar 8) (vLst (vConsD (vTake (vTup (vConsD (vTake (vVar 4)) (vConsD (vTake (vBin oIx (vVar 3) (vC (.int 0)))) vNilD)))) vNilD))) (vVar 9)))))
theorem x_binE {F : FF} {env : Sto} {P : Out → Prop} (h : Stop (XS (binRest F) env P)) : XS (binRest F) env P := h
theorem xo_max2 {n : Nat} {Q : O → Prop} (q : Q (.shr (.int ((max 2 n : Nat) : Int)))) : XO (oMax [.shr (.int 2), .shr (.int (n : Int))]) Q := xo_maxN (a := 2) q
theorem num_str {n : Nat} (h : n < 1000000000000000000000000000000) {Q : O → Prop} (q : Q (.shr (.str (num n)))) : XO (oStrA [.shr (.int (n : Int))]) Q := xo_strAI (by
  have : (n : Int).natAbs = n := rfl
  rw [this]
  by_cases h0 : n = 0
  · subst h0; decide
  · have := (Nat.log2_lt (n := n) (k := 100) h0).mpr (Nat.lt_of_lt_of_le h (by decide +kernel))
    omega) q
theorem inM {s : Op} {l : List Str} {c : Bool} (h : decide (s.str ∈ l) = c) {Q : O → Prop} (q : Q (.shr (.bl c))) : XO (oInQ (.shr (.str s.str)) (.ol (l.map D.str))) Q := inL (by rw [h]; exact q)
theorem in3 (o : Op) : decide (o.str ∈ [(Str.ofString "<"), Str.ofString "=", Str.ofString ">"]) = decide (o.rk = 1) := by cases o <;> decide +kernel
theorem in2 (o : Op) : decide (o.str ∈ [(Str.ofString "+"), Str.ofString "-"]) = decide (o.rk = 2) := by cases o <;> decide +kernel
theorem in3' {o : Op} {Q : O → Prop} (q : Q (.shr (.bl (decide (o.rk = 1))))) : XO (oInQ (.shr (.str o.str)) (.ol [.str "<", .str "=", .str ">"])) Q := inM (l := [(Str.ofString "<"), Str.ofString "=", Str.ofString ">"]) (in3 o) q
theorem in2' {o : Op} {Q : O → Prop} (q : Q (.shr (.bl (decide (o.rk = 2))))) : XO (oInQ (.shr (.str o.str)) (.ol [.str "+", .str "-"])) Q := inM (l := [(Str.ofString "+"), Str.ofString "-"]) (in2 o) q
local macro_rules | `(tactic| walk_at "law") => `(tactic| repeat' (first | with_reducible refine xo_max2 ?_ | with_reducible refine x_spTailE ?_ | with_reducible refine x_binE ?_ | walk_at "1" | ((with_reducible refine lend_ok ?_ ?_); (focus rfl)) | ((with_reducible apply wbx); (focus (walk_at "wb"; done)); (focus rfl)) | walk_at "tf" | walk_at "isi" | with_reducible refine in3' ?_ | with_reducible refine in2' ?_ | with_reducible refine num_str (by assumption) ?_ | (with_reducible apply tf_F; (focus (exact decide_eq_false (op_no _).1))) | (with_reducible apply tf_F; (focus (exact decide_eq_false (op_no _).2.1))) | (with_reducible apply tf_F; (focus (exact decide_eq_false (op_no _).2.2))) | (with_reducible apply tf_T; (focus (exact decide_eq_true (by assumption)))) | (with_reducible apply tf_F; (focus (exact decide_eq_false (by assumption))))))
theorem x_spelled : ∀ (k : Nat) (e : E), e.ok → e.dep < k → e.n ≤ 1000 → ∀ (c least : Nat), least ≤ 5 → ∀ {src : List D}, Src3 src → ∀ {Q : Rs → List O → Prop},
    (∀ (b : B) src', Src3 src' → b.e = e → b.wf → least ≤ b.rank → b.tks.length ≤ 5 * e.n → Q (.o (.ol ((b.mtk c).map mD))) [.ol src', .shr (toD e), .shr (.int (least : Nat)), .ol [.int ((c + e.n : Nat) : Int)]]) →
    XF (F_spelled k) [.ol src, .shr (toD e), .shr (.int (least : Nat)), .ol [.int (c : Nat)]] Q
  | 0, e, _, h, _, _, _, _, _, _, _, _ => by omega
  | k + 1, e, hok, hd, hn, c, least, hle, src, hs, Q, q => by
    refine xf' rfl (by walk_at "at") ?_
    unfold f_spelled
    cases e with
    | num n =>
      have hn30 : n < 1000000000000000000000000000000 := hok
      simp only [toD] at q ⊢
      walk_at "law"
      exact ⟨_, .num n, c, .num 0 n, _, _, least, c, 5, _, _, _, _, Q, rfl, rfl, rfl, rfl, hs, .n, .n, .n, rfl, trivial, (show (1 : Nat) ≤ 10000 by omega), hle, fun b src' h1 h2 h3 h4 h5 => q b src' h1 h2 h3 h4 h5⟩
    | nam s =>
      simp only [toD] at q ⊢
      walk_at "law"
      exact ⟨_, .nam s, c, .nam 0 s, _, _, least, c, 5, _, _, _, _, Q, rfl, rfl, rfl, rfl, hs, .n, .n, .n, rfl, trivial, (show (1 : Nat) ≤ 10000 by omega), hle, fun b src' h1 h2 h3 h4 h5 => q b src' h1 h2 h3 h4 h5⟩
    | neg e =>
      have hn' : e.n + 1 ≤ 1000 := hn
      have hd' : e.dep + 1 < k + 1 := hd
      simp only [toD] at q ⊢
      walk_at "law"
      refine (x_spelled k e hok (by omega) (by omega) c 4 (by decide) hs fun b1 src1 s1 e1 w1 r1 l1 => ?_ : XF (F_spelled k) [.ol src, .shr (toD e), .shr (.int 4), .ol [.int (c : Nat)]] _)
      have hml := mtk_len b1 c
      walk_at "law"
      refine xo_addL (by rw [List.length_map]; simp; omega) ?_
      walk_at "law"
      exact ⟨_, .neg e, c, .neg 0 b1, _, _, least, c + e.n, 4, _, _, _, _, Q, rfl, rfl, rfl, by rw [B.mtk, e1]; rfl, s1, .s, .n, .n, by rw [B.e, e1], ⟨w1, r1⟩, by rw [B.tks, List.length_cons]; omega, hle, fun b src' h1 h2 h3 h4 h5 => q b src' h1 h2 h3 h4 (by rw [B.tks, List.length_cons] at h5; simp only [E.n]; omega)⟩
    | bin o l r =>
      have hn' : l.n + r.n + 1 ≤ 1000 := hn
      have hd' : max l.dep r.dep + 1 < k + 1 := hd
      have ho := o.rk1
      obtain ⟨ok1, ok2⟩ := hok
      simp only [toD] at q ⊢
      have hx : c + (E.bin o l r).n = c + l.n + r.n + 1 := by simp only [E.n]; omega
      rw [hx] at q
      have key : ∀ {env : Sto} {rk : Nat}, rk = o.rk → env = [some ⟨.ol src, true, false⟩, some ⟨.shr (.tup [.str o.str, toD l, toD r]), false, false⟩, some ⟨.shr (.int (least : Nat)), false, false⟩, some ⟨.ol [.int (c : Nat)], true, false⟩, some ⟨.shr (.str o.str), false, false⟩, some ⟨.shr (.int (rk : Nat)), false, false⟩, none, none, none, none, none, none] →
          XS (binRest (F_spelled k)) env (seqQ spTail (defQ 4 Q)) := by
        rintro env rk rfl rfl
        refine xs_seq' ?_
        walk_at "law"
        refine x_spelled k l ok1 (by omega) (by omega) c (max 2 o.rk) (by omega) hs fun b1 src1 s1 e1 w1 r1 l1 => ?_
        walk_at "law"
        refine (x_spelled k r ok2 (by omega) (by omega) (c + l.n) (o.rk + 1) (by omega) s1 fun b2 src2 s2 e2 w2 r2 l2 => ?_ : XF (F_spelled k) [.ol src1, .shr (toD r), .shr (.int ((o.rk : Nat) + 1)), .ol [.int ((c + l.n : Nat) : Int)]] _)
        have hm1 := mtk_len b1 c
        have hm2 := mtk_len b2 (c + l.n)
        walk_at "law"
        refine xo_addL (by rw [List.length_map]; simp; omega) ?_
        walk_at "law"
        refine xo_addL (by rw [List.length_append, List.length_map, List.length_map]; simp; omega) ?_
        walk_at "law"
        exact ⟨_, .bin o l r, c, .bin o 0 b1 b2, _, _, least, c + l.n + r.n, o.rk, _, _, _, _, Q, rfl, rfl, rfl, by rw [B.mtk, e1, e2, List.map_append, List.map_append]; rfl, s2, .n, .s, .s, by rw [B.e, e1, e2], ⟨w1, w2, r1, r2⟩, by rw [B.tks, List.length_append, List.length_cons]; omega, hle, fun b src' h1 h2 h3 h4 h5 => q b src' h1 h2 h3 h4 (by rw [B.tks, List.length_append, List.length_cons] at h5; simp only [E.n]; omega)⟩
      by_cases h1 : o.rk = 1
      · walk_at "law"
        exact key h1.symm rfl
      · by_cases h2 : o.rk = 2
        · walk_at "law"
          exact key h2.symm rfl
        · walk_at "law"
          exact key (rk := 3) (by omega) rfl
/-! ### formed: a drawn form -/
def Fm.ok : Fm → Prop
  | .rem => True | .back => True | .take v => varOk v | .hear v t => varOk v ∧ ∃ cs, t = S cs ∧ stemW cs 10
  | .go1 n => 1 ≤ n ∧ n ≤ 1000000 | .go n e => (1 ≤ n ∧ n ≤ 1000000) ∧ eOk e | .set v e => varOk v ∧ eOk e | .val _ e => eOk e
  | .call p es sf => pthW p ∧ es.length ≤ 4 ∧ (∀ e ∈ es, eOk e) ∧ (∀ v, sf = some v → varOk v)
theorem form13 {d : D} (h : d ∈ [D.str "set", .str "go", .str "go", .str "call", .str "call", .str "back", .str "back", .str "tell", .str "give", .str "put", .str "take", .str "hear", .str "rem"]) :
    d = .str "set" ∨ d = .str "go" ∨ d = .str "call" ∨ d = .str "back" ∨ d = .str "tell" ∨ d = .str "give" ∨ d = .str "put" ∨ d = .str "take" ∨ d = .str "hear" ∨ d = .str "rem" := by
  simp only [List.mem_cons, List.mem_nil_iff, or_false] at h
  rcases h with rfl | rfl | rfl | rfl | rfl | rfl | rfl | rfl | rfl | rfl | rfl | rfl | rfl <;> simp
local macro_rules | `(tactic| walk_at "law") => `(tactic| repeat' (first | walk_at "1" | ((with_reducible refine lend_ok ?_ ?_); (focus rfl)) | ((with_reducible apply wbx); (focus (walk_at "wb"; done)); (focus rfl)) | walk_at "tf" | walk_at "isi" | with_reducible refine x_pick (by assumption) (by omega) (by omega) fun _ _ _ _ _ => ?_ | with_reducible refine x_variable (by assumption) fun _ _ _ _ => ?_ | with_reducible refine x_some (by assumption) fun _ _ _ _ => ?_ | with_reducible refine x_pathname (by assumption) fun _ _ _ _ => ?_ | walk_at "both"))
def JF (d1 : D) (k : Nat) (acc : List D) (e : Sto) : Prop := ∃ (src : List D) (es : List E), Src3 src ∧ acc = es.map toD ∧ es.length = k ∧ (∀ e ∈ es, eOk e) ∧ e = [some ⟨.ol src, true, false⟩, some ⟨.shr d1, false, false⟩, none, none]
theorem p6 : (10 : Int) ^ (6 : Int).toNat = 1000000 := by decide +kernel
theorem x_formed {src : List D} (hs : Src3 src) {Q : Rs → List O → Prop} (q : ∀ f src', Fm.ok f → Src3 src' → Q (.o (.shr f.tree)) [.ol src']) : XF F_formed [.ol src] Q := by
  refine xf' rfl (by walk_at "at") ?_
  unfold f_formed
  walk_at "law"
  refine ixAll (by assumption) (by assumption) fun d hd => ?_
  rcases form13 hd with rfl | rfl | rfl | rfl | rfl | rfl | rfl | rfl | rfl | rfl
  · walk_at "law"
    rename_i v _ hv _ e _ he hs
    exact q (.set v e) _ ⟨hv, he⟩ hs
  · walk_at "law"
    simp only [p6]
    walk_at "law"
    refine ixAll (by assumption) (by assumption) fun d1 hd1 => ?_
    have hd1 : ∃ n : Nat, d1 = .int (n : Int) ∧ 1 ≤ n ∧ n ≤ 1000000 := by
      simp only [List.mem_cons, List.mem_nil_iff, or_false] at hd1
      rcases hd1 with rfl | rfl | rfl
      · rename_i r _ _ hr0 hr1 _ _ _ _ _
        obtain ⟨n, rfl⟩ := Int.eq_ofNat_of_zero_le hr0
        exact ⟨1 + n, congrArg D.int (by omega), by omega, by omega⟩
      · exact ⟨1000000, rfl, by omega, by omega⟩
      · exact ⟨10, rfl, by omega, by omega⟩
    obtain ⟨n, rfl, hn⟩ := hd1
    walk_at "law"
    rename_i e _ he _ _ _ _ _ _
    refine ixAll (by assumption) (by assumption) fun d2 hd2 => ?_
    simp only [List.mem_cons, List.mem_nil_iff, or_false] at hd2
    rcases hd2 with rfl | rfl
    · walk_at "law"
      exact q (.go1 n) _ hn (by assumption)
    · walk_at "law"
      exact q (.go n e) _ ⟨hn, he⟩ (by assumption)
  · walk_at "law"
    refine r1 ⟨by omega, by omega⟩ ?_
    walk_at "law"
    refine xc_rng (JF (.str "call")) ⟨_, [], by assumption, rfl, rfl, (fun y hy => nomatch hy), rfl⟩ ?_ ?_
    · rintro acc e ⟨src, es, hs, rfl, hl, hy, rfl⟩
      refine ⟨_, by walk_at "at", ?_⟩
      walk_at "law"
      rename_i p _ hp _ v _ hv _ _ _ _ _ _
      refine ixAll (by assumption) (by assumption) fun d2 hd2 => ?_
      simp only [List.mem_cons, List.mem_nil_iff, or_false] at hd2
      rcases hd2 with rfl | rfl
      · walk_at "law"
        exact q (.call p es none) _ ⟨hp, by omega, hy, fun v h => nomatch h⟩ (by assumption)
      · walk_at "law"
        exact q (.call p es (some v)) _ ⟨hp, by omega, hy, fun w h => by cases h; exact hv⟩ (by assumption)
    · rintro k acc e hk ⟨src, es, hs, rfl, hl, hy, rfl⟩
      walk_at "law"
      rename_i r src1 hs1 hr0 hr1
      obtain ⟨d, rfl⟩ := Int.eq_ofNat_of_zero_le hr0
      refine x_grown 6 d (by omega) (by omega) (by assumption) fun e src' h1 h2 h3 h4 => ?_
      walk_at "law"
      refine acc_q (by rw [List.length_map]; omega) (by walk_at "at") ⟨_, es ++ [e], h4, by simp, by simp [hl], ?_, rfl⟩
      intro y hy'
      rcases List.mem_append.mp hy' with h | h
      · exact hy y h
      · rw [List.mem_singleton.mp h]; exact grown_ok h1 h2 h3 (by omega)
  · walk_at "law"
    · exact q .back _ trivial (by assumption)
    · rename_i e _ he hs
      exact q (.val .back e) _ he hs
  · walk_at "law"
    rename_i e _ he hs
    exact q (.val .tell e) _ he hs
  · walk_at "law"
    rename_i e _ he hs
    exact q (.val .give e) _ he hs
  · walk_at "law"
    rename_i e _ he hs
    exact q (.val .put e) _ he hs
  · walk_at "law"
    rename_i v _ hv hs
    exact q (.take v) _ hv hs
  · walk_at "law"
    rename_i v _ hv hs
    refine (x_stem (most := 10) hs (by decide) fun cs src' hw hs' => ?_ : XF F_stem [.ol _, .shr (.int 10)] _)
    walk_at "law"
    exact q (.hear v (S cs)) _ ⟨hv, cs, rfl, hw⟩ hs'
  · walk_at "law"
    exact q .rem _ trivial (by assumption)
/-! ### tokened -/
def agI : List (B × Int) → Nat → List (Tk × Option Nat)
  | [], _ => []
  | [(b, _)], c => b.mtk c
  | (b, _) :: x :: r, c => b.mtk c ++ (.cm, none) :: agI (x :: r) (c + b.e.n)
def szB : List (B × Int) → Nat
  | [] => 0
  | (b, _) :: r => b.e.n + szB r
theorem szB_snoc (b : B) (d : Int) : ∀ dn : List (B × Int), szB (dn ++ [(b, d)]) = szB dn + b.e.n
  | [] => by simp [szB]
  | (a, _) :: r => by rw [List.cons_append, szB, szB, szB_snoc b d r, Nat.add_assoc]
theorem agI_snoc (b : B) (d : Int) : ∀ (dn : List (B × Int)) (c : Nat), agI (dn ++ [(b, d)]) c = agI dn c ++ (if dn = [] then [] else [(.cm, none)]) ++ b.mtk (c + szB dn)
  | [], c => rfl
  | [(a, _)], c => by
    show a.mtk c ++ (Tk.cm, none) :: b.mtk (c + a.e.n) = _
    rw [if_neg (by simp), agI, szB, szB, List.append_assoc]; rfl
  | (a, d0) :: x :: r, c => by
    show a.mtk c ++ (Tk.cm, none) :: agI (x :: r ++ [(b, d)]) (c + a.e.n) = _
    rw [agI_snoc b d (x :: r), if_neg (by simp), if_neg (by simp), agI, show szB ((a, d0) :: x :: r) = a.e.n + szB (x :: r) from rfl, ← Nat.add_assoc]
    simp only [List.append_assoc, List.cons_append]
def sfM : Option (Int × Int × Str) → List (Tk × Option Nat)
  | none => []
  | some (_, _, v) => [(.name "as", none), (.name v, none)]
def Lc.mtk : Lc → List (Tk × Option Nat)
  | .rem => [] | .back => [] | .take _ v => [(.name v, some 0)] | .hear _ _ _ v t => [(.name v, some 0), (.op .eq, none), (.name t, none)]
  | .go1 _ n => [(.num n, some 0)] | .go _ _ n b => (.num n, some b.e.n) :: (.name "if", none) :: b.mtk 0
  | .set _ _ v b => (.name v, some b.e.n) :: (.op .eq, none) :: b.mtk 0 | .val _ b => b.mtk 0
  | .call _ _ _ bs sf => (.lp, none) :: (agI bs 0 ++ ((.rp, none) :: sfM sf))
def bOk (b : B) : Prop := b.wf ∧ b.tks.length ≤ 5 * b.e.n
def Lc.wf : Lc → Prop
  | .go _ _ _ b => bOk b | .set _ _ _ b => bOk b | .val _ b => bOk b | .call _ _ _ bs _ => ∀ q ∈ bs, bOk q.1
  | _ => True
theorem tks_pos (b : B) : 0 < b.tks.length := by cases b <;> simp only [B.tks, List.length_append, List.length_cons, List.length_nil] <;> omega
theorem noD {e : E} {Q : O → Prop} (q : Q (.shr (.bl true))) : XO (oNotN (.shr (toD e)) (.shr .non)) Q := by cases e <;> exact noN0 q
theorem isD' {e : E} {Q : O → Prop} (q : Q (.shr (.bl false))) : XO (oIsN (.shr (toD e)) (.shr .non)) Q := by cases e <;> exact isN0 q
theorem mD_gt {b : B} {c : Nat} : decide ((0 : Int) < (((b.mtk c).map mD).length : Nat)) = true := decide_eq_true (by have := tks_pos b; have := mtk_len b c; rw [List.length_map]; omega)
theorem szB_nL : ∀ dn : List (B × Int), nL (dn.map fun q => q.1.e) = szB dn
  | [] => rfl
  | (a, _) :: r => by rw [List.map_cons, nL, szB, szB_nL r]
theorem nL_le51 : ∀ {es : List E}, (∀ e ∈ es, eOk e) → nL es ≤ 51 * es.length
  | [], _ => Nat.le_refl _
  | e :: r, h => by
    have h1 := (h e (List.mem_cons_self ..)).2.2
    have h2 := nL_le51 fun x hx => h x (List.mem_cons_of_mem _ hx)
    rw [nL, List.length_cons]; omega
theorem nL_le {es : List E} (h : ∀ e ∈ es, eOk e) (h4 : es.length ≤ 4) : nL es ≤ 51 * 4 := by
  have := nL_le51 h
  omega
theorem agI_len : ∀ (dn : List (B × Int)) (c : Nat), (∀ q ∈ dn, bOk q.1) → (agI dn c).length ≤ 6 * szB dn
  | [], c, _ => Nat.zero_le _
  | [(b, _)], c, h => by
    have := (h _ (List.mem_cons_self ..)).2
    rw [agI, mtk_len, szB, szB]
    have : b.tks.length ≤ 5 * b.e.n := this
    omega
  | (b, _) :: x :: r, c, h => by
    have h1 : b.tks.length ≤ 5 * b.e.n := (h _ (List.mem_cons_self ..)).2
    have h2 := agI_len (x :: r) (c + b.e.n) fun q hq => h q (List.mem_cons_of_mem _ hq)
    have h3 := tks_pos b
    rw [agI, List.length_append, List.length_cons, mtk_len, szB]
    omega
theorem agI_pos : ∀ {dn : List (B × Int)} {c : Nat}, dn ≠ [] → 0 < (agI dn c).length
  | [(b, _)], c, _ => by rw [agI, mtk_len]; exact tks_pos b
  | (b, _) :: x :: r, c, _ => by rw [agI, List.length_append, List.length_cons]; omega
local macro_rules | `(tactic| walk_at "law") => `(tactic| repeat' (first | walk_at "1" | ((with_reducible refine lend_ok ?_ ?_); (focus rfl)) | ((with_reducible apply wbx); (focus (walk_at "wb"; done)); (focus rfl)) | walk_at "tf" | walk_at "isi" | with_reducible refine ixT3 ?_ | with_reducible refine noD ?_ | with_reducible refine in_T (by decide +kernel) ?_ | with_reducible refine in_F (by decide +kernel) ?_ | with_reducible refine tf_T mD_gt ?_ | with_reducible refine num_str (by assumption) ?_))
theorem x_tokened (f : Fm) (hf : f.ok) {src : List D} (hs : Src3 src) {Q : Rs → List O → Prop} (q : ∀ (lc : Lc) src' (m : Int), lc.fm = f → lc.wf → m = ((nL f.exps + 1 : Nat) : Int) → Src3 src' → Q (.o (.shr (.tup [.lst (lc.mtk.map mD), .int m]))) [.ol src', .shr f.tree]) :
    XF F_tokened [.ol src, .shr f.tree] Q := by
  refine xf' rfl (by walk_at "at") ?_
  unfold f_tokened
  cases f with
  | rem =>
    simp only [Fm.tree] at q ⊢
    walk_at "law"
    exact q .rem _ _ rfl trivial rfl hs
  | back =>
    simp only [Fm.tree] at q ⊢
    walk_at "law"
    exact q .back _ _ rfl trivial rfl hs
  | take v =>
    simp only [Fm.tree] at q ⊢
    walk_at "law"
    exact q (.take 0 v) _ _ rfl trivial rfl hs
  | hear v t =>
    simp only [Fm.tree] at q ⊢
    walk_at "law"
    exact q (.hear 0 0 0 v t) _ _ rfl trivial rfl hs
  | go1 n =>
    have hn : n < 1000000000000000000000000000000 := by have := hf.2; omega
    simp only [Fm.tree] at q ⊢
    walk_at "law"
    refine xo_addL (by simp) ?_
    walk_at "law"
    refine xo_addL (by simp) ?_
    walk_at "law"
    exact q (.go1 0 n) _ _ rfl trivial rfl hs
  | go n e =>
    have hn : n < 1000000000000000000000000000000 := by have := hf.1.2; omega
    obtain ⟨e1, e2, e3⟩ := hf.2
    simp only [Fm.tree] at q ⊢
    walk_at "law"
    refine (x_spelled 40 e e1 (by omega) (by omega) 0 1 (by omega) hs fun b src' s1 h1 h2 h3 h4 => ?_ : XF (F_spelled 40) [.ol src, .shr (toD e), .shr (.int 1), .ol [.int 0]] _)
    simp only [Nat.zero_add]
    have hm := mtk_len b 0
    walk_at "law"
    refine xo_addL (by simp) ?_
    walk_at "law"
    refine xo_addL (by simp only [List.length_append, List.length_map, List.length_cons, List.length_nil] <;> omega) ?_
    walk_at "law"
    subst h1
    exact q (.go 0 0 n b) _ _ rfl ⟨h2, h4⟩ rfl s1
  | set v e =>
    obtain ⟨e1, e2, e3⟩ := hf.2
    simp only [Fm.tree] at q ⊢
    walk_at "law"
    refine (x_spelled 40 e e1 (by omega) (by omega) 0 1 (by omega) hs fun b src' s1 h1 h2 h3 h4 => ?_ : XF (F_spelled 40) [.ol src, .shr (toD e), .shr (.int 1), .ol [.int 0]] _)
    simp only [Nat.zero_add]
    have hm := mtk_len b 0
    walk_at "law"
    refine xo_addL (by simp only [List.length_append, List.length_map, List.length_cons, List.length_nil] <;> omega) ?_
    walk_at "law"
    subst h1
    exact q (.set 0 0 v b) _ _ rfl ⟨h2, h4⟩ rfl s1
  | val w e =>
    obtain ⟨e1, e2, e3⟩ := hf
    cases w with
    | _ =>
      simp only [Fm.tree, Vw.str] at q ⊢
      walk_at "law"
      refine (x_spelled 40 e e1 (by omega) (by omega) 0 1 (by omega) hs fun b src' s1 h1 h2 h3 h4 => ?_ : XF (F_spelled 40) [.ol src, .shr (toD e), .shr (.int 1), .ol [.int 0]] _)
      simp only [Nat.zero_add]
      walk_at "law"
      subst h1
      first
        | exact q (.val .back b) _ _ rfl ⟨h2, h4⟩ rfl s1
        | exact q (.val .tell b) _ _ rfl ⟨h2, h4⟩ rfl s1
        | exact q (.val .give b) _ _ rfl ⟨h2, h4⟩ rfl s1
        | exact q (.val .put b) _ _ rfl ⟨h2, h4⟩ rfl s1
  | call p es sf =>
    obtain ⟨hp, h4, he, hsf⟩ := hf
    have fin : ∀ (dn : List (B × Int)) (src' : List D) (m : Int), (dn.map fun q => q.1.e) = es → (∀ q ∈ dn, bOk q.1) → Src3 src' → m = ((szB dn + 1 : Nat) : Int) →
        Q (.o (.shr (.tup [.lst ((((.lp, none) :: (agI dn 0 ++ ((.rp, none) :: sfM (sf.map fun v => ((0 : Int), (0 : Int), v))))) : List (Tk × Option Nat)).map mD), .int m]))) [.ol src', .shr (Fm.call p es sf).tree] := fun dn src' m h1 h2 h3 h5 => by
      refine q (.call p 0 0 dn (sf.map fun v => ((0 : Int), (0 : Int), v))) src' m ?_ h2 ?_ h3
      · show Fm.call p (dn.map fun q => q.1.e) ((sf.map fun v => ((0 : Int), (0 : Int), v)).map fun q => q.2.2) = _
        rw [h1]
        cases sf <;> rfl
      · show m = ((nL es + 1 : Nat) : Int)
        rw [h5, ← h1, szB_nL]
    simp only [Fm.tree] at fin ⊢
    walk_at "law"
    refine xl_inv' (fun r e => ∃ (es' : List E) (dn : List (B × Int)) (src : List D) (x5 : Option Slot), r = es'.map toD ∧ (dn.map fun q => q.1.e) ++ es' = es ∧ (∀ q ∈ dn, bOk q.1) ∧ Src3 src ∧ Fre' x5 ∧
      e = [some ⟨.ol src, true, false⟩, some ⟨.shr (.tup [.str "call", .str (S p), .lst (es.map toD), nmD sf]), false, false⟩, some ⟨.ol [.int (szB dn : Nat)], false, false⟩, some ⟨.shr (.str "call"), false, false⟩, some ⟨.ol ((agI dn 0).map mD), false, false⟩, x5])
      ⟨es, [], src, none, rfl, rfl, (fun q h => nomatch h), hs, .n, rfl⟩ ?_ ?_
    · rintro e ⟨es', dn, src', x5, h1, h2, h3, h5, f5, rfl⟩
      have : es' = [] := by cases es' with
        | nil => rfl
        | cons a b => cases h1
      subst this
      rw [List.append_nil] at h2
      have hag := agI_len dn 0 h3
      have hsz : szB dn ≤ 51 * 4 := by
        rw [← szB_nL, h2]
        exact nL_le he h4
      have fin := fin dn src' _ h2 h3 h5 rfl
      cases sf with
      | none =>
        simp only [nmD] at fin ⊢
        walk_at "law"
        refine xo_addL (by simp only [List.length_append, List.length_map, List.length_cons, List.length_nil] <;> omega) ?_
        walk_at "law"
        refine xo_addL (by simp only [List.length_append, List.length_map, List.length_cons, List.length_nil] <;> omega) ?_
        walk_at "law"
        refine xo_addL (by simp only [List.length_append, List.length_map, List.length_cons, List.length_nil] <;> omega) ?_
        walk_at "law"
        simpa [sfM, mD, mkD, Tk.word] using fin
      | some v =>
        simp only [nmD] at fin ⊢
        walk_at "law"
        refine xo_addL (by simp only [List.length_append, List.length_map, List.length_cons, List.length_nil] <;> omega) ?_
        walk_at "law"
        refine xo_addL (by simp only [List.length_append, List.length_map, List.length_cons, List.length_nil] <;> omega) ?_
        walk_at "law"
        refine xo_addL (by simp only [List.length_append, List.length_map, List.length_cons, List.length_nil] <;> omega) ?_
        walk_at "law"
        simpa [sfM, mD, mkD, Tk.word] using fin
    · rintro y r e ⟨es', dn, src', x5, h1, h2, h3, h5, f5, rfl⟩
      cases es' with
      | nil => cases h1
      | cons a es' =>
        obtain ⟨rfl, rfl⟩ := List.cons.inj h1
        have hag := agI_len dn 0 h3
        have hle : dn.length + (es'.length + 1) ≤ 4 := by rw [← h2] at h4; simpa using h4
        have hsz : szB dn + nL (a :: es') ≤ 51 * 4 := by
          rw [← szB_nL, ← nL_app, h2]
          exact nL_le he h4
        have hsz' : szB dn + (a.n + nL es') ≤ 51 * 4 := hsz
        obtain ⟨a1, a2, a3⟩ := he a (by rw [← h2]; simp)
        have nx : ∀ (b : B) (src'' : List D) (L : List D) (x5 : Option Slot), Fre' x5 → Src3 src'' → b.e = a → bOk b → L = ((agI dn 0 ++ (if dn = [] then [] else [((Tk.cm, none) : Tk × Option Nat)]) ++ b.mtk (szB dn)).map mD) →
            ∃ (es'' : List E) (dn' : List (B × Int)) (src : List D) (x5' : Option Slot), es'.map toD = es''.map toD ∧ (dn'.map fun q => q.1.e) ++ es'' = es ∧ (∀ q ∈ dn', bOk q.1) ∧ Src3 src ∧ Fre' x5' ∧
              [some ⟨.ol src'', true, false⟩, some ⟨.shr (.tup [.str "call", .str (S p), .lst (es.map toD), nmD sf]), false, false⟩, some ⟨.ol [.int ((szB dn + a.n : Nat) : Int)], false, false⟩, some ⟨.shr (.str "call"), false, false⟩, some ⟨.ol L, false, false⟩, x5] =
              [some ⟨.ol src, true, false⟩, some ⟨.shr (.tup [.str "call", .str (S p), .lst (es.map toD), nmD sf]), false, false⟩, some ⟨.ol [.int (szB dn' : Nat)], false, false⟩, some ⟨.shr (.str "call"), false, false⟩, some ⟨.ol ((agI dn' 0).map mD), false, false⟩, x5'] := by
          rintro b src'' L x5 f5 s1 rfl hb rfl
          refine ⟨es', dn ++ [(b, 0)], src'', x5, rfl, by rw [List.map_append, List.append_assoc]; exact h2, ?_, s1, f5, ?_⟩
          · intro q hq
            rcases List.mem_append.mp hq with h | h
            · exact h3 q h
            · rw [List.mem_singleton.mp h]; exact hb
          · rw [szB_snoc, agI_snoc, Nat.zero_add]
        by_cases hdn : dn = []
        · have hlen : decide ((0 : Int) < (((agI dn 0).map mD).length : Nat)) = false := by subst hdn; rfl
          walk_at "law"
          refine tf_F hlen ?_
          walk_at "law"
          refine xo_addL (by simp only [List.length_append, List.length_map, List.length_cons, List.length_nil] <;> omega) ?_
          walk_at "law"
          refine (x_spelled 40 a a1 (by omega) (by omega) (szB dn) 1 (by omega) h5 fun b src'' s1 b1 b2 b3 b4 => ?_ : XF (F_spelled 40) [.ol src', .shr (toD a), .shr (.int 1), .ol [.int (szB dn : Nat)]] _)
          have hm := mtk_len b (szB dn)
          walk_at "law"
          refine xo_addL (by simp only [List.length_append, List.length_map, List.length_cons, List.length_nil] <;> omega) ?_
          walk_at "law"
          exact nx b src'' _ _ .s s1 b1 ⟨b2, by rw [b1]; exact b4⟩ (by rw [if_pos hdn]; simp)
        · have hlen : decide ((0 : Int) < (((agI dn 0).map mD).length : Nat)) = true := decide_eq_true (by
            have := agI_pos (c := 0) hdn
            rw [List.length_map]; omega)
          walk_at "law"
          refine tf_T hlen ?_
          walk_at "law"
          refine xo_addL (by simp only [List.length_append, List.length_map, List.length_cons, List.length_nil] <;> omega) ?_
          walk_at "law"
          refine (x_spelled 40 a a1 (by omega) (by omega) (szB dn) 1 (by omega) h5 fun b src'' s1 b1 b2 b3 b4 => ?_ : XF (F_spelled 40) [.ol src', .shr (toD a), .shr (.int 1), .ol [.int (szB dn : Nat)]] _)
          have hm := mtk_len b (szB dn)
          walk_at "law"
          refine xo_addL (by simp only [List.length_append, List.length_map, List.length_cons, List.length_nil] <;> omega) ?_
          walk_at "law"
          exact nx b src'' _ _ .s s1 b1 ⟨b2, by rw [b1]; exact b4⟩ (by rw [if_neg hdn]; simp [mD, mkD, Tk.word])
/-! ### columns laid upon a form -/
theorem loc_B : ∀ (b : B) (ts : List LT), ts.map (·.2) = b.tks.map (·.2) → ∃ b' : B, b'.tks = ts ∧ b'.e = b.e ∧ b'.rank = b.rank ∧ (b.wf → b'.wf) ∧ (∀ c, b'.mtk c = b.mtk c)
  | .num c n, ts, h => by
    obtain ⟨⟨c', t⟩, r, rfl, h1, h2⟩ := List.map_eq_cons_iff.mp h
    obtain rfl := List.map_eq_nil_iff.mp h2
    cases h1
    exact ⟨.num c' n, rfl, rfl, rfl, id, fun _ => rfl⟩
  | .nam c s, ts, h => by
    obtain ⟨⟨c', t⟩, r, rfl, h1, h2⟩ := List.map_eq_cons_iff.mp h
    obtain rfl := List.map_eq_nil_iff.mp h2
    cases h1
    exact ⟨.nam c' s, rfl, rfl, rfl, id, fun _ => rfl⟩
  | .neg c b, ts, h => by
    obtain ⟨⟨c', t⟩, r, rfl, h1, h2⟩ := List.map_eq_cons_iff.mp h
    cases h1
    obtain ⟨b', e1, e2, e3, e4, e5⟩ := loc_B b r h2
    exact ⟨.neg c' b', by rw [B.tks, e1], by rw [B.e, B.e, e2], rfl, fun w => ⟨e4 w.1, by rw [e3]; exact w.2⟩, fun c => by rw [B.mtk, B.mtk, e2, e5]⟩
  | .bin o c l r, ts, h => by
    rw [B.tks, List.map_append] at h
    obtain ⟨t1, t2, rfl, h1, h2⟩ := List.map_eq_append_iff.mp h
    obtain ⟨⟨c', t⟩, t3, rfl, h3, h4⟩ := List.map_eq_cons_iff.mp h2
    cases h3
    obtain ⟨l', a1, a2, a3, a4, a5⟩ := loc_B l t1 h1
    obtain ⟨r', b1, b2, b3, b4, b5⟩ := loc_B r t3 h4
    exact ⟨.bin o c' l' r', by rw [B.tks, a1, b1], by rw [B.e, B.e, a2, b2], rfl, fun w => ⟨a4 w.1, b4 w.2.1, by rw [a3]; exact w.2.2.1, by rw [b3]; exact w.2.2.2⟩, fun c => by rw [B.mtk, B.mtk, a2, b2, a5, b5]⟩
  | .par c d b, ts, h => by
    obtain ⟨⟨c', t⟩, r, rfl, h1, h2⟩ := List.map_eq_cons_iff.mp h
    cases h1
    rw [List.map_append] at h2
    obtain ⟨t1, t2, rfl, h3, h4⟩ := List.map_eq_append_iff.mp h2
    obtain ⟨⟨d', t⟩, t3, rfl, h5, h6⟩ := List.map_eq_cons_iff.mp h4
    obtain rfl := List.map_eq_nil_iff.mp h6
    cases h5
    obtain ⟨b', e1, e2, e3, e4, e5⟩ := loc_B b t1 h3
    exact ⟨.par c' d' b', by rw [B.tks, e1], e2, rfl, e4, fun c => by rw [B.mtk, B.mtk, e5]⟩
theorem loc_ok {b b' : B} {ts : List LT} (e1 : b'.tks = ts) (h : ts.map (·.2) = b.tks.map (·.2)) (e2 : b'.e = b.e) (e4 : b.wf → b'.wf) (hb : bOk b) : bOk b' := by
  refine ⟨e4 hb.1, ?_⟩
  have h1 := congrArg List.length h
  rw [List.length_map, List.length_map] at h1
  rw [e1, e2, h1]
  exact hb.2
theorem loc_ag : ∀ (bs : List (B × Int)) (ts : List LT), ts.map (·.2) = (agT bs).map (·.2) → ∃ bs' : List (B × Int), agT bs' = ts ∧ (bs'.map fun q => q.1.e) = (bs.map fun q => q.1.e) ∧ ((∀ q ∈ bs, bOk q.1) → ∀ q ∈ bs', bOk q.1) ∧ (∀ c, agI bs' c = agI bs c) ∧ bs'.length = bs.length
  | [], ts, h => by
    obtain rfl := List.map_eq_nil_iff.mp h
    exact ⟨[], rfl, rfl, id, fun _ => rfl, rfl⟩
  | [(b, d)], ts, h => by
    rw [agT, List.map_append] at h
    obtain ⟨t1, t2, rfl, h1, h2⟩ := List.map_eq_append_iff.mp h
    obtain ⟨⟨d', t⟩, t3, rfl, h5, h6⟩ := List.map_eq_cons_iff.mp h2
    obtain rfl := List.map_eq_nil_iff.mp h6
    cases h5
    obtain ⟨b', e1, e2, e3, e4, e5⟩ := loc_B b t1 h1
    refine ⟨[(b', d')], by rw [agT, e1], by simp [e2], fun hq q hq' => ?_, fun c => e5 c, rfl⟩
    rw [List.mem_singleton.mp hq']
    exact loc_ok e1 h1 e2 e4 (hq _ (List.mem_cons_self ..))
  | (b, d) :: x :: r, ts, h => by
    rw [agT_cons2, List.map_append] at h
    obtain ⟨t1, t2, rfl, h1, h2⟩ := List.map_eq_append_iff.mp h
    obtain ⟨⟨d', t⟩, t3, rfl, h5, h6⟩ := List.map_eq_cons_iff.mp h2
    cases h5
    obtain ⟨b', e1, e2, e3, e4, e5⟩ := loc_B b t1 h1
    obtain ⟨bs', a1, a2, a3, a4, a5⟩ := loc_ag (x :: r) t3 h6
    cases bs' with
    | nil => cases a5
    | cons y r' =>
      refine ⟨(b', d') :: y :: r', by rw [agT_cons2, e1, a1], by show b'.e :: List.map (fun q => q.1.e) (y :: r') = b.e :: List.map (fun q => q.1.e) (x :: r); rw [a2, e2], fun hq q hq' => ?_, fun c => by show b'.mtk c ++ _ :: agI (y :: r') _ = b.mtk c ++ _ :: agI (x :: r) _; rw [e5, a4, e2], by rw [List.length_cons, a5]; rfl⟩
      rcases List.mem_cons.mp hq' with rfl | hq'
      · exact loc_ok e1 h1 e2 e4 (hq _ (List.mem_cons_self ..))
      · exact a3 (fun z hz => hq z (List.mem_cons_of_mem _ hz)) q hq'
theorem loc_ag0 (bs : List (B × Int)) (d : Int) (ts : List LT) (h : ts.map (·.2) = (agT0 bs d).map (·.2)) : ∃ (bs' : List (B × Int)) (d' : Int), agT0 bs' d' = ts ∧ (bs'.map fun q => q.1.e) = (bs.map fun q => q.1.e) ∧ ((∀ q ∈ bs, bOk q.1) → ∀ q ∈ bs', bOk q.1) ∧ (∀ c, agI bs' c = agI bs c) := by
  cases bs with
  | nil =>
    obtain ⟨⟨d', t⟩, t3, rfl, h5, h6⟩ := List.map_eq_cons_iff.mp h
    obtain rfl := List.map_eq_nil_iff.mp h6
    cases h5
    exact ⟨[], d', rfl, rfl, id, fun _ => rfl⟩
  | cons x r =>
    obtain ⟨bs', a1, a2, a3, a4, a5⟩ := loc_ag (x :: r) ts h
    cases bs' with
    | nil => cases a5
    | cons y r' => exact ⟨y :: r', 0, a1, a2, a3, a4⟩
theorem agT_map : ∀ (bs : List (B × Int)) (d : Int) (c : Nat), (agT0 bs d).map (·.2) = (agI bs c ++ [((Tk.rp, none) : Tk × Option Nat)]).map (·.1)
  | [], d, c => rfl
  | [(b, d')], d, c => by
    show (b.tks ++ [((d', Tk.rp) : LT)]).map (·.2) = (b.mtk c ++ [((Tk.rp, none) : Tk × Option Nat)]).map (·.1)
    rw [List.map_append, List.map_append, mtk_tks]; rfl
  | (b, d') :: x :: r, d, c => by
    show (b.tks ++ ((d', Tk.cm) : LT) :: agT0 (x :: r) d).map (·.2) = (b.mtk c ++ ((Tk.cm, none) : Tk × Option Nat) :: agI (x :: r) (c + b.e.n) ++ [((Tk.rp, none) : Tk × Option Nat)]).map (·.1)
    have := agT_map (x :: r) d (c + b.e.n)
    rw [List.map_append, List.map_cons, this]
    simp [mtk_tks]
theorem mtk_toks (lc : Lc) : lc.mtk.map (·.1) = lc.toks.map (·.2) := by
  cases lc with
  | go c c1 n b => show _ :: _ :: _ = _ :: _ :: _; rw [mtk_tks]
  | set c c1 n b => show _ :: _ :: _ = _ :: _ :: _; rw [mtk_tks]
  | val w b => exact mtk_tks b 0
  | call p c0 d bs sf =>
    show ((Tk.lp, none) :: (agI bs 0 ++ ((.rp, none) :: sfM sf))).map (·.1) = ((c0, Tk.lp) :: (agT0 bs d ++ sufT sf)).map (·.2)
    have : (sufT sf).map (·.2) = (sfM sf).map (·.1) := by cases sf <;> rfl
    have h1 := agT_map bs d 0
    rw [List.map_cons, List.map_cons, List.map_append (l₁ := agT0 bs d), h1, this]
    simp
  | _ => rfl
def Lc.d0 : Lc → Int × Int
  | .call p _ _ _ _ => (6, ((5 + p.length : Nat) : Int))
  | lc => (1, (lc.pre.length : Nat))
theorem loc_Lc (lc : Lc) (ts : List LT) (h : ts.map (·.2) = lc.mtk.map (·.1)) : ∃ lc' : Lc, lc'.toks = ts ∧ lc'.fm = lc.fm ∧ lc'.mtk = lc.mtk ∧ (lc.wf → lc'.wf) ∧ lc'.pre = lc.pre ∧ lc'.after = lc.after ∧ lc'.d0 = lc.d0 := by
  rw [mtk_toks] at h
  cases lc with
  | rem =>
    obtain rfl := List.map_eq_nil_iff.mp h
    exact ⟨.rem, rfl, rfl, rfl, id, rfl, rfl, rfl⟩
  | back =>
    obtain rfl := List.map_eq_nil_iff.mp h
    exact ⟨.back, rfl, rfl, rfl, id, rfl, rfl, rfl⟩
  | take c v =>
    obtain ⟨⟨c', t⟩, r, rfl, h1, h2⟩ := List.map_eq_cons_iff.mp h
    obtain rfl := List.map_eq_nil_iff.mp h2
    cases h1
    exact ⟨.take c' v, rfl, rfl, rfl, id, rfl, rfl, rfl⟩
  | hear c c1 c2 v t =>
    obtain ⟨⟨c', t'⟩, r, rfl, h1, h2⟩ := List.map_eq_cons_iff.mp h
    obtain ⟨⟨c1', t'⟩, r, rfl, h3, h4⟩ := List.map_eq_cons_iff.mp h2
    obtain ⟨⟨c2', t'⟩, r, rfl, h5, h6⟩ := List.map_eq_cons_iff.mp h4
    obtain rfl := List.map_eq_nil_iff.mp h6
    cases h1; cases h3; cases h5
    exact ⟨.hear c' c1' c2' v t, rfl, rfl, rfl, id, rfl, rfl, rfl⟩
  | go1 c n =>
    obtain ⟨⟨c', t⟩, r, rfl, h1, h2⟩ := List.map_eq_cons_iff.mp h
    obtain rfl := List.map_eq_nil_iff.mp h2
    cases h1
    exact ⟨.go1 c' n, rfl, rfl, rfl, id, rfl, rfl, rfl⟩
  | go c c1 n b =>
    obtain ⟨⟨c', t'⟩, r, rfl, h1, h2⟩ := List.map_eq_cons_iff.mp h
    obtain ⟨⟨c1', t'⟩, r, rfl, h3, h4⟩ := List.map_eq_cons_iff.mp h2
    cases h1; cases h3
    obtain ⟨b', e1, e2, e3, e4, e5⟩ := loc_B b r h4
    exact ⟨.go c' c1' n b', by simp only [Lc.toks]; rw [e1], by simp only [Lc.fm]; rw [e2], by simp only [Lc.mtk]; rw [e2, e5], loc_ok e1 h4 e2 e4, rfl, rfl, rfl⟩
  | set c c1 n b =>
    obtain ⟨⟨c', t'⟩, r, rfl, h1, h2⟩ := List.map_eq_cons_iff.mp h
    obtain ⟨⟨c1', t'⟩, r, rfl, h3, h4⟩ := List.map_eq_cons_iff.mp h2
    cases h1; cases h3
    obtain ⟨b', e1, e2, e3, e4, e5⟩ := loc_B b r h4
    exact ⟨.set c' c1' n b', by simp only [Lc.toks]; rw [e1], by simp only [Lc.fm]; rw [e2], by simp only [Lc.mtk]; rw [e2, e5], loc_ok e1 h4 e2 e4, rfl, rfl, rfl⟩
  | val w b =>
    obtain ⟨b', e1, e2, e3, e4, e5⟩ := loc_B b ts h
    exact ⟨.val w b', e1, by simp only [Lc.fm]; rw [e2], by simp only [Lc.mtk]; rw [e5], loc_ok e1 h e2 e4, rfl, rfl, rfl⟩
  | call p c0 d bs sf =>
    obtain ⟨⟨c', t'⟩, r, rfl, h1, h2⟩ := List.map_eq_cons_iff.mp h
    cases h1
    rw [List.map_append] at h2
    obtain ⟨t1, t2, rfl, h3, h4⟩ := List.map_eq_append_iff.mp h2
    obtain ⟨bs', d', a1, a2, a3, a4⟩ := loc_ag0 bs d t1 h3
    cases sf with
    | none =>
      obtain rfl := List.map_eq_nil_iff.mp h4
      exact ⟨.call p c' d' bs' none, by simp only [Lc.toks]; rw [a1]; rfl, by simp only [Lc.fm]; rw [a2], by simp only [Lc.mtk]; rw [a4], a3, rfl, rfl, rfl⟩
    | some z =>
      obtain ⟨c1, c2, v⟩ := z
      obtain ⟨⟨x1, t'⟩, r, rfl, h5, h6⟩ := List.map_eq_cons_iff.mp h4
      obtain ⟨⟨x2, t'⟩, r, rfl, h7, h8⟩ := List.map_eq_cons_iff.mp h6
      obtain rfl := List.map_eq_nil_iff.mp h8
      cases h5; cases h7
      exact ⟨.call p c' d' bs' (some (x1, x2, v)), by simp only [Lc.toks]; rw [a1]; rfl, by simp only [Lc.fm]; rw [a2]; rfl, by simp only [Lc.mtk]; rw [a4]; rfl, a3, rfl, rfl, rfl⟩
/-! the places, set one by one -/
def stp (P : List (Int × Int)) (x : LT × Option Nat) : List (Int × Int) := match x.2 with
  | none => P
  | some m => P.set m (x.1.1, x.1.1 + (x.1.2.word.length : Int) - 1)
theorem set_mid {α : Type} {X Z : List α} {m p : α} {k : Nat} (h : X.length = k) : (X ++ m :: Z).set k p = X ++ p :: Z := by
  subst h
  rw [List.set_append_right _ _ (Nat.le_refl _), Nat.sub_self]; rfl
theorem its_n : ∀ b : B, b.its.length = b.e.n
  | .num _ _ => rfl
  | .nam _ _ => rfl
  | .neg c b => by rw [B.its, List.length_append, its_n b]; rfl
  | .bin o c l r => by rw [B.its, List.length_append, List.length_append, its_n l, its_n r]; rfl
  | .par _ _ b => by rw [B.its, its_n b]; rfl
theorem plp_n (b : B) : b.plp.length = b.e.n := by rw [B.plp, List.length_map, its_n]
theorem op_len (o : Op) : o.str.length = 1 := by cases o <;> decide +kernel
theorem last_of {α : Type} {n : Nat} {M : List α} (h : M.length = n + 1) : ∃ M' m, M = M' ++ [m] ∧ M'.length = n := by
  have hne : M ≠ [] := by intro z; rw [z] at h; cases h
  exact ⟨M.dropLast, M.getLast hne, (List.dropLast_concat_getLast hne).symm, by rw [List.length_dropLast, h]; rfl⟩
theorem fold_B : ∀ (b : B) (c : Nat) (A M Z : List (Int × Int)), A.length = c → M.length = b.e.n → List.foldl stp (A ++ M ++ Z) (b.tks.zip ((b.mtk c).map (·.2))) = A ++ b.plp ++ Z
  | .num c' n, c, A, M, Z, hA, hM => by
    obtain ⟨M', m, rfl, h2⟩ := last_of (n := 0) hM
    obtain rfl := List.length_eq_zero_iff.mp h2
    show (A ++ ([] ++ [m]) ++ Z).set c (c', c' + ((Tk.num n).word.length : Int) - 1) = _
    rw [List.nil_append, List.append_assoc, List.singleton_append, set_mid hA, List.append_assoc]; rfl
  | .nam c' s, c, A, M, Z, hA, hM => by
    obtain ⟨M', m, rfl, h2⟩ := last_of (n := 0) hM
    obtain rfl := List.length_eq_zero_iff.mp h2
    show (A ++ ([] ++ [m]) ++ Z).set c (c', c' + ((Tk.name s).word.length : Int) - 1) = _
    rw [List.nil_append, List.append_assoc, List.singleton_append, set_mid hA, List.append_assoc]; rfl
  | .neg c' b, c, A, M, Z, hA, hM => by
    obtain ⟨M', m, rfl, h2⟩ := last_of (n := b.e.n) hM
    have e : c' + ((Tk.op .sub).word.length : Int) - 1 = c' := by rw [show (Tk.op .sub).word = Op.sub.str from rfl, op_len]; omega
    show List.foldl stp ((A ++ (M' ++ [m]) ++ Z).set (c + b.e.n) (c', c' + ((Tk.op .sub).word.length : Int) - 1)) (b.tks.zip ((b.mtk c).map (·.2))) = _
    rw [e, ← List.append_assoc, List.append_assoc (A ++ M'), List.singleton_append, set_mid (by rw [List.length_append]; omega), fold_B b c A M' _ hA h2]
    simp only [B.plp, B.its, List.map_append, List.append_assoc]; rfl
  | .bin o c' l r, c, A, M, Z, hA, hM => by
    obtain ⟨M0, m, rfl, h2⟩ := last_of (n := l.e.n + r.e.n) hM
    have e : c' + ((Tk.op o).word.length : Int) - 1 = c' := by rw [show (Tk.op o).word = o.str from rfl, op_len]; omega
    obtain ⟨Ml, Mr, rfl, g1, g2⟩ : ∃ Ml Mr, M0 = Ml ++ Mr ∧ Ml.length = l.e.n ∧ Mr.length = r.e.n := ⟨M0.take l.e.n, M0.drop l.e.n, (List.take_append_drop ..).symm, by rw [List.length_take]; omega, by rw [List.length_drop]; omega⟩
    have hz : (B.bin o c' l r).tks.zip (((B.bin o c' l r).mtk c).map (·.2)) = l.tks.zip ((l.mtk c).map (·.2)) ++ (((c', Tk.op o), some (c + l.e.n + r.e.n)) :: r.tks.zip ((r.mtk (c + l.e.n)).map (·.2))) := by
      rw [B.tks, B.mtk, List.map_append, List.map_append, List.append_assoc, List.zip_append (by rw [List.length_map, mtk_len])]; rfl
    rw [hz, List.foldl_append, show A ++ (Ml ++ Mr ++ [m]) ++ Z = A ++ Ml ++ (Mr ++ m :: Z) from by simp, fold_B l c A Ml _ hA g1, List.foldl_cons]
    show List.foldl stp ((A ++ l.plp ++ (Mr ++ m :: Z)).set (c + l.e.n + r.e.n) (c', c' + ((Tk.op o).word.length : Int) - 1)) _ = _
    have pl := plp_n l
    rw [e, ← List.append_assoc, set_mid (by rw [List.length_append, List.length_append]; omega), fold_B r (c + l.e.n) (A ++ l.plp) Mr _ (by rw [List.length_append]; omega) g2]
    simp only [B.plp, B.its, List.map_append, List.append_assoc]; rfl
  | .par c' d b, c, A, M, Z, hA, hM => by
    have hz : (B.par c' d b).tks.zip (((B.par c' d b).mtk c).map (·.2)) = ((c', Tk.lp), none) :: (b.tks.zip ((b.mtk c).map (·.2)) ++ [((d, Tk.rp), none)]) := by
      rw [B.tks, B.mtk, List.map_cons, List.map_append, List.zip_cons_cons, List.zip_append (by rw [List.length_map, mtk_len])]; rfl
    rw [hz, List.foldl_cons]
    show List.foldl stp (A ++ M ++ Z) _ = _
    rw [List.foldl_append, fold_B b c A M Z hA hM]; rfl
def szP (bs : List (B × Int)) : List (Int × Int) := bs.flatMap fun q => q.1.plp
theorem szP_len : ∀ bs : List (B × Int), (szP bs).length = szB bs
  | [] => rfl
  | (b, _) :: r => by
    show (b.plp ++ szP r).length = b.e.n + szB r
    rw [List.length_append, plp_n, szP_len r]
theorem fold_ag : ∀ (bs : List (B × Int)) (d : Int) (c : Nat) (A M Z : List (Int × Int)) (X : List (LT × Option Nat)), A.length = c → M.length = szB bs → List.foldl stp (A ++ M ++ Z) ((agT0 bs d).zip ((agI bs c).map (·.2) ++ [none]) ++ X) = List.foldl stp (A ++ szP bs ++ Z) X
  | [], d, c, A, M, Z, X, hA, hM => by
    obtain rfl := List.length_eq_zero_iff.mp hM
    rfl
  | [(b, d')], d, c, A, M, Z, X, hA, hM => by
    have hz : (agT0 [(b, d')] d).zip ((agI [(b, d')] c).map (·.2) ++ [none]) = b.tks.zip ((b.mtk c).map (·.2)) ++ [((d', Tk.rp), none)] := by
      show (b.tks ++ [((d', Tk.rp) : LT)]).zip ((b.mtk c).map (·.2) ++ [none]) = _
      rw [List.zip_append (by rw [List.length_map, mtk_len])]; rfl
    rw [hz, List.append_assoc (b.tks.zip _), List.foldl_append, fold_B b c A M Z hA (by simpa [szB] using hM)]
    show List.foldl stp (A ++ b.plp ++ Z) X = _
    simp [szP]
  | (b, d') :: x :: r, d, c, A, M, Z, X, hA, hM => by
    have hz : (agT0 ((b, d') :: x :: r) d).zip ((agI ((b, d') :: x :: r) c).map (·.2) ++ [none]) = b.tks.zip ((b.mtk c).map (·.2)) ++ (((d', Tk.cm), none) :: (agT0 (x :: r) d).zip ((agI (x :: r) (c + b.e.n)).map (·.2) ++ [none])) := by
      show (b.tks ++ ((d', Tk.cm) : LT) :: agT0 (x :: r) d).zip ((b.mtk c ++ ((Tk.cm, none) : Tk × Option Nat) :: agI (x :: r) (c + b.e.n)).map (·.2) ++ [none]) = _
      rw [List.map_append, List.append_assoc, List.zip_append (by rw [List.length_map, mtk_len])]; rfl
    have hM' : M.length = b.e.n + szB (x :: r) := hM
    obtain ⟨Ml, Mr, rfl, g1, g2⟩ : ∃ Ml Mr, M = Ml ++ Mr ∧ Ml.length = b.e.n ∧ Mr.length = szB (x :: r) := ⟨M.take b.e.n, M.drop b.e.n, (List.take_append_drop ..).symm, by rw [List.length_take]; omega, by rw [List.length_drop]; omega⟩
    have pl := plp_n b
    rw [hz, List.append_assoc (b.tks.zip _), List.foldl_append, show A ++ (Ml ++ Mr) ++ Z = A ++ Ml ++ (Mr ++ Z) from by simp, fold_B b c A Ml _ hA g1, List.cons_append, List.foldl_cons]
    show List.foldl stp (A ++ b.plp ++ (Mr ++ Z)) _ = _
    rw [← List.append_assoc, fold_ag (x :: r) d (c + b.e.n) (A ++ b.plp) Mr Z X (by rw [List.length_append]; omega) g2]
    rw [show szP ((b, d') :: x :: r) = b.plp ++ szP (x :: r) from rfl]
    simp only [List.append_assoc]
theorem fold_Lc (lc : Lc) : List.foldl stp (List.replicate (nL lc.fm.exps + 1) lc.d0) (lc.toks.zip (lc.mtk.map (·.2))) = lc.plp := by
  have rep : ∀ (n : Nat) (x : Int × Int), List.replicate (n + 1) x = [] ++ List.replicate n x ++ [x] := fun n x => by rw [List.nil_append, List.replicate_succ']
  have set_last : ∀ (n : Nat) (x p : Int × Int), (List.replicate (n + 1) x).set n p = [] ++ List.replicate n x ++ [p] := fun n x p => by rw [List.replicate_succ', set_mid List.length_replicate]; rfl
  cases lc with
  | rem => rfl
  | back => rfl
  | take c v => rfl
  | hear c c1 c2 v t => rfl
  | go1 c n => rfl
  | go c c1 n b =>
    show List.foldl stp ((List.replicate (b.e.n + 0 + 1) _).set b.e.n (c, c + ((Tk.num n).word.length : Int) - 1)) (b.tks.zip ((b.mtk 0).map (·.2))) = _
    rw [Nat.add_zero, set_last, fold_B b 0 [] _ _ rfl List.length_replicate]; rfl
  | set c c1 v b =>
    show List.foldl stp ((List.replicate (b.e.n + 0 + 1) _).set b.e.n (c, c + ((Tk.name v).word.length : Int) - 1)) (b.tks.zip ((b.mtk 0).map (·.2))) = _
    rw [Nat.add_zero, set_last, fold_B b 0 [] _ _ rfl List.length_replicate]; rfl
  | val w b =>
    show List.foldl stp (List.replicate (b.e.n + 0 + 1) _) (b.tks.zip ((b.mtk 0).map (·.2))) = _
    rw [Nat.add_zero, rep, fold_B b 0 [] _ _ rfl List.length_replicate]; rfl
  | call p c0 d bs sf =>
    show List.foldl stp (List.replicate (nL (bs.map fun q => q.1.e) + 1) _) ((agT0 bs d ++ sufT sf).zip ((agI bs 0 ++ (((Tk.rp, none) : Tk × Option Nat) :: sfM sf)).map (·.2))) = szP bs ++ _
    have hl : (agT0 bs d).length = ((agI bs 0).map (fun x : Tk × Option Nat => x.2) ++ [none]).length := by
      have := congrArg List.length (agT_map bs d 0)
      simpa using this
    have hs : ∀ P : List (Int × Int), List.foldl stp P ((sufT sf).zip ((sfM sf).map (fun x : Tk × Option Nat => x.2))) = P := fun P => by cases sf <;> rfl
    have hm : (agI bs 0 ++ (((Tk.rp, none) : Tk × Option Nat) :: sfM sf)).map (fun x : Tk × Option Nat => x.2) = ((agI bs 0).map (fun x : Tk × Option Nat => x.2) ++ [none]) ++ (sfM sf).map (fun x : Tk × Option Nat => x.2) := by simp
    rw [szB_nL, rep, hm, List.zip_append hl, fold_ag bs d 0 [] _ _ _ rfl List.length_replicate, hs]
    rfl
/-! ### the words of a form, by the law -/
theorem nine (o : Op) : ∃ k : Nat, (∃ r, Builtin.Str.occurrences (Str.ofString "+-*/<=>") o.str 0 (Str.ofString "+-*/<=>").length 1 = k :: r) ∧ atI [D.str "add", .str "sub", .str "mul", .str "div", .str "less", .str "same", .str "more"] (k : Int) = some (.str o.nam) := by
  cases o
  · exact ⟨0, ⟨[], by decide +kernel⟩, rfl⟩
  · exact ⟨1, ⟨[], by decide +kernel⟩, rfl⟩
  · exact ⟨2, ⟨[], by decide +kernel⟩, rfl⟩
  · exact ⟨3, ⟨[], by decide +kernel⟩, rfl⟩
  · exact ⟨4, ⟨[], by decide +kernel⟩, rfl⟩
  · exact ⟨5, ⟨[], by decide +kernel⟩, rfl⟩
  · exact ⟨6, ⟨[], by decide +kernel⟩, rfl⟩
theorem xas_ {s : Str} {Q : Str → Prop} (q : Q s) : XO (asS (.shr (.str s))) Q := ⟨_, rfl, q⟩
local macro_rules | `(tactic| walk_at "law") => `(tactic| repeat' (first | walk_at "1" | with_reducible refine xe_frz ?_ | ((with_reducible refine lend_ok ?_ ?_); (focus rfl)) | ((with_reducible apply wbx); (focus (walk_at "wb"; done)); (focus rfl)) | walk_at "tf" | walk_at "isi" | with_reducible refine ixT3 ?_ | with_reducible refine isD' ?_ | (with_reducible apply tf_F; (focus (exact decide_eq_false (op_no _).1))) | (with_reducible apply tf_F; (focus (exact decide_eq_false (op_no _).2.1))) | (with_reducible apply tf_F; (focus (exact decide_eq_false (op_no _).2.2)))))
theorem xo_addSh {ds es : List D} {Q : O → Prop} (h : ds.length + es.length ≤ 1000000) (q : Q (.ol (ds ++ es))) : XO (oAdd (.shr (.lst ds)) (.ol es)) Q := ⟨_, by simp only [oAdd, oAddI, oI2, asI, oAddS, asS, oAddL, asL, Option.bind_some, Option.bind_none, Option.none_or, if_pos h, Option.some_or], q⟩
theorem x_ops : ∀ (d : Nat) (e : E), e.dep < d → ∀ {F : List D}, F.length + e.n ≤ 80000 → ∀ {Q : Rs → List O → Prop}, (∀ F', Q (.o (.ol (F ++ (ops e).map opD))) [.shr (toD e), F']) → XF (F_ops d) [.shr (toD e), .shr (.lst F)] Q
  | 0, e, h, _, _, _, _ => by omega
  | d + 1, e, h, F, hl, Q, q => by
    refine xf' rfl (by walk_at "at") ?_
    unfold f_ops
    cases e with
    | num n =>
      simp only [toD, E.n] at q hl ⊢
      walk_at "law"
      refine xo_addSh (by simp only [List.length_cons, List.length_nil]; omega) ?_
      walk_at "law"
      exact q _
    | nam s =>
      simp only [toD, E.n] at q hl ⊢
      walk_at "law"
      refine xo_addSh (by simp only [List.length_cons, List.length_nil]; omega) ?_
      walk_at "law"
      exact q _
    | neg e =>
      simp only [toD, E.n, E.dep] at q hl h ⊢
      have hol := ops_len e
      rw [ops, List.map_append, ← List.append_assoc] at q
      walk_at "law"
      refine x_ops d e (by omega) (by omega) fun F1 => ?_
      walk_at "law"
      refine xo_addL (by simp only [List.length_append, List.length_map, List.length_cons, List.length_nil]; omega) ?_
      walk_at "law"
      exact q _
    | bin o l r =>
      simp only [toD, E.n, E.dep] at q hl h ⊢
      have hol := ops_len l
      have hor := ops_len r
      rw [ops, List.map_append, List.map_append, ← List.append_assoc, ← List.append_assoc] at q
      obtain ⟨k, ⟨kr, hk⟩, ha⟩ := nine o
      walk_at "law"
      refine x_ops d l (by omega) (by omega) fun F1 => ?_
      walk_at "law"
      refine x_ops d r (by omega) (by rw [List.length_append, List.length_map]; omega) fun F2 => ?_
      walk_at "law"
      refine xo_sidx hk ?_
      walk_at "law"
      refine xo_addL (by simp only [List.length_append, List.length_map, List.length_cons, List.length_nil]; omega) ?_
      walk_at "law"
      exact q _
theorem x_words (f : Fm) (hn : nL f.exps ≤ 70000) (hd : ∀ e ∈ f.exps, e.dep < 40) (hc : f.exps.length ≤ 1000) {Q : Rs → List O → Prop} (q : Q (.o (.ol (f.words.map opD))) [.shr f.tree]) : XF F_words [.shr f.tree] Q := by
  refine xf' rfl (by walk_at "at") ?_
  unfold f_words
  rw [words_eq, List.map_append] at q
  have one : ∀ e : E, opsL [e] = ops e := fun e => by simp [opsL]
  cases f with
  | go n e =>
    simp only [Fm.tree, Fm.exps, one] at q hn hd ⊢
    have hol := ops_len e
    have hn : e.n ≤ 70000 := by simpa [nL] using hn
    walk_at "law"
    refine x_ops 40 e (hd e (by simp)) (by rw [List.length_nil]; omega) fun F1 => ?_
    walk_at "law"
    refine xo_addL (by simp only [List.length_append, List.length_map, List.length_cons, List.length_nil]; omega) ?_
    walk_at "law"
    exact q
  | set v e =>
    simp only [Fm.tree, Fm.exps, one] at q hn hd ⊢
    have hol := ops_len e
    have hn : e.n ≤ 70000 := by simpa [nL] using hn
    walk_at "law"
    refine x_ops 40 e (hd e (by simp)) (by rw [List.length_nil]; omega) fun F1 => ?_
    walk_at "law"
    refine xo_addL (by simp only [List.length_append, List.length_map, List.length_cons, List.length_nil]; omega) ?_
    walk_at "law"
    exact q
  | val w e =>
    have hol := ops_len e
    cases w with
    | _ =>
      simp only [Fm.tree, Fm.exps, one, Vw.str] at q hn hd ⊢
      have hn : e.n ≤ 70000 := by simpa [nL] using hn
      walk_at "law"
      refine x_ops 40 e (hd e (by simp)) (by rw [List.length_nil]; omega) fun F1 => ?_
      walk_at "law"
      refine xo_addL (by simp only [List.length_append, List.length_map, List.length_cons, List.length_nil]; omega) ?_
      walk_at "law"
      exact q
  | call p es sf =>
    simp only [Fm.tree, Fm.exps] at q hn hd hc ⊢
    walk_at "law"
    refine xl_inv' (fun r e => ∃ (es' dn : List E) (x3 : Option Slot), r = es'.map toD ∧ dn ++ es' = es ∧ Fre' x3 ∧
      e = [some ⟨.shr (.tup [.str "call", .str (S p), .lst (es.map toD), nmD sf]), false, false⟩, some ⟨.shr (.str "call"), false, false⟩, some ⟨.ol ((opsL dn).map opD), false, false⟩, x3]) ⟨es, [], none, rfl, rfl, .n, rfl⟩ ?_ ?_
    · rintro e ⟨es', dn, x3, h1, h2, f3, rfl⟩
      have : es' = [] := by cases es' with
        | nil => rfl
        | cons a b => cases h1
      subst this
      rw [List.append_nil] at h2
      subst h2
      have hol := opsL_len dn
      walk_at "law"
      refine xo_addL (by simp only [List.length_append, List.length_map, List.length_cons, List.length_nil]; omega) ?_
      walk_at "law"
      rw [List.length_map]
      exact q
    · rintro y r e ⟨es', dn, x3, h1, h2, f3, rfl⟩
      cases es' with
      | nil => cases h1
      | cons a es' =>
        obtain ⟨rfl, rfl⟩ := List.cons.inj h1
        have hsz : nL dn + (a.n + nL es') = nL es := by rw [← h2, nL_app]; rfl
        have hdp := hd a (by rw [← h2]; simp)
        have hol := opsL_len dn
        walk_at "law"
        refine x_ops 40 a hdp (by rw [List.length_map]; omega) fun F1 => ?_
        walk_at "law"
        refine ⟨es', dn ++ [a], some ⟨.shr (toD a), false, false⟩, rfl, by rw [List.append_assoc]; exact h2, .s, ?_⟩
        rw [show opsL (dn ++ [a]) = opsL dn ++ ops a from by simp [opsL], List.map_append]
  | _ =>
    simp only [Fm.tree] at q ⊢
    walk_at "law"
    exact q
/-! ### spread: a text of a form -/
def sFig : List Nat := List.range' 48 10
theorem o_fig : Str.ofString "0123456789" = S sFig := by decide +kernel
theorem mem_word (c : Nat) : decide (c ∈ sWord) = isAln c := by
  cases h : isAln c with
  | true => exact decide_eq_true (in_word h)
  | false =>
    refine decide_eq_false fun z => ?_
    simp [sWord, List.mem_range'_1] at z
    simp [isAln, isLet, isFig] at h
    omega
theorem mem_fig (c : Nat) : decide (c ∈ sFig) = isFig c := by
  simp [sFig, List.mem_range'_1, isFig]
  by_cases h : 48 ≤ c <;> simp [h] <;> omega
theorem inW {c : Nat} {Q : O → Prop} (q : Q (.shr (.bl (isAln c)))) : XO (oInStr (.shr (.str (S [c]))) (.shr (.str (S sWord)))) Q := inOne (by rw [mem_word]; exact q)
theorem inF {c : Nat} {Q : O → Prop} (q : Q (.shr (.bl (isFig c)))) : XO (oInStr (.shr (.str (S [c]))) (.shr (.str (S sFig)))) Q := inOne (by rw [mem_fig]; exact q)
theorem notInF {c : Nat} {Q : O → Prop} (q : Q (.shr (.bl (!isFig c)))) : XO (oNotInStr (.shr (.str (S [c]))) (.shr (.str (S sFig)))) Q := xo_notInStr (by rw [SX.in_one, mem_fig]; exact q)
theorem okName_len {s : Str} (h : okName s) : s.length ≤ 9 := by
  unfold okName at h
  split at h
  · have := of_decide_eq_true h; omega
  · have := of_decide_eq_true h; omega
def tkOk (x : Tk) : Prop := x.spl ∧ x.cs.length ≤ 31
theorem var_tk {s : Str} (h : varOk s) : tkOk (.name s) := by
  have := okName_len h.1.1
  refine ⟨h.2, ?_⟩
  show (TL.tl s).length ≤ 31
  rw [← TL.len_tl]; omega
theorem num_tk {n : Nat} (h : n < 1000000000000000000000000000000) : tkOk (.num n) := by
  have := num_le h
  rw [num_len] at this
  exact ⟨trivial, by show (TL.numL n).length ≤ 31; omega⟩
theorem op_tk (o : Op) : tkOk (.op o) := ⟨trivial, by show 1 ≤ 31; omega⟩
theorem lp_tk : tkOk .lp := ⟨trivial, by show 1 ≤ 31; omega⟩
theorem rp_tk : tkOk .rp := ⟨trivial, by show 1 ≤ 31; omega⟩
theorem cm_tk : tkOk .cm := ⟨trivial, by show 1 ≤ 31; omega⟩
def mkIn (N : Nat) (x : Tk × Option Nat) : Prop := tkOk x.1 ∧ ∀ m, x.2 = some m → m < N
theorem mtk_in : ∀ (b : B), b.e.ok → ∀ (c N : Nat), c + b.e.n ≤ N → ∀ x ∈ b.mtk c, mkIn N x
  | .num _ n, h, c, N, hN, x, hx => by
    rw [B.mtk, List.mem_singleton] at hx
    subst hx
    exact ⟨num_tk h, fun m e => by cases e; exact hN⟩
  | .nam _ s, h, c, N, hN, x, hx => by
    rw [B.mtk, List.mem_singleton] at hx
    subst hx
    exact ⟨var_tk h, fun m e => by cases e; exact hN⟩
  | .neg _ b, h, c, N, hN, x, hx => by
    have hN : c + (b.e.n + 1) ≤ N := hN
    rw [B.mtk] at hx
    rcases List.mem_cons.mp hx with rfl | hx
    · exact ⟨op_tk _, fun m e => by cases e; omega⟩
    · exact mtk_in b h c N (by omega) x hx
  | .bin o _ l r, h, c, N, hN, x, hx => by
    have hN : c + (l.e.n + r.e.n + 1) ≤ N := hN
    rw [B.mtk] at hx
    rcases List.mem_append.mp hx with hx | hx
    · rcases List.mem_append.mp hx with hx | hx
      · exact mtk_in l h.1 c N (by omega) x hx
      · rw [List.mem_singleton] at hx
        subst hx
        exact ⟨op_tk _, fun m e => by cases e; omega⟩
    · exact mtk_in r h.2 (c + l.e.n) N (by omega) x hx
  | .par _ _ b, h, c, N, hN, x, hx => by
    rw [B.mtk] at hx
    rcases List.mem_cons.mp hx with rfl | hx
    · exact ⟨lp_tk, fun m e => nomatch e⟩
    · rcases List.mem_append.mp hx with hx | hx
      · exact mtk_in b h c N hN x hx
      · rw [List.mem_singleton] at hx
        subst hx
        exact ⟨rp_tk, fun m e => nomatch e⟩
theorem agI_in : ∀ (bs : List (B × Int)), (∀ q ∈ bs, q.1.e.ok) → ∀ (c N : Nat), c + szB bs ≤ N → ∀ x ∈ agI bs c, mkIn N x
  | [], _, _, _, _, x, hx => nomatch hx
  | [(b, _)], h, c, N, hN, x, hx => mtk_in b (h _ (List.mem_cons_self ..)) c N (by simpa [szB] using hN) x hx
  | (b, _) :: y :: r, h, c, N, hN, x, hx => by
    have hN : c + (b.e.n + szB (y :: r)) ≤ N := hN
    rw [agI] at hx
    rcases List.mem_append.mp hx with hx | hx
    · exact mtk_in b (h _ (List.mem_cons_self ..)) c N (by omega) x hx
    · rcases List.mem_cons.mp hx with rfl | hx
      · exact ⟨cm_tk, fun m e => nomatch e⟩
      · exact agI_in (y :: r) (fun q hq => h q (List.mem_cons_of_mem _ hq)) (c + b.e.n) N (by omega) x hx
theorem if_tk : tkOk (.name "if") := by
  refine ⟨.inl ⟨105, [102], by decide +kernel, by decide, by decide⟩, ?_⟩
  show (TL.tl "if").length ≤ 31
  decide +kernel
theorem as_tk : tkOk (.name "as") := by
  refine ⟨.inl ⟨97, [115], by decide +kernel, by decide, by decide⟩, ?_⟩
  show (TL.tl "as").length ≤ 31
  decide +kernel
theorem stem_tk {cs : List Nat} {m : Nat} (h : stemW cs m) (hm : m ≤ 31) : tkOk (.name (S cs)) := by
  obtain ⟨c, r, rfl, h1, h2, h3⟩ := h
  exact ⟨.inl ⟨c, r, rfl, h1, h2⟩, by show (c :: r).length ≤ 31; omega⟩
theorem Lc_in (lc : Lc) (h : lc.fm.ok) : ∀ x ∈ lc.mtk, mkIn (nL lc.fm.exps + 1) x := by
  cases lc with
  | rem => exact fun x hx => nomatch hx
  | back => exact fun x hx => nomatch hx
  | take c v =>
    intro x hx
    rw [List.mem_singleton.mp hx]
    exact ⟨var_tk h, fun m e => by cases e; exact Nat.zero_lt_one⟩
  | hear c c1 c2 v t =>
    obtain ⟨h1, cs, rfl, h2⟩ := h
    intro x hx
    rcases List.mem_cons.mp hx with rfl | hx
    · exact ⟨var_tk h1, fun m e => by cases e; exact Nat.zero_lt_one⟩
    · rcases List.mem_cons.mp hx with rfl | hx
      · exact ⟨op_tk _, fun m e => nomatch e⟩
      · rw [List.mem_singleton.mp hx]
        exact ⟨stem_tk h2 (by omega), fun m e => nomatch e⟩
  | go1 c n =>
    intro x hx
    rw [List.mem_singleton.mp hx]
    have := h.2
    exact ⟨num_tk (by omega), fun m e => by cases e; exact Nat.zero_lt_one⟩
  | go c c1 n b =>
    have hn := h.1.2
    intro x hx
    rcases List.mem_cons.mp hx with rfl | hx
    · exact ⟨num_tk (by omega), fun m e => by cases e; show b.e.n < b.e.n + 0 + 1; omega⟩
    · rcases List.mem_cons.mp hx with rfl | hx
      · exact ⟨if_tk, fun m e => nomatch e⟩
      · exact mtk_in b h.2.1 0 _ (by show 0 + b.e.n ≤ b.e.n + 0 + 1; omega) x hx
  | set c c1 v b =>
    intro x hx
    rcases List.mem_cons.mp hx with rfl | hx
    · exact ⟨var_tk h.1, fun m e => by cases e; show b.e.n < b.e.n + 0 + 1; omega⟩
    · rcases List.mem_cons.mp hx with rfl | hx
      · exact ⟨op_tk _, fun m e => nomatch e⟩
      · exact mtk_in b h.2.1 0 _ (by show 0 + b.e.n ≤ b.e.n + 0 + 1; omega) x hx
  | val w b => exact fun x hx => mtk_in b h.1 0 _ (by show 0 + b.e.n ≤ b.e.n + 0 + 1; omega) x hx
  | call p c0 d bs sf =>
    obtain ⟨h1, h2, h3, h4⟩ := h
    intro x hx
    have hN : szB bs + 1 = nL (Lc.call p c0 d bs sf).fm.exps + 1 := by rw [← szB_nL]; rfl
    rw [← hN]
    rcases List.mem_cons.mp hx with rfl | hx
    · exact ⟨lp_tk, fun m e => nomatch e⟩
    · rcases List.mem_append.mp hx with hx | hx
      · exact agI_in bs (fun q hq => (h3 _ (List.mem_map_of_mem (f := fun q : B × Int => q.1.e) hq)).1) 0 _ (by omega) x hx
      · rcases List.mem_cons.mp hx with rfl | hx
        · exact ⟨rp_tk, fun m e => nomatch e⟩
        · cases sf with
          | none => cases hx
          | some z =>
            rcases List.mem_cons.mp hx with rfl | hx
            · exact ⟨as_tk, fun m e => nomatch e⟩
            · rw [List.mem_singleton.mp hx]
              exact ⟨var_tk (h4 _ rfl), fun m e => nomatch e⟩
/-! the text so far -/
def Eo (lt : Option Tk) (rest : List Nat) : Prop := match lt with
  | none => True
  | some t => Ends rest t
def TzP (k0 : Nat) (l : List Nat) (ts : List LT) (lt : Option Tk) : Prop := ∀ rest ts', Eo lt rest → Tz rest (k0 + l.length) ts' → Tz (l ++ rest) k0 (ts ++ ts')
theorem tzp0 {k0 : Nat} : TzP k0 [] [] none := fun _ _ _ h => h
theorem tzp_sp {k0 : Nat} {l : List Nat} {ts : List LT} {lt : Option Tk} (h : TzP k0 l ts lt) : TzP k0 (l ++ [32]) ts none := fun rest ts' _ hz => by
  rw [List.append_assoc]
  refine h (32 :: rest) ts' ?_ (.sp ?_)
  · match lt with
    | none => trivial
    | some (.num _) => exact (by decide : isFig 32 = false)
    | some (.name _) => exact (by decide : isAln 32 = false)
    | some (.op _) => trivial
    | some .lp => trivial
    | some .rp => trivial
    | some .cm => trivial
  · rw [List.length_append] at hz
    exact hz
theorem tzp_tok {k0 : Nat} {l : List Nat} {ts : List LT} {lt : Option Tk} {t : Tk} (h : TzP k0 l ts lt) (hs : t.spl) (he : ∀ rest, Eo lt (t.cs ++ rest)) : TzP k0 (l ++ t.cs) (ts ++ [(((k0 + l.length : Nat) : Int) + 1, t)]) (some t) := fun rest ts' hr hz => by
  rw [List.append_assoc, List.append_assoc]
  refine h (t.cs ++ rest) _ (he rest) (.tok hs hr ?_)
  rw [List.length_append, ← Nat.add_assoc] at hz
  exact hz
theorem gl_ends {t : Tk} (hs : t.spl) {xs ys : List Nat} {x y : Nat} (h1 : t.cs = xs ++ [x]) (h2 : t.cs = y :: ys) {c : Nat} (hg : (isAln x && (isAln c && (!isFig y || isFig c))) = false) (r : List Nat) : Ends (c :: r) t := by
  have fa : ∀ c, isFig c = true → isAln c = true := fun c h => by rw [isAln, h, Bool.or_true]
  cases t with
  | num n =>
    have hx := numL_fig n x (by have : TL.numL n = xs ++ [x] := h1; rw [this]; simp)
    have hy := numL_fig n y (by have : TL.numL n = y :: ys := h2; rw [this]; simp)
    rw [fa x hx, hy] at hg
    show isFig c = false
    cases hc : isFig c with
    | false => rfl
    | true => rw [fa c hc, hc] at hg; cases hg
  | name s =>
    have h1 : TL.tl s = xs ++ [x] := h1
    have h2 : TL.tl s = y :: ys := h2
    show isAln c = false
    have key : isAln x = true ∧ isFig y = false := by
      rcases hs with ⟨a, b, e, ha, hb⟩ | ⟨a, b, e, ha, hb⟩
      · have hx : x ∈ a :: b := by rw [← e, h1]; simp
        have hy : y = a := by rw [e] at h2; exact (List.cons.inj h2).1.symm
        refine ⟨?_, by rw [hy]; exact let_fig ha⟩
        rcases List.mem_cons.mp hx with rfl | hx
        · rw [isAln, ha]; rfl
        · exact hb x hx
      · have hy : y = 64 := by rw [e] at h2; exact (List.cons.inj h2).1.symm
        refine ⟨?_, by rw [hy]; decide⟩
        rw [e] at h1
        cases xs with
        | nil => cases h1
        | cons z xs =>
          have hx : x ∈ a :: b := by rw [(List.cons.inj h1).2]; simp
          rcases List.mem_cons.mp hx with rfl | hx
          · rw [isAln, ha]; rfl
          · exact hb x hx
    rw [key.1, key.2] at hg
    simpa using hg
  | op o => trivial
  | lp => trivial
  | rp => trivial
  | cm => trivial
def headOk (af : Nat → Bool) : List Nat → Prop
  | [] => True
  | c :: _ => af c = true
theorem headOk_app {af : Nat → Bool} {l r : List Nat} (h : headOk af l) (hr : l = [] → headOk af r) : headOk af (l ++ r) := by
  cases l with
  | nil => exact hr rfl
  | cons c l => exact h
def JSp (tr : D) (pre : List Nat) (toks : List (Tk × Option Nat)) (mny : Int) (P0 : List (Int × Int)) (af : Nat → Bool) (j : Nat) (e : Sto) : Prop :=
  ∃ (src : List D) (l : List Nat) (ts : List LT) (lt : Option Tk) (L : List Nat) (x9 x10 x11 : Option Slot),
    Src3 src ∧ ts.map (·.2) = (toks.take j).map (·.1) ∧ TzP pre.length l ts lt ∧ l.length ≤ 32 * j ∧ L ≠ [] ∧ L.length ≤ 100 ∧ (∀ t, lt = some t → L = t.cs ∧ t.spl) ∧ headOk af l ∧ (0 < j → l ≠ []) ∧ Fre' x9 ∧ Fre' x10 ∧ Fre' x11 ∧
    e = [some ⟨.ol src, true, false⟩, some ⟨.shr tr, false, false⟩, some ⟨.shr (.str (S sFig)), false, false⟩, some ⟨.shr (.str (S sWord)), false, false⟩, some ⟨.shr (.lst (toks.map mD)), false, false⟩, some ⟨.shr (.int mny), false, false⟩, some ⟨.shr (.str (S (pre ++ l))), false, false⟩,
      some ⟨.ol ((List.foldl stp P0 (ts.zip ((toks.take j).map (·.2)))).map pD), false, false⟩, some ⟨.shr (.str (S L)), false, false⟩, x9, x10, x11]
theorem stp_len (P : List (Int × Int)) : ∀ xs : List (LT × Option Nat), (List.foldl stp P xs).length = P.length
  | [] => rfl
  | (a, none) :: r => stp_len P r
  | (a, some m) :: r => (stp_len (P.set m _) r).trans (List.length_set ..)
abbrev spB2 : SF := (sSeq (sIf (bVal (vBin oNotN (vVar 10) (vC .non)))
      (sSetIx 7 (vTake (vTup (vConsD (vTake (vBin oAdd (vCallB oLen (vConsH (vVar 6) vNilH)) (vC (.int 1)))) (vConsD (vTake (vBin oAdd (vCallB oLen (vConsH (vVar 6) vNilH)) (vCallB oLen (vConsH (vVar 9) vNilH)))) vNilD)))) (vVar 10))
      sNil)
    (sSeq (sSet 6 (vBin oAdd (vVar 6) (vVar 9)))
    (sSet 8 (vVar 9))))
abbrev spB1 : SF := (sSeq (sIf (bOr (bVal (vBin oEq (vCallB oLen (vConsH (vVar 6) vNilH)) (vCallB oLen (vConsH (vBin oIx (vVar 1) (vC (.int 0))) vNilH)))) (bOr (bTru (vVar 11)) (bVal (vBin oEq (vCall F_pick (vConsH (vVar 0) (vConsH (vC (.int 2)) vNilH))) (vC (.int 0))))))
      (sSet 6 (vBin oAdd (vVar 6) (vC (.str " "))))
      sNil) spB2)
abbrev spB0 : SF := (sSeq (sSet 11 (vB (bAnd (bVal (vBin oInStr (vBin oIx (vVar 8) (vUn oNeg (vC (.int 1)))) (vVar 3))) (bAnd (bVal (vBin oInStr (vBin oIx (vVar 9) (vC (.int 0))) (vVar 3))) (bOr (bVal (vBin oNotInStr (vBin oIx (vVar 8) (vC (.int 0))) (vVar 2))) (bVal (vBin oInStr (vBin oIx (vVar 9) (vC (.int 0))) (vVar 2)))))))) spB1)
theorem x_B1E {env : Sto} {P : Out → Prop} (h : Stop (XS spB1 env P)) : XS spB1 env P := h
theorem x_B2E {env : Sto} {P : Out → Prop} (h : Stop (XS spB2 env P)) : XS spB2 env P := h
theorem ixM1 {L xs : List Nat} {x : Nat} (h : L = xs ++ [x]) (hl : L.length ≤ 100) {Q : O → Prop} (q : Q (.shr (.str (S [x])))) : XO (oIx (.shr (.str (S L))) (.shr (.int (-1)))) Q := xo_ixS (c := x) (by rw [SX.S_len]; omega) (by subst h; exact at_m1) q
theorem ixH0 {L ys : List Nat} {y : Nat} (h : L = y :: ys) (hl : L.length ≤ 100) {Q : O → Prop} (q : Q (.shr (.str (S [y])))) : XO (oIx (.shr (.str (S L))) (.shr (.int 0))) Q := xo_ixS (c := y) (by rw [SX.S_len]; omega) (by subst h; exact at_of (k := 0) rfl) q
theorem snoc_of {L : List Nat} (h : L ≠ []) : ∃ xs x, L = xs ++ [x] := ⟨L.dropLast, L.getLast h, (List.dropLast_concat_getLast h).symm⟩
theorem cons_of {L : List Nat} (h : L ≠ []) : ∃ y ys, L = y :: ys := by
  cases L with
  | nil => exact absurd rfl h
  | cons y ys => exact ⟨y, ys, rfl⟩
def spEnv (src : List D) (w : Str) (ds : List D) (toks : List (Tk × Option Nat)) (mny : Int) (tx : List Nat) (P : List (Int × Int)) (L : List Nat) (t : Tk) (m : Option Nat) (x11 : Option Slot) : Sto := [some ⟨.ol src, true, false⟩, some ⟨.shr (.tup (.str w :: ds)), false, false⟩, some ⟨.shr (.str (S sFig)), false, false⟩, some ⟨.shr (.str (S sWord)), false, false⟩, some ⟨.shr (.lst (toks.map mD)), false, false⟩, some ⟨.shr (.int mny), false, false⟩, some ⟨.shr (.str (S tx)), false, false⟩,
      some ⟨.ol (P.map pD), false, false⟩, some ⟨.shr (.str (S L)), false, false⟩, some ⟨.shr (.str (S t.cs)), false, false⟩, some ⟨.shr (mkD m), false, false⟩, x11]
local macro_rules | `(tactic| walk_at "law") => `(tactic| repeat' (first | with_reducible refine lenT (by omega) ?_ | walk_at "1" | ((with_reducible refine lend_ok ?_ ?_); (focus rfl)) | ((with_reducible apply wbx); (focus (walk_at "wb"; done)); (focus rfl)) | walk_at "tf" | walk_at "isi"))
theorem x_spB2 {src : List D} {w : Str} {ds : List D} {toks : List (Tk × Option Nat)} {mny : Int} {pre l1 : List Nat} {P : List (Int × Int)} {L : List Nat} {t : Tk} {m : Option Nat} {x11 : Option Slot} (ht : t.cs.length ≤ 31) (hl : (pre ++ l1).length ≤ 80000) (hm : ∀ k, m = some k → k < P.length) {Q : Out → Prop}
    (q : Q (.nx (spEnv src w ds toks mny (pre ++ (l1 ++ t.cs)) (stp P ((((pre.length + l1.length : Nat) : Int) + 1, t), m)) t.cs t m x11))) : XS spB2 (spEnv src w ds toks mny (pre ++ l1) P L t m x11) Q := by
  unfold spEnv at q ⊢
  have e : S (pre ++ l1) ++ S t.cs = S (pre ++ (l1 ++ t.cs)) := by rw [SX.S_cat, List.append_assoc]
  have hadd : (S (pre ++ l1)).length + (S t.cs).length ≤ 1000000 := by rw [SX.S_len, SX.S_len]; omega
  cases m with
  | none =>
    simp only [mkD] at q ⊢
    walk_at "law"
    refine xo_addS hadd ?_
    rw [e]
    walk_at "law"
    exact q
  | some k =>
    have hk : k < (P.map pD).length := by rw [List.length_map]; exact hm k rfl
    simp only [mkD] at q ⊢
    walk_at "law"
    refine xm_set (by walk_at "at") (setL_nat hk) (by walk_at "at") ?_
    walk_at "law"
    refine xo_addS hadd ?_
    rw [e]
    walk_at "law"
    have e2 : (P.map pD).set k (.tup [.int (((pre ++ l1).length : Nat) + 1), .int (((pre ++ l1).length : Nat) + (t.cs.length : Nat))]) = (stp P ((((pre.length + l1.length : Nat) : Int) + 1, t), some k)).map pD := by
      show _ = (P.set k _).map pD
      rw [List.map_set, pD, word_S, SX.S_len, List.length_append]
      congr 5
      dsimp only
      omega
    rw [e2]
    exact q
local macro_rules | `(tactic| walk_at "law") => `(tactic| repeat' (first | with_reducible refine x_B2E ?_ | with_reducible refine lenT (by omega) ?_ | (with_reducible refine lenS (by omega) ?_) | walk_at "1" | ((with_reducible refine lend_ok ?_ ?_); (focus rfl)) | ((with_reducible apply wbx); (focus (walk_at "wb"; done)); (focus rfl)) | walk_at "tf" | walk_at "isi" | with_reducible refine x_pick (by assumption) (by omega) (by omega) fun _ _ _ _ _ => ?_ | walk_at "both"))
theorem x_spB1 {src : List D} (hs : Src3 src) {w : Str} {ds : List D} {toks : List (Tk × Option Nat)} {mny : Int} {pre l : List Nat} {P : List (Int × Int)} {L : List Nat} {t : Tk} {m : Option Nat} {gb : Bool} (hw : w.length ≤ 100) (hl : (pre ++ l).length ≤ 70000) {Q : Out → Prop}
    (q1 : ∀ src', Src3 src' → XS spB2 (spEnv src' w ds toks mny (pre ++ (l ++ [32])) P L t m (some ⟨.shr (.bl gb), false, false⟩)) Q)
    (q2 : gb = false → (pre ++ l).length ≠ w.length → ∀ src', Src3 src' → XS spB2 (spEnv src' w ds toks mny (pre ++ l) P L t m (some ⟨.shr (.bl gb), false, false⟩)) Q) :
    XS spB1 (spEnv src w ds toks mny (pre ++ l) P L t m (some ⟨.shr (.bl gb), false, false⟩)) Q := by
  unfold spEnv at q1 q2 ⊢
  have e : S (pre ++ l) ++ S [32] = S (pre ++ (l ++ [32])) := by rw [SX.S_cat, List.append_assoc]
  have hadd : (S (pre ++ l)).length + (S [32]).length ≤ 1000000 := by rw [SX.S_len, SX.S_len]; simp at hl ⊢; omega
  unfold spB1
  rw [o_sp]
  by_cases heq : (((pre ++ l).length : Nat) : Int) = ((w.length : Nat) : Int)
  · walk_at "law"
    refine xo_addS hadd ?_
    rw [e]
    walk_at "law"
    exact q1 _ hs
  · cases gb with
    | true =>
      walk_at "law"
      refine xo_addS hadd ?_
      rw [e]
      walk_at "law"
      exact q1 _ hs
    | false =>
      walk_at "law"
      · refine xo_addS hadd ?_
        rw [e]
        walk_at "law"
        exact q1 _ (by assumption)
      · exact q2 rfl (by omega) _ (by assumption)
local macro_rules | `(tactic| walk_at "law") => `(tactic| repeat' (first | with_reducible refine x_B1E ?_ | with_reducible refine inW ?_ | with_reducible refine inF ?_ | with_reducible refine notInF ?_ | with_reducible refine ixM1 (by assumption) (by assumption) ?_ | with_reducible refine ixH0 (by assumption) (by assumption) ?_ | walk_at "1" | ((with_reducible refine lend_ok ?_ ?_); (focus rfl)) | ((with_reducible apply wbx); (focus (walk_at "wb"; done)); (focus rfl)) | walk_at "tf" | walk_at "isi" | (with_reducible apply tf_T; (focus assumption)) | (with_reducible apply tf_F; (focus assumption))))
theorem x_spB0 {src : List D} {w : Str} {ds : List D} {toks : List (Tk × Option Nat)} {mny : Int} {tx : List Nat} {P : List (Int × Int)} {L xs ys zs : List Nat} {x y c : Nat} {t : Tk} {m : Option Nat} {x11 : Option Slot} (f11 : Fre' x11) (h1 : L = xs ++ [x]) (h2 : L = y :: ys) (h3 : t.cs = c :: zs) (hL : L.length ≤ 100) (ht : t.cs.length ≤ 100) {Q : Out → Prop}
    (q : ∀ gb, gb = (isAln x && (isAln c && (!isFig y || isFig c))) → XS spB1 (spEnv src w ds toks mny tx P L t m (some ⟨.shr (.bl gb), false, false⟩)) Q) :
    XS spB0 (spEnv src w ds toks mny tx P L t m x11) Q := by
  unfold spEnv at q ⊢
  have q' := fun gb h => q gb h
  cases g1 : isAln x with
  | false =>
    rw [g1] at q
    walk_at "law"
    exact q _ rfl
  | true =>
    cases g2 : isAln c with
    | false =>
      rw [g1, g2] at q
      walk_at "law"
      exact q _ rfl
    | true =>
      cases g3 : isFig y with
      | false =>
        have g4 : (!isFig y) = true := by rw [g3]; rfl
        rw [g1, g2, g3] at q
        walk_at "law"
        exact q _ rfl
      | true =>
        have g4 : (!isFig y) = false := by rw [g3]; rfl
        cases g5 : isFig c with
        | true =>
          rw [g1, g2, g3, g5] at q
          walk_at "law"
          exact q _ (by rw [g5]; rfl)
        | false =>
          rw [g1, g2, g3, g5] at q
          walk_at "law"
          exact q _ (by rw [g5]; rfl)
theorem x_B0E {env : Sto} {P : Out → Prop} (h : Stop (XS spB0 env P)) : XS spB0 env P := h
local macro_rules | `(tactic| walk_at "law") => `(tactic| repeat' (first | with_reducible refine x_B0E ?_ | walk_at "1" | ((with_reducible refine lend_ok ?_ ?_); (focus rfl)) | ((with_reducible apply wbx); (focus (walk_at "wb"; done)); (focus rfl)) | walk_at "tf" | walk_at "isi"))
theorem x_spStep {w : Str} {ds : List D} {toks : List (Tk × Option Nat)} {mny : Int} {pre : List Nat} {P0 : List (Int × Int)} {af : Nat → Bool} (hw : w.length ≤ 100) (hpre : pre.length ≤ 100) (htl : toks.length ≤ 2000) (hin : ∀ x ∈ toks, mkIn P0.length x) (h32 : af 32 = true)
    (hB : pre.length = w.length ∨ (pre.length ≠ w.length ∧ ∀ x, toks[0]? = some x → headOk af x.1.cs)) {Q : Out → Prop} (j : Nat) (e : Sto) (hj : j < toks.length) (hJ : JSp (.tup (.str w :: ds)) pre toks mny P0 af j e) :
    XO (gT 2 (gConsF (gN 9) (gConsF (gN 10) gNilF)) (mD toks[j]) e) fun e1 => XS spB0 e1 (turnQ (JSp (.tup (.str w :: ds)) pre toks mny P0 af (j + 1)) Q) := by
  obtain ⟨src, l, ts, lt, L, x9, x10, x11, hs, hts, htz, hll, hLn, hLl, hlt, hho, hne, f9, f10, f11, rfl⟩ := hJ
  obtain ⟨hok, hmk⟩ := hin _ (List.getElem_mem hj)
  have htk : toks.take (j + 1) = toks.take j ++ [toks[j]] := List.take_succ_eq_append_getElem hj
  have hj0 : j = 0 → toks[0]? = some toks[j] := fun h => by subst h; exact List.getElem?_eq_getElem hj
  generalize toks[j] = x at *
  obtain ⟨t, m⟩ := x
  obtain ⟨hsp, ht31⟩ := hok
  have hsp : t.spl := hsp
  have ht31 : t.cs.length ≤ 31 := ht31
  have hplen : (List.foldl stp P0 (ts.zip ((toks.take j).map (·.2)))).length = P0.length := stp_len _ _
  have hlen : ts.length = ((toks.take j).map (fun x : Tk × Option Nat => x.2)).length := by
    have := congrArg List.length hts
    simpa using this
  obtain ⟨xs, x, hx⟩ := snoc_of hLn
  obtain ⟨y, ys, hy⟩ := cons_of hLn
  obtain ⟨c, zs, hc, _⟩ := cs_ne hsp
  simp only [mD, word_S]
  walk_at "law"
  show XS spB0 (spEnv src w ds toks mny (pre ++ l) (List.foldl stp P0 (ts.zip ((toks.take j).map (·.2)))) L t m x11) _
  refine x_spB0 f11 hx hy hc hLl (by omega) fun gb hgb => ?_
  have last : ∀ {src' : List D} {l1 : List Nat} {lt1 : Option Tk} {x11 : Option Slot}, Fre' x11 → Src3 src' → TzP pre.length l1 ts lt1 → (∀ rest, Eo lt1 (t.cs ++ rest)) → l1.length ≤ 32 * j + 1 → headOk af (l1 ++ t.cs) →
      XS spB2 (spEnv src' w ds toks mny (pre ++ l1) (List.foldl stp P0 (ts.zip ((toks.take j).map (·.2)))) L t m x11) (turnQ (JSp (.tup (.str w :: ds)) pre toks mny P0 af (j + 1)) Q) := fun {src' l1 lt1 x11} f11 hs' hz he hl1 hho' => by
    refine x_spB2 ht31 (by rw [List.length_append]; omega) (fun k hk => by rw [hplen]; exact hmk k hk) (turn_nx ?_)
    refine ⟨src', l1 ++ t.cs, ts ++ [(((pre.length + l1.length : Nat) : Int) + 1, t)], some t, t.cs, some ⟨.shr (.str (S t.cs)), false, false⟩, some ⟨.shr (mkD m), false, false⟩, x11, hs', ?_, tzp_tok hz hsp he, by rw [List.length_append]; omega, by rw [hc]; simp, by omega, ?_, hho', ?_, .s, .s, f11, ?_⟩
    · rw [htk, List.map_append, List.map_append, hts]; rfl
    · rintro t' e
      cases e
      exact ⟨rfl, hsp⟩
    · intro _
      rw [hc]; simp
    · unfold spEnv
      rw [htk, List.map_append, List.zip_append hlen, List.foldl_append]; rfl
  refine x_spB1 hs hw (by rw [List.length_append]; omega) (fun src' hs' => ?_) fun hg hne' src' hs' => ?_
  · refine last .s hs' (tzp_sp htz) (fun _ => trivial) (by rw [List.length_append]; simp; omega) ?_
    rw [List.append_assoc]
    exact headOk_app hho fun _ => h32
  · refine last .s hs' htz ?_ (by omega) ?_
    · intro rest
      match lt, hlt with
      | none, _ => trivial
      | some t', hlt =>
        obtain ⟨e1, e2⟩ := hlt t' rfl
        rw [hc]
        exact gl_ends e2 (e1 ▸ hx) (e1 ▸ hy) (hgb ▸ hg) _
    · refine headOk_app hho fun hl => ?_
      subst hl
      rcases hB with h | ⟨_, h⟩
      · rw [List.append_nil] at hne'
        exact absurd h hne'
      · have hj' : j = 0 := by
          cases j with
          | zero => rfl
          | succ j => exact absurd rfl (hne (Nat.succ_pos j))
        exact h _ (hj0 hj')
theorem vw_no (w : Vw) : decide (S w.cs = Str.ofString "rem") = false ∧ decide (S w.cs = Str.ofString "call") = false ∧ w.cs.length ≤ 4 := by cases w <;> decide +kernel
def Lc.w : Lc → Str
  | .rem => S [114, 101, 109] | .back => S [98, 97, 99, 107] | .take .. => S [116, 97, 107, 101] | .hear .. => S [104, 101, 97, 114]
  | .go1 .. => S [103, 111] | .go .. => S [103, 111] | .set .. => S [115, 101, 116] | .val w _ => S w.cs | .call .. => Str.ofString "call"
def Lc.af : Lc → Nat → Bool
  | .call .., c => !isPth c
  | .rem, c => decide (c = 32) | .back, c => decide (c = 32) | .take .., c => decide (c = 32) | .hear .., c => decide (c = 32)
  | .go1 .., c => decide (c = 32) | .go .., c => decide (c = 32) | .set .., c => decide (c = 32) | .val .., c => decide (c = 32)
theorem w_tree (lc : Lc) : ∃ ds, lc.fm.tree = .tup (.str lc.w :: ds) := by
  cases lc with
  | rem => exact ⟨_, by rw [Lc.w, r_rem]; rfl⟩
  | back => exact ⟨_, by rw [Lc.w, r_back]; rfl⟩
  | take => exact ⟨_, by rw [Lc.w, r_take]; rfl⟩
  | hear => exact ⟨_, by rw [Lc.w, r_hear]; rfl⟩
  | go1 => exact ⟨_, by rw [Lc.w, r_go]; rfl⟩
  | go => exact ⟨_, by rw [Lc.w, r_go]; rfl⟩
  | set => exact ⟨_, by rw [Lc.w, r_set]; rfl⟩
  | val w b => exact ⟨_, by rw [Lc.w, r_vw]; rfl⟩
  | call => exact ⟨_, rfl⟩
theorem w_rem (lc : Lc) : (lc = .rem ∧ decide (lc.w = Str.ofString "rem") = true) ∨ decide (lc.w = Str.ofString "rem") = false := by
  cases lc with
  | rem => exact .inl ⟨rfl, by decide +kernel⟩
  | val w b => exact .inr (vw_no w).1
  | call => exact .inr (by show decide (Str.ofString "call" = Str.ofString "rem") = false; decide +kernel)
  | back => exact .inr (by show decide (S [98, 97, 99, 107] = Str.ofString "rem") = false; decide +kernel)
  | take => exact .inr (by show decide (S [116, 97, 107, 101] = Str.ofString "rem") = false; decide +kernel)
  | hear => exact .inr (by show decide (S [104, 101, 97, 114] = Str.ofString "rem") = false; decide +kernel)
  | go1 => exact .inr (by show decide (S [103, 111] = Str.ofString "rem") = false; decide +kernel)
  | go => exact .inr (by show decide (S [103, 111] = Str.ofString "rem") = false; decide +kernel)
  | set => exact .inr (by show decide (S [115, 101, 116] = Str.ofString "rem") = false; decide +kernel)
theorem w_len (lc : Lc) : lc.w.length ≤ 100 := by
  cases lc with
  | val w b => show (S w.cs).length ≤ 100; rw [SX.S_len]; have := (vw_no w).2.2; omega
  | call => show (Str.ofString "call").length ≤ 100; decide +kernel
  | rem => show (S [114, 101, 109]).length ≤ 100; decide
  | back => show (S [98, 97, 99, 107]).length ≤ 100; decide
  | take => show (S [116, 97, 107, 101]).length ≤ 100; decide
  | hear => show (S [104, 101, 97, 114]).length ≤ 100; decide
  | go1 => show (S [103, 111]).length ≤ 100; decide
  | go => show (S [103, 111]).length ≤ 100; decide
  | set => show (S [115, 101, 116]).length ≤ 100; decide
theorem pre_len (lc : Lc) (h : lc.fm.ok) : lc.pre.length ≤ 100 := by
  cases lc with
  | val w b => show w.cs.length ≤ 100; have := (vw_no w).2.2; omega
  | rem => show 3 ≤ 100; omega
  | back => show 4 ≤ 100; omega
  | take => show 4 ≤ 100; omega
  | hear => show 4 ≤ 100; omega
  | go1 => show 2 ≤ 100; omega
  | go => show 2 ≤ 100; omega
  | set => show 3 ≤ 100; omega
  | call p c0 d bs sf =>
    obtain ⟨⟨pc, pr, e, h1, h2, h3⟩, _⟩ := h
    show (sCall ++ p).length ≤ 100
    rw [List.length_append]
    show 5 + p.length ≤ 100
    omega
theorem w_pre (lc : Lc) : lc.pre.length = lc.w.length ∨ (lc.pre.length ≠ lc.w.length ∧ ∀ x, lc.mtk[0]? = some x → headOk lc.af x.1.cs) := by
  cases lc with
  | call p c0 d bs sf =>
    right
    refine ⟨?_, fun x hx => ?_⟩
    · show (sCall ++ p).length ≠ (Str.ofString "call").length
      rw [List.length_append, show (Str.ofString "call").length = 4 by decide +kernel]
      show 5 + p.length ≠ 4
      omega
    · have : (Tk.lp, (none : Option Nat)) = x := by simpa [Lc.mtk] using hx
      subst this
      exact (by decide : (!isPth 40) = true)
  | rem => left; rfl
  | back => left; rfl
  | take => left; rfl
  | hear => left; rfl
  | go1 => left; rfl
  | go => left; rfl
  | set => left; rfl
  | val w b => left; exact (SX.S_len _).symm
theorem after_of (lc : Lc) {l : List Nat} (h : headOk lc.af l) : lc.after l := by
  cases l with
  | nil => cases lc <;> trivial
  | cons c r =>
    cases lc with
    | call => show isPth c = false; simpa [headOk, Lc.af] using h
    | _ => exact (of_decide_eq_true (p := c = 32) h : c = 32)
theorem af32 (lc : Lc) : lc.af 32 = true := by cases lc <;> rfl
theorem lcm_len (lc : Lc) (hok : lc.fm.ok) (hwf : lc.wf) : lc.mtk.length ≤ 2000 := by
  cases lc with
  | go c c1 n b =>
    have h1 : b.e.n ≤ 51 := hok.2.2.2
    have h2 : b.tks.length ≤ 5 * b.e.n := hwf.2
    show (_ :: _ :: b.mtk 0).length ≤ 2000
    rw [List.length_cons, List.length_cons, mtk_len]; omega
  | set c c1 v b =>
    have h1 : b.e.n ≤ 51 := hok.2.2.2
    have h2 : b.tks.length ≤ 5 * b.e.n := hwf.2
    show (_ :: _ :: b.mtk 0).length ≤ 2000
    rw [List.length_cons, List.length_cons, mtk_len]; omega
  | val w b =>
    have h1 : b.e.n ≤ 51 := hok.2.2
    have h2 : b.tks.length ≤ 5 * b.e.n := hwf.2
    show (b.mtk 0).length ≤ 2000
    rw [mtk_len]; omega
  | call p c0 d bs sf =>
    have h1 := agI_len bs 0 hwf
    have h2 : szB bs ≤ 51 * 4 := by rw [← szB_nL]; exact nL_le hok.2.2.1 hok.2.1
    show (_ :: (agI bs 0 ++ (_ :: sfM sf))).length ≤ 2000
    have h3 : (sfM sf).length ≤ 2 := by
      cases sf with
      | none => show 0 ≤ 2; omega
      | some z => show 2 ≤ 2; omega
    rw [List.length_cons, List.length_append, List.length_cons]; omega
  | rem => show 0 ≤ 2000; omega
  | back => show 0 ≤ 2000; omega
  | take => show 1 ≤ 2000; omega
  | hear => show 3 ≤ 2000; omega
  | go1 => show 1 ≤ 2000; omega
abbrev spR : SF := (sSeq (sFor (iSeq (vVar 4)) (gT 2 (gConsF (gN 9) (gConsF (gN 10) gNilF))) spB0)
    (sSeq (sIf (bAnd (bVal (vBin oEq (vBin oIx (vVar 1) (vC (.int 0))) (vC (.str "rem")))) (bVal (vBin oEq (vCall F_pick (vConsH (vVar 0) (vConsH (vC (.int 2)) vNilH))) (vC (.int 0)))))
      (sSet 6 (vBin oAdd (vBin oAdd (vBin oAdd (vVar 6) (vC (.str " "))) (vCallB oStr (vConsH (vCall F_big (vConsH (vVar 0) vNilH)) vNilH))) (vC (.str " $ A!"))))
      sNil)
    (sRet (vTup (vConsD (vTake (vVar 6)) (vConsD (vTake (vVar 7)) vNilD))))))
theorem strB {n : Nat} (h : n < 1000000000000000000000000000000) {Q : O → Prop} (q : Q (.shr (.str (num n)))) : XO (oStr [.shr (.int (n : Int))]) Q := xo_str (by
  have : (n : Int).natAbs = n := rfl
  rw [this]
  by_cases h0 : n = 0
  · subst h0; decide
  · have := (Nat.log2_lt (n := n) (k := 100) h0).mpr (Nat.lt_of_lt_of_le h (by decide +kernel))
    omega) q
theorem o_tail : Str.ofString " $ A!" = S [32, 36, 32, 65, 33] := by decide +kernel
local macro_rules | `(tactic| walk_at "law") => `(tactic| repeat' (first | walk_at "1" | ((with_reducible refine lend_ok ?_ ?_); (focus rfl)) | ((with_reducible apply wbx); (focus (walk_at "wb"; done)); (focus rfl)) | walk_at "tf" | walk_at "isi" | with_reducible refine strB (by assumption) ?_ | with_reducible refine x_big (by assumption) fun _ _ _ _ => ?_ | with_reducible refine x_pick (by assumption) (by omega) (by omega) fun _ _ _ _ _ => ?_ | (with_reducible apply tf_T; (focus assumption)) | (with_reducible apply tf_F; (focus assumption)) | walk_at "both"))
theorem x_spR (lc : Lc) (hok : lc.fm.ok) (hwf : lc.wf) {src : List D} (hs : Src3 src) {mny : Int} {L0 : List Nat} (hL0 : L0 ≠ []) (hL1 : L0.length ≤ 100) {Q : Rs → List O → Prop}
    (q : ∀ (lc' : Lc) (l : List Nat) src', lc'.fm = lc.fm → lc'.wf → lc'.tz l → lc'.after l → l.length ≤ 70000 → Src3 src' → Q (.o (.shr (.tup [.str (S (lc'.pre ++ l)), .lst (lc'.plp.map pD)]))) [.ol src', .shr lc.fm.tree]) :
    XS spR [some ⟨.ol src, true, false⟩, some ⟨.shr lc.fm.tree, false, false⟩, some ⟨.shr (.str (S sFig)), false, false⟩, some ⟨.shr (.str (S sWord)), false, false⟩, some ⟨.shr (.lst (lc.mtk.map mD)), false, false⟩, some ⟨.shr (.int mny), false, false⟩, some ⟨.shr (.str (S lc.pre)), false, false⟩,
      some ⟨.ol ((List.replicate (nL lc.fm.exps + 1) lc.d0).map pD), false, false⟩, some ⟨.shr (.str (S L0)), false, false⟩, none, none, none] (defQ 2 Q) := by
  obtain ⟨ds, htr⟩ := w_tree lc
  have hml := lcm_len lc hok hwf
  have hpl := pre_len lc hok
  rw [htr] at q ⊢
  walk_at "law"
  refine xl_ix' (JSp (.tup (.str lc.w :: ds)) lc.pre lc.mtk mny (List.replicate (nL lc.fm.exps + 1) lc.d0) lc.af) ⟨src, [], [], none, L0, none, none, none, hs, rfl, tzp0, Nat.zero_le _, hL0, hL1, (fun t e => nomatch e), trivial, (fun h => absurd h (by omega)), .n, .n, .n, by rw [List.append_nil]; rfl⟩ ?_ ?_
  · rintro e ⟨src', l, ts, lt, L, x9, x10, x11, hs', hts, htz, hll, hLn, hLl, hlt, hho, hne, f9, f10, f11, rfl⟩
    rw [List.length_map] at hts hll
    rw [List.length_map, List.take_length]
    rw [List.take_length] at hts
    have hz : Tz l lc.pre.length ts := by
      have := htz [] [] (by
        match lt with
        | none => trivial
        | some (.num _) => trivial
        | some (.name _) => trivial
        | some (.op _) => trivial
        | some .lp => trivial
        | some .rp => trivial
        | some .cm => trivial) .nil
      simpa using this
    obtain ⟨lc', e1, e2, e3, e4, e5, e6, e7⟩ := loc_Lc lc ts hts
    have hpl' : List.foldl stp (List.replicate (nL lc.fm.exps + 1) lc.d0) (ts.zip (lc.mtk.map (·.2))) = lc'.plp := by
      have := fold_Lc lc'
      rw [e1, e2, e3, e7] at this
      exact this
    rw [hpl']
    rcases w_rem lc with ⟨hr, hw⟩ | hw
    · subst hr
      have hl0 : l = [] := by
        have : l.length ≤ 0 := hll
        exact List.length_eq_zero_iff.mp (by omega)
      subst hl0
      have htz' : ∀ l, lc'.tz l := fun l => by
        cases lc' with
        | rem => trivial
        | _ => cases e2
      rw [List.append_nil, ← e5]
      walk_at "law"
      · have hp3 : lc'.pre.length ≤ 100 := by rw [e5]; exact hpl
        refine xo_addS (by rw [o_sp, SX.S_len, SX.S_len]; simp; omega) ?_
        rw [o_sp, SX.S_cat]
        walk_at "law"
        rename_i n src2 hn hs2
        have hnl := num_le hn
        rw [num_len] at hnl
        refine xo_addS (by rw [show num n = S (TL.numL n) from SX.num_S n, SX.S_len, SX.S_len]; simp; omega) ?_
        rw [show num n = S (TL.numL n) from SX.num_S n, SX.S_cat]
        walk_at "law"
        refine xo_addS (by rw [o_tail, SX.S_len, SX.S_len]; simp; omega) ?_
        rw [o_tail, SX.S_cat, List.append_assoc, List.append_assoc]
        walk_at "law"
        refine q lc' ([32] ++ (TL.numL n ++ [32, 36, 32, 65, 33])) src2 e2 (e4 trivial) (htz' _) (by rw [e6]; exact rfl) (by simp; omega) hs2
      · have := q lc' [] _ e2 (e4 trivial) (htz' _) (by rw [e6]; trivial) (by simp) (by assumption)
        rw [List.append_nil] at this
        exact this
    · walk_at "law"
      rw [← e5]
      refine q lc' l _ e2 (e4 hwf) ?_ (by rw [e6]; exact after_of lc hho) (by omega) hs'
      rw [← e1, ← e5] at hz
      cases lc' with
      | rem => trivial
      | _ => exact hz
  · intro k e hk hJ
    have hk' : k < lc.mtk.length := by simpa using hk
    rw [List.getElem_map]
    exact x_spStep (w_len lc) hpl hml (fun x hx => by rw [List.length_replicate]; exact Lc_in lc hok x hx) (af32 lc) (w_pre lc) k e hk' hJ
/-! ### what a form's text is read as -/
theorem named_of : ∀ b : B, b.e.ok → b.named
  | .num _ _, _ => trivial
  | .nam _ s, h => h.1.1
  | .neg _ b, h => named_of b h
  | .bin _ _ l r, h => ⟨named_of l h.1, named_of r h.2⟩
  | .par _ _ b, h => named_of b h
theorem toks_ok : ∀ b : B, b.e.ok → ∀ t ∈ b.tks, t.2.ok
  | .num _ n, h, t, ht => by rw [List.mem_singleton.mp ht]; exact h
  | .nam _ s, h, t, ht => by rw [List.mem_singleton.mp ht]; exact ⟨h.1.2.1, h.1.2.2⟩
  | .neg _ b, h, t, ht => by
    rcases List.mem_cons.mp ht with rfl | ht
    · trivial
    · exact toks_ok b h t ht
  | .bin _ _ l r, h, t, ht => by
    rcases List.mem_append.mp ht with ht | ht
    · exact toks_ok l h.1 t ht
    · rcases List.mem_cons.mp ht with rfl | ht
      · trivial
      · exact toks_ok r h.2 t ht
  | .par _ _ b, h, t, ht => by
    rcases List.mem_cons.mp ht with rfl | ht
    · trivial
    · rcases List.mem_append.mp ht with ht | ht
      · exact toks_ok b h t ht
      · rw [List.mem_singleton.mp ht]; trivial
theorem good_of {b : B} (h : eOk b.e) (hb : bOk b) : b.good := ⟨hb.1, named_of b h.1, toks_ok b h.1, by have := hb.2; have := h.2.2; omega⟩
theorem agT_ok : ∀ (bs : List (B × Int)) (d : Int), (∀ q ∈ bs, eOk q.1.e) → ∀ t ∈ agT0 bs d, t.2.ok
  | [], d, _, t, ht => by rw [List.mem_singleton.mp ht]; trivial
  | [(b, d')], d, h, t, ht => by
    have ht : t ∈ b.tks ++ [((d', Tk.rp) : LT)] := ht
    rcases List.mem_append.mp ht with ht | ht
    · exact toks_ok b (h _ (List.mem_cons_self ..)).1 t ht
    · rw [List.mem_singleton.mp ht]; trivial
  | (b, d') :: x :: r, d, h, t, ht => by
    have ht : t ∈ b.tks ++ ((d', Tk.cm) : LT) :: agT0 (x :: r) d := ht
    rcases List.mem_append.mp ht with ht | ht
    · exact toks_ok b (h _ (List.mem_cons_self ..)).1 t ht
    · rcases List.mem_cons.mp ht with rfl | ht
      · trivial
      · exact agT_ok (x :: r) d (fun q hq => h q (List.mem_cons_of_mem _ hq)) t ht
theorem lc_ok (lc : Lc) (h : lc.fm.ok) (hw : lc.wf) : lc.ok := by
  cases lc with
  | rem => trivial
  | back => trivial
  | take c v => exact h.1
  | hear c c1 c2 v t =>
    obtain ⟨h1, cs, h2, h3⟩ := h
    obtain ⟨a, r, e, b1, b2, b3⟩ := h3
    exact ⟨h1.1, a, r, by rw [h2, e], b1, b2, b3⟩
  | go1 c n => exact h
  | go c c1 n b => exact ⟨h.1.1, h.1.2, good_of h.2 hw⟩
  | set c c1 v b => exact ⟨h.1.1, good_of h.2 hw⟩
  | val w b => exact good_of h hw
  | call p c0 d bs sf =>
    obtain ⟨h1, h2, h3, h4⟩ := h
    have he : ∀ q ∈ bs, eOk q.1.e := fun q hq => h3 _ (List.mem_map_of_mem (f := fun q : B × Int => q.1.e) hq)
    refine ⟨h1, by simpa using h2, fun q hq => good_of (he q hq) (hw q hq), agT_ok bs d he, ?_, ?_⟩
    · have e1 := congrArg List.length (agT_map bs d 0)
      rw [List.length_map, List.length_map, List.length_append] at e1
      have e2 := agI_len bs 0 hw
      have e3 : szB bs ≤ 51 * 4 := by rw [← szB_nL]; exact nL_le h3 h2
      rw [e1]; simp; omega
    · cases sf with
      | none => trivial
      | some z => exact (h4 _ rfl).1
theorem exps_ok (f : Fm) (h : f.ok) : f.exps.length ≤ 4 ∧ ∀ e ∈ f.exps, eOk e := by
  cases f with
  | go n e => exact ⟨by show 1 ≤ 4; decide, fun x hx => by rw [List.mem_singleton.mp hx]; exact h.2⟩
  | set n e => exact ⟨by show 1 ≤ 4; decide, fun x hx => by rw [List.mem_singleton.mp hx]; exact h.2⟩
  | val n e => exact ⟨by show 1 ≤ 4; decide, fun x hx => by rw [List.mem_singleton.mp hx]; exact h⟩
  | call p es sf => exact ⟨h.2.1, h.2.2.1⟩
  | _ => exact ⟨Nat.zero_le _, fun x hx => nomatch hx⟩
theorem plp_len (lc : Lc) : lc.plp.length = nL lc.fm.exps + 1 := by rw [← fold_Lc, stp_len, List.length_replicate]
theorem w_call (lc : Lc) : (∃ p c0 d bs sf, lc = .call p c0 d bs sf) ∨ (decide (lc.w = Str.ofString "call") = false ∧ lc.w = S lc.pre ∧ lc.d0 = ((1 : Int), ((lc.pre.length : Nat) : Int))) := by
  cases lc with
  | call p c0 d bs sf => exact .inl ⟨p, c0, d, bs, sf, rfl⟩
  | val w b => exact .inr ⟨(vw_no w).2.1, rfl, rfl⟩
  | rem => exact .inr ⟨by show decide (S [114, 101, 109] = Str.ofString "call") = false; decide +kernel, rfl, rfl⟩
  | back => exact .inr ⟨by show decide (S [98, 97, 99, 107] = Str.ofString "call") = false; decide +kernel, rfl, rfl⟩
  | take => exact .inr ⟨by show decide (S [116, 97, 107, 101] = Str.ofString "call") = false; decide +kernel, rfl, rfl⟩
  | hear => exact .inr ⟨by show decide (S [104, 101, 97, 114] = Str.ofString "call") = false; decide +kernel, rfl, rfl⟩
  | go1 => exact .inr ⟨by show decide (S [103, 111] = Str.ofString "call") = false; decide +kernel, rfl, rfl⟩
  | go => exact .inr ⟨by show decide (S [103, 111] = Str.ofString "call") = false; decide +kernel, rfl, rfl⟩
  | set => exact .inr ⟨by show decide (S [115, 101, 116] = Str.ofString "call") = false; decide +kernel, rfl, rfl⟩
theorem rep_flat {n : Nat} {m : Int} {d : D} (h : m = ((n : Nat) : Int)) : (List.replicate m.toNat [d]).flatten = List.replicate n d := by
  subst h
  show (List.replicate n [d]).flatten = _
  induction n with
  | zero => rfl
  | succ n ih => rw [List.replicate_succ, List.flatten_cons, ih]; rfl
theorem x_spRE {env : Sto} {P : Out → Prop} (h : Stop (XS spR env P)) : XS spR env P := h
local macro_rules | `(tactic| walk_at "law") => `(tactic| repeat' (first | with_reducible refine x_spRE ?_ | walk_at "1" | ((with_reducible refine lend_ok ?_ ?_); (focus rfl)) | ((with_reducible apply wbx); (focus (walk_at "wb"; done)); (focus rfl)) | walk_at "tf" | walk_at "isi" | (with_reducible apply tf_T; (focus assumption)) | (with_reducible apply tf_F; (focus assumption))))
theorem x_spread (f : Fm) (hf : f.ok) {src : List D} (hs : Src3 src) {Q : Rs → List O → Prop}
    (q : ∀ (lc : Lc) (l : List Nat) src', lc.fm = f → lc.wf → lc.tz l → lc.after l → l.length ≤ 70000 → Src3 src' → Q (.o (.shr (.tup [.str (S (lc.pre ++ l)), .lst (lc.plp.map pD)]))) [.ol src', .shr f.tree]) : XF F_spread [.ol src, .shr f.tree] Q := by
  refine xf' rfl (by walk_at "at") ?_
  unfold f_spread
  rw [o_fig, o_word]
  walk_at "law"
  refine x_tokened f hf hs fun lc src' m h1 h2 h3 hs' => ?_
  subst h1
  have hsz : nL lc.fm.exps ≤ 51 * 4 := nL_le (exps_ok _ hf).2 (exps_ok _ hf).1
  have hml : -1000 ≤ m ∧ m ≤ 1000 := by omega
  have hpl := pre_len lc hf
  rcases w_call lc with ⟨p, c0, d, bs, sf, rfl⟩ | ⟨hw, hws, hd0⟩
  · have htr : (Lc.call p c0 d bs sf).fm.tree = .tup [.str "call", .str (S p), .lst ((bs.map fun q => q.1.e).map toD), nmD (sf.map fun q => q.2.2)] := rfl
    have hp : p.length ≤ 100 := by
      have : (sCall ++ p).length ≤ 100 := hpl
      rw [List.length_append] at this
      omega
    have e1 : Str.ofString "call" ++ (Str.ofString " " ++ S p) = S (Lc.call p c0 d bs sf).pre := by
      rw [o_sp, SX.S_cat, ← r_call, SX.S_cat]; rfl
    rw [htr] at q ⊢
    walk_at "law"
    refine xo_addS (by rw [o_sp, SX.S_len, SX.S_len]; simp; omega) ?_
    walk_at "law"
    refine xo_addS (by rw [o_sp, SX.S_cat, ← r_call, SX.S_len, SX.S_len]; simp [sFour]; omega) ?_
    rw [e1]
    walk_at "law"
    refine lenT (by omega) ?_
    walk_at "law"
    refine xo_rep rfl ⟨by show 1 ≤ 1000; decide, hml.1, hml.2⟩ ?_
    rw [rep_flat h3, show List.replicate (nL (Lc.call p c0 d bs sf).fm.exps + 1) (D.tup [.int 6, .int ((Lc.call p c0 d bs sf).pre.length : Nat)]) = (List.replicate (nL (Lc.call p c0 d bs sf).fm.exps + 1) (Lc.call p c0 d bs sf).d0).map pD from by
      rw [List.map_replicate]
      congr 1
      show _ = D.tup [.int 6, .int ((5 + p.length : Nat) : Int)]
      rw [show (Lc.call p c0 d bs sf).pre.length = 5 + p.length from by show (sCall ++ p).length = _; rw [List.length_append]; rfl]]
    walk_at "law"
    rw [← htr] at q ⊢
    exact x_spR _ hf h2 hs' (L0 := [41]) (by simp) (by decide) q
  · obtain ⟨ds, htr⟩ := w_tree lc
    have e1 : lc.w ++ Str.ofString "" = S lc.pre := by rw [hws, o_emp, SX.S_cat, List.append_nil]
    have hwl := w_len lc
    have he0 := e0_len
    rw [htr] at q ⊢
    walk_at "law"
    refine xo_addS (by omega) ?_
    rw [e1]
    walk_at "law"
    refine lenT (by omega) ?_
    walk_at "law"
    refine xo_rep rfl ⟨by show 1 ≤ 1000; decide, hml.1, hml.2⟩ ?_
    rw [rep_flat h3, show List.replicate (nL lc.fm.exps + 1) (D.tup [.int 1, .int (lc.pre.length : Nat)]) = (List.replicate (nL lc.fm.exps + 1) lc.d0).map pD from by
      rw [List.map_replicate, hd0]; rfl]
    walk_at "law"
    rw [← htr] at q ⊢
    exact x_spR lc hf h2 hs' (L0 := [97]) (by simp) (by decide) q
/-! ### the law -/
theorem sms_app : ∀ (a b : List D), sms (a ++ b) = (sms a && sms b)
  | [], b => rfl
  | d :: r, b => by rw [List.cons_append, sms, sms, sms_app r b, Bool.and_assoc]
theorem sms_of : ∀ {ds : List D}, (∀ d ∈ ds, sm d = true) → sms ds = true
  | [], _ => rfl
  | d :: r, h => by rw [sms, h d (List.mem_cons_self ..), sms_of fun x hx => h x (List.mem_cons_of_mem _ hx)]; rfl
theorem dqs_of {n : Nat} : ∀ {ds : List D}, (∀ d ∈ ds, dq d ≤ n) → dqs ds ≤ n
  | [], _ => Nat.zero_le _
  | d :: r, h => by
    have h1 := h d (List.mem_cons_self ..)
    have h2 := dqs_of fun x hx => h x (List.mem_cons_of_mem d hx)
    rw [dqs]; omega
theorem ops_sm : ∀ e : E, ∀ w ∈ ops e, sm w.2 = true ∧ dq w.2 ≤ 1
  | .num n, w, h => by rw [List.mem_singleton.mp h]; exact ⟨rfl, by show 0 ≤ 1; omega⟩
  | .nam s, w, h => by rw [List.mem_singleton.mp h]; exact ⟨rfl, by show 0 ≤ 1; omega⟩
  | .neg e, w, h => by
    rcases List.mem_append.mp h with h | h
    · exact ops_sm e w h
    · rw [List.mem_singleton.mp h]; exact ⟨rfl, by show 0 ≤ 1; omega⟩
  | .bin o l r, w, h => by
    rcases List.mem_append.mp h with h | h
    · rcases List.mem_append.mp h with h | h
      · exact ops_sm l w h
      · exact ops_sm r w h
    · rw [List.mem_singleton.mp h]; exact ⟨rfl, by show 0 ≤ 1; omega⟩
theorem deed_sm (f : Fm) : sm f.deed.2 = true ∧ dq f.deed.2 ≤ 1 := by
  cases f with
  | val w e => cases w <;> exact ⟨rfl, by show 0 ≤ 1; omega⟩
  | hear v t => exact ⟨rfl, by show 1 ≤ 1; omega⟩
  | call p es sf => cases sf <;> exact ⟨rfl, by show 1 ≤ 1; omega⟩
  | _ => exact ⟨rfl, by show 0 ≤ 1; omega⟩
theorem words_sm (f : Fm) : ∀ w ∈ f.words, sm w.2 = true ∧ dq w.2 ≤ 1 := fun w h => by
  rcases List.mem_append.mp h with h | h
  · obtain ⟨e, _, he⟩ := List.mem_flatMap.mp h
    exact ops_sm e w he
  · rw [List.mem_singleton.mp h]; exact deed_sm f
theorem wps_sm {W : List (Str × D)} {P : List (Int × Int)} (h : ∀ w ∈ W, sm w.2 = true ∧ dq w.2 ≤ 1) : sms (wps W P) = true ∧ dqs (wps W P) ≤ 2 := by
  have key : ∀ d ∈ wps W P, sm d = true ∧ dq d ≤ 2 := fun d hd => by
    obtain ⟨⟨w, p⟩, hm, rfl⟩ := List.mem_map.mp hd
    obtain ⟨h1, h2⟩ := h w (List.of_mem_zip hm).1
    refine ⟨?_, ?_⟩
    · show (decide (4 ≤ 1000) && (true && (sm w.2 && (true && (true && true))))) = true
      rw [h1]; rfl
    · show max 0 (max (dq w.2) (max 0 (max 0 0))) + 1 ≤ 2
      omega
  exact ⟨sms_of fun d hd => (key d hd).1, dqs_of fun d hd => (key d hd).2⟩
theorem pl_sm (P : List (Int × Int)) : sms (P.map pD) = true ∧ dqs (P.map pD) ≤ 1 := by
  refine ⟨sms_of fun d hd => ?_, dqs_of fun d hd => ?_⟩
  · obtain ⟨p, _, rfl⟩ := List.mem_map.mp hd
    rfl
  · obtain ⟨p, _, rfl⟩ := List.mem_map.mp hd
    show 1 ≤ 1; omega
/-- what one turn has: a form's text, its places, its words -/
structure Turn (lc : Lc) (l : List Nat) : Prop where
  ok : lc.ok
  tz : lc.tz l
  af : lc.after l
  len : l.length ≤ 80000
  sz : nL lc.fm.exps ≤ 204
  dep : ∀ e ∈ lc.fm.exps, e.dep < 40
  many : lc.fm.exps.length ≤ 4
theorem turn_of (lc : Lc) {l : List Nat} (h : lc.fm.ok) (hw : lc.wf) (hz : lc.tz l) (ha : lc.after l) (hl : l.length ≤ 70000) : Turn lc l :=
  have he := exps_ok _ h
  ⟨lc_ok lc h hw, hz, ha, by omega, nL_le he.2 he.1, fun e hm => by have := (he.2 e hm).2.1; omega, he.1⟩
local macro_rules | `(tactic| walk_at "law") => `(tactic| repeat' (first | walk_at "1" | ((with_reducible refine lend_ok ?_ ?_); (focus rfl)) | ((with_reducible apply wbx); (focus (walk_at "wb"; done)); (focus rfl)) | walk_at "tf" | walk_at "isi"))
def JL (ns : List Int) (k : Nat) (e : Sto) : Prop := ∃ (x1 x2 x3 x4 x5 x6 x7 x8 : Option Slot), Fre' x1 ∧ Fre' x2 ∧ Fre' x3 ∧ Fre' x4 ∧ Fre' x5 ∧ Fre' x6 ∧ Fre' x7 ∧ Fre' x8 ∧ e = [some ⟨.shr (.scr ns), false, false⟩, x1, x2, x3, x4, x5, x6, x7, x8, none, none]
abbrev lwB : SF := (sSeq (sSet 6 (vCall F_columns_of (vConsH (vVar 4) vNilH)))
    (sSeq (sIf (bNot (bTru (vCall (F_same 6) (vConsH (vVar 6) (vConsH (vVar 5) vNilH)))))
      (sRet (vC (.bl false)))
      sNil)
    (sSeq (sDrop (vMt 6 "list" mAppend (vConsD (vTake (vTup (vConsD (vTake (vC (.int 1))) (vConsD (vTake (vC (.int 1))) vNilD)))) vNilD)))
    (sSeq (sSetIx 6 (vTake (vTup (vConsD (vTake (vC (.int 0))) (vConsD (vTake (vC (.int 0))) vNilD)))) (vC (.int 0)))
    (sSeq (sSet 7 (vCall F_words (vConsH (vVar 3) vNilH)))
    (sSeq (sSet 8 (vLc (iR1 (vConsH (vCallB oLen (vConsH (vVar 7) vNilH)) vNilH)) (gN 10) bYes (vTake (vBin oAdd (vBin oIx (vVar 7) (vVar 10)) (vBin oIx (vVar 5) (vVar 10)))) [10]))
    (sIf (bOr (bVal (vBin oNe (vCallB oLen (vConsH (vVar 7) vNilH)) (vCallB oLen (vConsH (vVar 5) vNilH)))) (bOr (bNot (bTru (vCall (F_same 6) (vConsH (vCall F_compile_code (vConsH (vVar 4) vNilH)) (vConsH (vVar 8) vNilH))))) (bNot (bTru (vCall (F_same 6) (vConsH (vCall F_columns_of (vConsH (vVar 4) vNilH)) (vConsH (vVar 5) vNilH)))))))
      (sRet (vC (.bl false)))
      sNil)))))))
theorem x_lwB {lc : Lc} {l : List Nat} (T : Turn lc l) {ns : List Int} {src : List D} {k : Nat} {x6 x7 x8 : Option Slot} (f6 : Fre' x6) (f7 : Fre' x7) (f8 : Fre' x8) {Q : Out → Prop} :
    XS lwB [some ⟨.shr (.scr ns), false, false⟩, some ⟨.shr (.int (k : Nat)), false, false⟩, some ⟨.ol src, false, false⟩, some ⟨.shr lc.fm.tree, false, false⟩, some ⟨.shr (.str (S (lc.pre ++ l))), false, false⟩, some ⟨.shr (.lst (lc.plp.map pD)), false, false⟩, x6, x7, x8, none, none] (turnQ (JL ns (k + 1)) Q) := by
  have hpl := plp_len lc
  have hsz := T.sz
  have hwl := words_len lc.fm
  have hps := pl_sm lc.plp
  have hwml : (lc.fm.words.map opD).length ≤ 1000 := by rw [List.length_map]; omega
  have hll : (lc.plp.map pD).length ≤ 1000 := by rw [List.length_map]; omega
  have hww := wps_sm (P := lc.plp) (words_sm lc.fm)
  have hwps : (wps lc.fm.words lc.plp).length = nL lc.fm.exps + 1 := by rw [wps, List.length_map, List.length_zip]; omega
  walk_at "law"
  refine x_columns lc T.ok T.tz T.af T.len ?_
  rw [pls_plp]
  walk_at "law"
  refine x_sameM (k := 5) hps.1 (by omega) hll ?_
  walk_at "law"
  refine xm_set (by walk_at "at") (setL_nat (k := 0) (by simp)) (by walk_at "at") ?_
  walk_at "law"
  refine x_words lc.fm (by omega) T.dep (by have := T.many; omega) ?_
  walk_at "law"
  refine xc_rng (fun j acc e => acc = (wps lc.fm.words lc.plp).take j ∧ e = [some ⟨.shr (.scr ns), false, false⟩, some ⟨.shr (.int (k : Nat)), false, false⟩, some ⟨.ol src, false, false⟩, some ⟨.shr lc.fm.tree, false, false⟩, some ⟨.shr (.str (S (lc.pre ++ l))), false, false⟩, some ⟨.shr (.lst (lc.plp.map pD)), false, false⟩,
    some ⟨.ol ((lc.plp.map pD ++ [D.tup [.int 1, .int 1]]).set 0 (.tup [.int 0, .int 0])), false, false⟩, some ⟨.ol (lc.fm.words.map opD), false, false⟩, x8, none, none]) ⟨rfl, rfl⟩ ?_ ?_
  · rintro acc e ⟨rfl, rfl⟩
    rw [List.length_map, List.take_of_length_le (by rw [hwps, hwl]; omega)]
    refine ⟨_, by walk_at "at", ?_⟩
    have hne : ((((lc.fm.words.map opD).length : Nat) : Int)) = (((lc.plp.map pD).length : Nat) : Int) := by rw [List.length_map, List.length_map, hwl, hpl]
    have hne2 : (!decide (((((lc.fm.words.map opD).length : Nat) : Int)) = (((lc.plp.map pD).length : Nat) : Int))) = false := by rw [decide_eq_true hne]; rfl
    walk_at "law"
    refine x_compile lc T.ok T.tz T.af T.len (by omega) T.dep (by have := T.many; omega) ?_
    walk_at "law"
    refine x_sameL (k := 5) hww.1 (by omega) (by omega) ?_
    walk_at "law"
    refine x_columns lc T.ok T.tz T.af T.len ?_
    rw [pls_plp]
    walk_at "law"
    refine x_sameM (k := 5) hps.1 (by omega) hll ?_
    walk_at "law"
    exact ⟨_, _, _, _, _, _, _, _, .s, .s, .s, .s, .s, .s, .s, .s, rfl⟩
  · rintro j acc e hj ⟨rfl, rfl⟩
    have hj1 : j < lc.fm.words.length := by simpa using hj
    have hj2 : j < lc.plp.length := by omega
    have hj3 : j < (wps lc.fm.words lc.plp).length := by omega
    have i1 : atI (lc.fm.words.map opD) (j : Int) = some (opD lc.fm.words[j]) := by rw [at_nat (by simpa using hj1), List.getElem_map]
    have i2 : atI (lc.plp.map pD) (j : Int) = some (pD lc.plp[j]) := by rw [at_nat (by simpa using hj2), List.getElem_map]
    have i3 : (wps lc.fm.words lc.plp)[j] = wpD lc.fm.words[j] lc.plp[j] := by simp only [wps, List.getElem_map, List.getElem_zip]
    walk_at "law"
    unfold opD pD
    walk_at "law"
    refine acc_q (by rw [List.length_take]; omega) (by walk_at "at") ⟨?_, rfl⟩
    rw [List.take_succ_eq_append_getElem hj3, i3]; rfl
theorem x_lwBE {env : Sto} {P : Out → Prop} (h : Stop (XS lwB env P)) : XS lwB env P := h
theorem oo_tell : Str.ofString "tell " = S [116, 101, 108, 108, 32] := by decide +kernel
theorem oo_eq : Str.ofString " =" = S [32, 61] := by decide +kernel
theorem oo_ex : Str.ofString "!" = S [33] := by decide +kernel
theorem eq_cs : (Tk.op .eq).cs = [61] := rfl
theorem odd_tz {cs : List Nat} (h : stemW cs 8) : Tz (32 :: (cs ++ [32, 61])) 4 [((5 : Nat) + 1, Tk.name (S cs)), ((((5 + cs.length + 1 : Nat) : Int)) + 1, Tk.op .eq)] := by
  refine .sp (.tok (t := .name (S cs)) (var1 h).2 (by show isAln 32 = false; decide) (.sp ?_))
  exact .tok (t := .op .eq) (rest := []) trivial trivial .nil
local macro_rules | `(tactic| walk_at "law") => `(tactic| repeat' (first | with_reducible refine x_lwBE ?_ | walk_at "1" | ((with_reducible refine lend_ok ?_ ?_); (focus rfl)) | ((with_reducible apply wbx); (focus (walk_at "wb"; done)); (focus rfl)) | walk_at "tf" | walk_at "isi"))
theorem x_law (ns : List Int) (h63 : ns.length ≤ 63) {Q : Rs → List O → Prop} (q : Q (.o (.shr (.bl true))) [.shr (.scr ns)]) : XF F_law [.shr (.scr ns)] Q := by
  refine xf' rfl (by walk_at "at") ?_
  unfold f_law
  rw [oo_tell, oo_eq, oo_ex]
  walk_at "law"
  refine (r1N (n := 6) (by decide) ?_ : R1 [.shr (.int 6)] _)
  walk_at "law"
  refine xl_rng (JL ns) ⟨none, none, none, none, none, none, none, none, .n, .n, .n, .n, .n, .n, .n, .n, rfl⟩ ?_ ?_
  · rintro e ⟨x1, x2, x3, x4, x5, x6, x7, x8, f1, f2, f3, f4, f5, f6, f7, f8, rfl⟩
    walk_at "law"
    refine (x_source ns 6 h63 (by decide) fun src hs => ?_ : XF F_source [.shr (.scr ns), .shr (.int 6)] _)
    walk_at "law"
    refine (x_stem (most := 8) hs (by decide) fun cs src' hw hs' => ?_ : XF F_stem [.ol src, .shr (.int 8)] _)
    have hcl : cs.length ≤ 8 := by
      obtain ⟨c, r, rfl, _, _, h⟩ := hw
      exact h
    have hz := odd_tz hw
    have ho := (var1 hw).1
    have hL : (sTell ++ (32 :: (cs ++ [32, 61]))).length ≤ 90000 := by simp [sTell]; omega
    have hl : (32 :: (cs ++ [32, 61])).length ≤ 80000 := by simp; omega
    walk_at "law"
    refine xo_addS (by rw [SX.S_len, SX.S_len]; simp; omega) ?_
    rw [SX.S_cat]
    walk_at "law"
    refine xo_addS (by rw [SX.S_len, SX.S_len]; simp; omega) ?_
    rw [SX.S_cat, show [116, 101, 108, 108, 32] ++ cs ++ [32, 61] = sTell ++ (32 :: (cs ++ [32, 61])) from by simp [sTell]]
    walk_at "law"
    refine xo_addS (by rw [SX.S_len, SX.S_len]; simp [sTell]; omega) ?_
    rw [SX.S_cat, show [33] ++ (sTell ++ (32 :: (cs ++ [32, 61]))) = 33 :: (sTell ++ (32 :: (cs ++ [32, 61]))) from rfl]
    walk_at "law"
    refine x_brk ?_
    walk_at "law"
    refine x_sameL (k := 5) (ds := []) rfl (by decide) (by decide) ?_
    walk_at "law"
    refine x_columnsO ho hz rfl hl ?_
    walk_at "law"
    refine lenT hL ?_
    walk_at "law"
    refine x_sameL (k := 5) rfl (by show 1 < 5; decide) (by show 1 ≤ 1000; decide) ?_
    walk_at "law"
    refine x_compileO ho hz rfl hl ?_
    walk_at "law"
    refine lenT hL ?_
    walk_at "law"
    refine x_sameL (k := 5) rfl (by show 1 < 5; decide) (by show 1 ≤ 1000; decide) ?_
    walk_at "law"
    exact q
  · rintro k e hk ⟨x1, x2, x3, x4, x5, x6, x7, x8, f1, f2, f3, f4, f5, f6, f7, f8, rfl⟩
    walk_at "law"
    refine x_source ns k h63 (by omega) fun src hs => ?_
    walk_at "law"
    refine x_formed hs fun f src1 hf hs1 => ?_
    walk_at "law"
    refine x_spread f hf hs1 fun lc l src2 e1 hw hz ha hl hs2 => ?_
    subst e1
    walk_at "law"
    exact x_lwB (turn_of lc hf hw hz ha hl) f6 f7 f8
end K39

set_option maxRecDepth 100000
set_option maxHeartbeats 4000000
namespace K39
open PV PySem L2 PySem.Spec PyProof.Rows
def spLaw (K : PySem.W.Frag) : Sp := fun vs H Q _ => ∃ (a : Addr) (ns : List Int), vs = [.ref a] ∧ SqL K H a (ns.map V.int) ∧ ns.length ≤ 63 ∧ ∀ H', Q (.bl true) H'
theorem law_runs (ns : List Int) (h : ns.length ≤ 63) : ∃ fin, F_law [.shr (.scr ns)] = some (.o (.shr (.bl true)), fin) := by
  obtain ⟨⟨r, fs⟩, e, q⟩ := x_law ns (Q := fun r _ => r = .o (.shr (.bl true))) h rfl
  cases q
  exact ⟨fs, e⟩
theorem sp_law {K : PySem.W.Frag} : ∀ vs H Q E, spLaw K vs H Q E → spV K F_law vs H Q E := by
  rintro vs H Q E ⟨a, ns, rfl, hS, hl, q⟩
  obtain ⟨fin, e⟩ := law_runs ns hl
  refine ⟨H, [.shr (.scr ns)], _, fin, fun _ _ h => h, .cons (show Dd K H _ _ from .scr hS) .nil, ?_, e, ?_⟩
  · intro j k o p a ho h
    match j, ho with
    | 0, ho => cases ho; cases h
    | j + 1, ho => cases ho
  · intro Hs' H' v _ _ _ hr
    obtain ⟨h1, _⟩ := hr
    cases (show Dd K Hs' (.bl true) v from h1)
    exact q H'
theorem all_mk {l : PySem.W.OpenLaw} {w : World} {K : PySem.W.Frag} {h : Heap} {mg : Str → Option Value} {fa f1 f2 f3 f4 f5 f6 f7 f8 f9 f10 f11 f12 f13 f14 f15 f16 f17 f18 f19 f20 f21 f22 f23 f24 f25 f26 f27 f28 f29 f30 f31 f32 f33 f34 f35 f36 f37 f38 f39 f40 f41 f42 f43 f44 f45 f46 f47 f48 f49 f50 f51 f52 f53 f54 f55 : Addr} (X : K.In h) (G : h.Ns mainGlobals mg) (hfa : mg "law" = some (.ref fa))
    {od1 an1 od2 an2 od3 an3 od4 an4 od5 an5 od6 an6 od7 an7 od8 an8 od9 an9 od10 an10 od11 an11 od12 an12 od13 an13 od14 an14 od15 an15 od16 an16 od17 an17 od18 an18 od19 an19 od20 an20 od21 an21 od22 an22 od23 an23 od24 an24 od25 an25 od26 an26 od27 an27 od28 an28 od29 an29 od30 an30 od31 an31 od32 an32 od33 an33 od34 an34 od35 an35 od36 an36 od37 an37 od38 an38 od39 an39 od40 an40 od41 an41 od42 an42 od43 an43 od44 an44 od45 an45 od46 an46 od47 an47 od48 an48 od49 an49 od50 an50 od51 an51 od52 an52 od53 an53 od54 an54 od55 an55 : Option Addr} {sl1 sl2 sl3 sl4 sl5 sl6 sl7 sl8 sl9 sl10 sl11 sl12 sl13 sl14 sl15 sl16 sl17 sl18 sl19 sl20 sl21 sl22 sl23 sl24 sl25 sl26 sl27 sl28 sl29 sl30 sl31 sl32 sl33 sl34 sl35 sl36 sl37 sl38 sl39 sl40 sl41 sl42 sl43 sl44 sl45 sl46 sl47 sl48 sl49 sl50 sl51 sl52 sl53 sl54 sl55 : Array (Option Value)} {oc1 kV1 dc1 pm1 cd1 ct1 oc2 kV2 dc2 pm2 cd2 ct2 oc3 kV3 dc3 pm3 cd3 ct3 oc4 kV4 dc4 pm4 cd4 ct4 oc5 kV5 dc5 pm5 cd5 ct5 oc6 kV6 dc6 pm6 cd6 ct6 oc7 kV7 dc7 pm7 cd7 ct7 oc8 kV8 dc8 pm8 cd8 ct8 oc9 kV9 dc9 pm9 cd9 ct9 oc10 kV10 dc10 pm10 cd10 ct10 oc11 kV11 dc11 pm11 cd11 ct11 oc12 kV12 dc12 pm12 cd12 ct12 oc13 kV13 dc13 pm13 cd13 ct13 oc14 kV14 dc14 pm14 cd14 ct14 oc15 kV15 dc15 pm15 cd15 ct15 oc16 kV16 dc16 pm16 cd16 ct16 oc17 kV17 dc17 pm17 cd17 ct17 oc18 kV18 dc18 pm18 cd18 ct18 oc19 kV19 dc19 pm19 cd19 ct19 oc20 kV20 dc20 pm20 cd20 ct20 oc21 kV21 dc21 pm21 cd21 ct21 oc22 kV22 dc22 pm22 cd22 ct22 oc23 kV23 dc23 pm23 cd23 ct23 oc24 kV24 dc24 pm24 cd24 ct24 oc25 kV25 dc25 pm25 cd25 ct25 oc26 kV26 dc26 pm26 cd26 ct26 oc27 kV27 dc27 pm27 cd27 ct27 oc28 kV28 dc28 pm28 cd28 ct28 oc29 kV29 dc29 pm29 cd29 ct29 oc30 kV30 dc30 pm30 cd30 ct30 oc31 kV31 dc31 pm31 cd31 ct31 oc32 kV32 dc32 pm32 cd32 ct32 oc33 kV33 dc33 pm33 cd33 ct33 oc34 kV34 dc34 pm34 cd34 ct34 oc35 kV35 dc35 pm35 cd35 ct35 oc36 kV36 dc36 pm36 cd36 ct36 oc37 kV37 dc37 pm37 cd37 ct37 oc38 kV38 dc38 pm38 cd38 ct38 oc39 kV39 dc39 pm39 cd39 ct39 oc40 kV40 dc40 pm40 cd40 ct40 oc41 kV41 dc41 pm41 cd41 ct41 oc42 kV42 dc42 pm42 cd42 ct42 oc43 kV43 dc43 pm43 cd43 ct43 oc44 kV44 dc44 pm44 cd44 ct44 oc45 kV45 dc45 pm45 cd45 ct45 oc46 kV46 dc46 pm46 cd46 ct46 oc47 kV47 dc47 pm47 cd47 ct47 oc48 kV48 dc48 pm48 cd48 ct48 oc49 kV49 dc49 pm49 cd49 ct49 oc50 kV50 dc50 pm50 cd50 ct50 oc51 kV51 dc51 pm51 cd51 ct51 oc52 kV52 dc52 pm52 cd52 ct52 oc53 kV53 dc53 pm53 cd53 ct53 oc54 kV54 dc54 pm54 cd54 ct54 oc55 kV55 dc55 pm55 cd55 ct55 : Value} {t5 : Tok} {t6 : Tok} {t7 : Tok} {t8 : Tok} {dk3 : Addr} {es3 : Array DictEntry} {nn3 : Nat} {dk9 : Addr} {es9 : Array DictEntry} {nn9 : Nat}
    (a1 : PySem.W.nsIn K mainGlobals "is_variable" = some (some (.ref f1))) (l1 : K.lookup f1 = some ⟨oc1, od1, .func (PySem.W.fnOf "is_variable" "is_variable" (defArgs tx_is_variable) (defBody tx_is_variable) (defScope tx_is_variable) .none kV1 dc1 pm1 an1 cd1 ct1), sl1⟩) (c1 : PySem.W.codeIn K cd1 "is_variable" = true) (k1 : PySem.W.keepIn K (.ref f1) = true)
    (a2 : PySem.W.nsIn K mainGlobals "is_number" = some (some (.ref f2))) (l2 : K.lookup f2 = some ⟨oc2, od2, .func (PySem.W.fnOf "is_number" "is_number" (defArgs tx_is_number) (defBody tx_is_number) (defScope tx_is_number) .none kV2 dc2 pm2 an2 cd2 ct2), sl2⟩) (c2 : PySem.W.codeIn K cd2 "is_number" = true) (k2 : PySem.W.keepIn K (.ref f2) = true)
    (a3 : PySem.W.nsIn K mainGlobals "leaf_of" = some (some (.ref f3))) (l3 : K.lookup f3 = some ⟨oc3, od3, .func (PySem.W.fnOf "leaf_of" "leaf_of" (defArgs tx_leaf_of) (defBody tx_leaf_of) (defScope tx_leaf_of) .none kV3 dc3 pm3 an3 cd3 ct3), sl3⟩) (c3 : PySem.W.codeIn K cd3 "leaf_of" = true) (k3 : PySem.W.keepIn K (.ref f3) = true)
    (a4 : PySem.W.nsIn K mainGlobals "move_waiting" = some (some (.ref f4))) (l4 : K.lookup f4 = some ⟨oc4, od4, .func (PySem.W.fnOf "move_waiting" "move_waiting" (defArgs tx_move_waiting) (defBody tx_move_waiting) (defScope tx_move_waiting) .none kV4 dc4 pm4 an4 cd4 ct4), sl4⟩) (c4 : PySem.W.codeIn K cd4 "move_waiting" = true) (k4 : PySem.W.keepIn K (.ref f4) = true)
    (a5 : PySem.W.nsIn K mainGlobals "put_sign" = some (some (.ref f5))) (l5 : K.lookup f5 = some ⟨oc5, od5, .func (PySem.W.fnOf "put_sign" "put_sign" (defArgs tx_put_sign) (defBody tx_put_sign) (defScope tx_put_sign) .none kV5 dc5 pm5 an5 cd5 ct5), sl5⟩) (c5 : PySem.W.codeIn K cd5 "put_sign" = true) (k5 : PySem.W.keepIn K (.ref f5) = true)
    (a6 : PySem.W.nsIn K mainGlobals "close_bracket" = some (some (.ref f6))) (l6 : K.lookup f6 = some ⟨oc6, od6, .func (PySem.W.fnOf "close_bracket" "close_bracket" (defArgs tx_close_bracket) (defBody tx_close_bracket) (defScope tx_close_bracket) .none kV6 dc6 pm6 an6 cd6 ct6), sl6⟩) (c6 : PySem.W.codeIn K cd6 "close_bracket" = true) (k6 : PySem.W.keepIn K (.ref f6) = true)
    (a7 : PySem.W.nsIn K mainGlobals "read_postfix" = some (some (.ref f7))) (l7 : K.lookup f7 = some ⟨oc7, od7, .func (PySem.W.fnOf "read_postfix" "read_postfix" (defArgs tx_read_postfix) (defBody tx_read_postfix) (defScope tx_read_postfix) .none kV7 dc7 pm7 an7 cd7 ct7), sl7⟩) (c7 : PySem.W.codeIn K cd7 "read_postfix" = true) (k7 : PySem.W.keepIn K (.ref f7) = true)
    (a8 : PySem.W.nsIn K mainGlobals "tree_of" = some (some (.ref f8))) (l8 : K.lookup f8 = some ⟨oc8, od8, .func (PySem.W.fnOf "tree_of" "tree_of" (defArgs tx_tree_of) (defBody tx_tree_of) (defScope tx_tree_of) .none kV8 dc8 pm8 an8 cd8 ct8), sl8⟩) (c8 : PySem.W.codeIn K cd8 "tree_of" = true) (k8 : PySem.W.keepIn K (.ref f8) = true)
    (a9 : PySem.W.nsIn K mainGlobals "places_of_items" = some (some (.ref f9))) (l9 : K.lookup f9 = some ⟨oc9, od9, .func (PySem.W.fnOf "places_of_items" "places_of_items" (defArgs tx_places_of_items) (defBody tx_places_of_items) (defScope tx_places_of_items) .none kV9 dc9 pm9 an9 cd9 ct9), sl9⟩) (c9 : PySem.W.codeIn K cd9 "places_of_items" = true) (k9 : PySem.W.keepIn K (.ref f9) = true)
    (a10 : PySem.W.nsIn K mainGlobals "made_of" = some (some (.ref f10))) (l10 : K.lookup f10 = some ⟨oc10, od10, .func (PySem.W.fnOf "made_of" "made_of" (defArgs tx_made_of) (defBody tx_made_of) (defScope tx_made_of) .none kV10 dc10 pm10 an10 cd10 ct10), sl10⟩) (c10 : PySem.W.codeIn K cd10 "made_of" = true) (k10 : PySem.W.keepIn K (.ref f10) = true)
    (a11 : PySem.W.nsIn K mainGlobals "is_word" = some (some (.ref f11))) (l11 : K.lookup f11 = some ⟨oc11, od11, .func (PySem.W.fnOf "is_word" "is_word" (defArgs tx_is_word) (defBody tx_is_word) (defScope tx_is_word) .none kV11 dc11 pm11 an11 cd11 ct11), sl11⟩) (c11 : PySem.W.codeIn K cd11 "is_word" = true) (k11 : PySem.W.keepIn K (.ref f11) = true)
    (a12 : PySem.W.nsIn K mainGlobals "is_path" = some (some (.ref f12))) (l12 : K.lookup f12 = some ⟨oc12, od12, .func (PySem.W.fnOf "is_path" "is_path" (defArgs tx_is_path) (defBody tx_is_path) (defScope tx_is_path) .none kV12 dc12 pm12 an12 cd12 ct12), sl12⟩) (c12 : PySem.W.codeIn K cd12 "is_path" = true) (k12 : PySem.W.keepIn K (.ref f12) = true)
    (a13 : PySem.W.nsIn K mainGlobals "is_letter" = some (some (.ref f13))) (l13 : K.lookup f13 = some ⟨oc13, od13, .func (PySem.W.fnOf "is_letter" "is_letter" (defArgs tx_is_letter) (defBody tx_is_letter) (defScope tx_is_letter) .none kV13 dc13 pm13 an13 cd13 ct13), sl13⟩) (c13 : PySem.W.codeIn K cd13 "is_letter" = true) (k13 : PySem.W.keepIn K (.ref f13) = true)
    (a14 : PySem.W.nsIn K mainGlobals "is_figure" = some (some (.ref f14))) (l14 : K.lookup f14 = some ⟨oc14, od14, .func (PySem.W.fnOf "is_figure" "is_figure" (defArgs tx_is_figure) (defBody tx_is_figure) (defScope tx_is_figure) .none kV14 dc14 pm14 an14 cd14 ct14), sl14⟩) (c14 : PySem.W.codeIn K cd14 "is_figure" = true) (k14 : PySem.W.keepIn K (.ref f14) = true)
    (a15 : PySem.W.nsIn K mainGlobals "run_end" = some (some (.ref f15))) (l15 : K.lookup f15 = some ⟨oc15, od15, .func (PySem.W.fnOf "run_end" "run_end" (defArgs tx_run_end) (defBody tx_run_end) (defScope tx_run_end) .none kV15 dc15 pm15 an15 cd15 ct15), sl15⟩) (c15 : PySem.W.codeIn K cd15 "run_end" = true) (k15 : PySem.W.keepIn K (.ref f15) = true)
    (a16 : PySem.W.nsIn K mainGlobals "token_end" = some (some (.ref f16))) (l16 : K.lookup f16 = some ⟨oc16, od16, .func (PySem.W.fnOf "token_end" "token_end" (defArgs tx_token_end) (defBody tx_token_end) (defScope tx_token_end) .none kV16 dc16 pm16 an16 cd16 ct16), sl16⟩) (c16 : PySem.W.codeIn K cd16 "token_end" = true) (k16 : PySem.W.keepIn K (.ref f16) = true)
    (a17 : PySem.W.nsIn K mainGlobals "tokens_from" = some (some (.ref f17))) (l17 : K.lookup f17 = some ⟨oc17, od17, .func (PySem.W.fnOf "tokens_from" "tokens_from" (defArgs tx_tokens_from) (defBody tx_tokens_from) (defScope tx_tokens_from) .none kV17 dc17 pm17 an17 cd17 ct17), sl17⟩) (c17 : PySem.W.codeIn K cd17 "tokens_from" = true) (k17 : PySem.W.keepIn K (.ref f17) = true)
    (a18 : PySem.W.nsIn K mainGlobals "first_word" = some (some (.ref f18))) (l18 : K.lookup f18 = some ⟨oc18, od18, .func (PySem.W.fnOf "first_word" "first_word" (defArgs tx_first_word) (defBody tx_first_word) (defScope tx_first_word) .none kV18 dc18 pm18 an18 cd18 ct18), sl18⟩) (c18 : PySem.W.codeIn K cd18 "first_word" = true) (k18 : PySem.W.keepIn K (.ref f18) = true)
    (a19 : PySem.W.nsIn K mainGlobals "tokens_of" = some (some (.ref f19))) (l19 : K.lookup f19 = some ⟨oc19, od19, .func (PySem.W.fnOf "tokens_of" "tokens_of" (defArgs tx_tokens_of) (defBody tx_tokens_of) (defScope tx_tokens_of) .none kV19 dc19 pm19 an19 cd19 ct19), sl19⟩) (c19 : PySem.W.codeIn K cd19 "tokens_of" = true) (k19 : PySem.W.keepIn K (.ref f19) = true)
    (a20 : PySem.W.nsIn K mainGlobals "path_end" = some (some (.ref f20))) (l20 : K.lookup f20 = some ⟨oc20, od20, .func (PySem.W.fnOf "path_end" "path_end" (defArgs tx_path_end) (defBody tx_path_end) (defScope tx_path_end) .none kV20 dc20 pm20 an20 cd20 ct20), sl20⟩) (c20 : PySem.W.codeIn K cd20 "path_end" = true) (k20 : PySem.W.keepIn K (.ref f20) = true)
    (a21 : PySem.W.nsIn K mainGlobals "place_of" = some (some (.ref f21))) (l21 : K.lookup f21 = some ⟨oc21, od21, .func (PySem.W.fnOf "place_of" "place_of" (defArgs tx_place_of) (defBody tx_place_of) (defScope tx_place_of) .none kV21 dc21 pm21 an21 cd21 ct21), sl21⟩) (c21 : PySem.W.codeIn K cd21 "place_of" = true) (k21 : PySem.W.keepIn K (.ref f21) = true)
    (a22 : PySem.W.nsIn K mainGlobals "is_target" = some (some (.ref f22))) (l22 : K.lookup f22 = some ⟨oc22, od22, .func (PySem.W.fnOf "is_target" "is_target" (defArgs tx_is_target) (defBody tx_is_target) (defScope tx_is_target) .none kV22 dc22 pm22 an22 cd22 ct22), sl22⟩) (c22 : PySem.W.codeIn K cd22 "is_target" = true) (k22 : PySem.W.keepIn K (.ref f22) = true)
    (a23 : PySem.W.nsIn K mainGlobals "whole_items" = some (some (.ref f23))) (l23 : K.lookup f23 = some ⟨oc23, od23, .func (PySem.W.fnOf "whole_items" "whole_items" (defArgs tx_whole_items) (defBody tx_whole_items) (defScope tx_whole_items) .none kV23 dc23 pm23 an23 cd23 ct23), sl23⟩) (c23 : PySem.W.codeIn K cd23 "whole_items" = true) (k23 : PySem.W.keepIn K (.ref f23) = true)
    (a24 : PySem.W.nsIn K mainGlobals "read_set" = some (some (.ref f24))) (l24 : K.lookup f24 = some ⟨oc24, od24, .func (PySem.W.fnOf "read_set" "read_set" (defArgs tx_read_set) (defBody tx_read_set) (defScope tx_read_set) .none kV24 dc24 pm24 an24 cd24 ct24), sl24⟩) (c24 : PySem.W.codeIn K cd24 "read_set" = true) (k24 : PySem.W.keepIn K (.ref f24) = true)
    (a25 : PySem.W.nsIn K mainGlobals "read_line_number" = some (some (.ref f25))) (l25 : K.lookup f25 = some ⟨oc25, od25, .func (PySem.W.fnOf "read_line_number" "read_line_number" (defArgs tx_read_line_number) (defBody tx_read_line_number) (defScope tx_read_line_number) .none kV25 dc25 pm25 an25 cd25 ct25), sl25⟩) (c25 : PySem.W.codeIn K cd25 "read_line_number" = true) (k25 : PySem.W.keepIn K (.ref f25) = true)
    (a26 : PySem.W.nsIn K mainGlobals "read_go" = some (some (.ref f26))) (l26 : K.lookup f26 = some ⟨oc26, od26, .func (PySem.W.fnOf "read_go" "read_go" (defArgs tx_read_go) (defBody tx_read_go) (defScope tx_read_go) .none kV26 dc26 pm26 an26 cd26 ct26), sl26⟩) (c26 : PySem.W.codeIn K cd26 "read_go" = true) (k26 : PySem.W.keepIn K (.ref f26) = true)
    (a27 : PySem.W.nsIn K mainGlobals "read_arguments" = some (some (.ref f27))) (l27 : K.lookup f27 = some ⟨oc27, od27, .func (PySem.W.fnOf "read_arguments" "read_arguments" (defArgs tx_read_arguments) (defBody tx_read_arguments) (defScope tx_read_arguments) .none kV27 dc27 pm27 an27 cd27 ct27), sl27⟩) (c27 : PySem.W.codeIn K cd27 "read_arguments" = true) (k27 : PySem.W.keepIn K (.ref f27) = true)
    (a28 : PySem.W.nsIn K mainGlobals "read_call" = some (some (.ref f28))) (l28 : K.lookup f28 = some ⟨oc28, od28, .func (PySem.W.fnOf "read_call" "read_call" (defArgs tx_read_call) (defBody tx_read_call) (defScope tx_read_call) .none kV28 dc28 pm28 an28 cd28 ct28), sl28⟩) (c28 : PySem.W.codeIn K cd28 "read_call" = true) (k28 : PySem.W.keepIn K (.ref f28) = true)
    (a29 : PySem.W.nsIn K mainGlobals "read_value" = some (some (.ref f29))) (l29 : K.lookup f29 = some ⟨oc29, od29, .func (PySem.W.fnOf "read_value" "read_value" (defArgs tx_read_value) (defBody tx_read_value) (defScope tx_read_value) .none kV29 dc29 pm29 an29 cd29 ct29), sl29⟩) (c29 : PySem.W.codeIn K cd29 "read_value" = true) (k29 : PySem.W.keepIn K (.ref f29) = true)
    (a30 : PySem.W.nsIn K mainGlobals "read_hear" = some (some (.ref f30))) (l30 : K.lookup f30 = some ⟨oc30, od30, .func (PySem.W.fnOf "read_hear" "read_hear" (defArgs tx_read_hear) (defBody tx_read_hear) (defScope tx_read_hear) .none kV30 dc30 pm30 an30 cd30 ct30), sl30⟩) (c30 : PySem.W.codeIn K cd30 "read_hear" = true) (k30 : PySem.W.keepIn K (.ref f30) = true)
    (a31 : PySem.W.nsIn K mainGlobals "read_form" = some (some (.ref f31))) (l31 : K.lookup f31 = some ⟨oc31, od31, .func (PySem.W.fnOf "read_form" "read_form" (defArgs tx_read_form) (defBody tx_read_form) (defScope tx_read_form) .none kV31 dc31 pm31 an31 cd31 ct31), sl31⟩) (c31 : PySem.W.codeIn K cd31 "read_form" = true) (k31 : PySem.W.keepIn K (.ref f31) = true)
    (a32 : PySem.W.nsIn K mainGlobals "read_whole" = some (some (.ref f32))) (l32 : K.lookup f32 = some ⟨oc32, od32, .func (PySem.W.fnOf "read_whole" "read_whole" (defArgs tx_read_whole) (defBody tx_read_whole) (defScope tx_read_whole) .none kV32 dc32 pm32 an32 cd32 ct32), sl32⟩) (c32 : PySem.W.codeIn K cd32 "read_whole" = true) (k32 : PySem.W.keepIn K (.ref f32) = true)
    (a33 : PySem.W.nsIn K mainGlobals "read_code" = some (some (.ref f33))) (l33 : K.lookup f33 = some ⟨oc33, od33, .func (PySem.W.fnOf "read_code" "read_code" (defArgs tx_read_code) (defBody tx_read_code) (defScope tx_read_code) .none kV33 dc33 pm33 an33 cd33 ct33), sl33⟩) (c33 : PySem.W.codeIn K cd33 "read_code" = true) (k33 : PySem.W.keepIn K (.ref f33) = true)
    (a34 : PySem.W.nsIn K mainGlobals "columns_of" = some (some (.ref f34))) (l34 : K.lookup f34 = some ⟨oc34, od34, .func (PySem.W.fnOf "columns_of" "columns_of" (defArgs tx_columns_of) (defBody tx_columns_of) (defScope tx_columns_of) .none kV34 dc34 pm34 an34 cd34 ct34), sl34⟩) (c34 : PySem.W.codeIn K cd34 "columns_of" = true) (k34 : PySem.W.keepIn K (.ref f34) = true)
    (a35 : PySem.W.nsIn K mainGlobals "put_expression" = some (some (.ref f35))) (l35 : K.lookup f35 = some ⟨oc35, od35, .func (PySem.W.fnOf "put_expression" "put_expression" (defArgs tx_put_expression) (defBody tx_put_expression) (defScope tx_put_expression) .none kV35 dc35 pm35 an35 cd35 ct35), sl35⟩) (c35 : PySem.W.codeIn K cd35 "put_expression" = true) (k35 : PySem.W.keepIn K (.ref f35) = true)
    (a36 : PySem.W.nsIn K mainGlobals "expressions_in" = some (some (.ref f36))) (l36 : K.lookup f36 = some ⟨oc36, od36, .func (PySem.W.fnOf "expressions_in" "expressions_in" (defArgs tx_expressions_in) (defBody tx_expressions_in) (defScope tx_expressions_in) .none kV36 dc36 pm36 an36 cd36 ct36), sl36⟩) (c36 : PySem.W.codeIn K cd36 "expressions_in" = true) (k36 : PySem.W.keepIn K (.ref f36) = true)
    (a37 : PySem.W.nsIn K mainGlobals "deed_of" = some (some (.ref f37))) (l37 : K.lookup f37 = some ⟨oc37, od37, .func (PySem.W.fnOf "deed_of" "deed_of" (defArgs tx_deed_of) (defBody tx_deed_of) (defScope tx_deed_of) .none kV37 dc37 pm37 an37 cd37 ct37), sl37⟩) (c37 : PySem.W.codeIn K cd37 "deed_of" = true) (k37 : PySem.W.keepIn K (.ref f37) = true)
    (a38 : PySem.W.nsIn K mainGlobals "compile_code" = some (some (.ref f38))) (l38 : K.lookup f38 = some ⟨oc38, od38, .func (PySem.W.fnOf "compile_code" "compile_code" (defArgs tx_compile_code) (defBody tx_compile_code) (defScope tx_compile_code) .none kV38 dc38 pm38 an38 cd38 ct38), sl38⟩) (c38 : PySem.W.codeIn K cd38 "compile_code" = true) (k38 : PySem.W.keepIn K (.ref f38) = true)
    (a39 : PySem.W.nsIn K mainGlobals "_law_source" = some (some (.ref f39))) (l39 : K.lookup f39 = some ⟨oc39, od39, .func (PySem.W.fnOf "_law_source" "_law_source" (defArgs tx_source) (defBody tx_source) (defScope tx_source) .none kV39 dc39 pm39 an39 cd39 ct39), sl39⟩) (c39 : PySem.W.codeIn K cd39 "_law_source" = true) (k39 : PySem.W.keepIn K (.ref f39) = true)
    (a40 : PySem.W.nsIn K mainGlobals "_law_pick" = some (some (.ref f40))) (l40 : K.lookup f40 = some ⟨oc40, od40, .func (PySem.W.fnOf "_law_pick" "_law_pick" (defArgs tx_pick) (defBody tx_pick) (defScope tx_pick) .none kV40 dc40 pm40 an40 cd40 ct40), sl40⟩) (c40 : PySem.W.codeIn K cd40 "_law_pick" = true) (k40 : PySem.W.keepIn K (.ref f40) = true)
    (a41 : PySem.W.nsIn K mainGlobals "_law_same" = some (some (.ref f41))) (l41 : K.lookup f41 = some ⟨oc41, od41, .func (PySem.W.fnOf "_law_same" "_law_same" (defArgs tx_same) (defBody tx_same) (defScope tx_same) .none kV41 dc41 pm41 an41 cd41 ct41), sl41⟩) (c41 : PySem.W.codeIn K cd41 "_law_same" = true) (k41 : PySem.W.keepIn K (.ref f41) = true)
    (a42 : PySem.W.nsIn K mainGlobals "_law_big" = some (some (.ref f42))) (l42 : K.lookup f42 = some ⟨oc42, od42, .func (PySem.W.fnOf "_law_big" "_law_big" (defArgs tx_big) (defBody tx_big) (defScope tx_big) .none kV42 dc42 pm42 an42 cd42 ct42), sl42⟩) (c42 : PySem.W.codeIn K cd42 "_law_big" = true) (k42 : PySem.W.keepIn K (.ref f42) = true)
    (a43 : PySem.W.nsIn K mainGlobals "_law_stem" = some (some (.ref f43))) (l43 : K.lookup f43 = some ⟨oc43, od43, .func (PySem.W.fnOf "_law_stem" "_law_stem" (defArgs tx_stem) (defBody tx_stem) (defScope tx_stem) .none kV43 dc43 pm43 an43 cd43 ct43), sl43⟩) (c43 : PySem.W.codeIn K cd43 "_law_stem" = true) (k43 : PySem.W.keepIn K (.ref f43) = true)
    (a44 : PySem.W.nsIn K mainGlobals "_law_variable" = some (some (.ref f44))) (l44 : K.lookup f44 = some ⟨oc44, od44, .func (PySem.W.fnOf "_law_variable" "_law_variable" (defArgs tx_variable) (defBody tx_variable) (defScope tx_variable) .none kV44 dc44 pm44 an44 cd44 ct44), sl44⟩) (c44 : PySem.W.codeIn K cd44 "_law_variable" = true) (k44 : PySem.W.keepIn K (.ref f44) = true)
    (a45 : PySem.W.nsIn K mainGlobals "_law_grown" = some (some (.ref f45))) (l45 : K.lookup f45 = some ⟨oc45, od45, .func (PySem.W.fnOf "_law_grown" "_law_grown" (defArgs tx_grown) (defBody tx_grown) (defScope tx_grown) .none kV45 dc45 pm45 an45 cd45 ct45), sl45⟩) (c45 : PySem.W.codeIn K cd45 "_law_grown" = true) (k45 : PySem.W.keepIn K (.ref f45) = true)
    (a46 : PySem.W.nsIn K mainGlobals "_law_chain" = some (some (.ref f46))) (l46 : K.lookup f46 = some ⟨oc46, od46, .func (PySem.W.fnOf "_law_chain" "_law_chain" (defArgs tx_chain) (defBody tx_chain) (defScope tx_chain) .none kV46 dc46 pm46 an46 cd46 ct46), sl46⟩) (c46 : PySem.W.codeIn K cd46 "_law_chain" = true) (k46 : PySem.W.keepIn K (.ref f46) = true)
    (a47 : PySem.W.nsIn K mainGlobals "_law_some" = some (some (.ref f47))) (l47 : K.lookup f47 = some ⟨oc47, od47, .func (PySem.W.fnOf "_law_some" "_law_some" (defArgs tx_some) (defBody tx_some) (defScope tx_some) .none kV47 dc47 pm47 an47 cd47 ct47), sl47⟩) (c47 : PySem.W.codeIn K cd47 "_law_some" = true) (k47 : PySem.W.keepIn K (.ref f47) = true)
    (a48 : PySem.W.nsIn K mainGlobals "_law_pathname" = some (some (.ref f48))) (l48 : K.lookup f48 = some ⟨oc48, od48, .func (PySem.W.fnOf "_law_pathname" "_law_pathname" (defArgs tx_pathname) (defBody tx_pathname) (defScope tx_pathname) .none kV48 dc48 pm48 an48 cd48 ct48), sl48⟩) (c48 : PySem.W.codeIn K cd48 "_law_pathname" = true) (k48 : PySem.W.keepIn K (.ref f48) = true)
    (a49 : PySem.W.nsIn K mainGlobals "_law_formed" = some (some (.ref f49))) (l49 : K.lookup f49 = some ⟨oc49, od49, .func (PySem.W.fnOf "_law_formed" "_law_formed" (defArgs tx_formed) (defBody tx_formed) (defScope tx_formed) .none kV49 dc49 pm49 an49 cd49 ct49), sl49⟩) (c49 : PySem.W.codeIn K cd49 "_law_formed" = true) (k49 : PySem.W.keepIn K (.ref f49) = true)
    (a50 : PySem.W.nsIn K mainGlobals "_law_spelled" = some (some (.ref f50))) (l50 : K.lookup f50 = some ⟨oc50, od50, .func (PySem.W.fnOf "_law_spelled" "_law_spelled" (defArgs tx_spelled) (defBody tx_spelled) (defScope tx_spelled) .none kV50 dc50 pm50 an50 cd50 ct50), sl50⟩) (c50 : PySem.W.codeIn K cd50 "_law_spelled" = true) (k50 : PySem.W.keepIn K (.ref f50) = true)
    (a51 : PySem.W.nsIn K mainGlobals "_law_tokened" = some (some (.ref f51))) (l51 : K.lookup f51 = some ⟨oc51, od51, .func (PySem.W.fnOf "_law_tokened" "_law_tokened" (defArgs tx_tokened) (defBody tx_tokened) (defScope tx_tokened) .none kV51 dc51 pm51 an51 cd51 ct51), sl51⟩) (c51 : PySem.W.codeIn K cd51 "_law_tokened" = true) (k51 : PySem.W.keepIn K (.ref f51) = true)
    (a52 : PySem.W.nsIn K mainGlobals "_law_spread" = some (some (.ref f52))) (l52 : K.lookup f52 = some ⟨oc52, od52, .func (PySem.W.fnOf "_law_spread" "_law_spread" (defArgs tx_spread) (defBody tx_spread) (defScope tx_spread) .none kV52 dc52 pm52 an52 cd52 ct52), sl52⟩) (c52 : PySem.W.codeIn K cd52 "_law_spread" = true) (k52 : PySem.W.keepIn K (.ref f52) = true)
    (a53 : PySem.W.nsIn K mainGlobals "_law_ops" = some (some (.ref f53))) (l53 : K.lookup f53 = some ⟨oc53, od53, .func (PySem.W.fnOf "_law_ops" "_law_ops" (defArgs tx_ops) (defBody tx_ops) (defScope tx_ops) .none kV53 dc53 pm53 an53 cd53 ct53), sl53⟩) (c53 : PySem.W.codeIn K cd53 "_law_ops" = true) (k53 : PySem.W.keepIn K (.ref f53) = true)
    (a54 : PySem.W.nsIn K mainGlobals "_law_words" = some (some (.ref f54))) (l54 : K.lookup f54 = some ⟨oc54, od54, .func (PySem.W.fnOf "_law_words" "_law_words" (defArgs tx_words) (defBody tx_words) (defScope tx_words) .none kV54 dc54 pm54 an54 cd54 ct54), sl54⟩) (c54 : PySem.W.codeIn K cd54 "_law_words" = true) (k54 : PySem.W.keepIn K (.ref f54) = true)
    (a55 : PySem.W.nsIn K mainGlobals "law" = some (some (.ref f55))) (l55 : K.lookup f55 = some ⟨oc55, od55, .func (PySem.W.fnOf "law" "law" (defArgs tx_law) (defBody tx_law) (defScope tx_law) .none kV55 dc55 pm55 an55 cd55 ct55), sl55⟩) (c55 : PySem.W.codeIn K cd55 "law" = true) (k55 : PySem.W.keepIn K (.ref f55) = true)
    (z1 : PySem.W.nsIn K mainGlobals "len" = some none)
    (z2 : PySem.W.nsIn K mainGlobals "int" = some none)
    (z3 : PySem.W.nsIn K mainGlobals "RANKS" = some (some (.ref dk3))) (ld3 : K.lookup dk3 = some ⟨.type "dict", none, .dict es3 nn3, #[]⟩) (li3 : PySem.W.KeysLit w.params es3.toList) (lo3 : (dk3 == sysModules) = false) (to3 : TabOkI es3.toList T_RANKS)
    (z4 : PySem.W.nsIn K mainGlobals "all" = some none)
    (z5 : PySem.W.nsIn K mainGlobals "SMALL" = some (some (.str "abcdefghijklmnopqrstuvwxyz" t5)))
    (z6 : PySem.W.nsIn K mainGlobals "WORD_SIGNS" = some (some (.str "abcdefghijklmnopqrstuvwxyz0123456789" t6)))
    (z7 : PySem.W.nsIn K mainGlobals "PATH_SIGNS" = some (some (.str "abcdefghijklmnopqrstuvwxyz0123456789/" t7)))
    (z8 : PySem.W.nsIn K mainGlobals "MOST_LINE" = some (some (.int 1000000 t8)))
    (z9 : PySem.W.nsIn K mainGlobals "SIGN_OPS" = some (some (.ref dk9))) (ld9 : K.lookup dk9 = some ⟨.type "dict", none, .dict es9 nn9, #[]⟩) (li9 : PySem.W.KeysLit w.params es9.toList) (lo9 : (dk9 == sysModules) = false) (to9 : TabOk es9.toList T_SIGN_OPS)
    (z10 : PySem.W.nsIn K mainGlobals "zip" = some none)
    (z11 : PySem.W.nsIn K mainGlobals "sum" = some none)
    (z12 : PySem.W.nsIn K mainGlobals "abs" = some none)
    (z13 : PySem.W.nsIn K mainGlobals "bool" = some none)
    (z14 : PySem.W.nsIn K mainGlobals "isinstance" = some none)
    (z15 : PySem.W.nsIn K mainGlobals "str" = some none)
    (z16 : PySem.W.nsIn K mainGlobals "dict" = some none)
    (z17 : PySem.W.nsIn K mainGlobals "tuple" = some none)
    (z18 : PySem.W.nsIn K mainGlobals "list" = some none)
    (z19 : PySem.W.nsIn K mainGlobals "range" = some none)
    (z20 : PySem.W.nsIn K mainGlobals "max" = some none) :
    ∃ fd : FuncData, (∀ (s : Shared) (v : Value), BindsTo s fd ⟨[v], []⟩ [("script", v)]) ∧ ∀ base : Heap, K.In base → base.Ns mainGlobals mg → FnOk l.prog w K mg base CX0 44 fa fd ["script"] (spLaw K) := by
  have e := hfa.symm.trans (PySem.W.mg_of X G a55)
  cases e
  have g : Gb mg K w := ⟨PySem.W.mg_none_of X G z1, PySem.W.mg_none_of X G z2, ⟨⟨_, PySem.W.mg_of X G z3, ⟨⟨_, _, ⟨ld3, li3, lo3⟩, to3⟩⟩⟩⟩, PySem.W.mg_none_of X G z4, ⟨_, PySem.W.mg_of X G z5⟩, ⟨_, PySem.W.mg_of X G z6⟩, ⟨_, PySem.W.mg_of X G z7⟩, ⟨_, PySem.W.mg_of X G z8⟩, ⟨⟨_, PySem.W.mg_of X G z9, ⟨⟨_, _, ⟨ld9, li9, lo9⟩, to9⟩⟩⟩⟩, PySem.W.mg_none_of X G z10, PySem.W.mg_none_of X G z11, PySem.W.mg_none_of X G z12, PySem.W.mg_none_of X G z13, PySem.W.mg_none_of X G z14, PySem.W.mg_none_of X G z15, PySem.W.mg_none_of X G z16, PySem.W.mg_none_of X G z17, PySem.W.mg_none_of X G z18, PySem.W.mg_none_of X G z19, PySem.W.mg_none_of X G z20⟩
  have F1 := fun_mk (st := tx_is_variable) l1 c1 k1
  have F2 := fun_mk (st := tx_is_number) l2 c2 k2
  have F3 := fun_mk (st := tx_leaf_of) l3 c3 k3
  have F4 := fun_mk (st := tx_move_waiting) l4 c4 k4
  have F5 := fun_mk (st := tx_put_sign) l5 c5 k5
  have F6 := fun_mk (st := tx_close_bracket) l6 c6 k6
  have F7 := fun_mk (st := tx_read_postfix) l7 c7 k7
  have F8 := fun_mk (st := tx_tree_of) l8 c8 k8
  have F9 := fun_mk (st := tx_places_of_items) l9 c9 k9
  have F10 := fun_mk (st := tx_made_of) l10 c10 k10
  have F11 := fun_mk (st := tx_is_word) l11 c11 k11
  have F12 := fun_mk (st := tx_is_path) l12 c12 k12
  have F13 := fun_mk (st := tx_is_letter) l13 c13 k13
  have F14 := fun_mk (st := tx_is_figure) l14 c14 k14
  have F15 := fun_mk (st := tx_run_end) l15 c15 k15
  have F16 := fun_mk (st := tx_token_end) l16 c16 k16
  have F17 := fun_mk (st := tx_tokens_from) l17 c17 k17
  have F18 := fun_mk (st := tx_first_word) l18 c18 k18
  have F19 := fun_mk (st := tx_tokens_of) l19 c19 k19
  have F20 := fun_mk (st := tx_path_end) l20 c20 k20
  have F21 := fun_mk (st := tx_place_of) l21 c21 k21
  have F22 := fun_mk (st := tx_is_target) l22 c22 k22
  have F23 := fun_mk (st := tx_whole_items) l23 c23 k23
  have F24 := fun_mk (st := tx_read_set) l24 c24 k24
  have F25 := fun_mk (st := tx_read_line_number) l25 c25 k25
  have F26 := fun_mk (st := tx_read_go) l26 c26 k26
  have F27 := fun_mk (st := tx_read_arguments) l27 c27 k27
  have F28 := fun_mk (st := tx_read_call) l28 c28 k28
  have F29 := fun_mk (st := tx_read_value) l29 c29 k29
  have F30 := fun_mk (st := tx_read_hear) l30 c30 k30
  have F31 := fun_mk (st := tx_read_form) l31 c31 k31
  have F32 := fun_mk (st := tx_read_whole) l32 c32 k32
  have F33 := fun_mk (st := tx_read_code) l33 c33 k33
  have F34 := fun_mk (st := tx_columns_of) l34 c34 k34
  have F35 := fun_mk (st := tx_put_expression) l35 c35 k35
  have F36 := fun_mk (st := tx_expressions_in) l36 c36 k36
  have F37 := fun_mk (st := tx_deed_of) l37 c37 k37
  have F38 := fun_mk (st := tx_compile_code) l38 c38 k38
  have F39 := fun_mk (st := tx_source) l39 c39 k39
  have F40 := fun_mk (st := tx_pick) l40 c40 k40
  have F41 := fun_mk (st := tx_same) l41 c41 k41
  have F42 := fun_mk (st := tx_big) l42 c42 k42
  have F43 := fun_mk (st := tx_stem) l43 c43 k43
  have F44 := fun_mk (st := tx_variable) l44 c44 k44
  have F45 := fun_mk (st := tx_grown) l45 c45 k45
  have F46 := fun_mk (st := tx_chain) l46 c46 k46
  have F47 := fun_mk (st := tx_some) l47 c47 k47
  have F48 := fun_mk (st := tx_pathname) l48 c48 k48
  have F49 := fun_mk (st := tx_formed) l49 c49 k49
  have F50 := fun_mk (st := tx_spelled) l50 c50 k50
  have F51 := fun_mk (st := tx_tokened) l51 c51 k51
  have F52 := fun_mk (st := tx_spread) l52 c52 k52
  have F53 := fun_mk (st := tx_ops) l53 c53 k53
  have F54 := fun_mk (st := tx_words) l54 c54 k54
  have F55 := fun_mk (st := tx_law) l55 c55 k55
  refine ⟨PySem.W.fnOf "law" "law" (defArgs tx_law) (defBody tx_law) (defScope tx_law) .none kV55 dc55 pm55 an55 cd55 ct55, fun s v => .of_eq rfl, fun base _ _ => ?_⟩
  have d_is_variable := df_is_variable (P := l.prog) (w := w) (base := base) g F1 (PySem.W.mg_of X G a1) 
  have d_is_number := df_is_number (P := l.prog) (w := w) (base := base) g F2 (PySem.W.mg_of X G a2) 
  have d_leaf_of := df_leaf_of (P := l.prog) (w := w) (base := base) g F3 (PySem.W.mg_of X G a3) d_is_number d_is_variable
  have d_move_waiting := df_move_waiting (P := l.prog) (w := w) (base := base) g F4 (PySem.W.mg_of X G a4) 
  have d_put_sign := df_put_sign (P := l.prog) (w := w) (base := base) g F5 (PySem.W.mg_of X G a5) d_move_waiting
  have d_close_bracket := df_close_bracket (P := l.prog) (w := w) (base := base) g F6 (PySem.W.mg_of X G a6) d_move_waiting
  have d_read_postfix := df_read_postfix (P := l.prog) (w := w) (base := base) g F7 (PySem.W.mg_of X G a7) d_leaf_of d_put_sign d_close_bracket d_move_waiting
  have d_tree_of := df_tree_of (P := l.prog) (w := w) (base := base) g F8 (PySem.W.mg_of X G a8) 
  have d_places_of_items := df_places_of_items (P := l.prog) (w := w) (base := base) g F9 (PySem.W.mg_of X G a9) 
  have d_made_of := df_made_of (P := l.prog) (w := w) (base := base) g F10 (PySem.W.mg_of X G a10) 
  have d_is_word := df_is_word (P := l.prog) (w := w) (base := base) g F11 (PySem.W.mg_of X G a11) d_made_of
  have d_is_path := df_is_path (P := l.prog) (w := w) (base := base) g F12 (PySem.W.mg_of X G a12) d_made_of
  have d_is_letter := df_is_letter (P := l.prog) (w := w) (base := base) g F13 (PySem.W.mg_of X G a13) 
  have d_is_figure := df_is_figure (P := l.prog) (w := w) (base := base) g F14 (PySem.W.mg_of X G a14) 
  have d_run_end := df_run_end (P := l.prog) (w := w) (base := base) g F15 (PySem.W.mg_of X G a15) d_is_letter d_is_figure
  have d_token_end := df_token_end (P := l.prog) (w := w) (base := base) g F16 (PySem.W.mg_of X G a16) d_is_figure d_is_letter d_run_end
  have d_tokens_from := df_tokens_from (P := l.prog) (w := w) (base := base) g F17 (PySem.W.mg_of X G a17) d_token_end
  have d_first_word := df_first_word (P := l.prog) (w := w) (base := base) g F18 (PySem.W.mg_of X G a18) 
  have d_tokens_of := df_tokens_of (P := l.prog) (w := w) (base := base) g F19 (PySem.W.mg_of X G a19) d_first_word d_tokens_from
  have d_path_end := df_path_end (P := l.prog) (w := w) (base := base) g F20 (PySem.W.mg_of X G a20) d_is_letter d_is_figure
  have d_place_of := df_place_of (P := l.prog) (w := w) (base := base) g F21 (PySem.W.mg_of X G a21) 
  have d_is_target := df_is_target (P := l.prog) (w := w) (base := base) g F22 (PySem.W.mg_of X G a22) d_is_variable
  have d_whole_items := df_whole_items (P := l.prog) (w := w) (base := base) g F23 (PySem.W.mg_of X G a23) d_read_postfix
  have d_read_set := df_read_set (P := l.prog) (w := w) (base := base) g F24 (PySem.W.mg_of X G a24) d_is_target d_whole_items d_tree_of d_places_of_items d_place_of
  have d_read_line_number := df_read_line_number (P := l.prog) (w := w) (base := base) g F25 (PySem.W.mg_of X G a25) 
  have d_read_go := df_read_go (P := l.prog) (w := w) (base := base) g F26 (PySem.W.mg_of X G a26) d_read_line_number d_place_of d_whole_items d_tree_of d_places_of_items
  have d_read_arguments := df_read_arguments (P := l.prog) (w := w) (base := base) g F27 (PySem.W.mg_of X G a27) d_read_postfix
  have d_read_call := df_read_call (P := l.prog) (w := w) (base := base) g F28 (PySem.W.mg_of X G a28) d_path_end d_is_path d_tokens_from d_read_arguments d_is_target d_places_of_items d_tree_of
  have d_read_value := df_read_value (P := l.prog) (w := w) (base := base) g F29 (PySem.W.mg_of X G a29) d_whole_items d_tree_of d_places_of_items
  have d_read_hear := df_read_hear (P := l.prog) (w := w) (base := base) g F30 (PySem.W.mg_of X G a30) d_is_target d_is_word d_place_of
  have d_read_form := df_read_form (P := l.prog) (w := w) (base := base) g F31 (PySem.W.mg_of X G a31) d_first_word d_read_call d_tokens_of d_read_set d_read_go d_read_value d_is_target d_place_of d_read_hear
  have d_read_whole := df_read_whole (P := l.prog) (w := w) (base := base) g F32 (PySem.W.mg_of X G a32) d_read_form
  have d_read_code := df_read_code (P := l.prog) (w := w) (base := base) g F33 (PySem.W.mg_of X G a33) d_read_whole
  have d_columns_of := df_columns_of (P := l.prog) (w := w) (base := base) g F34 (PySem.W.mg_of X G a34) d_read_whole
  have d_put_expression := df_put_expression (P := l.prog) (w := w) (base := base) g F35 (PySem.W.mg_of X G a35)  40
  have d_expressions_in := df_expressions_in (P := l.prog) (w := w) (base := base) g F36 (PySem.W.mg_of X G a36) 
  have d_deed_of := df_deed_of (P := l.prog) (w := w) (base := base) g F37 (PySem.W.mg_of X G a37) 
  have d_compile_code := df_compile_code (P := l.prog) (w := w) (base := base) g F38 (PySem.W.mg_of X G a38) d_read_code d_expressions_in d_put_expression d_deed_of d_columns_of
  have d_source := df_source (P := l.prog) (w := w) (base := base) g F39 (PySem.W.mg_of X G a39) 
  have d_pick := df_pick (P := l.prog) (w := w) (base := base) g F40 (PySem.W.mg_of X G a40) 
  have d_same := df_same (P := l.prog) (w := w) (base := base) g F41 (PySem.W.mg_of X G a41)  6
  have d_big := df_big (P := l.prog) (w := w) (base := base) g F42 (PySem.W.mg_of X G a42) d_pick
  have d_stem := df_stem (P := l.prog) (w := w) (base := base) g F43 (PySem.W.mg_of X G a43) d_pick
  have d_variable := df_variable (P := l.prog) (w := w) (base := base) g F44 (PySem.W.mg_of X G a44) d_pick d_stem
  have d_grown := df_grown (P := l.prog) (w := w) (base := base) g F45 (PySem.W.mg_of X G a45) d_pick d_big d_variable 6
  have d_chain := df_chain (P := l.prog) (w := w) (base := base) g F46 (PySem.W.mg_of X G a46) d_variable d_pick
  have d_some := df_some (P := l.prog) (w := w) (base := base) g F47 (PySem.W.mg_of X G a47) d_pick d_chain d_grown
  have d_pathname := df_pathname (P := l.prog) (w := w) (base := base) g F48 (PySem.W.mg_of X G a48) d_pick
  have d_formed := df_formed (P := l.prog) (w := w) (base := base) g F49 (PySem.W.mg_of X G a49) d_pick d_variable d_stem d_some d_grown d_pathname
  have d_spelled := df_spelled (P := l.prog) (w := w) (base := base) g F50 (PySem.W.mg_of X G a50) d_pick 40
  have d_tokened := df_tokened (P := l.prog) (w := w) (base := base) g F51 (PySem.W.mg_of X G a51) d_spelled
  have d_spread := df_spread (P := l.prog) (w := w) (base := base) g F52 (PySem.W.mg_of X G a52) d_tokened d_pick d_big
  have d_ops := df_ops (P := l.prog) (w := w) (base := base) g F53 (PySem.W.mg_of X G a53)  40
  have d_words := df_words (P := l.prog) (w := w) (base := base) g F54 (PySem.W.mg_of X G a54) d_ops
  exact (ok_law (P := l.prog) (w := w) (base := base) g F55 d_source d_formed d_spread d_columns_of d_same d_words d_compile_code d_stem).imp sp_law
theorem walk {l : PySem.W.OpenLaw} {q : Program} {loose : List Str} {XP : (Str → Option Value) → Heap → Prop} {YP : World → Heap → Prop} {d : DefRec} {K : Params → PySem.W.Frag} (hn : l.most = some 63) (hdf : d.params.defaults = [])
    (hY : ∀ (w : World) (h : Heap), YP w h → (K w.params).In h)
    (F : ∀ (w : World) (mg : Str → Option Value) (fa : Addr) (h : Heap), (K w.params).In h → h.Ns mainGlobals mg → mg d.name = some (.ref fa) →
      ∃ fd : FuncData, (∀ (s : Shared) (u : Value), BindsTo s fd ⟨[u], []⟩ [("script", u)]) ∧ ∀ base : Heap, (K w.params).In base → base.Ns mainGlobals mg → FnOk l.prog w (K w.params) mg base CX0 44 fa fd ["script"] (spLaw (K w.params))) :
    PySem.W.WalkO q loose XP YP l.row.toRowW d [] (fun f vs => PySem.call f vs) :=
  L2.walk_of (n := 63) (k := 44) (x := "script") (CX := fun _ => CX0) (sp := fun w => spLaw (K w.params)) hn (by decide) hdf ⟨rfl, by decide, by decide⟩ hY F (fun _ _ a ns hl _ hS => ⟨a, ns, rfl, hS, hl, fun _ => rfl⟩) fun _ _ _ _ _ z => z
end K39
open PySem PySem.W PyProof.Rows
set_option maxRecDepth 100000 in
set_option maxHeartbeats 0 in
theorem PySem.Challenge.cw_knewbetter_k39_columns_meet_the_words_holds : PySem.Challenge.rw_knewbetter_k39_columns_meet_the_words.Holds := by
  w_on; o_law; k_head; (case hw => w_witness2)
  k_fill
  refine K39.walk (l := PySem.Challenge.rw_knewbetter_k39_columns_meet_the_words) rfl rfl (fun w h Y => PySem.W.kIn_of Y) ?F
  case F =>
    intro w mg fa h KX G hmg
    refine' K39.all_mk KX G hmg ?a1 ?l1 ?c1 ?k1 ?a2 ?l2 ?c2 ?k2 ?a3 ?l3 ?c3 ?k3 ?a4 ?l4 ?c4 ?k4 ?a5 ?l5 ?c5 ?k5 ?a6 ?l6 ?c6 ?k6 ?a7 ?l7 ?c7 ?k7 ?a8 ?l8 ?c8 ?k8 ?a9 ?l9 ?c9 ?k9 ?a10 ?l10 ?c10 ?k10 ?a11 ?l11 ?c11 ?k11 ?a12 ?l12 ?c12 ?k12 ?a13 ?l13 ?c13 ?k13 ?a14 ?l14 ?c14 ?k14 ?a15 ?l15 ?c15 ?k15 ?a16 ?l16 ?c16 ?k16 ?a17 ?l17 ?c17 ?k17 ?a18 ?l18 ?c18 ?k18 ?a19 ?l19 ?c19 ?k19 ?a20 ?l20 ?c20 ?k20 ?a21 ?l21 ?c21 ?k21 ?a22 ?l22 ?c22 ?k22 ?a23 ?l23 ?c23 ?k23 ?a24 ?l24 ?c24 ?k24 ?a25 ?l25 ?c25 ?k25 ?a26 ?l26 ?c26 ?k26 ?a27 ?l27 ?c27 ?k27 ?a28 ?l28 ?c28 ?k28 ?a29 ?l29 ?c29 ?k29 ?a30 ?l30 ?c30 ?k30 ?a31 ?l31 ?c31 ?k31 ?a32 ?l32 ?c32 ?k32 ?a33 ?l33 ?c33 ?k33 ?a34 ?l34 ?c34 ?k34 ?a35 ?l35 ?c35 ?k35 ?a36 ?l36 ?c36 ?k36 ?a37 ?l37 ?c37 ?k37 ?a38 ?l38 ?c38 ?k38 ?a39 ?l39 ?c39 ?k39 ?a40 ?l40 ?c40 ?k40 ?a41 ?l41 ?c41 ?k41 ?a42 ?l42 ?c42 ?k42 ?a43 ?l43 ?c43 ?k43 ?a44 ?l44 ?c44 ?k44 ?a45 ?l45 ?c45 ?k45 ?a46 ?l46 ?c46 ?k46 ?a47 ?l47 ?c47 ?k47 ?a48 ?l48 ?c48 ?k48 ?a49 ?l49 ?c49 ?k49 ?a50 ?l50 ?c50 ?k50 ?a51 ?l51 ?c51 ?k51 ?a52 ?l52 ?c52 ?k52 ?a53 ?l53 ?c53 ?k53 ?a54 ?l54 ?c54 ?k54 ?a55 ?l55 ?c55 ?k55 ?z1 ?z2 ?z3 ?ld3 ?li3 ?lo3 ?to3 ?z4 ?z5 ?z6 ?z7 ?z8 ?z9 ?ld9 ?li9 ?lo9 ?to9 ?z10 ?z11 ?z12 ?z13 ?z14 ?z15 ?z16 ?z17 ?z18 ?z19 ?z20
    (case a1 => k_is); (case l1 => k_is); (case c1 => k_is); (case k1 => k_is)
    (case a2 => k_is); (case l2 => k_is); (case c2 => k_is); (case k2 => k_is)
    (case a3 => k_is); (case l3 => k_is); (case c3 => k_is); (case k3 => k_is)
    (case a4 => k_is); (case l4 => k_is); (case c4 => k_is); (case k4 => k_is)
    (case a5 => k_is); (case l5 => k_is); (case c5 => k_is); (case k5 => k_is)
    (case a6 => k_is); (case l6 => k_is); (case c6 => k_is); (case k6 => k_is)
    (case a7 => k_is); (case l7 => k_is); (case c7 => k_is); (case k7 => k_is)
    (case a8 => k_is); (case l8 => k_is); (case c8 => k_is); (case k8 => k_is)
    (case a9 => k_is); (case l9 => k_is); (case c9 => k_is); (case k9 => k_is)
    (case a10 => k_is); (case l10 => k_is); (case c10 => k_is); (case k10 => k_is)
    (case a11 => k_is); (case l11 => k_is); (case c11 => k_is); (case k11 => k_is)
    (case a12 => k_is); (case l12 => k_is); (case c12 => k_is); (case k12 => k_is)
    (case a13 => k_is); (case l13 => k_is); (case c13 => k_is); (case k13 => k_is)
    (case a14 => k_is); (case l14 => k_is); (case c14 => k_is); (case k14 => k_is)
    (case a15 => k_is); (case l15 => k_is); (case c15 => k_is); (case k15 => k_is)
    (case a16 => k_is); (case l16 => k_is); (case c16 => k_is); (case k16 => k_is)
    (case a17 => k_is); (case l17 => k_is); (case c17 => k_is); (case k17 => k_is)
    (case a18 => k_is); (case l18 => k_is); (case c18 => k_is); (case k18 => k_is)
    (case a19 => k_is); (case l19 => k_is); (case c19 => k_is); (case k19 => k_is)
    (case a20 => k_is); (case l20 => k_is); (case c20 => k_is); (case k20 => k_is)
    (case a21 => k_is); (case l21 => k_is); (case c21 => k_is); (case k21 => k_is)
    (case a22 => k_is); (case l22 => k_is); (case c22 => k_is); (case k22 => k_is)
    (case a23 => k_is); (case l23 => k_is); (case c23 => k_is); (case k23 => k_is)
    (case a24 => k_is); (case l24 => k_is); (case c24 => k_is); (case k24 => k_is)
    (case a25 => k_is); (case l25 => k_is); (case c25 => k_is); (case k25 => k_is)
    (case a26 => k_is); (case l26 => k_is); (case c26 => k_is); (case k26 => k_is)
    (case a27 => k_is); (case l27 => k_is); (case c27 => k_is); (case k27 => k_is)
    (case a28 => k_is); (case l28 => k_is); (case c28 => k_is); (case k28 => k_is)
    (case a29 => k_is); (case l29 => k_is); (case c29 => k_is); (case k29 => k_is)
    (case a30 => k_is); (case l30 => k_is); (case c30 => k_is); (case k30 => k_is)
    (case a31 => k_is); (case l31 => k_is); (case c31 => k_is); (case k31 => k_is)
    (case a32 => k_is); (case l32 => k_is); (case c32 => k_is); (case k32 => k_is)
    (case a33 => k_is); (case l33 => k_is); (case c33 => k_is); (case k33 => k_is)
    (case a34 => k_is); (case l34 => k_is); (case c34 => k_is); (case k34 => k_is)
    (case a35 => k_is); (case l35 => k_is); (case c35 => k_is); (case k35 => k_is)
    (case a36 => k_is); (case l36 => k_is); (case c36 => k_is); (case k36 => k_is)
    (case a37 => k_is); (case l37 => k_is); (case c37 => k_is); (case k37 => k_is)
    (case a38 => k_is); (case l38 => k_is); (case c38 => k_is); (case k38 => k_is)
    (case a39 => k_is); (case l39 => k_is); (case c39 => k_is); (case k39 => k_is)
    (case a40 => k_is); (case l40 => k_is); (case c40 => k_is); (case k40 => k_is)
    (case a41 => k_is); (case l41 => k_is); (case c41 => k_is); (case k41 => k_is)
    (case a42 => k_is); (case l42 => k_is); (case c42 => k_is); (case k42 => k_is)
    (case a43 => k_is); (case l43 => k_is); (case c43 => k_is); (case k43 => k_is)
    (case a44 => k_is); (case l44 => k_is); (case c44 => k_is); (case k44 => k_is)
    (case a45 => k_is); (case l45 => k_is); (case c45 => k_is); (case k45 => k_is)
    (case a46 => k_is); (case l46 => k_is); (case c46 => k_is); (case k46 => k_is)
    (case a47 => k_is); (case l47 => k_is); (case c47 => k_is); (case k47 => k_is)
    (case a48 => k_is); (case l48 => k_is); (case c48 => k_is); (case k48 => k_is)
    (case a49 => k_is); (case l49 => k_is); (case c49 => k_is); (case k49 => k_is)
    (case a50 => k_is); (case l50 => k_is); (case c50 => k_is); (case k50 => k_is)
    (case a51 => k_is); (case l51 => k_is); (case c51 => k_is); (case k51 => k_is)
    (case a52 => k_is); (case l52 => k_is); (case c52 => k_is); (case k52 => k_is)
    (case a53 => k_is); (case l53 => k_is); (case c53 => k_is); (case k53 => k_is)
    (case a54 => k_is); (case l54 => k_is); (case c54 => k_is); (case k54 => k_is)
    (case a55 => k_is); (case l55 => k_is); (case c55 => k_is); (case k55 => k_is)
    (case z1 => k_is); (case z2 => k_is); (case z3 => k_is); (case ld3 => k_is); (case li3 => (repeat (first | exact True.intro | refine And.intro ⟨_, _, rfl, rfl⟩ ?_))); (case lo3 => rfl); (case to3 => (repeat (first | exact True.intro | refine And.intro ⟨_, rfl⟩ (And.intro ⟨_, rfl⟩ ?_)))); (case z4 => k_is); (case z5 => k_is); (case z6 => k_is); (case z7 => k_is); (case z8 => k_is); (case z9 => k_is); (case ld9 => k_is); (case li9 => (repeat (first | exact True.intro | refine And.intro ⟨_, _, rfl, rfl⟩ ?_))); (case lo9 => rfl); (case to9 => (repeat (first | exact True.intro | refine And.intro ⟨_, rfl⟩ (And.intro ⟨_, rfl⟩ ?_)))); (case z10 => k_is); (case z11 => k_is); (case z12 => k_is); (case z13 => k_is); (case z14 => k_is); (case z15 => k_is); (case z16 => k_is); (case z17 => k_is); (case z18 => k_is); (case z19 => k_is); (case z20 => k_is)
