import PyProof.Rows.All
import Wide.All
import OpenK.AllK
import Wide.FinOn
import HandS.ForMost
import HandS.ForExc
import HandS.Wide
import HandS.IsInst
import HandS.Zip
import HandS.Deep
import HandS.SortInts
import HandS.Conv
import HandS.Style
import HandS.EndBits
import HandS.TupSets
import KE.SortData
import KE.DataMinMax
import HandS.Strs
import PyProof.P3Eq
import PySem.Challenge.RW_wordfolds_k21_whole_roots_turns_and_peri
set_option Elab.async false
set_option linter.all false
set_option maxRecDepth 100000
namespace Fy
open PySem L2

/-! ### data: trees -/
inductive D where
  | non | bl (b : Bool) | int (i : Int) | str (x : List Nat)
  | tup (ds : List D) | lst (ds : List D)
  | ins (k : Nat) (fs : List D)
  | raw (x : V)
  | scr (ns : List Int)   -- the law's script, wherever it stands
/-- what a slot holds, what an argument is: a tree, or the object number l of the memory -/
inductive A where
  | d (x : D) | l (n : Nat)
/-- an object of the memory -/
inductive O where
  | lst (ds : List D) | dK (kvs : List (Key × D)) | dT (kvs : List (List Key × D)) | set (S : Int → Bool) (n : Nat)
  | ins (k : Nat) (fs : List (Str × D)) | dead
abbrev Mem := List O
abbrev Env := List (Option A)
/-- the classes: the address of each, its fields' names in order -/
structure Tb where
  ad : Nat → Addr
  fl : Nat → List Str
def ms (l : List Nat) : Str := ⟨l.toArray⟩
def SZ : Nat := 16777216
/-- a small whole number: a test that unfolds to nothing long -/
def smI (j : Int) : Bool := decide (j.natAbs < 4611686018427387904)
theorem smI_ok {j : Int} (h : smI j = true) : -(2 ^ 62) ≤ j ∧ j < 2 ^ 62 := by
  have := of_decide_eq_true h
  omega
theorem smI_of {j : Int} (h : -1000000000 < j) (k : j < 1000000000) : smI j = true := decide_eq_true (by omega)
theorem sz_eq : sizeLine = SZ := by unfold sizeLine SZ; decide

theorem rd_mono {G H : Hp} {a : Addr} {u : HO} (e : Same G H) (h : Rd G a u) : Rd H a u := by
  rcases h with h | ⟨o, h⟩
  · exact .inl (e _ _ h)
  · exact .inr ⟨o, e _ _ h⟩
mutual
def Rep (K : PySem.W.Frag) (T : Tb) (G : Hp) : D → V → Prop
  | .non, v => v = .non
  | .bl b, v => v = .bl b
  | .int i, v => v = .int i
  | .str x, v => v = .str (ms x)
  | .tup ds, v => ∃ a xs, v = .ref a ∧ SqT K G a xs ∧ Reps K T G ds xs
  | .lst ds, v => ∃ a xs, v = .ref a ∧ Rd G a (.lst xs) ∧ Reps K T G ds xs
  | .ins k ds, v => ∃ a dx xs, v = .ref a ∧ G a = some (.ins (T.ad k) dx ((T.fl k).zip xs)) ∧ (T.fl k).length = xs.length ∧ Reps K T G ds xs
  | .raw x, v => v = x
  | .scr ns, v => ∃ a, v = .ref a ∧ SqL K G a (ns.map V.int)
def Reps (K : PySem.W.Frag) (T : Tb) (G : Hp) : List D → List V → Prop
  | [], xs => xs = []
  | d :: ds, xs => ∃ x r, xs = x :: r ∧ Rep K T G d x ∧ Reps K T G ds r
end
mutual
theorem Rep.mono {K : PySem.W.Frag} {T : Tb} {G G' : Hp} (e : Same G G') : ∀ (d : D) (v : V), Rep K T G d v → Rep K T G' d v
  | .non, _, h => h
  | .bl _, _, h => h
  | .int _, _, h => h
  | .str _, _, h => h
  | .raw _, _, h => h
  | .scr ns, v, ⟨a, h1, h2⟩ => ⟨a, h1, e.seq h2⟩
  | .tup ds, v, ⟨a, xs, h1, h2, h3⟩ => ⟨a, xs, h1, (by
      rcases h2 with (h | ⟨o, h⟩) | h
      · exact .inl (.inl (e _ _ h))
      · exact .inl (.inr ⟨o, e _ _ h⟩)
      · exact .inr h), Reps.mono e ds xs h3⟩
  | .lst ds, v, ⟨a, xs, h1, h2, h3⟩ => ⟨a, xs, h1, (by
      rcases h2 with h | ⟨o, h⟩
      · exact .inl (e _ _ h)
      · exact .inr ⟨o, e _ _ h⟩), Reps.mono e ds xs h3⟩
  | .ins k ds, v, ⟨a, dx, xs, h1, h2, h4, h3⟩ => ⟨a, dx, xs, h1, e _ _ h2, h4, Reps.mono e ds xs h3⟩
theorem Reps.mono {K : PySem.W.Frag} {T : Tb} {G G' : Hp} (e : Same G G') : ∀ (ds : List D) (xs : List V), Reps K T G ds xs → Reps K T G' ds xs
  | [], _, h => h
  | d :: ds, xs, ⟨x, r, h1, h2, h3⟩ => ⟨x, r, h1, Rep.mono e d x h2, Reps.mono e ds r h3⟩
end
theorem Reps.length {K : PySem.W.Frag} {T : Tb} {G : Hp} : ∀ {ds : List D} {xs : List V}, Reps K T G ds xs → ds.length = xs.length
  | [], xs, h => by cases h; rfl
  | d :: ds, xs, ⟨x, r, h1, _, h3⟩ => by subst h1; simp [Reps.length h3]
theorem Reps.get {K : PySem.W.Frag} {T : Tb} {G : Hp} : ∀ {ds : List D} {xs : List V} {i : Nat} {d : D}, Reps K T G ds xs → ds[i]? = some d → ∃ x, xs[i]? = some x ∧ Rep K T G d x
  | [], _, _, _, _, e => by simp at e
  | d :: ds, xs, 0, d', ⟨x, r, h1, h2, _⟩, e => by
    subst h1; simp at e; subst e; exact ⟨x, rfl, h2⟩
  | d :: ds, xs, i + 1, d', ⟨x, r, h1, _, h3⟩, e => by
    subst h1
    obtain ⟨y, h4, h5⟩ := Reps.get (i := i) h3 (by simpa using e)
    exact ⟨y, by simpa using h4, h5⟩
theorem Reps.app {K : PySem.W.Frag} {T : Tb} {G : Hp} {es : List D} {ys : List V} (k : Reps K T G es ys) : ∀ {ds : List D} {xs : List V}, Reps K T G ds xs → Reps K T G (ds ++ es) (xs ++ ys)
  | [], _, h => by cases h; exact k
  | d :: ds, xs, ⟨x, r, h1, h2, h3⟩ => by subst h1; exact ⟨x, r ++ ys, rfl, h2, Reps.app k h3⟩
theorem Reps.one {K : PySem.W.Frag} {T : Tb} {G : Hp} {d : D} {x : V} (h : Rep K T G d x) : Reps K T G [d] [x] := ⟨x, [], rfl, h, rfl⟩
theorem Reps.take {K : PySem.W.Frag} {T : Tb} {G : Hp} : ∀ (n : Nat) {ds : List D} {xs : List V}, Reps K T G ds xs → Reps K T G (ds.take n) (xs.take n)
  | 0, _, _, _ => rfl
  | n + 1, [], _, h => by cases h; rfl
  | n + 1, d :: ds, xs, ⟨x, r, h1, h2, h3⟩ => by subst h1; exact ⟨x, r.take n, rfl, h2, Reps.take n h3⟩
theorem Reps.drop {K : PySem.W.Frag} {T : Tb} {G : Hp} : ∀ (n : Nat) {ds : List D} {xs : List V}, Reps K T G ds xs → Reps K T G (ds.drop n) (xs.drop n)
  | 0, _, _, h => h
  | n + 1, [], _, h => by cases h; rfl
  | n + 1, d :: ds, xs, ⟨x, r, h1, h2, h3⟩ => by subst h1; exact Reps.drop n h3
theorem Reps.set {K : PySem.W.Frag} {T : Tb} {G : Hp} {d : D} {x : V} (h : Rep K T G d x) : ∀ (i : Nat) {ds : List D} {xs : List V}, Reps K T G ds xs → Reps K T G (ds.set i d) (xs.set i x)
  | _, [], _, h => by cases h; rfl
  | 0, d :: ds, xs, ⟨y, r, h1, h2, h3⟩ => by subst h1; exact ⟨x, r, rfl, h, h3⟩
  | i + 1, d :: ds, xs, ⟨y, r, h1, h2, h3⟩ => by subst h1; exact ⟨y, r.set i x, rfl, h2, Reps.set h i h3⟩
theorem Reps.reverse {K : PySem.W.Frag} {T : Tb} {G : Hp} : ∀ {ds : List D} {xs : List V}, Reps K T G ds xs → Reps K T G ds.reverse xs.reverse
  | [], _, h => by cases h; rfl
  | d :: ds, xs, ⟨y, r, h1, h2, h3⟩ => by
    subst h1; rw [List.reverse_cons, List.reverse_cons]; exact Reps.app (Reps.one h2) (Reps.reverse h3)

/-! ### an argument, the memory, the slots -/
def ARep (K : PySem.W.Frag) (T : Tb) (ρ : List Addr) (G : Hp) : A → V → Prop
  | .d x, v => Rep K T G x v
  | .l n, v => ∃ a, ρ[n]? = some a ∧ v = .ref a
def AReps (K : PySem.W.Frag) (T : Tb) (ρ : List Addr) (G : Hp) : List A → List V → Prop
  | [], xs => xs = []
  | d :: ds, xs => ∃ x r, xs = x :: r ∧ ARep K T ρ G d x ∧ AReps K T ρ G ds r
def KReps {κ : Type} (K : PySem.W.Frag) (T : Tb) (G : Hp) : List (κ × D) → List (κ × V) → Prop
  | [], xs => xs = []
  | d :: ds, xs => ∃ x r, xs = (d.1, x) :: r ∧ Rep K T G d.2 x ∧ KReps K T G ds r
def ORep (K : PySem.W.Frag) (T : Tb) (G H : Hp) : O → Addr → Prop
  | .lst ds, a => G a = none ∧ ∃ xs, H a = some (.lst xs) ∧ Reps K T G ds xs
  | .dK kvs, a => G a = none ∧ ∃ xs, H a = some (.dK xs) ∧ KReps K T G kvs xs
  | .dT kvs, a => G a = none ∧ ∃ xs, H a = some (.dT xs) ∧ KReps K T G kvs xs
  | .set S n, a => G a = none ∧ H a = some (.set S n)
  | .ins k fs, a => G a = none ∧ ∃ dx xs, H a = some (.ins (T.ad k) dx xs) ∧ KReps K T G fs xs
  | .dead, _ => True
structure RS (K : PySem.W.Frag) (T : Tb) (ρ : List Addr) (G H : Hp) (M : Mem) : Prop where
  sub : Same G H
  len : ρ.length = M.length
  nd : ρ.Nodup
  live : ∀ a ∈ ρ, H a ≠ none
  mem : ∀ (l : Nat) a o, ρ[l]? = some a → M[l]? = some o → ORep K T G H o a
structure Ext (ρ : List Addr) (G H : Hp) (ρ' : List Addr) (G' H' : Hp) : Prop where
  pre : ∀ (l : Nat) a, ρ[l]? = some a → ρ'[l]? = some a
  sub : Same G G'
  new : ∀ a ∈ ρ', a ∈ ρ ∨ H a = none
  frm : ∀ a o, H a = some o → a ∉ ρ → H' a = some o
  kp : ∀ x, H x ≠ none → H' x ≠ none
  gn : ∀ a, G' a ≠ none → G a ≠ none ∨ H a = none ∨ a ∈ ρ
structure EnvR (K : PySem.W.Frag) (T : Tb) (ρ : List Addr) (G : Hp) (env : Env) (σ : L2.St) : Prop where
  len : env.length = σ.length
  at_ : ∀ (i : Nat) a, env[i]? = some (some a) → ∃ v, σ[i]? = some (some v) ∧ ARep K T ρ G a v
theorem Ext.refl (ρ : List Addr) (G H : Hp) : Ext ρ G H ρ G H := ⟨fun _ _ h => h, Same.refl G, fun _ h => .inl h, fun _ _ h _ => h, fun _ h => h, fun _ h => .inl h⟩
theorem Ext.trans {ρ ρ1 ρ2 : List Addr} {G G1 G2 H H1 H2 : Hp} (a : Ext ρ G H ρ1 G1 H1) (b : Ext ρ1 G1 H1 ρ2 G2 H2) : Ext ρ G H ρ2 G2 H2 :=
  ⟨fun l x h => b.pre l x (a.pre l x h), a.sub.trans b.sub, fun x h => by
    rcases b.new x h with h | h
    · exact a.new x h
    · by_cases e : H x = none
      · exact .inr e
      · exact absurd h (a.kp x e), fun x o h hx => b.frm x o (a.frm x o h hx) (fun hm => by
      rcases a.new x hm with z | z
      · exact hx z
      · rw [h] at z; cases z), fun x h => b.kp x (a.kp x h), fun x h => by
    rcases b.gn x h with h | h | h
    · exact a.gn x h
    · refine .inr (.inl ?_)
      by_cases e : H x = none
      · exact e
      · exact absurd h (a.kp x e)
    · exact .inr ((a.new x h).elim .inr .inl)⟩
theorem Ext.off {ρ ρ' : List Addr} {G G' H H' : Hp} (e : Ext ρ G H ρ' G' H') {p : Addr} {o : HO} (h : H p = some o) (hr : p ∉ ρ) (hg : G p = none) : H' p = some o ∧ p ∉ ρ' ∧ G' p = none := by
  have hn : H p ≠ none := by rw [h]; exact fun q => nomatch q
  refine ⟨e.frm p o h hr, fun z => (e.new p z).elim hr hn, ?_⟩
  cases q : G' p with
  | none => rfl
  | some u =>
    rcases e.gn p (by rw [q]; exact fun z => nomatch z) with z | z | z
    · exact absurd hg z
    · exact absurd z hn
    · exact absurd z hr
theorem ARep.mono {K : PySem.W.Frag} {T : Tb} {ρ ρ' : List Addr} {G G' H H' : Hp} (e : Ext ρ G H ρ' G' H') : ∀ {a : A} {v : V}, ARep K T ρ G a v → ARep K T ρ' G' a v
  | .d x, v, h => Rep.mono e.sub x v h
  | .l n, v, ⟨a, h1, h2⟩ => ⟨a, e.pre _ _ h1, h2⟩
theorem AReps.mono {K : PySem.W.Frag} {T : Tb} {ρ ρ' : List Addr} {G G' H H' : Hp} (e : Ext ρ G H ρ' G' H') : ∀ {as : List A} {vs : List V}, AReps K T ρ G as vs → AReps K T ρ' G' as vs
  | [], _, h => h
  | a :: as, vs, ⟨x, r, h1, h2, h3⟩ => ⟨x, r, h1, h2.mono e, AReps.mono e h3⟩
theorem EnvR.mono {K : PySem.W.Frag} {T : Tb} {ρ ρ' : List Addr} {G G' H H' : Hp} {env : Env} {σ : L2.St} (e : Ext ρ G H ρ' G' H') (h : EnvR K T ρ G env σ) : EnvR K T ρ' G' env σ :=
  ⟨h.len, fun i a q => let ⟨v, h1, h2⟩ := h.at_ i a q; ⟨v, h1, h2.mono e⟩⟩
/-! ### results -/
inductive R (α : Type) where
  | ok (a : α) (M : Mem) | exc (k : Nat) (fs : List D) (M : Mem) | bad
def R.bind {α β : Type} (r : R α) (f : α → Mem → R β) : R β := match r with
  | .ok a M => f a M
  | .exc k fs M => .exc k fs M
  | .bad => .bad
/-- what is wanted behind a result -/
def Aft {α β : Type} (K : PySem.W.Frag) (T : Tb) (rel : List Addr → Hp → Hp → α → β → Prop) (E : XK) (ρ : List Addr) (G H : Hp) (r : R α) (Q : α → Mem → β → List Addr → Hp → Hp → Prop) : Prop := match r with
  | .ok a M' => ∀ v ρ' G' H', Ext ρ G H ρ' G' H' → RS K T ρ' G' H' M' → rel ρ' G' H' a v → Q a M' v ρ' G' H'
  | .exc k fs M' => ∀ ρ' G' H' d xs, Ext ρ G H ρ' G' H' → RS K T ρ' G' H' M' → Reps K T G' fs xs → H' d = some (.xd ((T.fl k).zip xs)) → (T.fl k).length = xs.length → E (.ref (T.ad k)) (some d) H'
  | .bad => False
section
variable {K : PySem.W.Frag} {T : Tb} {E : XK} {ρ ρ1 : List Addr} {G H G1 H1 : Hp} {α β γ δ : Type} {rel : List Addr → Hp → Hp → α → β → Prop} {rel' : List Addr → Hp → Hp → γ → δ → Prop}
theorem Aft.ext {r : R α} {Q : α → Mem → β → List Addr → Hp → Hp → Prop} (e : Ext ρ G H ρ1 G1 H1) (h : Aft K T rel E ρ G H r Q) : Aft K T rel E ρ1 G1 H1 r Q := by
  cases r with
  | ok a M => exact fun v ρ' G' H' e' => h v ρ' G' H' (e.trans e')
  | exc k fs M => exact fun ρ' G' H' d xs e' => h ρ' G' H' d xs (e.trans e')
  | bad => exact h
theorem Aft.imp {r : R α} {Q Q' : α → Mem → β → List Addr → Hp → Hp → Prop} (h : Aft K T rel E ρ G H r Q) (k : ∀ a M v ρ' G' H', r = .ok a M → Ext ρ G H ρ' G' H' → RS K T ρ' G' H' M → rel ρ' G' H' a v → Q a M v ρ' G' H' → Q' a M v ρ' G' H') : Aft K T rel E ρ G H r Q' := by
  cases r with
  | ok a M => exact fun v ρ' G' H' e' s q => k _ _ _ _ _ _ rfl e' s q (h v ρ' G' H' e' s q)
  | exc k fs M => exact h
  | bad => exact h
/-- the first part of two -/
theorem Aft.bind {r : R α} {f : α → Mem → R γ} {Q : γ → Mem → δ → List Addr → Hp → Hp → Prop} (h : Aft K T rel' E ρ G H (r.bind f) Q) :
    Aft K T rel E ρ G H r fun a M v ρ' G' H' => Aft K T rel' E ρ' G' H' (f a M) Q := by
  cases r with
  | ok a M => exact fun v ρ' G' H' e _ _ => h.ext e
  | exc k fs M => exact h
  | bad => exact h
end
def relA (K : PySem.W.Frag) (T : Tb) (ρ : List Addr) (G _H : Hp) (a : A) (v : V) : Prop := ARep K T ρ G a v
def relB (_ρ : List Addr) (_G _H : Hp) (a b : Bool) : Prop := a = b
def relAs (K : PySem.W.Frag) (T : Tb) (ρ : List Addr) (G _H : Hp) (a : List A) (v : List V) : Prop := AReps K T ρ G a v

/-! ### the judgements: a piece of syntax computes a function of slots and memory -/
abbrev FE := Env → Mem → R A
abbrev FB := Env → Mem → R Bool
abbrev FL := Env → Mem → R (List A)
def HE (X : Cx) (T : Tb) (W : WX) (f : FE) (t : TE) : Prop := ∀ σ ρ G H env M (Q : VK), RS X.K T ρ G H M → EnvR X.K T ρ G env σ →
  Aft X.K T (relA X.K T) (fun c d H' => W c d σ H') ρ G H (f env M) (fun _ _ v _ _ H' => Q v H') → t σ H Q
def HT (X : Cx) (T : Tb) (W : WX) (f : FB) (t : TT) : Prop := ∀ σ ρ G H env M (Q : Bool → Hp → Prop), RS X.K T ρ G H M → EnvR X.K T ρ G env σ →
  Aft X.K T relB (fun c d H' => W c d σ H') ρ G H (f env M) (fun _ _ v _ _ H' => Q v H') → t σ H Q
def HA (X : Cx) (T : Tb) (W : WX) (f : FL) (t : TA) : Prop := ∀ σ ρ G H env M (Q : List V → Hp → Prop), RS X.K T ρ G H M → EnvR X.K T ρ G env σ →
  Aft X.K T (relAs X.K T) (fun c d H' => W c d σ H') ρ G H (f env M) (fun _ _ v _ _ H' => Q v H') → t σ H Q
def SE (X : Cx) (T : Tb) (W : WX) (e : Expr) (f : FE) : Prop := ∃ t : TE, PE X e t ∧ HE X T W f t
def ST (X : Cx) (T : Tb) (W : WX) (e : Expr) (f : FB) : Prop := ∃ t : TT, PT X e t ∧ HT X T W f t
def SW (X : Cx) (T : Tb) (W : WX) (e : Expr) (f : FB) : Prop := ∃ t : TT, PW X e t ∧ HT X T W f t
def SA (X : Cx) (T : Tb) (W : WX) (es : List Expr) (f : FL) : Prop := ∃ t : TA, PA X es t ∧ HA X T W f t

/-- what a statement comes to -/
inductive F where
  | nx (env : Env) (M : Mem) | rt (a : A) (M : Mem) | bk (env : Env) (M : Mem) | ct (env : Env) (M : Mem)
  | exc (k : Nat) (fs : List D) (env : Env) (M : Mem) | bad
abbrev FS := Env → Mem → F
def AftS (K : PySem.W.Frag) (T : Tb) (W : WX) (D : Ends) (ρ : List Addr) (G H : Hp) (r : F) : Prop := match r with
  | .nx env M' => ∀ σ' ρ' G' H', Ext ρ G H ρ' G' H' → RS K T ρ' G' H' M' → EnvR K T ρ' G' env σ' → D.nx σ' H'
  | .bk env M' => ∀ σ' ρ' G' H', Ext ρ G H ρ' G' H' → RS K T ρ' G' H' M' → EnvR K T ρ' G' env σ' → D.bk σ' H'
  | .ct env M' => ∀ σ' ρ' G' H', Ext ρ G H ρ' G' H' → RS K T ρ' G' H' M' → EnvR K T ρ' G' env σ' → D.ct σ' H'
  | .rt a M' => ∀ v ρ' G' H', Ext ρ G H ρ' G' H' → RS K T ρ' G' H' M' → ARep K T ρ' G' a v → D.rt v H'
  | .exc k fs env M' => ∀ σ' ρ' G' H' d xs, Ext ρ G H ρ' G' H' → RS K T ρ' G' H' M' → EnvR K T ρ' G' env σ' → Reps K T G' fs xs → H' d = some (.xd ((T.fl k).zip xs)) → (T.fl k).length = xs.length → W (.ref (T.ad k)) (some d) σ' H'
  | .bad => False
theorem AftS.ext {K : PySem.W.Frag} {T : Tb} {W : WX} {D : Ends} {ρ ρ1 : List Addr} {G H G1 H1 : Hp} {r : F} (e : Ext ρ G H ρ1 G1 H1) (h : AftS K T W D ρ G H r) : AftS K T W D ρ1 G1 H1 r := by
  cases r with
  | nx env M => exact fun σ' ρ' G' H' e' => h σ' ρ' G' H' (e.trans e')
  | bk env M => exact fun σ' ρ' G' H' e' => h σ' ρ' G' H' (e.trans e')
  | ct env M => exact fun σ' ρ' G' H' e' => h σ' ρ' G' H' (e.trans e')
  | rt a M => exact fun σ' ρ' G' H' e' => h σ' ρ' G' H' (e.trans e')
  | exc k fs env M => exact fun σ' ρ' G' H' d xs e' => h σ' ρ' G' H' d xs (e.trans e')
  | bad => exact h
def HS (X : Cx) (T : Tb) (W : WX) (g : FS) (t : TS) : Prop := ∀ σ ρ G H env M (D : Ends), RS X.K T ρ G H M → EnvR X.K T ρ G env σ → AftS X.K T W D ρ G H (g env M) → t D σ H
def SS (X : Cx) (T : Tb) (W : WX) (st : Stmt) (g : FS) : Prop := ∃ t : TS, PS X st t ∧ HS X T W g t
def SSs (X : Cx) (T : Tb) (W : WX) (st : List Stmt) (g : FS) : Prop := ∃ t : TS, PSs X st t ∧ HS X T W g t
/-- an expression's result goes on into a statement's -/
def R.go {α : Type} (r : R α) (env : Env) (f : α → Mem → F) : F := match r with
  | .ok a M => f a M
  | .exc k fs M => .exc k fs env M
  | .bad => .bad
theorem AftS.go {α β : Type} {K : PySem.W.Frag} {T : Tb} {W : WX} {D : Ends} {rel : List Addr → Hp → Hp → α → β → Prop} {ρ : List Addr} {G H : Hp} {r : R α} {env : Env} {σ : L2.St} {f : α → Mem → F} (ev : EnvR K T ρ G env σ)
    (h : AftS K T W D ρ G H (r.go env f)) : Aft K T rel (fun c d H' => W c d σ H') ρ G H r fun a M v ρ' G' H' => AftS K T W D ρ' G' H' (f a M) := by
  cases r with
  | ok a M => exact fun v ρ' G' H' e _ _ => h.ext e
  | exc k fs M => exact fun ρ' G' H' d xs e s q => h σ ρ' G' H' d xs e s (ev.mono e) q
  | bad => exact h
end Fy

set_option maxRecDepth 100000
namespace Fy
open PySem L2

/-! ### what an operator reads: a tree, or a list of the memory as it stands -/
def RepP (K : PySem.W.Frag) (T : Tb) (G H : Hp) : D → V → Prop
  | .lst ds, v => ∃ a xs, v = .ref a ∧ Rd H a (.lst xs) ∧ Reps K T G ds xs
  | d, v => Rep K T G d v
theorem Rep.p {K : PySem.W.Frag} {T : Tb} {G H : Hp} (e : Same G H) : ∀ {d : D} {v : V}, Rep K T G d v → RepP K T G H d v
  | .non, _, h => h
  | .bl _, _, h => h
  | .int _, _, h => h
  | .str _, _, h => h
  | .raw _, _, h => h
  | .scr _, _, h => h
  | .tup _, _, h => h
  | .ins _ _, _, h => h
  | .lst ds, v, ⟨a, xs, h1, h2, h3⟩ => ⟨a, xs, h1, rd_mono e h2, h3⟩
/-- the tree that an operand tells -/
def pk (M : Mem) : A → Option D
  | .d x => some x
  | .l n => match M[n]? with
    | some (.lst ds) => some (.lst ds)
    | _ => none
theorem pk_rep {K : PySem.W.Frag} {T : Tb} {ρ : List Addr} {G H : Hp} {M : Mem} (s : RS K T ρ G H M) : ∀ {a : A} {v : V} {d : D}, ARep K T ρ G a v → pk M a = some d → RepP K T G H d v
  | .d x, v, d, h, e => by
    have e' : x = d := Option.some.inj e
    subst e'
    exact h.p s.sub
  | .l n, v, d, ⟨a, h1, h2⟩, e => by
    replace e : (match M[n]? with | some (.lst ds) => some (D.lst ds) | _ => none) = some d := e
    cases hm : M[n]? with
    | none => rw [hm] at e; cases e
    | some o =>
      rw [hm] at e
      have q := s.mem n a o h1 hm
      cases o with
      | lst ds =>
        have e' : D.lst ds = d := Option.some.inj e
        subst e'
        obtain ⟨_, xs, h3, h4⟩ := q
        exact ⟨a, xs, h2, .inl h3, h4⟩
      | _ => cases e

/-! ### names, constants -/
def vr (i : Nat) : FE := fun env M => match env[i]? with
  | some (some a) => .ok a M
  | _ => .bad
def cn (x : D) : FE := fun _ M => .ok (.d x) M
section
variable {X : Cx} {T : Tb} {W : WX}
theorem e_var {i : Nat} {x : Str} {pos : Pos} (hN : X.N[i]? = some x := by rfl) (hv : Vis X.env.scope x := by first | exact Or.inl rfl | exact Or.inr (Or.inl rfl) | exact Or.inr (Or.inr rfl)) (hd : (x == ("__debug__" : Str)) = false := by decide)
    (hcd : (x == ("__classdict__" : Str)) = false := by decide) : SE X T W (.Name x pos) (vr i) := by
  refine ⟨_, pe_var hN hv hd hcd, fun σ ρ G H env M Q s ev h => ?_⟩
  unfold vr at h
  split at h
  · rename_i a e
    obtain ⟨v, h1, h2⟩ := ev.at_ i a e
    exact ⟨v, h1, h v ρ G H (Ext.refl ρ G H) s h2⟩
  · exact h.elim
/-- an expression that gives one tree, whatever the state -/
theorem e_cn {e : Expr} {d : D} {v : V} (h : PE X e (tC v)) (r : ∀ G, Rep X.K T G d v) : SE X T W e (cn d) :=
  ⟨_, h, fun σ ρ G H env M Q s ev h => h v ρ G H (Ext.refl ρ G H) s (r G)⟩
theorem e_int {i j pos} : SE X T W (.Constant (.int i) j pos) (cn (.int i)) := e_cn pe_int fun _ => rfl
theorem e_bl {b j pos} : SE X T W (.Constant (.bool b) j pos) (cn (.bl b)) := e_cn pe_bl fun _ => rfl
theorem e_non {j pos} : SE X T W (.Constant .none j pos) (cn .non) := e_cn pe_non fun _ => rfl
theorem e_str {x j pos} {l : List Nat} (h : ms l = x := by rfl) : SE X T W (.Constant (.str x) j pos) (cn (.str l)) := e_cn pe_str fun _ => by subst h; rfl
theorem e_glob {x : Str} {d : D} {v : V} {u : Value} {pos : Pos} (hg : Gl X x) (hm : X.mg x = some u) (r : RelV v u) (q : ∀ G, Rep X.K T G d v) (hd : (x == ("__debug__" : Str)) = false := by decide) : SE X T W (.Name x pos) (cn d) :=
  e_cn (pe_glob hg hm r hd) q

/-! ### two operands -/
/-- read two operands -/
def two {β : Type} (f g : FE) (k : D → D → Mem → R β) : Env → Mem → R β := fun env M => (f env M).bind fun a M1 => (g env M1).bind fun b M2 =>
  match pk M2 a, pk M2 b with
  | some x, some y => k x y M2
  | _, _ => .bad
def one {β : Type} (f : FE) (k : D → Mem → R β) : Env → Mem → R β := fun env M => (f env M).bind fun a M1 =>
  match pk M1 a with
  | some x => k x M1
  | _ => .bad
/-- an operator on trees: what it asks of values holds where the function has a value; its result may be new -/
def Op2 (X : Cx) (T : Tb) (f : Value → Value → Sem Value) (op : D → D → Option D) : Prop := ∃ r : R2, OpR X f r ∧ ∀ ρ G H M x y vx vy z (Q : VK), RS X.K T ρ G H M → RepP X.K T G H x vx → RepP X.K T G H y vy → op x y = some z →
  (∀ v G' H', Ext ρ G H ρ G' H' → RS X.K T ρ G' H' M → Rep X.K T G' z v → Q v H') → r vx vy H Q
theorem Op2.or {f : Value → Value → Sem Value} {op op' : D → D → Option D} (h : Op2 X T f op) (h' : Op2 X T f op') : Op2 X T f (fun x y => (op x y).or (op' x y)) := by
  obtain ⟨r, h1, h2⟩ := h
  obtain ⟨r', h1', h2'⟩ := h'
  refine ⟨_, h1.or h1', fun ρ G H M x y vx vy z Q s rx ry e k => ?_⟩
  cases q : op x y with
  | some z' =>
    have e : z' = z := by simpa [q] using e
    subst e
    exact .inl (h2 ρ G H M x y vx vy _ Q s rx ry q k)
  | none => exact .inr (h2' ρ G H M x y vx vy z Q s rx ry (by simpa [q] using e) k)
/-- an operator whose result is no new thing -/
theorem Op2.of {f : Value → Value → Sem Value} {op : D → D → Option D} {r : R2} (h : OpR X f r) (k : ∀ ρ G H M x y vx vy z (Q : VK), RS X.K T ρ G H M → RepP X.K T G H x vx → RepP X.K T G H y vy → op x y = some z → (∀ v, Rep X.K T G z v → Q v H) → r vx vy H Q) : Op2 X T f op :=
  ⟨r, h, fun ρ G H M x y vx vy z Q s rx ry e q => k ρ G H M x y vx vy z Q s rx ry e fun v hv => q v G H (Ext.refl _ _ _) s hv⟩
def bop (op : D → D → Option D) (f g : FE) : FE := two f g fun x y M => match op x y with
  | some z => .ok (.d z) M
  | none => .bad
variable {a b : Expr} {f g : FE} {pos : Pos}
theorem two_ok {β γ : Type} {rel : List Addr → Hp → Hp → β → γ → Prop} {ta tb : TE} {r : R2} {k : D → D → Mem → R β} {σ : L2.St} {ρ : List Addr} {G H : Hp} {env : Env} {M : Mem} {Q : β → Mem → γ → List Addr → Hp → Hp → Prop} {Q' : VK}
    (ha : HE X T W f ta) (hb : HE X T W g tb)
    (s : RS X.K T ρ G H M) (ev : EnvR X.K T ρ G env σ) (hr : ∀ x y vx vy M2 ρ2 G2 H2, RS X.K T ρ2 G2 H2 M2 → RepP X.K T G2 H2 x vx → RepP X.K T G2 H2 y vy → Aft X.K T rel (fun c d H' => W c d σ H') ρ2 G2 H2 (k x y M2) Q → r vx vy H2 Q')
    (h : Aft X.K T rel (fun c d H' => W c d σ H') ρ G H (two f g k env M) Q) : ta σ H fun x H1 => tb σ H1 fun y H2 => r x y H2 Q' := by
  refine ha σ ρ G H env M _ s ev (Aft.imp (Aft.bind (rel := relA X.K T) h) fun a1 M1 v1 ρ1 G1 H1 _ e1 s1 r1 q1 => ?_)
  refine hb σ ρ1 G1 H1 env M1 _ s1 (ev.mono e1) (Aft.imp (Aft.bind (rel := relA X.K T) q1) fun a2 M2 v2 ρ2 G2 H2 _ e2 s2 r2 q2 => ?_)
  split at q2
  · rename_i x y ex ey
    exact hr x y _ _ M2 ρ2 G2 H2 s2 (pk_rep s2 (r1.mono e2) ex) (pk_rep s2 r2 ey) q2
  · exact q2.elim
theorem bop_ok {op : D → D → Option D} {fv : Value → Value → Sem Value} (ho : Op2 X T fv op) : ∃ r : R2, OpR X fv r ∧ ∀ σ x y vx vy M2 ρ2 G2 H2 (Q : VK), RS X.K T ρ2 G2 H2 M2 → RepP X.K T G2 H2 x vx → RepP X.K T G2 H2 y vy →
    Aft X.K T (relA X.K T) (fun c d H' => W c d σ H') ρ2 G2 H2 (match op x y with | some z => .ok (.d z) M2 | none => .bad) (fun _ _ v _ _ H' => Q v H') → r vx vy H2 Q := by
  obtain ⟨r, h1, h2⟩ := ho
  refine ⟨r, h1, fun σ x y vx vy M2 ρ2 G2 H2 Q s rx ry q => ?_⟩
  split at q
  · rename_i z e
    exact h2 ρ2 G2 H2 M2 x y vx vy z Q s rx ry e fun v G' H' ex s' rv => q v ρ2 G' H' ex s' rv
  · exact q.elim
theorem e_op {o : Operator} {op : D → D → Option D} (ho : Op2 X T (binaryOp o) op) (ha : SE X T W a f) (hb : SE X T W b g) : SE X T W (.BinOp a o b pos) (bop op f g) := by
  obtain ⟨ta, pa, ha⟩ := ha
  obtain ⟨tb, pb, hb⟩ := hb
  obtain ⟨r, h1, h2⟩ := bop_ok (W := W) ho
  exact ⟨_, pe_op h1 pa pb, fun σ ρ G H env M Q s ev h => two_ok ha hb s ev (fun x y vx vy M2 ρ2 G2 H2 s2 rx ry q => h2 σ x y vx vy M2 ρ2 G2 H2 Q s2 rx ry q) h⟩
theorem e_cmp {o : CmpOp} {op : D → D → Option D} (ho : Op2 X T (compareOp o) op) (ha : SE X T W a f) (hb : SE X T W b g) (hm : behindInMarks o b = false) : SE X T W (.Compare a [o] [b] pos) (bop op f g) := by
  obtain ⟨ta, pa, ha⟩ := ha
  obtain ⟨tb, pb, hb⟩ := hb
  obtain ⟨r, h1, h2⟩ := bop_ok (W := W) ho
  exact ⟨_, pe_cmpR h1 pa pb hm, fun σ ρ G H env M Q s ev h => two_ok ha hb s ev (fun x y vx vy M2 ρ2 G2 H2 s2 rx ry q => h2 σ x y vx vy M2 ρ2 G2 H2 Q s2 rx ry q) h⟩

/-! ### tests -/
/-- a value that is a bool -/
def tst (f : FE) : FB := fun env M => (f env M).bind fun a M1 => match a with
  | .d (.bl b) => .ok b M1
  | _ => .bad
theorem tst_ok {ta : TE} {σ : L2.St} {ρ : List Addr} {G H : Hp} {env : Env} {M : Mem} {Q : Bool → Hp → Prop} (ha : HE X T W f ta)
    (s : RS X.K T ρ G H M) (ev : EnvR X.K T ρ G env σ) (h : Aft X.K T relB (fun c d H' => W c d σ H') ρ G H (tst f env M) (fun _ _ v _ _ H' => Q v H')) : ta σ H fun x H1 => ∃ c, x = .bl c ∧ Q c H1 := by
  refine ha σ ρ G H env M _ s ev (Aft.imp (Aft.bind (rel := relA X.K T) h) fun a M1 v ρ' G' H' _ e1 s1 r1 q1 => ?_)
  split at q1
  · rename_i b _
    exact ⟨b, r1, q1 b ρ' G' H' (Ext.refl _ _ _) s1 rfl⟩
  · exact q1.elim
theorem t_val {e : Expr} (h : SE X T W e f) (he : ∀ whole, isTrue e X.env whole = (do let v ← whole; standAt e.pos; holding [v] (truthy v)) := by intro _; rfl) : ST X T W e (tst f) := by
  obtain ⟨ta, pa, ha⟩ := h
  exact ⟨_, pt_val pa he, fun σ ρ G H env M Q s ev h => tst_ok ha s ev h⟩
theorem t_cmp {o : CmpOp} {op : D → D → Option D} (ho : Op2 X T (compareOp o) op) (ha : SE X T W a f) (hb : SE X T W b g) (hm : behindInMarks o b = false) : ST X T W (.Compare a [o] [b] pos) (tst (bop op f g)) := by
  obtain ⟨ta, pa, ha⟩ := ha
  obtain ⟨tb, pb, hb⟩ := hb
  obtain ⟨r, h1, h2⟩ := bop_ok (W := W) ho
  refine ⟨_, pt_cmpR h1 pa pb hm, fun σ ρ G H env M Q s ev h => ?_⟩
  exact tst_ok (f := bop op f g) (ta := tOp r ta tb) (fun σ ρ G H env M Q s ev h => two_ok ha hb s ev (fun x y vx vy M2 ρ2 G2 H2 s2 rx ry q => h2 σ x y vx vy M2 ρ2 G2 H2 Q s2 rx ry q) h) s ev h
def andT (f g : FB) : FB := fun env M => (f env M).bind fun b M1 => if b = true then g env M1 else .ok false M1
def orT (f g : FB) : FB := fun env M => (f env M).bind fun b M1 => if b = true then .ok true M1 else g env M1
def notT (f : FB) : FB := fun env M => (f env M).bind fun b M1 => .ok (!b) M1
variable {u v : FB} {rest : List Expr}
theorem w_pt {e : Expr} (h : SW X T W e u) : ST X T W e u := by
  obtain ⟨t, p, h⟩ := h
  exact ⟨t, p.pt, h⟩
theorem w_and1 (h : ST X T W a u) : SW X T W (.BoolOp .And [a] pos) u := by
  obtain ⟨t, p, h⟩ := h
  exact ⟨t, pw_and1 p, h⟩
theorem w_or1 (h : ST X T W a u) : SW X T W (.BoolOp .Or [a] pos) u := by
  obtain ⟨t, p, h⟩ := h
  exact ⟨t, pw_or1 p, h⟩
theorem w_and (h : ST X T W a u) (h' : SW X T W (.BoolOp .And (b :: rest) pos) v) : SW X T W (.BoolOp .And (a :: b :: rest) pos) (andT u v) := by
  obtain ⟨t, p, h⟩ := h
  obtain ⟨t', p', h'⟩ := h'
  refine ⟨_, pw_and p p', fun σ ρ G H env M Q s ev q => ?_⟩
  refine h σ ρ G H env M _ s ev (Aft.imp (Aft.bind (rel := relB) q) fun c M1 c' ρ1 G1 H1 _ e1 s1 r1 q1 => ?_)
  cases r1
  cases c with
  | true => exact h' σ ρ1 G1 H1 env M1 Q s1 (ev.mono e1) q1
  | false => exact q1 false ρ1 G1 H1 (Ext.refl _ _ _) s1 rfl
theorem w_or (h : ST X T W a u) (h' : SW X T W (.BoolOp .Or (b :: rest) pos) v) : SW X T W (.BoolOp .Or (a :: b :: rest) pos) (orT u v) := by
  obtain ⟨t, p, h⟩ := h
  obtain ⟨t', p', h'⟩ := h'
  refine ⟨_, pw_or p p', fun σ ρ G H env M Q s ev q => ?_⟩
  refine h σ ρ G H env M _ s ev (Aft.imp (Aft.bind (rel := relB) q) fun c M1 c' ρ1 G1 H1 _ e1 s1 r1 q1 => ?_)
  cases r1
  cases c with
  | false => exact h' σ ρ1 G1 H1 env M1 Q s1 (ev.mono e1) q1
  | true => exact q1 true ρ1 G1 H1 (Ext.refl _ _ _) s1 rfl
theorem t_not (h : ST X T W a u) : ST X T W (.UnaryOp .Not a pos) (notT u) := by
  obtain ⟨t, p, h⟩ := h
  refine ⟨_, pt_not p, fun σ ρ G H env M Q s ev q => ?_⟩
  refine h σ ρ G H env M _ s ev (Aft.imp (Aft.bind (rel := relB) q) fun c M1 c' ρ1 G1 H1 _ e1 s1 r1 q1 => ?_)
  cases r1
  exact q1 _ ρ1 G1 H1 (Ext.refl _ _ _) s1 rfl
end
end Fy

set_option maxRecDepth 100000
namespace Fy
open PySem L2
variable {K : PySem.W.Frag} {T : Tb} {ρ : List Addr} {G H : Hp} {M : Mem}

theorem KReps.mono {κ : Type} {G' : Hp} (e : Same G G') : ∀ {ds : List (κ × D)} {xs : List (κ × V)}, KReps K T G ds xs → KReps K T G' ds xs
  | [], _, h => h
  | d :: ds, xs, ⟨x, r, h1, h2, h3⟩ => ⟨x, r, h1, h2.mono e, KReps.mono e h3⟩
/-- an object of the memory stays, where its own place stays -/
theorem ORep.mono {G' H' : Hp} {o : O} {a : Addr} (e : Same G G') (h1 : G' a = G a) (h2 : H' a = H a) (h : ORep K T G H o a) : ORep K T G' H' o a := by
  cases o with
  | lst ds => obtain ⟨n, xs, q, r⟩ := h; exact ⟨h1.trans n, xs, h2.trans q, r.mono e⟩
  | dK kvs => obtain ⟨n, xs, q, r⟩ := h; exact ⟨h1.trans n, xs, h2.trans q, r.mono e⟩
  | dT kvs => obtain ⟨n, xs, q, r⟩ := h; exact ⟨h1.trans n, xs, h2.trans q, r.mono e⟩
  | set S n => obtain ⟨n, q⟩ := h; exact ⟨h1.trans n, h2.trans q⟩
  | ins k fs => obtain ⟨n, dx, xs, q, r⟩ := h; exact ⟨h1.trans n, dx, xs, h2.trans q, r.mono e⟩
  | dead => trivial
theorem Same.none_of (e : Same G H) {p : Addr} (h : H p = none) : G p = none := e.free h
theorem same_upd {p : Addr} {o : HO} (h : G p = none) : Same G (upd G p o) := fun b u e => by
  rw [upd_ne (ne_of_none e h)]; exact e
theorem same_upd2 {p : Addr} {o : HO} (e : Same G H) : Same (upd G p o) (upd H p o) := fun b u h => by
  by_cases hb : b = p
  · subst hb; rw [upd_same] at h ⊢; exact h
  · rw [upd_ne hb] at h ⊢; exact e b u h
/-- a new object that stands for ever -/
theorem RS.froz (s : RS K T ρ G H M) {p : Addr} {o : HO} (h : H p = none) : RS K T ρ (upd G p o) (upd H p o) M ∧ Ext ρ G H ρ (upd G p o) (upd H p o) := by
  have hn : ∀ a ∈ ρ, a ≠ p := fun a ha z => s.live a ha (by rw [z]; exact h)
  have gp := Same.none_of s.sub h
  refine ⟨⟨same_upd2 s.sub, s.len, s.nd, fun a ha => by rw [upd_ne (hn a ha)]; exact s.live a ha, fun l a u e1 e2 => ?_⟩, ⟨fun _ _ q => q, same_upd gp, fun a ha => .inl ha, fun a u e hx => ?_, fun x e => ?_, fun a e => ?_⟩⟩
  · have ha : a ∈ ρ := List.mem_of_getElem? e1
    exact (s.mem l a u e1 e2).mono (same_upd gp) (upd_ne (hn a ha)) (upd_ne (hn a ha))
  · rw [upd_ne (ne_of_none e h)]; exact e
  · by_cases z : x = p
    · subst z; rw [upd_same]; exact fun q => nomatch q
    · rw [upd_ne z]; exact e
  · by_cases z : a = p
    · subst z; exact .inr (.inl h)
    · rw [upd_ne z] at e; exact .inl e
theorem get_app {α : Type} {l : List α} {x : α} {i : Nat} {y : α} (h : (l ++ [x])[i]? = some y) : l[i]? = some y ∨ (i = l.length ∧ y = x) := by
  by_cases hi : i < l.length
  · rw [List.getElem?_append_left hi] at h; exact .inl h
  · rw [List.getElem?_append_right (by omega)] at h
    by_cases hz : i - l.length = 0
    · rw [hz] at h; exact .inr ⟨by omega, (Option.some.inj h).symm⟩
    · obtain ⟨n, hn⟩ : ∃ n, i - l.length = n + 1 := ⟨i - l.length - 1, by omega⟩
      rw [hn] at h; simp at h
/-- a new object of the memory -/
theorem RS.own (s : RS K T ρ G H M) {p : Addr} {o : HO} {u : O} (h : H p = none) (r : ORep K T G (upd H p o) u p) : RS K T (ρ ++ [p]) G (upd H p o) (M ++ [u]) ∧ Ext ρ G H (ρ ++ [p]) G (upd H p o) := by
  have hn : ∀ a ∈ ρ, a ≠ p := fun a ha z => s.live a ha (by rw [z]; exact h)
  have gp := Same.none_of s.sub h
  refine ⟨⟨fun b v e => by rw [upd_ne (ne_of_none e gp)]; exact s.sub b v e, by simp [s.len], ?_, fun a ha => ?_, fun l a v e1 e2 => ?_⟩, ⟨fun l a q => ?_, Same.refl G, fun a ha => ?_, fun a v e hx => ?_, fun x e => ?_, fun _ e => .inl e⟩⟩
  · rw [List.nodup_append]
    exact ⟨s.nd, by simp, fun a ha b hb => by have e : b = p := by simpa using hb
                                              rw [e]; exact hn a ha⟩
  · rcases List.mem_append.mp ha with ha | ha
    · rw [upd_ne (hn a ha)]; exact s.live a ha
    · have e : a = p := by simpa using ha
      rw [e, upd_same]; exact fun q => nomatch q
  · rcases get_app e1 with e1 | ⟨i1, rfl⟩
    · rcases get_app e2 with e2 | ⟨i2, rfl⟩
      · have ha : a ∈ ρ := List.mem_of_getElem? e1
        exact (s.mem l a v e1 e2).mono (Same.refl G) rfl (upd_ne (hn a ha))
      · have := (List.getElem?_eq_some_iff.mp e1).1
        have := s.len
        omega
    · rcases get_app e2 with e2 | ⟨i2, rfl⟩
      · have := (List.getElem?_eq_some_iff.mp e2).1
        have := s.len
        omega
      · exact r
  · rw [List.getElem?_append_left (List.getElem?_eq_some_iff.mp q).1]; exact q
  · rcases List.mem_append.mp ha with ha | ha
    · exact .inl ha
    · have e : a = p := by simpa using ha
      rw [e]; exact .inr h
  · rw [upd_ne (ne_of_none e h)]; exact e
  · by_cases z : x = p
    · subst z; rw [upd_same]; exact fun q => nomatch q
    · rw [upd_ne z]; exact e
/-- an object of the memory is changed -/
theorem RS.put (s : RS K T ρ G H M) {l : Nat} {a : Addr} {o : HO} {u : O} (h : ρ[l]? = some a) (hg : G a = none) (r : ORep K T G (upd H a o) u a) : RS K T ρ G (upd H a o) (M.set l u) ∧ Ext ρ G H ρ G (upd H a o) := by
  have ha : a ∈ ρ := List.mem_of_getElem? h
  refine ⟨⟨fun b v e => by rw [upd_ne (ne_of_none e hg)]; exact s.sub b v e, by simp [s.len], s.nd, fun b hb => ?_, fun j b v e1 e2 => ?_⟩, ⟨fun _ _ q => q, Same.refl G, fun _ hb => .inl hb, fun b v e hx => ?_, fun x e => ?_, fun _ e => .inl e⟩⟩
  · by_cases z : b = a
    · subst z; rw [upd_same]; exact fun q => nomatch q
    · rw [upd_ne z]; exact s.live b hb
  · by_cases hj : j = l
    · subst hj
      have hlt : j < M.length := by have := (List.getElem?_eq_some_iff.mp h).1; have := s.len; omega
      rw [List.getElem?_set_self hlt] at e2
      rw [h] at e1
      cases e1; cases e2
      exact r
    · rw [List.getElem?_set_ne (Ne.symm hj)] at e2
      have hb : b ≠ a := fun z => hj (nd_ix s.nd e1 (by rw [z]; exact h))
      exact (s.mem j b v e1 e2).mono (Same.refl G) rfl (upd_ne hb)
  · rw [upd_ne (fun z => hx (by rw [z]; exact ha))]; exact e
  · by_cases z : x = a
    · subst z; rw [upd_same]; exact fun q => nomatch q
    · rw [upd_ne z]; exact e
/-- an object of the memory is from now on a tree -/
theorem RS.freeze (s : RS K T ρ G H M) {l : Nat} {a : Addr} {o : HO} (h : ρ[l]? = some a) (hg : G a = none) (ho : H a = some o) : RS K T ρ (upd G a o) H (M.set l .dead) ∧ Ext ρ G H ρ (upd G a o) H := by
  refine ⟨⟨fun b v e => ?_, by simp [s.len], s.nd, s.live, fun j b v e1 e2 => ?_⟩, ⟨fun _ _ q => q, same_upd hg, fun _ hb => .inl hb, fun _ _ e _ => e, fun _ e => e, fun b e => by
    by_cases z : b = a
    · subst z; exact .inr (.inr (List.mem_of_getElem? h))
    · rw [upd_ne z] at e; exact .inl e⟩⟩
  · by_cases z : b = a
    · subst z; rw [upd_same] at e; rw [ho]; exact e
    · rw [upd_ne z] at e; exact s.sub b v e
  · by_cases hj : j = l
    · subst hj
      have hlt : j < M.length := by have := (List.getElem?_eq_some_iff.mp h).1; have := s.len; omega
      rw [List.getElem?_set_self hlt] at e2
      cases e2
      trivial
    · rw [List.getElem?_set_ne (Ne.symm hj)] at e2
      have hb : b ≠ a := fun z => hj (nd_ix s.nd e1 (by rw [z]; exact h))
      exact (s.mem j b v e1 e2).mono (same_upd hg) (upd_ne hb) rfl

/-! ### arguments -/
def nilA : FL := fun _ M => .ok [] M
def consA (f : FE) (g : FL) : FL := fun env M => (f env M).bind fun a M1 => (g env M1).bind fun as M2 => .ok (a :: as) M2
section
variable {X : Cx} {W : WX} {e a b : Expr} {es : List Expr} {f g : FE} {fa : FL} {pos : Pos}
theorem a_nil : SA X T W [] nilA := ⟨_, pa_nil, fun σ ρ G H env M Q s ev h => h [] ρ G H (Ext.refl _ _ _) s rfl⟩
theorem a_cons (h : SE X T W e f) (k : SA X T W es fa) (hs : starEach (e :: es) X.env = (false, eval e X.env) :: starEach es X.env := by rfl) : SA X T W (e :: es) (consA f fa) := by
  obtain ⟨t, p, h⟩ := h
  obtain ⟨t', p', k⟩ := k
  refine ⟨_, pa_cons p p' hs, fun σ ρ G H env M Q s ev q => ?_⟩
  refine h σ ρ G H env M _ s ev (Aft.imp (Aft.bind (rel := relA X.K T) q) fun a1 M1 v1 ρ1 G1 H1 _ e1 s1 r1 q1 => ?_)
  refine k σ ρ1 G1 H1 env M1 _ s1 (ev.mono e1) (Aft.imp (Aft.bind (rel := relAs X.K T) q1) fun a2 M2 v2 ρ2 G2 H2 _ e2 s2 r2 q2 => ?_)
  exact q2 (v1 :: v2) ρ2 G2 H2 (Ext.refl _ _ _) s2 ⟨v1, v2, rfl, r1.mono e2, r2⟩
/-- all of them trees -/
def allD : List A → Option (List D)
  | [] => some []
  | .d x :: r => (allD r).map (x :: ·)
  | .l _ :: _ => none
theorem allD_rep : ∀ {as : List A} {vs : List V} {ds : List D}, AReps K T ρ G as vs → allD as = some ds → Reps K T G ds vs
  | [], vs, ds, h, e => by cases e; exact h
  | .d x :: r, vs, ds, ⟨v, w, h1, h2, h3⟩, e => by
    unfold allD at e
    cases q : allD r with
    | none => rw [q] at e; cases e
    | some ds' =>
      rw [q] at e
      cases e
      exact ⟨v, w, h1, h2, allD_rep h3 q⟩
  | .l n :: r, _, _, _, e => by cases e
/-- a tuple, a list that stays as it is, a list of the memory -/
def tupE (fa : FL) : FE := fun env M => (fa env M).bind fun as M1 => match allD as with
  | some ds => if ds.length ≤ SZ then .ok (.d (.tup ds)) M1 else .bad
  | none => .bad
def lstE (fa : FL) : FE := fun env M => (fa env M).bind fun as M1 => match allD as with
  | some ds => if ds.length ≤ SZ then .ok (.d (.lst ds)) M1 else .bad
  | none => .bad
def newE (fa : FL) : FE := fun env M => (fa env M).bind fun as M1 => match allD as with
  | some ds => if ds.length ≤ SZ then .ok (.l M1.length) (M1 ++ [.lst ds]) else .bad
  | none => .bad
theorem e_tup {x1} (h : SA X T W es fa) : SE X T W (.Tuple es x1 pos) (tupE fa) := by
  obtain ⟨t, p, h⟩ := h
  refine ⟨_, pe_tup p, fun σ ρ G H env M Q s ev q => ?_⟩
  refine h σ ρ G H env M _ s ev (Aft.imp (Aft.bind (rel := relAs X.K T) q) fun as M1 vs ρ1 G1 H1 _ e1 s1 r1 q1 => ?_)
  split at q1
  · rename_i ds hd
    have rd := allD_rep r1 hd
    split at q1
    · rename_i hz
      refine ⟨by rw [sz_eq, ← rd.length]; exact hz, fun p hp => ?_⟩
      obtain ⟨s2, e2⟩ := s1.froz (o := .tup vs) hp
      exact q1 (.ref p) ρ1 _ _ e2 s2 ⟨p, vs, rfl, SqT.of upd_same, rd.mono e2.sub⟩
    · exact q1.elim
  · exact q1.elim
theorem e_lst (h : SA X T W es fa) : SE X T W (.List es pos) (lstE fa) := by
  obtain ⟨t, p, h⟩ := h
  refine ⟨_, pe_lst p, fun σ ρ G H env M Q s ev q => ?_⟩
  refine h σ ρ G H env M _ s ev (Aft.imp (Aft.bind (rel := relAs X.K T) q) fun as M1 vs ρ1 G1 H1 _ e1 s1 r1 q1 => ?_)
  split at q1
  · rename_i ds hd
    have rd := allD_rep r1 hd
    split at q1
    · rename_i hz
      refine ⟨by rw [sz_eq, ← rd.length]; exact hz, fun p hp => ?_⟩
      obtain ⟨s2, e2⟩ := s1.froz (o := .lst vs) hp
      exact q1 (.ref p) ρ1 _ _ e2 s2 ⟨p, vs, rfl, .inl upd_same, rd.mono e2.sub⟩
    · exact q1.elim
  · exact q1.elim
theorem e_new (h : SA X T W es fa) : SE X T W (.List es pos) (newE fa) := by
  obtain ⟨t, p, h⟩ := h
  refine ⟨_, pe_lst p, fun σ ρ G H env M Q s ev q => ?_⟩
  refine h σ ρ G H env M _ s ev (Aft.imp (Aft.bind (rel := relAs X.K T) q) fun as M1 vs ρ1 G1 H1 _ e1 s1 r1 q1 => ?_)
  split at q1
  · rename_i ds hd
    have rd := allD_rep r1 hd
    split at q1
    · rename_i hz
      refine ⟨by rw [sz_eq, ← rd.length]; exact hz, fun p hp => ?_⟩
      obtain ⟨s2, e2⟩ := s1.own (o := .lst vs) (u := .lst ds) hp ⟨Same.none_of s1.sub hp, vs, upd_same, rd⟩
      exact q1 (.ref p) _ _ _ e2 s2 ⟨p, by rw [← s1.len, List.getElem?_append_right (Nat.le_refl _)]; simp, rfl⟩
    · exact q1.elim
  · exact q1.elim
/-- a list of the memory is from now on a tree -/
def frz (f : FE) : FE := fun env M => (f env M).bind fun a M1 => match a with
  | .d x => .ok (.d x) M1
  | .l n => match M1[n]? with
    | some (.lst ds) => .ok (.d (.lst ds)) (M1.set n .dead)
    | _ => .bad
theorem e_frz (h : SE X T W e f) : SE X T W e (frz f) := by
  obtain ⟨t, p, h⟩ := h
  refine ⟨_, p, fun σ ρ G H env M Q s ev q => ?_⟩
  refine h σ ρ G H env M _ s ev (Aft.imp (Aft.bind (rel := relA X.K T) q) fun a M1 v ρ1 G1 H1 _ e1 s1 r1 q1 => ?_)
  cases a with
  | d x => exact q1 v ρ1 G1 H1 (Ext.refl _ _ _) s1 r1
  | l n =>
    obtain ⟨a, ha, rfl⟩ := r1
    simp only at q1
    split at q1
    · rename_i ds hm
      obtain ⟨gn, xs, ho, rr⟩ := s1.mem n a _ ha hm
      obtain ⟨s2, e2⟩ := s1.freeze ha gn ho
      exact q1 (.ref a) ρ1 _ _ e2 s2 ⟨a, xs, rfl, .inl upd_same, rr.mono e2.sub⟩
    · exact q1.elim

/-! ### a def -/
abbrev FF := List A → Mem → R A
/-- what a def promises: the result of the function -/
def spF (K : PySem.W.Frag) (T : Tb) (n : Nat) (F : FF) : Sp := fun vs H Q E => vs.length = n ∧ ∃ ρ G as M, RS K T ρ G H M ∧ AReps K T ρ G as vs ∧ Aft K T (relA K T) E ρ G H (F as M) (fun _ _ v _ _ H' => Q v H')
def callE (F : FF) (fa : FL) : FE := fun env M => (fa env M).bind fun as M1 => F as M1
def lenA : List A → Nat := List.length
theorem AReps.length : ∀ {as : List A} {vs : List V}, AReps K T ρ G as vs → as.length = vs.length
  | [], vs, h => by cases h; rfl
  | a :: as, vs, ⟨x, r, h1, _, h3⟩ => by subst h1; simp [AReps.length h3]
/-- the function, where it is given so many arguments -/
def arity (n : Nat) (F : FF) : FF := fun as M => if as.length = n then F as M else .bad
theorem e_call {k : Nat} {x : Str} {fd : FuncData} {fAd : Addr} {ps : List Str} {n : Nat} {F : FF} {p : Pos} (tk : Takes X W) (FO : FnOk X.prog X.w X.K X.mg X.base (L2.CX X.prog X.w) k fAd fd ps (spF X.K T n F)) (hr : Room k X.A) (hg : Gl X x) (hm : X.mg x = some (.ref fAd))
    (hk : PySem.W.keepIn X.K (.ref fAd) = true) (hb : Binds X.K fd ps []) (ha : SA X T W (e :: es) fa) (hdb : (x == ("__debug__" : Str)) = false := by decide) (he : starEach (e :: es) X.env = (false, eval e X.env) :: starEach es X.env := by rfl) (hpl : (backTo pos (starEach es X.env)).any (·.1) = false := by rfl) :
    SE X T W (.Call (.Name x p) (e :: es) [] pos) (callE (arity n F) fa) := by
  obtain ⟨t, pa, ha⟩ := ha
  refine ⟨_, pe_callS FO hr hg hm hk hb (E := WE W) (fun σ => passAt tk σ) pa hdb he hpl, fun σ ρ G H env M Q s ev q => ?_⟩
  refine ha σ ρ G H env M _ s ev (Aft.imp (Aft.bind (rel := relAs X.K T) q) fun as M1 vs ρ1 G1 H1 _ e1 s1 r1 q1 => ?_)
  by_cases hn : as.length = n
  · unfold arity at q1
    rw [if_pos hn] at q1
    exact ⟨by rw [← r1.length]; exact hn, ρ1, G1, as, M1, s1, r1, q1⟩
  · unfold arity at q1
    rw [if_neg hn] at q1
    exact q1.elim
end
end Fy

set_option maxRecDepth 100000
namespace Fy
open PySem L2
variable {K : PySem.W.Frag} {T : Tb} {ρ : List Addr} {G H : Hp} {M : Mem}

theorem EnvR.set {env : Env} {σ : L2.St} {a : A} {v : V} (h : EnvR K T ρ G env σ) (r : ARep K T ρ G a v) (i : Nat) : EnvR K T ρ G (env.set i (some a)) (σ.set i (some v)) := by
  refine ⟨by rw [List.length_set, List.length_set]; exact h.len, fun j b e => ?_⟩
  by_cases hj : i = j
  · subst hj
    by_cases hi : i < env.length
    · rw [List.getElem?_set_self hi] at e
      cases e
      exact ⟨v, List.getElem?_set_self (by rw [← h.len]; exact hi), r⟩
    · rw [List.getElem?_eq_none (by rw [List.length_set]; omega)] at e
      cases e
  · rw [List.getElem?_set_ne hj] at e ⊢
    exact h.at_ j b e
section
variable {X : Cx} {W : WX} {e a b : Expr} {es : List Expr} {f g : FE} {fa : FL} {pos : Pos} {st : Stmt} {sts : List Stmt} {p q : FS} {c : FB}
def nxS : FS := fun env M => .nx env M
def seqS (p q : FS) : FS := fun env M => match p env M with
  | .nx env1 M1 => q env1 M1
  | .rt a M1 => .rt a M1
  | .bk env1 M1 => .bk env1 M1
  | .ct env1 M1 => .ct env1 M1
  | .exc k fs env1 M1 => .exc k fs env1 M1
  | .bad => .bad
def neverS : FS := fun _ _ => .bad
def retS (f : FE) : FS := fun env M => (f env M).go env fun a M1 => .rt a M1
def retN : FS := fun _ M => .rt (.d .non) M
def dropS (f : FE) : FS := fun env M => (f env M).go env fun _ M1 => .nx env M1
def setS (i : Nat) (f : FE) : FS := fun env M => (f env M).go env fun a M1 => .nx (env.set i (some a)) M1
def ifS (c : FB) (p q : FS) : FS := fun env M => (c env M).go env fun b M1 => if b = true then p env M1 else q env M1
def bkS : FS := fun env M => .bk env M
def ctS : FS := fun env M => .ct env M
theorem s_nil : SSs X T W [] nxS := ⟨_, pss_nil, fun σ ρ G H env M D s ev h => h σ ρ G H (Ext.refl _ _ _) s ev⟩
theorem s_cons (h : SS X T W st p) (k : SSs X T W sts q) : SSs X T W (st :: sts) (seqS p q) := by
  obtain ⟨t, pt, h⟩ := h
  obtain ⟨t', pt', k⟩ := k
  refine ⟨_, pss_cons pt pt', fun σ ρ G H env M D s ev r => h σ ρ G H env M _ s ev ?_⟩
  unfold seqS at r
  cases hp : p env M with
  | nx env1 M1 =>
    rw [hp] at r
    exact fun σ' ρ' G' H' e s' ev' => k σ' ρ' G' H' env1 M1 D s' ev' (r.ext e)
  | rt a M1 => rw [hp] at r; exact r
  | bk env1 M1 => rw [hp] at r; exact r
  | ct env1 M1 => rw [hp] at r; exact r
  | exc k fs env1 M1 => rw [hp] at r; exact r
  | bad => rw [hp] at r; exact r
theorem s_one (h : SS X T W st p) : SSs X T W [st] p := by
  obtain ⟨t, pt, h⟩ := h
  exact ⟨t, pss_one pt, h⟩
theorem s_never : SS X T W st neverS := ⟨_, ps_never, fun _ _ _ _ _ _ _ _ _ h => h.elim⟩
theorem ss_never : SSs X T W sts neverS := ⟨_, pss_never, fun _ _ _ _ _ _ _ _ _ h => h.elim⟩
theorem s_pass : SS X T W (.Pass pos) nxS := ⟨_, ps_pass, fun σ ρ G H env M D s ev h => h σ ρ G H (Ext.refl _ _ _) s ev⟩
theorem s_break : SS X T W (.Break pos) bkS := ⟨_, ps_break, fun σ ρ G H env M D s ev h => h σ ρ G H (Ext.refl _ _ _) s ev⟩
theorem s_continue : SS X T W (.Continue pos) ctS := ⟨_, ps_continue, fun σ ρ G H env M D s ev h => h σ ρ G H (Ext.refl _ _ _) s ev⟩
theorem s_doc {x j pos pos'} : SS X T W (.Expr (.Constant (.str x) j pos) pos') nxS := ⟨_, ps_doc, fun σ ρ G H env M D s ev h => h σ ρ G H (Ext.refl _ _ _) s ev⟩
theorem s_ret (h : SE X T W e f) : SS X T W (.Return (some e) pos) (retS f) := by
  obtain ⟨t, pt, h⟩ := h
  refine ⟨_, ps_ret pt, fun σ ρ G H env M D s ev r => h σ ρ G H env M _ s ev (Aft.imp (AftS.go (rel := relA X.K T) ev r) fun a M1 v ρ1 G1 H1 _ e1 s1 r1 q1 => ?_)⟩
  exact q1 v ρ1 G1 H1 (Ext.refl _ _ _) s1 r1
theorem s_retN : SS X T W (.Return none pos) retN := ⟨_, ps_retN, fun σ ρ G H env M D s ev h => h .non ρ G H (Ext.refl _ _ _) s rfl⟩
theorem s_expr (h : SE X T W e f) (hs : swapsWith e none pos.line X.env = pure false := by rfl) : SS X T W (.Expr e pos) (dropS f) := by
  obtain ⟨t, pt, h⟩ := h
  refine ⟨_, ps_expr pt hs, fun σ ρ G H env M D s ev r => h σ ρ G H env M _ s ev (Aft.imp (AftS.go (rel := relA X.K T) ev r) fun a M1 v ρ1 G1 H1 _ e1 s1 r1 q1 => ?_)⟩
  exact q1 σ ρ1 G1 H1 (Ext.refl _ _ _) s1 (ev.mono e1)
theorem s_set {i : Nat} {x : Str} {pos' : Pos} (hN : X.N.Nodup) (h : SE X T W e f) (hi : X.N[i]? = some x := by rfl) (hx : Loc X.env.scope x := by first | exact .inl rfl | exact .inr rfl)
    (hs : swapsWith e (some (.Name x pos')) pos.line X.env = pure false := by rfl) (hf : X.fn x = true ∨ X.env.scope.names.lookup x = some .local := by first | exact .inl rfl | exact .inr rfl | assumption) : SS X T W (.Assign [.Name x pos'] e pos) (setS i f) := by
  obtain ⟨t, pt, h⟩ := h
  refine ⟨_, ps_set hN hi hx pt hs hf, fun σ ρ G H env M D s ev r => h σ ρ G H env M _ s ev (Aft.imp (AftS.go (rel := relA X.K T) ev r) fun a M1 v ρ1 G1 H1 _ e1 s1 r1 q1 => ?_)⟩
  exact q1 _ ρ1 G1 H1 (Ext.refl _ _ _) s1 ((ev.mono e1).set r1 i)
theorem s_if {ss1 ss2 : List Stmt} (hc : ST X T W e c) (h : SSs X T W ss1 p) (k : SSs X T W ss2 q) : SS X T W (.If e ss1 ss2 pos) (ifS c p q) := by
  obtain ⟨tc, pc, hc⟩ := hc
  obtain ⟨t, pt, h⟩ := h
  obtain ⟨t', pt', k⟩ := k
  refine ⟨_, ps_if pc pt pt', fun σ ρ G H env M D s ev r => hc σ ρ G H env M _ s ev (Aft.imp (AftS.go (rel := relB) ev r) fun d M1 v ρ1 G1 H1 _ e1 s1 r1 q1 => ?_)⟩
  cases r1
  cases d with
  | true => exact h σ ρ1 G1 H1 env M1 D s1 (ev.mono e1) q1
  | false => exact k σ ρ1 G1 H1 env M1 D s1 (ev.mono e1) q1

/-! ### while -/
def whileS (c : FB) (p : FS) : Nat → FS
  | 0, _, _ => .bad
  | n + 1, env, M => (c env M).go env fun b M1 => if b = true then (match p env M1 with
    | .nx env2 M2 => whileS c p n env2 M2
    | .ct env2 M2 => whileS c p n env2 M2
    | .bk env2 M2 => .nx env2 M2
    | .rt a M2 => .rt a M2
    | .exc k fs env2 M2 => .exc k fs env2 M2
    | .bad => .bad) else .nx env M1
theorem s_while {ss : List Stmt} {n : Nat} (hp : PassesOwn (model X.prog X.w) X.A X.env X.xe) (hc : ST X T W e c) (h : SSs X T W ss p) : SS X T W (.While e ss [] pos) (whileS c p n) := by
  obtain ⟨tc, pc, hc⟩ := hc
  obtain ⟨t, pt, h⟩ := h
  refine ⟨_, ps_while hp pc pt, fun σ ρ G H env M D s ev r => ?_⟩
  refine ⟨fun m σ' H' => ∃ ρ G env M, RS X.K T ρ G H' M ∧ EnvR X.K T ρ G env σ' ∧ AftS X.K T W D ρ G H' (whileS c p m env M), ⟨n, ρ, G, env, M, s, ev, r⟩, ?_⟩
  rintro m σ H ⟨ρ, G, env, M, s, ev, r⟩
  cases m with
  | zero => exact r.elim
  | succ m =>
    refine hc σ ρ G H env M _ s ev (Aft.imp (AftS.go (rel := relB) ev r) fun d M1 v ρ1 G1 H1 _ e1 s1 r1 q1 => ?_)
    cases r1
    cases d with
    | false => exact q1 σ ρ1 G1 H1 (Ext.refl _ _ _) s1 (ev.mono e1)
    | true =>
      refine ⟨fun σ' H' => ∃ m', m' < m + 1 ∧ ∃ ρ G env M, RS X.K T ρ G H' M ∧ EnvR X.K T ρ G env σ' ∧ AftS X.K T W D ρ G H' (whileS c p m' env M), fun σ' H' ⟨m', hm, z⟩ => ⟨m', hm, z⟩, ?_⟩
      refine h σ ρ1 G1 H1 env M1 _ s1 (ev.mono e1) ?_
      simp only [if_true] at q1
      cases hp : p env M1 with
      | nx env2 M2 =>
        rw [hp] at q1
        exact fun σ' ρ' G' H' e s' ev' => ⟨m, Nat.lt_succ_self m, ρ', G', env2, M2, s', ev', q1.ext e⟩
      | ct env2 M2 =>
        rw [hp] at q1
        exact fun σ' ρ' G' H' e s' ev' => ⟨m, Nat.lt_succ_self m, ρ', G', env2, M2, s', ev', q1.ext e⟩
      | bk env2 M2 => rw [hp] at q1; exact q1
      | rt a M2 => rw [hp] at q1; exact q1
      | exc k fs env2 M2 => rw [hp] at q1; exact q1
      | bad => rw [hp] at q1; exact q1

/-! ### targets -/
abbrev FG := A → Env → Option Env
def tgN (i : Nat) : FG := fun a env => some (env.set i (some a))
/-- the targets of a display, each a tree -/
def tgNil : List D → Env → Option Env
  | [], env => some env
  | _ :: _, _ => none
def tgCons (t : FG) (u : List D → Env → Option Env) : List D → Env → Option Env
  | [], _ => none
  | d :: ds, env => (t (.d d) env).bind fun env1 => u ds env1
def tgT (u : List D → Env → Option Env) : FG := fun a env => match a with
  | .d (.tup ds) => u ds env
  | _ => none
/-- the slots outside sl stay -/
def Off (sl : List Nat) (σ σ' : L2.St) : Prop := σ.length = σ'.length ∧ ∀ i, i ∉ sl → σ'[i]? = σ[i]?
def SG (X : Cx) (T : Tb) (tg : Expr) (g : FG) (sl : List Nat) : Prop := ∃ t : TG, PG X tg t ∧ ∀ σ ρ G H env M a v env' (Q : L2.St → Hp → Prop), RS X.K T ρ G H M → EnvR X.K T ρ G env σ → ARep X.K T ρ G a v → g a env = some env' →
  (∀ σ', EnvR X.K T ρ G env' σ' → Off sl σ σ' → Q σ' H) → t v σ H Q
def SGs (X : Cx) (T : Tb) (tg : List Expr) (g : List D → Env → Option Env) (sl : List Nat) (n : Nat) : Prop := ∃ t : TGs, PGs X tg t ∧ (∀ ds env env', g ds env = some env' → ds.length = n) ∧ ∀ σ ρ G H env M ds vs env' (Q : L2.St → Hp → Prop), RS X.K T ρ G H M → EnvR X.K T ρ G env σ → Reps X.K T G ds vs → g ds env = some env' →
  (∀ σ', EnvR X.K T ρ G env' σ' → Off sl σ σ' → Q σ' H) → t vs σ H Q
theorem g_name {i : Nat} {x : Str} (hN : X.N.Nodup) (hi : X.N[i]? = some x := by rfl) (hx : Loc X.env.scope x := by first | exact .inl rfl | exact .inr rfl) (hf : X.fn x = true ∨ X.env.scope.names.lookup x = some .local := by first | exact .inl rfl | exact .inr rfl | assumption) : SG X T (.Name x pos) (tgN i) [i] := by
  refine ⟨_, pg_name hN hi hx hf, fun σ ρ G H env M a v env' Q s ev r e k => ?_⟩
  cases e
  exact k _ (ev.set r i) ⟨(List.length_set ..).symm, fun j hj => List.getElem?_set_ne (fun z => hj (by simp [z]))⟩
theorem gs_nil : SGs X T [] tgNil [] 0 := by
  refine ⟨_, pgs_nil, fun ds env env' e => ?_, fun σ ρ G H env M ds vs env' Q s ev r e k => ?_⟩
  · cases ds with
    | nil => rfl
    | cons d ds => cases e
  · cases ds with
    | nil => cases e; exact ⟨r, k σ ev ⟨rfl, fun _ _ => rfl⟩⟩
    | cons d ds => cases e
theorem gs_cons {t : Expr} {ts : List Expr} {g : FG} {u : List D → Env → Option Env} {sl sl' : List Nat} {n : Nat} (h : SG X T t g sl) (k : SGs X T ts u sl' n)
    (hs : (assignEach (t :: ts) X.env).map (·.2) = assign t X.env :: (assignEach ts X.env).map (·.2) := by rfl) : SGs X T (t :: ts) (tgCons g u) (sl ++ sl') (n + 1) := by
  obtain ⟨tt, pt, h⟩ := h
  obtain ⟨tu, pu, kn, k⟩ := k
  refine ⟨_, pgs_cons pt pu hs, fun ds env env' e => ?_, fun σ ρ G H env M ds vs env' Q s ev r e q => ?_⟩
  · cases ds with
    | nil => cases e
    | cons d ds =>
      replace e : (g (.d d) env).bind (fun env1 => u ds env1) = some env' := e
      cases hg : g (.d d) env with
      | none => rw [hg] at e; cases e
      | some env1 => rw [hg] at e; simp [kn ds env1 env' e]
  · cases ds with
    | nil => cases e
    | cons d ds =>
      obtain ⟨x, xs, rfl, r1, r2⟩ := r
      replace e : (g (.d d) env).bind (fun env1 => u ds env1) = some env' := e
      cases hg : g (.d d) env with
      | none => rw [hg] at e; cases e
      | some env1 =>
        rw [hg] at e
        refine ⟨x, xs, rfl, h σ ρ G H env M (.d d) x env1 _ s ev r1 hg fun σ1 ev1 o1 => ?_⟩
        refine k σ1 ρ G H env1 M ds xs env' _ s ev1 r2 e fun σ2 ev2 o2 => q σ2 ev2 ⟨o1.1.trans o2.1, fun i hi => ?_⟩
        rw [List.mem_append, not_or] at hi
        exact (o2.2 i hi.2).trans (o1.2 i hi.1)
theorem g_tup {ts : List Expr} {k : Nat} {u : List D → Env → Option Env} {sl : List Nat} {n : Nat} (hc : X.calm = true) (h : SGs X T ts u sl n)
    (hn : (assignEach ts X.env).length = n := by rfl) (hst : (assignEach ts X.env).findIdx? (·.1) = none := by rfl) : SG X T (.Tuple ts k pos) (tgT u) sl := by
  obtain ⟨tu, pu, kn, h⟩ := h
  refine ⟨_, pg_tup hc pu hn hst, fun σ ρ G H env M a v env' Q s ev r e q => ?_⟩
  cases a with
  | l n => cases e
  | d x =>
    cases x with
    | tup ds =>
      obtain ⟨a, xs, rfl, h1, h2⟩ := r
      have e : u ds env = some env' := e
      refine ⟨a, xs, rfl, ?_, by rw [← h2.length]; exact kn ds env env' e, h σ ρ G H env M ds xs env' Q s ev h2 e q⟩
      rcases h1 with (h | ⟨o, h⟩) | h
      · exact .inl (.inl (s.sub _ _ h))
      · exact .inl (.inr ⟨o, s.sub _ _ h⟩)
      · exact .inr h
    | _ => cases e
/-- target = value -/
def asgS (g : FG) (f : FE) : FS := fun env M => (f env M).go env fun a M1 => match g a env with
  | some env1 => .nx env1 M1
  | none => .bad
theorem s_asg {tg : Expr} {g : FG} {sl : List Nat} (h : SE X T W e f) (hg : SG X T tg g sl) (hs : swapsWithSole [tg] e pos.line X.env = pure false := by rfl) (hw : swappedStores [tg] e X.env = pure none := by rfl)
    (h1 : (assignEach [tg] X.env).map (·.2) = [assign tg X.env] := by rfl) : SS X T W (.Assign [tg] e pos) (asgS g f) := by
  obtain ⟨t, pt, h⟩ := h
  obtain ⟨tg', pg, hg⟩ := hg
  refine ⟨_, ps_asg pt pg hs hw h1, fun σ ρ G H env M D s ev r => h σ ρ G H env M _ s ev (Aft.imp (AftS.go (rel := relA X.K T) ev r) fun a M1 v ρ1 G1 H1 _ e1 s1 r1 q1 => ?_)⟩
  split at q1
  · rename_i env1 e
    exact hg σ ρ1 G1 H1 env M1 a v env1 _ s1 (ev.mono e1) r1 e fun σ' ev' _ => q1 σ' ρ1 G1 H1 (Ext.refl _ _ _) s1 ev'
  · exact q1.elim
/-- a, b = x, y of two locals -/
def parS (i j : Nat) (f g : FE) : FS := fun env M => ((f env M).bind fun a M1 => (g env M1).bind fun b M2 => .ok (a, b) M2).go env fun p M2 => .nx ((env.set i (some p.1)).set j (some p.2)) M2
theorem s_par {i j : Nat} {x y : Str} {a b : Expr} {px py pt : Pos} {kt k2 pt2} (hc : X.calm = true) (hN : X.N.Nodup) (ha : SE X T W a f) (hb : SE X T W b g) (hi : X.N[i]? = some x := by rfl) (hj : X.N[j]? = some y := by rfl) (hij : i ≠ j := by decide)
    (hx : X.env.scope.names.lookup x = some .local := by rfl) (hy : X.env.scope.names.lookup y = some .local := by rfl)
    (hw : swappedStores [.Tuple [.Name x px, .Name y py] kt pt] (.Tuple [a, b] k2 pt2) X.env = pure (some [x, y]) := by rfl)
    (hs : swapsWithSole [.Tuple [.Name x px, .Name y py] kt pt] (.Tuple [a, b] k2 pt2) pos.line X.env = pure false := by rfl) (hs1 : starEach [a, b] X.env = (false, eval a X.env) :: starEach [b] X.env := by rfl) (hs2 : starEach [b] X.env = (false, eval b X.env) :: starEach [] X.env := by rfl) :
    SS X T W (.Assign [.Tuple [.Name x px, .Name y py] kt pt] (.Tuple [a, b] k2 pt2) pos) (parS i j f g) := by
  obtain ⟨ta, pa, ha⟩ := ha
  obtain ⟨tb, pb, hb⟩ := hb
  refine ⟨_, ps_par hc hN hi hj hij hx hy (pa_cons pa (pa_cons pb pa_nil hs2) hs1) hw hs, fun σ ρ G H env M D s ev r => ?_⟩
  have r' := AftS.go (rel := fun ρ G H (p : A × A) (q : V × V) => ARep X.K T ρ G p.1 q.1 ∧ ARep X.K T ρ G p.2 q.2) ev r
  refine ha σ ρ G H env M _ s ev (Aft.imp (Aft.bind (rel := relA X.K T) r') fun a1 M1 v1 ρ1 G1 H1 _ e1 s1 r1 q1 => ?_)
  refine hb σ ρ1 G1 H1 env M1 _ s1 (ev.mono e1) (Aft.imp (Aft.bind (rel := relA X.K T) q1) fun a2 M2 v2 ρ2 G2 H2 _ e2 s2 r2 q2 => ?_)
  refine ⟨v1, v2, rfl, ?_⟩
  have q3 := q2 (v1, v2) ρ2 G2 H2 (Ext.refl _ _ _) s2 ⟨r1.mono e2, r2⟩
  exact q3 _ ρ2 G2 H2 (Ext.refl _ _ _) s2 ((((ev.mono e1).mono e2).set (r1.mono e2) i).set r2 j)

/-! ### what a for walks: its items are known ahead -/
/-- J gives the trees ds, one by one, while G stands -/
structure Wk (K : PySem.W.Frag) (T : Tb) (J : It) (ds : List D) (G : Hp) : Prop where
  stop : ∀ H, Same G H → J.stop ds.length H
  go : ∀ i H, i < ds.length → Same G H → J.go i H
  yld : ∀ i ρ G1 H M x H', i < ds.length → Same G G1 → RS K T ρ G1 H M → J.yld i H x H' → ∃ G2 d, Ext ρ G1 H ρ G2 H' ∧ RS K T ρ G2 H' M ∧ ds[i]? = some d ∧ Rep K T G2 d x
def relW (K : PySem.W.Frag) (T : Tb) (_ρ : List Addr) (G _H : Hp) (ds : List D) (J : It) : Prop := Wk K T J ds G
abbrev FI := Env → Mem → R (List D)
def SI (X : Cx) (T : Tb) (W : WX) (tg it : Expr) (f : FI) : Prop := ∃ wi : TI, PI X tg it wi ∧ ∀ σ ρ G H env M (Q : It → Hp → Prop), RS X.K T ρ G H M → EnvR X.K T ρ G env σ →
  Aft X.K T (relW X.K T) (fun c d H' => W c d σ H') ρ G H (f env M) (fun _ _ J _ _ H' => Q J H') → wi σ H Q
def loopS (g : FG) (p : FS) : List D → Env → Mem → F
  | [], env, M => .nx env M
  | d :: ds, env, M => match g (.d d) env with
    | none => .bad
    | some env1 => match p env1 M with
      | .nx env2 M2 => loopS g p ds env2 M2
      | .ct env2 M2 => loopS g p ds env2 M2
      | .bk env2 M2 => .nx env2 M2
      | .rt a M2 => .rt a M2
      | .exc k fs env2 M2 => .exc k fs env2 M2
      | .bad => .bad
def forS (it : FI) (g : FG) (p : FS) : FS := fun env M => (it env M).go env fun ds M1 => loopS g p ds env M1
theorem s_for {tg iter : Expr} {body : List Stmt} {it : FI} {g : FG} {sl : List Nat} (hp : PassesOwn (model X.prog X.w) X.A X.env X.xe) (hc : X.calm = true) (hi : SI X T W tg iter it) (hg : SG X T tg g sl) (hb : SSs X T W body p)
    (hs : ∀ x, foldedSetIterable iter X.env x = pure x := by intro _; rfl) : SS X T W (.For tg iter body [] pos) (forS it g p) := by
  obtain ⟨wi, pi, hi⟩ := hi
  obtain ⟨tg', pg, hg⟩ := hg
  obtain ⟨tb, pb, hb⟩ := hb
  refine ⟨_, ps_for hp hc pi pg pb hs, fun σ ρ G H env M D s ev r => ?_⟩
  refine hi σ ρ G H env M _ s ev (Aft.imp (AftS.go (rel := relW X.K T) ev r) fun ds M1 J ρ1 G1 H1 _ e1 s1 w q1 => ?_)
  refine ⟨fun i m σ' H' => m = ds.length - i ∧ i ≤ ds.length ∧ ∃ ρ' G' env' M', Same G1 G' ∧ RS X.K T ρ' G' H' M' ∧ EnvR X.K T ρ' G' env' σ' ∧ AftS X.K T W D ρ' G' H' (loopS g p (ds.drop i) env' M'),
    ⟨ds.length, rfl, Nat.zero_le _, ρ1, G1, env, M1, Same.refl _, s1, ev.mono e1, q1⟩, ?_⟩
  rintro i m σ' H' ⟨rfl, hi, ρ', G', env', M', sg, s', ev', q⟩
  by_cases hlt : i < ds.length
  · have hd : ds.drop i = ds[i] :: ds.drop (i + 1) := List.drop_eq_getElem_cons hlt
    rw [hd] at q
    refine .inr ⟨w.go i H' hlt (sg.trans s'.sub), fun σ2 H2 => ∃ ρ2 G2 env2 M2, Same G1 G2 ∧ RS X.K T ρ2 G2 H2 M2 ∧ EnvR X.K T ρ2 G2 env2 σ2 ∧ AftS X.K T W D ρ2 G2 H2 (loopS g p (ds.drop (i + 1)) env2 M2),
      fun σ2 H2 z => ⟨ds.length - (i + 1), by omega, rfl, hlt, z⟩, fun x H2 y => ?_⟩
    obtain ⟨G2, d, e2, s2, hd2, r2⟩ := w.yld i ρ' G' H' M' x H2 hlt sg s' y
    have ed : d = ds[i] := by rw [List.getElem?_eq_getElem hlt] at hd2; exact (Option.some.inj hd2).symm
    subst ed
    unfold loopS at q
    cases hge : g (.d ds[i]) env' with
    | none => rw [hge] at q; exact q.elim
    | some env1 =>
      rw [hge] at q
      refine hg σ' ρ' G2 H2 env' M' (.d ds[i]) x env1 _ s2 (ev'.mono e2) r2 hge fun σ3 ev3 _ => ?_
      refine hb σ3 ρ' G2 H2 env1 M' _ s2 ev3 ?_
      simp only at q
      cases hpe : p env1 M' with
      | nx env2 M2 =>
        rw [hpe] at q
        exact fun σ4 ρ4 G4 H4 e4 s4 ev4 => ⟨ρ4, G4, env2, M2, (sg.trans e2.sub).trans e4.sub, s4, ev4, q.ext (e2.trans e4)⟩
      | ct env2 M2 =>
        rw [hpe] at q
        exact fun σ4 ρ4 G4 H4 e4 s4 ev4 => ⟨ρ4, G4, env2, M2, (sg.trans e2.sub).trans e4.sub, s4, ev4, q.ext (e2.trans e4)⟩
      | bk env2 M2 =>
        rw [hpe] at q
        exact fun σ4 ρ4 G4 H4 e4 s4 ev4 => q σ4 ρ4 G4 H4 (e2.trans e4) s4 ev4
      | rt a M2 =>
        rw [hpe] at q
        exact fun v ρ4 G4 H4 e4 s4 r4 => q v ρ4 G4 H4 (e2.trans e4) s4 r4
      | exc k fs env2 M2 =>
        rw [hpe] at q
        exact fun σ4 ρ4 G4 H4 d xs e4 s4 ev4 => q σ4 ρ4 G4 H4 d xs (e2.trans e4) s4 ev4
      | bad => rw [hpe] at q; exact q.elim
  · have e : i = ds.length := by omega
    subst e
    rw [List.drop_length] at q
    exact .inl ⟨w.stop H' (sg.trans s'.sub), q σ' ρ' G' H' (Ext.refl _ _ _) s' ev'⟩
end
end Fy

set_option maxRecDepth 100000
namespace Fy
open PySem L2
variable {K : PySem.W.Frag} {T : Tb} {ρ : List Addr} {G H : Hp} {M : Mem}
theorem seqT_mono {a : Addr} {xs : List V} (e : Same G H) (h : SqT K G a xs) : SqT K H a xs := by
  rcases h with (h | ⟨o, h⟩) | h
  · exact .inl (.inl (e _ _ h))
  · exact .inl (.inr ⟨o, e _ _ h⟩)
  · exact .inr h
theorem PIor {X : Cx} {tg it : Expr} {w w' : TI} (h : PI X tg it w) (h' : PI X tg it w') : PI X tg it (fun σ H R => w σ H R ∨ w' σ H R) :=
  ⟨fun pins s σ H R I q => q.elim (h.run pins s σ H R I) (h'.run pins s σ H R I)⟩
theorem wk_list {a : Addr} {xs : List V} {ds : List D} (h : SqL K G a xs) (r : Reps K T G ds xs) : Wk K T (Itl K a) ds G where
  stop := fun H e => ⟨xs, e.seq h, by rw [r.length]; exact Nat.le_refl _⟩
  go := fun i H hi e => ⟨xs, xs[i]'(by rw [← r.length]; exact hi), e.seq h, List.getElem?_eq_getElem (by rw [← r.length]; exact hi)⟩
  yld := fun i ρ G1 H M x H' hi e s y => by
    obtain ⟨rfl, y⟩ := y
    obtain ⟨v, h1, h2⟩ := r.get (i := i) (List.getElem?_eq_getElem hi)
    have := y xs ((e.trans s.sub).seq h)
    rw [h1] at this
    cases this
    exact ⟨G1, ds[i], Ext.refl _ _ _, s, List.getElem?_eq_getElem hi, h2.mono e⟩
theorem wk_tup {a : Addr} {xs : List V} {ds : List D} (h : SqT K G a xs) (r : Reps K T G ds xs) : Wk K T (Itt K a) ds G where
  stop := fun H e => ⟨xs, seqT_mono e h, by rw [r.length]; exact Nat.le_refl _⟩
  go := fun i H hi e => ⟨xs, xs[i]'(by rw [← r.length]; exact hi), seqT_mono e h, List.getElem?_eq_getElem (by rw [← r.length]; exact hi)⟩
  yld := fun i ρ G1 H M x H' hi e s y => by
    obtain ⟨rfl, y⟩ := y
    obtain ⟨v, h1, h2⟩ := r.get (i := i) (List.getElem?_eq_getElem hi)
    have := y xs (seqT_mono (e.trans s.sub) h)
    rw [h1] at this
    cases this
    exact ⟨G1, ds[i], Ext.refl _ _ _, s, List.getElem?_eq_getElem hi, h2.mono e⟩
/-- lo, lo + 1, .. n of them -/
def rng (lo : Int) (n : Nat) : List D := (List.range n).map fun (i : Nat) => D.int (lo + (i : Int))
theorem rng_len (lo : Int) (n : Nat) : (rng lo n).length = n := by simp [rng]
theorem rng_get {lo : Int} {n i : Nat} (h : i < n) : (rng lo n)[i]? = some (.int (lo + i)) := by simp [rng, List.getElem?_map, List.getElem?_range h]
theorem wk_rng (lo : Int) (n : Nat) : Wk K T (Itr lo n) (rng lo n) G where
  stop := fun H e => by rw [rng_len]; exact Nat.le_refl _
  go := fun i H hi e => by rw [rng_len] at hi; exact hi
  yld := fun i ρ G1 H M x H' hi e s y => by
    obtain ⟨rfl, rfl⟩ := y
    rw [rng_len] at hi
    exact ⟨G1, _, Ext.refl _ _ _, s, rng_get hi, rfl⟩
theorem wk_str (l : List Nat) : Wk K T (Its (ms l)) (l.map fun c => .str [c]) G where
  stop := fun H e => by show (ms l).cps.size ≤ _; simp [ms]
  go := fun i H hi e => by show i < (ms l).cps.size; simpa [ms] using hi
  yld := fun i ρ G1 H M x H' hi e s y => by
    obtain ⟨rfl, c, h1, rfl⟩ := y
    have h2 : l[i]? = some c := by simpa [ms] using h1
    exact ⟨G1, .str [c], Ext.refl _ _ _, s, by rw [List.getElem?_map, h2]; rfl, rfl⟩
/-- a new pair -/
theorem pair_new {x y : V} {d e : D} {p : Addr} (s : RS K T ρ G H M) (hp : H p = none) (r1 : Rep K T G d x) (r2 : Rep K T G e y) :
    ∃ G2, Ext ρ G H ρ G2 (upd H p (.tup [x, y])) ∧ RS K T ρ G2 (upd H p (.tup [x, y])) M ∧ Rep K T G2 (.tup [d, e]) (.ref p) := by
  obtain ⟨s2, e2⟩ := s.froz (o := .tup [x, y]) hp
  exact ⟨_, e2, s2, p, [x, y], rfl, SqT.of upd_same, ⟨x, [y], rfl, r1.mono e2.sub, y, [], rfl, r2.mono e2.sub, rfl⟩⟩
def enumD (ds : List D) : List D := ds.mapIdx fun i d => .tup [.int (i : Nat), d]
theorem wk_enum {a : Addr} {xs : List V} {ds : List D} (h : SqL K G a xs) (r : Reps K T G ds xs) : Wk K T (Ite K a) (enumD ds) G where
  stop := fun H e => ⟨xs, e.seq h, by simp [enumD, r.length]⟩
  go := fun i H hi e => by
    have hi : i < xs.length := by simpa [enumD, r.length] using hi
    exact ⟨xs, xs[i], e.seq h, List.getElem?_eq_getElem hi⟩
  yld := fun i ρ G1 H M x H' hi e s y => by
    have hi : i < ds.length := by simpa [enumD] using hi
    obtain ⟨p, z, rfl, hp, rfl, y⟩ := y
    obtain ⟨v, h1, h2⟩ := r.get (i := i) (List.getElem?_eq_getElem hi)
    have := y xs ((e.trans s.sub).seq h)
    rw [h1] at this
    cases this
    obtain ⟨G2, e2, s2, r2⟩ := pair_new (d := .int (i : Nat)) s hp rfl (h2.mono e)
    exact ⟨G2, _, e2, s2, by simp [enumD, List.getElem?_mapIdx, List.getElem?_eq_getElem hi], r2⟩
def zipD (ds es : List D) : List D := (ds.zip es).map fun p => .tup [p.1, p.2]
theorem zip_get {ds es : List D} {i : Nat} (hi : i < (zipD ds es).length) : ∃ d e, ds[i]? = some d ∧ es[i]? = some e ∧ (zipD ds es)[i]? = some (.tup [d, e]) := by
  have hi' : i < ds.length ∧ i < es.length := by simpa [zipD, Nat.lt_min] using hi
  refine ⟨ds[i], es[i], List.getElem?_eq_getElem hi'.1, List.getElem?_eq_getElem hi'.2, ?_⟩
  simp [zipD, List.zip, List.getElem?_zipWith, hi'.1, hi'.2]
theorem wk_zip {a b : Addr} {xs ys : List V} {ds es : List D} (h : SqL K G a xs) (r : Reps K T G ds xs) (h' : SqL K G b ys) (r' : Reps K T G es ys) : Wk K T (Itz K a b) (zipD ds es) G where
  stop := fun H e => ⟨xs, ys, e.seq h, e.seq h', by simp [zipD, r.length, r'.length]; omega⟩
  go := fun i H hi e => by
    obtain ⟨d, e', h1, h2, _⟩ := zip_get hi
    obtain ⟨v, h3, _⟩ := r.get h1
    obtain ⟨w, h4, _⟩ := r'.get h2
    exact ⟨xs, ys, v, w, e.seq h, e.seq h', h3, h4⟩
  yld := fun i ρ G1 H M x H' hi e s y => by
    obtain ⟨d, e', h1, h2, h5⟩ := zip_get hi
    obtain ⟨v, h3, r3⟩ := r.get h1
    obtain ⟨w, h4, r4⟩ := r'.get h2
    obtain ⟨p, z1, z2, rfl, hp, rfl, y1, y2⟩ := y
    have q1 := y1 xs ((e.trans s.sub).seq h)
    have q2 := y2 ys ((e.trans s.sub).seq h')
    rw [h3] at q1; rw [h4] at q2
    cases q1; cases q2
    obtain ⟨G2, e2, s2, r2⟩ := pair_new s hp (r3.mono e) (r4.mono e)
    exact ⟨G2, _, e2, s2, h5, r2⟩
theorem wk_zipT {a b : Addr} {xs ys : List V} {ds es : List D} (h : SqT K G a xs) (r : Reps K T G ds xs) (h' : SqT K G b ys) (r' : Reps K T G es ys) : Wk K T (RZ.ItzT K a b) (zipD ds es) G where
  stop := fun H e => ⟨xs, ys, seqT_mono e h, seqT_mono e h', by simp [zipD, r.length, r'.length]; omega⟩
  go := fun i H hi e => by
    obtain ⟨d, e', h1, h2, _⟩ := zip_get hi
    obtain ⟨v, h3, _⟩ := r.get h1
    obtain ⟨w, h4, _⟩ := r'.get h2
    exact ⟨xs, ys, v, w, seqT_mono e h, seqT_mono e h', h3, h4⟩
  yld := fun i ρ G1 H M x H' hi e s y => by
    obtain ⟨d, e', h1, h2, h5⟩ := zip_get hi
    obtain ⟨v, h3, r3⟩ := r.get h1
    obtain ⟨w, h4, r4⟩ := r'.get h2
    obtain ⟨p, z1, z2, rfl, hp, rfl, y1, y2⟩ := y
    have q1 := y1 xs (seqT_mono (e.trans s.sub) h)
    have q2 := y2 ys (seqT_mono (e.trans s.sub) h')
    rw [h3] at q1; rw [h4] at q2
    cases q1; cases q2
    obtain ⟨G2, e2, s2, r2⟩ := pair_new s hp (r3.mono e) (r4.mono e)
    exact ⟨G2, _, e2, s2, h5, r2⟩

section
variable {X : Cx} {W : WX} {e a b tg : Expr} {es : List Expr} {f g : FE} {pos p : Pos}
/-- the items of a tree -/
def itemsI (f : FE) : FI := fun env M => (f env M).bind fun a M1 => match a with
  | .d (.lst ds) => .ok ds M1
  | .d (.tup ds) => .ok ds M1
  | _ => .bad
theorem i_seq (h : SE X T W e f) : SI X T W tg e (itemsI f) := by
  obtain ⟨t, pe, h⟩ := h
  refine ⟨_, PIor (pi_list pe) (pi_tup pe), fun σ ρ G H env M Q s ev q => ?_⟩
  unfold itemsI at q
  cases hf : f env M with
  | bad => rw [hf] at q; exact q.elim
  | exc k fs M1 =>
    rw [hf] at q
    exact .inl (h σ ρ G H env M _ s ev (by rw [hf]; exact q))
  | ok a M1 =>
    rw [hf] at q
    cases a with
    | l n => exact q.elim
    | d x =>
      cases x with
      | lst ds =>
        refine .inl (h σ ρ G H env M _ s ev ?_)
        rw [hf]
        intro v ρ' G' H' ex s' r
        obtain ⟨a, xs, rfl, h1, h2⟩ := r
        exact ⟨a, rfl, ⟨xs, s'.sub.seq (.inl h1)⟩, q (Itl X.K a) ρ' G' H' ex s' (wk_list (.inl h1) h2)⟩
      | tup ds =>
        refine .inr (h σ ρ G H env M _ s ev ?_)
        rw [hf]
        intro v ρ' G' H' ex s' r
        obtain ⟨a, xs, rfl, h1, h2⟩ := r
        exact ⟨a, rfl, ⟨xs, seqT_mono s'.sub h1⟩, q (Itt X.K a) ρ' G' H' ex s' (wk_tup h1 h2)⟩
      | _ => exact q.elim
def signsI (f : FE) : FI := fun env M => (f env M).bind fun a M1 => match a with
  | .d (.str l) => .ok (l.map fun c => .str [c]) M1
  | _ => .bad
theorem i_str (h : SE X T W e f) : SI X T W tg e (signsI f) := by
  obtain ⟨t, pe, h⟩ := h
  refine ⟨_, pi_str pe, fun σ ρ G H env M Q s ev q => ?_⟩
  refine h σ ρ G H env M _ s ev (Aft.imp (Aft.bind (rel := relA X.K T) q) fun a M1 v ρ1 G1 H1 _ e1 s1 r1 q1 => ?_)
  split at q1
  · rename_i l _
    exact ⟨ms l, r1, q1 _ ρ1 G1 H1 (Ext.refl _ _ _) s1 (wk_str l)⟩
  · exact q1.elim
def rangeI1 (f : FE) : FI := fun env M => (f env M).bind fun a M1 => match a with
  | .d (.int j) => if smI j = true then .ok (rng 0 j.toNat) M1 else .bad
  | _ => .bad
theorem i_range1 (hg : Gl X "range") (hm : X.mg "range" = none) (h : SE X T W a f) (hs : starEach [a] X.env = [(false, eval a X.env)] := by rfl) : SI X T W tg (.Call (.Name "range" p) [a] [] pos) (rangeI1 f) := by
  obtain ⟨t, pe, h⟩ := h
  refine ⟨_, pi_range1 hg hm (pa_cons pe pa_nil (by rw [hs]; rfl)) hs, fun σ ρ G H env M Q s ev q => ?_⟩
  refine h σ ρ G H env M _ s ev (Aft.imp (Aft.bind (rel := relA X.K T) q) fun a M1 v ρ1 G1 H1 _ e1 s1 r1 q1 => ?_)
  split at q1
  · rename_i j _
    split at q1
    · rename_i hj
      cases r1
      exact ⟨j, rfl, (smI_ok hj).1, (smI_ok hj).2, q1 _ ρ1 G1 H1 (Ext.refl _ _ _) s1 (wk_rng 0 j.toNat)⟩
    · exact q1.elim
  · exact q1.elim
def rangeI2 (f g : FE) : FI := fun env M => (f env M).bind fun a M1 => (g env M1).bind fun b M2 => match a, b with
  | .d (.int i), .d (.int j) => if smI i = true ∧ smI j = true then .ok (rng i (j - i).toNat) M2 else .bad
  | _, _ => .bad
theorem i_range2 (hg : Gl X "range") (hm : X.mg "range" = none) (h : SE X T W a f) (k : SE X T W b g) (hs : starEach [a, b] X.env = [(false, eval a X.env), (false, eval b X.env)] := by rfl) (hs2 : starEach [b] X.env = [(false, eval b X.env)] := by rfl) :
    SI X T W tg (.Call (.Name "range" p) [a, b] [] pos) (rangeI2 f g) := by
  obtain ⟨t, pe, h⟩ := h
  obtain ⟨t', pe', k⟩ := k
  refine ⟨_, pi_range2 hg hm (pa_cons pe (pa_cons pe' pa_nil (by rw [hs2]; rfl)) (by rw [hs, hs2])) hs hs2, fun σ ρ G H env M Q s ev q => ?_⟩
  refine h σ ρ G H env M _ s ev (Aft.imp (Aft.bind (rel := relA X.K T) q) fun a1 M1 v1 ρ1 G1 H1 _ e1 s1 r1 q1 => ?_)
  refine k σ ρ1 G1 H1 env M1 _ s1 (ev.mono e1) (Aft.imp (Aft.bind (rel := relA X.K T) q1) fun a2 M2 v2 ρ2 G2 H2 _ e2 s2 r2 q2 => ?_)
  split at q2
  · rename_i i j _ _
    split at q2
    · rename_i hj
      cases r1; cases r2
      exact ⟨i, j, rfl, ⟨(smI_ok hj.1).1, (smI_ok hj.1).2, (smI_ok hj.2).1, (smI_ok hj.2).2⟩, q2 _ ρ2 G2 H2 (Ext.refl _ _ _) s2 (wk_rng i _)⟩
    · exact q2.elim
  · exact q2.elim
def enumI (f : FE) : FI := fun env M => (f env M).bind fun a M1 => match a with
  | .d (.lst ds) => .ok (enumD ds) M1
  | _ => .bad
theorem i_enum {elts : List Expr} {kk : Nat} {tpos : Pos} (hg : Gl X "enumerate") (hm : X.mg "enumerate" = none) (h : SE X T W a f) (hs : starEach [a] X.env = [(false, eval a X.env)] := by rfl) : SI X T W (.Tuple elts kk tpos) (.Call (.Name "enumerate" p) [a] [] pos) (enumI f) := by
  obtain ⟨t, pe, h⟩ := h
  refine ⟨_, pi_enum hg hm (pa_cons pe pa_nil (by rw [hs]; rfl)) hs, fun σ ρ G H env M Q s ev q => ?_⟩
  refine h σ ρ G H env M _ s ev (Aft.imp (Aft.bind (rel := relA X.K T) q) fun a M1 v ρ1 G1 H1 _ e1 s1 r1 q1 => ?_)
  split at q1
  · obtain ⟨a, xs, rfl, h1, h2⟩ := r1
    exact ⟨a, xs, rfl, s1.sub.seq (.inl h1), q1 _ ρ1 G1 H1 (Ext.refl _ _ _) s1 (wk_enum (.inl h1) h2)⟩
  · exact q1.elim
def zipI (f g : FE) : FI := fun env M => (f env M).bind fun a M1 => (g env M1).bind fun b M2 => match a, b with
  | .d (.lst ds), .d (.lst es) => .ok (zipD ds es) M2
  | .d (.tup ds), .d (.tup es) => .ok (zipD ds es) M2
  | _, _ => .bad
theorem i_zip {elts : List Expr} {kk : Nat} {tpos : Pos} (hg : Gl X "zip") (hm : X.mg "zip" = none) (h : SE X T W a f) (k : SE X T W b g) (hs : starEach [a, b] X.env = (false, eval a X.env) :: starEach [b] X.env := by rfl) (hpl : (backTo pos (starEach [b] X.env)).any (·.1) = false := by rfl)
    (hs2 : starEach [b] X.env = (false, eval b X.env) :: starEach [] X.env := by rfl) : SI X T W (.Tuple elts kk tpos) (.Call (.Name "zip" p) [a, b] [] pos) (zipI f g) := by
  obtain ⟨t, pe, h⟩ := h
  obtain ⟨t', pe', k⟩ := k
  refine ⟨_, RZ.pi_zipA hg hm (pa_cons pe (pa_cons pe' pa_nil hs2) hs) hs hpl, fun σ ρ G H env M Q s ev q => ?_⟩
  refine h σ ρ G H env M _ s ev (Aft.imp (Aft.bind (rel := relA X.K T) q) fun a1 M1 v1 ρ1 G1 H1 _ e1 s1 r1 q1 => ?_)
  refine k σ ρ1 G1 H1 env M1 _ s1 (ev.mono e1) (Aft.imp (Aft.bind (rel := relA X.K T) q1) fun a2 M2 v2 ρ2 G2 H2 _ e2 s2 r2 q2 => ?_)
  split at q2
  · obtain ⟨a, xs, rfl, h1, h2⟩ := r1
    obtain ⟨b, ys, rfl, h3, h4⟩ := r2
    exact ⟨a, b, xs, ys, rfl, .inl ⟨(e2.sub.trans s2.sub).seq (.inl h1), s2.sub.seq (.inl h3), q2 _ ρ2 G2 H2 (Ext.refl _ _ _) s2 (wk_zip (e2.sub.seq (.inl h1)) (h2.mono e2.sub) (.inl h3) h4)⟩⟩
  · obtain ⟨a, xs, rfl, h1, h2⟩ := r1
    obtain ⟨b, ys, rfl, h3, h4⟩ := r2
    exact ⟨a, b, xs, ys, rfl, .inr ⟨seqT_mono (e2.sub.trans s2.sub) h1, seqT_mono s2.sub h3, q2 _ ρ2 G2 H2 (Ext.refl _ _ _) s2 (wk_zipT (seqT_mono e2.sub h1) (h2.mono e2.sub) h3 h4)⟩⟩
  · exact q2.elim
end
end Fy

set_option maxRecDepth 100000
namespace Fy
open PySem L2
variable {K : PySem.W.Frag} {T : Tb} {ρ : List Addr} {G H : Hp} {M : Mem}
/-- an object that neither the memory nor a tree has -/
theorem RS.side (s : RS K T ρ G H M) {p : Addr} {o : HO} (hr : p ∉ ρ) (hg : G p = none) : RS K T ρ G (upd H p o) M := by
  refine ⟨fun b v e => by rw [upd_ne (ne_of_none e hg)]; exact s.sub b v e, s.len, s.nd, fun a ha => ?_, fun l a u e1 e2 => ?_⟩
  · rw [upd_ne (fun z => hr (by rw [← z]; exact ha))]; exact s.live a ha
  · have ha : a ∈ ρ := List.mem_of_getElem? e1
    exact (s.mem l a u e1 e2).mono (Same.refl G) rfl (upd_ne (fun z => hr (by rw [← z]; exact ha)))
theorem RS.sided (s : RS K T ρ G H M) {p : Addr} {o : HO} (hr : p ∉ ρ) (hg : G p = none) (ho : H p = some o) : RS K T ρ (upd G p o) H M := by
  refine ⟨fun b v e => ?_, s.len, s.nd, s.live, fun l a u e1 e2 => ?_⟩
  · by_cases z : b = p
    · subst z; rw [upd_same] at e; rw [ho]; exact e
    · rw [upd_ne z] at e; exact s.sub b v e
  · have ha : a ∈ ρ := List.mem_of_getElem? e1
    exact (s.mem l a u e1 e2).mono (same_upd hg) (upd_ne (fun z => hr (by rw [← z]; exact ha))) rfl
def R.nox {α : Type} (r : R α) : R α := match r with
  | .ok a M => .ok a M
  | _ => .bad
abbrev W0 : WX := fun _ _ _ _ => False
def wipeE (env : Env) : List Nat → Env
  | [] => env
  | v :: vs => (wipeE env vs).set v none
theorem EnvR.wipe {env : Env} {σ : L2.St} (h : EnvR K T ρ G env σ) : ∀ vs : List Nat, EnvR K T ρ G (wipeE env vs) (wipe σ vs)
  | [] => h
  | v :: vs => by
    have k := EnvR.wipe h vs
    refine ⟨by show ((wipeE env vs).set v none).length = ((L2.wipe σ vs).set v none).length; rw [List.length_set, List.length_set]; exact k.len, fun j b e => ?_⟩
    have e : ((wipeE env vs).set v none)[j]? = some (some b) := e
    show ∃ w, ((L2.wipe σ vs).set v none)[j]? = some (some w) ∧ _
    by_cases hj : v = j
    · subst hj
      by_cases hi : v < (wipeE env vs).length
      · rw [List.getElem?_set_self hi] at e; cases e
      · rw [List.getElem?_eq_none (by rw [List.length_set]; omega)] at e; cases e
    · rw [List.getElem?_set_ne hj] at e ⊢
      exact k.at_ j b e
theorem wipe_get {σ : L2.St} {i : Nat} : ∀ {vs : List Nat}, i ∉ vs → (wipe σ vs)[i]? = σ[i]?
  | [], _ => rfl
  | v :: vs, h => by
    rw [List.mem_cons, not_or] at h
    show ((wipe σ vs).set v none)[i]? = _
    rw [List.getElem?_set_ne (fun z => h.1 z.symm)]
    exact wipe_get h.2
theorem wipe_in {σ : L2.St} {i : Nat} (hi : i < σ.length) : ∀ {vs : List Nat}, i ∈ vs → (wipe σ vs)[i]? = some none
  | v :: vs, h => by
    show ((wipe σ vs).set v none)[i]? = _
    by_cases z : v = i
    · subst z; exact List.getElem?_set_self (by rw [wipe_length]; exact hi)
    · rw [List.getElem?_set_ne z]
      exact wipe_in hi ((List.mem_cons.mp h).resolve_left (fun q => z q.symm))
theorem wipe_off {σ σ' : L2.St} {sl vs : List Nat} (o : Off sl σ σ') (h : ∀ i ∈ sl, i ∈ vs) : wipe σ' vs = wipe σ vs := by
  refine List.ext_getElem? fun i => ?_
  by_cases hi : i < σ.length
  · by_cases hv : i ∈ vs
    · rw [wipe_in hi hv, wipe_in (by rw [← o.1]; exact hi) hv]
    · rw [wipe_get hv, wipe_get hv]; exact o.2 i (fun q => hv (h i q))
  · rw [List.getElem?_eq_none (by rw [wipe_length, ← o.1]; omega), List.getElem?_eq_none (by rw [wipe_length]; omega)]
theorem wipe_wipe {σ : L2.St} {vs : List Nat} : wipe (wipe σ vs) vs = wipe σ vs := by
  refine List.ext_getElem? fun i => ?_
  by_cases hi : i < σ.length
  · by_cases hv : i ∈ vs
    · rw [wipe_in (by rw [wipe_length]; exact hi) hv, wipe_in hi hv]
    · rw [wipe_get hv]
  · rw [List.getElem?_eq_none (by rw [wipe_length, wipe_length]; omega), List.getElem?_eq_none (by rw [wipe_length]; omega)]

def compL (g : FG) (t : FB) (el : FE) (envw : Env) : List D → List D → Mem → R (List D)
  | [], acc, M => .ok acc M
  | d :: ds, acc, M => match g (.d d) envw with
    | none => .bad
    | some env1 => (t env1 M).nox.bind fun b M1 => if b = true then (el env1 M1).nox.bind fun a M2 => match a with
        | .d x => compL g t el envw ds (acc ++ [x]) M2
        | .l _ => .bad
      else compL g t el envw ds acc M1
def compE (it : FI) (g : FG) (t : FB) (el : FE) (vs : List Nat) : FE := fun env M => (it env M).bind fun ds M1 => if ds.length ≤ SZ then (compL g t el (wipeE env vs) ds [] M1).bind fun acc M2 => .ok (.d (.lst acc)) M2 else .bad
def yesT : FB := fun _ M => .ok true M
def SP (X : Cx) (T : Tb) (W : WX) (ifs : List Expr) (f : FB) : Prop := ∃ t : TT, PTs X ifs t ∧ HT X T W f t
section
variable {X : Cx} {W : WX}
theorem p_nil : SP X T W [] yesT := ⟨_, pts_nil, fun σ ρ G H env M Q s ev h => h true ρ G H (Ext.refl _ _ _) s rfl⟩
theorem p_one {c : Expr} {f : FB} (h : ST X T W c f) : SP X T W [c] f := by
  obtain ⟨t, p, h⟩ := h
  exact ⟨t, pts_one p, h⟩
theorem nox_aft {α β : Type} {rel : List Addr → Hp → Hp → α → β → Prop} {E : XK} {r : R α} {Q : α → Mem → β → List Addr → Hp → Hp → Prop} (h : ∀ a M', r = .ok a M' → ∀ v ρ' G' H', Ext ρ G H ρ' G' H' → RS K T ρ' G' H' M' → rel ρ' G' H' a v → Q a M' v ρ' G' H') (hn : r.nox ≠ .bad) : Aft K T rel E ρ G H r Q := by
  cases r with
  | ok a M' => exact h a M' rfl
  | exc k fs M' => exact absurd rfl hn
  | bad => exact absurd rfl hn
/-- the block of a comprehension, as a reading -/
theorem comp_ok {it : FI} {g : FG} {sl : List Nat} {t : FB} {el : FE} {vs : List Nat} {wi : TI} {tg' : TG} {tt : TT} {te : TE}
    (hi : ∀ σ ρ G H env M (Q : It → Hp → Prop), RS X.K T ρ G H M → EnvR X.K T ρ G env σ → Aft X.K T (relW X.K T) (fun c d H' => W c d σ H') ρ G H (it env M) (fun _ _ J _ _ H' => Q J H') → wi σ H Q)
    (hg : ∀ σ ρ G H env M a v env' (Q : L2.St → Hp → Prop), RS X.K T ρ G H M → EnvR X.K T ρ G env σ → ARep X.K T ρ G a v → g a env = some env' → (∀ σ', EnvR X.K T ρ G env' σ' → Off sl σ σ' → Q σ' H) → tg' v σ H Q)
    (hsl : ∀ i ∈ sl, i ∈ vs) (ht : HT X T W0 t tt) (he : HE X T W0 el te) : HE X T W (compE it g t el vs) (tLc wi tg' tt te vs) := by
  intro σ ρ G H env M Q s ev q
  refine hi σ ρ G H env M _ s ev (Aft.imp (Aft.bind (rel := relW X.K T) q) fun ds M1 J ρ1 G1 H1 _ e1 s1 w q1 => ?_)
  split at q1
  case isFalse => exact q1.elim
  case isTrue hz =>
  intro P hP
  have hr1 : P ∉ ρ1 := fun z => s1.live P z hP
  have hg1 : G1 P = none := Same.none_of s1.sub hP
  have ev1 := ev.mono e1
  have eP : Ext ρ1 G1 H1 ρ1 G1 (upd H1 P (.lst [])) := ⟨fun _ _ z => z, Same.refl _, fun _ z => .inl z, fun a o z _ => by rw [upd_ne (ne_of_none z hP)]; exact z, fun x z => by
    by_cases hx : x = P
    · subst hx; rw [upd_same]; exact fun q => nomatch q
    · rw [upd_ne hx]; exact z, fun _ z => .inl z⟩
  refine ⟨fun i m H' => m = ds.length - i ∧ i ≤ ds.length ∧ ∃ ρ' G' M' acc xs, Ext ρ1 G1 H1 ρ' G' H' ∧ RS X.K T ρ' G' H' M' ∧ H' P = some (.lst xs) ∧ P ∉ ρ' ∧ G' P = none ∧ Reps X.K T G' acc xs ∧ acc.length ≤ i ∧
      Aft X.K T (relA X.K T) (fun c d H' => W c d σ H') ρ1 G1 H1 ((compL g t el (wipeE env vs) (ds.drop i) acc M').bind fun acc M2 => .ok (.d (.lst acc)) M2) (fun _ _ v _ _ H' => Q v H'),
    ⟨ds.length, rfl, Nat.zero_le _, ρ1, G1, M1, [], [], eP, s1.side hr1 hg1, upd_same, hr1, hg1, rfl, Nat.le_refl _, q1⟩, ?_⟩
  rintro i m H2 ⟨rfl, hi2, ρ2, G2, M2, acc, xs, e2, s2, hP2, hr2, hg2, ra, hl, q2⟩
  by_cases hlt : i < ds.length
  · have hd : ds.drop i = ds[i] :: ds.drop (i + 1) := List.drop_eq_getElem_cons hlt
    rw [hd] at q2
    refine .inr ⟨w.go i H2 hlt (e2.sub.trans s2.sub), fun H' => ∃ ρ' G' M' acc xs, Ext ρ1 G1 H1 ρ' G' H' ∧ RS X.K T ρ' G' H' M' ∧ H' P = some (.lst xs) ∧ P ∉ ρ' ∧ G' P = none ∧ Reps X.K T G' acc xs ∧ acc.length ≤ i + 1 ∧
      Aft X.K T (relA X.K T) (fun c d H' => W c d σ H') ρ1 G1 H1 ((compL g t el (wipeE env vs) (ds.drop (i + 1)) acc M').bind fun acc M2 => .ok (.d (.lst acc)) M2) (fun _ _ v _ _ H' => Q v H'), fun H' z => ⟨ds.length - (i + 1), by omega, rfl, hlt, z⟩, fun x H3 y => ?_⟩
    obtain ⟨G3, d, e3, s3, hd3, r3⟩ := w.yld i ρ2 G2 H2 M2 x H3 hlt e2.sub s2 y
    have ed : d = ds[i] := by rw [List.getElem?_eq_getElem hlt] at hd3; exact (Option.some.inj hd3).symm
    subst ed
    obtain ⟨hP3, hr3, hg3⟩ := e3.off hP2 hr2 hg2
    unfold compL at q2
    cases hge : g (.d ds[i]) (wipeE env vs) with
    | none => rw [hge] at q2; exact q2.elim
    | some env1 =>
      rw [hge] at q2
      simp only at q2
      have evw : EnvR X.K T ρ2 G3 (wipeE env vs) (wipe σ vs) := ((ev1.mono (e2.trans e3)).wipe vs)
      refine hg (wipe σ vs) ρ2 G3 H3 (wipeE env vs) M2 (.d ds[i]) x env1 _ s3 evw r3 hge fun σ3 ev3 o3 => ?_
      refine ⟨(wipe_off o3 hsl).trans wipe_wipe, ?_⟩
      have nb : ∀ {α β : Type} {rel : List Addr → Hp → Hp → α → β → Prop} {E : XK} {ρ : List Addr} {G H : Hp} {f : α → Mem → R (List D)} {r : R α} {fin : List D → Mem → R A}, Aft X.K T (relA X.K T) E ρ G H ((r.nox.bind f).bind fin) (fun _ _ v _ _ H' => Q v H') → r.nox ≠ .bad := fun {_ _ _ _ _ _ _ _ r _} h z => by
        rw [z] at h; exact h
      refine ht σ3 ρ2 G3 H3 env1 M2 _ s3 ev3 (nox_aft (fun b M3 hb v ρ4 G4 H4 e4 s4 r4 => ?_) (nb (β := Bool) (rel := relB) q2))
      cases r4
      rw [hb] at q2
      obtain ⟨hP4, hr4, hg4⟩ := e4.off hP3 hr3 hg3
      cases b with
      | false =>
        exact ⟨ρ4, G4, M3, acc, xs, (e2.trans e3).trans e4, s4, hP4, hr4, hg4, ra.mono (e3.sub.trans e4.sub), Nat.le_succ_of_le hl, q2⟩
      | true =>
        replace q2 : Aft X.K T (relA X.K T) (fun c d H' => W c d σ H') ρ1 G1 H1 (((el env1 M3).nox.bind fun a M2 => match a with | .d x => compL g t el (wipeE env vs) (ds.drop (i + 1)) (acc ++ [x]) M2 | .l _ => .bad).bind fun acc M2 => .ok (.d (.lst acc)) M2) (fun _ _ v _ _ H' => Q v H') := q2
        refine he σ3 ρ4 G4 H4 env1 M3 _ s4 (ev3.mono e4) (nox_aft (fun a M4 ha v ρ5 G5 H5 e5 s5 r5 => ?_) (nb (β := V) (rel := relA X.K T) q2))
        rw [ha] at q2
        obtain ⟨hP5, hr5, hg5⟩ := e5.off hP4 hr4 hg4
        cases a with
        | l n => exact q2.elim
        | d z =>
          have hlen : xs.length ≤ i := by rw [← ra.length]; exact hl
          have e15 := ((e2.trans e3).trans e4).trans e5
          refine ⟨xs, hP5, by rw [sz_eq]; omega, ρ5, G5, M4, acc ++ [z], xs ++ [v], ⟨e15.pre, e15.sub, e15.new, fun a o q hx => ?_, fun x q => ?_, e15.gn⟩, s5.side hr5 hg5, upd_same, hr5, hg5, Reps.app (Reps.one r5) (ra.mono ((e3.sub.trans e4.sub).trans e5.sub)), by simp; omega, q2⟩
          · rw [upd_ne (ne_of_none q hP)]; exact e15.frm a o q hx
          · by_cases hx : x = P
            · subst hx; rw [upd_same]; exact fun q => nomatch q
            · rw [upd_ne hx]; exact e15.kp x q
  · have e : i = ds.length := by omega
    subst e
    rw [List.drop_length] at q2
    refine .inl ⟨w.stop H2 (e2.sub.trans s2.sub), ?_⟩
    exact q2 (.ref P) ρ2 (upd G2 P (.lst xs)) H2 ⟨e2.pre, e2.sub.trans (same_upd hg2), e2.new, e2.frm, e2.kp, fun a z => by
      by_cases ha : a = P
      · subst ha; exact .inr (.inl hP)
      · rw [upd_ne ha] at z; exact e2.gn a z⟩ (s2.sided hr2 hg2 hP2) ⟨P, xs, rfl, .inl upd_same, ra.mono (same_upd hg2)⟩
/-! one reading for all blocks -/
abbrev Bk := Shared × Hp × Addr × List (Str × Addr) × List Addr
abbrev bx (X : Cx) (scope : Scope) (b : Bk) : Cx := X.blk b.1 b.2.1 scope (compEnvC scope b.2.2.2.1 b.2.2.1 X.env) b.2.2.2.2
theorem uniE {scope : Scope} {e : Expr} {f : FE} (h : ∀ b, SE (bx X scope b) T W0 e f) : ∃ te : TE, (∀ b, PE (bx X scope b) e te) ∧ HE X T W0 f te := by
  refine ⟨fun σ H Q => ∀ b, (Classical.choose (h b)) σ H Q, fun b => ⟨fun pins s σ H Q I q => (Classical.choose_spec (h b)).1.run pins s σ H Q I (q b)⟩, fun σ ρ G H env M Q s ev q b => ?_⟩
  exact (Classical.choose_spec (h b)).2 σ ρ G H env M Q s ev q
theorem uniP {scope : Scope} {e : List Expr} {f : FB} (h : ∀ b, SP (bx X scope b) T W0 e f) : ∃ te : TT, (∀ b, PTs (bx X scope b) e te) ∧ HT X T W0 f te := by
  refine ⟨fun σ H Q => ∀ b, (Classical.choose (h b)) σ H Q, fun b => ⟨fun pins s σ H Q I q => (Classical.choose_spec (h b)).1.run pins s σ H Q I (q b)⟩, fun σ ρ G H env M Q s ev q b => ?_⟩
  exact (Classical.choose_spec (h b)).2 σ ρ G H env M Q s ev q
theorem uniG {scope : Scope} {e : Expr} {g : FG} {sl : List Nat} (h : ∀ b, SG (bx X scope b) T e g sl) : ∃ t : TG, (∀ b, PG (bx X scope b) e t) ∧
    ∀ σ ρ G H env M a v env' (Q : L2.St → Hp → Prop), RS X.K T ρ G H M → EnvR X.K T ρ G env σ → ARep X.K T ρ G a v → g a env = some env' → (∀ σ', EnvR X.K T ρ G env' σ' → Off sl σ σ' → Q σ' H) → t v σ H Q := by
  refine ⟨fun v σ H Q => ∀ b, (Classical.choose (h b)) v σ H Q, fun b => ⟨fun pins s σ H v u Q I r q => (Classical.choose_spec (h b)).1.run pins s σ H v u Q I r (q b)⟩, fun σ ρ G H env M a v env' Q s ev r e q b => ?_⟩
  exact (Classical.choose_spec (h b)).2 σ ρ G H env M a v env' Q s ev r e q
theorem e_lc {elt tg iter : Expr} {ifs : List Expr} {scope : Scope} {own : List (Str × Nat)} {pos : Pos} {it : FI} {g : FG} {sl : List Nat} {t : FB} {el : FE} {vs : List Nat} (hc : X.calm = true) (hN : X.N.Nodup) (hi : SI X T W tg iter it) (ok : BlkOk X.N X.env.scope scope own)
    (hg : ∀ b, SG (bx X scope b) T tg g sl) (ht : ∀ b, SP (bx X scope b) T W0 ifs t) (he : ∀ b, SE (bx X scope b) T W0 elt el) (hv : own.map (·.2) = vs) (hsl : ∀ i ∈ sl, i ∈ vs) (hs : ∀ x, foldedSetIterable iter X.env x = pure x) :
    SE X T W (.ListComp elt [⟨tg, iter, ifs, 0⟩] scope pos) (compE it g t el vs) := by
  subst hv
  obtain ⟨wi, pi, hi⟩ := hi
  obtain ⟨tg', pg, hg⟩ := uniG hg
  obtain ⟨tt, pt, ht⟩ := uniP ht
  obtain ⟨te, pe, he⟩ := uniE he
  exact ⟨_, pe_lc hc hN pi ok (fun s H C cl fp => pg (s, H, C, cl, fp)) (fun s H C cl fp => pt (s, H, C, cl, fp)) (fun s H C cl fp => pe (s, H, C, cl, fp)) hs, comp_ok hi hg hsl ht he⟩
/-- name = [..] on one line, the name a local -/
theorem s_setLc {i : Nat} {y : Str} {py : Pos} {elt tg iter : Expr} {ifs : List Expr} {scope : Scope} {own : List (Str × Nat)} {pos spos : Pos} {it : FI} {g : FG} {sl : List Nat} {t : FB} {el : FE} {vs : List Nat} (hc : X.calm = true) (hN : X.N.Nodup) (hy : X.N[i]? = some y) (hyl : X.env.scope.names.lookup y = some .local)
    (hsw : swapsWith (.ListComp elt [⟨tg, iter, ifs, 0⟩] scope pos) (some (.Name y py)) spos.line X.env = pure true) (hi : SI X T W tg iter it) (ok : BlkOk X.N X.env.scope scope own)
    (hg : ∀ b, SG (bx X scope b) T tg g sl) (ht : ∀ b, SP (bx X scope b) T W0 ifs t) (he : ∀ b, SE (bx X scope b) T W0 elt el) (hv : own.map (·.2) = vs) (hsl : ∀ i ∈ sl, i ∈ vs) (hs : ∀ x, foldedSetIterable iter X.env x = pure x) :
    SS X T W (.Assign [.Name y py] (.ListComp elt [⟨tg, iter, ifs, 0⟩] scope pos) spos) (setS i (compE it g t el vs)) := by
  subst hv
  obtain ⟨wi, pi, hi⟩ := hi
  obtain ⟨tg', pg, hg⟩ := uniG hg
  obtain ⟨tt, pt, ht⟩ := uniP ht
  obtain ⟨te, pe, he⟩ := uniE he
  refine ⟨_, ps_setLc hc hN hy hyl hsw pi ok (fun s H C cl fp => pg (s, H, C, cl, fp)) (fun s H C cl fp => pt (s, H, C, cl, fp)) (fun s H C cl fp => pe (s, H, C, cl, fp)) hs, fun σ ρ G H env M D s ev r => ?_⟩
  refine comp_ok (W := W) hi hg hsl ht he σ ρ G H env M _ s ev (Aft.imp (AftS.go (rel := relA X.K T) ev r) fun a M1 v ρ1 G1 H1 _ e1 s1 r1 q1 => ?_)
  exact q1 _ ρ1 G1 H1 (Ext.refl _ _ _) s1 ((ev.mono e1).set r1 i)
end
end Fy

set_option maxRecDepth 100000
namespace Fy
open PySem L2
variable {X : Cx} {T : Tb}
theorem RepP.int {K : PySem.W.Frag} {G H : Hp} {i : Int} {v : V} (h : RepP K T G H (.int i) v) : v = .int i := h
/-! ### + - * // % ** and bits, of ints -/
def intOp (C : Int → Int → Bool) (g : Int → Int → Int) (x y : D) : Option D := match x, y with
  | .int i, .int j => if C i j = true then some (.int (g i j)) else none
  | _, _ => none
theorem int_op {f : Value → Value → Sem Value} {C' : Int → Int → Prop} {g : Int → Int → Int} (C : Int → Int → Bool) (h : OpR X f (rI C' fun i j => .int (g i j))) (hc : ∀ i j, C i j = true → C' i j) : Op2 X T f (intOp C g) :=
  Op2.of h fun ρ G H M x y vx vy z Q s rx ry e k => by
    cases x with
    | int i => cases y with
      | int j =>
        unfold intOp at e
        simp only at e
        split at e
        · rename_i c
          cases e
          cases rx; cases ry
          exact ⟨i, j, rfl, rfl, hc i j c, k _ rfl⟩
        · cases e
      | _ => cases e
    | _ => cases e
def intOp0 (g : Int → Int → Int) (x y : D) : Option D := match x, y with
  | .int i, .int j => some (.int (g i j))
  | _, _ => none
theorem int_op0 {f : Value → Value → Sem Value} {g : Int → Int → Int} (h : OpR X f (rI0 fun i j => .int (g i j))) : Op2 X T f (intOp0 g) :=
  Op2.of h fun ρ G H M x y vx vy z Q s rx ry e k => by
    cases x with
    | int i => cases y with
      | int j => cases e; cases rx; cases ry; exact ⟨i, j, rfl, rfl, k _ rfl⟩
      | _ => cases e
    | _ => cases e
def cmpOp (p : Int → Int → Bool) (x y : D) : Option D := match x, y with
  | .int i, .int j => some (.bl (p i j))
  | _, _ => none
theorem cmp_op {f : Value → Value → Sem Value} {p : Int → Int → Bool} (h : OpR X f (rI0 fun i j => .bl (p i j))) : Op2 X T f (cmpOp p) :=
  Op2.of h fun ρ G H M x y vx vy z Q s rx ry e k => by
    cases x with
    | int i => cases y with
      | int j => cases e; cases rx; cases ry; exact ⟨i, j, rfl, rfl, k _ rfl⟩
      | _ => cases e
    | _ => cases e
theorem ms_app (a b : List Nat) : ms a ++ ms b = ms (a ++ b) := by
  show (⟨a.toArray ++ b.toArray⟩ : Str) = ⟨(a ++ b).toArray⟩
  rw [List.append_toArray]
theorem ms_len (a : List Nat) : (ms a).length = a.length := by
  show a.toArray.size = _
  simp
def strCat (x y : D) : Option D := match x, y with
  | .str a, .str b => if a.length + b.length ≤ SZ then some (.str (a ++ b)) else none
  | _, _ => none
theorem str_cat : Op2 X T (binaryOp .Add) strCat :=
  Op2.of op_add_str fun ρ G H M x y vx vy z Q s rx ry e k => by
    cases x with
    | str a => cases y with
      | str b =>
        unfold strCat at e
        simp only at e
        split at e
        · rename_i c
          cases e
          cases rx; cases ry
          exact ⟨ms a, ms b, rfl, rfl, by rw [ms_len, ms_len, sz_eq]; exact c, by rw [ms_app]; exact k _ rfl⟩
        · cases e
      | _ => cases e
    | _ => cases e
def lstCat (x y : D) : Option D := match x, y with
  | .lst a, .lst b => if a.length + b.length ≤ SZ then some (.lst (a ++ b)) else none
  | _, _ => none
/-- + of two lists, wherever they stand -/
def rCatA : R2 := fun x y H Q => ∃ l b xs zs, x = .ref l ∧ y = .ref b ∧ Rd H l (.lst xs) ∧ Rd H b (.lst zs) ∧ xs.length + zs.length ≤ sizeLine ∧ ∀ p, H p = none → Q (.ref p) (upd H p (.lst (xs ++ zs)))
theorem op_catA : OpR X (binaryOp .Add) rCatA := by
  intro pins s σ H x y v u Q I rx ry h
  obtain ⟨l, b, xs, zs, rfl, rfl, hH, hB, hz, q⟩ := h
  cases rx
  cases ry
  obtain ⟨z, its, n, r, e⟩ := hH.ok I.hok
  obtain ⟨z2, its2, n2, r2, e2⟩ := hB.ok I.hok
  have hl := r.length
  have hl2 := r2.length
  refine PySem.P.add_list e e2 ?_ (by rw [List.size_toArray, List.size_toArray]; omega)
  have ea : its.toArray ++ its2.toArray = (its ++ its2).toArray := by simp
  rw [ea]
  exact ⟨.ref _, _, I.lnew (t' := s.toks) (r.append r2) (by rw [List.length_append]; omega), rfl, q _ I.fresh⟩
theorem lst_cat : Op2 X T (binaryOp .Add) lstCat := by
  refine ⟨_, op_catA, fun ρ G H M x y vx vy z Q s rx ry e k => ?_⟩
  cases x with
  | lst a => cases y with
    | lst b =>
      unfold lstCat at e
      simp only at e
      split at e
      · rename_i c
        cases e
        obtain ⟨p, xs, rfl, h1, h2⟩ := rx
        obtain ⟨q, ys, rfl, h3, h4⟩ := ry
        refine ⟨p, q, xs, ys, rfl, rfl, h1, h3, by rw [sz_eq, ← h2.length, ← h4.length]; exact c, fun l hl => ?_⟩
        obtain ⟨s2, e2⟩ := s.froz (o := .lst (xs ++ ys)) hl
        exact k (.ref l) _ _ e2 s2 ⟨l, xs ++ ys, rfl, .inl upd_same, Reps.app (h4.mono e2.sub) (h2.mono e2.sub)⟩
      · cases e
    | _ => cases e
  | _ => cases e
def tupCat (x y : D) : Option D := match x, y with
  | .tup a, .tup b => if a ≠ [] ∧ a.length + b.length ≤ SZ then some (.tup (a ++ b)) else none
  | _, _ => none
theorem tup_cat : Op2 X T (binaryOp .Add) tupCat := by
  refine ⟨_, op_catT, fun ρ G H M x y vx vy z Q s rx ry e k => ?_⟩
  cases x with
  | tup a => cases y with
    | tup b =>
      unfold tupCat at e
      simp only at e
      split at e
      · rename_i c
        cases e
        obtain ⟨p, xs, rfl, h1, h2⟩ := rx
        obtain ⟨q, ys, rfl, h3, h4⟩ := ry
        have ne : ∀ {ds : List D} {zs : List V}, Reps X.K T G ds zs → zs = [] → ds = [] := fun {ds zs} h z => by
          cases ds with
          | nil => rfl
          | cons d ds => obtain ⟨x, r, h, _⟩ := h; rw [z] at h; cases h
        refine ⟨p, q, xs, ys, rfl, rfl, seqT_mono s.sub h1, seqT_mono s.sub h3, fun z => c.1 (ne h2 z), by rw [sz_eq, ← h2.length, ← h4.length]; exact c.2, fun hy => ?_, fun _ l hl => ?_⟩
        · have hb := ne h4 hy
          subst hb
          exact k (.ref p) G H (Ext.refl _ _ _) s ⟨p, xs, rfl, h1, by rw [List.append_nil]; exact h2⟩
        · obtain ⟨s2, e2⟩ := s.froz (o := .tup (xs ++ ys)) hl
          exact k (.ref l) _ _ e2 s2 ⟨l, xs ++ ys, rfl, SqT.of upd_same, Reps.app (h4.mono e2.sub) (h2.mono e2.sub)⟩
      · cases e
    | _ => cases e
  | _ => cases e
/-! ### the operators as they stand in a text -/
def addD (x y : D) : Option D := (intOp0 (· + ·) x y).or ((strCat x y).or ((lstCat x y).or (tupCat x y)))
theorem o_add : Op2 X T (binaryOp .Add) addD := (int_op0 op_add).or (str_cat.or (lst_cat.or tup_cat))
def subD : D → D → Option D := intOp0 (· - ·)
theorem o_sub : Op2 X T (binaryOp .Sub) subD := int_op0 op_sub
def mulC (i j : Int) : Bool := decide (i.natAbs < 2 ^ 63) || (decide (j.natAbs < 2 ^ 63) || decide (i.natAbs.log2 + j.natAbs.log2 < 1000000))
theorem mul_op : Op2 X T (binaryOp .Mult) (intOp mulC (· * ·)) := int_op mulC ((op_mul (X := X)).or (op_mulW (X := X)) |> fun h => by
  intro pins s σ H x y v u Q I rx ry q
  obtain ⟨i, j, e1, e2, c, q⟩ := q
  refine h pins s σ H x y v u Q I rx ry ?_
  rcases c with c | c
  · exact .inl ⟨i, j, e1, e2, c, q⟩
  · exact .inr ⟨i, j, e1, e2, c, q⟩) (C' := fun i j => CMul i j ∨ CMulW i j) fun i j h => by
  unfold mulC at h
  simp only [Bool.or_eq_true, decide_eq_true_eq] at h
  have h63 : (2 ^ 63 : Nat) = 9223372036854775808 := by decide
  rcases h with h | h | h
  · exact .inl (.inl (by omega))
  · exact .inl (.inr (by omega))
  · exact .inr h
/-- a list times an int -/
def lstRep (x y : D) : Option D := match x, y with
  | .lst a, .int k => if smI k = true ∧ a.length * k.toNat ≤ SZ then some (.lst (List.replicate k.toNat a).flatten) else none
  | _, _ => none
theorem Reps.rep {K : PySem.W.Frag} {G : Hp} {ds : List D} {xs : List V} (h : Reps K T G ds xs) : ∀ n : Nat, Reps K T G (List.replicate n ds).flatten (List.replicate n xs).flatten
  | 0 => rfl
  | n + 1 => by
    rw [List.replicate_succ, List.replicate_succ, List.flatten_cons, List.flatten_cons]
    exact Reps.app (Reps.rep h n) h
def rRepA : R2 := fun x y H Q => ∃ l k xs, x = .ref l ∧ y = .int k ∧ Rd H l (.lst xs) ∧ -(2 ^ 63) ≤ k ∧ k < 2 ^ 63 ∧ xs.length * k.toNat ≤ sizeLine ∧
  ∀ p, H p = none → Q (.ref p) (upd H p (.lst (List.replicate k.toNat xs).flatten))
theorem op_repA : OpR X (binaryOp .Mult) rRepA := by
  intro pins s σ H x y v u Q I rx ry h
  obtain ⟨l, k, xs, rfl, rfl, hH, h1, h2, hz, q⟩ := h
  cases rx
  obtain ⟨t, rfl⟩ := ry
  obtain ⟨z, its, n, r, e⟩ := hH.ok I.hok
  have hl := r.length
  have hlen : its.toArray.size * k.toNat ≤ sizeLine := by rw [List.size_toArray, ← hl]; exact hz
  have hcap : ¬ its.toArray.size * k.toNat > (2 ^ 63 - 1) / 8 := by
    have : (sizeLine : Nat) ≤ (2 ^ 63 - 1) / 8 := by decide
    omega
  have hfit : ¬ (!Builtin.List.listFitsIndex k) = true := by
    rw [fitsIndex_both h1 h2]
    exact Bool.false_ne_true
  have hlong : ¬ Builtin.List.listTooLong (its.toArray.size * k.toNat) = true := by
    rw [notLongL hlen]
    exact Bool.false_ne_true
  have hnew : List.foldl (fun x1 x2 => x1 ++ x2) #[] (List.replicate (if its.toArray.isEmpty = true then 0 else k.toNat) its.toArray) = (List.replicate k.toNat its).flatten.toArray := by
    have f0 : ∀ m : Nat, List.foldl (fun x1 x2 => x1 ++ x2) #[] (List.replicate m its.toArray) = (List.replicate m its).flatten.toArray := fun m => by
      have := foldl_rep its m []
      rw [List.nil_append] at this
      exact this
    rw [f0]
    cases its with
    | nil => simp
    | cons a r' => rw [if_neg (by simp)]
  refine wpAny_binaryOp_repeat_ref (T := "list") (U := "int") (by decide) ⟨_, e, rfl⟩ (fun s' => typeIs_int s' k t) noFill_list_mul F.fills_int_mul F.slot_int_rmul repeat_list F.slot_int_index.lookup
    (call_meets F.slot_int_rmul (typeIs_int s k t) F.entry_int_rmul (F.args_int_rmul_2 _ _) (int___rmul___int_list k t l its.toArray n)
      ⟨e, rfl, ⟨_, e, rfl⟩, call_meets F.slot_list_mul ⟨_, e, rfl⟩ F.entry_list_mul (F.args_list_mul_2 _ _) (AutoListH.list___mul___list_int_3 l its.toArray n k t hfit hcap hlong) ⟨e, ?_⟩⟩)
  rw [hnew]
  exact ⟨.ref _, _, I.lnew (t' := s.toks) (r.rep k.toNat) (by rw [PyProof.Rows.lm_len_rep_flat, Nat.mul_comm]; exact hz), rfl, q _ I.fresh⟩
theorem lst_rep : Op2 X T (binaryOp .Mult) lstRep := by
  refine ⟨_, op_repA, fun ρ G H M x y vx vy z Q s rx ry e k => ?_⟩
  cases x with
  | lst a => cases y with
    | int j =>
      unfold lstRep at e
      simp only at e
      split at e
      · rename_i c
        cases e
        obtain ⟨p, xs, rfl, h1, h2⟩ := rx
        cases ry
        have b63 := smI_ok c.1
        refine ⟨p, j, xs, rfl, rfl, h1, by omega, by omega, by rw [sz_eq, ← h2.length]; exact c.2, fun l hl => ?_⟩
        obtain ⟨s2, e2⟩ := s.froz (o := .lst (List.replicate j.toNat xs).flatten) hl
        exact k (.ref l) _ _ e2 s2 ⟨l, _, rfl, .inl upd_same, (h2.rep j.toNat).mono e2.sub⟩
      · cases e
    | _ => cases e
  | _ => cases e
/-- a text times an int -/
def strRep (x y : D) : Option D := match x, y with
  | .str a, .int k => if smI k = true ∧ a.length * k.toNat ≤ SZ then some (.str (List.replicate k.toNat a).flatten) else none
  | _, _ => none
theorem txt_mul (a : List Nat) (k : Int) : Txt.mul (ms a) k = ms (List.replicate k.toNat a).flatten := by
  have f0 : ∀ (m : Nat) (acc : List Nat), List.foldl (fun (x1 x2 : Array Nat) => x1 ++ x2) acc.toArray (List.replicate m a.toArray) = (acc ++ (List.replicate m a).flatten).toArray := by
    intro m
    induction m with
    | zero => intro acc; simp
    | succ m ih =>
      intro acc
      rw [List.replicate_succ, List.foldl_cons, List.append_toArray, ih, List.replicate_succ, List.flatten_cons, List.append_assoc]
  unfold Txt.mul
  by_cases h : k < 1
  · rw [if_pos h]
    have : k.toNat = 0 := by omega
    rw [this]
    rfl
  · rw [if_neg h]
    split
    · rename_i c
      simp only [Bool.or_eq_true, beq_iff_eq] at c
      rcases c with c | c
      · subst c
        show ms a = ms (List.replicate 1 a).flatten
        simp
      · have ha : a = [] := by
          rw [ms_len] at c
          exact List.eq_nil_of_length_eq_zero c
        subst ha
        have : ∀ m : Nat, (List.replicate m ([] : List Nat)).flatten = [] := fun m => by
          induction m with
          | zero => rfl
          | succ m ih => rw [List.replicate_succ, List.flatten_cons, ih]; rfl
        rw [this]
    · have := f0 k.toNat []
      rw [List.nil_append] at this
      show (⟨_⟩ : Str) = ⟨_⟩
      rw [← this]
      rfl
theorem str_rep : Op2 X T (binaryOp .Mult) strRep := by
  refine Op2.of (r := fun x y H Q => ∃ z k, x = .str z ∧ y = .int k ∧ MulOk z k ∧ Q (.str (Txt.mul z k)) H) ?_ ?_
  · intro pins s σ H x y v u Q I rx ry h
    obtain ⟨z, k, rfl, rfl, ok, q⟩ := h
    obtain ⟨t, rfl⟩ := rx
    obtain ⟨t', rfl⟩ := ry
    exact SB.mul ok fun t2 k2 => ⟨.str _, H, I.kept (h' := s.heap) (t' := k2) (fun _ _ e => e), ⟨_, rfl⟩, q⟩
  · intro ρ G H M x y vx vy z Q s rx ry e k
    cases x with
    | str a => cases y with
      | int j =>
        unfold strRep at e
        simp only at e
        split at e
        · rename_i c
          cases e
          cases rx; cases ry
          have b62 := smI_ok c.1
          refine ⟨ms a, j, rfl, rfl, ⟨by rw [Bool.or_eq_false_iff]; exact ⟨decide_eq_false (by omega), decide_eq_false (by omega)⟩, fun h1 h2 => ?_, fun h1 h2 => ?_⟩, by rw [txt_mul]; exact k _ rfl⟩
          · rw [ms_len]
            intro h3
            have c2 : a.length * j.toNat ≤ 16777216 := c.2
            have hj : (j.toNat : Int) = j := by omega
            have h4 : (a.length : Int) * (j.toNat : Int) ≤ 16777216 := by
              have := Int.ofNat_le.mpr c2
              rw [Int.natCast_mul] at this
              exact this
            rw [hj] at h4
            have hj0 : 0 < j := by omega
            have h5 : ((2 ^ 63 - 1) / j + 1) * j ≤ (a.length : Int) * j := Int.mul_le_mul_of_nonneg_right (by omega) (by omega)
            have h6 : (2 ^ 63 - 1) < ((2 ^ 63 - 1) / j + 1) * j := Int.lt_ediv_add_one_mul_self _ hj0
            omega
          · rw [ms_len]
            exact notLongL (by rw [sz_eq]; exact c.2)
        · cases e
      | _ => cases e
    | _ => cases e
def mulD (x y : D) : Option D := (intOp mulC (· * ·) x y).or ((lstRep x y).or (strRep x y))
theorem o_mul : Op2 X T (binaryOp .Mult) mulD := mul_op.or (lst_rep.or str_rep)
def divC (_ j : Int) : Bool := decide (0 < j) && (decide (j.natAbs < 1073741824) || decide (j.natAbs.log2 < 9000))
def fdivD : D → D → Option D := intOp divC (· / ·)
theorem o_fdiv : Op2 X T (binaryOp .FloorDiv) fdivD := int_op divC ((op_fdiv (X := X)).or (op_fdivW (X := X)) |> fun h => by
  intro pins s σ H x y v u Q I rx ry q
  obtain ⟨i, j, e1, e2, c, q⟩ := q
  refine h pins s σ H x y v u Q I rx ry ?_
  rcases c with c | c
  · exact .inl ⟨i, j, e1, e2, c, q⟩
  · exact .inr ⟨i, j, e1, e2, c, q⟩) (C' := fun i j => CDiv i j ∨ CDivW i j) fun i j h => by
  unfold divC at h
  simp only [Bool.or_eq_true, Bool.and_eq_true, decide_eq_true_eq] at h
  rcases h with ⟨h1, h | h⟩
  · exact .inl ⟨h1, by omega⟩
  · exact .inr ⟨h1, h⟩
def modD : D → D → Option D := intOp (fun _ j => decide (0 < j)) (· % ·)
theorem o_mod : Op2 X T (binaryOp .Mod) modD := int_op _ op_mod fun i j h => of_decide_eq_true h
def powC (i j : Int) : Bool := decide (0 ≤ j) && (decide (j.natAbs ≤ 1000000) && decide (i.natAbs < 2 ^ 63))
def powD : D → D → Option D := intOp powC fun i j => i ^ j.toNat
theorem pow_c {i j : Int} (h : powC i j = true) : CPow i j := by
  unfold powC at h
  simp only [Bool.and_eq_true, decide_eq_true_eq] at h
  have : (2 ^ 63 : Nat) ≤ 2 ^ 64 := by decide
  exact ⟨h.1, by have := h.2.1; omega, Nat.lt_of_lt_of_le h.2.2 this⟩
theorem o_pow : Op2 X T (binaryOp .Pow) powD := int_op powC op_pow fun _ _ h => pow_c h
def shlD : D → D → Option D := intOp powC fun i j => i * 2 ^ j.toNat
theorem o_shl : Op2 X T (binaryOp .LShift) shlD := int_op powC op_shl fun _ _ h => pow_c h
def shrD : D → D → Option D := intOp (fun _ j => decide (0 ≤ j)) fun i j => i / 2 ^ j.toNat
theorem o_shr : Op2 X T (binaryOp .RShift) shrD := int_op _ op_shr fun _ _ h => of_decide_eq_true h
def andD : D → D → Option D := intOp0 Builtin.bitAnd
theorem o_and : Op2 X T (binaryOp .BitAnd) andD := int_op0 op_and
def orD : D → D → Option D := intOp0 Builtin.bitOr
theorem o_or : Op2 X T (binaryOp .BitOr) orD := int_op0 op_or
/-! ### comparisons -/
def cmpS (p : List Nat → List Nat → Bool) (x y : D) : Option D := match x, y with
  | .str i, .str j => some (.bl (p i j))
  | _, _ => none
theorem ms_list (l : List Nat) : (ms l).cps.toList = l := by simp [ms]
theorem cmp_str {f : Value → Value → Sem Value} {p : List Nat → List Nat → Bool} (h : OpR X f (fun x y H Q => ∃ i j, x = .str i ∧ y = .str j ∧ Q (.bl (p i.cps.toList j.cps.toList)) H)) : Op2 X T f (cmpS p) :=
  Op2.of h fun ρ G H M x y vx vy z Q s rx ry e k => by
    cases x with
    | str i => cases y with
      | str j => cases e; cases rx; cases ry; exact ⟨ms i, ms j, rfl, rfl, by rw [ms_list, ms_list]; exact k _ rfl⟩
      | _ => cases e
    | _ => cases e
def ltD (x y : D) : Option D := (cmpOp (fun i j => decide (i < j)) x y).or (cmpS (fun i j => decide (i < j)) x y)
def leD (x y : D) : Option D := (cmpOp (fun i j => decide (i ≤ j)) x y).or (cmpS (fun i j => !decide (j < i)) x y)
def gtD (x y : D) : Option D := (cmpOp (fun i j => decide (j < i)) x y).or (cmpS (fun i j => decide (j < i)) x y)
def geD (x y : D) : Option D := (cmpOp (fun i j => decide (j ≤ i)) x y).or (cmpS (fun i j => !decide (i < j)) x y)
theorem o_lt : Op2 X T (compareOp .Lt) ltD := (cmp_op op_lt).or (cmp_str op_lt_str)
theorem o_le : Op2 X T (compareOp .LtE) leD := (cmp_op op_le).or (cmp_str op_le_str)
theorem o_gt : Op2 X T (compareOp .Gt) gtD := (cmp_op op_gt).or (cmp_str op_gt_str)
theorem o_ge : Op2 X T (compareOp .GtE) geD := (cmp_op op_ge).or (cmp_str op_ge_str)
/-- is it None -/
def isNon : D → Bool
  | .non => true
  | _ => false
theorem non_rep {K : PySem.W.Frag} {G H : Hp} {x : D} {v : V} (hx : ∀ w, x ≠ .raw w) (r : RepP K T G H x v) : decide (v = .non) = isNon x := by
  cases x with
  | non => cases r; rfl
  | bl b => cases r; rfl
  | int b => cases r; rfl
  | str b => cases r; rfl
  | raw w => exact absurd rfl (hx w)
  | tup ds => obtain ⟨a, xs, rfl, _⟩ := r; rfl
  | lst ds => obtain ⟨a, xs, rfl, _⟩ := r; rfl
  | ins k ds => obtain ⟨a, dx, xs, rfl, _⟩ := r; rfl
  | scr ds => obtain ⟨a, rfl, _⟩ := r; rfl
def isnD (x y : D) : Option D := match x, y with
  | .raw _, _ => none
  | x, .non => some (.bl (isNon x))
  | _, _ => none
def notnD (x y : D) : Option D := match x, y with
  | .raw _, _ => none
  | x, .non => some (.bl (!isNon x))
  | _, _ => none
theorem o_isn : Op2 X T (compareOp .Is) isnD := Op2.of op_isN fun ρ G H M x y vx vy z Q s rx ry e k => by
  cases y with
  | non =>
    cases ry
    cases x with
    | raw w => cases e
    | _ => cases e; exact ⟨rfl, by rw [non_rep (fun w z => by cases z) rx]; exact k _ rfl⟩
  | _ => cases x <;> cases e
theorem o_notn : Op2 X T (compareOp .IsNot) notnD := Op2.of op_notN fun ρ G H M x y vx vy z Q s rx ry e k => by
  cases y with
  | non =>
    cases ry
    cases x with
    | raw w => cases e
    | _ => cases e; exact ⟨rfl, by rw [non_rep (fun w z => by cases z) rx]; exact k _ rfl⟩
  | _ => cases x <;> cases e
end Fy

set_option maxRecDepth 100000
namespace Fy
open PySem L2
variable {X : Cx} {T : Tb} {K : PySem.W.Frag} {G H : Hp}
mutual
def toP : D → PyData
  | .non => .none
  | .bl b => .bool b
  | .int i => .int i
  | .str x => .str (ms x)
  | .tup ds => .tuple (toPs ds)
  | .lst ds => .list (toPs ds)
  | .ins _ _ => .dict []
  | .raw _ => .dict []
  | .scr _ => .dict []
def toPs : List D → List PyData
  | [] => []
  | d :: ds => toP d :: toPs ds
end
def okP (d : D) : Bool := SeqAt.shaped (toP d)
mutual
theorem dp_of (e : Same G H) : ∀ (d : D) (v : V), (toP d).canLay0 = true → Rep K T G d v → Dp K H v (toP d)
  | .non, _, _, r => by cases r; exact .non
  | .bl b, _, _, r => by cases r; exact .bl b
  | .int i, _, _, r => by cases r; exact .int i
  | .str x, _, _, r => by cases r; exact .str _
  | .tup ds, _, h, ⟨a, xs, e1, h1, h2⟩ => by
    subst e1
    exact .tup (seqT_mono e h1) (dps_of e ds xs (by simpa [toP, PyData.canLay0] using h) h2)
  | .lst ds, _, h, ⟨a, xs, e1, h1, h2⟩ => by
    subst e1
    exact .lst (.inl (rd_mono e h1)) (dps_of e ds xs (by simpa [toP, PyData.canLay0] using h) h2)
  | .ins _ _, _, h, _ => by simp [toP, PyData.canLay0] at h
  | .raw _, _, h, _ => by simp [toP, PyData.canLay0] at h
  | .scr _, _, h, _ => by simp [toP, PyData.canLay0] at h
theorem dps_of (e : Same G H) : ∀ (ds : List D) (xs : List V), PyData.canLayAll0 (toPs ds) = true → Reps K T G ds xs → DpAll K H xs (toPs ds)
  | [], _, _, r => by cases r; exact .nil
  | d :: ds, _, h, ⟨x, r, e1, h1, h2⟩ => by
    subst e1
    have h : ((toP d).canLay0 && PyData.canLayAll0 (toPs ds)) = true := by simpa [toPs, PyData.canLayAll0] using h
    rw [Bool.and_eq_true] at h
    exact .cons (dp_of e d x h.1 h1) (dps_of e ds r h.2 h2)
end
theorem dp_ofP (e : Same G H) {d : D} {v : V} (h : okP d = true) (r : RepP K T G H d v) : Dp K H v (toP d) := by
  have hc := SeqAt.canLay_of_shaped h
  cases d with
  | lst ds =>
    obtain ⟨a, xs, rfl, h1, h2⟩ := r
    exact .lst (.inl h1) (dps_of e ds xs (by simpa [toP, PyData.canLay0] using hc) h2)
  | _ => exact dp_of (T := T) e _ _ hc r
/-- == of two trees: plain ones by themselves, others by what they tell -/
def eqS (x y : D) : Option Bool := match x, y with
  | .int i, .int j => some (decide (i = j))
  | .str i, .str j => some (decide (i = j))
  | .bl i, .bl j => some (decide (i = j))
  | .non, .non => some true
  | .non, .int _ | .int _, .non | .non, .bl _ | .bl _, .non | .non, .str _ | .str _, .non | .int _, .str _ | .str _, .int _ | .bl _, .str _ | .str _, .bl _ => some false
  | _, _ => none
theorem ms_inj {a b : List Nat} : ms a = ms b ↔ a = b := ⟨fun h => by have := congrArg (fun s : Str => s.cps.toList) h; simpa [ms_list] using this, fun h => by rw [h]⟩
theorem eqS_ok {x y : D} {vx vy : V} {b : Bool} (rx : RepP K T G H x vx) (ry : RepP K T G H y vy) (e : eqS x y = some b) : scal vx vy = true ∧ decide (vx = vy) = b := by
  cases x <;> cases y <;> first
    | (cases e; done)
    | (cases rx; cases ry; cases e; refine ⟨rfl, ?_⟩; first | rfl | exact dec_int.trans (by simp) | exact dec_bl.trans (by simp) | (rename_i p q; exact decide_eq_decide.mpr ⟨fun h => ms_inj.mp (V.str.inj h), fun h => by rw [h]⟩) | (rename_i p q; exact decide_eq_decide.mpr ⟨fun h => V.int.inj h, fun h => by rw [h]⟩) | (rename_i p q; exact decide_eq_decide.mpr ⟨fun h => V.bl.inj h, fun h => by rw [h]⟩))
def eqP (x y : D) : Option Bool := if okP x = true ∧ okP y = true then some (PyData.eqv (toP x) (toP y)) else none
def eqD (x y : D) : Option D := (eqS x y).map D.bl |>.or ((eqP x y).map D.bl)
def neD (x y : D) : Option D := (eqS x y).map (fun b => D.bl (!b)) |>.or ((eqP x y).map fun b => D.bl (!b))
theorem o_eq (hu : X.A.units + 64 < cLine) : Op2 X T (compareOp .Eq) eqD := by
  refine Op2.or (Op2.of op_eq ?_) (Op2.of (op_eqD hu) ?_)
  · intro ρ G H M x y vx vy z Q s rx ry e k
    cases q : eqS x y with
    | none => rw [q] at e; cases e
    | some b =>
      rw [q] at e; cases e
      obtain ⟨h1, h2⟩ := eqS_ok rx ry q
      exact ⟨h1, by rw [h2]; exact k _ rfl⟩
  · intro ρ G H M x y vx vy z Q s rx ry e k
    unfold eqP at e
    split at e
    · rename_i h
      cases e
      exact ⟨_, _, dp_ofP s.sub h.1 rx, dp_ofP s.sub h.2 ry, h.1, h.2, k _ rfl⟩
    · cases e
theorem o_ne (hu : X.A.units + 64 < cLine) : Op2 X T (compareOp .NotEq) neD := by
  refine Op2.or (Op2.of op_ne ?_) (Op2.of (op_neD hu) ?_)
  · intro ρ G H M x y vx vy z Q s rx ry e k
    cases q : eqS x y with
    | none => rw [q] at e; cases e
    | some b =>
      rw [q] at e; cases e
      obtain ⟨h1, h2⟩ := eqS_ok rx ry q
      exact ⟨h1, by rw [h2]; exact k _ rfl⟩
  · intro ρ G H M x y vx vy z Q s rx ry e k
    unfold eqP at e
    split at e
    · rename_i h
      cases e
      exact ⟨_, _, dp_ofP s.sub h.1 rx, dp_ofP s.sub h.2 ry, h.1, h.2, k _ rfl⟩
    · cases e
/-! ### in -/
def flatD : D → Bool
  | .non | .bl _ | .int _ | .str _ => true
  | _ => false
def eqF : D → D → Bool
  | .non, .non => true
  | .bl a, .bl b => a == b
  | .bl a, .int b => (if a then 1 else 0) == b
  | .int a, .bl b => a == (if b then 1 else 0)
  | .int a, .int b => a == b
  | .str a, .str b => a == b
  | _, _ => false
def itemsOf : D → Option (List D)
  | .lst ds => some ds
  | .tup ds => some ds
  | _ => none
def hasD (x : D) (ds : List D) : Bool := ds.any fun d => eqF d x
theorem flat_of {d : D} {v : V} (r : Rep K T G d v) (h : flatD d = true) : flatV v = true := by
  cases d <;> first | (cases r; rfl) | cases h
theorem eqF_of {d e : D} {v w : V} (r : Rep K T G d v) (q : Rep K T G e w) (h : flatD d = true) (k : flatD e = true) : eqV v w = eqF d e := by
  cases d <;> first
    | (cases h; done)
    | (cases e <;> first
      | (cases k; done)
      | (cases r; cases q; first | rfl | (show (ms _ == ms _) = _; rename_i a b; by_cases z : a = b
                                          · subst z; simp [eqF]
                                          · have : ¬ ms a = ms b := fun q => z (ms_inj.mp q)
                                            show (ms a == ms b) = (a == b); rw [beq_eq_false_iff_ne.mpr this, beq_eq_false_iff_ne.mpr z])))
theorem all_flat : ∀ {ds : List D} {xs : List V}, Reps K T G ds xs → ds.all flatD = true → xs.all flatV = true
  | [], _, h, _ => by cases h; rfl
  | d :: ds, _, ⟨x, r, e, h1, h2⟩, h => by
    subst e
    rw [List.all_cons, Bool.and_eq_true] at h ⊢
    exact ⟨flat_of h1 h.1, all_flat h2 h.2⟩
theorem inV_of {x : D} {v : V} (rx : Rep K T G x v) (fx : flatD x = true) : ∀ {ds : List D} {xs : List V}, Reps K T G ds xs → ds.all flatD = true → inV v xs = hasD x ds
  | [], _, h, _ => by cases h; rfl
  | d :: ds, _, ⟨y, r, e, h1, h2⟩, h => by
    subst e
    rw [List.all_cons, Bool.and_eq_true] at h
    have := inV_of rx fx h2 h.2
    show (eqV y v || inV v r) = (eqF d x || hasD x ds)
    rw [this, eqF_of h1 rx h.1 fx]
theorem flat_rep {d : D} {v : V} (h : flatD d = true) (r : RepP K T G H d v) : Rep K T G d v := by
  cases d <;> first | exact r | cases h
def inSq (neg : Bool) (x y : D) : Option D := match itemsOf y with
  | some ds => if flatD x = true ∧ ds.all flatD = true then some (.bl (if neg = true then !hasD x ds else hasD x ds)) else none
  | none => none
theorem inSq_ok (neg : Bool) {f : Value → Value → Sem Value} (h : OpR X f (rIn X.K neg)) : Op2 X T f (inSq neg) := Op2.of h fun ρ G H M x y vx vy z Q s rx ry e k => by
  unfold inSq at e
  cases y with
  | lst ds =>
    simp only [itemsOf] at e
    split at e
    · rename_i c
      cases e
      obtain ⟨p, xs, rfl, h1, h2⟩ := ry
      have rx' := flat_rep c.1 rx
      refine ⟨p, xs, rfl, .inl (.inl h1), flat_of rx' c.1, all_flat h2 c.2, ?_⟩
      rw [inV_of rx' c.1 h2 c.2]
      exact k _ rfl
    · cases e
  | tup ds =>
    simp only [itemsOf] at e
    split at e
    · rename_i c
      cases e
      obtain ⟨p, xs, rfl, h1, h2⟩ := ry
      have rx' := flat_rep c.1 rx
      refine ⟨p, xs, rfl, .inr (seqT_mono s.sub h1), flat_of rx' c.1, all_flat h2 c.2, ?_⟩
      rw [inV_of rx' c.1 h2 c.2]
      exact k _ rfl
    · cases e
  | _ => cases e
/-- one sign in a text -/
def inSg (neg : Bool) (x y : D) : Option D := match x, y with
  | .str [c], .str l => some (.bl (if neg = true then !decide (c ∈ l) else decide (c ∈ l)))
  | _, _ => none
theorem inSg_ok : Op2 X T (compareOp .In) (inSg false) := Op2.of op_in_sign fun ρ G H M x y vx vy z Q s rx ry e k => by
  unfold inSg at e
  split at e
  · rename_i c l
    cases e; cases rx; cases ry
    exact ⟨c, ms l, rfl, rfl, by rw [ms_list]; exact k _ rfl⟩
  · cases e
theorem niSg_ok : Op2 X T (compareOp .NotIn) (inSg true) := Op2.of op_notIn_sign fun ρ G H M x y vx vy z Q s rx ry e k => by
  unfold inSg at e
  split at e
  · rename_i c l
    cases e; cases rx; cases ry
    exact ⟨c, ms l, rfl, rfl, by rw [ms_list]; exact k _ rfl⟩
  · cases e
def inD (x y : D) : Option D := (inSq false x y).or (inSg false x y)
def niD (x y : D) : Option D := (inSq true x y).or (inSg true x y)
theorem o_in : Op2 X T (compareOp .In) inD := (inSq_ok false op_in_seq).or inSg_ok
theorem o_ni : Op2 X T (compareOp .NotIn) niD := (inSq_ok true op_notIn_seq).or niSg_ok
end Fy

set_option maxRecDepth 100000
namespace Fy
open PySem L2
variable {X : Cx} {T : Tb} {K : PySem.W.Frag} {G H : Hp} {W : WX} {ρ : List Addr} {M : Mem}
/-! ### a built-in, by its arguments' trees -/
def RepPs (K : PySem.W.Frag) (T : Tb) (G H : Hp) : List D → List V → Prop
  | [], xs => xs = []
  | d :: ds, xs => ∃ x r, xs = x :: r ∧ RepP K T G H d x ∧ RepPs K T G H ds r
def pkAll (M : Mem) : List A → Option (List D)
  | [] => some []
  | a :: r => (pk M a).bind fun d => (pkAll M r).map (d :: ·)
theorem pkAll_rep (s : RS K T ρ G H M) : ∀ {as : List A} {vs : List V} {ds : List D}, AReps K T ρ G as vs → pkAll M as = some ds → RepPs K T G H ds vs
  | [], vs, ds, h, e => by cases e; exact h
  | a :: r, vs, ds, ⟨v, w, h1, h2, h3⟩, e => by
    unfold pkAll at e
    cases q : pk M a with
    | none => rw [q] at e; cases e
    | some d =>
      rw [q] at e
      cases q2 : pkAll M r with
      | none => rw [q2] at e; cases e
      | some ds' =>
        rw [q2] at e
        cases e
        exact ⟨v, w, h1, pk_rep s h2 q, pkAll_rep s h3 q2⟩
def CallD (X : Cx) (T : Tb) (f : Value) (op : List D → Option D) : Prop := ∃ r : List V → Hp → VK → Prop, CallR X f r ∧ ∀ ρ G H M ds vs z (Q : VK), RS X.K T ρ G H M → RepPs X.K T G H ds vs → op ds = some z →
  (∀ v G' H', Ext ρ G H ρ G' H' → RS X.K T ρ G' H' M → Rep X.K T G' z v → Q v H') → r vs H Q
theorem CallD.or {f : Value} {op op' : List D → Option D} (h : CallD X T f op) (h' : CallD X T f op') : CallD X T f (fun ds => (op ds).or (op' ds)) := by
  obtain ⟨r, h1, h2⟩ := h
  obtain ⟨r', h1', h2'⟩ := h'
  refine ⟨_, h1.or h1', fun ρ G H M ds vs z Q s rs e k => ?_⟩
  cases q : op ds with
  | some z' =>
    have e : z' = z := by simpa [q] using e
    subst e
    exact .inl (h2 ρ G H M ds vs _ Q s rs q k)
  | none => exact .inr (h2' ρ G H M ds vs z Q s rs (by simpa [q] using e) k)
theorem CallD.of {f : Value} {op : List D → Option D} {r : List V → Hp → VK → Prop} (h : CallR X f r) (k : ∀ ρ G H M ds vs z (Q : VK), RS X.K T ρ G H M → RepPs X.K T G H ds vs → op ds = some z → (∀ v, Rep X.K T G z v → Q v H) → r vs H Q) : CallD X T f op :=
  ⟨r, h, fun ρ G H M ds vs z Q s rs e q => k ρ G H M ds vs z Q s rs e fun v hv => q v G H (Ext.refl _ _ _) s hv⟩
def bifE (op : List D → Option D) (fa : FL) : FE := fun env M => (fa env M).bind fun as M1 => match (pkAll M1 as).bind op with
  | some z => .ok (.d z) M1
  | none => .bad
theorem bif_ok {r : List V → Hp → VK → Prop} {fv : Value} {op : List D → Option D} {fa : FL} {t : TA} (h2 : ∀ ρ G H M ds vs z (Q : VK), RS X.K T ρ G H M → RepPs X.K T G H ds vs → op ds = some z →
    (∀ v G' H', Ext ρ G H ρ G' H' → RS X.K T ρ G' H' M → Rep X.K T G' z v → Q v H') → r vs H Q) (ha : HA X T W fa t) : HE X T W (bifE op fa) (tCB r t) := by
  intro σ ρ G H env M Q s ev q
  refine ha σ ρ G H env M _ s ev (Aft.imp (Aft.bind (rel := relAs X.K T) q) fun as M1 vs ρ1 G1 H1 _ e1 s1 r1 q1 => ?_)
  cases hp : pkAll M1 as with
  | none => rw [hp] at q1; exact q1.elim
  | some ds =>
    rw [hp] at q1
    replace q1 : Aft X.K T (relA X.K T) (fun c d H' => W c d σ H') ρ1 G1 H1 (match op ds with | some z => .ok (.d z) M1 | none => .bad) (fun _ _ v _ _ H' => Q v H') := q1
    cases ho : op ds with
    | none => rw [ho] at q1; exact q1.elim
    | some z =>
      rw [ho] at q1
      exact h2 ρ1 G1 H1 M1 ds vs z Q s1 (pkAll_rep s1 r1 hp) ho fun v G' H' ex s' rv => q1 v ρ1 G' H' ex s' rv
section
variable {x : Str} {p pos : Pos} {e : Expr} {es : List Expr} {fa : FL}
theorem e_bif {id : String} {op : List D → Option D} (hc : CallD X T (.builtin id) op) (hg : Gl X x) (hm : X.mg x = none) (hv : bootBuiltins x = some (.builtin id)) (ha : SA X T W (e :: es) fa) (hn : x ≠ "__name__" := by decide) (hdb : (x == ("__debug__" : Str)) = false := by decide)
    (he : starEach (e :: es) X.env = (false, eval e X.env) :: starEach es X.env := by rfl) (hpl : (backTo pos (starEach es X.env)).any (·.1) = false := by rfl) : SE X T W (.Call (.Name x p) (e :: es) [] pos) (bifE op fa) := by
  obtain ⟨r, h1, h2⟩ := hc
  obtain ⟨t, pa, ha⟩ := ha
  exact ⟨_, pe_callB h1 hg hm hv pa hn hdb he hpl, bif_ok (fv := .builtin id) h2 ha⟩
theorem e_bty {n : String} {op : List D → Option D} (hc : CallD X T (.type n) op) (hg : Gl X x) (hm : X.mg x = none) (hv : bootBuiltins x = some (.type n)) (ha : SA X T W (e :: es) fa) (hn : x ≠ "__name__" := by decide) (hdb : (x == ("__debug__" : Str)) = false := by decide)
    (he : starEach (e :: es) X.env = (false, eval e X.env) :: starEach es X.env := by rfl) (hpl : (backTo pos (starEach es X.env)).any (·.1) = false := by rfl) : SE X T W (.Call (.Name x p) (e :: es) [] pos) (bifE op fa) := by
  obtain ⟨r, h1, h2⟩ := hc
  obtain ⟨t, pa, ha⟩ := ha
  exact ⟨_, pe_callTy h1 hg hm hv pa hn hdb he hpl, bif_ok (fv := .type n) h2 ha⟩
end
/-! ### len, int, str, abs, max, min, sum, all, any -/
def lenD : List D → Option D
  | [.lst ds] => some (.int ds.length)
  | [.tup ds] => some (.int ds.length)
  | [.str l] => if l.length ≤ SZ then some (.int l.length) else none
  | _ => none
theorem RepPs.one {d : D} {vs : List V} (h : RepPs K T G H [d] vs) : ∃ v, vs = [v] ∧ RepP K T G H d v := by
  obtain ⟨x, r, rfl, h1, h2⟩ := h; cases h2; exact ⟨x, rfl, h1⟩
theorem RepPs.two {d e : D} {vs : List V} (h : RepPs K T G H [d, e] vs) : ∃ v w, vs = [v, w] ∧ RepP K T G H d v ∧ RepP K T G H e w := by
  obtain ⟨x, r, rfl, h1, y, q, rfl, h2, h3⟩ := h; cases h3; exact ⟨x, y, rfl, h1, h2⟩
theorem c_len : CallD X T (.builtin "len") lenD := CallD.of (call_len_seq.or call_len_str) fun ρ G H M ds vs z Q s rs e k => by
  unfold lenD at e
  split at e
  · cases e
    obtain ⟨v, rfl, a, xs, rfl, h1, h2⟩ := rs.one
    exact .inl ⟨a, xs, rfl, .inl (.inl h1), by rw [← h2.length]; exact k _ rfl⟩
  · cases e
    obtain ⟨v, rfl, a, xs, rfl, h1, h2⟩ := rs.one
    exact .inl ⟨a, xs, rfl, .inr (seqT_mono s.sub h1), by rw [← h2.length]; exact k _ rfl⟩
  · split at e
    · rename_i hz
      cases e
      obtain ⟨v, rfl, h⟩ := rs.one
      cases h
      exact .inr ⟨_, rfl, by rw [ms_len, sz_eq]; exact hz, by rw [ms_len]; exact k _ rfl⟩
    · cases e
  · cases e
def intD : List D → Option D
  | [.int i] => some (.int i)
  | [.bl b] => some (.int (if b = true then 1 else 0))
  | _ => none
theorem c_int : CallD X T (.type "int") intD := CallD.of call_int1 fun ρ G H M ds vs z Q s rs e k => by
  unfold intD at e
  split at e
  · cases e
    obtain ⟨v, rfl, h⟩ := rs.one
    cases h
    exact .inl ⟨_, rfl, k _ rfl⟩
  · cases e
    obtain ⟨v, rfl, h⟩ := rs.one
    cases h
    exact .inr ⟨_, rfl, k _ rfl⟩
  · cases e
def absD : List D → Option D
  | [.int i] => some (.int (if i < 0 then -i else i))
  | _ => none
theorem c_abs : CallD X T (.builtin "abs") absD := CallD.of call_abs fun ρ G H M ds vs z Q s rs e k => by
  unfold absD at e
  split at e
  · cases e
    obtain ⟨v, rfl, h⟩ := rs.one
    cases h
    exact ⟨_, rfl, k _ rfl⟩
  · cases e
/-- a list's or a tuple's ints -/
def intsOf : List D → Option (List Int)
  | [] => some []
  | .int i :: r => (intsOf r).map (i :: ·)
  | _ => none
theorem intsOf_map (ns : List Int) : intsOf (ns.map D.int) = some ns := by
  induction ns with
  | nil => rfl
  | cons n r ih => show (intsOf (r.map D.int)).map (n :: ·) = _; rw [ih]; rfl
theorem intsOf_rep : ∀ {ds : List D} {xs : List V} {ns : List Int}, Reps K T G ds xs → intsOf ds = some ns → xs = ns.map V.int
  | [], _, _, h, e => by cases e; cases h; rfl
  | d :: ds, _, ns, ⟨x, r, e1, h1, h2⟩, e => by
    subst e1
    cases d with
    | int i =>
      replace e : (intsOf ds).map (i :: ·) = some ns := e
      cases q : intsOf ds with
      | none => rw [q] at e; cases e
      | some ms =>
        rw [q] at e; cases e
        cases h1
        rw [intsOf_rep h2 q]; rfl
    | _ => cases e
def strsOf : List D → Option (List (List Nat))
  | [] => some []
  | .str i :: r => (strsOf r).map (i :: ·)
  | _ => none
theorem strsOf_map (ns : List (List Nat)) : strsOf (ns.map D.str) = some ns := by
  induction ns with
  | nil => rfl
  | cons n r ih => show (strsOf (r.map D.str)).map (n :: ·) = _; rw [ih]; rfl
theorem strsOf_rep : ∀ {ds : List D} {xs : List V} {ns : List (List Nat)}, Reps K T G ds xs → strsOf ds = some ns → xs = (ns.map ms).map V.str
  | [], _, _, h, e => by cases e; cases h; rfl
  | d :: ds, _, ns, ⟨x, r, e1, h1, h2⟩, e => by
    subst e1
    cases d with
    | str i =>
      replace e : (strsOf ds).map (i :: ·) = some ns := e
      cases q : strsOf ds with
      | none => rw [q] at e; cases e
      | some ms' =>
        rw [q] at e; cases e
        cases h1
        rw [strsOf_rep h2 q]; rfl
    | _ => cases e
def bolsOf : List D → Option (List Bool)
  | [] => some []
  | .bl i :: r => (bolsOf r).map (i :: ·)
  | _ => none
theorem bolsOf_map (ns : List Bool) : bolsOf (ns.map D.bl) = some ns := by
  induction ns with
  | nil => rfl
  | cons n r ih => show (bolsOf (r.map D.bl)).map (n :: ·) = _; rw [ih]; rfl
theorem bolsOf_rep : ∀ {ds : List D} {xs : List V} {ns : List Bool}, Reps K T G ds xs → bolsOf ds = some ns → xs = ns.map V.bl
  | [], _, _, h, e => by cases e; cases h; rfl
  | d :: ds, _, ns, ⟨x, r, e1, h1, h2⟩, e => by
    subst e1
    cases d with
    | bl i =>
      replace e : (bolsOf ds).map (i :: ·) = some ns := e
      cases q : bolsOf ds with
      | none => rw [q] at e; cases e
      | some ms' =>
        rw [q] at e; cases e
        cases h1
        rw [bolsOf_rep h2 q]; rfl
    | _ => cases e
/-- the greatest, the least of some ints -/
def gmax : Int → List Int → Int
  | m, [] => m
  | m, x :: r => gmax (if m < x then x else m) r
def gmin : Int → List Int → Int
  | m, [] => m
  | m, x :: r => gmin (if x < m then x else m) r
theorem gmax_ok : ∀ (r : List Int) (m : Int), (gmax m r = m ∨ gmax m r ∈ r) ∧ m ≤ gmax m r ∧ ∀ y ∈ r, y ≤ gmax m r
  | [], m => ⟨.inl rfl, Int.le_refl _, fun _ h => nomatch h⟩
  | x :: r, m => by
    obtain ⟨h1, h2, h3⟩ := gmax_ok r (if m < x then x else m)
    show (gmax (if m < x then x else m) r = m ∨ gmax (if m < x then x else m) r ∈ x :: r) ∧ m ≤ gmax (if m < x then x else m) r ∧ ∀ y ∈ x :: r, y ≤ gmax (if m < x then x else m) r
    generalize gmax (if m < x then x else m) r = g at *
    split at h1
    · rename_i c
      rw [if_pos c] at h2
      refine ⟨.inr ?_, by omega, fun y hy => ?_⟩
      · rcases h1 with h | h
        · rw [h]; exact List.mem_cons_self
        · exact List.mem_cons_of_mem _ h
      · rcases List.mem_cons.mp hy with e | hy
        · rw [e]; exact h2
        · exact h3 y hy
    · rename_i c
      rw [if_neg c] at h2
      refine ⟨?_, h2, fun y hy => ?_⟩
      · rcases h1 with h | h
        · exact .inl h
        · exact .inr (List.mem_cons_of_mem _ h)
      · rcases List.mem_cons.mp hy with e | hy
        · rw [e]; omega
        · exact h3 y hy
theorem gmin_ok : ∀ (r : List Int) (m : Int), (gmin m r = m ∨ gmin m r ∈ r) ∧ gmin m r ≤ m ∧ ∀ y ∈ r, gmin m r ≤ y
  | [], m => ⟨.inl rfl, Int.le_refl _, fun _ h => nomatch h⟩
  | x :: r, m => by
    obtain ⟨h1, h2, h3⟩ := gmin_ok r (if x < m then x else m)
    show (gmin (if x < m then x else m) r = m ∨ gmin (if x < m then x else m) r ∈ x :: r) ∧ gmin (if x < m then x else m) r ≤ m ∧ ∀ y ∈ x :: r, gmin (if x < m then x else m) r ≤ y
    generalize gmin (if x < m then x else m) r = g at *
    split at h1
    · rename_i c
      rw [if_pos c] at h2
      refine ⟨.inr ?_, by omega, fun y hy => ?_⟩
      · rcases h1 with h | h
        · rw [h]; exact List.mem_cons_self
        · exact List.mem_cons_of_mem _ h
      · rcases List.mem_cons.mp hy with e | hy
        · rw [e]; exact h2
        · exact h3 y hy
    · rename_i c
      rw [if_neg c] at h2
      refine ⟨?_, h2, fun y hy => ?_⟩
      · rcases h1 with h | h
        · exact .inl h
        · exact .inr (List.mem_cons_of_mem _ h)
      · rcases List.mem_cons.mp hy with e | hy
        · rw [e]; omega
        · exact h3 y hy
def maxL : List D → Option D
  | [.lst ds] => match intsOf ds with
    | some (m :: r) => some (.int (gmax m r))
    | _ => none
  | _ => none
def minL : List D → Option D
  | [.lst ds] => match intsOf ds with
    | some (m :: r) => some (.int (gmin m r))
    | _ => none
  | _ => none
def max2D : List D → Option D
  | [.int i, .int j] => some (.int (if j > i then j else i))
  | _ => none
def min2D : List D → Option D
  | [.int i, .int j] => some (.int (if j < i then j else i))
  | _ => none
theorem int_eq_max {m g : Int} {r : List Int} (h : m ∈ r) (h2 : ∀ y, y ∈ r → y ≤ m) (k : g ∈ r) (k2 : ∀ y, y ∈ r → y ≤ g) : m = g := Int.le_antisymm (k2 m h) (h2 g k)
theorem c_max (hc : X.calm = true) : CallD X T (.builtin "max") (fun ds => (maxL ds).or (max2D ds)) := by
  refine CallD.or (CallD.of (cr_max hc) fun ρ G H M ds vs z Q s rs e k => ?_) (CallD.of (call_max2 hc) fun ρ G H M ds vs z Q s rs e k => ?_)
  · unfold maxL at e
    split at e
    · split at e
      · rename_i ds m r hi
        cases e
        obtain ⟨v, rfl, a, xs, rfl, h1, h2⟩ := rs.one
        have hx := intsOf_rep h2 hi
        subst hx
        obtain ⟨g1, g2, g3⟩ := gmax_ok r m
        refine ⟨a, m :: r, rfl, .inl h1, Nat.succ_pos _, fun n hn hle => ?_⟩
        have : n = gmax m r := int_eq_max hn hle (by rcases g1 with g | g; rw [g]; exact List.mem_cons_self; exact List.mem_cons_of_mem _ g) (fun y hy => by
          rcases List.mem_cons.mp hy with e | hy
          · rw [e]; exact g2
          · exact g3 y hy)
        rw [this]
        exact k _ rfl
      · cases e
    · cases e
  · unfold max2D at e
    split at e
    · cases e
      obtain ⟨v, w, rfl, h1, h2⟩ := rs.two
      cases h1; cases h2
      exact ⟨_, _, rfl, k _ rfl⟩
    · cases e
theorem c_min (hc : X.calm = true) : CallD X T (.builtin "min") (fun ds => (minL ds).or (min2D ds)) := by
  refine CallD.or (CallD.of (cr_min hc) fun ρ G H M ds vs z Q s rs e k => ?_) (CallD.of (call_min2 hc) fun ρ G H M ds vs z Q s rs e k => ?_)
  · unfold minL at e
    split at e
    · split at e
      · rename_i ds m r hi
        cases e
        obtain ⟨v, rfl, a, xs, rfl, h1, h2⟩ := rs.one
        have hx := intsOf_rep h2 hi
        subst hx
        obtain ⟨g1, g2, g3⟩ := gmin_ok r m
        refine ⟨a, m :: r, rfl, .inl h1, Nat.succ_pos _, fun n hn hle => ?_⟩
        have : n = gmin m r := Int.le_antisymm (hle _ (by rcases g1 with g | g; rw [g]; exact List.mem_cons_self; exact List.mem_cons_of_mem _ g)) (by
          rcases List.mem_cons.mp hn with e | hy
          · rw [e]; exact g2
          · exact g3 n hy)
        rw [this]
        exact k _ rfl
      · cases e
    · cases e
  · unfold min2D at e
    split at e
    · cases e
      obtain ⟨v, w, rfl, h1, h2⟩ := rs.two
      cases h1; cases h2
      exact ⟨_, _, rfl, k _ rfl⟩
    · cases e
def sumD : List D → Option D
  | [.lst ds] => (intsOf ds).map fun ns => .int ns.sum
  | _ => none
theorem c_sum (hc : X.calm = true) : CallD X T (.builtin "sum") sumD := CallD.of (cr_sum hc) fun ρ G H M ds vs z Q s rs e k => by
  unfold sumD at e
  split at e
  · rename_i ds
    cases hi : intsOf ds with
    | none => rw [hi] at e; cases e
    | some ns =>
      rw [hi] at e; cases e
      obtain ⟨v, rfl, a, xs, rfl, h1, h2⟩ := rs.one
      have hx := intsOf_rep h2 hi
      subst hx
      exact ⟨a, ns, rfl, .inl h1, k _ rfl⟩
  · cases e
def allBD : List D → Option D
  | [.lst ds] => (bolsOf ds).map fun bs => .bl (bs.all id)
  | _ => none
theorem c_all (hc : X.calm = true) : CallD X T (.builtin "all") allBD := CallD.of (cr_all hc) fun ρ G H M ds vs z Q s rs e k => by
  unfold allBD at e
  split at e
  · rename_i ds
    cases hi : bolsOf ds with
    | none => rw [hi] at e; cases e
    | some ns =>
      rw [hi] at e; cases e
      obtain ⟨v, rfl, a, xs, rfl, h1, h2⟩ := rs.one
      have hx := bolsOf_rep h2 hi
      subst hx
      exact ⟨a, ns, rfl, .inl h1, k _ rfl⟩
  · cases e
def anyBD : List D → Option D
  | [.lst ds] => (bolsOf ds).map fun bs => .bl (bs.any id)
  | _ => none
theorem c_any (hc : X.calm = true) : CallD X T (.builtin "any") anyBD := CallD.of (cr_any hc) fun ρ G H M ds vs z Q s rs e k => by
  unfold anyBD at e
  split at e
  · rename_i ds
    cases hi : bolsOf ds with
    | none => rw [hi] at e; cases e
    | some ns =>
      rw [hi] at e; cases e
      obtain ⟨v, rfl, a, xs, rfl, h1, h2⟩ := rs.one
      have hx := bolsOf_rep h2 hi
      subst hx
      exact ⟨a, ns, rfl, .inl h1, k _ rfl⟩
  · cases e
/-! ### sorted -/
section sort
variable {α : Type} {le : α → α → Bool}
def insS (le : α → α → Bool) (x : α) : List α → List α
  | [] => [x]
  | y :: r => if le x y = true then x :: y :: r else y :: insS le x r
def sortS (le : α → α → Bool) : List α → List α
  | [] => []
  | x :: r => insS le x (sortS le r)
theorem insS_perm (x : α) : ∀ l : List α, (insS le x l).Perm (x :: l)
  | [] => List.Perm.refl _
  | y :: r => by
    show (if le x y = true then x :: y :: r else y :: insS le x r).Perm (x :: y :: r)
    split
    · exact List.Perm.refl _
    · exact ((insS_perm x r).cons y).trans (List.Perm.swap x y r)
theorem sortS_perm : ∀ l : List α, (sortS le l).Perm l
  | [] => List.Perm.refl _
  | x :: r => (insS_perm x _).trans ((sortS_perm r).cons x)
theorem insS_ord (tot : ∀ a b, le a b = true ∨ le b a = true) (tr : ∀ a b c, le a b = true → le b c = true → le a c = true) (x : α) : ∀ l : List α, l.Pairwise (fun a b => le a b = true) → (insS le x l).Pairwise (fun a b => le a b = true)
  | [], _ => by show [x].Pairwise _; simp
  | y :: r, h => by
    show (if le x y = true then x :: y :: r else y :: insS le x r).Pairwise _
    have h1 := List.pairwise_cons.mp h
    split
    · rename_i c
      refine List.pairwise_cons.mpr ⟨fun b hb => ?_, h⟩
      rcases List.mem_cons.mp hb with e | hb
      · rw [e]; exact c
      · exact tr _ _ _ c (h1.1 b hb)
    · rename_i c
      refine List.pairwise_cons.mpr ⟨fun b hb => ?_, insS_ord tot tr x r h1.2⟩
      rcases List.mem_cons.mp ((insS_perm (le := le) x r).mem_iff.mp hb) with e | hb
      · rw [e]; exact (tot x y).resolve_left c
      · exact h1.1 b hb
theorem sortS_ord (tot : ∀ a b, le a b = true ∨ le b a = true) (tr : ∀ a b c, le a b = true → le b c = true → le a c = true) : ∀ l : List α, (sortS le l).Pairwise (fun a b => le a b = true)
  | [] => List.Pairwise.nil
  | x :: r => insS_ord tot tr x _ (sortS_ord tot tr r)
theorem ord_unique (anti : ∀ a b, le a b = true → le b a = true → a = b) : ∀ {l1 l2 : List α}, l1.Perm l2 → l1.Pairwise (fun a b => le a b = true) → l2.Pairwise (fun a b => le a b = true) → l1 = l2
  | [], l2, p, _, _ => (List.Perm.nil_eq p)
  | a :: l1, [], p, _, _ => absurd p.length_eq (by simp)
  | a :: l1, b :: l2, p, h1, h2 => by
    have g1 := List.pairwise_cons.mp h1
    have g2 := List.pairwise_cons.mp h2
    have e : a = b := by
      rcases List.mem_cons.mp (p.mem_iff.mp List.mem_cons_self) with e | ha
      · exact e
      · rcases List.mem_cons.mp (p.mem_iff.mpr (List.mem_cons_self (a := b))) with e | hb
        · exact e.symm
        · exact anti a b (g1.1 b hb) (g2.1 a ha)
    subst e
    rw [ord_unique anti (List.Perm.cons_inv p) g1.2 g2.2]
end sort
def leI (a b : Int) : Bool := decide (a ≤ b)
theorem leI_tot (a b : Int) : leI a b = true ∨ leI b a = true := by unfold leI; simp only [decide_eq_true_eq]; omega
theorem leI_tr (a b c : Int) (h : leI a b = true) (k : leI b c = true) : leI a c = true := by unfold leI at *; simp only [decide_eq_true_eq] at *; omega
theorem leI_anti (a b : Int) (h : leI a b = true) (k : leI b a = true) : a = b := by unfold leI at *; simp only [decide_eq_true_eq] at *; omega
def sortI (ns : List Int) : List Int := sortS leI ns
theorem sortI_is {ns l : List Int} (p : l.Perm ns) (o : l.Pairwise (· ≤ ·)) : l = sortI ns :=
  ord_unique (le := leI) leI_anti (p.trans (sortS_perm ns).symm) (o.imp fun h => decide_eq_true h) (sortS_ord leI_tot leI_tr ns)
def sortedI : List D → Option D
  | [.lst ds] => (intsOf ds).map fun ns => .lst ((sortI ns).map .int)
  | _ => none
theorem reps_ints : ∀ ns : List Int, Reps K T G (ns.map D.int) (ns.map V.int)
  | [] => rfl
  | n :: r => ⟨.int n, r.map V.int, rfl, rfl, reps_ints r⟩
theorem c_sortedI : CallD X T (.builtin "sorted") sortedI := by
  refine ⟨_, cr_sortedI, fun ρ G H M ds vs z Q s rs e k => ?_⟩
  unfold sortedI at e
  split at e
  · rename_i ds
    cases hi : intsOf ds with
    | none => rw [hi] at e; cases e
    | some ns =>
      rw [hi] at e; cases e
      obtain ⟨v, rfl, a, xs, rfl, h1, h2⟩ := rs.one
      have hx := intsOf_rep h2 hi
      subst hx
      refine ⟨a, ns, rfl, .inl h1, fun ns' p hp ho hn => ?_⟩
      have := sortI_is hp ho
      subst this
      obtain ⟨s2, e2⟩ := s.froz (o := .lst ((sortI ns).map V.int)) hn
      exact k (.ref p) _ _ e2 s2 ⟨p, _, rfl, .inl upd_same, reps_ints _⟩
  · cases e
end Fy

set_option maxRecDepth 100000
namespace Fy
open PySem L2
variable {X : Cx} {T : Tb} {K : PySem.W.Frag} {G H : Hp} {W : WX} {ρ : List Addr} {M : Mem}
/-! ### x[i] -/
theorem ixN_lt {n : Nat} {i : Int} {j : Nat} (h : ixN n i = some j) : j < n := (ixN_seq h).2.1
def ixD (x y : D) : Option D := match x, y with
  | .lst ds, .int i => atI ds i
  | .tup ds, .int i => atI ds i
  | .str l, .int i => if l.length ≤ SZ then (atI l i).map fun c => .str [c] else none
  | _, _ => none
theorem at_rep {ds : List D} {xs : List V} {i : Int} {d : D} (r : Reps K T G ds xs) (h : atI ds i = some d) : ∃ v, atI xs i = some v ∧ Rep K T G d v := by
  unfold atI at h ⊢
  rw [← r.length]
  cases e : ixN ds.length i with
  | none => rw [e] at h; cases h
  | some j =>
    rw [e] at h
    exact r.get h
def ixE (f g : FE) : FE := two f g fun x y M => match ixD x y with
  | some z => .ok (.d z) M
  | none => .bad
section
variable {a b e : Expr} {f g h : FE} {pos p2 : Pos} {es : List Expr} {fa : FL}
theorem e_ix (ha : SE X T W a f) (hb : SE X T W b g) (hs : PlainIx b := by intro _ _; rfl) : SE X T W (.Subscript a b pos) (ixE f g) := by
  obtain ⟨ta, pa, ha⟩ := ha
  obtain ⟨tb, pb, hb⟩ := hb
  refine ⟨_, pe_ix ix_seq pa pb hs, fun σ ρ G H env M Q s ev q => two_ok ha hb s ev (fun x y vx vy M2 ρ2 G2 H2 s2 rx ry q => ?_) q⟩
  cases hz : ixD x y with
  | none => rw [hz] at q; exact q.elim
  | some z =>
    rw [hz] at q
    unfold ixD at hz
    split at hz
    · rename_i ds i
      obtain ⟨p, xs, rfl, h1, h2⟩ := rx
      cases ry
      obtain ⟨v, h3, h4⟩ := at_rep h2 hz
      exact .inl ⟨p, xs, _, v, rfl, rfl, .inl h1, h3, q v ρ2 G2 H2 (Ext.refl _ _ _) s2 h4⟩
    · rename_i ds i
      obtain ⟨p, xs, rfl, h1, h2⟩ := rx
      cases ry
      obtain ⟨v, h3, h4⟩ := at_rep h2 hz
      exact .inr (.inl ⟨p, xs, _, v, rfl, rfl, seqT_mono s2.sub h1, h3, q v ρ2 G2 H2 (Ext.refl _ _ _) s2 h4⟩)
    · rename_i l i
      split at hz
      · rename_i hl
        cases hc : atI l i with
        | none => rw [hc] at hz; cases hz
        | some c =>
          rw [hc] at hz; cases hz
          cases rx; cases ry
          exact .inr (.inr ⟨ms l, i, c, rfl, rfl, by rw [ms_len, sz_eq]; exact hl, by rw [ms_list]; exact hc, q _ ρ2 G2 H2 (Ext.refl _ _ _) s2 rfl⟩)
      · cases hz
    · cases hz
/-! ### x[i:j] -/
/-- a part of a slice -/
abbrev FO := Env → Mem → R (Option Int)
def noO : FO := fun _ M => .ok none M
def soO (f : FE) : FO := fun env M => (f env M).bind fun a M1 => match a with
  | .d (.int i) => .ok (some i) M1
  | _ => .bad
def relO (_ρ : List Addr) (_G _H : Hp) (a b : Option Int) : Prop := a = b
def SO (X : Cx) (T : Tb) (W : WX) (e : Option Expr) (f : FO) : Prop := ∃ t : TO, PO X e t ∧ ∀ σ ρ G H env M (Q : Option Int → Hp → Prop), RS X.K T ρ G H M → EnvR X.K T ρ G env σ →
  Aft X.K T relO (fun c d H' => W c d σ H') ρ G H (f env M) (fun _ _ v _ _ H' => Q v H') → t σ H Q
theorem o_no : SO X T W none noO := ⟨_, po_none, fun σ ρ G H env M Q s ev q => q none ρ G H (Ext.refl _ _ _) s rfl⟩
theorem o_so (h : SE X T W e f) : SO X T W (some e) (soO f) := by
  obtain ⟨t, p, h⟩ := h
  refine ⟨_, po_some p, fun σ ρ G H env M Q s ev q => ?_⟩
  refine h σ ρ G H env M _ s ev (Aft.imp (Aft.bind (rel := relA X.K T) q) fun a M1 v ρ1 G1 H1 _ e1 s1 r1 q1 => ?_)
  split at q1
  · rename_i i _
    cases r1
    exact ⟨i, rfl, q1 _ ρ1 G1 H1 (Ext.refl _ _ _) s1 rfl⟩
  · exact q1.elim
/-- where a slice begins, ends -/
def sB (n : Nat) (lo : Option Int) : Nat := HT.sIx n 0 lo
def sE (n : Nat) (hi : Option Int) : Nat := HT.sIx n n hi
def cutL {α : Type} (xs : List α) (lo hi : Option Int) : List α := (xs.drop (sB xs.length lo)).take (sE xs.length hi - sB xs.length lo)
def slD (x : D) (lo hi : Option Int) : Option D := match x with
  | .lst ds => some (.lst (cutL ds lo hi))
  | .scr ns => some (.lst ((cutL ns lo hi).map D.int))
  | .tup ds => if ¬ (sB ds.length lo = 0 ∧ sE ds.length hi = ds.length) then some (.tup (cutL ds lo hi)) else none
  | .str l => if l.length ≤ SZ then some (.str (cutL l lo hi)) else none
  | _ => none
theorem cut_rep {ds : List D} {xs : List V} (r : Reps K T G ds xs) (lo hi : Option Int) : Reps K T G (cutL ds lo hi) (cutV xs lo hi) := by
  unfold cutL cutV sB sE
  rw [r.length]
  exact Reps.take _ (Reps.drop _ r)
def slE (f : FE) (l h : FO) : FE := fun env M => (f env M).bind fun a M1 => (l env M1).bind fun lo M2 => (h env M2).bind fun hi M3 => match (pk M3 a).bind fun x => slD x lo hi with
  | some z => .ok (.d z) M3
  | none => .bad
theorem slR_all : SlR X (fun x lo hi H Q => rSlL X.K x lo hi H Q ∨ (rSlT X.K x lo hi H Q ∨ rSlS x lo hi H Q)) := sl_list.or (sl_tup.or sl_str)
theorem sl_ok {x : D} {vx : V} {lo hi : Option Int} {z : D} {Q : VK} (s : RS X.K T ρ G H M) (rx : RepP X.K T G H x vx) (hz : slD x lo hi = some z) (k : ∀ v G' H', Ext ρ G H ρ G' H' → RS X.K T ρ G' H' M → Rep X.K T G' z v → Q v H') :
    rSlL X.K vx lo hi H Q ∨ (rSlT X.K vx lo hi H Q ∨ rSlS vx lo hi H Q) := by
  unfold slD at hz
  split at hz
  · cases hz
    obtain ⟨p, xs, rfl, h1, h2⟩ := rx
    refine .inl ⟨p, xs, rfl, .inl h1, fun q hq => ?_⟩
    obtain ⟨s2, e2⟩ := s.froz (o := .lst (cutV xs lo hi)) hq
    exact k (.ref q) _ _ e2 s2 ⟨q, _, rfl, .inl upd_same, (cut_rep h2 lo hi).mono e2.sub⟩
  · rename_i ns
    cases hz
    obtain ⟨p, rfl, h1⟩ := rx
    refine .inl ⟨p, ns.map V.int, rfl, s.sub.seq h1, fun q hq => ?_⟩
    have e : cutV (ns.map V.int) lo hi = (cutL ns lo hi).map V.int := by
      unfold cutV cutL sB sE
      rw [List.length_map, List.map_take, List.map_drop]
    obtain ⟨s2, e2⟩ := s.froz (o := .lst (cutV (ns.map V.int) lo hi)) hq
    exact k (.ref q) _ _ e2 s2 ⟨q, _, rfl, .inl upd_same, by rw [e]; exact reps_ints _⟩
  · split at hz
    · rename_i c
      cases hz
      obtain ⟨p, xs, rfl, h1, h2⟩ := rx
      refine .inr (.inl ⟨p, xs, rfl, seqT_mono s.sub h1, by rw [← h2.length]; exact c, fun q hq => ?_⟩)
      obtain ⟨s2, e2⟩ := s.froz (o := .tup (cutV xs lo hi)) hq
      exact k (.ref q) _ _ e2 s2 ⟨q, _, rfl, SqT.of upd_same, (cut_rep h2 lo hi).mono e2.sub⟩
    · cases hz
  · split at hz
    · rename_i l hl
      cases hz
      cases rx
      refine .inr (.inr ⟨ms l, rfl, by rw [ms_len, sz_eq]; exact hl, ?_⟩)
      refine k _ G H (Ext.refl _ _ _) s ?_
      show V.str (cutS (ms l) lo hi) = V.str (ms (cutL l lo hi))
      unfold cutS cutL sB sE
      rw [ms_list, ms_len]
      rfl
    · cases hz
  · cases hz
theorem e_sl {lo hi : Option Expr} {l u : FO} (ha : SE X T W e f) (hl : SO X T W lo l) (hu : SO X T W hi u) : SE X T W (.Subscript e (.Slice lo hi none p2) pos) (slE f l u) := by
  obtain ⟨ta, pa, ha⟩ := ha
  obtain ⟨tl, pl, hl⟩ := hl
  obtain ⟨tu, pu, hu⟩ := hu
  refine ⟨_, pe_slice slR_all pa pl pu, fun σ ρ G H env M Q s ev q => ?_⟩
  refine ha σ ρ G H env M _ s ev (Aft.imp (Aft.bind (rel := relA X.K T) q) fun a M1 v ρ1 G1 H1 _ e1 s1 r1 q1 => ?_)
  refine hl σ ρ1 G1 H1 env M1 _ s1 (ev.mono e1) (Aft.imp (Aft.bind (rel := relO) q1) fun lo M2 lo' ρ2 G2 H2 _ e2 s2 r2 q2 => ?_)
  refine hu σ ρ2 G2 H2 env M2 _ s2 ((ev.mono e1).mono e2) (Aft.imp (Aft.bind (rel := relO) q2) fun hi M3 hi' ρ3 G3 H3 _ e3 s3 r3 q3 => ?_)
  cases r2; cases r3
  cases hp : pk M3 a with
  | none => rw [hp] at q3; exact q3.elim
  | some x =>
    rw [hp] at q3
    replace q3 : Aft X.K T (relA X.K T) (fun c d H' => W c d σ H') ρ3 G3 H3 (match slD x lo hi with | some z => .ok (.d z) M3 | none => .bad) (fun _ _ v _ _ H' => Q v H') := q3
    cases hz : slD x lo hi with
    | none => rw [hz] at q3; exact q3.elim
    | some z =>
      rw [hz] at q3
      exact sl_ok s3 (pk_rep s3 ((r1.mono e2).mono e3) hp) hz fun v G' H' ex s' rv => q3 v ρ3 G' H' ex s' rv
/-! ### list(..), tuple(..), str(..) -/
def listOfD : List D → Option D
  | [.lst ds] => some (.lst ds)
  | [.tup ds] => some (.lst ds)
  | _ => none
theorem c_list : CallD X T (.type "list") listOfD := by
  refine ⟨_, call_list_of, fun ρ G H M ds vs z Q s rs e k => ?_⟩
  unfold listOfD at e
  split at e
  · cases e
    obtain ⟨v, rfl, a, xs, rfl, h1, h2⟩ := rs.one
    refine ⟨a, xs, rfl, .inl (.inl h1), fun p hp => ?_⟩
    obtain ⟨s2, e2⟩ := s.froz (o := .lst xs) hp
    exact k (.ref p) _ _ e2 s2 ⟨p, _, rfl, .inl upd_same, h2.mono e2.sub⟩
  · cases e
    obtain ⟨v, rfl, a, xs, rfl, h1, h2⟩ := rs.one
    refine ⟨a, xs, rfl, .inr (seqT_mono s.sub h1), fun p hp => ?_⟩
    obtain ⟨s2, e2⟩ := s.froz (o := .lst xs) hp
    exact k (.ref p) _ _ e2 s2 ⟨p, _, rfl, .inl upd_same, h2.mono e2.sub⟩
  · cases e
def tupOfD : List D → Option D
  | [.lst ds] => some (.tup ds)
  | [.tup ds] => some (.tup ds)
  | _ => none
theorem c_tuple : CallD X T (.type "tuple") tupOfD := by
  refine ⟨_, call_tuple_of, fun ρ G H M ds vs z Q s rs e k => ?_⟩
  unfold tupOfD at e
  split at e
  · cases e
    obtain ⟨v, rfl, a, xs, rfl, h1, h2⟩ := rs.one
    refine ⟨a, xs, rfl, .inl ⟨.inl h1, fun p hp => ?_⟩⟩
    obtain ⟨s2, e2⟩ := s.froz (o := .tup xs) hp
    exact k (.ref p) _ _ e2 s2 ⟨p, _, rfl, SqT.of upd_same, h2.mono e2.sub⟩
  · cases e
    obtain ⟨v, rfl, a, xs, rfl, h1, h2⟩ := rs.one
    exact ⟨a, xs, rfl, .inr ⟨seqT_mono s.sub h1, k (.ref a) G H (Ext.refl _ _ _) s ⟨a, xs, rfl, h1, h2⟩⟩⟩
  · cases e
/-- list(range(n)), tuple(range(n)) -/
theorem rgV_rep (a b : Int) : Reps K T G (rng a (b - a).toNat) (rgV a b) := by
  unfold rng rgV
  generalize List.range (b - a).toNat = l
  induction l with
  | nil => rfl
  | cons n r ih => exact ⟨_, _, rfl, rfl, ih⟩
def RgC (a b : Int) : Bool := smI a && (smI b && decide ((b - a).toNat ≤ 16777216))
theorem rgc_ok {a b : Int} (h : RgC a b = true) : RgOk a b := by
  unfold RgC at h
  rw [Bool.and_eq_true, Bool.and_eq_true, decide_eq_true_eq] at h
  exact ⟨(smI_ok h.1).1, (smI_ok h.1).2, (smI_ok h.2.1).1, (smI_ok h.2.1).2, h.2.2⟩
def listRg1 (f : FE) : FE := fun env M => (f env M).bind fun a M1 => match a with
  | .d (.int n) => if RgC 0 n = true then .ok (.d (.lst (rng 0 (n - 0).toNat))) M1 else .bad
  | _ => .bad
def tupRg1 (f : FE) : FE := fun env M => (f env M).bind fun a M1 => match a with
  | .d (.int n) => if RgC 0 n = true then .ok (.d (.tup (rng 0 (n - 0).toNat))) M1 else .bad
  | _ => .bad
theorem e_listRg1 {p q : Pos} (hc : X.calm = true) (hg : Gl X "list") (hm : X.mg "list" = none) (hg2 : Gl X "range") (hm2 : X.mg "range" = none) (h : SE X T W a f) (na : starEach [a] X.env = (false, eval a X.env) :: starEach [] X.env := by rfl)
    (na2 : starEach [Expr.Call (.Name "range" p2) [a] [] p] X.env = (false, eval (.Call (.Name "range" p2) [a] [] p) X.env) :: starEach [] X.env := by rfl) : SE X T W (.Call (.Name "list" q) [.Call (.Name "range" p2) [a] [] p] [] pos) (listRg1 f) := by
  obtain ⟨t, pa, h⟩ := h
  refine ⟨_, pe_listRg hc hg hm (prg_1 hg2 hm2 pa na) na2, fun σ ρ G H env M Q s ev q => ?_⟩
  refine h σ ρ G H env M _ s ev (Aft.imp (Aft.bind (rel := relA X.K T) q) fun a M1 v ρ1 G1 H1 _ e1 s1 r1 q1 => ?_)
  split at q1
  · rename_i n _
    split at q1
    · rename_i c
      cases r1
      refine ⟨n, rfl, rgc_ok c, fun p hp => ?_⟩
      obtain ⟨s2, e2⟩ := s1.froz (o := .lst (rgV 0 n)) hp
      exact q1 (.ref p) ρ1 _ _ e2 s2 ⟨p, _, rfl, .inl upd_same, (rgV_rep 0 n)⟩
    · exact q1.elim
  · exact q1.elim
theorem e_tupRg1 {p q : Pos} (hc : X.calm = true) (hg : Gl X "tuple") (hm : X.mg "tuple" = none) (hg2 : Gl X "range") (hm2 : X.mg "range" = none) (h : SE X T W a f) (na : starEach [a] X.env = (false, eval a X.env) :: starEach [] X.env := by rfl)
    (na2 : starEach [Expr.Call (.Name "range" p2) [a] [] p] X.env = (false, eval (.Call (.Name "range" p2) [a] [] p) X.env) :: starEach [] X.env := by rfl) : SE X T W (.Call (.Name "tuple" q) [.Call (.Name "range" p2) [a] [] p] [] pos) (tupRg1 f) := by
  obtain ⟨t, pa, h⟩ := h
  refine ⟨_, pe_tupRg hc hg hm (prg_1 hg2 hm2 pa na) na2, fun σ ρ G H env M Q s ev q => ?_⟩
  refine h σ ρ G H env M _ s ev (Aft.imp (Aft.bind (rel := relA X.K T) q) fun a M1 v ρ1 G1 H1 _ e1 s1 r1 q1 => ?_)
  split at q1
  · rename_i n _
    split at q1
    · rename_i c
      cases r1
      refine ⟨n, rfl, rgc_ok c, fun p hp => ?_⟩
      obtain ⟨s2, e2⟩ := s1.froz (o := .tup (rgV 0 n)) hp
      exact q1 (.ref p) ρ1 _ _ e2 s2 ⟨p, _, rfl, SqT.of upd_same, (rgV_rep 0 n)⟩
    · exact q1.elim
  · exact q1.elim
/-! ### xs[i] = v, xs.append(v), of a list of the memory -/
/-- what stands at a path: a slot -/
def setIx (f g h : FE) : FS := fun env M => ((h env M).bind fun v M1 => (f env M1).bind fun o M2 => (g env M2).bind fun i M3 => match v, o, i with
  | .d x, .l n, .d (.int k) => match M3[n]? with
    | some (.lst ds) => match ixN ds.length k with
      | some j => .ok () (M3.set n (.lst (ds.set j x)))
      | none => .bad
    | _ => .bad
  | _, _, _ => .bad).go env fun _ M4 => .nx env M4
theorem s_setIx {o i v : Expr} {tp : Pos} (ho : SE X T W o f) (hi : SE X T W i g) (hv : SE X T W v h)
    (ha : ∀ v, assign (.Subscript o i tp) X.env v = (do
      let ov ← holding [v] (eval o X.env)
      let iv ← holding [v, ov] (eval i X.env)
      standAt tp
      holding [v, ov, iv] (setItem ov iv v)
      release [v, ov, iv] []) := by intro _; rfl)
    (hs : swapsWithSole [Expr.Subscript o i tp] v pos.line X.env = pure false := by rfl) (hw : swappedStores [Expr.Subscript o i tp] v X.env = pure none := by rfl)
    (h1 : (assignEach [Expr.Subscript o i tp] X.env).map (·.2) = [assign (.Subscript o i tp) X.env] := by rfl) : SS X T W (.Assign [.Subscript o i tp] v pos) (setIx f g h) := by
  obtain ⟨to, po, ho⟩ := ho
  obtain ⟨ti, pi, hi⟩ := hi
  obtain ⟨tv, pv, hv⟩ := hv
  refine ⟨_, ps_asg pv (pg_sub po pi set_list ha) hs hw h1, fun σ ρ G H env M D s ev r => ?_⟩
  have r' := AftS.go (rel := fun _ _ _ (_ _ : Unit) => True) ev r
  refine hv σ ρ G H env M _ s ev (Aft.imp (Aft.bind (rel := relA X.K T) r') fun a1 M1 v1 ρ1 G1 H1 _ e1 s1 r1 q1 => ?_)
  refine ho σ ρ1 G1 H1 env M1 _ s1 (ev.mono e1) (Aft.imp (Aft.bind (rel := relA X.K T) q1) fun a2 M2 v2 ρ2 G2 H2 _ e2 s2 r2 q2 => ?_)
  refine hi σ ρ2 G2 H2 env M2 _ s2 ((ev.mono e1).mono e2) (Aft.imp (Aft.bind (rel := relA X.K T) q2) fun a3 M3 v3 ρ3 G3 H3 _ e3 s3 r3 q3 => ?_)
  split at q3
  · rename_i x n k _ _ _
    split at q3
    · rename_i ds hm
      split at q3
      · rename_i j hj
        obtain ⟨a, ha, rfl⟩ := r2.mono e3
        cases r3
        obtain ⟨gn, xs, hx, rr⟩ := s3.mem n a _ ha hm
        refine ⟨a, xs, k, j, rfl, rfl, hx, by rw [← rr.length]; exact hj, ?_⟩
        obtain ⟨s4, e4⟩ := s3.put (o := .lst (xs.set j v1)) (u := .lst (ds.set j x)) ha gn ⟨gn, _, upd_same, Reps.set ((r1.mono e2).mono e3) j rr⟩
        exact q3 () ρ3 G3 _ e4 s4 trivial σ ρ3 G3 _ (Ext.refl _ _ _) s4 ((((ev.mono e1).mono e2).mono e3).mono e4)
      · exact q3.elim
    · exact q3.elim
  · exact q3.elim
/-- what a list's method does with its list and the argument -/
def lmE (op : List D → D → Option (List D)) (f g : FE) : FE := fun env M => (f env M).bind fun o M1 => match o with
  | .l n => match M1[n]? with
    | some (.lst _) => (g env M1).bind fun v M2 => match v, M2[n]? with
      | .d x, some (.lst ds) => match op ds x with
        | some es => .ok (.d .non) (M2.set n (.lst es))
        | none => .bad
      | _, _ => .bad
    | _ => .bad
  | _ => .bad
def appO (ds : List D) (x : D) : Option (List D) := if ds.length < SZ then some (ds ++ [x]) else none
abbrev appE : FE → FE → FE := lmE appO
theorem e_app {o v : Expr} {ap : Pos} (ho : SE X T W o f) (hv : SE X T W v g)
    (hbase : attributeBase o "append" X.env (eval o X.env) = eval o X.env := by rfl)
    (hfew : ((backTo pos (starEach [v] X.env)).all (fun x => !x.1) && (backToKw pos (keywordEach [] X.env)).all (fun x => x.1.isSome)
      && decide ([v].length + ([] : List Keyword).length + (if ([] : List Keyword).isEmpty then 0 else 1) < 30)) = true := by rfl)
    (hline : (ap.endLine == pos.line) = true := by rfl) (hs : starEach [v] X.env = (false, eval v X.env) :: starEach [] X.env := by rfl) (hplain : (backTo pos (starEach [] X.env)).any (·.1) = false := by rfl) :
    SE X T W (.Call (.Attribute o "append" ap) [v] [] pos) (appE f g) := by
  obtain ⟨to, po, ho⟩ := ho
  obtain ⟨tv, pv, hv⟩ := hv
  refine ⟨_, pe_bm PySem.F.plainAttrs_list PySem.F.slot_list_append PySem.F.type_list_append mt_append po (pa_cons pv pa_nil hs) hbase hfew hline hs hplain, fun σ ρ G H env M Q s ev q => ?_⟩
  refine ho σ ρ G H env M _ s ev (Aft.imp (Aft.bind (rel := relA X.K T) q) fun a1 M1 v1 ρ1 G1 H1 _ e1 s1 r1 q1 => ?_)
  split at q1
  case h_2 => exact q1.elim
  rename_i n _
  split at q1
  case h_2 => exact q1.elim
  rename_i ds0 hm0
  obtain ⟨a, ha, rfl⟩ := r1
  obtain ⟨gn0, xs0, hx0, _⟩ := s1.mem n a _ ha hm0
  refine ⟨.inl ⟨rfl, xs0, SqL.of hx0⟩, ?_⟩
  refine hv σ ρ1 G1 H1 env M1 _ s1 (ev.mono e1) (Aft.imp (Aft.bind (rel := relA X.K T) q1) fun a2 M2 v2 ρ2 G2 H2 _ e2 s2 r2 q2 => ?_)
  split at q2
  case h_2 => exact q2.elim
  rename_i x ds hm _
  cases ho : appO ds x with
  | none => rw [ho] at q2; exact q2.elim
  | some es =>
    rw [ho] at q2
    unfold appO at ho
    split at ho
    case isFalse => cases ho
    rename_i hz
    cases ho
    have ha2 := e2.pre _ _ ha
    obtain ⟨gn, xs, hx, rr⟩ := s2.mem n a _ ha2 hm
    refine ⟨a, xs, v2, rfl, rfl, hx, by rw [sz_eq, ← rr.length]; exact hz, ?_⟩
    obtain ⟨s4, e4⟩ := s2.put (o := .lst (xs ++ [v2])) (u := .lst (ds ++ [x])) ha2 gn ⟨gn, _, upd_same, Reps.app (Reps.one r2) rr⟩
    exact q2 _ ρ2 G2 _ e4 s4 rfl
end
end Fy

set_option maxRecDepth 100000
namespace Fy
open PySem L2
variable {X : Cx} {T : Tb} {K : PySem.W.Frag} {G H : Hp} {W : WX} {ρ : List Addr} {M : Mem}
inductive Bt where
  | int | bool | str | list | tuple
def Bt.nm : Bt → String
  | .int => "int" | .bool => "bool" | .str => "str" | .list => "list" | .tuple => "tuple"
def tyN : D → Option String
  | .non => some "NoneType" | .bl _ => some "bool" | .int _ => some "int" | .str _ => some "str" | .tup _ => some "tuple" | .lst _ => some "list"
  | _ => none
def isB : Bt → D → Option Bool
  | .int, .int _ => some true
  | .int, .bl _ => some true
  | .bool, .bl _ => some true
  | .str, .str _ => some true
  | .list, .lst _ => some true
  | .tuple, .tup _ => some true
  | _, .ins _ _ => none
  | _, .raw _ => none
  | _, .scr _ => none
  | _, _ => some false
theorem isB_ok {b : Bt} {d : D} {r : Bool} (h : isB b d = some r) : ∃ n, tyN d = some n ∧ kitB n b.nm = some r := by
  cases b <;> cases d <;> first | (cases h; done) | (cases h; exact ⟨_, rfl, by decide +kernel⟩)
theorem tyx_of (e : Same G H) {d : D} {v : V} {n : String} (r : RepP K T G H d v) (h : tyN d = some n) : TyX K H v (.type n) := by
  cases d with
  | non => cases h; cases r; exact .base .non
  | bl b => cases h; cases r; exact .base (.bl b)
  | int b => cases h; cases r; exact .base (.int b)
  | str b => cases h; cases r; exact .base (.str _)
  | lst ds =>
    cases h
    obtain ⟨a, xs, rfl, h1, _⟩ := r
    rcases h1 with h1 | ⟨o, h1⟩
    · exact .base (.lst h1)
    · exact .base (.frz h1)
  | tup ds =>
    cases h
    obtain ⟨a, xs, rfl, h1, _⟩ := r
    rcases seqT_mono e h1 with (h1 | ⟨o, h1⟩) | ⟨o, its, n, hk, hc, _⟩
    · exact .base (.tup h1)
    · exact .fTuple h1
    · exact .kTuple hk hc
  | _ => cases h
def isiE (b : Bt) (f : FE) : FE := one f fun d M => match isB b d with
  | some r => .ok (.d (.bl r)) M
  | none => .bad
def isE2 (b c : Bt) (d : D) : Option Bool := match isB b d, isB c d with
  | some r, some q => some (r || q)
  | _, _ => none
def isiE2 (b c : Bt) (f : FE) : FE := one f fun d M => match isE2 b c d with
  | some r => .ok (.d (.bl r)) M
  | none => .bad
section
variable {e : Expr} {f : FE} {p p2 p3 pos : Pos}
theorem e_isi {x : Str} {b : Bt} (hg : Gl X "isinstance") (hm : X.mg "isinstance" = none) (hg2 : Gl X x) (hm2 : X.mg x = none) (hv2 : bootBuiltins x = some (.type b.nm)) (h : SE X T W e f) (hn2 : x ≠ "__name__" := by decide) (hd2 : (x == ("__debug__" : Str)) = false := by decide)
    (hs1 : starEach [e, .Name x p2] X.env = (false, eval e X.env) :: starEach [.Name x p2] X.env := by rfl) (hs2 : starEach [.Name x p2] X.env = (false, eval (.Name x p2) X.env) :: starEach [] X.env := by rfl) (hpl : (backTo pos (starEach [.Name x p2] X.env)).any (·.1) = false := by rfl) :
    SE X T W (.Call (.Name "isinstance" p) [e, .Name x p2] [] pos) (isiE b f) := by
  obtain ⟨t, pe, h⟩ := h
  refine ⟨_, pe_callB call_isi hg hm (by decide +kernel) (pa_cons pe (pa_cons (pe_bltn (v := .ty b.nm) hg2 hm2 hv2 rfl hn2 hd2) pa_nil hs2) hs1) (by decide) (by decide) hs1 hpl, fun σ ρ G H env M Q s ev q => ?_⟩
  refine h σ ρ G H env M _ s ev (Aft.imp (Aft.bind (rel := relA X.K T) q) fun a M1 v ρ1 G1 H1 _ e1 s1 r1 q1 => ?_)
  cases hp : pk M1 a with
  | none => rw [hp] at q1; exact q1.elim
  | some d =>
    rw [hp] at q1
    replace q1 : Aft X.K T (relA X.K T) (fun c d H' => W c d σ H') ρ1 G1 H1 (match isB b d with | some r => .ok (.d (.bl r)) M1 | none => .bad) (fun _ _ v _ _ H' => Q v H') := q1
    cases hb : isB b d with
    | none => rw [hb] at q1; exact q1.elim
    | some r =>
      rw [hb] at q1
      obtain ⟨n, h1, h2⟩ := isB_ok hb
      exact ⟨v, .ty b.nm, .type n, .type b.nm, r, rfl, .ty _, tyx_of s1.sub (pk_rep s1 r1 hp) h1, kit_ty h2, q1 _ ρ1 G1 H1 (Ext.refl _ _ _) s1 rfl⟩
theorem e_isi2 {x y : Str} {b c : Bt} {k : Nat} {q1 q2 : Pos} (hg : Gl X "isinstance") (hm : X.mg "isinstance" = none) (hg2 : Gl X x) (hm2 : X.mg x = none) (hv2 : bootBuiltins x = some (.type b.nm)) (hg3 : Gl X y) (hm3 : X.mg y = none) (hv3 : bootBuiltins y = some (.type c.nm)) (h : SE X T W e f)
    (hn2 : x ≠ "__name__" := by decide) (hd2 : (x == ("__debug__" : Str)) = false := by decide) (hn3 : y ≠ "__name__" := by decide) (hd3 : (y == ("__debug__" : Str)) = false := by decide)
    (hs1 : starEach [e, Expr.Tuple [.Name x p2, .Name y p3] k q1] X.env = (false, eval e X.env) :: starEach [Expr.Tuple [.Name x p2, .Name y p3] k q1] X.env := by rfl)
    (hs2 : starEach [Expr.Tuple [.Name x p2, .Name y p3] k q1] X.env = (false, eval (Expr.Tuple [.Name x p2, .Name y p3] k q1) X.env) :: starEach [] X.env := by rfl)
    (hs3 : starEach [.Name x p2, .Name y p3] X.env = (false, eval (.Name x p2) X.env) :: starEach [.Name y p3] X.env := by rfl) (hs4 : starEach [.Name y p3] X.env = (false, eval (.Name y p3) X.env) :: starEach [] X.env := by rfl)
    (hpl : (backTo pos (starEach [Expr.Tuple [.Name x p2, .Name y p3] k q1] X.env)).any (·.1) = false := by rfl) :
    SE X T W (.Call (.Name "isinstance" p) [e, Expr.Tuple [.Name x p2, .Name y p3] k q1] [] pos) (isiE2 b c f) := by
  obtain ⟨t, pe, h⟩ := h
  refine ⟨_, pe_callB call_isiT hg hm (by decide +kernel) (pa_cons pe (pa_cons (pe_tup (pa_cons (pe_bltn (v := .ty b.nm) hg2 hm2 hv2 rfl hn2 hd2) (pa_cons (pe_bltn (v := .ty c.nm) hg3 hm3 hv3 rfl hn3 hd3) pa_nil hs4) hs3)) pa_nil hs2) hs1) (by decide) (by decide) hs1 hpl, fun σ ρ G H env M Q s ev q => ?_⟩
  refine h σ ρ G H env M _ s ev (Aft.imp (Aft.bind (rel := relA X.K T) q) fun a M1 v ρ1 G1 H1 _ e1 s1 r1 q1 => ?_)
  cases hp : pk M1 a with
  | none => rw [hp] at q1; exact q1.elim
  | some d =>
    rw [hp] at q1
    replace q1 : Aft X.K T (relA X.K T) (fun c d H' => W c d σ H') ρ1 G1 H1 (match isE2 b c d with | some r => .ok (.d (.bl r)) M1 | none => .bad) (fun _ _ v _ _ H' => Q v H') := q1
    cases hb : isE2 b c d with
    | none => rw [hb] at q1; exact q1.elim
    | some r =>
      rw [hb] at q1
      unfold isE2 at hb
      split at hb
      · rename_i r1' r2' e1' e2'
        cases hb
        obtain ⟨n, h1, h2⟩ := isB_ok e1'
        obtain ⟨n', h1', h2'⟩ := isB_ok e2'
        rw [h1] at h1'; cases h1'
        refine ⟨by show 2 ≤ sizeLine; decide, fun p hp' => ?_⟩
        obtain ⟨s2, e2⟩ := s1.froz (o := .tup [.ty b.nm, .ty c.nm]) hp'
        have rp := pk_rep s1 r1 hp
        have rp2 : RepP X.K T (upd G1 p (.tup [.ty b.nm, .ty c.nm])) (upd H1 p (.tup [.ty b.nm, .ty c.nm])) d v := pk_rep s2 (r1.mono e2) hp
        refine ⟨v, p, _, .type n, [.type b.nm, .type c.nm], r1' || r2', rfl, upd_same, .cons (.ty _) (.cons (.ty _) .nil), tyx_of s2.sub rp2 h1, ?_, q1 _ ρ1 _ _ e2 s2 rfl⟩
        refine kitAny_cons (kit_ty h2) (fun e => ?_) fun e => by rw [e]; rfl
        rw [e, Bool.false_or]
        exact kitAny_cons (kit_ty h2') (fun e => by rw [e]; rfl) fun e => e
      · cases hb
end
end Fy

set_option maxRecDepth 100000
namespace Fy
open PySem PySem.Spec L2
variable {T : Tb} {K : PySem.W.Frag} {P : Program} {w : World} {mg : Str → Option Value} {base : Heap}
/-! ### a def by its body -/
/-- what comes of a body: as many objects of the memory as before, the result's behind them -/
def ends (n : Nat) (r : F) : R A := match r with
  | .nx _ M => .ok (.d .non) (M.take n)
  | .rt (.d x) M => .ok (.d x) (M.take n)
  | .rt (.l l) M => if l < n then .ok (.l l) (M.take n) else match M[l]? with
    | some o => .ok (.l n) (M.take n ++ [o])
    | none => .bad
  | .exc k fs _ M => .exc k fs (M.take n)
  | _ => .bad
def env0 (n : Nat) (as : List A) : Env := as.map some ++ List.replicate (n - as.length) none
/-- the function of a def: n names in all, its body -/
def defF (n : Nat) (b : FS) : FF := fun as M => ends M.length (b (env0 n as) M)
theorem RS.take {ρ : List Addr} {G H : Hp} {M : Mem} (s : RS K T ρ G H M) (n : Nat) : RS K T (ρ.take n) G H (M.take n) :=
  ⟨s.sub, by simp [s.len], s.nd.sublist (List.take_sublist _ _), fun a ha => s.live a (List.mem_of_mem_take ha), fun l a o e1 e2 => by
    have h1 := (List.getElem?_eq_some_iff.mp e1).1
    rw [List.length_take] at h1
    rw [List.getElem?_take, if_pos (by omega)] at e1 e2
    exact s.mem l a o e1 e2⟩
theorem Ext.take {ρ ρ' : List Addr} {G H G' H' : Hp} (e : Ext ρ G H ρ' G' H') : Ext ρ G H (ρ'.take ρ.length) G' H' :=
  ⟨fun l a h => by
    have := (List.getElem?_eq_some_iff.mp h).1
    rw [List.getElem?_take, if_pos this]; exact e.pre l a h, e.sub, fun a ha => e.new a (List.mem_of_mem_take ha), e.frm, e.kp, e.gn⟩
theorem start_rep {K : PySem.W.Frag} {ρ : List Addr} {G : Hp} {N : List Str} : ∀ {as : List A} {vs : List V}, AReps K T ρ G as vs → as.length ≤ N.length → EnvR K T ρ G (env0 N.length as) (L2.start N vs) := by
  intro as vs r hl
  have hlen := r.length
  refine ⟨by unfold env0 L2.start; simp only [List.length_append, List.length_map, List.length_replicate]; omega, fun i a e => ?_⟩
  unfold env0 at e
  by_cases hi : i < as.length
  · rw [List.getElem?_append_left (by simpa using hi), List.getElem?_map] at e
    have key : ∀ {as : List A} {vs : List V} {i : Nat} {a : A}, AReps K T ρ G as vs → as[i]? = some a → ∃ v, vs[i]? = some v ∧ ARep K T ρ G a v := by
      intro as
      induction as with
      | nil => intro vs i a _ e; simp at e
      | cons b as ih =>
        intro vs i a r e
        obtain ⟨x, q, rfl, h1, h2⟩ := r
        cases i with
        | zero => simp at e; subst e; exact ⟨x, rfl, h1⟩
        | succ i =>
          obtain ⟨v, h3, h4⟩ := ih (i := i) h2 (by simpa using e)
          exact ⟨v, by simpa using h3, h4⟩
    cases ha : as[i]? with
    | none => rw [ha] at e; cases e
    | some b =>
      rw [ha] at e
      cases e
      obtain ⟨v, h1, h2⟩ := key r ha
      refine ⟨v, ?_, h2⟩
      unfold L2.start
      rw [List.getElem?_append_left (by simpa [← hlen] using hi), List.getElem?_map, h1]
      rfl
  · rw [List.getElem?_append_right (by simpa using Nat.le_of_not_lt hi)] at e
    rw [List.getElem?_replicate] at e
    split at e <;> cases e
/-- THE RULE of a def: its body as a function -/
theorem fn_ok {x qual : Str} {st : Stmt} {f : Addr} {fd : FuncData} {N ps : List Str} {k n : Nat} {b : FS} (F : Fun K x qual st f fd) (S : FnScope N ps (defScope st)) (hn : ps.length = n) (hN : n ≤ N.length)
    (hbody : ∀ (cdv : Value) (A : Around) (outer : List PySem.Env) (s : Shared) (H : Hp) (E : XK), Room k (A.deeper (PyProof.Rows.envOfC qual (defScope st) s.heap.objs.size f cdv)) →
      SSs (cxOf (L2.CX P w) P w K mg base N qual (defScope st) f cdv A outer s H E) T (fun cls d _ H' => E cls d H') (defBody st) b) : FnOk P w K mg base (L2.CX P w) (k + 1) f fd ps (spF K T n (defF N.length b)) := by
  refine F.okX S (fun vs H Q E h => h.1.trans hn.symm) fun cdv A outer s H vs Q E hr h => ?_
  obtain ⟨hl, ρ, G, as, M, sI, r, q⟩ := h
  obtain ⟨t, pt, ht⟩ := hbody cdv A outer s H E hr
  refine ⟨t, pt, ht (L2.start N vs) ρ G H (env0 N.length as) M _ sI (start_rep r (by rw [r.length, hl]; exact hN)) ?_⟩
  unfold defF at q
  have hM := sI.len
  cases hb : b (env0 N.length as) M with
  | nx env M' =>
    rw [hb] at q
    exact fun σ' ρ' G' H' e s' _ => q .non (ρ'.take ρ.length) G' H' e.take (by rw [← hM]; exact s'.take _) rfl
  | rt a M' =>
    rw [hb] at q
    intro v ρ' G' H' e s' ra
    cases a with
    | d x => exact q v (ρ'.take ρ.length) G' H' e.take (by rw [← hM]; exact s'.take _) ra
    | l l =>
      replace q : Aft K T (relA K T) E ρ G H (if l < M.length then .ok (.l l) (M'.take M.length) else match M'[l]? with
        | some o => .ok (.l M.length) (M'.take M.length ++ [o])
        | none => .bad) (fun _ _ v _ _ H' => Q v H') := q
      obtain ⟨p, hp, rfl⟩ := ra
      split at q
      · rename_i hlt
        exact q (.ref p) (ρ'.take ρ.length) G' H' e.take (by rw [← hM]; exact s'.take _) ⟨p, by rw [List.getElem?_take, if_pos (by omega)]; exact hp, rfl⟩
      · rename_i hge
        split at q
        · rename_i o ho
          have hnm : p ∉ ρ'.take ρ.length := fun hm => by
            obtain ⟨j, hj⟩ := List.mem_iff_getElem?.mp hm
            have hj2 := (List.getElem?_eq_some_iff.mp hj).1
            rw [List.length_take] at hj2
            rw [List.getElem?_take, if_pos (by omega)] at hj
            have := nd_ix s'.nd hj hp
            omega
          have hlen : (ρ'.take ρ.length).length = M.length := by
            have h1 := (List.getElem?_eq_some_iff.mp hp).1
            rw [List.length_take]; omega
          refine q (.ref p) (ρ'.take ρ.length ++ [p]) G' H' ⟨fun i a h => ?_, e.sub, fun a ha => ?_, e.frm, e.kp, e.gn⟩ ⟨s'.sub, ?_, ?_, fun a ha => ?_, fun i a u h1 h2 => ?_⟩ ⟨p, ?_, rfl⟩
          · rw [List.getElem?_append_left (by rw [hlen, ← hM]; exact (List.getElem?_eq_some_iff.mp h).1)]
            exact e.take.pre i a h
          · rcases List.mem_append.mp ha with ha | ha
            · exact e.new a (List.mem_of_mem_take ha)
            · rw [List.mem_singleton.mp ha]; exact e.new p (List.mem_of_getElem? hp)
          · have := (s'.take M.length).len
            rw [List.length_append, List.length_append, ← this, hM]; simp
          · rw [List.nodup_append]
            exact ⟨s'.nd.sublist (List.take_sublist _ _), by simp, fun a ha b hb z => hnm (by rw [← List.mem_singleton.mp hb, ← z]; exact ha)⟩
          · rcases List.mem_append.mp ha with ha | ha
            · exact s'.live a (List.mem_of_mem_take ha)
            · rw [List.mem_singleton.mp ha]; exact s'.live p (List.mem_of_getElem? hp)
          · have hlt2 := (s'.take M.length).len
            rcases get_app h1 with h1 | ⟨i1, rfl⟩
            · rcases get_app h2 with h2 | ⟨i2, rfl⟩
              · exact (s'.take M.length).mem i a u (by rw [← hM]; exact h1) h2
              · have := (List.getElem?_eq_some_iff.mp h1).1
                rw [hlen] at this
                rw [List.length_take] at hlt2 i2
                have h3 := s'.len
                have h4 := (List.getElem?_eq_some_iff.mp hp).1
                rw [List.length_take] at hlt2
                omega
            · rcases get_app h2 with h2 | ⟨i2, rfl⟩
              · have h3 := (List.getElem?_eq_some_iff.mp h2).1
                rw [List.length_take] at h3
                rw [hlen] at i1
                omega
              · exact s'.mem l a _ hp ho
          · rw [List.getElem?_append_right (by rw [hlen]; exact Nat.le_refl _), hlen]; simp
        · exact q.elim
  | bk env M' => rw [hb] at q; exact q.elim
  | ct env M' => rw [hb] at q; exact q.elim
  | exc k fs env M' =>
    rw [hb] at q
    exact fun σ' ρ' G' H' d xs e s' _ rr hd hl => q (ρ'.take ρ.length) G' H' d xs e.take (by rw [← hM]; exact s'.take _) rr hd hl
  | bad => rw [hb] at q; exact q.elim
/-- a def that calls itself, told by its depth: at 0 nothing is promised -/
theorem fn_zero {f : Addr} {fd : FuncData} {ps : List Str} {n : Nat} (hn : ps.length = n) : FnOk P w K mg base (L2.CX P w) 0 f fd ps (spF K T n fun _ _ => .bad) :=
  ⟨fun vs H Q E h => h.1.trans hn.symm, fun A outer s H args us vs Q E _ _ _ _ h => by
    obtain ⟨_, _, _, _, _, _, _, q⟩ := h
    exact q.elim⟩
end Fy

set_option maxRecDepth 100000
namespace Fy
open PySem PySem.Spec L2
variable {X : Cx} {T : Tb} {K : PySem.W.Frag} {G H : Hp} {W : WX} {ρ : List Addr} {M : Mem}
section
variable {a b c e : Expr} {f g h : FE} {u v : FB} {pos p : Pos} {es rest : List Expr} {fa : FL}
/-! ### -x -/
def negE (f : FE) : FE := one f fun d M => match d with
  | .int i => .ok (.d (.int (-i))) M
  | _ => .bad
theorem e_neg (h : SE X T W a f) : SE X T W (.UnaryOp .USub a pos) (negE f) := by
  obtain ⟨t, p, h⟩ := h
  refine ⟨_, pe_un un_neg p, fun σ ρ G H env M Q s ev q => ?_⟩
  refine h σ ρ G H env M _ s ev (Aft.imp (Aft.bind (rel := relA X.K T) q) fun a M1 v ρ1 G1 H1 _ e1 s1 r1 q1 => ?_)
  cases hp : pk M1 a with
  | none => rw [hp] at q1; exact q1.elim
  | some d =>
    rw [hp] at q1
    have rp := pk_rep s1 r1 hp
    cases d with
    | int i => cases rp; exact ⟨i, rfl, q1 _ ρ1 G1 H1 (Ext.refl _ _ _) s1 rfl⟩
    | _ => exact q1.elim
/-! ### a < b < c -/
/-- the first comparison's answer, then the second's -/
def chE (op op' : D → D → Option D) (f g h : FE) : FE := fun env M => (f env M).bind fun a M1 => (g env M1).bind fun b M2 => match pk M2 a, pk M2 b with
  | some x, some y => match op x y with
    | some (.bl true) => (h env M2).bind fun c M3 => match pk M3 b, pk M3 c with
      | some y', some z => match op' y' z with
        | some r => .ok (.d r) M3
        | none => .bad
      | _, _ => .bad
    | some (.bl false) => .ok (.d (.bl false)) M2
    | _ => .bad
  | _, _ => .bad
theorem ch_ok {op op' : D → D → Option D} {r r' : R2} {ta tb tc : TE}
    (h2 : ∀ ρ G H M x y vx vy z (Q : VK), RS X.K T ρ G H M → RepP X.K T G H x vx → RepP X.K T G H y vy → op x y = some z → (∀ v G' H', Ext ρ G H ρ G' H' → RS X.K T ρ G' H' M → Rep X.K T G' z v → Q v H') → r vx vy H Q)
    (h2' : ∀ ρ G H M x y vx vy z (Q : VK), RS X.K T ρ G H M → RepP X.K T G H x vx → RepP X.K T G H y vy → op' x y = some z → (∀ v G' H', Ext ρ G H ρ G' H' → RS X.K T ρ G' H' M → Rep X.K T G' z v → Q v H') → r' vx vy H Q)
    (ha : HE X T W f ta) (hb : HE X T W g tb) (hc : HE X T W h tc) : HE X T W (chE op op' f g h) (tChain r r' ta tb tc) := by
  intro σ ρ G H env M Q s ev q
  refine ha σ ρ G H env M _ s ev (Aft.imp (Aft.bind (rel := relA X.K T) q) fun a1 M1 v1 ρ1 G1 H1 _ e1 s1 r1 q1 => ?_)
  refine hb σ ρ1 G1 H1 env M1 _ s1 (ev.mono e1) (Aft.imp (Aft.bind (rel := relA X.K T) q1) fun a2 M2 v2 ρ2 G2 H2 _ e2 s2 r2 q2 => ?_)
  split at q2
  · rename_i x y ex ey
    split at q2
    · rename_i ho
      refine h2 ρ2 G2 H2 M2 x y v1 v2 _ _ s2 (pk_rep s2 (r1.mono e2) ex) (pk_rep s2 r2 ey) ho fun vb G3 H3 e3 s3 rb => ?_
      refine ⟨true, rb, ?_⟩
      rw [if_pos rfl]
      have q3 := Aft.ext e3 q2
      refine hc σ ρ2 G3 H3 env M2 _ s3 (((ev.mono e1).mono e2).mono e3) (Aft.imp (Aft.bind (rel := relA X.K T) q3) fun a3 M3 v3 ρ4 G4 H4 _ e4 s4 r4 q4 => ?_)
      split at q4
      · rename_i y' z ey' ez
        cases ho' : op' y' z with
        | none => rw [ho'] at q4; exact q4.elim
        | some w =>
          rw [ho'] at q4
          exact h2' ρ4 G4 H4 M3 y' z v2 v3 _ Q s4 (pk_rep s4 ((r2.mono e3).mono e4) ey') (pk_rep s4 r4 ez) ho' fun v G' H' ex s' rv => q4 v ρ4 G' H' ex s' rv
      · exact q4.elim
    · rename_i ho
      refine h2 ρ2 G2 H2 M2 x y v1 v2 _ _ s2 (pk_rep s2 (r1.mono e2) ex) (pk_rep s2 r2 ey) ho fun vb G3 H3 e3 s3 rb => ?_
      refine ⟨false, rb, ?_⟩
      rw [if_neg Bool.false_ne_true]
      exact q2 _ ρ2 G3 H3 e3 s3 rfl
    · exact q2.elim
  · exact q2.elim
theorem e_chain {o o' : CmpOp} {op op' : D → D → Option D} (ho : Op2 X T (compareOp o) op) (ho' : Op2 X T (compareOp o') op') (ha : SE X T W a f) (hb : SE X T W b g) (hc : SE X T W c h) (hm : lastMarks [o, o'] [b, c] = false := by with_unfolding_all rfl) : SE X T W (.Compare a [o, o'] [b, c] pos) (chE op op' f g h) := by
  obtain ⟨ta, pa, ha⟩ := ha
  obtain ⟨tb, pb, hb⟩ := hb
  obtain ⟨tc, pc, hc⟩ := hc
  obtain ⟨r, h1, h2⟩ := ho
  obtain ⟨r', h1', h2'⟩ := ho'
  exact ⟨_, pe_chain h1 h1' pa pb pc hm, ch_ok h2 h2' ha hb hc⟩
theorem t_chain {o o' : CmpOp} {op op' : D → D → Option D} (ho : Op2 X T (compareOp o) op) (ho' : Op2 X T (compareOp o') op') (ha : SE X T W a f) (hb : SE X T W b g) (hc : SE X T W c h) (hm : lastMarks [o, o'] [b, c] = false := by with_unfolding_all rfl) : ST X T W (.Compare a [o, o'] [b, c] pos) (tst (chE op op' f g h)) := by
  obtain ⟨ta, pa, ha⟩ := ha
  obtain ⟨tb, pb, hb⟩ := hb
  obtain ⟨tc, pc, hc⟩ := hc
  obtain ⟨r, h1, h2⟩ := ho
  obtain ⟨r', h1', h2'⟩ := ho'
  exact ⟨_, pt_chain h1 h1' pa pb pc hm, fun σ ρ G H env M Q s ev q => tst_ok (f := chE op op' f g h) (ch_ok h2 h2' ha hb hc) s ev q⟩
/-! ### a if t else b; and, or, not as values -/
def ifE (t : FB) (f g : FE) : FE := fun env M => (t env M).bind fun b M1 => if b = true then f env M1 else g env M1
theorem e_if (ht : ST X T W c u) (ha : SE X T W a f) (hb : SE X T W b g) : SE X T W (.IfExp c a b pos) (ifE u f g) := by
  obtain ⟨tc, pc, ht⟩ := ht
  obtain ⟨ta, pa, ha⟩ := ha
  obtain ⟨tb, pb, hb⟩ := hb
  refine ⟨_, pe_ifExp pc pa pb, fun σ ρ G H env M Q s ev q => ?_⟩
  refine ht σ ρ G H env M _ s ev (Aft.imp (Aft.bind (rel := relB) q) fun d M1 d' ρ1 G1 H1 _ e1 s1 r1 q1 => ?_)
  cases r1
  cases d with
  | true => exact ha σ ρ1 G1 H1 env M1 Q s1 (ev.mono e1) q1
  | false => exact hb σ ρ1 G1 H1 env M1 Q s1 (ev.mono e1) q1
def andE (f g : FE) : FE := fun env M => (f env M).bind fun a M1 => match a with
  | .d (.bl true) => g env M1
  | .d (.bl false) => .ok (.d (.bl false)) M1
  | _ => .bad
def orE (f g : FE) : FE := fun env M => (f env M).bind fun a M1 => match a with
  | .d (.bl false) => g env M1
  | .d (.bl true) => .ok (.d (.bl true)) M1
  | _ => .bad
def notE (f : FE) : FE := fun env M => (f env M).bind fun a M1 => match a with
  | .d (.bl b) => .ok (.d (.bl (!b))) M1
  | _ => .bad
theorem e_one {o : BoolOp} (h : SE X T W a f) : SE X T W (.BoolOp o [a] pos) f := by
  obtain ⟨t, p, h⟩ := h
  exact ⟨t, pe_one p, h⟩
theorem e_and (ha : SE X T W a f) (hb : SE X T W (.BoolOp .And (b :: rest) pos) g) : SE X T W (.BoolOp .And (a :: b :: rest) pos) (andE f g) := by
  obtain ⟨ta, pa, ha⟩ := ha
  obtain ⟨tb, pb, hb⟩ := hb
  refine ⟨_, pe_and pa pb, fun σ ρ G H env M Q s ev q => ?_⟩
  refine ha σ ρ G H env M _ s ev (Aft.imp (Aft.bind (rel := relA X.K T) q) fun a1 M1 v ρ1 G1 H1 _ e1 s1 r1 q1 => ?_)
  split at q1
  · exact ⟨true, r1, by rw [if_pos rfl]; exact hb σ ρ1 G1 H1 env M1 Q s1 (ev.mono e1) q1⟩
  · exact ⟨false, r1, by rw [if_neg Bool.false_ne_true]; exact q1 _ ρ1 G1 H1 (Ext.refl _ _ _) s1 rfl⟩
  · exact q1.elim
theorem e_or (ha : SE X T W a f) (hb : SE X T W (.BoolOp .Or (b :: rest) pos) g) : SE X T W (.BoolOp .Or (a :: b :: rest) pos) (orE f g) := by
  obtain ⟨ta, pa, ha⟩ := ha
  obtain ⟨tb, pb, hb⟩ := hb
  refine ⟨_, pe_or pa pb, fun σ ρ G H env M Q s ev q => ?_⟩
  refine ha σ ρ G H env M _ s ev (Aft.imp (Aft.bind (rel := relA X.K T) q) fun a1 M1 v ρ1 G1 H1 _ e1 s1 r1 q1 => ?_)
  split at q1
  · exact ⟨false, r1, by rw [if_neg Bool.false_ne_true]; exact hb σ ρ1 G1 H1 env M1 Q s1 (ev.mono e1) q1⟩
  · exact ⟨true, r1, by rw [if_pos rfl]; exact q1 _ ρ1 G1 H1 (Ext.refl _ _ _) s1 rfl⟩
  · exact q1.elim
theorem e_not (ha : SE X T W a f) : SE X T W (.UnaryOp .Not a pos) (notE f) := by
  obtain ⟨ta, pa, ha⟩ := ha
  refine ⟨_, pe_not pa, fun σ ρ G H env M Q s ev q => ?_⟩
  refine ha σ ρ G H env M _ s ev (Aft.imp (Aft.bind (rel := relA X.K T) q) fun a1 M1 v ρ1 G1 H1 _ e1 s1 r1 q1 => ?_)
  split at q1
  · rename_i b _
    exact ⟨b, r1, q1 _ ρ1 G1 H1 (Ext.refl _ _ _) s1 rfl⟩
  · exact q1.elim
/-! ### sep.join(xs) -/
def joinL (sep : List Nat) : List (List Nat) → List Nat
  | [] => []
  | [x] => x
  | x :: y :: r => x ++ sep ++ joinL sep (y :: r)
theorem join_ms (sep : List Nat) : ∀ xs : List (List Nat), Txt.join (ms sep) (xs.map ms) = ms (joinL sep xs)
  | [] => rfl
  | [x] => rfl
  | x :: y :: r => by
    have ih := join_ms sep (y :: r)
    unfold Txt.join at ih ⊢
    rw [StrLaws.glued_eq_join] at ih ⊢
    show Str.join (ms sep) (ms x :: ms y :: r.map ms) = _
    have : Str.join (ms sep) (ms x :: ms y :: r.map ms) = ms x ++ ms sep ++ Str.join (ms sep) (ms y :: r.map ms) := rfl
    rw [this]
    rw [show Str.join (ms sep) (ms y :: r.map ms) = ms (joinL sep (y :: r)) from ih, ms_app, ms_app]
    all_goals rfl
def joinE (f g : FE) : FE := fun env M => (f env M).bind fun a M1 => match a with
  | .d (.str sep) => (g env M1).bind fun b M2 => match (pk M2 b).bind itemsOf with
    | some ds => match strsOf ds with
      | some xs => if (xs.map (·.length)).sum + xs.length * sep.length ≤ SZ then .ok (.d (.str (joinL sep xs))) M2 else .bad
      | none => .bad
    | none => .bad
  | _ => .bad
theorem ms_lens (xs : List (List Nat)) : ((xs.map ms).map (·.length)).sum = (xs.map (·.length)).sum := by
  rw [List.map_map]
  congr 1
  all_goals exact List.map_congr_left fun x _ => ms_len x
theorem e_join {o v : Expr} {ap : Pos} (ho : SE X T W o f) (hv : SE X T W v g) (hs : starEach [v] X.env = [(false, eval v X.env)] := by rfl) (hbase : attributeBase o "join" X.env (eval o X.env) = eval o X.env := by rfl) (hline : (ap.endLine == pos.line) = true := by rfl) :
    SE X T W (.Call (.Attribute o "join" ap) [v] [] pos) (joinE f g) := by
  obtain ⟨to, po, ho⟩ := ho
  obtain ⟨tv, pv, hv⟩ := hv
  refine ⟨_, pe_join po pv hs hbase hline, fun σ ρ G H env M Q s ev q => ?_⟩
  refine ho σ ρ G H env M _ s ev (Aft.imp (Aft.bind (rel := relA X.K T) q) fun a1 M1 v1 ρ1 G1 H1 _ e1 s1 r1 q1 => ?_)
  split at q1
  case h_2 => exact q1.elim
  rename_i sep _
  refine ⟨⟨ms sep, r1⟩, ?_⟩
  refine hv σ ρ1 G1 H1 env M1 _ s1 (ev.mono e1) (Aft.imp (Aft.bind (rel := relA X.K T) q1) fun a2 M2 v2 ρ2 G2 H2 _ e2 s2 r2 q2 => ?_)
  cases hp : pk M2 a2 with
  | none => rw [hp] at q2; exact q2.elim
  | some d =>
    rw [hp] at q2
    have rp := pk_rep s2 r2 hp
    have fin : ∀ {ds : List D} {p : Addr} {xs : List V}, itemsOf d = some ds → v2 = .ref p → (SqL X.K H2 p xs ∨ SqT X.K H2 p xs) → Reps X.K T G2 ds xs → _ := fun {ds p xs} hi hv hs hr => by
      have q3 : Aft X.K T (relA X.K T) (fun c d H' => W c d σ H') ρ2 G2 H2 (match itemsOf d with
        | some ds => match strsOf ds with
          | some xs => if (xs.map (·.length)).sum + xs.length * sep.length ≤ SZ then .ok (.d (.str (joinL sep xs))) M2 else .bad
          | none => .bad
        | none => .bad) (fun _ _ v _ _ H' => Q v H') := q2
      rw [hi] at q3
      simp only at q3
      cases hx : strsOf ds with
      | none => rw [hx] at q3; exact q3.elim
      | some ys =>
        rw [hx] at q3
        simp only at q3
        split at q3
        · rename_i hz
          have ex := strsOf_rep hr hx
          subst ex
          exact (⟨ms sep, p, ys.map ms, r1, by rw [hv], hs, by rw [ms_lens, List.length_map, ms_len]; exact hz, by rw [join_ms]; exact q3 _ ρ2 G2 H2 (Ext.refl _ _ _) s2 rfl⟩ : ∃ a p, ∃ ys : List Str, v1 = .str a ∧ [v2] = [.ref p] ∧ (SqL X.K H2 p (ys.map V.str) ∨ SqT X.K H2 p (ys.map V.str)) ∧ (ys.map (·.length)).sum + ys.length * a.length ≤ 16777216 ∧ Q (.str (Txt.join a ys)) H2)
        · exact q3.elim
    cases d with
    | lst ds =>
      obtain ⟨p, xs, hv, h1, h2⟩ := rp
      exact fin rfl hv (.inl (.inl h1)) h2
    | tup ds =>
      obtain ⟨p, xs, hv, h1, h2⟩ := rp
      exact fin rfl hv (.inr (seqT_mono s2.sub h1)) h2
    | _ => exact q2.elim
end
end Fy

set_option maxRecDepth 100000
namespace Fy
open PySem PySem.Spec PyProof.Rows L2
/-! ### the defs of a text -/
/-- the def stands behind the top -/
def Here (K : PySem.W.Frag) (mg : Str → Option Value) (x : Str) (st : Stmt) (ps : List Str) : Prop :=
  ∃ f fd, Fun K x x st f fd ∧ mg x = some (.ref f) ∧ PySem.W.keepIn K (.ref f) = true ∧ Binds K fd ps []
/-- the def x of n parameters computes F, in k calls one in another -/
def Dn (P : Program) (w : World) (K : PySem.W.Frag) (mg : Str → Option Value) (base : Heap) (T : Tb) (x : Str) (k n : Nat) (F : FF) : Prop :=
  ∃ f fd ps, mg x = some (.ref f) ∧ PySem.W.keepIn K (.ref f) = true ∧ Binds K fd ps [] ∧ FnOk P w K mg base (L2.CX P w) k f fd ps (spF K T n F)
variable {X : Cx} {T : Tb} {W : WX}
theorem e_callD {k n : Nat} {x : Str} {F : FF} {e : Expr} {es : List Expr} {fa : FL} {p pos : Pos} (tk : Takes X W) (D : Dn X.prog X.w X.K X.mg X.base T x k n F) (hr : Room k X.A) (hg : Gl X x) (ha : SA X T W (e :: es) fa)
    (hdb : (x == ("__debug__" : Str)) = false := by decide) (he : starEach (e :: es) X.env = (false, eval e X.env) :: starEach es X.env := by rfl) (hpl : (backTo pos (starEach es X.env)).any (·.1) = false := by rfl) :
    SE X T W (.Call (.Name x p) (e :: es) [] pos) (callE (arity n F) fa) := by
  obtain ⟨f, fd, ps, hm, hk, hb, FO⟩ := D
  exact e_call tk FO hr hg hm hk hb ha hdb he hpl
theorem e_globK {x : Str} {d : D} {v : V} {pos : Pos} (hg : Gl X x) (h : ∃ u, X.mg x = some u ∧ RelV v u) (q : ∀ G, Rep X.K T G d v := by intro _; rfl) (hd : (x == ("__debug__" : Str)) = false := by decide) : SE X T W (.Name x pos) (cn d) := by
  obtain ⟨u, hm, r⟩ := h
  exact e_glob hg hm r q hd
/-! ### xs[::-1] -/
def revE (f : FE) : FE := one f fun d M => match d with
  | .lst ds => .ok (.d (.lst ds.reverse)) M
  | _ => .bad
theorem e_rev {e : Expr} {f : FE} {k : Nat} {p1 p2 p3 pos : Pos} (h : SE X T W e f) : SE X T W (.Subscript e (.Slice none none (some (.UnaryOp .USub (.Constant (.int 1) k p1) p2)) p3) pos) (revE f) := by
  obtain ⟨t, pe, h⟩ := h
  refine ⟨_, pe_revL pe, fun σ ρ G H env M Q s ev q => ?_⟩
  refine h σ ρ G H env M _ s ev (Aft.imp (Aft.bind (rel := relA X.K T) q) fun a M1 v ρ1 G1 H1 _ e1 s1 r1 q1 => ?_)
  cases hp : pk M1 a with
  | none => rw [hp] at q1; exact q1.elim
  | some d =>
    rw [hp] at q1
    have rp := pk_rep s1 r1 hp
    cases d with
    | lst ds =>
      obtain ⟨p, xs, rfl, h1, h2⟩ := rp
      refine ⟨p, xs, rfl, .inl h1, fun l hl => ?_⟩
      obtain ⟨s2, e2⟩ := s1.froz (o := .lst xs.reverse) hl
      exact q1 (.ref l) ρ1 _ _ e2 s2 ⟨l, _, rfl, .inl upd_same, h2.reverse.mono e2.sub⟩
    | _ => exact q1.elim
/-! ### len(set(xs)), xs a list of ints -/
def dedI (ns : List Int) : List Int := ns.foldl PyProof.Rows.step_dedup []
theorem dedI_first (ns : List Int) : PyProof.Rows.firstMet (fun i => ns.getD i 0) ns.length = dedI ns := by
  unfold PyProof.Rows.firstMet dedI
  congr 1
  refine List.ext_getElem (by simp) fun i h1 h2 => ?_
  simp at h1
  simp [List.getD_eq_getElem?_getD, List.getElem?_eq_getElem h1]
def lenSetE (f : FE) : FE := one f fun d M => match d with
  | .lst ds => match intsOf ds with
    | some ns => if ns.length ≤ 4000 then .ok (.d (.int (dedI ns).length)) M else .bad
    | none => .bad
  | _ => .bad
theorem e_lenSet {a : Expr} {f : FE} {p p2 q pos : Pos} (hg : Gl X "len") (hm : X.mg "len" = none) (hg2 : Gl X "set") (hm2 : X.mg "set" = none) (h : SE X T W a f) (hc : X.calm = true)
    (na : starEach [a] X.env = (false, eval a X.env) :: starEach [] X.env := by rfl) : SE X T W (.Call (.Name "len" p) [.Call (.Name "set" p2) [a] [] q] [] pos) (lenSetE f) := by
  obtain ⟨t, pe, h⟩ := h
  refine ⟨fun σ H Q => t σ H fun x H1 => ∃ (l : Addr) (ns : List Int), x = .ref l ∧ SqL X.K H1 l (ns.map V.int) ∧ ns.length ≤ 4000 ∧ Q (.int ((dedI ns).length : Nat)) H1, ⟨fun pins s σ H Q I hw => ?_⟩, fun σ ρ G H env M Q s ev q => ?_⟩
  · refine Call_ (ld_blt I hg hm boot_len (PyProof.Rows.callWith_builtin1 (PyProof.Rows.args_cons (Call_ (ld_blt I hg2 hm2 boot_set ?_)) rfl) rfl rfl))
    refine PyProof.Rows.callWith_type1 (PyProof.Rows.args_cons (thn (pe.run pins s σ H _ I hw) fun v s1 ⟨x, H1, I1, r1, q1⟩ => PyProof.Rows.args_nil ?_) na) na rfl
    obtain ⟨l, ns, rfl, hq, hl, q1⟩ := q1
    cases r1
    obtain ⟨its, r, pl, hz⟩ := I1.list hq
    have hlen : its.toArray.size = ns.length := by rw [List.size_toArray, ← r.length, List.length_map]
    refine call_set_list (I1.ok.hd hc) pl.isList (by simpa using RZ.intsAre_vals r) (by rw [hlen]; unfold scanBound; omega) fun h' tk hS hk => PyProof.Rows.args_nil ?_
    rw [hlen, dedI_first] at hS
    obtain ⟨o, es, ep, tb, ho, hex, hd, _, _, _, hf, hn⟩ := hS
    have hle : (dedI ns).length ≤ ns.length := by rw [← dedI_first]; exact PyProof.Rows.firstMet_length_le _ _
    have I2 : Inv X pins σ H1 { s1 with heap := h', toks := tk } := I1.kept fun b o e => hk b o (Heap.lt_size e) e
    exact call_len_set ho hex hd hf (by rw [hn]; omega) ⟨.int (dedI ns).length, H1, I2.tok _, ⟨_, by rw [hn]⟩, q1⟩
  · refine h σ ρ G H env M _ s ev (Aft.imp (Aft.bind (rel := relA X.K T) q) fun a M1 v ρ1 G1 H1 _ e1 s1 r1 q1 => ?_)
    cases hp : pk M1 a with
    | none => rw [hp] at q1; exact q1.elim
    | some d =>
      rw [hp] at q1
      have rp := pk_rep s1 r1 hp
      cases d with
      | lst ds =>
        simp only at q1
        split at q1
        · rename_i ns hi
          split at q1
          · rename_i hz
            obtain ⟨p, xs, rfl, h1, h2⟩ := rp
            have hx := intsOf_rep h2 hi
            subst hx
            exact ⟨p, ns, rfl, .inl h1, hz, q1 _ ρ1 G1 H1 (Ext.refl _ _ _) s1 rfl⟩
          · exact q1.elim
        · exact q1.elim
      | _ => exact q1.elim
end Fy

set_option maxRecDepth 100000
namespace Fy
open PySem PySem.Spec PyProof.Rows L2
theorem here_mk {K : PySem.W.Frag} {h : Heap} {mg : Str → Option Value} {x : Str} {st : Stmt} {ps : List Str} {f : Addr} {oc kV dc pm cd ct : Value} {od an : Option Addr} {sl : Array (Option Value)} (X : K.In h) (G : h.Ns mainGlobals mg)
    (a : PySem.W.nsIn K mainGlobals x = some (some (.ref f))) (l : K.lookup f = some ⟨oc, od, .func (PySem.W.fnOf x x (defArgs st) (defBody st) (defScope st) .none kV dc pm an cd ct), sl⟩)
    (c : PySem.W.codeIn K cd x = true) (k : PySem.W.keepIn K (.ref f) = true)
    (hb : ∀ (kV doc pm : Value) (an : Option Addr) (cdv ct : Value) (us : List Value), us.length = ps.length → bindArgs (PySem.W.fnOf x x (defArgs st) (defBody st) (defScope st) .none kV doc pm an cdv ct) ⟨us, []⟩ = pure (ps.zip us)) : Here K mg x st ps :=
  have F := fun_mk (st := st) l c k
  ⟨f, _, F, PySem.W.mg_of X G a, k, F.binds hb⟩
theorem none_mk {K : PySem.W.Frag} {h : Heap} {mg : Str → Option Value} {x : Str} (X : K.In h) (G : h.Ns mainGlobals mg) (a : PySem.W.nsIn K mainGlobals x = some none) : mg x = none := PySem.W.mg_none_of X G a
theorem some_mk {K : PySem.W.Frag} {h : Heap} {mg : Str → Option Value} {x : Str} {u : Value} {v : V} (X : K.In h) (G : h.Ns mainGlobals mg) (a : PySem.W.nsIn K mainGlobals x = some (some u)) (r : RelV v u) : ∃ u, mg x = some u ∧ RelV v u := ⟨u, PySem.W.mg_of X G a, r⟩
/-- the law's promise: True, of every script -/
def spLaw (K : PySem.W.Frag) : Sp := fun vs H Q _ => ∃ (a : Addr) (ns : List Int), vs = [.ref a] ∧ SqL K H a (ns.map V.int) ∧ ns.length ≤ 63 ∧ (∀ z ∈ ns, Builtin.Int.intBits z ≤ 1048576) ∧ ∀ H', Q (.bl true) H'
/-- from the law's function to its promise -/
theorem law_ok {P : Program} {w : World} {K : PySem.W.Frag} {mg : Str → Option Value} {base : Heap} {T : Tb} {k : Nat} {fa : Addr} {fd : FuncData} {ps : List Str} {F : FF} (D : FnOk P w K mg base (L2.CX P w) k fa fd ps (spF K T 1 F))
    (law : ∀ ns : List Int, ns.length ≤ 63 → (∀ z ∈ ns, Builtin.Int.intBits z ≤ 1048576) → F [.d (.scr ns)] [] = .ok (.d (.bl true)) []) : FnOk P w K mg base (L2.CX P w) k fa fd ps (spLaw K) := by
  refine D.imp fun vs H Q E h => ?_
  obtain ⟨a, ns, rfl, hS, hl, hb, q⟩ := h
  refine ⟨rfl, [], H, [.d (.scr ns)], [], ⟨Same.refl _, rfl, List.nodup_nil, fun _ h => (nomatch h), fun _ _ _ h _ => (by simp at h)⟩, ⟨_, _, rfl, ⟨a, rfl, hS⟩, rfl⟩, ?_⟩
  rw [law ns hl hb]
  intro v ρ' G' H' _ _ r
  cases r
  exact q H'
theorem cxf {P : Program} {w : World} {H : Hp} {s : Shared} {e : Value} {s' : Shared} (h : L2.CX P w [] H s (fun _ _ _ => False) e s') : False := by
  obtain ⟨_, _, _, _, _, _, _, _, _, _, _, _, z⟩ := h
  exact z
end Fy

set_option maxRecDepth 100000
namespace Fy
open PySem PySem.Spec PyProof.Rows L2
/-! ### set(xs), any items: an invariant over the table, kept by each add -/
section mk
variable {P : Program} {w : World} {A : Around} {E : Value → Shared → Prop} {s : Shared}
/-- what the new set's table keeps at turn i -/
structure SInv (P : Program) (w : World) (S : Addr) (h0 : Heap) (J : Nat → Heap → Prop) (ok : Nat → Value → Prop) (B : Around) : Prop where
  calm : ∀ i h h', J i h → (∀ o, h.get? S = some o → h'.get? S = some o) → (∀ b o, h0.get? b = some o → h'.get? b = some o) → J i h'
  add : ∀ i v (s : Shared) (E : Value → Shared → Prop) (Q : Bool → Shared → Prop), ok i v → J i s.heap → (∀ b o, h0.get? b = some o → s.heap.get? b = some o) →
    (∀ b h' tk, s.toks ≤ tk → Heap.SameBut S s.heap h' → J (i + 1) h' → Q b { s with heap := h', toks := tk }) → wpAny (model P w) B (setAdd S v) Q E s
theorem set_turns {I : Addr} {fp wr : List Addr} {G : Array GenState → Array GenState → Prop} {n : Nat} {ok : Nat → Value → Prop} {St : Nat → Shared → Prop} {R : Result → Shared → Prop} {S : Addr} {h0 : Heap} {J : Nat → Heap → Prop}
    (W : WalksS P w A.in1 I fp wr G n ok St) (out : S ∉ fp) (V : SInv P w S h0 J ok A.in1) (new : h0.get? S = none) (own : ∀ b ∈ wr, h0.get? b = none) (d i : Nat) (hd : n = i + d) (s : Shared) (st : St i s) (j : J i s.heap)
    (kp : ∀ b o, h0.get? b = some o → s.heap.get? b = some o)
    (fin : ∀ s', Moved (S :: wr) G s s' → J n s'.heap → (∀ b o, h0.get? b = some o → s'.heap.get? b = some o) → R (.ok (.ret .none)) s') : codeAny (model P w) A (.builtin "set.update.loop" ⟨[.ref S, .ref I], []⟩) R s := by
  have off : S ∉ wr := fun z => out (W.sub _ z)
  have up : ∀ {s1 s2 : Shared}, Moved wr G s1 s2 → Moved (S :: wr) G s1 s2 := fun m => m.mono fun b hb => List.mem_cons_of_mem _ hb
  have go : ∀ {s1 s2 : Shared}, Moved wr G s1 s2 → (∀ b o, h0.get? b = some o → s1.heap.get? b = some o) → ∀ b o, h0.get? b = some o → s2.heap.get? b = some o := fun m k b o z =>
    m.heap b o (fun q => by rw [own b q] at z; cases z) (k b o z)
  induction d generalizing i s with
  | zero =>
    have hn : n = i := hd
    subst hn
    refine codeAny_builtin F.entry_set_update_loop ?_
    rw [Around.under_plainId F.plain_set_update_loop _]
    show wpAny _ A.in1 (pyNext (.ref I) >>= _) _ _ s
    refine wpAny_bind (W.done s _ _ st fun s2 m => ?_)
    show wpAny _ _ (ret Value.none) _ _ _
    exact wpAny_pure (fin s2 (up m) (V.calm _ _ _ j (fun o z => m.heap S o off z) (go m kp)) (go m kp))
  | succ d more =>
    refine codeAny_builtin F.entry_set_update_loop ?_
    rw [Around.under_plainId F.plain_set_update_loop _]
    show wpAny _ A.in1 (pyNext (.ref I) >>= _) _ _ s
    refine wpAny_bind (W.item i s _ _ (by omega) st fun v s2 hv st2 m => ?_)
    have kp2 := go m kp
    have j2 := V.calm _ _ _ j (fun o z => m.heap S o off z) kp2
    show wpAny _ A.in1 (holding [v] (setAdd S v) >>= _) _ _ s2
    refine wpAny_bind (wpAny_holding (V.add i v s2 _ _ hv j2 kp2 fun b h' tk ht sb j3 => ?_))
    have kp3 : ∀ b o, h0.get? b = some o → h'.get? b = some o := fun b o z => (sb.2 b (fun q => by rw [q, new] at z; cases z)).trans (kp2 b o z)
    refine wpAny_pure ⟨plainId_quiet F.plain_set_update_loop _, more (i + 1) (by omega) _ (W.frame _ s2 _ _ st2 ht fun b hb o z => ?_) j3 kp3 fun s3 m3 j4 kp4 => ?_⟩
    · rw [sb.2 b (fun q => out (q ▸ hb))]; exact z
    · refine fin s3 (Moved.trans W.gtrans ((up m).then_heap ht fun b o hb z => ?_) m3) j4 kp4
      rw [sb.2 b (fun q => hb (q ▸ List.mem_cons_self))]; exact z
/-- the table of a set that has just been made -/
def newTab (w : World) : Obj := { cls := .type "set", dict := none, data := .set #[] 0 (.fresh 0 0 (!w.params.followText "set-order")) }
set_option maxHeartbeats 4000000 in
theorem set_of_list {l : Addr} {xs : Array Value} {J : Nat → Heap → Prop} {Q : Value → Shared → Prop} (hh : A.handled = none) (hl : s.heap.IsList l xs)
    (V : SInv P w s.heap.objs.size s.heap J (fun i v => xs[i]? = some v) A.in1.in1.in1) (begin' : ∀ h' : Heap, h'.get? s.heap.objs.size = some (newTab w) → J 0 h')
    (q : ∀ h' tk, J xs.size h' → (∀ b o, s.heap.get? b = some o → h'.get? b = some o) → Q (.ref s.heap.objs.size) { s with heap := h', toks := tk }) :
    wpAny (model P w) A (call (.type "set") [.ref l]) Q E s := by
  obtain ⟨mro1, mro2, hmro⟩ := F.called_set.mro
  have hmade := F.called_set.made
  have hsub := F.called_set.sub
  refine wpAny_call (codeAny_of_tree ?_)
  show wpAny _ _ (callAny (.type "set") _) _ _ _
  refine wpAny_pure ⟨Code.quiet_builtin _ (by decide +kernel), codeAny_builtin F.entry_type_call ?_⟩
  rw [Around.under_plain (weight_type_call_type "set" [.ref l] []) rfl]
  have hnot := F.called_set.notType
  have hcan := F.called_set.canCreate
  have hone := F.typeCall_set_1 (.ref l)
  repeat (any_goals (first | assumption | wp_step))
  refine codeAny_mono (code_set_led1 (.ref l) (E := E) (Q₁ := fun u s1 => u = .ref s.heap.objs.size ∧ s1 = { s with heap := s.heap.push (newTab w) }) ⟨rfl, rfl⟩) fun r s1 hr => ?_
  cases r with
  | error z => exact hr
  | ok z =>
    cases z with
    | ret u =>
      obtain ⟨rfl, rfl⟩ := hr
      have at0 : (s.heap.push (newTab w)).get? s.heap.objs.size = some (newTab w) := Heap.get?_push_size _ rfl
      have hT : Shared.TypeIs { s with heap := s.heap.push (newTab w) } (.ref s.heap.objs.size) "set" := ⟨_, at0, rfl⟩
      have hli := F.called_set.init.lookup
      have hbi := F.called_set.init.bind (.ref s.heap.objs.size)
      repeat (any_goals (first | assumption | wp_step))
      refine codeAny_mono (codeAny_call_builtin (R := wants (fun r s2 => r = .none ∧ ∃ h' tk, s2 = { s with heap := h', toks := tk } ∧ J xs.size h' ∧ (∀ b o, s.heap.get? b = some o → h'.get? b = some o)) E) F.called_set.init.plain F.entry_set_init (check_set_init_1 hT ?_)) fun r2 s2 hr2 => ?_
      · obtain ⟨⟨oc, od, odt, osl⟩, hol, e1, nl, e2⟩ := hl
        simp only at e1 e2
        subst e1
        subst e2
        have hol1 : (s.heap.push (newTab w)).get? l = some { cls := .type "list", dict := od, data := .seq xs nl, slots := osl } := Heap.get?_push_of_some _ hol
        have no1 := F.sub_list_set
        have no2 := F.sub_list_frozenset
        have no3 : (Value.type "list" == Value.type "dict") = false := by decide
        have hl1 : (s.heap.push (newTab w)).IsList l xs := ⟨_, hol1, rfl, nl, rfl⟩
        unfold Builtin.«set.__init__» noKeywords Builtin.Frozenset.updateFrom
        generalize hPI : pyIter = PI
        wp_walk
        subst hPI
        refine wpAny_pyIter_list hl1 (wpAny_bind (wpAny_runValue ?_))
        have lt0 : l < s.heap.objs.size := Heap.lt_size hol
        have calm : A.in1.in1.in1.handled = none := by simp [hh]
        have sz1 : (s.heap.push (newTab w)).objs.size = s.heap.objs.size + 1 := Heap.size_push ..
        have void : ∀ b, s.heap.objs.size ≤ b → s.heap.get? b = none := fun b hb => by
          cases z : s.heap.get? b with
          | none => rfl
          | some o => exact absurd (Nat.lt_of_lt_of_le (Heap.lt_size z) hb) (Nat.lt_irrefl _)
        have lI : l ≠ (s.heap.push (newTab w)).objs.size := by rw [sz1]; exact Nat.ne_of_lt (Nat.lt_succ_of_lt lt0)
        have sf : s.heap.objs.size ∉ [(s.heap.push (newTab w)).objs.size, l] := by
          rw [sz1]; simp only [List.mem_cons, List.not_mem_nil, or_false, not_or]; exact ⟨Nat.ne_of_lt (Nat.lt_succ_self _), Nat.ne_of_gt lt0⟩
        refine set_turns ((Walks.list calm _ l lI xs).toS) sf V (void _ (Nat.le_refl _)) (fun b hb => void b (by rw [List.mem_singleton.mp hb, sz1]; exact Nat.le_succ _)) xs.size 0 (by omega) _
          ⟨⟨_, Heap.get?_push_size _ rfl, rfl, rfl⟩, hl1.push _⟩ (begin' _ (Heap.get?_push_of_some _ at0)) (fun b o z => Heap.get?_push_of_some _ (Heap.get?_push_of_some _ z)) ?_
        rintro ⟨h', g', d', tk', os'⟩ m j kp
        have eg : g' = s.gens := m.gens
        have ed : d' = s.drawn := m.drawn
        have eo : os' = s.os := m.os
        subst eg
        subst ed
        subst eo
        refine wpAny_pure ?_
        show wpAny _ _ (ret Value.none) _ _ _
        exact wpAny_pure ⟨rfl, h', tk', rfl, j, kp⟩
      · cases r2 with
        | error z => exact hr2
        | ok z =>
          cases z with
          | ret r =>
            obtain ⟨rfl, h', tk, rfl, j, kp⟩ := hr2
            repeat (any_goals (first | assumption | wp_step))
            exact q h' tk j kp
          | _ => exact hr2.elim
    | _ => exact hr.elim
end mk
end Fy

set_option maxRecDepth 100000
namespace Fy
open PySem PySem.Spec PyProof.Rows L2
/-! ### sets of texts -/
def txtOf (e : Int × Value) : Str := match e.2 with | .str x _ => x | _ => default
def IsTxt (P : Program) (w : World) (e : Int × Value) : Prop := ∃ x t, e.2 = Value.str x t ∧ e.1 = (strKind P w).hash x
/-- the texts zs, each once, in some order, in a table that can be walked -/
structure Tab (P : Program) (w : World) (zs : List Str) (es : Array (Int × Value)) (t : SetTable) : Prop where
  each : ∀ e ∈ es.toList, IsTxt P w e
  are : (es.toList.map txtOf).Perm zs
  nd : zs.Nodup
  few : zs.length < scanBound
  fits : t.fits es.size = true
  ris : Ris t.place.toList
  led : w.params.followText "set-order" = true ∨ t.led = true
def TxtSet (P : Program) (w : World) (h : Heap) (a : Addr) (zs : List Str) : Prop := ∃ o es ep t, h.get? a = some o ∧ o.ExactSet ∧ o.data = .set es ep t ∧ Tab P w zs es t
section
variable {P : Program} {w : World} {A : Around} {E : Value → Shared → Prop} {s : Shared} {a : Addr} {zs : List Str}
theorem Tab.size {es : Array (Int × Value)} {t : SetTable} (T : Tab P w zs es t) : es.size = zs.length := by
  rw [← T.are.length_eq, List.length_map, Array.length_toList]
theorem Tab.elems {es : Array (Int × Value)} {t : SetTable} (T : Tab P w zs es t) : ElemsOf (strKind P w) es.toList := fun e he => by
  obtain ⟨x, tk, e1, e2⟩ := T.each e he
  exact ⟨⟨x, by rw [e1]; exact strKind_is P w x tk, e2⟩, by rw [e1] <;> rfl⟩
theorem txt_is {e : Int × Value} (g : IsTxt P w e) (x : Str) : (strKind P w).is x e.2 = true ↔ txtOf e = x := by
  obtain ⟨y, tk, e1, _⟩ := g
  have e3 : txtOf e = y := by unfold txtOf; rw [e1]
  rw [e1, e3]
  constructor
  · intro z
    exact (strKind P w).inj _ _ _ (strKind_is P w y tk) z
  · intro z
    rw [← z]
    exact strKind_is P w y tk
def addZ (zs : List Str) (x : Str) : List Str := if x ∈ zs then zs else x :: zs
/-- what is stored behind an add of something new -/
theorem Tab.stored {h : Heap} {o : Obj} {es es2 : Array (Int × Value)} {ep : Nat} {t t2 : SetTable} (ho : h.get? a = some o) (hx : o.ExactSet) (hd : o.data = .set es ep t) (T : Tab P w zs es2 t2) :
    ∃ o2, (h.update a (Obj.putSet es2 t2)).get? a = some o2 ∧ o2.ExactSet ∧ o2.data = .set es2 (ep + 1) t2 ∧ TxtSet P w (h.update a (Obj.putSet es2 t2)) a zs := by
  have q := Heap.get?_update_self (Obj.putSet es2 t2) ho (by rw [putSet_of es2 t2 hd]; rfl)
  rw [putSet_of es2 t2 hd] at q
  exact ⟨_, q, hx, rfl, _, es2, ep + 1, t2, q, hx, rfl, T⟩
theorem Tab.grown {es : Array (Int × Value)} {t : SetTable} (T : Tab P w zs es t) (k : Nat) : Tab P w zs (relayAll t es k).1 (relayAll t es k).2.1 where
  each := fun e he => T.each e ((relayAll_perm t es k).mem_iff.mp he)
  are := ((relayAll_perm t es k).map txtOf).trans T.are
  nd := T.nd
  few := T.few
  fits := relayAll_fits t es k
  ris := relayAll_ris t es k
  led := T.led.imp id fun z => (relayAll_led t es k).trans z
theorem Tab.unplain {es : Array (Int × Value)} {t : SetTable} (T : Tab P w zs es t) : Tab P w zs es { t with plain := false } where
  each := T.each
  are := T.are
  nd := T.nd
  few := T.few
  fits := SetTable.fits_plain_off T.fits
  ris := T.ris
  led := T.led
theorem store_txt {g : Bool → Sem Unit} (free : ∀ (b : Bool) (s1 : Shared) (q : Unit → Shared → Prop), q () s1 → wpAny (model P w) A (g b) q E s1) {o : Obj} {es es2 : Array (Int × Value)} {ep : Nat} {t t2 : SetTable}
    (ho : s.heap.get? a = some o) (hx : o.ExactSet) (hd : o.data = .set es ep t) (T : Tab P w zs es2 t2) {wd : Bool} {R : Option Bool → Shared → Prop} (fin : ∀ h', Heap.SameBut a s.heap h' → TxtSet P w h' a zs → R (some true) { s with heap := h' }) :
    wpAny (model P w) A (do
        storeSet a es2 t2
        if (!wd && t2.tooFull) = true then do
            g (relayAll t2 es2 (SetTable.grown es2.size)).2.2
            storeSet a (relayAll t2 es2 (SetTable.grown es2.size)).1 (relayAll t2 es2 (SetTable.grown es2.size)).2.1
            pure (some true)
          else pure (some true)) R E s := by
  obtain ⟨o2, ho2, hx2, hd2, S2⟩ := T.stored ho hx hd
  have same := Heap.SameBut.update s.heap a (Obj.putSet es2 t2)
  refine wpAny_bind (wpAny_storeSet_of ho hd ?_ (fits_of_scanBound (by rw [T.size]; exact T.few)))
  split
  · have T3 := T.grown (SetTable.grown es2.size)
    obtain ⟨o3, _, _, _, S3⟩ := T3.stored ho2 hx2 hd2
    refine wpAny_bind (free _ _ _ ?_)
    refine wpAny_bind (wpAny_storeSet_of ho2 hd2 ?_ (fits_of_scanBound (by rw [T3.size]; exact T3.few)))
    exact wpAny_pure (fin _ (same.trans (Heap.SameBut.update _ a _)) S3)
  · exact wpAny_pure (fin _ same S2)
theorem add_hashed_txt {x : Str} {tk : Tok} {Q : Bool → Shared → Prop} (R : TxtSet P w s.heap a zs) (room : zs.length + 1 < scanBound)
    (q : ∀ b h', Heap.SameBut a s.heap h' → TxtSet P w h' a (addZ zs x) → Q b { s with heap := h' }) : wpAny (model P w) A (setAddHashed a (.str x tk) ((strKind P w).hash x)) Q E s := by
  obtain ⟨o, es, ep, t, ho, hx, hd, T⟩ := R
  have own : (strKind P w).is x (.str x tk) = true := strKind_is P w x tk
  have sc : (Value.str x tk).scannable = true := rfl
  have hb : es.size < scanBound := by rw [T.size]; exact T.few
  unfold setAddHashed setAddHashedIn
  refine wpAny_holding (wpAny_bind (wpAny_setState_of ho hd T.fits ?_))
  dsimp only
  rw [byScan_of sc hb T.elems]
  simp only [↓reduceIte]
  unfold setAddByScan
  refine wpAny_bind ?_
  refine wpAny_bind (wpAny_rule ?_)
  refine wpAny_bind (wpAny_setScan_of own ho hd T.fits T.elems ?_)
  cases hf : List.findIdx? (fun e => (strKind P w).is x e.2) es.toList with
  | some j =>
    dsimp only
    obtain ⟨hj, pj, _⟩ := List.findIdx?_eq_some_iff_getElem.mp hf
    have hm : x ∈ zs := T.are.mem_iff.mp (List.mem_map.mpr ⟨es.toList[j], List.getElem_mem hj, (txt_is (T.each _ (List.getElem_mem hj)) x).1 pj⟩)
    refine wpAny_pure (wpAny_pure ?_)
    exact q _ s.heap (Heap.SameBut.refl a s.heap) ⟨o, es, ep, t, ho, hx, hd, by unfold addZ; rw [if_pos hm]; exact T⟩
  | none =>
    dsimp only
    have hm : x ∉ zs := fun z => by
      obtain ⟨e, he, e1⟩ := List.mem_map.mp (T.are.mem_iff.mpr z)
      have c := List.findIdx?_eq_none_iff.mp hf e he
      rw [(txt_is (T.each e he) x).2 e1] at c
      cases c
    have free : ∀ (b : Bool) {s1 : Shared} {q1 : Unit → Shared → Prop}, q1 () s1 → wpAny (model P w) A (match b with | true => rule "set.scan.the-table-gave-way" | false => pure ()) q1 E s1 :=
      fun b s1 q1 z => by cases b <;> first | exact wpAny_pure z | exact wpAny_rule z
    have pm := layNew_perm t es ((strKind P w).hash x) (.str x tk)
    have f1 := layNew_fits t es ((strKind P w).hash x) (.str x tk)
    have r1 := layNew_ris t es ((strKind P w).hash x) (.str x tk) T.ris
    have l1 := layNew_led t es ((strKind P w).hash x) (.str x tk)
    generalize layNew t es ((strKind P w).hash x) (.str x tk) = Z at pm f1 r1 l1 ⊢
    obtain ⟨es1, t1, wd, gave⟩ := Z
    dsimp only at pm f1 r1 l1 ⊢
    rw [Array.toList_push] at pm
    have pc : es1.toList.Perm (((strKind P w).hash x, Value.str x tk) :: es.toList) := pm.trans (List.perm_append_singleton _ _)
    have T1 : Tab P w (addZ zs x) es1 t1 := by
      unfold addZ
      rw [if_neg hm]
      exact ⟨fun e he => (List.mem_cons.mp (pc.mem_iff.mp he)).elim (fun z => by rw [z]; exact ⟨x, tk, rfl, rfl⟩) (T.each e), (pc.map txtOf).trans (T.are.cons x), List.nodup_cons.mpr ⟨hm, T.nd⟩, room, f1, r1, T.led.imp id fun z => l1.trans z⟩
    refine wpAny_bind (free _ ?_)
    split
    · refine wpAny_bind ?_
      rw [hashByValue_scannable 8 sc]
      refine wpAny_pure ?_
      refine store_txt ?_ ho hx hd (?_ : Tab P w (addZ zs x) _ _) ?_
      · intro b s1 q1 z; cases b <;> first | exact wpAny_pure z | exact wpAny_rule z
      · first | (split <;> first | exact T1 | exact T1.unplain) | exact T1
      · intro h' sb r; dsimp only; exact wpAny_pure (q true h' sb r)
    · refine wpAny_bind (wpAny_pure ?_)
      simp only [↓reduceIte]
      refine store_txt ?_ ho hx hd T1 ?_
      · intro b s1 q1 z; cases b <;> first | exact wpAny_pure z | exact wpAny_rule z
      · intro h' sb r; dsimp only; exact wpAny_pure (q true h' sb r)
theorem add_txt {x : Str} {tk : Tok} {Q : Bool → Shared → Prop} (R : TxtSet P w s.heap a zs) (room : zs.length + 1 < scanBound)
    (q : ∀ b h' tk, s.toks ≤ tk → Heap.SameBut a s.heap h' → TxtSet P w h' a (addZ zs x) → Q b { s with heap := h', toks := tk }) : wpAny (model P w) A (setAdd a (.str x tk)) Q E s := by
  unfold setAdd
  refine wpAny_holding (wpAny_bind ((strKind P w).pyHash (strKind_is P w x tk) ?_))
  exact add_hashed_txt (s := { s with toks := s.toks + 1 }) R room fun b h' sb r => q b h' _ (Nat.le_succ _) sb r
theorem TxtSet.at {h h' : Heap} (R : TxtSet P w h a zs) (k : ∀ o, h.get? a = some o → h'.get? a = some o) : TxtSet P w h' a zs := by
  obtain ⟨o, es, ep, t, ho, r⟩ := R
  exact ⟨o, es, ep, t, k o ho, r⟩
theorem TxtSet.zero {h : Heap} (ho : h.get? a = some (newTab w)) : TxtSet P w h a [] :=
  ⟨_, _, _, _, ho, ⟨rfl, rfl, rfl⟩, rfl, ⟨fun e he => by simp at he, by simp, List.nodup_nil, by decide, by rfl, List.Pairwise.nil, by
    show _ ∨ (!w.params.followText "set-order") = true
    cases w.params.followText "set-order"
    · exact .inr rfl
    · exact .inl rfl⟩⟩
def dedZ (ys : List Str) : List Str := ys.foldl addZ []
theorem addZ_len (zs : List Str) (x : Str) : (addZ zs x).length ≤ zs.length + 1 := by
  unfold addZ; split
  · omega
  · simp
theorem fold_addZ_len : ∀ (ys zs : List Str), (ys.foldl addZ zs).length ≤ zs.length + ys.length
  | [], zs => by simp
  | y :: ys, zs => by
    have := fold_addZ_len ys (addZ zs y)
    have := addZ_len zs y
    simp only [List.foldl_cons, List.length_cons]; omega
/-- set(xs), xs a list of texts -/
theorem set_of_txts {l : Addr} {xs : Array Value} {ys : List Str} {Q : Value → Shared → Prop} (hh : A.handled = none) (hl : s.heap.IsList l xs) (ht : StrsAre xs.toList ys) (few : ys.length + 1 < scanBound)
    (q : ∀ h' tk, TxtSet P w h' s.heap.objs.size (dedZ ys) → (∀ b o, s.heap.get? b = some o → h'.get? b = some o) → Q (.ref s.heap.objs.size) { s with heap := h', toks := tk }) :
    wpAny (model P w) A (call (.type "set") [.ref l]) Q E s := by
  have hlen : xs.size = ys.length := by rw [← Array.length_toList]; exact ht.length
  refine set_of_list (J := fun i h' => TxtSet P w h' s.heap.objs.size (dedZ (ys.take i))) hh hl ⟨fun i h1 h2 r k _ => r.at k, fun i v s1 E1 Q1 hv r _ q1 => ?_⟩ (fun h' z => TxtSet.zero z) fun h' tk r k => ?_
  · have hv' : xs.toList[i]? = some v := by rw [Array.getElem?_toList]; exact hv
    obtain ⟨y, tk, hy, rfl⟩ : ∃ y tk, ys[i]? = some y ∧ v = Value.str y tk := by
      clear hv q1 r hl hlen q few
      generalize xs.toList = L at ht hv'
      induction ht generalizing i with
      | nil => simp at hv'
      | cons y tk r ih =>
        cases i with
        | zero => simp at hv'; exact ⟨y, tk, rfl, hv'.symm⟩
        | succ i =>
          simp only [List.getElem?_cons_succ] at hv' ⊢
          exact ih i hv'
    have hi : i < ys.length := (List.getElem?_eq_some_iff.mp hy).1
    have e : dedZ (ys.take (i + 1)) = addZ (dedZ (ys.take i)) y := by
      unfold dedZ
      rw [List.take_succ, hy, List.foldl_append]; rfl
    refine add_txt r ?_ fun b h' tk ht sb r2 => q1 b h' tk ht sb (by rw [e]; exact r2)
    have := fold_addZ_len (ys.take i) []
    unfold dedZ
    simp only [List.length_nil, List.length_take] at this
    omega
  · rw [hlen, List.take_length] at r
    exact q h' tk r k
end
end Fy

set_option maxRecDepth 100000
namespace Fy
open PySem PySem.Spec PyProof.Rows L2
variable {X : Cx} {T : Tb} {K : PySem.W.Frag} {G H : Hp}
/-! ### sorted(xs), min(xs), max(xs): xs a list of data of one kind -/
def isT1 : D → Bool | .tup (_ :: _) => true | _ => false
def isNT : D → Bool | .int _ | .str _ | .bl _ | .lst _ => true | _ => false
def likeAll (ds : List D) : Bool := ds.all fun d => ds.all fun e => PySem.W.alike (toP d) (toP e)
def flatAll (ds : List D) : Bool := ds.all fun d => (toP d).canLay0 && decide ((toP d).depth ≤ 8)
def okSort (ds : List D) : Bool := likeAll ds && flatAll ds && (ds.all isT1 || ds.all isNT)
def ltP (a b : D) : Bool := PySem.W.dataLt (toP a) (toP b)
def leP (a b : D) : Bool := !ltP b a
def sortedD : List D → Option D
  | [.lst ds] => if okSort ds = true then some (.lst (ds.mergeSort leP)) else none
  | _ => none
theorem toPs_map : ∀ ds : List D, toPs ds = ds.map toP
  | [] => rfl
  | d :: ds => by show toP d :: toPs ds = _; rw [toPs_map ds]; rfl
theorem like_ok {ds : List D} (h : likeAll ds = true) : PySem.W.AllAlike (ds.map toP) := fun d hd e he => by
  obtain ⟨d', hd', rfl⟩ := List.mem_map.mp hd
  obtain ⟨e', he', rfl⟩ := List.mem_map.mp he
  exact List.all_eq_true.mp (List.all_eq_true.mp h d' hd') e' he'
theorem sortable_ok {ds : List D} (h : (ds.all isT1 || ds.all isNT) = true) : PySem.W.Sortable (ds.map toP) := by
  rw [Bool.or_eq_true] at h
  rcases h with h | h
  · refine .inl fun d hd => ?_
    obtain ⟨d', hd', rfl⟩ := List.mem_map.mp hd
    have q := List.all_eq_true.mp h d' hd'
    cases d' with
    | tup xs => cases xs with
      | nil => cases q
      | cons x r => exact ⟨toP x, toPs r, rfl⟩
    | _ => cases q
  · refine .inr fun d hd => ?_
    obtain ⟨d', hd', rfl⟩ := List.mem_map.mp hd
    have q := List.all_eq_true.mp h d' hd'
    cases d' <;> first | (cases q; done) | exact ⟨fun z => PyData.noConfusion z, fun _ z => PyData.noConfusion z⟩
theorem flat_lay {ds : List D} (h : flatAll ds = true) : ∀ d ∈ ds, (toP d).canLay0 = true ∧ (toP d).depth ≤ 8 := fun d hd => by
  have q := List.all_eq_true.mp h d hd
  rw [Bool.and_eq_true, decide_eq_true_eq] at q
  exact q
/-- values, their trees beside them -/
def Zs (X : Cx) (H : Hp) (ps : List (PyData × V)) : Prop := ∀ p ∈ ps, Dp X.K H p.2 p.1
def rSortD (X : Cx) : List V → Hp → VK → Prop := fun vs H Q => ∃ (a : Addr) (ps : List (PyData × V)), vs = [.ref a] ∧ SqL X.K H a (ps.map (·.2)) ∧ Zs X H ps ∧ PySem.W.AllAlike (ps.map (·.1)) ∧ PySem.W.Sortable (ps.map (·.1)) ∧ (∀ p ∈ ps, p.1.depth ≤ 8) ∧
  ∀ l, H l = none → Q (.ref l) (upd H l (.lst ((ps.mergeSort (PySem.W.dataLe false (·.1))).map (·.2))))
theorem each_of_vals {R : Value → V → Prop} : ∀ {ps : List (PyData × V)} {us : List Value}, Vals (ps.map (·.2)) us → PySem.W.EachIs (fun v p => RelV p.2 v) us ps
  | [], _, .nil => .nil
  | p :: ps, _, .cons r t => .cons r (each_of_vals (R := R) t)
theorem vals_of_each : ∀ {ps : List (PyData × V)} {us : List Value}, PySem.W.EachIs (fun v p => RelV p.2 v) us ps → Vals (ps.map (·.2)) us
  | [], _, .nil => .nil
  | p :: ps, _, .cons r t => .cons r (vals_of_each t)
theorem each_and {α β : Type} {R R' : α → β → Prop} : ∀ {as : List α} {bs : List β}, PySem.W.EachIs R as bs → (∀ a b, b ∈ bs → R a b → R' a b) → PySem.W.EachIs R' as bs
  | [], _, .nil, _ => .nil
  | a :: as, b :: bs, .cons r t, h => .cons (h a b List.mem_cons_self r) (each_and t fun a b hb => h a b (List.mem_cons_of_mem _ hb))
theorem cr_sortD (hu : X.A.units + 64 < cLine) : CallR X (.builtin "sorted") (rSortD X) := by
  intro pins s σ H vs us Q I r h
  obtain ⟨a, ps, rfl, hs, hz, hal, hk, hd, q⟩ := h
  obtain ⟨its, rv, hl, hlen⟩ := I.list hs
  rw [Vals.ref1 r]
  have e := each_of_vals (R := fun _ _ => True) rv
  refine PySem.W.sorted_data (enc := (·.1)) (R := fun v (p : PyData × V) => RelV p.2 v) hl.isList e (each_and e fun v p hp rp => Dp.reads I p.1 p.2 v (hz p hp) rp) hal hk (by rw [List.length_map] at hlen; exact hlen) (fun p hp => by have := hd p hp; omega) fun out ho eo => ?_
  obtain ⟨ep, he⟩ := PyProof.Rows.sortedAll_at s.heap its out.toArray
  refine ⟨.ref _, _, I.laid (o := .lst ((ps.mergeSort (PySem.W.dataLe false (·.1))).map (·.2))) (t' := s.toks) (fun _ _ => PyProof.Rows.sortedAll_old) (Nat.le_succ _) ⟨?_, out, ep, vals_of_each eo, he⟩, rfl, q _ (I.hok.fresh (Nat.le_succ _))⟩
  rw [List.length_map, List.length_mergeSort]
  rw [List.length_map] at hlen
  exact hlen
theorem reps_zip : ∀ {ds : List D} {xs : List V}, Reps K T G ds xs → ∀ p ∈ ds.zip xs, Rep K T G p.1 p.2
  | [], _, h, p, hp => by cases h; simp at hp
  | d :: ds, xs, ⟨x, r, e, h1, h2⟩, p, hp => by
    subst e
    rw [List.zip_cons_cons] at hp
    rcases List.mem_cons.mp hp with z | z
    · rw [z]; exact h1
    · exact reps_zip h2 p z
theorem reps_of_pairs : ∀ {ps : List (D × V)}, (∀ p ∈ ps, Rep K T G p.1 p.2) → Reps K T G (ps.map (·.1)) (ps.map (·.2))
  | [], _ => rfl
  | p :: ps, h => ⟨p.2, ps.map (·.2), rfl, h p List.mem_cons_self, reps_of_pairs fun q hq => h q (List.mem_cons_of_mem _ hq)⟩
theorem zip_fst {α β : Type} : ∀ {as : List α} {bs : List β}, as.length = bs.length → (as.zip bs).map (·.1) = as ∧ (as.zip bs).map (·.2) = bs
  | [], [], _ => ⟨rfl, rfl⟩
  | a :: as, b :: bs, h => by
    obtain ⟨h1, h2⟩ := zip_fst (as := as) (bs := bs) (by simpa using h)
    exact ⟨by rw [List.zip_cons_cons, List.map_cons, h1], by rw [List.zip_cons_cons, List.map_cons, h2]⟩
theorem dataLe_leP : PySem.W.dataLe false toP = leP := by
  funext a b
  rw [PySem.W.dataLe_eq]; rfl
theorem c_sortedD (hu : X.A.units + 64 < cLine) : CallD X T (.builtin "sorted") sortedD := by
  refine ⟨_, cr_sortD hu, fun ρ G H M ds vs z Q s rs e k => ?_⟩
  unfold sortedD at e
  split at e
  · rename_i ds
    split at e
    · rename_i ok
      cases e
      obtain ⟨v, rfl, a, xs, rfl, h1, h2⟩ := rs.one
      unfold okSort at ok
      rw [Bool.and_eq_true, Bool.and_eq_true] at ok
      have hl := h2.length
      obtain ⟨z1, z2⟩ := zip_fst hl
      refine ⟨a, (ds.zip xs).map fun p => (toP p.1, p.2), rfl, ?_, ?_, ?_, ?_, ?_, fun l hn => ?_⟩
      · rw [List.map_map]
        show SqL X.K H a ((ds.zip xs).map (·.2))
        rw [z2]; exact .inl h1
      · intro p hp
        obtain ⟨p', hp', rfl⟩ := List.mem_map.mp hp
        exact dp_of s.sub p'.1 p'.2 (flat_lay ok.1.2 p'.1 (List.of_mem_zip hp').1).1 (reps_zip h2 p' hp')
      · rw [List.map_map, show ((fun x : PyData × V => x.1) ∘ fun p : D × V => (toP p.1, p.2)) = toP ∘ (·.1) from rfl, ← List.map_map, z1]
        exact like_ok ok.1.1
      · rw [List.map_map, show ((fun x : PyData × V => x.1) ∘ fun p : D × V => (toP p.1, p.2)) = toP ∘ (·.1) from rfl, ← List.map_map, z1]
        exact sortable_ok ok.2
      · intro p hp
        obtain ⟨p', hp', rfl⟩ := List.mem_map.mp hp
        exact (flat_lay ok.1.2 p'.1 (List.of_mem_zip hp').1).2
      · have e1 : (((ds.zip xs).map fun p => (toP p.1, p.2)).mergeSort (PySem.W.dataLe false (·.1))) = ((ds.zip xs).mergeSort fun p q => leP p.1 q.1).map fun p => (toP p.1, p.2) := by
          refine (List.map_mergeSort fun a _ b _ => ?_).symm
          rw [← dataLe_leP, PySem.W.dataLe_eq, PySem.W.dataLe_eq]
        have e2 : ((ds.zip xs).mergeSort fun p q => leP p.1 q.1).map (·.1) = ds.mergeSort leP := by
          rw [List.map_mergeSort (s := leP) fun a _ b _ => rfl, z1]
        obtain ⟨s2, e3⟩ := s.froz (o := .lst ((((ds.zip xs).mergeSort fun p q => leP p.1 q.1)).map (·.2))) hn
        rw [e1, List.map_map]
        refine k (.ref l) _ _ e3 s2 ⟨l, _, rfl, .inl upd_same, ?_⟩
        rw [← e2]
        exact (reps_of_pairs fun p hp => reps_zip h2 p ((List.mergeSort_perm _ _).mem_iff.mp hp)).mono e3.sub
    · cases e
  · cases e
end Fy

set_option maxRecDepth 100000
namespace Fy
open PySem PySem.Spec PyProof.Rows L2
variable {X : Cx} {T : Tb} {W : WX} {K : PySem.W.Frag} {G H : Hp}
mutual
theorem toP_inj : ∀ (d e : D), (toP d).canLay0 = true → toP d = toP e → d = e
  | .non, e, _, h => by cases e <;> first | rfl | (simp [toP] at h; done)
  | .bl b, e, _, h => by cases e <;> first | (simp [toP] at h; done) | (simp [toP] at h; rw [h])
  | .int i, e, _, h => by cases e <;> first | (simp [toP] at h; done) | (simp [toP] at h; rw [h])
  | .str x, e, _, h => by
    cases e <;> first | (simp [toP] at h; done) | skip
    simp only [toP, PyData.str.injEq] at h
    rw [ms_inj.mp h]
  | .tup ds, e, c, h => by
    cases e <;> first | (simp [toP] at h; done) | skip
    simp only [toP, PyData.tuple.injEq] at h
    rw [toPs_inj ds _ (by simpa [toP, PyData.canLay0] using c) h]
  | .lst ds, e, c, h => by
    cases e <;> first | (simp [toP] at h; done) | skip
    simp only [toP, PyData.list.injEq] at h
    rw [toPs_inj ds _ (by simpa [toP, PyData.canLay0] using c) h]
  | .ins _ _, e, c, h => by simp [toP, PyData.canLay0] at c
  | .raw _, e, c, h => by simp [toP, PyData.canLay0] at c
  | .scr _, e, c, h => by simp [toP, PyData.canLay0] at c
theorem toPs_inj : ∀ (ds es : List D), PyData.canLayAll0 (toPs ds) = true → toPs ds = toPs es → ds = es
  | [], es, _, h => by cases es with
    | nil => rfl
    | cons => simp [toPs] at h
  | d :: ds, es, c, h => by
    cases es with
    | nil => simp [toPs] at h
    | cons e es =>
      have c' : ((toP d).canLay0 && PyData.canLayAll0 (toPs ds)) = true := by simpa [toPs, PyData.canLayAll0] using c
      rw [Bool.and_eq_true] at c'
      simp only [toPs, List.cons.injEq] at h
      rw [toP_inj d e c'.1 h.1, toPs_inj ds es c'.2 h.2]
end
def minDD (x : D) (xs : List D) : D := xs.foldl (fun a y => if ltP y a = true then y else a) x
def maxDD (x : D) (xs : List D) : D := xs.foldl (fun a y => if ltP a y = true then y else a) x
theorem minDD_toP : ∀ (xs : List D) (x : D), toP (minDD x xs) = PySem.W.minD (toP x) (xs.map toP)
  | [], _ => rfl
  | y :: ys, x => by
    have ih := minDD_toP ys (if ltP y x = true then y else x)
    show toP (minDD (if ltP y x = true then y else x) ys) = PySem.W.minD (if PySem.W.dataLt (toP y) (toP x) = true then toP y else toP x) (ys.map toP)
    rw [ih]
    unfold ltP
    split <;> rfl
theorem maxDD_toP : ∀ (xs : List D) (x : D), toP (maxDD x xs) = PySem.W.maxD (toP x) (xs.map toP)
  | [], _ => rfl
  | y :: ys, x => by
    have ih := maxDD_toP ys (if ltP x y = true then y else x)
    show toP (maxDD (if ltP x y = true then y else x) ys) = PySem.W.maxD (if PySem.W.dataLt (toP x) (toP y) = true then toP y else toP x) (ys.map toP)
    rw [ih]
    unfold ltP
    split <;> rfl
def okMin (ds : List D) : Bool := likeAll ds && flatAll ds && ds.all (fun d => match d with | .non => false | _ => true) && decide (PyData.depthAll (toPs ds) ≤ 40)
def minTD : List D → Option D
  | [.lst (d :: ds)] => if okMin (d :: ds) = true then some (minDD d ds) else none
  | _ => none
def maxTD : List D → Option D
  | [.lst (d :: ds)] => if okMin (d :: ds) = true then some (maxDD d ds) else none
  | _ => none
def rBest (X : Cx) (f : PyData → List PyData → PyData) : List V → Hp → VK → Prop := fun vs H Q => ∃ (a : Addr) (xs : List V) (d : PyData) (ds : List PyData), vs = [.ref a] ∧ SqL X.K H a xs ∧ DpAll X.K H xs (d :: ds) ∧ PySem.W.AlikeAll (d :: ds) ∧ PyData.depthAll (d :: ds) ≤ 40 ∧
  ∀ (i : Nat) x e, xs[i]? = some x → (d :: ds)[i]? = some e → e = f d ds → Q x H
theorem dpAll_get : ∀ {xs : List V} {ds : List PyData} {i : Nat} {x : V}, DpAll K H xs ds → xs[i]? = some x → ∃ d, ds[i]? = some d ∧ Dp K H x d
  | [], _, _, _, _, h => by simp at h
  | x :: xs, _, 0, y, .cons r t, h => by simp at h; rw [← h]; exact ⟨_, rfl, r⟩
  | x :: xs, _, i + 1, y, .cons r t, h => by
    obtain ⟨d, h1, h2⟩ := dpAll_get (i := i) t (by simpa using h)
    exact ⟨d, by simpa using h1, h2⟩
theorem vals_at : ∀ {xs : List V} {us : List Value} {i : Nat} {u : Value}, Vals xs us → us[i]? = some u → ∃ x, xs[i]? = some x ∧ RelV x u
  | [], _, _, _, .nil, h => by simp at h
  | x :: xs, _, 0, u, .cons r t, h => by simp at h; rw [← h]; exact ⟨x, rfl, r⟩
  | x :: xs, _, i + 1, u, .cons r t, h => by
    obtain ⟨y, h1, h2⟩ := vals_at (i := i) t (by simpa using h)
    exact ⟨y, by simpa using h1, h2⟩
theorem cr_min (hc : X.calm = true) (hu : X.A.units + 64 < cLine) : CallR X (.builtin "min") (rBest X PySem.W.minD) := by
  intro pins s σ H vs us Q I r h
  obtain ⟨a, xs, d, ds, rfl, hs, hz, hal, hd, q⟩ := h
  obtain ⟨its, rv, hl, hlen⟩ := I.list hs
  rw [Vals.ref1 r]
  obtain ⟨as, hr⟩ := Dp.readsAll I (d :: ds) xs its hz rv
  refine PySem.W.min_list_data (I.ok.hd hc) hl.isList (by simpa using hr) hal (by omega) fun i v h' tk bs hv hb k => ?_
  obtain ⟨x, hx, rx⟩ := vals_at rv (by simpa using hv)
  obtain ⟨e, he, de⟩ := dpAll_get hz hx
  obtain ⟨as2, h2⟩ := Dp.reads I e x v de rx
  exact ⟨x, H, I.kept k, rx, q i x e hx he (Reads.unique (Reads.keeps k h2) _ _ hb).1⟩
theorem cr_max (hc : X.calm = true) (hu : X.A.units + 64 < cLine) : CallR X (.builtin "max") (rBest X PySem.W.maxD) := by
  intro pins s σ H vs us Q I r h
  obtain ⟨a, xs, d, ds, rfl, hs, hz, hal, hd, q⟩ := h
  obtain ⟨its, rv, hl, hlen⟩ := I.list hs
  rw [Vals.ref1 r]
  obtain ⟨as, hr⟩ := Dp.readsAll I (d :: ds) xs its hz rv
  refine PySem.W.max_list_data (I.ok.hd hc) hl.isList (by simpa using hr) hal (by omega) fun i v h' tk bs hv hb k => ?_
  obtain ⟨x, hx, rx⟩ := vals_at rv (by simpa using hv)
  obtain ⟨e, he, de⟩ := dpAll_get hz hx
  obtain ⟨as2, h2⟩ := Dp.reads I e x v de rx
  exact ⟨x, H, I.kept k, rx, q i x e hx he (Reads.unique (Reads.keeps k h2) _ _ hb).1⟩
theorem lay_all {ds : List D} (h : flatAll ds = true) : PyData.canLayAll0 (toPs ds) = true := by
  have q := flat_lay h
  clear h
  induction ds with
  | nil => rfl
  | cons d ds ih =>
    show ((toP d).canLay0 && PyData.canLayAll0 (toPs ds)) = true
    rw [(q d List.mem_cons_self).1, ih fun e he => q e (List.mem_cons_of_mem _ he)]; rfl
theorem best_ok {f : PyData → List PyData → PyData} {g : D → List D → D} (fg : ∀ xs x, toP (g x xs) = f (toP x) (xs.map toP)) {name : String} (cr : CallR X (.builtin name) (rBest X f)) :
    CallD X T (.builtin name) (fun l => match l with | [.lst (d :: ds)] => if okMin (d :: ds) = true then some (g d ds) else none | _ => none) := by
  refine ⟨_, cr, fun ρ G H M ds vs z Q s rs e k => ?_⟩
  dsimp only at e
  split at e
  · rename_i d ds
    split at e
    · rename_i ok
      cases e
      obtain ⟨v, rfl, a, xs, rfl, h1, h2⟩ := rs.one
      unfold okMin at ok
      simp only [Bool.and_eq_true, decide_eq_true_eq] at ok
      obtain ⟨⟨⟨o1, o2⟩, o3⟩, o4⟩ := ok
      refine ⟨a, xs, toP d, toPs ds, rfl, .inl h1, dps_of s.sub (d :: ds) xs (lay_all o2) h2, ⟨?_, ?_⟩, o4, fun i x e hx he ef => ?_⟩
      · intro x hx y hy
        have t : toP d :: toPs ds = (d :: ds).map toP := by rw [toPs_map]; rfl
        rw [t] at hx hy
        exact like_ok o1 x hx y hy
      · intro x hx
        have t : toP d :: toPs ds = (d :: ds).map toP := by rw [toPs_map]; rfl
        rw [t] at hx
        obtain ⟨d', hd', rfl⟩ := List.mem_map.mp hx
        have q := List.all_eq_true.mp o3 d' hd'
        cases d' <;> first | (cases q; done) | exact fun z => PyData.noConfusion z
      · have t : toP d :: toPs ds = (d :: ds).map toP := by rw [toPs_map]; rfl
        rw [t, List.getElem?_map] at he
        cases hi : (d :: ds)[i]? with
        | none => rw [hi] at he; cases he
        | some d' =>
          rw [hi] at he
          have e1 : toP d' = e := Option.some.inj he
          obtain ⟨x', hx', rx⟩ := h2.get hi
          rw [hx] at hx'
          cases hx'
          have e2 : d' = g d ds := toP_inj _ _ (flat_lay o2 d' (List.mem_of_getElem? hi)).1 (by rw [e1, ef, fg, toPs_map])
          exact k x G H (Ext.refl ρ G H) s (by rw [← e2]; exact rx)
    · cases e
  · cases e
theorem c_minD (hc : X.calm = true) (hu : X.A.units + 64 < cLine) : CallD X T (.builtin "min") minTD := by
  have h := best_ok (X := X) (T := T) (fun xs x => minDD_toP xs x) (cr_min hc hu)
  have e : minTD = (fun l => match l with | [.lst (d :: ds)] => if okMin (d :: ds) = true then some (minDD d ds) else none | _ => none) := by
    funext l; unfold minTD; rfl
  rw [e]; exact h
theorem c_maxD (hc : X.calm = true) (hu : X.A.units + 64 < cLine) : CallD X T (.builtin "max") maxTD := by
  have h := best_ok (X := X) (T := T) (fun xs x => maxDD_toP xs x) (cr_max hc hu)
  have e : maxTD = (fun l => match l with | [.lst (d :: ds)] => if okMin (d :: ds) = true then some (maxDD d ds) else none | _ => none) := by
    funext l; unfold maxTD; rfl
  rw [e]; exact h
end Fy

set_option maxRecDepth 100000
namespace Fy
open PySem PySem.Spec PyProof.Rows L2
/-! ### sorted(set(xs)), xs a list of texts -/
section
variable {P : Program} {w : World} {A : Around} {E : Value → Shared → Prop} {s : Shared} {a : Addr} {zs : List Str}
def leStr (x y : Str) : Bool := decide (x.cps.toList ≤ y.cps.toList)
theorem dataLe_leStr : PySem.W.dataLe false PyData.str = leStr := by rw [PySem.W.dataLe_str]; rfl
theorem each_txts : ∀ {us : List Value} {ys : List Str}, us.length = ys.length → (∀ (i : Nat) u y, us[i]? = some u → ys[i]? = some y → ∃ t, u = Value.str y t) → PySem.W.EachIs (fun v y => ∃ t, v = Value.str y t) us ys
  | [], [], _, _ => .nil
  | u :: us, y :: ys, hl, h => .cons (h 0 u y rfl rfl) (each_txts (by simpa using hl) fun i u' y' h1 h2 => h (i + 1) u' y' (by simpa using h1) (by simpa using h2))
theorem sorted_txts {Q : Value → Shared → Prop} (R : TxtSet P w s.heap a zs) (hh : A.handled = none) (hu : A.units + 8 < cLine)
    (q : ∀ (h' : Heap) d p (out : List Value) c, (∀ b o, s.heap.get? b = some o → h'.get? b = some o) → s.heap.objs.size ≤ p → h'.get? p = some (seqObj "list" out.toArray c) → (∃ ys : List Str, ys.Perm zs ∧ PySem.W.EachIs (fun v y => ∃ t, v = Value.str y t) out (ys.mergeSort leStr)) →
      ∀ tk, Q (.ref p) { s with heap := h', drawn := d, toks := tk }) :
    wpAny (model P w) A (call (.builtin "sorted") [.ref a]) Q E s := by
  obtain ⟨o, es, ep, t, ho, hx, hd, T⟩ := R
  refine Calls.call_function_entry kind_sorted plain_sorted entry_sorted (args_sorted1 _) ?_
  unfold Builtin.«sorted»
  refine wpAny_bind (m := checkCount "sorted" 1 1 _) (wpAny_pure ?_)
  refine wpAny_bind (collect_set (A := A.in1) hh ⟨o, ho, hx.1, hd⟩ T.fits (by rw [T.size]; exact T.few) T.ris T.led fun s1 vs kp sz gs os pm => ?_)
  have few : zs.length < 4096 := T.few
  have hv : ∀ v ∈ vs, ∃ x tk, v = Value.str x tk := fun v hv => by
    obtain ⟨e, he, rfl⟩ := List.mem_map.mp (pm.mem_iff.mp hv)
    obtain ⟨x, tk, h1, _⟩ := T.each e he
    exact ⟨x, tk, h1⟩
  have pys : (vs.map fun v => txtOf (0, v)).Perm zs := by
    refine (pm.map _).trans ?_
    rw [List.map_map]
    exact T.are
  have len : vs.length = zs.length := by rw [← pys.length_eq, List.length_map]
  have lenL : vs.length ≤ sizeLine := by rw [len, sizeLine_eq]; omega
  have e0 : PySem.W.EachIs (fun v y => ∃ t, v = Value.str y t) vs (vs.map fun v => txtOf (0, v)) := each_txts (by rw [List.length_map]) fun i u y h1 h2 => by
    rw [List.getElem?_map, h1] at h2
    obtain ⟨x, tk, rfl⟩ := hv u (List.mem_of_getElem? h1)
    have : x = y := Option.some.inj h2
    exact ⟨tk, by rw [this]⟩
  refine wpAny_bind (wpAny_newList ?_ lenL)
  have hoL : (s1.heap.push (seqObj "list" vs.toArray 0)).get? s1.heap.objs.size = some (seqObj "list" vs.toArray 0) := Heap.get?_push_size _ rfl
  refine wpAny_bind (wpAny_holding ?_)
  refine PySem.W.list_sort_data (enc := PyData.str) hoL e0 (each_and e0 fun v y _ ⟨tk, e⟩ => ⟨[], by rw [e]; exact Reads.str _ _, List.not_mem_nil⟩) ?_ ?_ (by rw [List.length_map]; exact lenL) ?_ fun out ol oe => ?_
  · intro d hd d' hd'
    obtain ⟨y, _, rfl⟩ := List.mem_map.mp hd
    obtain ⟨y', _, rfl⟩ := List.mem_map.mp hd'
    rfl
  · exact PySem.W.Sortable.others fun y => ⟨fun z => PyData.noConfusion z, fun _ z => PyData.noConfusion z⟩
  · intro y _
    have e1 : A.in1.units ≤ A.units + 2 := by first | exact Nat.le_add_right _ _ | exact Nat.le_refl _ | (show A.units + 1 ≤ A.units + 2; omega)
    have e2 : (PyData.str y).depth ≤ 2 := by simp [PyData.depth]
    omega
  obtain ⟨c, hc⟩ := sortedHeap_at (vs := vs) (out := List.toArray out) hoL
  refine wpAny_pure ⟨_, rfl, ?_⟩
  obtain ⟨h1, g1, d1, t1, o1⟩ := s1
  have eg : g1 = s.gens := gs
  have eo : o1 = s.os := os
  subst eg
  subst eo
  refine q _ d1 _ out c (fun b u z => ?_) sz hc ⟨_, pys, by rw [← dataLe_leStr]; exact oe⟩ t1
  have z1 := kp b u z
  have lt := Heap.lt_size z1
  show (sortedHeap (h1.push (seqObj "list" vs.toArray 0)) h1.objs.size vs (List.toArray out)).get? b = some u
  rw [sortedHeap_old (Nat.ne_of_lt lt) (by rw [size_push']; exact Nat.lt_succ_of_lt lt)]
  exact Heap.get?_push_of_some _ z1
end
variable {X : Cx} {T : Tb} {W : WX} {K : PySem.W.Frag} {G H : Hp}
/-- the texts of a list, if all are -/
def txtsOf : List D → Option (List (List Nat))
  | [] => some []
  | .str x :: r => (txtsOf r).map (x :: ·)
  | _ :: _ => none
theorem txtsOf_map : ∀ {ds : List D} {xs : List (List Nat)}, txtsOf ds = some xs → ds = xs.map .str
  | [], xs, h => by cases h; rfl
  | .str x :: r, xs, h => by
    have h' : (txtsOf r).map (x :: ·) = some xs := h
    cases q : txtsOf r with
    | none => rw [q] at h'; cases h'
    | some ys => rw [q] at h'; cases h'; rw [txtsOf_map q]; rfl
  | .non :: _, _, h => by cases h
  | .bl _ :: _, _, h => by cases h
  | .int _ :: _, _, h => by cases h
  | .tup _ :: _, _, h => by cases h
  | .lst _ :: _, _, h => by cases h
  | .ins _ _ :: _, _, h => by cases h
  | .raw _ :: _, _, h => by cases h
  | .scr _ :: _, _, h => by cases h
theorem reps_txts : ∀ {xs : List (List Nat)} {vs : List V}, Reps K T G (xs.map .str) vs → vs = xs.map fun x => V.str (ms x)
  | [], vs, h => by cases h; rfl
  | x :: xs, vs, ⟨v, r, e, h1, h2⟩ => by
    cases h1
    rw [e, reps_txts h2]; rfl
theorem txts_reps : ∀ (xs : List (List Nat)), Reps K T G (xs.map .str) (xs.map fun x => V.str (ms x))
  | [] => rfl
  | x :: xs => ⟨_, _, rfl, rfl, txts_reps xs⟩
theorem vals_of_txts : ∀ (L : List (List Nat)) (out : List Value), PySem.W.EachIs (fun v y => ∃ t, v = Value.str y t) out (L.map ms) → Vals (L.map fun x => V.str (ms x)) out
  | [], _, .nil => .nil
  | y :: L, _, .cons ⟨tk, e⟩ t => .cons ⟨tk, e⟩ (vals_of_txts L _ t)
def leT (a b : List Nat) : Bool := decide (a ≤ b)
def addT (zs : List (List Nat)) (x : List Nat) : List (List Nat) := if x ∈ zs then zs else x :: zs
def dedT (xs : List (List Nat)) : List (List Nat) := xs.foldl addT []
def sortedSetE (f : FE) : FE := one f fun d M => match d with
  | .lst ds => match txtsOf ds with
    | some xs => if xs.length ≤ 4000 then .ok (.d (.lst (((dedT xs).mergeSort leT).map .str))) M else .bad
    | none => .bad
  | _ => .bad
theorem dedZ_ms (xs : List (List Nat)) : dedZ (xs.map ms) = (dedT xs).map ms := by
  have step : ∀ (zs : List (List Nat)) x, addZ (zs.map ms) (ms x) = (addT zs x).map ms := fun zs x => by
    unfold addZ addT
    have e : ms x ∈ zs.map ms ↔ x ∈ zs := ⟨fun h => by
      obtain ⟨y, hy, e⟩ := List.mem_map.mp h
      rw [ms_inj.mp e] at hy; exact hy, fun h => List.mem_map.mpr ⟨x, h, rfl⟩⟩
    by_cases h : x ∈ zs
    · rw [if_pos h, if_pos (e.mpr h)]
    · rw [if_neg h, if_neg fun z => h (e.mp z)]; rfl
  have all : ∀ (xs zs : List (List Nat)), (xs.map ms).foldl addZ (zs.map ms) = (xs.foldl addT zs).map ms := by
    intro xs
    induction xs with
    | nil => intro zs; rfl
    | cons x xs ih => intro zs; rw [List.map_cons, List.foldl_cons, List.foldl_cons, step, ih]
  exact all xs []
theorem leStr_tot (x y : Str) : (leStr x y || leStr y x) = true := by
  unfold leStr
  rw [Bool.or_eq_true, decide_eq_true_eq, decide_eq_true_eq]
  exact List.le_total _ _
theorem leStr_tr (x y z : Str) (h : leStr x y = true) (k : leStr y z = true) : leStr x z = true := by
  unfold leStr at *
  rw [decide_eq_true_eq] at *
  exact List.le_trans h k
theorem leStr_anti (x y : Str) (h : leStr x y = true) (k : leStr y x = true) : x = y := by
  unfold leStr at *
  rw [decide_eq_true_eq] at *
  exact PySem.W.str_of_cps (List.le_antisymm h k)
theorem e_sortedSet {a : Expr} {f : FE} {p p2 q pos : Pos} (hg : Gl X "sorted") (hm : X.mg "sorted" = none) (hg2 : Gl X "set") (hm2 : X.mg "set" = none) (h : SE X T W a f) (hc : X.calm = true) (hu : X.A.units + 64 < cLine)
    (na : starEach [a] X.env = (false, eval a X.env) :: starEach [] X.env) : SE X T W (.Call (.Name "sorted" p) [.Call (.Name "set" p2) [a] [] q] [] pos) (sortedSetE f) := by
  obtain ⟨t, pe, h⟩ := h
  refine ⟨fun σ H Q => t σ H fun x H1 => ∃ (l : Addr) (xs : List (List Nat)), x = .ref l ∧ SqL X.K H1 l (xs.map fun x => V.str (ms x)) ∧ xs.length ≤ 4000 ∧ ∀ p, H1 p = none → Q (.ref p) (upd H1 p (.lst (((dedT xs).mergeSort leT).map fun x => V.str (ms x)))), ⟨fun pins s σ H Q I hw => ?_⟩, fun σ ρ G H env M Q s ev q => ?_⟩
  · refine Call_ (ld_blt I hg hm boot_sorted (PyProof.Rows.callWith_builtin1 (PyProof.Rows.args_cons (Call_ (ld_blt I hg2 hm2 boot_set ?_)) rfl) rfl rfl))
    refine PyProof.Rows.callWith_type1 (PyProof.Rows.args_cons (thn (pe.run pins s σ H _ I hw) fun v s1 ⟨x, H1, I1, r1, q1⟩ => PyProof.Rows.args_nil ?_) na) na rfl
    obtain ⟨l, xs, rfl, hq, hl, q1⟩ := q1
    cases r1
    obtain ⟨its, r, pl, hz⟩ := I1.list hq
    have ht : StrsAre its.toArray.toList (xs.map ms) := by
      rw [List.toList_toArray]
      exact strsAre_of (by rw [List.map_map]; exact r)
    refine set_of_txts (I1.ok.hd hc) pl.isList ht (by rw [List.length_map]; unfold scanBound; omega) fun h' tk R kp => PyProof.Rows.args_nil ?_
    have lz : (dedZ (xs.map ms)).length ≤ xs.length := by
      have := fold_addZ_len (xs.map ms) []
      unfold dedZ
      simpa using this
    refine sorted_txts R (I1.ok.hd hc) (by omega) fun h2 d p out c k2 sz ho ⟨ys, py, oe⟩ tk2 => ?_
    have eo : ys.mergeSort leStr = ((dedT xs).mergeSort leT).map ms := by
      rw [List.map_mergeSort (s := leStr) fun a _ b _ => by unfold leT leStr; rw [ms_list, ms_list], ← dedZ_ms]
      refine ord_unique (le := leStr) leStr_anti (((List.mergeSort_perm _ _).trans py).trans (List.mergeSort_perm _ _).symm) ?_ ?_
      · exact List.pairwise_mergeSort leStr_tr leStr_tot _
      · exact List.pairwise_mergeSort leStr_tr leStr_tot _
    have lo : out.length = (dedT xs).length := by rw [oe.length, eo, List.length_map, List.length_mergeSort]
    have ld : (dedT xs).length ≤ xs.length := by
      have e := congrArg List.length (dedZ_ms xs)
      rw [List.length_map] at e
      omega
    have k3 : ∀ b u, s1.heap.get? b = some u → h2.get? b = some u := fun b u z => k2 b u (kp b u z)
    have sz1 : s1.heap.objs.size ≤ p := by
      refine Nat.le_trans ?_ sz
      have z0 : h'.get? s1.heap.objs.size ≠ none := by
        obtain ⟨o, _, _, _, ho, _⟩ := R
        rw [ho]; exact fun z => nomatch z
      cases e : h'.get? s1.heap.objs.size with
      | none => exact absurd e z0
      | some o => exact Nat.le_of_lt (Heap.lt_size e)
    have ov : Vals (((dedT xs).mergeSort leT).map fun x => V.str (ms x)) out := by
      rw [eo] at oe
      exact vals_of_txts _ _ oe
    have hn := I1.hok.fresh sz1
    have J : Inv X pins σ (upd H1 p (.lst (((dedT xs).mergeSort leT).map fun x => V.str (ms x)))) { s1 with heap := h2, drawn := d, toks := tk2 } :=
      I1.call (ch := []) (Un.laid k3 sz1 hn) (I1.hok.laid k3 sz1 ⟨by rw [List.length_map, List.length_mergeSort, sizeLine_eq]; omega, out, c, ov, ho⟩) I1.bare (fun _ z => nomatch z)
    exact ⟨.ref p, _, J, rfl, q1 p hn⟩
  · refine h σ ρ G H env M _ s ev (Aft.imp (Aft.bind (rel := relA X.K T) q) fun a M1 v ρ1 G1 H1 _ e1 s1 r1 q1 => ?_)
    cases hp : pk M1 a with
    | none => rw [hp] at q1; exact q1.elim
    | some d =>
      rw [hp] at q1
      have rp := pk_rep s1 r1 hp
      cases d with
      | lst ds =>
        dsimp only at q1
        cases ht : txtsOf ds with
        | none => rw [ht] at q1; exact q1.elim
        | some xs =>
          rw [ht] at q1
          dsimp only at q1
          obtain ⟨p, vs, rfl, h1, h2⟩ := rp
          rw [txtsOf_map ht] at h2
          have ev := reps_txts h2
          subst ev
          split at q1
          · rename_i hl
            refine ⟨p, xs, rfl, .inl h1, hl, fun l hn => ?_⟩
            obtain ⟨s2, e2⟩ := s1.froz (o := .lst (((dedT xs).mergeSort leT).map fun x => V.str (ms x))) hn
            exact q1 (.ref l) ρ1 _ _ e2 s2 ⟨l, _, rfl, .inl upd_same, txts_reps _⟩
          · exact q1.elim
      | _ => exact q1.elim
end Fy

set_option maxRecDepth 100000
namespace Fy
open PySem L2
/-! ### what the combinators tell, one step each: for simp -/
section
variable {α β : Type} {a b : A} {M : Mem} {env : Env} {f g h : FE} {c u : FB} {fa : FL} {p q : FS}
@[simp] theorem ev_bind_ok {x : α} {k : α → Mem → R β} : (R.ok x M).bind k = k x M := rfl
@[simp] theorem ev_bind_bad {k : α → Mem → R β} : (R.bad : R α).bind k = .bad := rfl
@[simp] theorem ev_bind_exc {k : α → Mem → R β} {i fs} : (R.exc i fs M : R α).bind k = .exc i fs M := rfl
@[simp] theorem ev_go_ok {x : α} {k : α → Mem → F} : (R.ok x M).go env k = k x M := rfl
@[simp] theorem ev_go_bad {k : α → Mem → F} : (R.bad : R α).go env k = .bad := rfl
@[simp] theorem ev_go_exc {k : α → Mem → F} {i fs} : (R.exc i fs M : R α).go env k = .exc i fs env M := rfl
@[simp] theorem ev_pk_d {x : D} : pk M (.d x) = some x := rfl
theorem ev_pk_l {n : Nat} {ds : List D} (h : M[n]? = some (.lst ds)) : pk M (.l n) = some (.lst ds) := by show (match M[n]? with | some (.lst ds) => some (D.lst ds) | _ => none) = _; rw [h]
@[simp] theorem ev_pk_l0 {ds : List D} {r : Mem} : pk (.lst ds :: r) (.l 0) = some (.lst ds) := rfl
@[simp] theorem ev_vr {i : Nat} : vr i env M = (match env[i]? with | some (some x) => .ok x M | _ => .bad) := rfl
@[simp] theorem ev_cn {x : D} : cn x env M = .ok (.d x) M := rfl
@[simp] theorem ev_two {k : D → D → Mem → R β} : two f g k env M = (f env M).bind fun a M1 => (g env M1).bind fun b M2 => match pk M2 a, pk M2 b with | some x, some y => k x y M2 | _, _ => .bad := rfl
@[simp] theorem ev_one {k : D → Mem → R β} : one f k env M = (f env M).bind fun a M1 => match pk M1 a with | some x => k x M1 | _ => .bad := rfl
@[simp] theorem ev_bop {op : D → D → Option D} : bop op f g env M = (f env M).bind fun a M1 => (g env M1).bind fun b M2 => match pk M2 a, pk M2 b with | some x, some y => (match op x y with | some z => .ok (.d z) M2 | none => .bad) | _, _ => .bad := rfl
@[simp] theorem ev_tst : tst f env M = (f env M).bind fun a M1 => match a with | .d (.bl b) => .ok b M1 | _ => .bad := rfl
@[simp] theorem ev_andT : andT c u env M = (c env M).bind fun b M1 => if b = true then u env M1 else .ok false M1 := rfl
@[simp] theorem ev_orT : orT c u env M = (c env M).bind fun b M1 => if b = true then .ok true M1 else u env M1 := rfl
@[simp] theorem ev_notT : notT c env M = (c env M).bind fun b M1 => .ok (!b) M1 := rfl
@[simp] theorem ev_yesT : yesT env M = .ok true M := rfl
@[simp] theorem ev_nilA : nilA env M = .ok [] M := rfl
@[simp] theorem ev_consA : consA f fa env M = (f env M).bind fun a M1 => (fa env M1).bind fun as M2 => .ok (a :: as) M2 := rfl
@[simp] theorem ev_allD_nil : allD [] = some [] := rfl
@[simp] theorem ev_allD_cons {x : D} {r : List A} : allD (.d x :: r) = (allD r).map (x :: ·) := rfl
@[simp] theorem ev_tupE : tupE fa env M = (fa env M).bind fun as M1 => match allD as with | some ds => if ds.length ≤ SZ then .ok (.d (.tup ds)) M1 else .bad | none => .bad := rfl
@[simp] theorem ev_lstE : lstE fa env M = (fa env M).bind fun as M1 => match allD as with | some ds => if ds.length ≤ SZ then .ok (.d (.lst ds)) M1 else .bad | none => .bad := rfl
@[simp] theorem ev_newE : newE fa env M = (fa env M).bind fun as M1 => match allD as with | some ds => if ds.length ≤ SZ then .ok (.l M1.length) (M1 ++ [.lst ds]) else .bad | none => .bad := rfl
@[simp] theorem ev_frz : frz f env M = (f env M).bind fun a M1 => match a with | .d x => .ok (.d x) M1 | .l n => match M1[n]? with | some (.lst ds) => .ok (.d (.lst ds)) (M1.set n .dead) | _ => .bad := rfl
@[simp] theorem ev_callE {F : FF} : callE F fa env M = (fa env M).bind fun as M1 => F as M1 := rfl
theorem ev_arity {n : Nat} {F : FF} {as : List A} (h : as.length = n) : arity n F as M = F as M := if_pos h
@[simp] theorem ev_arity0 {F : FF} : arity 0 F [] M = F [] M := rfl
@[simp] theorem ev_arity1 {F : FF} : arity 1 F [a] M = F [a] M := rfl
@[simp] theorem ev_arity2 {F : FF} : arity 2 F [a, b] M = F [a, b] M := rfl
@[simp] theorem ev_arity3 {F : FF} {c : A} : arity 3 F [a, b, c] M = F [a, b, c] M := rfl
@[simp] theorem ev_arity4 {F : FF} {c d : A} : arity 4 F [a, b, c, d] M = F [a, b, c, d] M := rfl
@[simp] theorem ev_arity5 {F : FF} {c d e : A} : arity 5 F [a, b, c, d, e] M = F [a, b, c, d, e] M := rfl
@[simp] theorem ev_pkAll_nil : pkAll M [] = some [] := rfl
@[simp] theorem ev_pkAll_cons {r : List A} : pkAll M (a :: r) = (pk M a).bind fun d => (pkAll M r).map (d :: ·) := rfl
@[simp] theorem ev_bifE {op : List D → Option D} : bifE op fa env M = (fa env M).bind fun as M1 => match (pkAll M1 as).bind op with | some z => .ok (.d z) M1 | none => .bad := rfl
@[simp] theorem ev_nxS : nxS env M = .nx env M := rfl
@[simp] theorem ev_seqS : seqS p q env M = (match p env M with | .nx env1 M1 => q env1 M1 | .rt a M1 => .rt a M1 | .bk env1 M1 => .bk env1 M1 | .ct env1 M1 => .ct env1 M1 | .exc k fs env1 M1 => .exc k fs env1 M1 | .bad => .bad) := rfl
@[simp] theorem ev_retS : retS f env M = (f env M).go env fun a M1 => .rt a M1 := rfl
@[simp] theorem ev_retN : retN env M = .rt (.d .non) M := rfl
@[simp] theorem ev_dropS : dropS f env M = (f env M).go env fun _ M1 => .nx env M1 := rfl
@[simp] theorem ev_setS {i : Nat} : setS i f env M = (f env M).go env fun a M1 => .nx (env.set i (some a)) M1 := rfl
@[simp] theorem ev_ifS : ifS c p q env M = (c env M).go env fun b M1 => if b = true then p env M1 else q env M1 := rfl
@[simp] theorem ev_bkS : bkS env M = .bk env M := rfl
@[simp] theorem ev_ctS : ctS env M = .ct env M := rfl
@[simp] theorem ev_tgN {i : Nat} : tgN i a env = some (env.set i (some a)) := rfl
@[simp] theorem ev_tgNil : tgNil [] env = some env := rfl
@[simp] theorem ev_tgCons {t : FG} {k : List D → Env → Option Env} {d : D} {ds : List D} : tgCons t k (d :: ds) env = (t (.d d) env).bind fun env1 => k ds env1 := rfl
@[simp] theorem ev_tgT {k : List D → Env → Option Env} {ds : List D} : tgT k (.d (.tup ds)) env = k ds env := rfl
@[simp] theorem ev_asgS {t : FG} : asgS t f env M = (f env M).go env fun a M1 => match t a env with | some env1 => .nx env1 M1 | none => .bad := rfl
@[simp] theorem ev_parS {i j : Nat} : parS i j f g env M = ((f env M).bind fun a M1 => (g env M1).bind fun b M2 => .ok (a, b) M2).go env fun p M2 => .nx ((env.set i (some p.1)).set j (some p.2)) M2 := rfl
@[simp] theorem ev_forS {it : FI} {t : FG} : forS it t p env M = (it env M).go env fun ds M1 => loopS t p ds env M1 := rfl
@[simp] theorem ev_itemsI : itemsI f env M = (f env M).bind fun a M1 => match a with | .d (.lst ds) => .ok ds M1 | .d (.tup ds) => .ok ds M1 | _ => .bad := rfl
@[simp] theorem ev_signsI : signsI f env M = (f env M).bind fun a M1 => match a with | .d (.str l) => .ok (l.map fun c => .str [c]) M1 | _ => .bad := rfl
@[simp] theorem ev_rangeI1 : rangeI1 f env M = (f env M).bind fun a M1 => match a with | .d (.int j) => if smI j = true then .ok (rng 0 j.toNat) M1 else .bad | _ => .bad := rfl
@[simp] theorem ev_rangeI2 : rangeI2 f g env M = (f env M).bind fun a M1 => (g env M1).bind fun b M2 => match a, b with | .d (.int i), .d (.int j) => if smI i = true ∧ smI j = true then .ok (rng i (j - i).toNat) M2 else .bad | _, _ => .bad := rfl
@[simp] theorem ev_enumI : enumI f env M = (f env M).bind fun a M1 => match a with | .d (.lst ds) => .ok (enumD ds) M1 | _ => .bad := rfl
@[simp] theorem ev_zipI : zipI f g env M = (f env M).bind fun a M1 => (g env M1).bind fun b M2 => match a, b with | .d (.lst ds), .d (.lst es) => .ok (zipD ds es) M2 | .d (.tup ds), .d (.tup es) => .ok (zipD ds es) M2 | _, _ => .bad := rfl
@[simp] theorem ev_wipe_nil : wipeE env [] = env := rfl
@[simp] theorem ev_wipe_cons {v : Nat} {vs : List Nat} : wipeE env (v :: vs) = (wipeE env vs).set v none := rfl
theorem ev_compE {it : FI} {t : FG} {vs : List Nat} : compE it t c f vs env M = (it env M).bind fun ds M1 => if ds.length ≤ SZ then (compL t c f (wipeE env vs) ds [] M1).bind fun acc M2 => .ok (.d (.lst acc)) M2 else .bad := rfl
@[simp] theorem ev_ixE : ixE f g env M = (f env M).bind fun a M1 => (g env M1).bind fun b M2 => match pk M2 a, pk M2 b with | some x, some y => (match ixD x y with | some z => .ok (.d z) M2 | none => .bad) | _, _ => .bad := rfl
@[simp] theorem ev_noO : noO env M = .ok none M := rfl
@[simp] theorem ev_soO : soO f env M = (f env M).bind fun a M1 => match a with | .d (.int i) => .ok (some i) M1 | _ => .bad := rfl
@[simp] theorem ev_slE {l k : FO} : slE f l k env M = (f env M).bind fun a M1 => (l env M1).bind fun lo M2 => (k env M2).bind fun hi M3 => match (pk M3 a).bind fun x => slD x lo hi with | some z => .ok (.d z) M3 | none => .bad := rfl
@[simp] theorem ev_isiE {b : Bt} : isiE b f env M = (f env M).bind fun a M1 => match pk M1 a with | some d => (match isB b d with | some r => .ok (.d (.bl r)) M1 | none => .bad) | _ => .bad := rfl
@[simp] theorem ev_isiE2 {b c : Bt} : isiE2 b c f env M = (f env M).bind fun a M1 => match pk M1 a with | some d => (match isE2 b c d with | some r => .ok (.d (.bl r)) M1 | none => .bad) | _ => .bad := rfl
@[simp] theorem ev_negE : negE f env M = (f env M).bind fun a M1 => match pk M1 a with | some (.int i) => .ok (.d (.int (-i))) M1 | some _ => .bad | _ => .bad := by
  show ((f env M).bind fun a M1 => match pk M1 a with | some x => (match x with | .int i => R.ok (A.d (.int (-i))) M1 | _ => .bad) | _ => .bad) = _
  congr 1; funext a M1
  cases pk M1 a with
  | none => rfl
  | some d => cases d <;> rfl
@[simp] theorem ev_ifE : ifE c f g env M = (c env M).bind fun b M1 => if b = true then f env M1 else g env M1 := rfl
@[simp] theorem ev_andE : andE f g env M = (f env M).bind fun a M1 => match a with | .d (.bl true) => g env M1 | .d (.bl false) => .ok (.d (.bl false)) M1 | _ => .bad := rfl
@[simp] theorem ev_orE : orE f g env M = (f env M).bind fun a M1 => match a with | .d (.bl false) => g env M1 | .d (.bl true) => .ok (.d (.bl true)) M1 | _ => .bad := rfl
@[simp] theorem ev_notE : notE f env M = (f env M).bind fun a M1 => match a with | .d (.bl b) => .ok (.d (.bl (!b))) M1 | _ => .bad := rfl
theorem ev_setIx : setIx f g h env M = ((h env M).bind fun v M1 => (f env M1).bind fun o M2 => (g env M2).bind fun i M3 => match v, o, i with
  | .d x, .l n, .d (.int k) => match M3[n]? with
    | some (.lst ds) => match ixN ds.length k with
      | some j => .ok () (M3.set n (.lst (ds.set j x)))
      | none => .bad
    | _ => .bad
  | _, _, _ => .bad).go env fun _ M4 => .nx env M4 := rfl
end
/-! operators -/
section
variable {i j : Int} {x y : List Nat} {ds es : List D}
@[simp] theorem ev_add : addD (.int i) (.int j) = some (.int (i + j)) := rfl
@[simp] theorem ev_sub : subD (.int i) (.int j) = some (.int (i - j)) := rfl
theorem ev_mul (h : i.natAbs < 2 ^ 63 ∨ j.natAbs < 2 ^ 63 ∨ i.natAbs.log2 + j.natAbs.log2 < 1000000) : mulD (.int i) (.int j) = some (.int (i * j)) := by
  have e : mulC i j = true := by
    unfold mulC
    simp only [Bool.or_eq_true, decide_eq_true_eq]
    exact h
  unfold mulD intOp
  simp only [e, if_pos]
  rfl
theorem ev_fdiv (h : 0 < j) (k : j < 1073741824) : fdivD (.int i) (.int j) = some (.int (i / j)) := by
  have k2 : j.natAbs < 1073741824 := by omega
  unfold fdivD intOp divC
  simp [h, k2]
theorem ev_mod (h : 0 < j) : modD (.int i) (.int j) = some (.int (i % j)) := by
  unfold modD intOp
  simp [h]
@[simp] theorem ev_lt : ltD (.int i) (.int j) = some (.bl (decide (i < j))) := rfl
@[simp] theorem ev_le : leD (.int i) (.int j) = some (.bl (decide (i ≤ j))) := rfl
@[simp] theorem ev_gt : gtD (.int i) (.int j) = some (.bl (decide (j < i))) := rfl
@[simp] theorem ev_ge : geD (.int i) (.int j) = some (.bl (decide (j ≤ i))) := rfl
@[simp] theorem ev_eq : eqD (.int i) (.int j) = some (.bl (decide (i = j))) := rfl
@[simp] theorem ev_ne : neD (.int i) (.int j) = some (.bl (!decide (i = j))) := rfl
@[simp] theorem ev_eqs : eqD (.str x) (.str y) = some (.bl (decide (x = y))) := rfl
@[simp] theorem ev_nes : neD (.str x) (.str y) = some (.bl (!decide (x = y))) := rfl
@[simp] theorem ev_eqb {x y : Bool} : eqD (.bl x) (.bl y) = some (.bl (decide (x = y))) := rfl
@[simp] theorem ev_neb {x y : Bool} : neD (.bl x) (.bl y) = some (.bl (!decide (x = y))) := rfl
theorem ev_adds (h : x.length + y.length ≤ SZ) : addD (.str x) (.str y) = some (.str (x ++ y)) := by
  show ((if x.length + y.length ≤ SZ then some (D.str (x ++ y)) else none) : Option D).or _ = _
  rw [if_pos h]; rfl
theorem ev_addl (h : ds.length + es.length ≤ SZ) : addD (.lst ds) (.lst es) = some (.lst (ds ++ es)) := by
  show ((if ds.length + es.length ≤ SZ then some (D.lst (ds ++ es)) else none) : Option D).or _ = _
  rw [if_pos h]; rfl
theorem ev_muls (hk : smI i = true) (h : x.length * i.toNat ≤ SZ) : mulD (.str x) (.int i) = some (.str (List.replicate i.toNat x).flatten) := by
  show (if smI i = true ∧ x.length * i.toNat ≤ SZ then some (D.str (List.replicate i.toNat x).flatten) else none) = _
  rw [if_pos ⟨hk, h⟩]
theorem ev_sl_s {lo hi : Option Int} (h : x.length ≤ SZ) : slD (.str x) lo hi = some (.str (cutL x lo hi)) := if_pos h
@[simp] theorem ev_len_l : lenD [.lst ds] = some (.int ds.length) := rfl
@[simp] theorem ev_len_t : lenD [.tup ds] = some (.int ds.length) := rfl
theorem ev_len_s (h : x.length ≤ SZ) : lenD [.str x] = some (.int x.length) := if_pos h
@[simp] theorem ev_int : intD [.int i] = some (.int i) := rfl
@[simp] theorem ev_intb {b : Bool} : intD [.bl b] = some (.int (if b = true then 1 else 0)) := rfl
@[simp] theorem ev_abs : absD [.int i] = some (.int (if i < 0 then -i else i)) := rfl
theorem atI_nat {α : Type} {xs : List α} {k : Nat} (h : k < xs.length) : atI xs (k : Int) = xs[k]? := by
  unfold atI ixN
  rw [if_pos (by omega), if_pos (by omega)]
  simp
theorem ixN_nat {n k : Nat} (h : k < n) : ixN n (k : Int) = some k := by
  unfold ixN
  rw [if_pos (by omega), if_pos (by omega)]
  simp
@[simp] theorem ev_ix_l : ixD (.lst ds) (.int i) = atI ds i := rfl
@[simp] theorem ev_ix_t : ixD (.tup ds) (.int i) = atI ds i := rfl
theorem ev_ix_s (h : x.length ≤ SZ) : ixD (.str x) (.int i) = (atI x i).map fun c => .str [c] := if_pos h
end
end Fy

set_option maxRecDepth 100000
namespace Fy
open PySem L2
/-! ### loops and comprehensions, by what each turn does -/
theorem comp_pure {t : FG} {c : FB} {el : FE} {envw : Env} {M : Mem} (q : D → Bool) (f : D → D) : ∀ (ds : List D), (∀ d ∈ ds, ∃ env1, t (.d d) envw = some env1 ∧ c env1 M = .ok (q d) M ∧ (q d = true → el env1 M = .ok (.d (f d)) M)) →
    ∀ acc, compL t c el envw ds acc M = .ok (acc ++ (ds.filter q).map f) M
  | [], _, acc => by show R.ok acc M = _; simp
  | d :: ds, h, acc => by
    obtain ⟨env1, h1, h2, h3⟩ := h d List.mem_cons_self
    have ih := comp_pure q f ds fun e he => h e (List.mem_cons_of_mem _ he)
    unfold compL
    rw [h1]
    dsimp only
    rw [h2]
    show (if q d = true then _ else _) = _
    cases e : q d with
    | true =>
      rw [if_pos rfl, h3 e]
      show compL t c el envw ds (acc ++ [f d]) M = _
      rw [ih]
      simp [e]
    | false =>
      rw [if_neg Bool.false_ne_true, ih]
      simp [e]
theorem compE_pure {it : FI} {t : FG} {c : FB} {el : FE} {vs : List Nat} {env : Env} {M M1 : Mem} {ds : List D} (q : D → Bool) (f : D → D) (hi : it env M = .ok ds M1) (hl : ds.length ≤ SZ)
    (h : ∀ d ∈ ds, ∃ env1, t (.d d) (wipeE env vs) = some env1 ∧ c env1 M1 = .ok (q d) M1 ∧ (q d = true → el env1 M1 = .ok (.d (f d)) M1)) : compE it t c el vs env M = .ok (.d (.lst ((ds.filter q).map f))) M1 := by
  rw [ev_compE, hi]
  show (if ds.length ≤ SZ then _ else _) = _
  rw [if_pos hl, comp_pure q f ds h]
  simp
/-- all of them taken -/
theorem compE_map {it : FI} {t : FG} {el : FE} {vs : List Nat} {env : Env} {M M1 : Mem} {ds : List D} (f : D → D) (hi : it env M = .ok ds M1) (hl : ds.length ≤ SZ)
    (h : ∀ d ∈ ds, ∃ env1, t (.d d) (wipeE env vs) = some env1 ∧ el env1 M1 = .ok (.d (f d)) M1) : compE it t yesT el vs env M = .ok (.d (.lst (ds.map f))) M1 := by
  rw [compE_pure (fun _ => true) f hi hl fun d hd => by
    obtain ⟨env1, h1, h2⟩ := h d hd
    exact ⟨env1, h1, rfl, fun _ => h2⟩]
  rw [List.filter_eq_self.mpr fun _ _ => rfl]
/-- each turn may change the memory -/
theorem comp_mem {t : FG} {el : FE} {envw : Env} (PM : Mem → Prop) (Px : D → Prop) : ∀ (ds : List D), (∀ d ∈ ds, ∀ M, PM M → ∃ env1 x M1, t (.d d) envw = some env1 ∧ el env1 M = .ok (.d x) M1 ∧ Px x ∧ PM M1) →
    ∀ acc M, PM M → ∃ xs M', compL t yesT el envw ds acc M = .ok (acc ++ xs) M' ∧ xs.length = ds.length ∧ (∀ x ∈ xs, Px x) ∧ PM M'
  | [], _, acc, M, hM => ⟨[], M, (by show R.ok acc M = _; simp), rfl, (fun x hx => absurd hx List.not_mem_nil), hM⟩
  | d :: ds, h, acc, M, hM => by
    obtain ⟨env1, x, M1, h1, h2, h3, h4⟩ := h d List.mem_cons_self M hM
    obtain ⟨xs, M', e, hl, hx, hm⟩ := comp_mem PM Px ds (fun e he => h e (List.mem_cons_of_mem _ he)) (acc ++ [x]) M1 h4
    refine ⟨x :: xs, M', ?_, by simp [hl], fun y hy => ?_, hm⟩
    · unfold compL
      rw [h1]
      show (R.ok true M).bind _ = _
      show ((el env1 M).nox.bind _) = _
      rw [h2]
      show compL t yesT el envw ds (acc ++ [x]) M1 = _
      rw [e]
      simp
    · rcases List.mem_cons.mp hy with z | z
      · rw [z]; exact h3
      · exact hx y z
theorem compE_mem {it : FI} {t : FG} {el : FE} {vs : List Nat} {env : Env} {M M1 : Mem} {ds : List D} (PM : Mem → Prop) (Px : D → Prop) (hi : it env M = .ok ds M1) (hl : ds.length ≤ SZ) (hM : PM M1)
    (h : ∀ d ∈ ds, ∀ M, PM M → ∃ env1 x M1, t (.d d) (wipeE env vs) = some env1 ∧ el env1 M = .ok (.d x) M1 ∧ Px x ∧ PM M1) :
    ∃ xs M', compE it t yesT el vs env M = .ok (.d (.lst xs)) M' ∧ xs.length = ds.length ∧ (∀ x ∈ xs, Px x) ∧ PM M' := by
  obtain ⟨xs, M', e, r⟩ := comp_mem PM Px ds h [] M1 hM
  refine ⟨xs, M', ?_, r⟩
  rw [ev_compE, hi]
  show (if ds.length ≤ SZ then _ else _) = _
  rw [if_pos hl, e]
  rfl
theorem loop_inv {g : FG} {p : FS} (I : Nat → Env → Mem → Prop) : ∀ (ds : List D) (k : Nat), (∀ i d env M, ds[i]? = some d → I (k + i) env M → ∃ env1 env2 M2, g (.d d) env = some env1 ∧ (p env1 M = .nx env2 M2 ∨ p env1 M = .ct env2 M2) ∧ I (k + i + 1) env2 M2) →
    ∀ env M, I k env M → ∃ env' M', loopS g p ds env M = .nx env' M' ∧ I (k + ds.length) env' M'
  | [], k, _, env, M, h0 => ⟨env, M, rfl, h0⟩
  | d :: ds, k, h, env, M, h0 => by
    obtain ⟨env1, env2, M2, h1, h2, h3⟩ := h 0 d env M rfl h0
    obtain ⟨env', M', e, r⟩ := loop_inv I ds (k + 1) (fun i d env M hi hI => by
      have q := h (i + 1) d env M (by simpa using hi) (by rw [show k + (i + 1) = k + 1 + i by omega]; exact hI)
      rw [show k + (i + 1) + 1 = k + 1 + i + 1 by omega] at q
      exact q) env2 M2 h3
    refine ⟨env', M', ?_, by rw [List.length_cons, show k + (ds.length + 1) = k + 1 + ds.length by omega]; exact r⟩
    unfold loopS
    rw [h1]
    dsimp only
    rcases h2 with h2 | h2 <;> rw [h2] <;> exact e
/-- a loop as a fold over a state -/
theorem loop_fold {σ : Type} {g : FG} {p : FS} (E : σ → Env) (Mf : σ → Mem) (step : σ → D → σ) (I : σ → Prop) : ∀ (ds : List D), (∀ s d, d ∈ ds → I s → I (step s d) ∧ ∃ env1, g (.d d) (E s) = some env1 ∧ (p env1 (Mf s) = .nx (E (step s d)) (Mf (step s d)) ∨ p env1 (Mf s) = .ct (E (step s d)) (Mf (step s d)))) →
    ∀ s, I s → loopS g p ds (E s) (Mf s) = .nx (E (ds.foldl step s)) (Mf (ds.foldl step s)) ∧ I (ds.foldl step s)
  | [], _, s, h0 => ⟨rfl, h0⟩
  | d :: ds, h, s, h0 => by
    obtain ⟨h1, env1, h2, h3⟩ := h s d List.mem_cons_self h0
    have ih := loop_fold E Mf step I ds (fun s e he => h s e (List.mem_cons_of_mem _ he)) (step s d) h1
    refine ⟨?_, ih.2⟩
    unfold loopS
    rw [h2]
    dsimp only
    rcases h3 with h3 | h3 <;> rw [h3] <;> exact ih.1
theorem while_inv {c : FB} {p : FS} (I : Nat → Env → Mem → Prop) (Z : Env → Mem → Prop) (h : ∀ k env M, I k env M → (c env M = .ok false M ∧ Z env M) ∨ (c env M = .ok true M ∧ ∃ env2 M2 k', k' < k ∧ (p env M = .nx env2 M2 ∨ p env M = .ct env2 M2) ∧ I k' env2 M2)) :
    ∀ n k env M, k < n → I k env M → ∃ env' M', whileS c p n env M = .nx env' M' ∧ Z env' M'
  | 0, _, _, _, hk, _ => absurd hk (Nat.not_lt_zero _)
  | n + 1, k, env, M, hk, h0 => by
    rcases h k env M h0 with ⟨h1, h2⟩ | ⟨h1, env2, M2, k', hk', h2, h3⟩
    · refine ⟨env, M, ?_, h2⟩
      unfold whileS
      rw [h1]; rfl
    · obtain ⟨env', M', e, r⟩ := while_inv I Z h n k' env2 M2 (by omega) h3
      refine ⟨env', M', ?_, r⟩
      unfold whileS
      rw [h1]
      rw [ev_go_ok, if_pos rfl]
      rcases h2 with h2 | h2
      · rw [h2]; exact e
      · rw [h2]; exact e
/-! ranges -/
theorem rng_nat (a n : Nat) : rng (a : Int) n = (List.range n).map fun i => D.int ((a + i : Nat) : Int) := by
  unfold rng
  exact List.map_congr_left fun i _ => by simp
theorem rng_at {a : Int} {n i : Nat} {d : D} (h : (rng a n)[i]? = some d) : i < n ∧ d = .int (a + i) := by
  unfold rng at h
  rw [List.getElem?_map] at h
  cases q : (List.range n)[i]? with
  | none => rw [q] at h; cases h
  | some j =>
    rw [q] at h
    obtain ⟨h1, h2⟩ := List.getElem?_eq_some_iff.mp q
    rw [List.length_range] at h1
    rw [List.getElem_range] at h2
    exact ⟨h1, by rw [h2]; exact (Option.some.inj h).symm⟩
theorem rng_mem {a : Int} {n : Nat} {d : D} (h : d ∈ rng a n) : ∃ i, i < n ∧ d = .int (a + (i : Nat)) := by
  obtain ⟨i, hi⟩ := List.mem_iff_getElem?.mp h
  obtain ⟨h1, h2⟩ := rng_at hi
  exact ⟨i, h1, h2⟩
theorem range1_at {f : FE} {env : Env} {M M1 : Mem} {n : Nat} (hf : f env M = .ok (.d (.int (n : Int))) M1) (hn : n < 1000000000) : rangeI1 f env M = .ok (rng 0 n) M1 := by
  unfold rangeI1
  rw [hf, ev_bind_ok]
  dsimp only
  rw [if_pos (smI_of (by omega) (by omega)), Int.toNat_natCast]
theorem range2_at {f g : FE} {env : Env} {M M1 M2 : Mem} {i j : Int} (hf : f env M = .ok (.d (.int i)) M1) (hg : g env M1 = .ok (.d (.int j)) M2) (hi : -1000000000 < i ∧ i < 1000000000) (hj : -1000000000 < j ∧ j < 1000000000) : rangeI2 f g env M = .ok (rng i (j - i).toNat) M2 := by
  unfold rangeI2
  rw [hf, ev_bind_ok, hg, ev_bind_ok]
  dsimp only
  rw [if_pos ⟨smI_of hi.1 hi.2, smI_of hj.1 hj.2⟩]
/-! statements, one at a time -/
section
variable {p q : FS} {env env1 : Env} {M M1 : Mem} {r : F} {a : A} {c : FB} {f : FE} {i : Nat}
theorem seq_nx (h : p env M = .nx env1 M1) (k : q env1 M1 = r) : seqS p q env M = r := by rw [ev_seqS, h]; exact k
theorem seq_rt (h : p env M = .rt a M1) : seqS p q env M = .rt a M1 := by rw [ev_seqS, h]
theorem for_at {it : FI} {g : FG} {ds : List D} (hi : it env M = .ok ds M1) (hl : loopS g p ds env M1 = r) : forS it g p env M = r := by rw [ev_forS, hi]; exact hl
theorem set_at (h : f env M = .ok a M1) : setS i f env M = .nx (env.set i (some a)) M1 := by rw [ev_setS, h]; rfl
theorem ret_at (h : f env M = .ok a M1) : retS f env M = .rt a M1 := by rw [ev_retS, h]; rfl
theorem drop_at (h : f env M = .ok a M1) : dropS f env M = .nx env M1 := by rw [ev_dropS, h]; rfl
theorem if_t (h : c env M = .ok true M1) (k : p env M1 = r) : ifS c p q env M = r := by rw [ev_ifS, h, ev_go_ok, if_pos rfl]; exact k
theorem if_f (h : c env M = .ok false M1) (k : q env M1 = r) : ifS c p q env M = r := by rw [ev_ifS, h, ev_go_ok, if_neg Bool.false_ne_true]; exact k
theorem def_rt {n : Nat} {as : List A} {x : D} (h : p (env0 n as) M = .rt (.d x) M1) : defF n p as M = .ok (.d x) (M1.take M.length) := by unfold defF; rw [h]; rfl
theorem def_nx {n : Nat} {as : List A} (h : p (env0 n as) M = .nx env1 M1) : defF n p as M = .ok (.d .non) (M1.take M.length) := by unfold defF; rw [h]; rfl
theorem def_rt1 {n : Nat} {as : List A} {x : D} (h : p (env0 n as) M = .rt (.d x) M) : defF n p as M = .ok (.d x) M := by rw [def_rt h, List.take_length]
theorem def_nx1 {n : Nat} {as : List A} (h : p (env0 n as) M = .nx env1 M) : defF n p as M = .ok (.d .non) M := by rw [def_nx h, List.take_length]
theorem call_at {F : FF} {fa : FL} {as : List A} {x : R A} (h : fa env M = .ok as M1) (k : F as M1 = x) : callE F fa env M = x := by rw [ev_callE, h]; exact k
theorem items_at {ds : List D} (h : f env M = .ok (.d (.lst ds)) M1) : itemsI f env M = .ok ds M1 := by rw [ev_itemsI, h]; rfl
theorem itemsT_at {ds : List D} (h : f env M = .ok (.d (.tup ds)) M1) : itemsI f env M = .ok ds M1 := by rw [ev_itemsI, h]; rfl
end
/-! expressions, one at a time -/
section
variable {f g h : FE} {env : Env} {M M1 M2 M3 : Mem} {a a2 a3 : A} {x y z : D} {c u : FB} {r : R Bool}
theorem bop_at {op : D → D → Option D} (hf : f env M = .ok (.d x) M1) (hg : g env M1 = .ok (.d y) M2) (e : op x y = some z) : bop op f g env M = .ok (.d z) M2 := by
  rw [ev_bop, hf, ev_bind_ok, hg, ev_bind_ok]; simp only [ev_pk_d, e]
theorem bif1_at {op : List D → Option D} (hf : f env M = .ok a M1) (hx : pk M1 a = some x) (e : op [x] = some z) : bifE op (consA f nilA) env M = .ok (.d z) M1 := by
  rw [ev_bifE, ev_consA, hf]; simp [hx, e]
theorem bif2_at {op : List D → Option D} (hf : f env M = .ok (.d x) M1) (hg : g env M1 = .ok (.d y) M2) (e : op [x, y] = some z) : bifE op (consA f (consA g nilA)) env M = .ok (.d z) M2 := by
  rw [ev_bifE, ev_consA, hf, ev_bind_ok, ev_consA, hg]; simp [e]
theorem ix_at (hf : f env M = .ok a M1) (hg : g env M1 = .ok (.d y) M2) (hx : pk M2 a = some x) (e : ixD x y = some z) : ixE f g env M = .ok (.d z) M2 := by
  rw [ev_ixE, hf, ev_bind_ok, hg, ev_bind_ok, hx]; simp [e]
theorem so_at {i : Int} (hf : f env M = .ok (.d (.int i)) M1) : soO f env M = .ok (some i) M1 := by rw [ev_soO, hf]; rfl
theorem sl_at {l k : FO} {lo hi : Option Int} (hf : f env M = .ok a M1) (hl : l env M1 = .ok lo M2) (hk : k env M2 = .ok hi M3) (hx : pk M3 a = some x) (e : slD x lo hi = some z) : slE f l k env M = .ok (.d z) M3 := by
  rw [ev_slE, hf, ev_bind_ok, hl, ev_bind_ok, hk, ev_bind_ok, hx, Option.bind_some, e]
theorem tst_at {b : Bool} (hf : f env M = .ok (.d (.bl b)) M1) : tst f env M = .ok b M1 := by rw [ev_tst, hf]; rfl
theorem not_at {b : Bool} (hf : c env M = .ok b M1) : notT c env M = .ok (!b) M1 := by rw [ev_notT, hf]; rfl
theorem and_t (hc : c env M = .ok true M1) (hu : u env M1 = r) : andT c u env M = r := by rw [ev_andT, hc, ev_bind_ok, if_pos rfl]; exact hu
theorem and_f (hc : c env M = .ok false M1) : andT c u env M = .ok false M1 := by rw [ev_andT, hc, ev_bind_ok, if_neg Bool.false_ne_true]
theorem or_t (hc : c env M = .ok true M1) : orT c u env M = .ok true M1 := by rw [ev_orT, hc, ev_bind_ok, if_pos rfl]
theorem or_f (hc : c env M = .ok false M1) (hu : u env M1 = r) : orT c u env M = r := by rw [ev_orT, hc, ev_bind_ok, if_neg Bool.false_ne_true]; exact hu
theorem lst0_at : lstE nilA env M = .ok (.d (.lst [])) M := rfl
theorem lst1_at (hf : f env M = .ok (.d x) M1) : lstE (consA f nilA) env M = .ok (.d (.lst [x])) M1 := by rw [ev_lstE, ev_consA, hf]; rfl
theorem lst2_at (hf : f env M = .ok (.d x) M1) (hg : g env M1 = .ok (.d y) M2) : lstE (consA f (consA g nilA)) env M = .ok (.d (.lst [x, y])) M2 := by rw [ev_lstE, ev_consA, hf, ev_bind_ok, ev_consA, hg]; rfl
theorem tup2_at (hf : f env M = .ok (.d x) M1) (hg : g env M1 = .ok (.d y) M2) : tupE (consA f (consA g nilA)) env M = .ok (.d (.tup [x, y])) M2 := by rw [ev_tupE, ev_consA, hf, ev_bind_ok, ev_consA, hg]; rfl
theorem tup3_at (hf : f env M = .ok (.d x) M1) (hg : g env M1 = .ok (.d y) M2) (hh : h env M2 = .ok (.d z) M3) : tupE (consA f (consA g (consA h nilA))) env M = .ok (.d (.tup [x, y, z])) M3 := by rw [ev_tupE, ev_consA, hf, ev_bind_ok, ev_consA, hg, ev_bind_ok, ev_consA, hh]; rfl
theorem tup4_at {w : D} {M4 : Mem} {k : FE} (hf : f env M = .ok (.d x) M1) (hg : g env M1 = .ok (.d y) M2) (hh : h env M2 = .ok (.d z) M3) (hk : k env M3 = .ok (.d w) M4) : tupE (consA f (consA g (consA h (consA k nilA)))) env M = .ok (.d (.tup [x, y, z, w])) M4 := by
  rw [ev_tupE, ev_consA, hf, ev_bind_ok, ev_consA, hg, ev_bind_ok, ev_consA, hh, ev_bind_ok, ev_consA, hk]; rfl
variable {F : FF} {v : R A}
theorem call1_at (hf : f env M = .ok a M1) (e : F [a] M1 = v) : callE (arity 1 F) (consA f nilA) env M = v := by rw [ev_callE, ev_consA, hf]; exact e
theorem call2_at (hf : f env M = .ok a M1) (hg : g env M1 = .ok a2 M2) (e : F [a, a2] M2 = v) : callE (arity 2 F) (consA f (consA g nilA)) env M = v := by
  rw [ev_callE, ev_consA, hf, ev_bind_ok, ev_consA, hg]; exact e
theorem call3_at (hf : f env M = .ok a M1) (hg : g env M1 = .ok a2 M2) (hh : h env M2 = .ok a3 M3) (e : F [a, a2, a3] M3 = v) : callE (arity 3 F) (consA f (consA g (consA h nilA))) env M = v := by
  rw [ev_callE, ev_consA, hf, ev_bind_ok, ev_consA, hg, ev_bind_ok, ev_consA, hh]; exact e
theorem ife_t (hc : c env M = .ok true M1) (e : f env M1 = v) : ifE c f g env M = v := by rw [ev_ifE, hc, ev_bind_ok, if_pos rfl]; exact e
theorem ife_f (hc : c env M = .ok false M1) (e : g env M1 = v) : ifE c f g env M = v := by rw [ev_ifE, hc, ev_bind_ok, if_neg Bool.false_ne_true]; exact e
theorem ande_t (hf : f env M = .ok (.d (.bl true)) M1) (e : g env M1 = v) : andE f g env M = v := by rw [ev_andE, hf]; exact e
theorem ande_f (hf : f env M = .ok (.d (.bl false)) M1) : andE f g env M = .ok (.d (.bl false)) M1 := by rw [ev_andE, hf]; rfl
theorem ore_t (hf : f env M = .ok (.d (.bl true)) M1) : orE f g env M = .ok (.d (.bl true)) M1 := by rw [ev_orE, hf]; rfl
theorem ore_f (hf : f env M = .ok (.d (.bl false)) M1) (e : g env M1 = v) : orE f g env M = v := by rw [ev_orE, hf]; exact e
theorem note_at {b : Bool} (hf : f env M = .ok (.d (.bl b)) M1) : notE f env M = .ok (.d (.bl (!b))) M1 := by rw [ev_notE, hf]; rfl
end
theorem cut_from {α : Type} (w : List α) (k : Nat) : cutL w (some (k : Int)) none = w.drop k := by
  have e : sB w.length (some (k : Int)) = min k w.length := by
    show (if (k : Int) < 0 then ((k : Int) + (w.length : Int)).toNat else min (k : Int).toNat w.length) = _
    rw [if_neg (by omega), Int.toNat_natCast]
  have e2 : sE w.length none = w.length := rfl
  unfold cutL
  rw [e, e2]
  by_cases h : k ≤ w.length
  · rw [Nat.min_eq_left h, List.take_of_length_le (by rw [List.length_drop]; omega)]
  · rw [Nat.min_eq_right (by omega), Nat.sub_self, List.take_zero, List.drop_of_length_le (by omega)]
theorem cut_to {α : Type} (w : List α) (k : Nat) : cutL w none (some (k : Int)) = w.take k := by
  have e : sE w.length (some (k : Int)) = min k w.length := by
    show (if (k : Int) < 0 then ((k : Int) + (w.length : Int)).toNat else min (k : Int).toNat w.length) = _
    rw [if_neg (by omega), Int.toNat_natCast]
  have e2 : sB w.length none = 0 := rfl
  unfold cutL
  rw [e, e2, List.drop_zero, Nat.sub_zero]
  by_cases h : k ≤ w.length
  · rw [Nat.min_eq_left h]
  · rw [Nat.min_eq_right (by omega), List.take_of_length_le (Nat.le_refl _), List.take_of_length_le (by omega)]
theorem SZ_eq : SZ = 16777216 := rfl
end Fy

set_option maxRecDepth 100000
set_option maxHeartbeats 4000000
namespace K21
open PySem PySem.Spec L2 Fy
def top (i : Nat) : Stmt := PySem.Challenge.pw_wordfolds_k21_whole_roots_turns_and_peri.main.body.getD i (.Pass ⟨0, 0, 0, 0⟩)
structure Fa (K : PySem.W.Frag) (mg : Str → Option Value) : Prop where
  b_abs : mg "abs" = none
  b_all : mg "all" = none
  b_bool : mg "bool" = none
  b_int : mg "int" = none
  b_isinstance : mg "isinstance" = none
  b_len : mg "len" = none
  b_list : mg "list" = none
  b_max : mg "max" = none
  b_min : mg "min" = none
  b_range : mg "range" = none
  b_set : mg "set" = none
  b_sorted : mg "sorted" = none
  b_str : mg "str" = none
  b_sum : mg "sum" = none
  b_tuple : mg "tuple" = none
  b_zip : mg "zip" = none
  g_MOST_SIGNS : ∃ u, mg "MOST_SIGNS" = some u ∧ RelV (.int 300) u
  g_SIGNS : ∃ u, mg "SIGNS" = some u ∧ RelV (.str (ms [97, 98, 99, 100])) u
abbrev FUEL : Nat := 1000000000
section
variable {P : Program} {w : World} {K : PySem.W.Frag} {mg : Str → Option Value} {base : Heap} {T : Tb}
abbrev s_is_number : Stmt := top 5
abbrev N_is_number : List Str := ["thing"]
theorem sc_is_number : FnScope N_is_number ["thing"] (defScope s_is_number) := ⟨rfl, rfl, rfl, by decide +kernel, rfl, by decide +kernel, by decide +kernel⟩
def b_is_number : FS := (retS (andE (isiE .int (vr 0)) (notE (isiE .bool (vr 0)))))
def F_is_number : FF := defF 1 b_is_number
theorem okx_is_number (Z : Fa K mg) {f : Addr} {fd : FuncData} (hF : Fun K "is_number" "is_number" s_is_number f fd)  : FnOk P w K mg base (L2.CX P w) 1 f fd ["thing"] (spF K T 1 F_is_number) :=
  fn_ok hF sc_is_number rfl (by decide) fun cdv A outer s H E hr => (s_one (s_ret (e_and (e_isi (b := .int) rfl Z.b_isinstance rfl Z.b_int (by decide +kernel) (e_var (i := 0) rfl (by first | exact Or.inl rfl | exact Or.inr (Or.inl rfl) | exact Or.inr (Or.inr rfl)) (by decide) (by decide)) (by decide) (by decide) (by rfl) (by rfl) (by rfl)) (e_one (e_not (e_isi (b := .bool) rfl Z.b_isinstance rfl Z.b_bool (by decide +kernel) (e_var (i := 0) rfl (by first | exact Or.inl rfl | exact Or.inr (Or.inl rfl) | exact Or.inr (Or.inr rfl)) (by decide) (by decide)) (by decide) (by decide) (by rfl) (by rfl) (by rfl)))))))
theorem ok_is_number (Z : Fa K mg) (h : Here K mg "is_number" s_is_number ["thing"])  : Dn P w K mg base T "is_number" 1 1 F_is_number := by
  obtain ⟨f, fd, hF, hm, hk, hb⟩ := h
  exact ⟨f, fd, _, hm, hk, hb, okx_is_number Z hF ⟩
abbrev s_check_word : Stmt := top 9
abbrev N_check_word : List Str := ["word", "letters", "most", "one"]
theorem sc_check_word : FnScope N_check_word ["word", "letters", "most"] (defScope s_check_word) := ⟨rfl, rfl, rfl, by decide +kernel, rfl, by decide +kernel, by decide +kernel⟩
def b_check_word : FS := (ifS (orT (notT (tst (isiE .str (vr 0)))) (orT (tst (bop gtD (bifE lenD (consA (vr 0) nilA)) (vr 2))) (tst (bop neD (compE (signsI (vr 0)) (tgN 3) (tst (bop niD (vr 3) (slE (cn (.str [97, 98, 99, 100])) noO (soO (vr 1))))) (vr 3) [3]) (lstE nilA))))) neverS nxS)
def F_check_word : FF := defF 4 b_check_word
theorem okx_check_word (Z : Fa K mg) {f : Addr} {fd : FuncData} (hF : Fun K "check_word" "check_word" s_check_word f fd)  : FnOk P w K mg base (L2.CX P w) 1 f fd ["word", "letters", "most"] (spF K T 3 F_check_word) :=
  fn_ok hF sc_check_word rfl (by decide) fun cdv A outer s H E hr => (s_one (s_if (w_pt (w_or (t_not (t_val (e_isi (b := .str) rfl Z.b_isinstance rfl Z.b_str (by decide +kernel) (e_var (i := 0) rfl (by first | exact Or.inl rfl | exact Or.inr (Or.inl rfl) | exact Or.inr (Or.inr rfl)) (by decide) (by decide)) (by decide) (by decide) (by rfl) (by rfl) (by rfl)) (by intro _; rfl))) (w_or (t_cmp o_gt (e_bif c_len rfl Z.b_len (by decide +kernel) (a_cons (e_var (i := 0) rfl (by first | exact Or.inl rfl | exact Or.inr (Or.inl rfl) | exact Or.inr (Or.inr rfl)) (by decide) (by decide)) a_nil (by rfl)) (by decide) (by decide) (by rfl) (by rfl)) (e_var (i := 2) rfl (by first | exact Or.inl rfl | exact Or.inr (Or.inl rfl) | exact Or.inr (Or.inr rfl)) (by decide) (by decide)) (nomark _)) (w_or1 (t_cmp (o_ne hr.units) (e_lc rfl sc_check_word.nd (i_str (e_var (i := 0) rfl (by first | exact Or.inl rfl | exact Or.inr (Or.inl rfl) | exact Or.inr (Or.inr rfl)) (by decide) (by decide))) (blkOk_by (own := [("one", 3)]) (N := N_check_word) (by kernel_rfl)) (fun _ => (g_name (i := 3) sc_check_word.nd rfl (by first | exact .inl rfl | exact .inr rfl) (by first | exact .inl rfl | exact .inr rfl))) (fun _ => (p_one (t_cmp o_ni (e_var (i := 3) rfl (by first | exact Or.inl rfl | exact Or.inr (Or.inl rfl) | exact Or.inr (Or.inr rfl)) (by decide) (by decide)) (e_sl (e_globK rfl Z.g_SIGNS (by intro _; rfl) (by decide)) o_no (o_so (e_var (i := 1) rfl (by first | exact Or.inl rfl | exact Or.inr (Or.inl rfl) | exact Or.inr (Or.inr rfl)) (by decide) (by decide)))) rfl))) (fun _ => (e_var (i := 3) rfl (by first | exact Or.inl rfl | exact Or.inr (Or.inl rfl) | exact Or.inr (Or.inr rfl)) (by decide) (by decide))) rfl (by decide) (by intro _; rfl)) (e_lst a_nil) (nomark _)))))) (s_one s_never) s_nil))
theorem ok_check_word (Z : Fa K mg) (h : Here K mg "check_word" s_check_word ["word", "letters", "most"])  : Dn P w K mg base T "check_word" 1 3 F_check_word := by
  obtain ⟨f, fd, hF, hm, hk, hb⟩ := h
  exact ⟨f, fd, _, hm, hk, hb, okx_check_word Z hF ⟩
abbrev s_check_letters : Stmt := top 11
abbrev N_check_letters : List Str := ["word"]
theorem sc_check_letters : FnScope N_check_letters ["word"] (defScope s_check_letters) := ⟨rfl, rfl, rfl, by decide +kernel, rfl, by decide +kernel, by decide +kernel⟩
def b_check_letters : FS := (dropS (callE (arity 3 F_check_word) (consA (vr 0) (consA (bifE lenD (consA (cn (.str [97, 98, 99, 100])) nilA)) (consA (cn (.int 300)) nilA)))))
def F_check_letters : FF := defF 1 b_check_letters
theorem okx_check_letters (Z : Fa K mg) {f : Addr} {fd : FuncData} (hF : Fun K "check_letters" "check_letters" s_check_letters f fd) (d_check_word : Dn P w K mg base T "check_word" 1 3 F_check_word) : FnOk P w K mg base (L2.CX P w) 2 f fd ["word"] (spF K T 1 F_check_letters) :=
  fn_ok hF sc_check_letters rfl (by decide) fun cdv A outer s H E hr => (s_one (s_expr (e_callD (takes_of rfl rfl rfl rfl) d_check_word (hr.mono (by decide)) rfl (a_cons (e_var (i := 0) rfl (by first | exact Or.inl rfl | exact Or.inr (Or.inl rfl) | exact Or.inr (Or.inr rfl)) (by decide) (by decide)) (a_cons (e_bif c_len rfl Z.b_len (by decide +kernel) (a_cons (e_globK rfl Z.g_SIGNS (by intro _; rfl) (by decide)) a_nil (by rfl)) (by decide) (by decide) (by rfl) (by rfl)) (a_cons (e_globK rfl Z.g_MOST_SIGNS (by intro _; rfl) (by decide)) a_nil (by rfl)) (by rfl)) (by rfl)) (by decide) (by rfl) (by rfl)) (by rfl)))
theorem ok_check_letters (Z : Fa K mg) (h : Here K mg "check_letters" s_check_letters ["word"]) (d_check_word : Dn P w K mg base T "check_word" 1 3 F_check_word) : Dn P w K mg base T "check_letters" 2 1 F_check_letters := by
  obtain ⟨f, fd, hF, hm, hk, hb⟩ := h
  exact ⟨f, fd, _, hm, hk, hb, okx_check_letters Z hF d_check_word⟩
abbrev s_check_filled : Stmt := top 12
abbrev N_check_filled : List Str := ["word"]
theorem sc_check_filled : FnScope N_check_filled ["word"] (defScope s_check_filled) := ⟨rfl, rfl, rfl, by decide +kernel, rfl, by decide +kernel, by decide +kernel⟩
def b_check_filled : FS := (seqS (dropS (callE (arity 1 F_check_letters) (consA (vr 0) nilA)))
    (ifS (tst (bop eqD (vr 0) (cn (.str [])))) neverS nxS))
def F_check_filled : FF := defF 1 b_check_filled
theorem okx_check_filled (Z : Fa K mg) {f : Addr} {fd : FuncData} (hF : Fun K "check_filled" "check_filled" s_check_filled f fd) (d_check_letters : Dn P w K mg base T "check_letters" 2 1 F_check_letters) : FnOk P w K mg base (L2.CX P w) 3 f fd ["word"] (spF K T 1 F_check_filled) :=
  fn_ok hF sc_check_filled rfl (by decide) fun cdv A outer s H E hr => (s_cons (s_expr (e_callD (takes_of rfl rfl rfl rfl) d_check_letters (hr.mono (by decide)) rfl (a_cons (e_var (i := 0) rfl (by first | exact Or.inl rfl | exact Or.inr (Or.inl rfl) | exact Or.inr (Or.inr rfl)) (by decide) (by decide)) a_nil (by rfl)) (by decide) (by rfl) (by rfl)) (by rfl))
    (s_one (s_if (t_cmp (o_eq hr.units) (e_var (i := 0) rfl (by first | exact Or.inl rfl | exact Or.inr (Or.inl rfl) | exact Or.inr (Or.inr rfl)) (by decide) (by decide)) (e_str (l := []) (by rfl)) (nomark _)) (s_one s_never) s_nil)))
theorem ok_check_filled (Z : Fa K mg) (h : Here K mg "check_filled" s_check_filled ["word"]) (d_check_letters : Dn P w K mg base T "check_letters" 2 1 F_check_letters) : Dn P w K mg base T "check_filled" 3 1 F_check_filled := by
  obtain ⟨f, fd, hF, hm, hk, hb⟩ := h
  exact ⟨f, fd, _, hm, hk, hb, okx_check_filled Z hF d_check_letters⟩
abbrev s_border_lengths : Stmt := top 13
abbrev N_border_lengths : List Str := ["word", "found", "sign", "here"]
theorem sc_border_lengths : FnScope N_border_lengths ["word"] (defScope s_border_lengths) := ⟨rfl, rfl, rfl, by decide +kernel, rfl, by decide +kernel, by decide +kernel⟩
def b_border_lengths : FS := (seqS (setS 1 (newE (consA (cn (.int 0)) nilA)))
    (seqS (forS (signsI (slE (vr 0) (soO (cn (.int 1))) noO)) (tgN 2)
    (seqS (setS 3 (ixE (vr 1) (negE (cn (.int 1)))))
    (seqS (whileS (andT (tst (bop gtD (vr 3) (cn (.int 0)))) (tst (bop neD (ixE (vr 0) (vr 3)) (vr 2))))
    (setS 3 (ixE (vr 1) (bop subD (vr 3) (cn (.int 1))))) FUEL)
    (dropS (appE (vr 1) (bop addD (vr 3) (bifE intD (consA (bop eqD (ixE (vr 0) (vr 3)) (vr 2)) nilA))))))))
    (retS (frz (vr 1)))))
def F_border_lengths : FF := defF 4 b_border_lengths
theorem okx_border_lengths (Z : Fa K mg) {f : Addr} {fd : FuncData} (hF : Fun K "border_lengths" "border_lengths" s_border_lengths f fd)  : FnOk P w K mg base (L2.CX P w) 1 f fd ["word"] (spF K T 1 F_border_lengths) :=
  fn_ok hF sc_border_lengths rfl (by decide) fun cdv A outer s H E hr => (s_cons (s_set (i := 1) sc_border_lengths.nd (e_new (a_cons e_int a_nil (by rfl))) rfl (by first | exact .inl rfl | exact .inr rfl) (by rfl) (by first | exact .inl rfl | exact .inr rfl))
    (s_cons (s_for (passes_of rfl) rfl (i_str (e_sl (e_var (i := 0) rfl (by first | exact Or.inl rfl | exact Or.inr (Or.inl rfl) | exact Or.inr (Or.inr rfl)) (by decide) (by decide)) (o_so e_int) o_no)) (g_name (i := 2) sc_border_lengths.nd rfl (by first | exact .inl rfl | exact .inr rfl) (by first | exact .inl rfl | exact .inr rfl))
    (s_cons (s_set (i := 3) sc_border_lengths.nd (e_ix (e_var (i := 1) rfl (by first | exact Or.inl rfl | exact Or.inr (Or.inl rfl) | exact Or.inr (Or.inr rfl)) (by decide) (by decide)) (e_neg e_int) (by intro _ _; rfl)) rfl (by first | exact .inl rfl | exact .inr rfl) (by rfl) (by first | exact .inl rfl | exact .inr rfl))
    (s_cons (s_while (n := FUEL) (passes_of rfl) (w_pt (w_and (t_cmp o_gt (e_var (i := 3) rfl (by first | exact Or.inl rfl | exact Or.inr (Or.inl rfl) | exact Or.inr (Or.inr rfl)) (by decide) (by decide)) e_int (nomark _)) (w_and1 (t_cmp (o_ne hr.units) (e_ix (e_var (i := 0) rfl (by first | exact Or.inl rfl | exact Or.inr (Or.inl rfl) | exact Or.inr (Or.inr rfl)) (by decide) (by decide)) (e_var (i := 3) rfl (by first | exact Or.inl rfl | exact Or.inr (Or.inl rfl) | exact Or.inr (Or.inr rfl)) (by decide) (by decide)) (by intro _ _; rfl)) (e_var (i := 2) rfl (by first | exact Or.inl rfl | exact Or.inr (Or.inl rfl) | exact Or.inr (Or.inr rfl)) (by decide) (by decide)) (nomark _)))))
    (s_one (s_set (i := 3) sc_border_lengths.nd (e_ix (e_var (i := 1) rfl (by first | exact Or.inl rfl | exact Or.inr (Or.inl rfl) | exact Or.inr (Or.inr rfl)) (by decide) (by decide)) (e_op o_sub (e_var (i := 3) rfl (by first | exact Or.inl rfl | exact Or.inr (Or.inl rfl) | exact Or.inr (Or.inr rfl)) (by decide) (by decide)) e_int) (by intro _ _; rfl)) rfl (by first | exact .inl rfl | exact .inr rfl) (by rfl) (by first | exact .inl rfl | exact .inr rfl))))
    (s_one (s_expr (e_app (e_var (i := 1) rfl (by first | exact Or.inl rfl | exact Or.inr (Or.inl rfl) | exact Or.inr (Or.inr rfl)) (by decide) (by decide)) (e_op o_add (e_var (i := 3) rfl (by first | exact Or.inl rfl | exact Or.inr (Or.inl rfl) | exact Or.inr (Or.inr rfl)) (by decide) (by decide)) (e_bty c_int rfl Z.b_int (by decide +kernel) (a_cons (e_cmp (o_eq hr.units) (e_ix (e_var (i := 0) rfl (by first | exact Or.inl rfl | exact Or.inr (Or.inl rfl) | exact Or.inr (Or.inr rfl)) (by decide) (by decide)) (e_var (i := 3) rfl (by first | exact Or.inl rfl | exact Or.inr (Or.inl rfl) | exact Or.inr (Or.inr rfl)) (by decide) (by decide)) (by intro _ _; rfl)) (e_var (i := 2) rfl (by first | exact Or.inl rfl | exact Or.inr (Or.inl rfl) | exact Or.inr (Or.inr rfl)) (by decide) (by decide)) (nomark _)) a_nil (by rfl)) (by decide) (by decide) (by rfl) (by rfl))) (by rfl) (by rfl) (by rfl) (by rfl) (by rfl)) (by rfl))))) (by intro _; rfl))
    (s_one (s_ret (e_frz (e_var (i := 1) rfl (by first | exact Or.inl rfl | exact Or.inr (Or.inl rfl) | exact Or.inr (Or.inr rfl)) (by decide) (by decide)))))))
theorem ok_border_lengths (Z : Fa K mg) (h : Here K mg "border_lengths" s_border_lengths ["word"])  : Dn P w K mg base T "border_lengths" 1 1 F_border_lengths := by
  obtain ⟨f, fd, hF, hm, hk, hb⟩ := h
  exact ⟨f, fd, _, hm, hk, hb, okx_border_lengths Z hF ⟩
abbrev s_borders : Stmt := top 14
abbrev N_borders : List Str := ["word", "lengths", "found", "here"]
theorem sc_borders : FnScope N_borders ["word"] (defScope s_borders) := ⟨rfl, rfl, rfl, by decide +kernel, rfl, by decide +kernel, by decide +kernel⟩
def b_borders : FS := (seqS (dropS (callE (arity 1 F_check_letters) (consA (vr 0) nilA)))
    (seqS (ifS (tst (bop eqD (vr 0) (cn (.str [])))) (retS (lstE nilA)) nxS)
    (seqS (parS 1 2 (callE (arity 1 F_border_lengths) (consA (vr 0) nilA)) (newE nilA))
    (seqS (setS 3 (ixE (vr 1) (negE (cn (.int 1)))))
    (seqS (whileS (tst (bop gtD (vr 3) (cn (.int 0))))
    (seqS (dropS (appE (vr 2) (vr 3)))
    (setS 3 (ixE (vr 1) (bop subD (vr 3) (cn (.int 1)))))) FUEL)
    (retS (bop addD (lstE (consA (cn (.int 0)) nilA)) (revE (vr 2)))))))))
def F_borders : FF := defF 4 b_borders
theorem okx_borders (Z : Fa K mg) {f : Addr} {fd : FuncData} (hF : Fun K "borders" "borders" s_borders f fd) (d_border_lengths : Dn P w K mg base T "border_lengths" 1 1 F_border_lengths) (d_check_letters : Dn P w K mg base T "check_letters" 2 1 F_check_letters) : FnOk P w K mg base (L2.CX P w) 3 f fd ["word"] (spF K T 1 F_borders) :=
  fn_ok hF sc_borders rfl (by decide) fun cdv A outer s H E hr => (s_cons (s_expr (e_callD (takes_of rfl rfl rfl rfl) d_check_letters (hr.mono (by decide)) rfl (a_cons (e_var (i := 0) rfl (by first | exact Or.inl rfl | exact Or.inr (Or.inl rfl) | exact Or.inr (Or.inr rfl)) (by decide) (by decide)) a_nil (by rfl)) (by decide) (by rfl) (by rfl)) (by rfl))
    (s_cons (s_if (t_cmp (o_eq hr.units) (e_var (i := 0) rfl (by first | exact Or.inl rfl | exact Or.inr (Or.inl rfl) | exact Or.inr (Or.inr rfl)) (by decide) (by decide)) (e_str (l := []) (by rfl)) (nomark _)) (s_one (s_ret (e_lst a_nil))) s_nil)
    (s_cons (s_par (i := 1) (j := 2) rfl sc_borders.nd (e_callD (takes_of rfl rfl rfl rfl) d_border_lengths (hr.mono (by decide)) rfl (a_cons (e_var (i := 0) rfl (by first | exact Or.inl rfl | exact Or.inr (Or.inl rfl) | exact Or.inr (Or.inr rfl)) (by decide) (by decide)) a_nil (by rfl)) (by decide) (by rfl) (by rfl)) (e_new a_nil) rfl rfl (by decide) rfl rfl (by rfl) (by rfl) (by rfl) (by rfl))
    (s_cons (s_set (i := 3) sc_borders.nd (e_ix (e_var (i := 1) rfl (by first | exact Or.inl rfl | exact Or.inr (Or.inl rfl) | exact Or.inr (Or.inr rfl)) (by decide) (by decide)) (e_neg e_int) (by intro _ _; rfl)) rfl (by first | exact .inl rfl | exact .inr rfl) (by rfl) (by first | exact .inl rfl | exact .inr rfl))
    (s_cons (s_while (n := FUEL) (passes_of rfl) (t_cmp o_gt (e_var (i := 3) rfl (by first | exact Or.inl rfl | exact Or.inr (Or.inl rfl) | exact Or.inr (Or.inr rfl)) (by decide) (by decide)) e_int (nomark _))
    (s_cons (s_expr (e_app (e_var (i := 2) rfl (by first | exact Or.inl rfl | exact Or.inr (Or.inl rfl) | exact Or.inr (Or.inr rfl)) (by decide) (by decide)) (e_var (i := 3) rfl (by first | exact Or.inl rfl | exact Or.inr (Or.inl rfl) | exact Or.inr (Or.inr rfl)) (by decide) (by decide)) (by rfl) (by rfl) (by rfl) (by rfl) (by rfl)) (by rfl))
    (s_one (s_set (i := 3) sc_borders.nd (e_ix (e_var (i := 1) rfl (by first | exact Or.inl rfl | exact Or.inr (Or.inl rfl) | exact Or.inr (Or.inr rfl)) (by decide) (by decide)) (e_op o_sub (e_var (i := 3) rfl (by first | exact Or.inl rfl | exact Or.inr (Or.inl rfl) | exact Or.inr (Or.inr rfl)) (by decide) (by decide)) e_int) (by intro _ _; rfl)) rfl (by first | exact .inl rfl | exact .inr rfl) (by rfl) (by first | exact .inl rfl | exact .inr rfl)))))
    (s_one (s_ret (e_op o_add (e_lst (a_cons e_int a_nil (by rfl))) (e_rev (e_var (i := 2) rfl (by first | exact Or.inl rfl | exact Or.inr (Or.inl rfl) | exact Or.inr (Or.inr rfl)) (by decide) (by decide)))))))))))
theorem ok_borders (Z : Fa K mg) (h : Here K mg "borders" s_borders ["word"]) (d_border_lengths : Dn P w K mg base T "border_lengths" 1 1 F_border_lengths) (d_check_letters : Dn P w K mg base T "check_letters" 2 1 F_check_letters) : Dn P w K mg base T "borders" 3 1 F_borders := by
  obtain ⟨f, fd, hF, hm, hk, hb⟩ := h
  exact ⟨f, fd, _, hm, hk, hb, okx_borders Z hF d_border_lengths d_check_letters⟩
abbrev s_periods : Stmt := top 15
abbrev N_periods : List Str := ["word", "length"]
theorem sc_periods : FnScope N_periods ["word"] (defScope s_periods) := ⟨rfl, rfl, rfl, by decide +kernel, rfl, by decide +kernel, by decide +kernel⟩
def b_periods : FS := (retS (bifE sortedI (consA (compE (itemsI (callE (arity 1 F_borders) (consA (vr 0) nilA))) (tgN 1) yesT (bop subD (bifE lenD (consA (vr 0) nilA)) (vr 1)) [1]) nilA)))
def F_periods : FF := defF 2 b_periods
theorem okx_periods (Z : Fa K mg) {f : Addr} {fd : FuncData} (hF : Fun K "periods" "periods" s_periods f fd) (d_borders : Dn P w K mg base T "borders" 3 1 F_borders) : FnOk P w K mg base (L2.CX P w) 4 f fd ["word"] (spF K T 1 F_periods) :=
  fn_ok hF sc_periods rfl (by decide) fun cdv A outer s H E hr => (s_one (s_ret (e_bif c_sortedI rfl Z.b_sorted (by decide +kernel) (a_cons (e_lc rfl sc_periods.nd (i_seq (e_callD (takes_of rfl rfl rfl rfl) d_borders (hr.mono (by decide)) rfl (a_cons (e_var (i := 0) rfl (by first | exact Or.inl rfl | exact Or.inr (Or.inl rfl) | exact Or.inr (Or.inr rfl)) (by decide) (by decide)) a_nil (by rfl)) (by decide) (by rfl) (by rfl))) (blkOk_by (own := [("length", 1)]) (N := N_periods) (by kernel_rfl)) (fun _ => (g_name (i := 1) sc_periods.nd rfl (by first | exact .inl rfl | exact .inr rfl) (by first | exact .inl rfl | exact .inr rfl))) (fun _ => p_nil) (fun _ => (e_op o_sub (e_bif c_len rfl Z.b_len (by decide +kernel) (a_cons (e_var (i := 0) rfl (by first | exact Or.inl rfl | exact Or.inr (Or.inl rfl) | exact Or.inr (Or.inr rfl)) (by decide) (by decide)) a_nil (by rfl)) (by decide) (by decide) (by rfl) (by rfl)) (e_var (i := 1) rfl (by first | exact Or.inl rfl | exact Or.inr (Or.inl rfl) | exact Or.inr (Or.inr rfl)) (by decide) (by decide)))) rfl (by decide) (by intro _; rfl)) a_nil (by rfl)) (by decide) (by decide) (by rfl) (by rfl))))
theorem ok_periods (Z : Fa K mg) (h : Here K mg "periods" s_periods ["word"]) (d_borders : Dn P w K mg base T "borders" 3 1 F_borders) : Dn P w K mg base T "periods" 4 1 F_periods := by
  obtain ⟨f, fd, hF, hm, hk, hb⟩ := h
  exact ⟨f, fd, _, hm, hk, hb, okx_periods Z hF d_borders⟩
abbrev s_root_of : Stmt := top 16
abbrev N_root_of : List Str := ["word", "period"]
theorem sc_root_of : FnScope N_root_of ["word"] (defScope s_root_of) := ⟨rfl, rfl, rfl, by decide +kernel, rfl, by decide +kernel, by decide +kernel⟩
def b_root_of : FS := (seqS (dropS (callE (arity 1 F_check_filled) (consA (vr 0) nilA)))
    (seqS (setS 1 (ixE (callE (arity 1 F_periods) (consA (vr 0) nilA)) (cn (.int 0))))
    (seqS (ifS (tst (bop neD (bop modD (bifE intD (consA (bifE lenD (consA (vr 0) nilA)) nilA)) (vr 1)) (cn (.int 0)))) (setS 1 (bifE lenD (consA (vr 0) nilA))) nxS)
    (retS (tupE (consA (slE (vr 0) noO (soO (vr 1))) (consA (bop fdivD (bifE lenD (consA (vr 0) nilA)) (vr 1)) nilA)))))))
def F_root_of : FF := defF 2 b_root_of
theorem okx_root_of (Z : Fa K mg) {f : Addr} {fd : FuncData} (hF : Fun K "root_of" "root_of" s_root_of f fd) (d_periods : Dn P w K mg base T "periods" 4 1 F_periods) (d_check_filled : Dn P w K mg base T "check_filled" 3 1 F_check_filled) : FnOk P w K mg base (L2.CX P w) 5 f fd ["word"] (spF K T 1 F_root_of) :=
  fn_ok hF sc_root_of rfl (by decide) fun cdv A outer s H E hr => (s_cons (s_expr (e_callD (takes_of rfl rfl rfl rfl) d_check_filled (hr.mono (by decide)) rfl (a_cons (e_var (i := 0) rfl (by first | exact Or.inl rfl | exact Or.inr (Or.inl rfl) | exact Or.inr (Or.inr rfl)) (by decide) (by decide)) a_nil (by rfl)) (by decide) (by rfl) (by rfl)) (by rfl))
    (s_cons (s_set (i := 1) sc_root_of.nd (e_ix (e_callD (takes_of rfl rfl rfl rfl) d_periods (hr.mono (by decide)) rfl (a_cons (e_var (i := 0) rfl (by first | exact Or.inl rfl | exact Or.inr (Or.inl rfl) | exact Or.inr (Or.inr rfl)) (by decide) (by decide)) a_nil (by rfl)) (by decide) (by rfl) (by rfl)) e_int (by intro _ _; rfl)) rfl (by first | exact .inl rfl | exact .inr rfl) (by rfl) (by first | exact .inl rfl | exact .inr rfl))
    (s_cons (s_if (t_cmp (o_ne hr.units) (e_op o_mod (e_bty c_int rfl Z.b_int (by decide +kernel) (a_cons (e_bif c_len rfl Z.b_len (by decide +kernel) (a_cons (e_var (i := 0) rfl (by first | exact Or.inl rfl | exact Or.inr (Or.inl rfl) | exact Or.inr (Or.inr rfl)) (by decide) (by decide)) a_nil (by rfl)) (by decide) (by decide) (by rfl) (by rfl)) a_nil (by rfl)) (by decide) (by decide) (by rfl) (by rfl)) (e_var (i := 1) rfl (by first | exact Or.inl rfl | exact Or.inr (Or.inl rfl) | exact Or.inr (Or.inr rfl)) (by decide) (by decide))) e_int (nomark _)) (s_one (s_set (i := 1) sc_root_of.nd (e_bif c_len rfl Z.b_len (by decide +kernel) (a_cons (e_var (i := 0) rfl (by first | exact Or.inl rfl | exact Or.inr (Or.inl rfl) | exact Or.inr (Or.inr rfl)) (by decide) (by decide)) a_nil (by rfl)) (by decide) (by decide) (by rfl) (by rfl)) rfl (by first | exact .inl rfl | exact .inr rfl) (by rfl) (by first | exact .inl rfl | exact .inr rfl))) s_nil)
    (s_one (s_ret (e_tup (a_cons (e_sl (e_var (i := 0) rfl (by first | exact Or.inl rfl | exact Or.inr (Or.inl rfl) | exact Or.inr (Or.inr rfl)) (by decide) (by decide)) o_no (o_so (e_var (i := 1) rfl (by first | exact Or.inl rfl | exact Or.inr (Or.inl rfl) | exact Or.inr (Or.inr rfl)) (by decide) (by decide)))) (a_cons (e_op o_fdiv (e_bif c_len rfl Z.b_len (by decide +kernel) (a_cons (e_var (i := 0) rfl (by first | exact Or.inl rfl | exact Or.inr (Or.inl rfl) | exact Or.inr (Or.inr rfl)) (by decide) (by decide)) a_nil (by rfl)) (by decide) (by decide) (by rfl) (by rfl)) (e_var (i := 1) rfl (by first | exact Or.inl rfl | exact Or.inr (Or.inl rfl) | exact Or.inr (Or.inr rfl)) (by decide) (by decide))) a_nil (by rfl)) (by rfl))))))))
theorem ok_root_of (Z : Fa K mg) (h : Here K mg "root_of" s_root_of ["word"]) (d_periods : Dn P w K mg base T "periods" 4 1 F_periods) (d_check_filled : Dn P w K mg base T "check_filled" 3 1 F_check_filled) : Dn P w K mg base T "root_of" 5 1 F_root_of := by
  obtain ⟨f, fd, hF, hm, hk, hb⟩ := h
  exact ⟨f, fd, _, hm, hk, hb, okx_root_of Z hF d_periods d_check_filled⟩
abbrev s_least_turn : Stmt := top 17
abbrev N_least_turn : List Str := ["word", "turns", "shift"]
theorem sc_least_turn : FnScope N_least_turn ["word"] (defScope s_least_turn) := ⟨rfl, rfl, rfl, by decide +kernel, rfl, by decide +kernel, by decide +kernel⟩
def b_least_turn : FS := (seqS (dropS (callE (arity 1 F_check_filled) (consA (vr 0) nilA)))
    (seqS (setS 1 (compE (rangeI1 (bifE lenD (consA (vr 0) nilA))) (tgN 2) yesT (tupE (consA (bop addD (slE (vr 0) (soO (vr 2)) noO) (slE (vr 0) noO (soO (vr 2)))) (consA (vr 2) nilA))) [2]))
    (retS (bifE minTD (consA (vr 1) nilA)))))
def F_least_turn : FF := defF 3 b_least_turn
theorem okx_least_turn (Z : Fa K mg) {f : Addr} {fd : FuncData} (hF : Fun K "least_turn" "least_turn" s_least_turn f fd) (d_check_filled : Dn P w K mg base T "check_filled" 3 1 F_check_filled) : FnOk P w K mg base (L2.CX P w) 4 f fd ["word"] (spF K T 1 F_least_turn) :=
  fn_ok hF sc_least_turn rfl (by decide) fun cdv A outer s H E hr => (s_cons (s_expr (e_callD (takes_of rfl rfl rfl rfl) d_check_filled (hr.mono (by decide)) rfl (a_cons (e_var (i := 0) rfl (by first | exact Or.inl rfl | exact Or.inr (Or.inl rfl) | exact Or.inr (Or.inr rfl)) (by decide) (by decide)) a_nil (by rfl)) (by decide) (by rfl) (by rfl)) (by rfl))
    (s_cons (s_setLc (i := 1) rfl sc_least_turn.nd rfl rfl (sw_true rfl rfl rfl (by decide +kernel)) (i_range1 rfl Z.b_range (e_bif c_len rfl Z.b_len (by decide +kernel) (a_cons (e_var (i := 0) rfl (by first | exact Or.inl rfl | exact Or.inr (Or.inl rfl) | exact Or.inr (Or.inr rfl)) (by decide) (by decide)) a_nil (by rfl)) (by decide) (by decide) (by rfl) (by rfl)) (by rfl)) (blkOk_by (own := [("shift", 2)]) (N := N_least_turn) (by kernel_rfl)) (fun _ => (g_name (i := 2) sc_least_turn.nd rfl (by first | exact .inl rfl | exact .inr rfl) (by first | exact .inl rfl | exact .inr rfl))) (fun _ => p_nil) (fun _ => (e_tup (a_cons (e_op o_add (e_sl (e_var (i := 0) rfl (by first | exact Or.inl rfl | exact Or.inr (Or.inl rfl) | exact Or.inr (Or.inr rfl)) (by decide) (by decide)) (o_so (e_var (i := 2) rfl (by first | exact Or.inl rfl | exact Or.inr (Or.inl rfl) | exact Or.inr (Or.inr rfl)) (by decide) (by decide))) o_no) (e_sl (e_var (i := 0) rfl (by first | exact Or.inl rfl | exact Or.inr (Or.inl rfl) | exact Or.inr (Or.inr rfl)) (by decide) (by decide)) o_no (o_so (e_var (i := 2) rfl (by first | exact Or.inl rfl | exact Or.inr (Or.inl rfl) | exact Or.inr (Or.inr rfl)) (by decide) (by decide))))) (a_cons (e_var (i := 2) rfl (by first | exact Or.inl rfl | exact Or.inr (Or.inl rfl) | exact Or.inr (Or.inr rfl)) (by decide) (by decide)) a_nil (by rfl)) (by rfl)))) rfl (by decide) (by intro _; rfl))
    (s_one (s_ret (e_bif (c_minD rfl hr.units) rfl Z.b_min (by decide +kernel) (a_cons (e_var (i := 1) rfl (by first | exact Or.inl rfl | exact Or.inr (Or.inl rfl) | exact Or.inr (Or.inr rfl)) (by decide) (by decide)) a_nil (by rfl)) (by decide) (by decide) (by rfl) (by rfl))))))
theorem ok_least_turn (Z : Fa K mg) (h : Here K mg "least_turn" s_least_turn ["word"]) (d_check_filled : Dn P w K mg base T "check_filled" 3 1 F_check_filled) : Dn P w K mg base T "least_turn" 4 1 F_least_turn := by
  obtain ⟨f, fd, hF, hm, hk, hb⟩ := h
  exact ⟨f, fd, _, hm, hk, hb, okx_least_turn Z hF d_check_filled⟩
abbrev s_divisors : Stmt := top 18
abbrev N_divisors : List Str := ["number", "one"]
theorem sc_divisors : FnScope N_divisors ["number"] (defScope s_divisors) := ⟨rfl, rfl, rfl, by decide +kernel, rfl, by decide +kernel, by decide +kernel⟩
def b_divisors : FS := (retS (compE (rangeI2 (cn (.int 1)) (bop addD (vr 0) (cn (.int 1)))) (tgN 1) (tst (bop eqD (bop modD (bifE intD (consA (vr 0) nilA)) (vr 1)) (cn (.int 0)))) (vr 1) [1]))
def F_divisors : FF := defF 2 b_divisors
theorem okx_divisors (Z : Fa K mg) {f : Addr} {fd : FuncData} (hF : Fun K "divisors" "divisors" s_divisors f fd)  : FnOk P w K mg base (L2.CX P w) 1 f fd ["number"] (spF K T 1 F_divisors) :=
  fn_ok hF sc_divisors rfl (by decide) fun cdv A outer s H E hr => (s_one (s_ret (e_lc rfl sc_divisors.nd (i_range2 rfl Z.b_range e_int (e_op o_add (e_var (i := 0) rfl (by first | exact Or.inl rfl | exact Or.inr (Or.inl rfl) | exact Or.inr (Or.inr rfl)) (by decide) (by decide)) e_int) (by rfl) (by rfl)) (blkOk_by (own := [("one", 1)]) (N := N_divisors) (by kernel_rfl)) (fun _ => (g_name (i := 1) sc_divisors.nd rfl (by first | exact .inl rfl | exact .inr rfl) (by first | exact .inl rfl | exact .inr rfl))) (fun _ => (p_one (t_cmp (o_eq hr.units) (e_op o_mod (e_bty c_int rfl Z.b_int (by decide +kernel) (a_cons (e_var (i := 0) rfl (by first | exact Or.inl rfl | exact Or.inr (Or.inl rfl) | exact Or.inr (Or.inr rfl)) (by decide) (by decide)) a_nil (by rfl)) (by decide) (by decide) (by rfl) (by rfl)) (e_var (i := 1) rfl (by first | exact Or.inl rfl | exact Or.inr (Or.inl rfl) | exact Or.inr (Or.inr rfl)) (by decide) (by decide))) e_int (nomark _)))) (fun _ => (e_var (i := 1) rfl (by first | exact Or.inl rfl | exact Or.inr (Or.inl rfl) | exact Or.inr (Or.inr rfl)) (by decide) (by decide))) rfl (by decide) (by intro _; rfl))))
theorem ok_divisors (Z : Fa K mg) (h : Here K mg "divisors" s_divisors ["number"])  : Dn P w K mg base T "divisors" 1 1 F_divisors := by
  obtain ⟨f, fd, hF, hm, hk, hb⟩ := h
  exact ⟨f, fd, _, hm, hk, hb, okx_divisors Z hF ⟩
abbrev s_raised : Stmt := top 19
abbrev N_raised : List Str := ["number", "times", "found", "turn"]
theorem sc_raised : FnScope N_raised ["number", "times"] (defScope s_raised) := ⟨rfl, rfl, rfl, by decide +kernel, rfl, by decide +kernel, by decide +kernel⟩
def b_raised : FS := (seqS (setS 2 (cn (.int 1)))
    (seqS (forS (rangeI1 (vr 1)) (tgN 3)
    (setS 2 (bop mulD (vr 2) (vr 0))))
    (retS (vr 2))))
def F_raised : FF := defF 4 b_raised
theorem okx_raised (Z : Fa K mg) {f : Addr} {fd : FuncData} (hF : Fun K "raised" "raised" s_raised f fd)  : FnOk P w K mg base (L2.CX P w) 1 f fd ["number", "times"] (spF K T 2 F_raised) :=
  fn_ok hF sc_raised rfl (by decide) fun cdv A outer s H E hr => (s_cons (s_set (i := 2) sc_raised.nd e_int rfl (by first | exact .inl rfl | exact .inr rfl) (by rfl) (by first | exact .inl rfl | exact .inr rfl))
    (s_cons (s_for (passes_of rfl) rfl (i_range1 rfl Z.b_range (e_var (i := 1) rfl (by first | exact Or.inl rfl | exact Or.inr (Or.inl rfl) | exact Or.inr (Or.inr rfl)) (by decide) (by decide)) (by rfl)) (g_name (i := 3) sc_raised.nd rfl (by first | exact .inl rfl | exact .inr rfl) (by first | exact .inl rfl | exact .inr rfl))
    (s_one (s_set (i := 2) sc_raised.nd (e_op o_mul (e_var (i := 2) rfl (by first | exact Or.inl rfl | exact Or.inr (Or.inl rfl) | exact Or.inr (Or.inr rfl)) (by decide) (by decide)) (e_var (i := 0) rfl (by first | exact Or.inl rfl | exact Or.inr (Or.inl rfl) | exact Or.inr (Or.inr rfl)) (by decide) (by decide))) rfl (by first | exact .inl rfl | exact .inr rfl) (by rfl) (by first | exact .inl rfl | exact .inr rfl))) (by intro _; rfl))
    (s_one (s_ret (e_var (i := 2) rfl (by first | exact Or.inl rfl | exact Or.inr (Or.inl rfl) | exact Or.inr (Or.inr rfl)) (by decide) (by decide))))))
theorem ok_raised (Z : Fa K mg) (h : Here K mg "raised" s_raised ["number", "times"])  : Dn P w K mg base T "raised" 1 2 F_raised := by
  obtain ⟨f, fd, hF, hm, hk, hb⟩ := h
  exact ⟨f, fd, _, hm, hk, hb, okx_raised Z hF ⟩
abbrev s_roots_count : Stmt := top 20
abbrev N_roots_count : List Str := ["letters", "length", "whole", "part"]
theorem sc_roots_count : FnScope N_roots_count ["letters", "length"] (defScope s_roots_count) := ⟨rfl, rfl, rfl, by decide +kernel, rfl, by decide +kernel, by decide +kernel⟩
def b_roots_count (FR : FF) : FS := (seqS (setS 2 (callE (arity 2 F_raised) (consA (vr 0) (consA (vr 1) nilA))))
    (seqS (forS (itemsI (slE (callE (arity 1 F_divisors) (consA (vr 1) nilA)) noO (soO (negE (cn (.int 1)))))) (tgN 3)
    (setS 2 (bop subD (vr 2) (callE (arity 2 FR) (consA (vr 0) (consA (vr 3) nilA))))))
    (retS (vr 2))))
def F_roots_count : Nat → FF
  | 0 => fun _ _ => .bad
  | n + 1 => defF 4 (b_roots_count (F_roots_count n))
theorem ok_roots_count (Z : Fa K mg) (h : Here K mg "roots_count" s_roots_count ["letters", "length"]) (d_divisors : Dn P w K mg base T "divisors" 1 1 F_divisors) (d_raised : Dn P w K mg base T "raised" 1 2 F_raised) : ∀ n, Dn P w K mg base T "roots_count" (n + 1) 2 (F_roots_count n) := by
  obtain ⟨f, fd, hF, hm, hk, hb⟩ := h
  intro n
  refine ⟨f, fd, _, hm, hk, hb, ?_⟩
  induction n with
  | zero => exact (fn_zero rfl).mono (Nat.zero_le _)
  | succ n ih =>
    have IH : Dn P w K mg base T "roots_count" (n + 1) 2 (F_roots_count n) := ⟨f, fd, _, hm, hk, hb, ih⟩
    exact (fn_ok (k := n + 1) hF sc_roots_count rfl (by decide) fun cdv A outer s H E hr => (s_cons (s_set (i := 2) sc_roots_count.nd (e_callD (takes_of rfl rfl rfl rfl) d_raised (hr.mono (by omega)) rfl (a_cons (e_var (i := 0) rfl (by first | exact Or.inl rfl | exact Or.inr (Or.inl rfl) | exact Or.inr (Or.inr rfl)) (by decide) (by decide)) (a_cons (e_var (i := 1) rfl (by first | exact Or.inl rfl | exact Or.inr (Or.inl rfl) | exact Or.inr (Or.inr rfl)) (by decide) (by decide)) a_nil (by rfl)) (by rfl)) (by decide) (by rfl) (by rfl)) rfl (by first | exact .inl rfl | exact .inr rfl) (by rfl) (by first | exact .inl rfl | exact .inr rfl))
    (s_cons (s_for (passes_of rfl) rfl (i_seq (e_sl (e_callD (takes_of rfl rfl rfl rfl) d_divisors (hr.mono (by omega)) rfl (a_cons (e_var (i := 1) rfl (by first | exact Or.inl rfl | exact Or.inr (Or.inl rfl) | exact Or.inr (Or.inr rfl)) (by decide) (by decide)) a_nil (by rfl)) (by decide) (by rfl) (by rfl)) o_no (o_so (e_neg e_int)))) (g_name (i := 3) sc_roots_count.nd rfl (by first | exact .inl rfl | exact .inr rfl) (by first | exact .inl rfl | exact .inr rfl))
    (s_one (s_set (i := 2) sc_roots_count.nd (e_op o_sub (e_var (i := 2) rfl (by first | exact Or.inl rfl | exact Or.inr (Or.inl rfl) | exact Or.inr (Or.inr rfl)) (by decide) (by decide)) (e_callD (takes_of rfl rfl rfl rfl) IH (hr.mono (by omega)) rfl (a_cons (e_var (i := 0) rfl (by first | exact Or.inl rfl | exact Or.inr (Or.inl rfl) | exact Or.inr (Or.inr rfl)) (by decide) (by decide)) (a_cons (e_var (i := 3) rfl (by first | exact Or.inl rfl | exact Or.inr (Or.inl rfl) | exact Or.inr (Or.inr rfl)) (by decide) (by decide)) a_nil (by rfl)) (by rfl)) (by decide) (by rfl) (by rfl))) rfl (by first | exact .inl rfl | exact .inr rfl) (by rfl) (by first | exact .inl rfl | exact .inr rfl))) (by intro _; rfl))
    (s_one (s_ret (e_var (i := 2) rfl (by first | exact Or.inl rfl | exact Or.inr (Or.inl rfl) | exact Or.inr (Or.inr rfl)) (by decide) (by decide))))))).mono (by omega)
abbrev s_check_counts : Stmt := top 21
abbrev N_check_counts : List Str := ["letters", "length"]
theorem sc_check_counts : FnScope N_check_counts ["letters", "length"] (defScope s_check_counts) := ⟨rfl, rfl, rfl, by decide +kernel, rfl, by decide +kernel, by decide +kernel⟩
def b_check_counts : FS := (seqS (ifS (orT (notT (tst (callE (arity 1 F_is_number) (consA (vr 0) nilA)))) (notT (tst (chE leD leD (cn (.int 1)) (vr 0) (bifE lenD (consA (cn (.str [97, 98, 99, 100])) nilA)))))) neverS nxS)
    (ifS (orT (notT (tst (callE (arity 1 F_is_number) (consA (vr 1) nilA)))) (notT (tst (chE leD leD (cn (.int 1)) (vr 1) (cn (.int 300)))))) neverS nxS))
def F_check_counts : FF := defF 2 b_check_counts
theorem okx_check_counts (Z : Fa K mg) {f : Addr} {fd : FuncData} (hF : Fun K "check_counts" "check_counts" s_check_counts f fd) (d_is_number : Dn P w K mg base T "is_number" 1 1 F_is_number) : FnOk P w K mg base (L2.CX P w) 2 f fd ["letters", "length"] (spF K T 2 F_check_counts) :=
  fn_ok hF sc_check_counts rfl (by decide) fun cdv A outer s H E hr => (s_cons (s_if (w_pt (w_or (t_not (t_val (e_callD (takes_of rfl rfl rfl rfl) d_is_number (hr.mono (by decide)) rfl (a_cons (e_var (i := 0) rfl (by first | exact Or.inl rfl | exact Or.inr (Or.inl rfl) | exact Or.inr (Or.inr rfl)) (by decide) (by decide)) a_nil (by rfl)) (by decide) (by rfl) (by rfl)) (by intro _; rfl))) (w_or1 (t_not (t_chain o_le o_le e_int (e_var (i := 0) rfl (by first | exact Or.inl rfl | exact Or.inr (Or.inl rfl) | exact Or.inr (Or.inr rfl)) (by decide) (by decide)) (e_bif c_len rfl Z.b_len (by decide +kernel) (a_cons (e_globK rfl Z.g_SIGNS (by intro _; rfl) (by decide)) a_nil (by rfl)) (by decide) (by decide) (by rfl) (by rfl)) (by with_unfolding_all rfl)))))) (s_one s_never) s_nil)
    (s_one (s_if (w_pt (w_or (t_not (t_val (e_callD (takes_of rfl rfl rfl rfl) d_is_number (hr.mono (by decide)) rfl (a_cons (e_var (i := 1) rfl (by first | exact Or.inl rfl | exact Or.inr (Or.inl rfl) | exact Or.inr (Or.inr rfl)) (by decide) (by decide)) a_nil (by rfl)) (by decide) (by rfl) (by rfl)) (by intro _; rfl))) (w_or1 (t_not (t_chain o_le o_le e_int (e_var (i := 1) rfl (by first | exact Or.inl rfl | exact Or.inr (Or.inl rfl) | exact Or.inr (Or.inr rfl)) (by decide) (by decide)) (e_globK rfl Z.g_MOST_SIGNS (by intro _; rfl) (by decide)) (by with_unfolding_all rfl)))))) (s_one s_never) s_nil)))
theorem ok_check_counts (Z : Fa K mg) (h : Here K mg "check_counts" s_check_counts ["letters", "length"]) (d_is_number : Dn P w K mg base T "is_number" 1 1 F_is_number) : Dn P w K mg base T "check_counts" 2 2 F_check_counts := by
  obtain ⟨f, fd, hF, hm, hk, hb⟩ := h
  exact ⟨f, fd, _, hm, hk, hb, okx_check_counts Z hF d_is_number⟩
abbrev s_many_roots : Stmt := top 22
abbrev N_many_roots : List Str := ["letters", "length"]
theorem sc_many_roots : FnScope N_many_roots ["letters", "length"] (defScope s_many_roots) := ⟨rfl, rfl, rfl, by decide +kernel, rfl, by decide +kernel, by decide +kernel⟩
def b_many_roots : FS := (seqS (dropS (callE (arity 2 F_check_counts) (consA (vr 0) (consA (vr 1) nilA))))
    (retS (callE (arity 2 (F_roots_count 12)) (consA (vr 0) (consA (vr 1) nilA)))))
def F_many_roots : FF := defF 2 b_many_roots
theorem okx_many_roots (Z : Fa K mg) {f : Addr} {fd : FuncData} (hF : Fun K "many_roots" "many_roots" s_many_roots f fd) (d_roots_count : Dn P w K mg base T "roots_count" 13 2 (F_roots_count 12)) (d_check_counts : Dn P w K mg base T "check_counts" 2 2 F_check_counts) : FnOk P w K mg base (L2.CX P w) 14 f fd ["letters", "length"] (spF K T 2 F_many_roots) :=
  fn_ok hF sc_many_roots rfl (by decide) fun cdv A outer s H E hr => (s_cons (s_expr (e_callD (takes_of rfl rfl rfl rfl) d_check_counts (hr.mono (by decide)) rfl (a_cons (e_var (i := 0) rfl (by first | exact Or.inl rfl | exact Or.inr (Or.inl rfl) | exact Or.inr (Or.inr rfl)) (by decide) (by decide)) (a_cons (e_var (i := 1) rfl (by first | exact Or.inl rfl | exact Or.inr (Or.inl rfl) | exact Or.inr (Or.inr rfl)) (by decide) (by decide)) a_nil (by rfl)) (by rfl)) (by decide) (by rfl) (by rfl)) (by rfl))
    (s_one (s_ret (e_callD (takes_of rfl rfl rfl rfl) d_roots_count (hr.mono (by decide)) rfl (a_cons (e_var (i := 0) rfl (by first | exact Or.inl rfl | exact Or.inr (Or.inl rfl) | exact Or.inr (Or.inr rfl)) (by decide) (by decide)) (a_cons (e_var (i := 1) rfl (by first | exact Or.inl rfl | exact Or.inr (Or.inl rfl) | exact Or.inr (Or.inr rfl)) (by decide) (by decide)) a_nil (by rfl)) (by rfl)) (by decide) (by rfl) (by rfl)))))
theorem ok_many_roots (Z : Fa K mg) (h : Here K mg "many_roots" s_many_roots ["letters", "length"]) (d_roots_count : Dn P w K mg base T "roots_count" 13 2 (F_roots_count 12)) (d_check_counts : Dn P w K mg base T "check_counts" 2 2 F_check_counts) : Dn P w K mg base T "many_roots" 14 2 F_many_roots := by
  obtain ⟨f, fd, hF, hm, hk, hb⟩ := h
  exact ⟨f, fd, _, hm, hk, hb, okx_many_roots Z hF d_roots_count d_check_counts⟩
abbrev s_many_turns : Stmt := top 23
abbrev N_many_turns : List Str := ["letters", "length", "part"]
theorem sc_many_turns : FnScope N_many_turns ["letters", "length"] (defScope s_many_turns) := ⟨rfl, rfl, rfl, by decide +kernel, rfl, by decide +kernel, by decide +kernel⟩
def b_many_turns : FS := (seqS (dropS (callE (arity 2 F_check_counts) (consA (vr 0) (consA (vr 1) nilA))))
    (retS (bifE sumD (consA (compE (itemsI (callE (arity 1 F_divisors) (consA (vr 1) nilA))) (tgN 2) yesT (bop fdivD (callE (arity 2 (F_roots_count 12)) (consA (vr 0) (consA (vr 2) nilA))) (vr 2)) [2]) nilA))))
def F_many_turns : FF := defF 3 b_many_turns
theorem okx_many_turns (Z : Fa K mg) {f : Addr} {fd : FuncData} (hF : Fun K "many_turns" "many_turns" s_many_turns f fd) (d_divisors : Dn P w K mg base T "divisors" 1 1 F_divisors) (d_roots_count : Dn P w K mg base T "roots_count" 13 2 (F_roots_count 12)) (d_check_counts : Dn P w K mg base T "check_counts" 2 2 F_check_counts) : FnOk P w K mg base (L2.CX P w) 14 f fd ["letters", "length"] (spF K T 2 F_many_turns) :=
  fn_ok hF sc_many_turns rfl (by decide) fun cdv A outer s H E hr => (s_cons (s_expr (e_callD (takes_of rfl rfl rfl rfl) d_check_counts (hr.mono (by decide)) rfl (a_cons (e_var (i := 0) rfl (by first | exact Or.inl rfl | exact Or.inr (Or.inl rfl) | exact Or.inr (Or.inr rfl)) (by decide) (by decide)) (a_cons (e_var (i := 1) rfl (by first | exact Or.inl rfl | exact Or.inr (Or.inl rfl) | exact Or.inr (Or.inr rfl)) (by decide) (by decide)) a_nil (by rfl)) (by rfl)) (by decide) (by rfl) (by rfl)) (by rfl))
    (s_one (s_ret (e_bif (c_sum rfl) rfl Z.b_sum (by decide +kernel) (a_cons (e_lc rfl sc_many_turns.nd (i_seq (e_callD (takes_of rfl rfl rfl rfl) d_divisors (hr.mono (by decide)) rfl (a_cons (e_var (i := 1) rfl (by first | exact Or.inl rfl | exact Or.inr (Or.inl rfl) | exact Or.inr (Or.inr rfl)) (by decide) (by decide)) a_nil (by rfl)) (by decide) (by rfl) (by rfl))) (blkOk_by (own := [("part", 2)]) (N := N_many_turns) (by kernel_rfl)) (fun _ => (g_name (i := 2) sc_many_turns.nd rfl (by first | exact .inl rfl | exact .inr rfl) (by first | exact .inl rfl | exact .inr rfl))) (fun _ => p_nil) (fun _ => (e_op o_fdiv (e_callD takes0 d_roots_count (hr.mono (by decide)) rfl (a_cons (e_var (i := 0) rfl (by first | exact Or.inl rfl | exact Or.inr (Or.inl rfl) | exact Or.inr (Or.inr rfl)) (by decide) (by decide)) (a_cons (e_var (i := 2) rfl (by first | exact Or.inl rfl | exact Or.inr (Or.inl rfl) | exact Or.inr (Or.inr rfl)) (by decide) (by decide)) a_nil (by rfl)) (by rfl)) (by decide) (by rfl) (by rfl)) (e_var (i := 2) rfl (by first | exact Or.inl rfl | exact Or.inr (Or.inl rfl) | exact Or.inr (Or.inr rfl)) (by decide) (by decide)))) rfl (by decide) (by intro _; rfl)) a_nil (by rfl)) (by decide) (by decide) (by rfl) (by rfl)))))
theorem ok_many_turns (Z : Fa K mg) (h : Here K mg "many_turns" s_many_turns ["letters", "length"]) (d_divisors : Dn P w K mg base T "divisors" 1 1 F_divisors) (d_roots_count : Dn P w K mg base T "roots_count" 13 2 (F_roots_count 12)) (d_check_counts : Dn P w K mg base T "check_counts" 2 2 F_check_counts) : Dn P w K mg base T "many_turns" 14 2 F_many_turns := by
  obtain ⟨f, fd, hF, hm, hk, hb⟩ := h
  exact ⟨f, fd, _, hm, hk, hb, okx_many_turns Z hF d_divisors d_roots_count d_check_counts⟩
abbrev s_turns_of : Stmt := top 24
abbrev N_turns_of : List Str := ["word", "shift"]
theorem sc_turns_of : FnScope N_turns_of ["word"] (defScope s_turns_of) := ⟨rfl, rfl, rfl, by decide +kernel, rfl, by decide +kernel, by decide +kernel⟩
def b_turns_of : FS := (seqS (dropS (callE (arity 1 F_check_letters) (consA (vr 0) nilA)))
    (retS (sortedSetE (compE (rangeI1 (bifE (fun ds => (maxL ds).or (max2D ds)) (consA (cn (.int 1)) (consA (bifE lenD (consA (vr 0) nilA)) nilA)))) (tgN 1) yesT (bop addD (slE (vr 0) (soO (vr 1)) noO) (slE (vr 0) noO (soO (vr 1)))) [1]))))
def F_turns_of : FF := defF 2 b_turns_of
theorem okx_turns_of (Z : Fa K mg) {f : Addr} {fd : FuncData} (hF : Fun K "turns_of" "turns_of" s_turns_of f fd) (d_check_letters : Dn P w K mg base T "check_letters" 2 1 F_check_letters) : FnOk P w K mg base (L2.CX P w) 3 f fd ["word"] (spF K T 1 F_turns_of) :=
  fn_ok hF sc_turns_of rfl (by decide) fun cdv A outer s H E hr => (s_cons (s_expr (e_callD (takes_of rfl rfl rfl rfl) d_check_letters (hr.mono (by decide)) rfl (a_cons (e_var (i := 0) rfl (by first | exact Or.inl rfl | exact Or.inr (Or.inl rfl) | exact Or.inr (Or.inr rfl)) (by decide) (by decide)) a_nil (by rfl)) (by decide) (by rfl) (by rfl)) (by rfl))
    (s_one (s_ret (e_sortedSet rfl Z.b_sorted rfl Z.b_set (e_lc rfl sc_turns_of.nd (i_range1 rfl Z.b_range (e_bif (c_max rfl) rfl Z.b_max (by decide +kernel) (a_cons e_int (a_cons (e_bif c_len rfl Z.b_len (by decide +kernel) (a_cons (e_var (i := 0) rfl (by first | exact Or.inl rfl | exact Or.inr (Or.inl rfl) | exact Or.inr (Or.inr rfl)) (by decide) (by decide)) a_nil (by rfl)) (by decide) (by decide) (by rfl) (by rfl)) a_nil (by rfl)) (by rfl)) (by decide) (by decide) (by rfl) (by rfl)) (by rfl)) (blkOk_by (own := [("shift", 1)]) (N := N_turns_of) (by kernel_rfl)) (fun _ => (g_name (i := 1) sc_turns_of.nd rfl (by first | exact .inl rfl | exact .inr rfl) (by first | exact .inl rfl | exact .inr rfl))) (fun _ => p_nil) (fun _ => (e_op o_add (e_sl (e_var (i := 0) rfl (by first | exact Or.inl rfl | exact Or.inr (Or.inl rfl) | exact Or.inr (Or.inr rfl)) (by decide) (by decide)) (o_so (e_var (i := 1) rfl (by first | exact Or.inl rfl | exact Or.inr (Or.inl rfl) | exact Or.inr (Or.inr rfl)) (by decide) (by decide))) o_no) (e_sl (e_var (i := 0) rfl (by first | exact Or.inl rfl | exact Or.inr (Or.inl rfl) | exact Or.inr (Or.inr rfl)) (by decide) (by decide)) o_no (o_so (e_var (i := 1) rfl (by first | exact Or.inl rfl | exact Or.inr (Or.inl rfl) | exact Or.inr (Or.inr rfl)) (by decide) (by decide)))))) rfl (by decide) (by intro _; rfl)) rfl hr.units (by rfl)))))
theorem ok_turns_of (Z : Fa K mg) (h : Here K mg "turns_of" s_turns_of ["word"]) (d_check_letters : Dn P w K mg base T "check_letters" 2 1 F_check_letters) : Dn P w K mg base T "turns_of" 3 1 F_turns_of := by
  obtain ⟨f, fd, hF, hm, hk, hb⟩ := h
  exact ⟨f, fd, _, hm, hk, hb, okx_turns_of Z hF d_check_letters⟩
abbrev s_with_periods : Stmt := top 25
abbrev N_with_periods : List Str := ["length", "first", "second", "number", "heads", "period", "place", "one", "other", "head"]
theorem sc_with_periods : FnScope N_with_periods ["length", "first", "second"] (defScope s_with_periods) := ⟨rfl, rfl, rfl, by decide +kernel, rfl, by decide +kernel, by decide +kernel⟩
def b_with_periods : FS := (seqS (forS (itemsI (tupE (consA (vr 0) (consA (vr 1) (consA (vr 2) nilA))))) (tgN 3)
    (ifS (orT (notT (tst (callE (arity 1 F_is_number) (consA (vr 3) nilA)))) (notT (tst (chE leD leD (cn (.int 1)) (vr 3) (cn (.int 300)))))) neverS nxS))
    (seqS (setS 4 (listRg1 (vr 0)))
    (seqS (forS (itemsI (tupE (consA (vr 1) (consA (vr 2) nilA)))) (tgN 5)
    (forS (rangeI2 (vr 5) (vr 0)) (tgN 6)
    (seqS (asgS (tgT (tgCons (tgN 7) (tgCons (tgN 8) tgNil))) (tupE (consA (ixE (vr 4) (vr 6)) (consA (ixE (vr 4) (bop subD (vr 6) (vr 5))) nilA))))
    (setS 4 (compE (itemsI (vr 4)) (tgN 9) yesT (ifE (tst (bop eqD (vr 9) (vr 7))) (vr 8) (vr 9)) [9])))))
    (retS (lenSetE (vr 4))))))
def F_with_periods : FF := defF 10 b_with_periods
theorem okx_with_periods (Z : Fa K mg) {f : Addr} {fd : FuncData} (hF : Fun K "with_periods" "with_periods" s_with_periods f fd) (d_is_number : Dn P w K mg base T "is_number" 1 1 F_is_number) : FnOk P w K mg base (L2.CX P w) 2 f fd ["length", "first", "second"] (spF K T 3 F_with_periods) :=
  fn_ok hF sc_with_periods rfl (by decide) fun cdv A outer s H E hr => (s_cons (s_for (passes_of rfl) rfl (i_seq (e_tup (a_cons (e_var (i := 0) rfl (by first | exact Or.inl rfl | exact Or.inr (Or.inl rfl) | exact Or.inr (Or.inr rfl)) (by decide) (by decide)) (a_cons (e_var (i := 1) rfl (by first | exact Or.inl rfl | exact Or.inr (Or.inl rfl) | exact Or.inr (Or.inr rfl)) (by decide) (by decide)) (a_cons (e_var (i := 2) rfl (by first | exact Or.inl rfl | exact Or.inr (Or.inl rfl) | exact Or.inr (Or.inr rfl)) (by decide) (by decide)) a_nil (by rfl)) (by rfl)) (by rfl)))) (g_name (i := 3) sc_with_periods.nd rfl (by first | exact .inl rfl | exact .inr rfl) (by first | exact .inl rfl | exact .inr rfl))
    (s_one (s_if (w_pt (w_or (t_not (t_val (e_callD (takes_of rfl rfl rfl rfl) d_is_number (hr.mono (by decide)) rfl (a_cons (e_var (i := 3) rfl (by first | exact Or.inl rfl | exact Or.inr (Or.inl rfl) | exact Or.inr (Or.inr rfl)) (by decide) (by decide)) a_nil (by rfl)) (by decide) (by rfl) (by rfl)) (by intro _; rfl))) (w_or1 (t_not (t_chain o_le o_le e_int (e_var (i := 3) rfl (by first | exact Or.inl rfl | exact Or.inr (Or.inl rfl) | exact Or.inr (Or.inr rfl)) (by decide) (by decide)) (e_globK rfl Z.g_MOST_SIGNS (by intro _; rfl) (by decide)) (by with_unfolding_all rfl)))))) (s_one s_never) s_nil)) (by intro _; rfl))
    (s_cons (s_set (i := 4) sc_with_periods.nd (e_listRg1 rfl rfl Z.b_list rfl Z.b_range (e_var (i := 0) rfl (by first | exact Or.inl rfl | exact Or.inr (Or.inl rfl) | exact Or.inr (Or.inr rfl)) (by decide) (by decide)) (by rfl) (by rfl)) rfl (by first | exact .inl rfl | exact .inr rfl) (by rfl) (by first | exact .inl rfl | exact .inr rfl))
    (s_cons (s_for (passes_of rfl) rfl (i_seq (e_tup (a_cons (e_var (i := 1) rfl (by first | exact Or.inl rfl | exact Or.inr (Or.inl rfl) | exact Or.inr (Or.inr rfl)) (by decide) (by decide)) (a_cons (e_var (i := 2) rfl (by first | exact Or.inl rfl | exact Or.inr (Or.inl rfl) | exact Or.inr (Or.inr rfl)) (by decide) (by decide)) a_nil (by rfl)) (by rfl)))) (g_name (i := 5) sc_with_periods.nd rfl (by first | exact .inl rfl | exact .inr rfl) (by first | exact .inl rfl | exact .inr rfl))
    (s_one (s_for (passes_of rfl) rfl (i_range2 rfl Z.b_range (e_var (i := 5) rfl (by first | exact Or.inl rfl | exact Or.inr (Or.inl rfl) | exact Or.inr (Or.inr rfl)) (by decide) (by decide)) (e_var (i := 0) rfl (by first | exact Or.inl rfl | exact Or.inr (Or.inl rfl) | exact Or.inr (Or.inr rfl)) (by decide) (by decide)) (by rfl) (by rfl)) (g_name (i := 6) sc_with_periods.nd rfl (by first | exact .inl rfl | exact .inr rfl) (by first | exact .inl rfl | exact .inr rfl))
    (s_cons (s_asg (e_tup (a_cons (e_ix (e_var (i := 4) rfl (by first | exact Or.inl rfl | exact Or.inr (Or.inl rfl) | exact Or.inr (Or.inr rfl)) (by decide) (by decide)) (e_var (i := 6) rfl (by first | exact Or.inl rfl | exact Or.inr (Or.inl rfl) | exact Or.inr (Or.inr rfl)) (by decide) (by decide)) (by intro _ _; rfl)) (a_cons (e_ix (e_var (i := 4) rfl (by first | exact Or.inl rfl | exact Or.inr (Or.inl rfl) | exact Or.inr (Or.inr rfl)) (by decide) (by decide)) (e_op o_sub (e_var (i := 6) rfl (by first | exact Or.inl rfl | exact Or.inr (Or.inl rfl) | exact Or.inr (Or.inr rfl)) (by decide) (by decide)) (e_var (i := 5) rfl (by first | exact Or.inl rfl | exact Or.inr (Or.inl rfl) | exact Or.inr (Or.inr rfl)) (by decide) (by decide))) (by intro _ _; rfl)) a_nil (by rfl)) (by rfl))) (g_tup rfl (gs_cons (g_name (i := 7) sc_with_periods.nd rfl (by first | exact .inl rfl | exact .inr rfl) (by first | exact .inl rfl | exact .inr rfl)) (gs_cons (g_name (i := 8) sc_with_periods.nd rfl (by first | exact .inl rfl | exact .inr rfl) (by first | exact .inl rfl | exact .inr rfl)) gs_nil (by rfl)) (by rfl)) (by rfl) (by rfl)) (by rfl) (by rfl) (by rfl))
    (s_one (s_setLc (i := 4) rfl sc_with_periods.nd rfl rfl (sw_true rfl rfl rfl (by decide +kernel)) (i_seq (e_var (i := 4) rfl (by first | exact Or.inl rfl | exact Or.inr (Or.inl rfl) | exact Or.inr (Or.inr rfl)) (by decide) (by decide))) (blkOk_by (own := [("head", 9)]) (N := N_with_periods) (by kernel_rfl)) (fun _ => (g_name (i := 9) sc_with_periods.nd rfl (by first | exact .inl rfl | exact .inr rfl) (by first | exact .inl rfl | exact .inr rfl))) (fun _ => p_nil) (fun _ => (e_if (t_cmp (o_eq hr.units) (e_var (i := 9) rfl (by first | exact Or.inl rfl | exact Or.inr (Or.inl rfl) | exact Or.inr (Or.inr rfl)) (by decide) (by decide)) (e_var (i := 7) rfl (by first | exact Or.inl rfl | exact Or.inr (Or.inl rfl) | exact Or.inr (Or.inr rfl)) (by decide) (by decide)) (nomark _)) (e_var (i := 8) rfl (by first | exact Or.inl rfl | exact Or.inr (Or.inl rfl) | exact Or.inr (Or.inr rfl)) (by decide) (by decide)) (e_var (i := 9) rfl (by first | exact Or.inl rfl | exact Or.inr (Or.inl rfl) | exact Or.inr (Or.inr rfl)) (by decide) (by decide)))) rfl (by decide) (by intro _; rfl)))) (by intro _; rfl))) (by intro _; rfl))
    (s_one (s_ret (e_lenSet rfl Z.b_len rfl Z.b_set (e_var (i := 4) rfl (by first | exact Or.inl rfl | exact Or.inr (Or.inl rfl) | exact Or.inr (Or.inr rfl)) (by decide) (by decide)) rfl (by rfl)))))))
theorem ok_with_periods (Z : Fa K mg) (h : Here K mg "with_periods" s_with_periods ["length", "first", "second"]) (d_is_number : Dn P w K mg base T "is_number" 1 1 F_is_number) : Dn P w K mg base T "with_periods" 2 3 F_with_periods := by
  obtain ⟨f, fd, hF, hm, hk, hb⟩ := h
  exact ⟨f, fd, _, hm, hk, hb, okx_with_periods Z hF d_is_number⟩
abbrev s_law_hand : Stmt := top 27
abbrev N_law_hand : List Str := ["script", "cells", "cell"]
theorem sc_law_hand : FnScope N_law_hand ["script"] (defScope s_law_hand) := ⟨rfl, rfl, rfl, by decide +kernel, rfl, by decide +kernel, by decide +kernel⟩
def b_law_hand : FS := (seqS (setS 1 (compE (itemsI (slE (vr 0) noO (soO (cn (.int 63))))) (tgN 2) yesT (bifE absD (consA (bifE intD (consA (vr 2) nilA)) nilA)) [2]))
    (retS (newE (consA (vr 1) (consA (cn (.int 0)) (consA (cn (.int 0)) (consA (bop addD (cn (.int 18701)) (bop mulD (cn (.int 43)) (bifE lenD (consA (vr 1) nilA)))) (consA (cn (.int 0)) nilA))))))))
def F_law_hand : FF := defF 3 b_law_hand
theorem okx_law_hand (Z : Fa K mg) {f : Addr} {fd : FuncData} (hF : Fun K "_law_hand" "_law_hand" s_law_hand f fd)  : FnOk P w K mg base (L2.CX P w) 1 f fd ["script"] (spF K T 1 F_law_hand) :=
  fn_ok hF sc_law_hand rfl (by decide) fun cdv A outer s H E hr => (s_cons (s_setLc (i := 1) rfl sc_law_hand.nd rfl rfl (sw_true rfl rfl rfl (by decide +kernel)) (i_seq (e_sl (e_var (i := 0) rfl (by first | exact Or.inl rfl | exact Or.inr (Or.inl rfl) | exact Or.inr (Or.inr rfl)) (by decide) (by decide)) o_no (o_so e_int))) (blkOk_by (own := [("cell", 2)]) (N := N_law_hand) (by kernel_rfl)) (fun _ => (g_name (i := 2) sc_law_hand.nd rfl (by first | exact .inl rfl | exact .inr rfl) (by first | exact .inl rfl | exact .inr rfl))) (fun _ => p_nil) (fun _ => (e_bif c_abs rfl Z.b_abs (by decide +kernel) (a_cons (e_bty c_int rfl Z.b_int (by decide +kernel) (a_cons (e_var (i := 2) rfl (by first | exact Or.inl rfl | exact Or.inr (Or.inl rfl) | exact Or.inr (Or.inr rfl)) (by decide) (by decide)) a_nil (by rfl)) (by decide) (by decide) (by rfl) (by rfl)) a_nil (by rfl)) (by decide) (by decide) (by rfl) (by rfl))) rfl (by decide) (by intro _; rfl))
    (s_one (s_ret (e_new (a_cons (e_var (i := 1) rfl (by first | exact Or.inl rfl | exact Or.inr (Or.inl rfl) | exact Or.inr (Or.inr rfl)) (by decide) (by decide)) (a_cons e_int (a_cons e_int (a_cons (e_op o_add e_int (e_op o_mul e_int (e_bif c_len rfl Z.b_len (by decide +kernel) (a_cons (e_var (i := 1) rfl (by first | exact Or.inl rfl | exact Or.inr (Or.inl rfl) | exact Or.inr (Or.inr rfl)) (by decide) (by decide)) a_nil (by rfl)) (by decide) (by decide) (by rfl) (by rfl)))) (a_cons e_int a_nil (by rfl)) (by rfl)) (by rfl)) (by rfl)) (by rfl))))))
theorem ok_law_hand (Z : Fa K mg) (h : Here K mg "_law_hand" s_law_hand ["script"])  : Dn P w K mg base T "_law_hand" 1 1 F_law_hand := by
  obtain ⟨f, fd, hF, hm, hk, hb⟩ := h
  exact ⟨f, fd, _, hm, hk, hb, okx_law_hand Z hF ⟩
abbrev s_law_draw : Stmt := top 28
abbrev N_law_draw : List Str := ["hand", "many", "cell", "digit", "number"]
theorem sc_law_draw : FnScope N_law_draw ["hand", "many"] (defScope s_law_draw) := ⟨rfl, rfl, rfl, by decide +kernel, rfl, by decide +kernel, by decide +kernel⟩
def b_law_draw : FS := (seqS (ifS (andT (tst (bop eqD (ixE (vr 0) (cn (.int 2))) (cn (.int 0)))) (tst (bop ltD (ixE (vr 0) (cn (.int 1))) (bifE lenD (consA (ixE (vr 0) (cn (.int 0))) nilA))))) (seqS (setS 2 (ixE (ixE (vr 0) (cn (.int 0))) (ixE (vr 0) (cn (.int 1)))))
    (seqS (setIx (vr 0) (cn (.int 1)) (bop addD (ixE (vr 0) (cn (.int 1))) (cn (.int 1))))
    (seqS (setIx (vr 0) (cn (.int 3)) (bop modD (bifE intD (consA (bop addD (bop addD (bop mulD (ixE (vr 0) (cn (.int 3))) (cn (.int 69621))) (bop mulD (vr 2) (cn (.int 31)))) (cn (.int 17))) nilA)) (cn (.int 2147483647))))
    (ifS (tst (bop geD (vr 2) (bop powD (cn (.int 10)) (cn (.int 18))))) (setIx (vr 0) (cn (.int 2)) (vr 2)) nxS)))) nxS)
    (seqS (ifS (tst (bop gtD (ixE (vr 0) (cn (.int 2))) (cn (.int 0)))) (seqS (setS 3 (bop modD (bifE intD (consA (ixE (vr 0) (cn (.int 2))) nilA)) (vr 1)))
    (seqS (setIx (vr 0) (cn (.int 2)) (bop fdivD (ixE (vr 0) (cn (.int 2))) (vr 1)))
    (retS (vr 3)))) nxS)
    (seqS (setIx (vr 0) (cn (.int 4)) (bop addD (ixE (vr 0) (cn (.int 4))) (cn (.int 1))))
    (seqS (setS 4 (bop modD (bifE intD (consA (bop mulD (bifE intD (consA (bop addD (ixE (vr 0) (cn (.int 3))) (bop mulD (cn (.int 8191)) (ixE (vr 0) (cn (.int 4))))) nilA)) (cn (.int 48271))) nilA)) (cn (.int 2147483647))))
    (seqS (setS 4 (bop modD (bifE intD (consA (bop mulD (vr 4) (bop addD (bop fdivD (vr 4) (cn (.int 1021))) (cn (.int 16807)))) nilA)) (cn (.int 2147483629))))
    (seqS (setS 4 (bop modD (bifE intD (consA (bop mulD (vr 4) (bop addD (bop fdivD (vr 4) (cn (.int 2039))) (cn (.int 69621)))) nilA)) (cn (.int 2147483587))))
    (retS (bop modD (bifE intD (consA (bop fdivD (vr 4) (cn (.int 32))) nilA)) (vr 1)))))))))
def F_law_draw : FF := defF 5 b_law_draw
theorem okx_law_draw (Z : Fa K mg) {f : Addr} {fd : FuncData} (hF : Fun K "_law_draw" "_law_draw" s_law_draw f fd)  : FnOk P w K mg base (L2.CX P w) 1 f fd ["hand", "many"] (spF K T 2 F_law_draw) :=
  fn_ok hF sc_law_draw rfl (by decide) fun cdv A outer s H E hr => (s_cons (s_if (w_pt (w_and (t_cmp (o_eq hr.units) (e_ix (e_var (i := 0) rfl (by first | exact Or.inl rfl | exact Or.inr (Or.inl rfl) | exact Or.inr (Or.inr rfl)) (by decide) (by decide)) e_int (by intro _ _; rfl)) e_int (nomark _)) (w_and1 (t_cmp o_lt (e_ix (e_var (i := 0) rfl (by first | exact Or.inl rfl | exact Or.inr (Or.inl rfl) | exact Or.inr (Or.inr rfl)) (by decide) (by decide)) e_int (by intro _ _; rfl)) (e_bif c_len rfl Z.b_len (by decide +kernel) (a_cons (e_ix (e_var (i := 0) rfl (by first | exact Or.inl rfl | exact Or.inr (Or.inl rfl) | exact Or.inr (Or.inr rfl)) (by decide) (by decide)) e_int (by intro _ _; rfl)) a_nil (by rfl)) (by decide) (by decide) (by rfl) (by rfl)) (nomark _))))) (s_cons (s_set (i := 2) sc_law_draw.nd (e_ix (e_ix (e_var (i := 0) rfl (by first | exact Or.inl rfl | exact Or.inr (Or.inl rfl) | exact Or.inr (Or.inr rfl)) (by decide) (by decide)) e_int (by intro _ _; rfl)) (e_ix (e_var (i := 0) rfl (by first | exact Or.inl rfl | exact Or.inr (Or.inl rfl) | exact Or.inr (Or.inr rfl)) (by decide) (by decide)) e_int (by intro _ _; rfl)) (by intro _ _; rfl)) rfl (by first | exact .inl rfl | exact .inr rfl) (by rfl) (by first | exact .inl rfl | exact .inr rfl))
    (s_cons (s_setIx (e_var (i := 0) rfl (by first | exact Or.inl rfl | exact Or.inr (Or.inl rfl) | exact Or.inr (Or.inr rfl)) (by decide) (by decide)) e_int (e_op o_add (e_ix (e_var (i := 0) rfl (by first | exact Or.inl rfl | exact Or.inr (Or.inl rfl) | exact Or.inr (Or.inr rfl)) (by decide) (by decide)) e_int (by intro _ _; rfl)) e_int) (by intro _; rfl) (by rfl) (by rfl) (by rfl))
    (s_cons (s_setIx (e_var (i := 0) rfl (by first | exact Or.inl rfl | exact Or.inr (Or.inl rfl) | exact Or.inr (Or.inr rfl)) (by decide) (by decide)) e_int (e_op o_mod (e_bty c_int rfl Z.b_int (by decide +kernel) (a_cons (e_op o_add (e_op o_add (e_op o_mul (e_ix (e_var (i := 0) rfl (by first | exact Or.inl rfl | exact Or.inr (Or.inl rfl) | exact Or.inr (Or.inr rfl)) (by decide) (by decide)) e_int (by intro _ _; rfl)) e_int) (e_op o_mul (e_var (i := 2) rfl (by first | exact Or.inl rfl | exact Or.inr (Or.inl rfl) | exact Or.inr (Or.inr rfl)) (by decide) (by decide)) e_int)) e_int) a_nil (by rfl)) (by decide) (by decide) (by rfl) (by rfl)) e_int) (by intro _; rfl) (by rfl) (by rfl) (by rfl))
    (s_one (s_if (t_cmp o_ge (e_var (i := 2) rfl (by first | exact Or.inl rfl | exact Or.inr (Or.inl rfl) | exact Or.inr (Or.inr rfl)) (by decide) (by decide)) (e_op o_pow e_int e_int) (nomark _)) (s_one (s_setIx (e_var (i := 0) rfl (by first | exact Or.inl rfl | exact Or.inr (Or.inl rfl) | exact Or.inr (Or.inr rfl)) (by decide) (by decide)) e_int (e_var (i := 2) rfl (by first | exact Or.inl rfl | exact Or.inr (Or.inl rfl) | exact Or.inr (Or.inr rfl)) (by decide) (by decide)) (by intro _; rfl) (by rfl) (by rfl) (by rfl))) s_nil))))) s_nil)
    (s_cons (s_if (t_cmp o_gt (e_ix (e_var (i := 0) rfl (by first | exact Or.inl rfl | exact Or.inr (Or.inl rfl) | exact Or.inr (Or.inr rfl)) (by decide) (by decide)) e_int (by intro _ _; rfl)) e_int (nomark _)) (s_cons (s_set (i := 3) sc_law_draw.nd (e_op o_mod (e_bty c_int rfl Z.b_int (by decide +kernel) (a_cons (e_ix (e_var (i := 0) rfl (by first | exact Or.inl rfl | exact Or.inr (Or.inl rfl) | exact Or.inr (Or.inr rfl)) (by decide) (by decide)) e_int (by intro _ _; rfl)) a_nil (by rfl)) (by decide) (by decide) (by rfl) (by rfl)) (e_var (i := 1) rfl (by first | exact Or.inl rfl | exact Or.inr (Or.inl rfl) | exact Or.inr (Or.inr rfl)) (by decide) (by decide))) rfl (by first | exact .inl rfl | exact .inr rfl) (by rfl) (by first | exact .inl rfl | exact .inr rfl))
    (s_cons (s_setIx (e_var (i := 0) rfl (by first | exact Or.inl rfl | exact Or.inr (Or.inl rfl) | exact Or.inr (Or.inr rfl)) (by decide) (by decide)) e_int (e_op o_fdiv (e_ix (e_var (i := 0) rfl (by first | exact Or.inl rfl | exact Or.inr (Or.inl rfl) | exact Or.inr (Or.inr rfl)) (by decide) (by decide)) e_int (by intro _ _; rfl)) (e_var (i := 1) rfl (by first | exact Or.inl rfl | exact Or.inr (Or.inl rfl) | exact Or.inr (Or.inr rfl)) (by decide) (by decide))) (by intro _; rfl) (by rfl) (by rfl) (by rfl))
    (s_one (s_ret (e_var (i := 3) rfl (by first | exact Or.inl rfl | exact Or.inr (Or.inl rfl) | exact Or.inr (Or.inr rfl)) (by decide) (by decide)))))) s_nil)
    (s_cons (s_setIx (e_var (i := 0) rfl (by first | exact Or.inl rfl | exact Or.inr (Or.inl rfl) | exact Or.inr (Or.inr rfl)) (by decide) (by decide)) e_int (e_op o_add (e_ix (e_var (i := 0) rfl (by first | exact Or.inl rfl | exact Or.inr (Or.inl rfl) | exact Or.inr (Or.inr rfl)) (by decide) (by decide)) e_int (by intro _ _; rfl)) e_int) (by intro _; rfl) (by rfl) (by rfl) (by rfl))
    (s_cons (s_set (i := 4) sc_law_draw.nd (e_op o_mod (e_bty c_int rfl Z.b_int (by decide +kernel) (a_cons (e_op o_mul (e_bty c_int rfl Z.b_int (by decide +kernel) (a_cons (e_op o_add (e_ix (e_var (i := 0) rfl (by first | exact Or.inl rfl | exact Or.inr (Or.inl rfl) | exact Or.inr (Or.inr rfl)) (by decide) (by decide)) e_int (by intro _ _; rfl)) (e_op o_mul e_int (e_ix (e_var (i := 0) rfl (by first | exact Or.inl rfl | exact Or.inr (Or.inl rfl) | exact Or.inr (Or.inr rfl)) (by decide) (by decide)) e_int (by intro _ _; rfl)))) a_nil (by rfl)) (by decide) (by decide) (by rfl) (by rfl)) e_int) a_nil (by rfl)) (by decide) (by decide) (by rfl) (by rfl)) e_int) rfl (by first | exact .inl rfl | exact .inr rfl) (by rfl) (by first | exact .inl rfl | exact .inr rfl))
    (s_cons (s_set (i := 4) sc_law_draw.nd (e_op o_mod (e_bty c_int rfl Z.b_int (by decide +kernel) (a_cons (e_op o_mul (e_var (i := 4) rfl (by first | exact Or.inl rfl | exact Or.inr (Or.inl rfl) | exact Or.inr (Or.inr rfl)) (by decide) (by decide)) (e_op o_add (e_op o_fdiv (e_var (i := 4) rfl (by first | exact Or.inl rfl | exact Or.inr (Or.inl rfl) | exact Or.inr (Or.inr rfl)) (by decide) (by decide)) e_int) e_int)) a_nil (by rfl)) (by decide) (by decide) (by rfl) (by rfl)) e_int) rfl (by first | exact .inl rfl | exact .inr rfl) (by rfl) (by first | exact .inl rfl | exact .inr rfl))
    (s_cons (s_set (i := 4) sc_law_draw.nd (e_op o_mod (e_bty c_int rfl Z.b_int (by decide +kernel) (a_cons (e_op o_mul (e_var (i := 4) rfl (by first | exact Or.inl rfl | exact Or.inr (Or.inl rfl) | exact Or.inr (Or.inr rfl)) (by decide) (by decide)) (e_op o_add (e_op o_fdiv (e_var (i := 4) rfl (by first | exact Or.inl rfl | exact Or.inr (Or.inl rfl) | exact Or.inr (Or.inr rfl)) (by decide) (by decide)) e_int) e_int)) a_nil (by rfl)) (by decide) (by decide) (by rfl) (by rfl)) e_int) rfl (by first | exact .inl rfl | exact .inr rfl) (by rfl) (by first | exact .inl rfl | exact .inr rfl))
    (s_one (s_ret (e_op o_mod (e_bty c_int rfl Z.b_int (by decide +kernel) (a_cons (e_op o_fdiv (e_var (i := 4) rfl (by first | exact Or.inl rfl | exact Or.inr (Or.inl rfl) | exact Or.inr (Or.inr rfl)) (by decide) (by decide)) e_int) a_nil (by rfl)) (by decide) (by decide) (by rfl) (by rfl)) (e_var (i := 1) rfl (by first | exact Or.inl rfl | exact Or.inr (Or.inl rfl) | exact Or.inr (Or.inr rfl)) (by decide) (by decide)))))))))))
theorem ok_law_draw (Z : Fa K mg) (h : Here K mg "_law_draw" s_law_draw ["hand", "many"])  : Dn P w K mg base T "_law_draw" 1 2 F_law_draw := by
  obtain ⟨f, fd, hF, hm, hk, hb⟩ := h
  exact ⟨f, fd, _, hm, hk, hb, okx_law_draw Z hF ⟩
abbrev s_law_some : Stmt := top 29
abbrev N_law_some : List Str := ["hand", "things"]
theorem sc_law_some : FnScope N_law_some ["hand", "things"] (defScope s_law_some) := ⟨rfl, rfl, rfl, by decide +kernel, rfl, by decide +kernel, by decide +kernel⟩
def b_law_some : FS := (retS (ixE (vr 1) (callE (arity 2 F_law_draw) (consA (vr 0) (consA (bifE lenD (consA (vr 1) nilA)) nilA)))))
def F_law_some : FF := defF 2 b_law_some
theorem okx_law_some (Z : Fa K mg) {f : Addr} {fd : FuncData} (hF : Fun K "_law_some" "_law_some" s_law_some f fd) (d_law_draw : Dn P w K mg base T "_law_draw" 1 2 F_law_draw) : FnOk P w K mg base (L2.CX P w) 2 f fd ["hand", "things"] (spF K T 2 F_law_some) :=
  fn_ok hF sc_law_some rfl (by decide) fun cdv A outer s H E hr => (s_one (s_ret (e_ix (e_var (i := 1) rfl (by first | exact Or.inl rfl | exact Or.inr (Or.inl rfl) | exact Or.inr (Or.inr rfl)) (by decide) (by decide)) (e_callD (takes_of rfl rfl rfl rfl) d_law_draw (hr.mono (by decide)) rfl (a_cons (e_var (i := 0) rfl (by first | exact Or.inl rfl | exact Or.inr (Or.inl rfl) | exact Or.inr (Or.inr rfl)) (by decide) (by decide)) (a_cons (e_bif c_len rfl Z.b_len (by decide +kernel) (a_cons (e_var (i := 1) rfl (by first | exact Or.inl rfl | exact Or.inr (Or.inl rfl) | exact Or.inr (Or.inr rfl)) (by decide) (by decide)) a_nil (by rfl)) (by decide) (by decide) (by rfl) (by rfl)) a_nil (by rfl)) (by rfl)) (by decide) (by rfl) (by rfl)) (by intro _ _; rfl))))
theorem ok_law_some (Z : Fa K mg) (h : Here K mg "_law_some" s_law_some ["hand", "things"]) (d_law_draw : Dn P w K mg base T "_law_draw" 1 2 F_law_draw) : Dn P w K mg base T "_law_some" 2 2 F_law_some := by
  obtain ⟨f, fd, hF, hm, hk, hb⟩ := h
  exact ⟨f, fd, _, hm, hk, hb, okx_law_some Z hF d_law_draw⟩
abbrev s_law_is : Stmt := top 30
abbrev N_law_is : List Str := ["said", "due", "one", "other"]
theorem sc_law_is : FnScope N_law_is ["said", "due"] (defScope s_law_is) := ⟨rfl, rfl, rfl, by decide +kernel, rfl, by decide +kernel, by decide +kernel⟩
def b_law_is (FR : FF) : FS := (seqS (ifS (orT (tst (isiE .tuple (vr 1))) (tst (isiE .list (vr 1)))) (seqS (ifS (orT (tst (bop neD (isiE .tuple (vr 0)) (isiE .tuple (vr 1)))) (tst (bop neD (isiE .list (vr 0)) (isiE .list (vr 1))))) (retS (cn (.bl false))) nxS)
    (retS (andE (bop eqD (bifE lenD (consA (vr 0) nilA)) (bifE lenD (consA (vr 1) nilA))) (bifE allBD (consA (compE (zipI (vr 0) (vr 1)) (tgT (tgCons (tgN 2) (tgCons (tgN 3) tgNil))) yesT (callE (arity 2 FR) (consA (vr 2) (consA (vr 3) nilA))) [2, 3]) nilA))))) nxS)
    (seqS (ifS (orT (tst (bop isnD (vr 1) (cn .non))) (tst (bop isnD (vr 0) (cn .non)))) (retS (andE (bop isnD (vr 1) (cn .non)) (bop isnD (vr 0) (cn .non)))) nxS)
    (seqS (ifS (orT (tst (bop neD (isiE .bool (vr 0)) (isiE .bool (vr 1)))) (tst (bop neD (isiE .int (vr 0)) (isiE .int (vr 1))))) (retS (cn (.bl false))) nxS)
    (retS (andE (bop eqD (isiE .str (vr 0)) (isiE .str (vr 1))) (bop eqD (vr 0) (vr 1)))))))
def F_law_is : Nat → FF
  | 0 => fun _ _ => .bad
  | n + 1 => defF 4 (b_law_is (F_law_is n))
theorem ok_law_is (Z : Fa K mg) (h : Here K mg "_law_is" s_law_is ["said", "due"])  : ∀ n, Dn P w K mg base T "_law_is" (n + 0) 2 (F_law_is n) := by
  obtain ⟨f, fd, hF, hm, hk, hb⟩ := h
  intro n
  refine ⟨f, fd, _, hm, hk, hb, ?_⟩
  induction n with
  | zero => exact (fn_zero rfl).mono (Nat.zero_le _)
  | succ n ih =>
    have IH : Dn P w K mg base T "_law_is" (n + 0) 2 (F_law_is n) := ⟨f, fd, _, hm, hk, hb, ih⟩
    exact (fn_ok (k := n + 0) hF sc_law_is rfl (by decide) fun cdv A outer s H E hr => (s_cons (s_if (w_pt (w_or (t_val (e_isi (b := .tuple) rfl Z.b_isinstance rfl Z.b_tuple (by decide +kernel) (e_var (i := 1) rfl (by first | exact Or.inl rfl | exact Or.inr (Or.inl rfl) | exact Or.inr (Or.inr rfl)) (by decide) (by decide)) (by decide) (by decide) (by rfl) (by rfl) (by rfl)) (by intro _; rfl)) (w_or1 (t_val (e_isi (b := .list) rfl Z.b_isinstance rfl Z.b_list (by decide +kernel) (e_var (i := 1) rfl (by first | exact Or.inl rfl | exact Or.inr (Or.inl rfl) | exact Or.inr (Or.inr rfl)) (by decide) (by decide)) (by decide) (by decide) (by rfl) (by rfl) (by rfl)) (by intro _; rfl))))) (s_cons (s_if (w_pt (w_or (t_cmp (o_ne hr.units) (e_isi (b := .tuple) rfl Z.b_isinstance rfl Z.b_tuple (by decide +kernel) (e_var (i := 0) rfl (by first | exact Or.inl rfl | exact Or.inr (Or.inl rfl) | exact Or.inr (Or.inr rfl)) (by decide) (by decide)) (by decide) (by decide) (by rfl) (by rfl) (by rfl)) (e_isi (b := .tuple) rfl Z.b_isinstance rfl Z.b_tuple (by decide +kernel) (e_var (i := 1) rfl (by first | exact Or.inl rfl | exact Or.inr (Or.inl rfl) | exact Or.inr (Or.inr rfl)) (by decide) (by decide)) (by decide) (by decide) (by rfl) (by rfl) (by rfl)) (nomark _)) (w_or1 (t_cmp (o_ne hr.units) (e_isi (b := .list) rfl Z.b_isinstance rfl Z.b_list (by decide +kernel) (e_var (i := 0) rfl (by first | exact Or.inl rfl | exact Or.inr (Or.inl rfl) | exact Or.inr (Or.inr rfl)) (by decide) (by decide)) (by decide) (by decide) (by rfl) (by rfl) (by rfl)) (e_isi (b := .list) rfl Z.b_isinstance rfl Z.b_list (by decide +kernel) (e_var (i := 1) rfl (by first | exact Or.inl rfl | exact Or.inr (Or.inl rfl) | exact Or.inr (Or.inr rfl)) (by decide) (by decide)) (by decide) (by decide) (by rfl) (by rfl) (by rfl)) (nomark _))))) (s_one (s_ret e_bl)) s_nil)
    (s_one (s_ret (e_and (e_cmp (o_eq hr.units) (e_bif c_len rfl Z.b_len (by decide +kernel) (a_cons (e_var (i := 0) rfl (by first | exact Or.inl rfl | exact Or.inr (Or.inl rfl) | exact Or.inr (Or.inr rfl)) (by decide) (by decide)) a_nil (by rfl)) (by decide) (by decide) (by rfl) (by rfl)) (e_bif c_len rfl Z.b_len (by decide +kernel) (a_cons (e_var (i := 1) rfl (by first | exact Or.inl rfl | exact Or.inr (Or.inl rfl) | exact Or.inr (Or.inr rfl)) (by decide) (by decide)) a_nil (by rfl)) (by decide) (by decide) (by rfl) (by rfl)) (nomark _)) (e_one (e_bif (c_all rfl) rfl Z.b_all (by decide +kernel) (a_cons (e_lc rfl sc_law_is.nd (i_zip rfl Z.b_zip (e_var (i := 0) rfl (by first | exact Or.inl rfl | exact Or.inr (Or.inl rfl) | exact Or.inr (Or.inr rfl)) (by decide) (by decide)) (e_var (i := 1) rfl (by first | exact Or.inl rfl | exact Or.inr (Or.inl rfl) | exact Or.inr (Or.inr rfl)) (by decide) (by decide)) (by rfl) (by rfl) (by rfl)) (blkOk_by (own := [("one", 2), ("other", 3)]) (N := N_law_is) (by kernel_rfl)) (fun _ => (g_tup rfl (gs_cons (g_name (i := 2) sc_law_is.nd rfl (by first | exact .inl rfl | exact .inr rfl) (by first | exact .inl rfl | exact .inr rfl)) (gs_cons (g_name (i := 3) sc_law_is.nd rfl (by first | exact .inl rfl | exact .inr rfl) (by first | exact .inl rfl | exact .inr rfl)) gs_nil (by rfl)) (by rfl)) (by rfl) (by rfl))) (fun _ => p_nil) (fun _ => (e_callD takes0 IH (hr.mono (by omega)) rfl (a_cons (e_var (i := 2) rfl (by first | exact Or.inl rfl | exact Or.inr (Or.inl rfl) | exact Or.inr (Or.inr rfl)) (by decide) (by decide)) (a_cons (e_var (i := 3) rfl (by first | exact Or.inl rfl | exact Or.inr (Or.inl rfl) | exact Or.inr (Or.inr rfl)) (by decide) (by decide)) a_nil (by rfl)) (by rfl)) (by decide) (by rfl) (by rfl))) rfl (by decide) (by intro _; rfl)) a_nil (by rfl)) (by decide) (by decide) (by rfl) (by rfl))))))) s_nil)
    (s_cons (s_if (w_pt (w_or (t_cmp o_isn (e_var (i := 1) rfl (by first | exact Or.inl rfl | exact Or.inr (Or.inl rfl) | exact Or.inr (Or.inr rfl)) (by decide) (by decide)) e_non (nomark _)) (w_or1 (t_cmp o_isn (e_var (i := 0) rfl (by first | exact Or.inl rfl | exact Or.inr (Or.inl rfl) | exact Or.inr (Or.inr rfl)) (by decide) (by decide)) e_non (nomark _))))) (s_one (s_ret (e_and (e_cmp o_isn (e_var (i := 1) rfl (by first | exact Or.inl rfl | exact Or.inr (Or.inl rfl) | exact Or.inr (Or.inr rfl)) (by decide) (by decide)) e_non (nomark _)) (e_one (e_cmp o_isn (e_var (i := 0) rfl (by first | exact Or.inl rfl | exact Or.inr (Or.inl rfl) | exact Or.inr (Or.inr rfl)) (by decide) (by decide)) e_non (nomark _)))))) s_nil)
    (s_cons (s_if (w_pt (w_or (t_cmp (o_ne hr.units) (e_isi (b := .bool) rfl Z.b_isinstance rfl Z.b_bool (by decide +kernel) (e_var (i := 0) rfl (by first | exact Or.inl rfl | exact Or.inr (Or.inl rfl) | exact Or.inr (Or.inr rfl)) (by decide) (by decide)) (by decide) (by decide) (by rfl) (by rfl) (by rfl)) (e_isi (b := .bool) rfl Z.b_isinstance rfl Z.b_bool (by decide +kernel) (e_var (i := 1) rfl (by first | exact Or.inl rfl | exact Or.inr (Or.inl rfl) | exact Or.inr (Or.inr rfl)) (by decide) (by decide)) (by decide) (by decide) (by rfl) (by rfl) (by rfl)) (nomark _)) (w_or1 (t_cmp (o_ne hr.units) (e_isi (b := .int) rfl Z.b_isinstance rfl Z.b_int (by decide +kernel) (e_var (i := 0) rfl (by first | exact Or.inl rfl | exact Or.inr (Or.inl rfl) | exact Or.inr (Or.inr rfl)) (by decide) (by decide)) (by decide) (by decide) (by rfl) (by rfl) (by rfl)) (e_isi (b := .int) rfl Z.b_isinstance rfl Z.b_int (by decide +kernel) (e_var (i := 1) rfl (by first | exact Or.inl rfl | exact Or.inr (Or.inl rfl) | exact Or.inr (Or.inr rfl)) (by decide) (by decide)) (by decide) (by decide) (by rfl) (by rfl) (by rfl)) (nomark _))))) (s_one (s_ret e_bl)) s_nil)
    (s_one (s_ret (e_and (e_cmp (o_eq hr.units) (e_isi (b := .str) rfl Z.b_isinstance rfl Z.b_str (by decide +kernel) (e_var (i := 0) rfl (by first | exact Or.inl rfl | exact Or.inr (Or.inl rfl) | exact Or.inr (Or.inr rfl)) (by decide) (by decide)) (by decide) (by decide) (by rfl) (by rfl) (by rfl)) (e_isi (b := .str) rfl Z.b_isinstance rfl Z.b_str (by decide +kernel) (e_var (i := 1) rfl (by first | exact Or.inl rfl | exact Or.inr (Or.inl rfl) | exact Or.inr (Or.inr rfl)) (by decide) (by decide)) (by decide) (by decide) (by rfl) (by rfl) (by rfl)) (nomark _)) (e_one (e_cmp (o_eq hr.units) (e_var (i := 0) rfl (by first | exact Or.inl rfl | exact Or.inr (Or.inl rfl) | exact Or.inr (Or.inr rfl)) (by decide) (by decide)) (e_var (i := 1) rfl (by first | exact Or.inl rfl | exact Or.inr (Or.inl rfl) | exact Or.inr (Or.inr rfl)) (by decide) (by decide)) (nomark _)))))))))).mono (by omega)
abbrev s_law_gcd : Stmt := top 31
abbrev N_law_gcd : List Str := ["one", "other"]
theorem sc_law_gcd : FnScope N_law_gcd ["one", "other"] (defScope s_law_gcd) := ⟨rfl, rfl, rfl, by decide +kernel, rfl, by decide +kernel, by decide +kernel⟩
def b_law_gcd : FS := (seqS (whileS (tst (bop gtD (vr 1) (cn (.int 0))))
    (parS 0 1 (vr 1) (bop modD (bifE intD (consA (vr 0) nilA)) (vr 1))) FUEL)
    (retS (vr 0)))
def F_law_gcd : FF := defF 2 b_law_gcd
theorem okx_law_gcd (Z : Fa K mg) {f : Addr} {fd : FuncData} (hF : Fun K "_law_gcd" "_law_gcd" s_law_gcd f fd)  : FnOk P w K mg base (L2.CX P w) 1 f fd ["one", "other"] (spF K T 2 F_law_gcd) :=
  fn_ok hF sc_law_gcd rfl (by decide) fun cdv A outer s H E hr => (s_cons (s_while (n := FUEL) (passes_of rfl) (t_cmp o_gt (e_var (i := 1) rfl (by first | exact Or.inl rfl | exact Or.inr (Or.inl rfl) | exact Or.inr (Or.inr rfl)) (by decide) (by decide)) e_int (nomark _))
    (s_one (s_par (i := 0) (j := 1) rfl sc_law_gcd.nd (e_var (i := 1) rfl (by first | exact Or.inl rfl | exact Or.inr (Or.inl rfl) | exact Or.inr (Or.inr rfl)) (by decide) (by decide)) (e_op o_mod (e_bty c_int rfl Z.b_int (by decide +kernel) (a_cons (e_var (i := 0) rfl (by first | exact Or.inl rfl | exact Or.inr (Or.inl rfl) | exact Or.inr (Or.inr rfl)) (by decide) (by decide)) a_nil (by rfl)) (by decide) (by decide) (by rfl) (by rfl)) (e_var (i := 1) rfl (by first | exact Or.inl rfl | exact Or.inr (Or.inl rfl) | exact Or.inr (Or.inr rfl)) (by decide) (by decide))) rfl rfl (by decide) rfl rfl (by rfl) (by rfl) (by rfl) (by rfl))))
    (s_one (s_ret (e_var (i := 0) rfl (by first | exact Or.inl rfl | exact Or.inr (Or.inl rfl) | exact Or.inr (Or.inr rfl)) (by decide) (by decide)))))
theorem ok_law_gcd (Z : Fa K mg) (h : Here K mg "_law_gcd" s_law_gcd ["one", "other"])  : Dn P w K mg base T "_law_gcd" 1 2 F_law_gcd := by
  obtain ⟨f, fd, hF, hm, hk, hb⟩ := h
  exact ⟨f, fd, _, hm, hk, hb, okx_law_gcd Z hF ⟩
abbrev s_law_power : Stmt := top 32
abbrev N_law_power : List Str := ["one", "many", "whole", "turn"]
theorem sc_law_power : FnScope N_law_power ["one", "many"] (defScope s_law_power) := ⟨rfl, rfl, rfl, by decide +kernel, rfl, by decide +kernel, by decide +kernel⟩
def b_law_power : FS := (seqS (setS 2 (cn (.int 1)))
    (seqS (forS (rangeI1 (vr 1)) (tgN 3)
    (setS 2 (bop mulD (vr 2) (vr 0))))
    (retS (vr 2))))
def F_law_power : FF := defF 4 b_law_power
theorem okx_law_power (Z : Fa K mg) {f : Addr} {fd : FuncData} (hF : Fun K "_law_power" "_law_power" s_law_power f fd)  : FnOk P w K mg base (L2.CX P w) 1 f fd ["one", "many"] (spF K T 2 F_law_power) :=
  fn_ok hF sc_law_power rfl (by decide) fun cdv A outer s H E hr => (s_cons (s_set (i := 2) sc_law_power.nd e_int rfl (by first | exact .inl rfl | exact .inr rfl) (by rfl) (by first | exact .inl rfl | exact .inr rfl))
    (s_cons (s_for (passes_of rfl) rfl (i_range1 rfl Z.b_range (e_var (i := 1) rfl (by first | exact Or.inl rfl | exact Or.inr (Or.inl rfl) | exact Or.inr (Or.inr rfl)) (by decide) (by decide)) (by rfl)) (g_name (i := 3) sc_law_power.nd rfl (by first | exact .inl rfl | exact .inr rfl) (by first | exact .inl rfl | exact .inr rfl))
    (s_one (s_set (i := 2) sc_law_power.nd (e_op o_mul (e_var (i := 2) rfl (by first | exact Or.inl rfl | exact Or.inr (Or.inl rfl) | exact Or.inr (Or.inr rfl)) (by decide) (by decide)) (e_var (i := 0) rfl (by first | exact Or.inl rfl | exact Or.inr (Or.inl rfl) | exact Or.inr (Or.inr rfl)) (by decide) (by decide))) rfl (by first | exact .inl rfl | exact .inr rfl) (by rfl) (by first | exact .inl rfl | exact .inr rfl))) (by intro _; rfl))
    (s_one (s_ret (e_var (i := 2) rfl (by first | exact Or.inl rfl | exact Or.inr (Or.inl rfl) | exact Or.inr (Or.inr rfl)) (by decide) (by decide))))))
theorem ok_law_power (Z : Fa K mg) (h : Here K mg "_law_power" s_law_power ["one", "many"])  : Dn P w K mg base T "_law_power" 1 2 F_law_power := by
  obtain ⟨f, fd, hF, hm, hk, hb⟩ := h
  exact ⟨f, fd, _, hm, hk, hb, okx_law_power Z hF ⟩
abbrev s_law_sign : Stmt := top 33
abbrev N_law_sign : List Str := ["number", "sign", "left", "prime"]
theorem sc_law_sign : FnScope N_law_sign ["number"] (defScope s_law_sign) := ⟨rfl, rfl, rfl, by decide +kernel, rfl, by decide +kernel, by decide +kernel⟩
def b_law_sign : FS := (seqS (parS 1 2 (cn (.int 1)) (vr 0))
    (seqS (forS (rangeI2 (cn (.int 2)) (bop addD (vr 0) (cn (.int 1)))) (tgN 3)
    (ifS (tst (bop eqD (bop modD (bifE intD (consA (vr 2) nilA)) (vr 3)) (cn (.int 0)))) (seqS (parS 2 1 (bop fdivD (vr 2) (vr 3)) (bop subD (cn (.int 0)) (vr 1)))
    (ifS (tst (bop eqD (bop modD (bifE intD (consA (vr 2) nilA)) (vr 3)) (cn (.int 0)))) (retS (cn (.int 0))) nxS)) nxS))
    (retS (vr 1))))
def F_law_sign : FF := defF 4 b_law_sign
theorem okx_law_sign (Z : Fa K mg) {f : Addr} {fd : FuncData} (hF : Fun K "_law_sign" "_law_sign" s_law_sign f fd)  : FnOk P w K mg base (L2.CX P w) 1 f fd ["number"] (spF K T 1 F_law_sign) :=
  fn_ok hF sc_law_sign rfl (by decide) fun cdv A outer s H E hr => (s_cons (s_par (i := 1) (j := 2) rfl sc_law_sign.nd e_int (e_var (i := 0) rfl (by first | exact Or.inl rfl | exact Or.inr (Or.inl rfl) | exact Or.inr (Or.inr rfl)) (by decide) (by decide)) rfl rfl (by decide) rfl rfl (by rfl) (by rfl) (by rfl) (by rfl))
    (s_cons (s_for (passes_of rfl) rfl (i_range2 rfl Z.b_range e_int (e_op o_add (e_var (i := 0) rfl (by first | exact Or.inl rfl | exact Or.inr (Or.inl rfl) | exact Or.inr (Or.inr rfl)) (by decide) (by decide)) e_int) (by rfl) (by rfl)) (g_name (i := 3) sc_law_sign.nd rfl (by first | exact .inl rfl | exact .inr rfl) (by first | exact .inl rfl | exact .inr rfl))
    (s_one (s_if (t_cmp (o_eq hr.units) (e_op o_mod (e_bty c_int rfl Z.b_int (by decide +kernel) (a_cons (e_var (i := 2) rfl (by first | exact Or.inl rfl | exact Or.inr (Or.inl rfl) | exact Or.inr (Or.inr rfl)) (by decide) (by decide)) a_nil (by rfl)) (by decide) (by decide) (by rfl) (by rfl)) (e_var (i := 3) rfl (by first | exact Or.inl rfl | exact Or.inr (Or.inl rfl) | exact Or.inr (Or.inr rfl)) (by decide) (by decide))) e_int (nomark _)) (s_cons (s_par (i := 2) (j := 1) rfl sc_law_sign.nd (e_op o_fdiv (e_var (i := 2) rfl (by first | exact Or.inl rfl | exact Or.inr (Or.inl rfl) | exact Or.inr (Or.inr rfl)) (by decide) (by decide)) (e_var (i := 3) rfl (by first | exact Or.inl rfl | exact Or.inr (Or.inl rfl) | exact Or.inr (Or.inr rfl)) (by decide) (by decide))) (e_op o_sub e_int (e_var (i := 1) rfl (by first | exact Or.inl rfl | exact Or.inr (Or.inl rfl) | exact Or.inr (Or.inr rfl)) (by decide) (by decide))) rfl rfl (by decide) rfl rfl (by rfl) (by rfl) (by rfl) (by rfl))
    (s_one (s_if (t_cmp (o_eq hr.units) (e_op o_mod (e_bty c_int rfl Z.b_int (by decide +kernel) (a_cons (e_var (i := 2) rfl (by first | exact Or.inl rfl | exact Or.inr (Or.inl rfl) | exact Or.inr (Or.inr rfl)) (by decide) (by decide)) a_nil (by rfl)) (by decide) (by decide) (by rfl) (by rfl)) (e_var (i := 3) rfl (by first | exact Or.inl rfl | exact Or.inr (Or.inl rfl) | exact Or.inr (Or.inr rfl)) (by decide) (by decide))) e_int (nomark _)) (s_one (s_ret e_int)) s_nil))) s_nil)) (by intro _; rfl))
    (s_one (s_ret (e_var (i := 1) rfl (by first | exact Or.inl rfl | exact Or.inr (Or.inl rfl) | exact Or.inr (Or.inr rfl)) (by decide) (by decide))))))
theorem ok_law_sign (Z : Fa K mg) (h : Here K mg "_law_sign" s_law_sign ["number"])  : Dn P w K mg base T "_law_sign" 1 1 F_law_sign := by
  obtain ⟨f, fd, hF, hm, hk, hb⟩ := h
  exact ⟨f, fd, _, hm, hk, hb, okx_law_sign Z hF ⟩
abbrev s_law_divisors : Stmt := top 34
abbrev N_law_divisors : List Str := ["number", "one"]
theorem sc_law_divisors : FnScope N_law_divisors ["number"] (defScope s_law_divisors) := ⟨rfl, rfl, rfl, by decide +kernel, rfl, by decide +kernel, by decide +kernel⟩
def b_law_divisors : FS := (retS (compE (rangeI2 (cn (.int 1)) (bop addD (vr 0) (cn (.int 1)))) (tgN 1) (tst (bop eqD (bop modD (bifE intD (consA (vr 0) nilA)) (vr 1)) (cn (.int 0)))) (vr 1) [1]))
def F_law_divisors : FF := defF 2 b_law_divisors
theorem okx_law_divisors (Z : Fa K mg) {f : Addr} {fd : FuncData} (hF : Fun K "_law_divisors" "_law_divisors" s_law_divisors f fd)  : FnOk P w K mg base (L2.CX P w) 1 f fd ["number"] (spF K T 1 F_law_divisors) :=
  fn_ok hF sc_law_divisors rfl (by decide) fun cdv A outer s H E hr => (s_one (s_ret (e_lc rfl sc_law_divisors.nd (i_range2 rfl Z.b_range e_int (e_op o_add (e_var (i := 0) rfl (by first | exact Or.inl rfl | exact Or.inr (Or.inl rfl) | exact Or.inr (Or.inr rfl)) (by decide) (by decide)) e_int) (by rfl) (by rfl)) (blkOk_by (own := [("one", 1)]) (N := N_law_divisors) (by kernel_rfl)) (fun _ => (g_name (i := 1) sc_law_divisors.nd rfl (by first | exact .inl rfl | exact .inr rfl) (by first | exact .inl rfl | exact .inr rfl))) (fun _ => (p_one (t_cmp (o_eq hr.units) (e_op o_mod (e_bty c_int rfl Z.b_int (by decide +kernel) (a_cons (e_var (i := 0) rfl (by first | exact Or.inl rfl | exact Or.inr (Or.inl rfl) | exact Or.inr (Or.inr rfl)) (by decide) (by decide)) a_nil (by rfl)) (by decide) (by decide) (by rfl) (by rfl)) (e_var (i := 1) rfl (by first | exact Or.inl rfl | exact Or.inr (Or.inl rfl) | exact Or.inr (Or.inr rfl)) (by decide) (by decide))) e_int (nomark _)))) (fun _ => (e_var (i := 1) rfl (by first | exact Or.inl rfl | exact Or.inr (Or.inl rfl) | exact Or.inr (Or.inr rfl)) (by decide) (by decide))) rfl (by decide) (by intro _; rfl))))
theorem ok_law_divisors (Z : Fa K mg) (h : Here K mg "_law_divisors" s_law_divisors ["number"])  : Dn P w K mg base T "_law_divisors" 1 1 F_law_divisors := by
  obtain ⟨f, fd, hF, hm, hk, hb⟩ := h
  exact ⟨f, fd, _, hm, hk, hb, okx_law_divisors Z hF ⟩
abbrev s_law_are_counts_right : Stmt := top 35
abbrev N_law_are_counts_right : List Str := ["letters", "length", "parts", "roots", "one", "turns", "k"]
theorem sc_law_are_counts_right : FnScope N_law_are_counts_right ["letters", "length"] (defScope s_law_are_counts_right) := ⟨rfl, rfl, rfl, by decide +kernel, rfl, by decide +kernel, by decide +kernel⟩
def b_law_are_counts_right : FS := (seqS (setS 2 (callE (arity 1 F_law_divisors) (consA (vr 1) nilA)))
    (seqS (setS 3 (bifE sumD (consA (compE (itemsI (vr 2)) (tgN 4) yesT (bop mulD (callE (arity 1 F_law_sign) (consA (vr 4) nilA)) (callE (arity 2 F_law_power) (consA (vr 0) (consA (bop fdivD (vr 1) (vr 4)) nilA)))) [4]) nilA)))
    (seqS (setS 5 (bifE sumD (consA (compE (itemsI (vr 2)) (tgN 4) yesT (bop mulD (bifE lenD (consA (compE (rangeI1 (vr 4)) (tgN 6) (tst (bop eqD (callE (arity 2 F_law_gcd) (consA (vr 6) (consA (vr 4) nilA))) (cn (.int 1)))) (vr 6) [6]) nilA)) (callE (arity 2 F_law_power) (consA (vr 0) (consA (bop fdivD (vr 1) (vr 4)) nilA)))) [4]) nilA)))
    (seqS (ifS (notT (tst (callE (arity 2 (F_law_is 8)) (consA (lstE (consA (callE (arity 2 F_many_roots) (consA (vr 0) (consA (vr 1) nilA))) (consA (callE (arity 2 F_many_turns) (consA (vr 0) (consA (vr 1) nilA))) nilA))) (consA (lstE (consA (vr 3) (consA (bop fdivD (vr 5) (vr 1)) nilA))) nilA))))) (retS (cn (.bl false))) nxS)
    (retS (bop eqD (bifE sumD (consA (compE (itemsI (vr 2)) (tgN 4) yesT (callE (arity 2 F_many_roots) (consA (vr 0) (consA (vr 4) nilA))) [4]) nilA)) (callE (arity 2 F_law_power) (consA (vr 0) (consA (vr 1) nilA)))))))))
def F_law_are_counts_right : FF := defF 7 b_law_are_counts_right
theorem okx_law_are_counts_right (Z : Fa K mg) {f : Addr} {fd : FuncData} (hF : Fun K "_law_are_counts_right" "_law_are_counts_right" s_law_are_counts_right f fd) (d_many_roots : Dn P w K mg base T "many_roots" 14 2 F_many_roots) (d_law_power : Dn P w K mg base T "_law_power" 1 2 F_law_power) (d_many_turns : Dn P w K mg base T "many_turns" 14 2 F_many_turns) (d_law_is : Dn P w K mg base T "_law_is" 8 2 (F_law_is 8)) (d_law_gcd : Dn P w K mg base T "_law_gcd" 1 2 F_law_gcd) (d_law_sign : Dn P w K mg base T "_law_sign" 1 1 F_law_sign) (d_law_divisors : Dn P w K mg base T "_law_divisors" 1 1 F_law_divisors) : FnOk P w K mg base (L2.CX P w) 15 f fd ["letters", "length"] (spF K T 2 F_law_are_counts_right) :=
  fn_ok hF sc_law_are_counts_right rfl (by decide) fun cdv A outer s H E hr => (s_cons (s_set (i := 2) sc_law_are_counts_right.nd (e_callD (takes_of rfl rfl rfl rfl) d_law_divisors (hr.mono (by decide)) rfl (a_cons (e_var (i := 1) rfl (by first | exact Or.inl rfl | exact Or.inr (Or.inl rfl) | exact Or.inr (Or.inr rfl)) (by decide) (by decide)) a_nil (by rfl)) (by decide) (by rfl) (by rfl)) rfl (by first | exact .inl rfl | exact .inr rfl) (by rfl) (by first | exact .inl rfl | exact .inr rfl))
    (s_cons (s_set (i := 3) sc_law_are_counts_right.nd (e_bif (c_sum rfl) rfl Z.b_sum (by decide +kernel) (a_cons (e_lc rfl sc_law_are_counts_right.nd (i_seq (e_var (i := 2) rfl (by first | exact Or.inl rfl | exact Or.inr (Or.inl rfl) | exact Or.inr (Or.inr rfl)) (by decide) (by decide))) (blkOk_by (own := [("one", 4)]) (N := N_law_are_counts_right) (by kernel_rfl)) (fun _ => (g_name (i := 4) sc_law_are_counts_right.nd rfl (by first | exact .inl rfl | exact .inr rfl) (by first | exact .inl rfl | exact .inr rfl))) (fun _ => p_nil) (fun _ => (e_op o_mul (e_callD takes0 d_law_sign (hr.mono (by decide)) rfl (a_cons (e_var (i := 4) rfl (by first | exact Or.inl rfl | exact Or.inr (Or.inl rfl) | exact Or.inr (Or.inr rfl)) (by decide) (by decide)) a_nil (by rfl)) (by decide) (by rfl) (by rfl)) (e_callD takes0 d_law_power (hr.mono (by decide)) rfl (a_cons (e_var (i := 0) rfl (by first | exact Or.inl rfl | exact Or.inr (Or.inl rfl) | exact Or.inr (Or.inr rfl)) (by decide) (by decide)) (a_cons (e_op o_fdiv (e_var (i := 1) rfl (by first | exact Or.inl rfl | exact Or.inr (Or.inl rfl) | exact Or.inr (Or.inr rfl)) (by decide) (by decide)) (e_var (i := 4) rfl (by first | exact Or.inl rfl | exact Or.inr (Or.inl rfl) | exact Or.inr (Or.inr rfl)) (by decide) (by decide))) a_nil (by rfl)) (by rfl)) (by decide) (by rfl) (by rfl)))) rfl (by decide) (by intro _; rfl)) a_nil (by rfl)) (by decide) (by decide) (by rfl) (by rfl)) rfl (by first | exact .inl rfl | exact .inr rfl) (by rfl) (by first | exact .inl rfl | exact .inr rfl))
    (s_cons (s_set (i := 5) sc_law_are_counts_right.nd (e_bif (c_sum rfl) rfl Z.b_sum (by decide +kernel) (a_cons (e_lc rfl sc_law_are_counts_right.nd (i_seq (e_var (i := 2) rfl (by first | exact Or.inl rfl | exact Or.inr (Or.inl rfl) | exact Or.inr (Or.inr rfl)) (by decide) (by decide))) (blkOk_by (own := [("one", 4)]) (N := N_law_are_counts_right) (by kernel_rfl)) (fun _ => (g_name (i := 4) sc_law_are_counts_right.nd rfl (by first | exact .inl rfl | exact .inr rfl) (by first | exact .inl rfl | exact .inr rfl))) (fun _ => p_nil) (fun _ => (e_op o_mul (e_bif c_len rfl Z.b_len (by decide +kernel) (a_cons (e_lc rfl sc_law_are_counts_right.nd (i_range1 rfl Z.b_range (e_var (i := 4) rfl (by first | exact Or.inl rfl | exact Or.inr (Or.inl rfl) | exact Or.inr (Or.inr rfl)) (by decide) (by decide)) (by rfl)) (blkOk_by (own := [("k", 6)]) (N := N_law_are_counts_right) (by kernel_rfl)) (fun _ => (g_name (i := 6) sc_law_are_counts_right.nd rfl (by first | exact .inl rfl | exact .inr rfl) (by first | exact .inl rfl | exact .inr rfl))) (fun _ => (p_one (t_cmp (o_eq hr.units) (e_callD takes0 d_law_gcd (hr.mono (by decide)) rfl (a_cons (e_var (i := 6) rfl (by first | exact Or.inl rfl | exact Or.inr (Or.inl rfl) | exact Or.inr (Or.inr rfl)) (by decide) (by decide)) (a_cons (e_var (i := 4) rfl (by first | exact Or.inl rfl | exact Or.inr (Or.inl rfl) | exact Or.inr (Or.inr rfl)) (by decide) (by decide)) a_nil (by rfl)) (by rfl)) (by decide) (by rfl) (by rfl)) e_int (nomark _)))) (fun _ => (e_var (i := 6) rfl (by first | exact Or.inl rfl | exact Or.inr (Or.inl rfl) | exact Or.inr (Or.inr rfl)) (by decide) (by decide))) rfl (by decide) (by intro _; rfl)) a_nil (by rfl)) (by decide) (by decide) (by rfl) (by rfl)) (e_callD takes0 d_law_power (hr.mono (by decide)) rfl (a_cons (e_var (i := 0) rfl (by first | exact Or.inl rfl | exact Or.inr (Or.inl rfl) | exact Or.inr (Or.inr rfl)) (by decide) (by decide)) (a_cons (e_op o_fdiv (e_var (i := 1) rfl (by first | exact Or.inl rfl | exact Or.inr (Or.inl rfl) | exact Or.inr (Or.inr rfl)) (by decide) (by decide)) (e_var (i := 4) rfl (by first | exact Or.inl rfl | exact Or.inr (Or.inl rfl) | exact Or.inr (Or.inr rfl)) (by decide) (by decide))) a_nil (by rfl)) (by rfl)) (by decide) (by rfl) (by rfl)))) rfl (by decide) (by intro _; rfl)) a_nil (by rfl)) (by decide) (by decide) (by rfl) (by rfl)) rfl (by first | exact .inl rfl | exact .inr rfl) (by rfl) (by first | exact .inl rfl | exact .inr rfl))
    (s_cons (s_if (t_not (t_val (e_callD (takes_of rfl rfl rfl rfl) d_law_is (hr.mono (by decide)) rfl (a_cons (e_lst (a_cons (e_callD (takes_of rfl rfl rfl rfl) d_many_roots (hr.mono (by decide)) rfl (a_cons (e_var (i := 0) rfl (by first | exact Or.inl rfl | exact Or.inr (Or.inl rfl) | exact Or.inr (Or.inr rfl)) (by decide) (by decide)) (a_cons (e_var (i := 1) rfl (by first | exact Or.inl rfl | exact Or.inr (Or.inl rfl) | exact Or.inr (Or.inr rfl)) (by decide) (by decide)) a_nil (by rfl)) (by rfl)) (by decide) (by rfl) (by rfl)) (a_cons (e_callD (takes_of rfl rfl rfl rfl) d_many_turns (hr.mono (by decide)) rfl (a_cons (e_var (i := 0) rfl (by first | exact Or.inl rfl | exact Or.inr (Or.inl rfl) | exact Or.inr (Or.inr rfl)) (by decide) (by decide)) (a_cons (e_var (i := 1) rfl (by first | exact Or.inl rfl | exact Or.inr (Or.inl rfl) | exact Or.inr (Or.inr rfl)) (by decide) (by decide)) a_nil (by rfl)) (by rfl)) (by decide) (by rfl) (by rfl)) a_nil (by rfl)) (by rfl))) (a_cons (e_lst (a_cons (e_var (i := 3) rfl (by first | exact Or.inl rfl | exact Or.inr (Or.inl rfl) | exact Or.inr (Or.inr rfl)) (by decide) (by decide)) (a_cons (e_op o_fdiv (e_var (i := 5) rfl (by first | exact Or.inl rfl | exact Or.inr (Or.inl rfl) | exact Or.inr (Or.inr rfl)) (by decide) (by decide)) (e_var (i := 1) rfl (by first | exact Or.inl rfl | exact Or.inr (Or.inl rfl) | exact Or.inr (Or.inr rfl)) (by decide) (by decide))) a_nil (by rfl)) (by rfl))) a_nil (by rfl)) (by rfl)) (by decide) (by rfl) (by rfl)) (by intro _; rfl))) (s_one (s_ret e_bl)) s_nil)
    (s_one (s_ret (e_cmp (o_eq hr.units) (e_bif (c_sum rfl) rfl Z.b_sum (by decide +kernel) (a_cons (e_lc rfl sc_law_are_counts_right.nd (i_seq (e_var (i := 2) rfl (by first | exact Or.inl rfl | exact Or.inr (Or.inl rfl) | exact Or.inr (Or.inr rfl)) (by decide) (by decide))) (blkOk_by (own := [("one", 4)]) (N := N_law_are_counts_right) (by kernel_rfl)) (fun _ => (g_name (i := 4) sc_law_are_counts_right.nd rfl (by first | exact .inl rfl | exact .inr rfl) (by first | exact .inl rfl | exact .inr rfl))) (fun _ => p_nil) (fun _ => (e_callD takes0 d_many_roots (hr.mono (by decide)) rfl (a_cons (e_var (i := 0) rfl (by first | exact Or.inl rfl | exact Or.inr (Or.inl rfl) | exact Or.inr (Or.inr rfl)) (by decide) (by decide)) (a_cons (e_var (i := 4) rfl (by first | exact Or.inl rfl | exact Or.inr (Or.inl rfl) | exact Or.inr (Or.inr rfl)) (by decide) (by decide)) a_nil (by rfl)) (by rfl)) (by decide) (by rfl) (by rfl))) rfl (by decide) (by intro _; rfl)) a_nil (by rfl)) (by decide) (by decide) (by rfl) (by rfl)) (e_callD (takes_of rfl rfl rfl rfl) d_law_power (hr.mono (by decide)) rfl (a_cons (e_var (i := 0) rfl (by first | exact Or.inl rfl | exact Or.inr (Or.inl rfl) | exact Or.inr (Or.inr rfl)) (by decide) (by decide)) (a_cons (e_var (i := 1) rfl (by first | exact Or.inl rfl | exact Or.inr (Or.inl rfl) | exact Or.inr (Or.inr rfl)) (by decide) (by decide)) a_nil (by rfl)) (by rfl)) (by decide) (by rfl) (by rfl)) (nomark _))))))))
theorem ok_law_are_counts_right (Z : Fa K mg) (h : Here K mg "_law_are_counts_right" s_law_are_counts_right ["letters", "length"]) (d_many_roots : Dn P w K mg base T "many_roots" 14 2 F_many_roots) (d_law_power : Dn P w K mg base T "_law_power" 1 2 F_law_power) (d_many_turns : Dn P w K mg base T "many_turns" 14 2 F_many_turns) (d_law_is : Dn P w K mg base T "_law_is" 8 2 (F_law_is 8)) (d_law_gcd : Dn P w K mg base T "_law_gcd" 1 2 F_law_gcd) (d_law_sign : Dn P w K mg base T "_law_sign" 1 1 F_law_sign) (d_law_divisors : Dn P w K mg base T "_law_divisors" 1 1 F_law_divisors) : Dn P w K mg base T "_law_are_counts_right" 15 2 F_law_are_counts_right := by
  obtain ⟨f, fd, hF, hm, hk, hb⟩ := h
  exact ⟨f, fd, _, hm, hk, hb, okx_law_are_counts_right Z hF d_many_roots d_law_power d_many_turns d_law_is d_law_gcd d_law_sign d_law_divisors⟩
abbrev s_law_joined : Stmt := top 36
abbrev N_law_joined : List Str := ["length", "first", "second", "names", "far", "at", "one", "other", "name"]
theorem sc_law_joined : FnScope N_law_joined ["length", "first", "second"] (defScope s_law_joined) := ⟨rfl, rfl, rfl, by decide +kernel, rfl, by decide +kernel, by decide +kernel⟩
def b_law_joined : FS := (seqS (setS 3 (listRg1 (vr 0)))
    (seqS (forS (itemsI (tupE (consA (vr 1) (consA (vr 2) nilA)))) (tgN 4)
    (forS (rangeI1 (bop subD (vr 0) (vr 4))) (tgN 5)
    (seqS (asgS (tgT (tgCons (tgN 6) (tgCons (tgN 7) tgNil))) (tupE (consA (ixE (vr 3) (vr 5)) (consA (ixE (vr 3) (bop addD (vr 5) (vr 4))) nilA))))
    (ifS (tst (bop neD (vr 6) (vr 7))) (setS 3 (compE (itemsI (vr 3)) (tgN 8) yesT (ifE (tst (bop eqD (vr 8) (vr 7))) (vr 6) (vr 8)) [8])) nxS))))
    (retS (lenSetE (vr 3)))))
def F_law_joined : FF := defF 9 b_law_joined
theorem okx_law_joined (Z : Fa K mg) {f : Addr} {fd : FuncData} (hF : Fun K "_law_joined" "_law_joined" s_law_joined f fd)  : FnOk P w K mg base (L2.CX P w) 1 f fd ["length", "first", "second"] (spF K T 3 F_law_joined) :=
  fn_ok hF sc_law_joined rfl (by decide) fun cdv A outer s H E hr => (s_cons (s_set (i := 3) sc_law_joined.nd (e_listRg1 rfl rfl Z.b_list rfl Z.b_range (e_var (i := 0) rfl (by first | exact Or.inl rfl | exact Or.inr (Or.inl rfl) | exact Or.inr (Or.inr rfl)) (by decide) (by decide)) (by rfl) (by rfl)) rfl (by first | exact .inl rfl | exact .inr rfl) (by rfl) (by first | exact .inl rfl | exact .inr rfl))
    (s_cons (s_for (passes_of rfl) rfl (i_seq (e_tup (a_cons (e_var (i := 1) rfl (by first | exact Or.inl rfl | exact Or.inr (Or.inl rfl) | exact Or.inr (Or.inr rfl)) (by decide) (by decide)) (a_cons (e_var (i := 2) rfl (by first | exact Or.inl rfl | exact Or.inr (Or.inl rfl) | exact Or.inr (Or.inr rfl)) (by decide) (by decide)) a_nil (by rfl)) (by rfl)))) (g_name (i := 4) sc_law_joined.nd rfl (by first | exact .inl rfl | exact .inr rfl) (by first | exact .inl rfl | exact .inr rfl))
    (s_one (s_for (passes_of rfl) rfl (i_range1 rfl Z.b_range (e_op o_sub (e_var (i := 0) rfl (by first | exact Or.inl rfl | exact Or.inr (Or.inl rfl) | exact Or.inr (Or.inr rfl)) (by decide) (by decide)) (e_var (i := 4) rfl (by first | exact Or.inl rfl | exact Or.inr (Or.inl rfl) | exact Or.inr (Or.inr rfl)) (by decide) (by decide))) (by rfl)) (g_name (i := 5) sc_law_joined.nd rfl (by first | exact .inl rfl | exact .inr rfl) (by first | exact .inl rfl | exact .inr rfl))
    (s_cons (s_asg (e_tup (a_cons (e_ix (e_var (i := 3) rfl (by first | exact Or.inl rfl | exact Or.inr (Or.inl rfl) | exact Or.inr (Or.inr rfl)) (by decide) (by decide)) (e_var (i := 5) rfl (by first | exact Or.inl rfl | exact Or.inr (Or.inl rfl) | exact Or.inr (Or.inr rfl)) (by decide) (by decide)) (by intro _ _; rfl)) (a_cons (e_ix (e_var (i := 3) rfl (by first | exact Or.inl rfl | exact Or.inr (Or.inl rfl) | exact Or.inr (Or.inr rfl)) (by decide) (by decide)) (e_op o_add (e_var (i := 5) rfl (by first | exact Or.inl rfl | exact Or.inr (Or.inl rfl) | exact Or.inr (Or.inr rfl)) (by decide) (by decide)) (e_var (i := 4) rfl (by first | exact Or.inl rfl | exact Or.inr (Or.inl rfl) | exact Or.inr (Or.inr rfl)) (by decide) (by decide))) (by intro _ _; rfl)) a_nil (by rfl)) (by rfl))) (g_tup rfl (gs_cons (g_name (i := 6) sc_law_joined.nd rfl (by first | exact .inl rfl | exact .inr rfl) (by first | exact .inl rfl | exact .inr rfl)) (gs_cons (g_name (i := 7) sc_law_joined.nd rfl (by first | exact .inl rfl | exact .inr rfl) (by first | exact .inl rfl | exact .inr rfl)) gs_nil (by rfl)) (by rfl)) (by rfl) (by rfl)) (by rfl) (by rfl) (by rfl))
    (s_one (s_if (t_cmp (o_ne hr.units) (e_var (i := 6) rfl (by first | exact Or.inl rfl | exact Or.inr (Or.inl rfl) | exact Or.inr (Or.inr rfl)) (by decide) (by decide)) (e_var (i := 7) rfl (by first | exact Or.inl rfl | exact Or.inr (Or.inl rfl) | exact Or.inr (Or.inr rfl)) (by decide) (by decide)) (nomark _)) (s_one (s_setLc (i := 3) rfl sc_law_joined.nd rfl rfl (sw_true rfl rfl rfl (by decide +kernel)) (i_seq (e_var (i := 3) rfl (by first | exact Or.inl rfl | exact Or.inr (Or.inl rfl) | exact Or.inr (Or.inr rfl)) (by decide) (by decide))) (blkOk_by (own := [("name", 8)]) (N := N_law_joined) (by kernel_rfl)) (fun _ => (g_name (i := 8) sc_law_joined.nd rfl (by first | exact .inl rfl | exact .inr rfl) (by first | exact .inl rfl | exact .inr rfl))) (fun _ => p_nil) (fun _ => (e_if (t_cmp (o_eq hr.units) (e_var (i := 8) rfl (by first | exact Or.inl rfl | exact Or.inr (Or.inl rfl) | exact Or.inr (Or.inr rfl)) (by decide) (by decide)) (e_var (i := 7) rfl (by first | exact Or.inl rfl | exact Or.inr (Or.inl rfl) | exact Or.inr (Or.inr rfl)) (by decide) (by decide)) (nomark _)) (e_var (i := 6) rfl (by first | exact Or.inl rfl | exact Or.inr (Or.inl rfl) | exact Or.inr (Or.inr rfl)) (by decide) (by decide)) (e_var (i := 8) rfl (by first | exact Or.inl rfl | exact Or.inr (Or.inl rfl) | exact Or.inr (Or.inr rfl)) (by decide) (by decide)))) rfl (by decide) (by intro _; rfl))) s_nil))) (by intro _; rfl))) (by intro _; rfl))
    (s_one (s_ret (e_lenSet rfl Z.b_len rfl Z.b_set (e_var (i := 3) rfl (by first | exact Or.inl rfl | exact Or.inr (Or.inl rfl) | exact Or.inr (Or.inr rfl)) (by decide) (by decide)) rfl (by rfl))))))
theorem ok_law_joined (Z : Fa K mg) (h : Here K mg "_law_joined" s_law_joined ["length", "first", "second"])  : Dn P w K mg base T "_law_joined" 1 3 F_law_joined := by
  obtain ⟨f, fd, hF, hm, hk, hb⟩ := h
  exact ⟨f, fd, _, hm, hk, hb, okx_law_joined Z hF ⟩
abbrev s_law_are_periods_right : Stmt := top 37
abbrev N_law_are_periods_right : List Str := ["hand", "first", "second", "part", "more", "length", "due"]
theorem sc_law_are_periods_right : FnScope N_law_are_periods_right ["hand"] (defScope s_law_are_periods_right) := ⟨rfl, rfl, rfl, by decide +kernel, rfl, by decide +kernel, by decide +kernel⟩
def b_law_are_periods_right : FS := (seqS (parS 1 2 (bop addD (cn (.int 1)) (callE (arity 2 F_law_draw) (consA (vr 0) (consA (cn (.int 60)) nilA)))) (bop addD (cn (.int 1)) (callE (arity 2 F_law_draw) (consA (vr 0) (consA (cn (.int 60)) nilA)))))
    (seqS (parS 3 4 (callE (arity 2 F_law_gcd) (consA (vr 1) (consA (vr 2) nilA))) (bop subD (callE (arity 2 F_law_draw) (consA (vr 0) (consA (cn (.int 5)) nilA))) (cn (.int 2))))
    (seqS (forS (itemsI (tupE (consA (bifE (fun ds => (maxL ds).or (max2D ds)) (consA (cn (.int 1)) (consA (bop addD (bop subD (bop addD (vr 1) (vr 2)) (vr 3)) (vr 4)) nilA))) (consA (bifE (fun ds => (maxL ds).or (max2D ds)) (consA (cn (.int 1)) (consA (bop addD (bifE (fun ds => (maxL ds).or (max2D ds)) (consA (vr 1) (consA (vr 2) nilA))) (vr 4)) nilA))) (consA (bop addD (cn (.int 1)) (callE (arity 2 F_law_draw) (consA (vr 0) (consA (cn (.int 120)) nilA)))) (consA (cn (.int 300)) nilA)))))) (tgN 5)
    (seqS (setS 6 (callE (arity 3 F_law_joined) (consA (bifE (fun ds => (minL ds).or (min2D ds)) (consA (vr 5) (consA (bop addD (bop addD (vr 1) (vr 2)) (cn (.int 3))) nilA))) (consA (vr 1) (consA (vr 2) nilA)))))
    (seqS (ifS (orT (tst (bop neD (callE (arity 3 F_with_periods) (consA (vr 5) (consA (vr 1) (consA (vr 2) nilA)))) (vr 6))) (tst (bop neD (callE (arity 3 F_with_periods) (consA (vr 5) (consA (vr 2) (consA (vr 1) nilA)))) (vr 6)))) (retS (cn (.bl false))) nxS)
    (seqS (ifS (andT (tst (bop geD (vr 5) (bop subD (bop addD (vr 1) (vr 2)) (vr 3)))) (andT (tst (bop ltD (bifE (fun ds => (maxL ds).or (max2D ds)) (consA (vr 1) (consA (vr 2) nilA))) (vr 5))) (tst (bop neD (vr 6) (vr 3))))) (retS (cn (.bl false))) nxS)
    (ifS (andT (tst (chE leD ltD (bifE (fun ds => (maxL ds).or (max2D ds)) (consA (vr 1) (consA (vr 2) nilA))) (vr 5) (bop subD (bop addD (vr 1) (vr 2)) (vr 3)))) (tst (bop neD (vr 6) (bop subD (bop addD (vr 1) (vr 2)) (vr 5))))) (retS (cn (.bl false))) nxS)))))
    (retS (cn (.bl true))))))
def F_law_are_periods_right : FF := defF 7 b_law_are_periods_right
theorem okx_law_are_periods_right (Z : Fa K mg) {f : Addr} {fd : FuncData} (hF : Fun K "_law_are_periods_right" "_law_are_periods_right" s_law_are_periods_right f fd) (d_law_draw : Dn P w K mg base T "_law_draw" 1 2 F_law_draw) (d_with_periods : Dn P w K mg base T "with_periods" 2 3 F_with_periods) (d_law_joined : Dn P w K mg base T "_law_joined" 1 3 F_law_joined) (d_law_gcd : Dn P w K mg base T "_law_gcd" 1 2 F_law_gcd) : FnOk P w K mg base (L2.CX P w) 3 f fd ["hand"] (spF K T 1 F_law_are_periods_right) :=
  fn_ok hF sc_law_are_periods_right rfl (by decide) fun cdv A outer s H E hr => (s_cons (s_par (i := 1) (j := 2) rfl sc_law_are_periods_right.nd (e_op o_add e_int (e_callD (takes_of rfl rfl rfl rfl) d_law_draw (hr.mono (by decide)) rfl (a_cons (e_var (i := 0) rfl (by first | exact Or.inl rfl | exact Or.inr (Or.inl rfl) | exact Or.inr (Or.inr rfl)) (by decide) (by decide)) (a_cons e_int a_nil (by rfl)) (by rfl)) (by decide) (by rfl) (by rfl))) (e_op o_add e_int (e_callD (takes_of rfl rfl rfl rfl) d_law_draw (hr.mono (by decide)) rfl (a_cons (e_var (i := 0) rfl (by first | exact Or.inl rfl | exact Or.inr (Or.inl rfl) | exact Or.inr (Or.inr rfl)) (by decide) (by decide)) (a_cons e_int a_nil (by rfl)) (by rfl)) (by decide) (by rfl) (by rfl))) rfl rfl (by decide) rfl rfl (by rfl) (by rfl) (by rfl) (by rfl))
    (s_cons (s_par (i := 3) (j := 4) rfl sc_law_are_periods_right.nd (e_callD (takes_of rfl rfl rfl rfl) d_law_gcd (hr.mono (by decide)) rfl (a_cons (e_var (i := 1) rfl (by first | exact Or.inl rfl | exact Or.inr (Or.inl rfl) | exact Or.inr (Or.inr rfl)) (by decide) (by decide)) (a_cons (e_var (i := 2) rfl (by first | exact Or.inl rfl | exact Or.inr (Or.inl rfl) | exact Or.inr (Or.inr rfl)) (by decide) (by decide)) a_nil (by rfl)) (by rfl)) (by decide) (by rfl) (by rfl)) (e_op o_sub (e_callD (takes_of rfl rfl rfl rfl) d_law_draw (hr.mono (by decide)) rfl (a_cons (e_var (i := 0) rfl (by first | exact Or.inl rfl | exact Or.inr (Or.inl rfl) | exact Or.inr (Or.inr rfl)) (by decide) (by decide)) (a_cons e_int a_nil (by rfl)) (by rfl)) (by decide) (by rfl) (by rfl)) e_int) rfl rfl (by decide) rfl rfl (by rfl) (by rfl) (by rfl) (by rfl))
    (s_cons (s_for (passes_of rfl) rfl (i_seq (e_tup (a_cons (e_bif (c_max rfl) rfl Z.b_max (by decide +kernel) (a_cons e_int (a_cons (e_op o_add (e_op o_sub (e_op o_add (e_var (i := 1) rfl (by first | exact Or.inl rfl | exact Or.inr (Or.inl rfl) | exact Or.inr (Or.inr rfl)) (by decide) (by decide)) (e_var (i := 2) rfl (by first | exact Or.inl rfl | exact Or.inr (Or.inl rfl) | exact Or.inr (Or.inr rfl)) (by decide) (by decide))) (e_var (i := 3) rfl (by first | exact Or.inl rfl | exact Or.inr (Or.inl rfl) | exact Or.inr (Or.inr rfl)) (by decide) (by decide))) (e_var (i := 4) rfl (by first | exact Or.inl rfl | exact Or.inr (Or.inl rfl) | exact Or.inr (Or.inr rfl)) (by decide) (by decide))) a_nil (by rfl)) (by rfl)) (by decide) (by decide) (by rfl) (by rfl)) (a_cons (e_bif (c_max rfl) rfl Z.b_max (by decide +kernel) (a_cons e_int (a_cons (e_op o_add (e_bif (c_max rfl) rfl Z.b_max (by decide +kernel) (a_cons (e_var (i := 1) rfl (by first | exact Or.inl rfl | exact Or.inr (Or.inl rfl) | exact Or.inr (Or.inr rfl)) (by decide) (by decide)) (a_cons (e_var (i := 2) rfl (by first | exact Or.inl rfl | exact Or.inr (Or.inl rfl) | exact Or.inr (Or.inr rfl)) (by decide) (by decide)) a_nil (by rfl)) (by rfl)) (by decide) (by decide) (by rfl) (by rfl)) (e_var (i := 4) rfl (by first | exact Or.inl rfl | exact Or.inr (Or.inl rfl) | exact Or.inr (Or.inr rfl)) (by decide) (by decide))) a_nil (by rfl)) (by rfl)) (by decide) (by decide) (by rfl) (by rfl)) (a_cons (e_op o_add e_int (e_callD (takes_of rfl rfl rfl rfl) d_law_draw (hr.mono (by decide)) rfl (a_cons (e_var (i := 0) rfl (by first | exact Or.inl rfl | exact Or.inr (Or.inl rfl) | exact Or.inr (Or.inr rfl)) (by decide) (by decide)) (a_cons e_int a_nil (by rfl)) (by rfl)) (by decide) (by rfl) (by rfl))) (a_cons e_int a_nil (by rfl)) (by rfl)) (by rfl)) (by rfl)))) (g_name (i := 5) sc_law_are_periods_right.nd rfl (by first | exact .inl rfl | exact .inr rfl) (by first | exact .inl rfl | exact .inr rfl))
    (s_cons (s_set (i := 6) sc_law_are_periods_right.nd (e_callD (takes_of rfl rfl rfl rfl) d_law_joined (hr.mono (by decide)) rfl (a_cons (e_bif (c_min rfl) rfl Z.b_min (by decide +kernel) (a_cons (e_var (i := 5) rfl (by first | exact Or.inl rfl | exact Or.inr (Or.inl rfl) | exact Or.inr (Or.inr rfl)) (by decide) (by decide)) (a_cons (e_op o_add (e_op o_add (e_var (i := 1) rfl (by first | exact Or.inl rfl | exact Or.inr (Or.inl rfl) | exact Or.inr (Or.inr rfl)) (by decide) (by decide)) (e_var (i := 2) rfl (by first | exact Or.inl rfl | exact Or.inr (Or.inl rfl) | exact Or.inr (Or.inr rfl)) (by decide) (by decide))) e_int) a_nil (by rfl)) (by rfl)) (by decide) (by decide) (by rfl) (by rfl)) (a_cons (e_var (i := 1) rfl (by first | exact Or.inl rfl | exact Or.inr (Or.inl rfl) | exact Or.inr (Or.inr rfl)) (by decide) (by decide)) (a_cons (e_var (i := 2) rfl (by first | exact Or.inl rfl | exact Or.inr (Or.inl rfl) | exact Or.inr (Or.inr rfl)) (by decide) (by decide)) a_nil (by rfl)) (by rfl)) (by rfl)) (by decide) (by rfl) (by rfl)) rfl (by first | exact .inl rfl | exact .inr rfl) (by rfl) (by first | exact .inl rfl | exact .inr rfl))
    (s_cons (s_if (w_pt (w_or (t_cmp (o_ne hr.units) (e_callD (takes_of rfl rfl rfl rfl) d_with_periods (hr.mono (by decide)) rfl (a_cons (e_var (i := 5) rfl (by first | exact Or.inl rfl | exact Or.inr (Or.inl rfl) | exact Or.inr (Or.inr rfl)) (by decide) (by decide)) (a_cons (e_var (i := 1) rfl (by first | exact Or.inl rfl | exact Or.inr (Or.inl rfl) | exact Or.inr (Or.inr rfl)) (by decide) (by decide)) (a_cons (e_var (i := 2) rfl (by first | exact Or.inl rfl | exact Or.inr (Or.inl rfl) | exact Or.inr (Or.inr rfl)) (by decide) (by decide)) a_nil (by rfl)) (by rfl)) (by rfl)) (by decide) (by rfl) (by rfl)) (e_var (i := 6) rfl (by first | exact Or.inl rfl | exact Or.inr (Or.inl rfl) | exact Or.inr (Or.inr rfl)) (by decide) (by decide)) (nomark _)) (w_or1 (t_cmp (o_ne hr.units) (e_callD (takes_of rfl rfl rfl rfl) d_with_periods (hr.mono (by decide)) rfl (a_cons (e_var (i := 5) rfl (by first | exact Or.inl rfl | exact Or.inr (Or.inl rfl) | exact Or.inr (Or.inr rfl)) (by decide) (by decide)) (a_cons (e_var (i := 2) rfl (by first | exact Or.inl rfl | exact Or.inr (Or.inl rfl) | exact Or.inr (Or.inr rfl)) (by decide) (by decide)) (a_cons (e_var (i := 1) rfl (by first | exact Or.inl rfl | exact Or.inr (Or.inl rfl) | exact Or.inr (Or.inr rfl)) (by decide) (by decide)) a_nil (by rfl)) (by rfl)) (by rfl)) (by decide) (by rfl) (by rfl)) (e_var (i := 6) rfl (by first | exact Or.inl rfl | exact Or.inr (Or.inl rfl) | exact Or.inr (Or.inr rfl)) (by decide) (by decide)) (nomark _))))) (s_one (s_ret e_bl)) s_nil)
    (s_cons (s_if (w_pt (w_and (t_cmp o_ge (e_var (i := 5) rfl (by first | exact Or.inl rfl | exact Or.inr (Or.inl rfl) | exact Or.inr (Or.inr rfl)) (by decide) (by decide)) (e_op o_sub (e_op o_add (e_var (i := 1) rfl (by first | exact Or.inl rfl | exact Or.inr (Or.inl rfl) | exact Or.inr (Or.inr rfl)) (by decide) (by decide)) (e_var (i := 2) rfl (by first | exact Or.inl rfl | exact Or.inr (Or.inl rfl) | exact Or.inr (Or.inr rfl)) (by decide) (by decide))) (e_var (i := 3) rfl (by first | exact Or.inl rfl | exact Or.inr (Or.inl rfl) | exact Or.inr (Or.inr rfl)) (by decide) (by decide))) (nomark _)) (w_and (t_cmp o_lt (e_bif (c_max rfl) rfl Z.b_max (by decide +kernel) (a_cons (e_var (i := 1) rfl (by first | exact Or.inl rfl | exact Or.inr (Or.inl rfl) | exact Or.inr (Or.inr rfl)) (by decide) (by decide)) (a_cons (e_var (i := 2) rfl (by first | exact Or.inl rfl | exact Or.inr (Or.inl rfl) | exact Or.inr (Or.inr rfl)) (by decide) (by decide)) a_nil (by rfl)) (by rfl)) (by decide) (by decide) (by rfl) (by rfl)) (e_var (i := 5) rfl (by first | exact Or.inl rfl | exact Or.inr (Or.inl rfl) | exact Or.inr (Or.inr rfl)) (by decide) (by decide)) (nomark _)) (w_and1 (t_cmp (o_ne hr.units) (e_var (i := 6) rfl (by first | exact Or.inl rfl | exact Or.inr (Or.inl rfl) | exact Or.inr (Or.inr rfl)) (by decide) (by decide)) (e_var (i := 3) rfl (by first | exact Or.inl rfl | exact Or.inr (Or.inl rfl) | exact Or.inr (Or.inr rfl)) (by decide) (by decide)) (nomark _)))))) (s_one (s_ret e_bl)) s_nil)
    (s_one (s_if (w_pt (w_and (t_chain o_le o_lt (e_bif (c_max rfl) rfl Z.b_max (by decide +kernel) (a_cons (e_var (i := 1) rfl (by first | exact Or.inl rfl | exact Or.inr (Or.inl rfl) | exact Or.inr (Or.inr rfl)) (by decide) (by decide)) (a_cons (e_var (i := 2) rfl (by first | exact Or.inl rfl | exact Or.inr (Or.inl rfl) | exact Or.inr (Or.inr rfl)) (by decide) (by decide)) a_nil (by rfl)) (by rfl)) (by decide) (by decide) (by rfl) (by rfl)) (e_var (i := 5) rfl (by first | exact Or.inl rfl | exact Or.inr (Or.inl rfl) | exact Or.inr (Or.inr rfl)) (by decide) (by decide)) (e_op o_sub (e_op o_add (e_var (i := 1) rfl (by first | exact Or.inl rfl | exact Or.inr (Or.inl rfl) | exact Or.inr (Or.inr rfl)) (by decide) (by decide)) (e_var (i := 2) rfl (by first | exact Or.inl rfl | exact Or.inr (Or.inl rfl) | exact Or.inr (Or.inr rfl)) (by decide) (by decide))) (e_var (i := 3) rfl (by first | exact Or.inl rfl | exact Or.inr (Or.inl rfl) | exact Or.inr (Or.inr rfl)) (by decide) (by decide))) (by with_unfolding_all rfl)) (w_and1 (t_cmp (o_ne hr.units) (e_var (i := 6) rfl (by first | exact Or.inl rfl | exact Or.inr (Or.inl rfl) | exact Or.inr (Or.inr rfl)) (by decide) (by decide)) (e_op o_sub (e_op o_add (e_var (i := 1) rfl (by first | exact Or.inl rfl | exact Or.inr (Or.inl rfl) | exact Or.inr (Or.inr rfl)) (by decide) (by decide)) (e_var (i := 2) rfl (by first | exact Or.inl rfl | exact Or.inr (Or.inl rfl) | exact Or.inr (Or.inr rfl)) (by decide) (by decide))) (e_var (i := 5) rfl (by first | exact Or.inl rfl | exact Or.inr (Or.inl rfl) | exact Or.inr (Or.inr rfl)) (by decide) (by decide))) (nomark _))))) (s_one (s_ret e_bl)) s_nil))))) (by intro _; rfl))
    (s_one (s_ret e_bl)))))
theorem ok_law_are_periods_right (Z : Fa K mg) (h : Here K mg "_law_are_periods_right" s_law_are_periods_right ["hand"]) (d_law_draw : Dn P w K mg base T "_law_draw" 1 2 F_law_draw) (d_with_periods : Dn P w K mg base T "with_periods" 2 3 F_with_periods) (d_law_joined : Dn P w K mg base T "_law_joined" 1 3 F_law_joined) (d_law_gcd : Dn P w K mg base T "_law_gcd" 1 2 F_law_gcd) : Dn P w K mg base T "_law_are_periods_right" 3 1 F_law_are_periods_right := by
  obtain ⟨f, fd, hF, hm, hk, hb⟩ := h
  exact ⟨f, fd, _, hm, hk, hb, okx_law_are_periods_right Z hF d_law_draw d_with_periods d_law_joined d_law_gcd⟩
abbrev s_law_is_root_right : Stmt := top 38
abbrev N_law_is_root_right : List Str := ["hand", "word", "letter", "count", "root", "size", "whole", "turns", "at", "least", "shift", "told", "due", "far"]
theorem sc_law_is_root_right : FnScope N_law_is_root_right ["hand"] (defScope s_law_is_root_right) := ⟨rfl, rfl, rfl, by decide +kernel, rfl, by decide +kernel, by decide +kernel⟩
def b_law_is_root_right : FS := (seqS (setS 1 (joinE (cn (.str [])) (compE (rangeI1 (bop addD (cn (.int 1)) (callE (arity 2 F_law_draw) (consA (vr 0) (consA (cn (.int 12)) nilA))))) (tgN 2) yesT (ixE (cn (.str [97, 98, 99, 100])) (callE (arity 2 F_law_draw) (consA (vr 0) (consA (cn (.int 3)) nilA)))) [2])))
    (seqS (setS 3 (bop addD (cn (.int 1)) (callE (arity 2 F_law_draw) (consA (vr 0) (consA (cn (.int 12)) nilA)))))
    (seqS (setS 4 (ixE (compE (itemsI (callE (arity 1 F_law_divisors) (consA (bifE lenD (consA (vr 1) nilA)) nilA))) (tgN 5) (tst (bop eqD (bop mulD (slE (vr 1) noO (soO (vr 5))) (bop fdivD (bifE lenD (consA (vr 1) nilA)) (vr 5))) (vr 1))) (slE (vr 1) noO (soO (vr 5))) [5]) (cn (.int 0))))
    (seqS (setS 6 (bop mulD (vr 1) (vr 3)))
    (seqS (ifS (orT (notT (tst (callE (arity 2 (F_law_is 8)) (consA (callE (arity 1 F_root_of) (consA (vr 6) nilA)) (consA (tupE (consA (vr 4) (consA (bop fdivD (bifE lenD (consA (vr 6) nilA)) (bifE lenD (consA (vr 4) nilA))) nilA))) nilA))))) (tst (bop neD (bifE lenD (consA (callE (arity 1 F_turns_of) (consA (vr 6) nilA)) nilA)) (bifE lenD (consA (vr 4) nilA))))) (retS (cn (.bl false))) nxS)
    (seqS (setS 7 (bifE sortedD (consA (compE (rangeI1 (bifE lenD (consA (vr 4) nilA))) (tgN 8) yesT (bop addD (slE (vr 4) (soO (vr 8)) noO) (slE (vr 4) noO (soO (vr 8)))) [8]) nilA)))
    (seqS (asgS (tgT (tgCons (tgN 9) (tgCons (tgN 10) tgNil))) (callE (arity 1 F_least_turn) (consA (vr 6) nilA)))
    (seqS (ifS (orT (tst (bop neD (vr 9) (bop mulD (ixE (vr 7) (cn (.int 0))) (bop fdivD (bifE lenD (consA (vr 6) nilA)) (bifE lenD (consA (vr 4) nilA)))))) (orT (tst (bop neD (bop addD (slE (vr 6) (soO (vr 10)) noO) (slE (vr 6) noO (soO (vr 10)))) (vr 9))) (tst (bop geD (vr 10) (bifE lenD (consA (vr 4) nilA)))))) (retS (cn (.bl false))) nxS)
    (seqS (setS 11 (callE (arity 1 F_periods) (consA (vr 6) nilA)))
    (seqS (setS 12 (compE (rangeI2 (cn (.int 1)) (bop addD (bifE lenD (consA (vr 6) nilA)) (cn (.int 1)))) (tgN 13) (tst (bop eqD (slE (vr 6) (soO (vr 13)) noO) (slE (vr 6) noO (soO (bop subD (bifE lenD (consA (vr 6) nilA)) (vr 13)))))) (vr 13) [13]))
    (retS (andE (bop eqD (bifE listOfD (consA (vr 11) nilA)) (vr 12)) (bifE allBD (consA (compE (rangeI2 (cn (.int 1)) (bop addD (bop fdivD (bifE lenD (consA (vr 6) nilA)) (bifE lenD (consA (vr 4) nilA))) (cn (.int 1)))) (tgN 8) yesT (bop inD (bop mulD (bifE lenD (consA (vr 4) nilA)) (vr 8)) (vr 12)) [8]) nilA))))))))))))))
def F_law_is_root_right : FF := defF 14 b_law_is_root_right
theorem okx_law_is_root_right (Z : Fa K mg) {f : Addr} {fd : FuncData} (hF : Fun K "_law_is_root_right" "_law_is_root_right" s_law_is_root_right f fd) (d_periods : Dn P w K mg base T "periods" 4 1 F_periods) (d_least_turn : Dn P w K mg base T "least_turn" 4 1 F_least_turn) (d_turns_of : Dn P w K mg base T "turns_of" 3 1 F_turns_of) (d_root_of : Dn P w K mg base T "root_of" 5 1 F_root_of) (d_law_is : Dn P w K mg base T "_law_is" 8 2 (F_law_is 8)) (d_law_divisors : Dn P w K mg base T "_law_divisors" 1 1 F_law_divisors) (d_law_draw : Dn P w K mg base T "_law_draw" 1 2 F_law_draw) : FnOk P w K mg base (L2.CX P w) 9 f fd ["hand"] (spF K T 1 F_law_is_root_right) :=
  fn_ok hF sc_law_is_root_right rfl (by decide) fun cdv A outer s H E hr => (s_cons (s_set (i := 1) sc_law_is_root_right.nd (e_join (e_str (l := []) (by rfl)) (e_lc rfl sc_law_is_root_right.nd (i_range1 rfl Z.b_range (e_op o_add e_int (e_callD (takes_of rfl rfl rfl rfl) d_law_draw (hr.mono (by decide)) rfl (a_cons (e_var (i := 0) rfl (by first | exact Or.inl rfl | exact Or.inr (Or.inl rfl) | exact Or.inr (Or.inr rfl)) (by decide) (by decide)) (a_cons e_int a_nil (by rfl)) (by rfl)) (by decide) (by rfl) (by rfl))) (by rfl)) (blkOk_by (own := [("letter", 2)]) (N := N_law_is_root_right) (by kernel_rfl)) (fun _ => (g_name (i := 2) sc_law_is_root_right.nd rfl (by first | exact .inl rfl | exact .inr rfl) (by first | exact .inl rfl | exact .inr rfl))) (fun _ => p_nil) (fun _ => (e_ix (e_str (l := [97, 98, 99, 100]) (by rfl)) (e_callD takes0 d_law_draw (hr.mono (by decide)) rfl (a_cons (e_var (i := 0) rfl (by first | exact Or.inl rfl | exact Or.inr (Or.inl rfl) | exact Or.inr (Or.inr rfl)) (by decide) (by decide)) (a_cons e_int a_nil (by rfl)) (by rfl)) (by decide) (by rfl) (by rfl)) (by intro _ _; rfl))) rfl (by decide) (by intro _; rfl)) (by rfl) (by rfl) (by rfl)) rfl (by first | exact .inl rfl | exact .inr rfl) (by rfl) (by first | exact .inl rfl | exact .inr rfl))
    (s_cons (s_set (i := 3) sc_law_is_root_right.nd (e_op o_add e_int (e_callD (takes_of rfl rfl rfl rfl) d_law_draw (hr.mono (by decide)) rfl (a_cons (e_var (i := 0) rfl (by first | exact Or.inl rfl | exact Or.inr (Or.inl rfl) | exact Or.inr (Or.inr rfl)) (by decide) (by decide)) (a_cons e_int a_nil (by rfl)) (by rfl)) (by decide) (by rfl) (by rfl))) rfl (by first | exact .inl rfl | exact .inr rfl) (by rfl) (by first | exact .inl rfl | exact .inr rfl))
    (s_cons (s_set (i := 4) sc_law_is_root_right.nd (e_ix (e_lc rfl sc_law_is_root_right.nd (i_seq (e_callD (takes_of rfl rfl rfl rfl) d_law_divisors (hr.mono (by decide)) rfl (a_cons (e_bif c_len rfl Z.b_len (by decide +kernel) (a_cons (e_var (i := 1) rfl (by first | exact Or.inl rfl | exact Or.inr (Or.inl rfl) | exact Or.inr (Or.inr rfl)) (by decide) (by decide)) a_nil (by rfl)) (by decide) (by decide) (by rfl) (by rfl)) a_nil (by rfl)) (by decide) (by rfl) (by rfl))) (blkOk_by (own := [("size", 5)]) (N := N_law_is_root_right) (by kernel_rfl)) (fun _ => (g_name (i := 5) sc_law_is_root_right.nd rfl (by first | exact .inl rfl | exact .inr rfl) (by first | exact .inl rfl | exact .inr rfl))) (fun _ => (p_one (t_cmp (o_eq hr.units) (e_op o_mul (e_sl (e_var (i := 1) rfl (by first | exact Or.inl rfl | exact Or.inr (Or.inl rfl) | exact Or.inr (Or.inr rfl)) (by decide) (by decide)) o_no (o_so (e_var (i := 5) rfl (by first | exact Or.inl rfl | exact Or.inr (Or.inl rfl) | exact Or.inr (Or.inr rfl)) (by decide) (by decide)))) (e_op o_fdiv (e_bif c_len rfl Z.b_len (by decide +kernel) (a_cons (e_var (i := 1) rfl (by first | exact Or.inl rfl | exact Or.inr (Or.inl rfl) | exact Or.inr (Or.inr rfl)) (by decide) (by decide)) a_nil (by rfl)) (by decide) (by decide) (by rfl) (by rfl)) (e_var (i := 5) rfl (by first | exact Or.inl rfl | exact Or.inr (Or.inl rfl) | exact Or.inr (Or.inr rfl)) (by decide) (by decide)))) (e_var (i := 1) rfl (by first | exact Or.inl rfl | exact Or.inr (Or.inl rfl) | exact Or.inr (Or.inr rfl)) (by decide) (by decide)) (nomark _)))) (fun _ => (e_sl (e_var (i := 1) rfl (by first | exact Or.inl rfl | exact Or.inr (Or.inl rfl) | exact Or.inr (Or.inr rfl)) (by decide) (by decide)) o_no (o_so (e_var (i := 5) rfl (by first | exact Or.inl rfl | exact Or.inr (Or.inl rfl) | exact Or.inr (Or.inr rfl)) (by decide) (by decide))))) rfl (by decide) (by intro _; rfl)) e_int (by intro _ _; rfl)) rfl (by first | exact .inl rfl | exact .inr rfl) (by rfl) (by first | exact .inl rfl | exact .inr rfl))
    (s_cons (s_set (i := 6) sc_law_is_root_right.nd (e_op o_mul (e_var (i := 1) rfl (by first | exact Or.inl rfl | exact Or.inr (Or.inl rfl) | exact Or.inr (Or.inr rfl)) (by decide) (by decide)) (e_var (i := 3) rfl (by first | exact Or.inl rfl | exact Or.inr (Or.inl rfl) | exact Or.inr (Or.inr rfl)) (by decide) (by decide))) rfl (by first | exact .inl rfl | exact .inr rfl) (by rfl) (by first | exact .inl rfl | exact .inr rfl))
    (s_cons (s_if (w_pt (w_or (t_not (t_val (e_callD (takes_of rfl rfl rfl rfl) d_law_is (hr.mono (by decide)) rfl (a_cons (e_callD (takes_of rfl rfl rfl rfl) d_root_of (hr.mono (by decide)) rfl (a_cons (e_var (i := 6) rfl (by first | exact Or.inl rfl | exact Or.inr (Or.inl rfl) | exact Or.inr (Or.inr rfl)) (by decide) (by decide)) a_nil (by rfl)) (by decide) (by rfl) (by rfl)) (a_cons (e_tup (a_cons (e_var (i := 4) rfl (by first | exact Or.inl rfl | exact Or.inr (Or.inl rfl) | exact Or.inr (Or.inr rfl)) (by decide) (by decide)) (a_cons (e_op o_fdiv (e_bif c_len rfl Z.b_len (by decide +kernel) (a_cons (e_var (i := 6) rfl (by first | exact Or.inl rfl | exact Or.inr (Or.inl rfl) | exact Or.inr (Or.inr rfl)) (by decide) (by decide)) a_nil (by rfl)) (by decide) (by decide) (by rfl) (by rfl)) (e_bif c_len rfl Z.b_len (by decide +kernel) (a_cons (e_var (i := 4) rfl (by first | exact Or.inl rfl | exact Or.inr (Or.inl rfl) | exact Or.inr (Or.inr rfl)) (by decide) (by decide)) a_nil (by rfl)) (by decide) (by decide) (by rfl) (by rfl))) a_nil (by rfl)) (by rfl))) a_nil (by rfl)) (by rfl)) (by decide) (by rfl) (by rfl)) (by intro _; rfl))) (w_or1 (t_cmp (o_ne hr.units) (e_bif c_len rfl Z.b_len (by decide +kernel) (a_cons (e_callD (takes_of rfl rfl rfl rfl) d_turns_of (hr.mono (by decide)) rfl (a_cons (e_var (i := 6) rfl (by first | exact Or.inl rfl | exact Or.inr (Or.inl rfl) | exact Or.inr (Or.inr rfl)) (by decide) (by decide)) a_nil (by rfl)) (by decide) (by rfl) (by rfl)) a_nil (by rfl)) (by decide) (by decide) (by rfl) (by rfl)) (e_bif c_len rfl Z.b_len (by decide +kernel) (a_cons (e_var (i := 4) rfl (by first | exact Or.inl rfl | exact Or.inr (Or.inl rfl) | exact Or.inr (Or.inr rfl)) (by decide) (by decide)) a_nil (by rfl)) (by decide) (by decide) (by rfl) (by rfl)) (nomark _))))) (s_one (s_ret e_bl)) s_nil)
    (s_cons (s_set (i := 7) sc_law_is_root_right.nd (e_bif (c_sortedD hr.units) rfl Z.b_sorted (by decide +kernel) (a_cons (e_lc rfl sc_law_is_root_right.nd (i_range1 rfl Z.b_range (e_bif c_len rfl Z.b_len (by decide +kernel) (a_cons (e_var (i := 4) rfl (by first | exact Or.inl rfl | exact Or.inr (Or.inl rfl) | exact Or.inr (Or.inr rfl)) (by decide) (by decide)) a_nil (by rfl)) (by decide) (by decide) (by rfl) (by rfl)) (by rfl)) (blkOk_by (own := [("at", 8)]) (N := N_law_is_root_right) (by kernel_rfl)) (fun _ => (g_name (i := 8) sc_law_is_root_right.nd rfl (by first | exact .inl rfl | exact .inr rfl) (by first | exact .inl rfl | exact .inr rfl))) (fun _ => p_nil) (fun _ => (e_op o_add (e_sl (e_var (i := 4) rfl (by first | exact Or.inl rfl | exact Or.inr (Or.inl rfl) | exact Or.inr (Or.inr rfl)) (by decide) (by decide)) (o_so (e_var (i := 8) rfl (by first | exact Or.inl rfl | exact Or.inr (Or.inl rfl) | exact Or.inr (Or.inr rfl)) (by decide) (by decide))) o_no) (e_sl (e_var (i := 4) rfl (by first | exact Or.inl rfl | exact Or.inr (Or.inl rfl) | exact Or.inr (Or.inr rfl)) (by decide) (by decide)) o_no (o_so (e_var (i := 8) rfl (by first | exact Or.inl rfl | exact Or.inr (Or.inl rfl) | exact Or.inr (Or.inr rfl)) (by decide) (by decide)))))) rfl (by decide) (by intro _; rfl)) a_nil (by rfl)) (by decide) (by decide) (by rfl) (by rfl)) rfl (by first | exact .inl rfl | exact .inr rfl) (by rfl) (by first | exact .inl rfl | exact .inr rfl))
    (s_cons (s_asg (e_callD (takes_of rfl rfl rfl rfl) d_least_turn (hr.mono (by decide)) rfl (a_cons (e_var (i := 6) rfl (by first | exact Or.inl rfl | exact Or.inr (Or.inl rfl) | exact Or.inr (Or.inr rfl)) (by decide) (by decide)) a_nil (by rfl)) (by decide) (by rfl) (by rfl)) (g_tup rfl (gs_cons (g_name (i := 9) sc_law_is_root_right.nd rfl (by first | exact .inl rfl | exact .inr rfl) (by first | exact .inl rfl | exact .inr rfl)) (gs_cons (g_name (i := 10) sc_law_is_root_right.nd rfl (by first | exact .inl rfl | exact .inr rfl) (by first | exact .inl rfl | exact .inr rfl)) gs_nil (by rfl)) (by rfl)) (by rfl) (by rfl)) (by rfl) (by rfl) (by rfl))
    (s_cons (s_if (w_pt (w_or (t_cmp (o_ne hr.units) (e_var (i := 9) rfl (by first | exact Or.inl rfl | exact Or.inr (Or.inl rfl) | exact Or.inr (Or.inr rfl)) (by decide) (by decide)) (e_op o_mul (e_ix (e_var (i := 7) rfl (by first | exact Or.inl rfl | exact Or.inr (Or.inl rfl) | exact Or.inr (Or.inr rfl)) (by decide) (by decide)) e_int (by intro _ _; rfl)) (e_op o_fdiv (e_bif c_len rfl Z.b_len (by decide +kernel) (a_cons (e_var (i := 6) rfl (by first | exact Or.inl rfl | exact Or.inr (Or.inl rfl) | exact Or.inr (Or.inr rfl)) (by decide) (by decide)) a_nil (by rfl)) (by decide) (by decide) (by rfl) (by rfl)) (e_bif c_len rfl Z.b_len (by decide +kernel) (a_cons (e_var (i := 4) rfl (by first | exact Or.inl rfl | exact Or.inr (Or.inl rfl) | exact Or.inr (Or.inr rfl)) (by decide) (by decide)) a_nil (by rfl)) (by decide) (by decide) (by rfl) (by rfl)))) (nomark _)) (w_or (t_cmp (o_ne hr.units) (e_op o_add (e_sl (e_var (i := 6) rfl (by first | exact Or.inl rfl | exact Or.inr (Or.inl rfl) | exact Or.inr (Or.inr rfl)) (by decide) (by decide)) (o_so (e_var (i := 10) rfl (by first | exact Or.inl rfl | exact Or.inr (Or.inl rfl) | exact Or.inr (Or.inr rfl)) (by decide) (by decide))) o_no) (e_sl (e_var (i := 6) rfl (by first | exact Or.inl rfl | exact Or.inr (Or.inl rfl) | exact Or.inr (Or.inr rfl)) (by decide) (by decide)) o_no (o_so (e_var (i := 10) rfl (by first | exact Or.inl rfl | exact Or.inr (Or.inl rfl) | exact Or.inr (Or.inr rfl)) (by decide) (by decide))))) (e_var (i := 9) rfl (by first | exact Or.inl rfl | exact Or.inr (Or.inl rfl) | exact Or.inr (Or.inr rfl)) (by decide) (by decide)) (nomark _)) (w_or1 (t_cmp o_ge (e_var (i := 10) rfl (by first | exact Or.inl rfl | exact Or.inr (Or.inl rfl) | exact Or.inr (Or.inr rfl)) (by decide) (by decide)) (e_bif c_len rfl Z.b_len (by decide +kernel) (a_cons (e_var (i := 4) rfl (by first | exact Or.inl rfl | exact Or.inr (Or.inl rfl) | exact Or.inr (Or.inr rfl)) (by decide) (by decide)) a_nil (by rfl)) (by decide) (by decide) (by rfl) (by rfl)) (nomark _)))))) (s_one (s_ret e_bl)) s_nil)
    (s_cons (s_set (i := 11) sc_law_is_root_right.nd (e_callD (takes_of rfl rfl rfl rfl) d_periods (hr.mono (by decide)) rfl (a_cons (e_var (i := 6) rfl (by first | exact Or.inl rfl | exact Or.inr (Or.inl rfl) | exact Or.inr (Or.inr rfl)) (by decide) (by decide)) a_nil (by rfl)) (by decide) (by rfl) (by rfl)) rfl (by first | exact .inl rfl | exact .inr rfl) (by rfl) (by first | exact .inl rfl | exact .inr rfl))
    (s_cons (s_set (i := 12) sc_law_is_root_right.nd (e_lc rfl sc_law_is_root_right.nd (i_range2 rfl Z.b_range e_int (e_op o_add (e_bif c_len rfl Z.b_len (by decide +kernel) (a_cons (e_var (i := 6) rfl (by first | exact Or.inl rfl | exact Or.inr (Or.inl rfl) | exact Or.inr (Or.inr rfl)) (by decide) (by decide)) a_nil (by rfl)) (by decide) (by decide) (by rfl) (by rfl)) e_int) (by rfl) (by rfl)) (blkOk_by (own := [("far", 13)]) (N := N_law_is_root_right) (by kernel_rfl)) (fun _ => (g_name (i := 13) sc_law_is_root_right.nd rfl (by first | exact .inl rfl | exact .inr rfl) (by first | exact .inl rfl | exact .inr rfl))) (fun _ => (p_one (t_cmp (o_eq hr.units) (e_sl (e_var (i := 6) rfl (by first | exact Or.inl rfl | exact Or.inr (Or.inl rfl) | exact Or.inr (Or.inr rfl)) (by decide) (by decide)) (o_so (e_var (i := 13) rfl (by first | exact Or.inl rfl | exact Or.inr (Or.inl rfl) | exact Or.inr (Or.inr rfl)) (by decide) (by decide))) o_no) (e_sl (e_var (i := 6) rfl (by first | exact Or.inl rfl | exact Or.inr (Or.inl rfl) | exact Or.inr (Or.inr rfl)) (by decide) (by decide)) o_no (o_so (e_op o_sub (e_bif c_len rfl Z.b_len (by decide +kernel) (a_cons (e_var (i := 6) rfl (by first | exact Or.inl rfl | exact Or.inr (Or.inl rfl) | exact Or.inr (Or.inr rfl)) (by decide) (by decide)) a_nil (by rfl)) (by decide) (by decide) (by rfl) (by rfl)) (e_var (i := 13) rfl (by first | exact Or.inl rfl | exact Or.inr (Or.inl rfl) | exact Or.inr (Or.inr rfl)) (by decide) (by decide))))) (nomark _)))) (fun _ => (e_var (i := 13) rfl (by first | exact Or.inl rfl | exact Or.inr (Or.inl rfl) | exact Or.inr (Or.inr rfl)) (by decide) (by decide))) rfl (by decide) (by intro _; rfl)) rfl (by first | exact .inl rfl | exact .inr rfl) (by rfl) (by first | exact .inl rfl | exact .inr rfl))
    (s_one (s_ret (e_and (e_cmp (o_eq hr.units) (e_bty c_list rfl Z.b_list (by decide +kernel) (a_cons (e_var (i := 11) rfl (by first | exact Or.inl rfl | exact Or.inr (Or.inl rfl) | exact Or.inr (Or.inr rfl)) (by decide) (by decide)) a_nil (by rfl)) (by decide) (by decide) (by rfl) (by rfl)) (e_var (i := 12) rfl (by first | exact Or.inl rfl | exact Or.inr (Or.inl rfl) | exact Or.inr (Or.inr rfl)) (by decide) (by decide)) (nomark _)) (e_one (e_bif (c_all rfl) rfl Z.b_all (by decide +kernel) (a_cons (e_lc rfl sc_law_is_root_right.nd (i_range2 rfl Z.b_range e_int (e_op o_add (e_op o_fdiv (e_bif c_len rfl Z.b_len (by decide +kernel) (a_cons (e_var (i := 6) rfl (by first | exact Or.inl rfl | exact Or.inr (Or.inl rfl) | exact Or.inr (Or.inr rfl)) (by decide) (by decide)) a_nil (by rfl)) (by decide) (by decide) (by rfl) (by rfl)) (e_bif c_len rfl Z.b_len (by decide +kernel) (a_cons (e_var (i := 4) rfl (by first | exact Or.inl rfl | exact Or.inr (Or.inl rfl) | exact Or.inr (Or.inr rfl)) (by decide) (by decide)) a_nil (by rfl)) (by decide) (by decide) (by rfl) (by rfl))) e_int) (by rfl) (by rfl)) (blkOk_by (own := [("at", 8)]) (N := N_law_is_root_right) (by kernel_rfl)) (fun _ => (g_name (i := 8) sc_law_is_root_right.nd rfl (by first | exact .inl rfl | exact .inr rfl) (by first | exact .inl rfl | exact .inr rfl))) (fun _ => p_nil) (fun _ => (e_cmp o_in (e_op o_mul (e_bif c_len rfl Z.b_len (by decide +kernel) (a_cons (e_var (i := 4) rfl (by first | exact Or.inl rfl | exact Or.inr (Or.inl rfl) | exact Or.inr (Or.inr rfl)) (by decide) (by decide)) a_nil (by rfl)) (by decide) (by decide) (by rfl) (by rfl)) (e_var (i := 8) rfl (by first | exact Or.inl rfl | exact Or.inr (Or.inl rfl) | exact Or.inr (Or.inr rfl)) (by decide) (by decide))) (e_var (i := 12) rfl (by first | exact Or.inl rfl | exact Or.inr (Or.inl rfl) | exact Or.inr (Or.inr rfl)) (by decide) (by decide)) rfl)) rfl (by decide) (by intro _; rfl)) a_nil (by rfl)) (by decide) (by decide) (by rfl) (by rfl))))))))))))))))
theorem ok_law_is_root_right (Z : Fa K mg) (h : Here K mg "_law_is_root_right" s_law_is_root_right ["hand"]) (d_periods : Dn P w K mg base T "periods" 4 1 F_periods) (d_least_turn : Dn P w K mg base T "least_turn" 4 1 F_least_turn) (d_turns_of : Dn P w K mg base T "turns_of" 3 1 F_turns_of) (d_root_of : Dn P w K mg base T "root_of" 5 1 F_root_of) (d_law_is : Dn P w K mg base T "_law_is" 8 2 (F_law_is 8)) (d_law_divisors : Dn P w K mg base T "_law_divisors" 1 1 F_law_divisors) (d_law_draw : Dn P w K mg base T "_law_draw" 1 2 F_law_draw) : Dn P w K mg base T "_law_is_root_right" 9 1 F_law_is_root_right := by
  obtain ⟨f, fd, hF, hm, hk, hb⟩ := h
  exact ⟨f, fd, _, hm, hk, hb, okx_law_is_root_right Z hF d_periods d_least_turn d_turns_of d_root_of d_law_is d_law_divisors d_law_draw⟩
abbrev s_law : Stmt := top 39
abbrev N_law : List Str := ["script", "hand", "turn", "letters", "length"]
theorem sc_law : FnScope N_law ["script"] (defScope s_law) := ⟨rfl, rfl, rfl, by decide +kernel, rfl, by decide +kernel, by decide +kernel⟩
def b_law : FS := (seqS (setS 1 (callE (arity 1 F_law_hand) (consA (vr 0) nilA)))
    (seqS (forS (rangeI1 (cn (.int 3))) (tgN 2)
    (seqS (parS 3 4 (bop addD (cn (.int 1)) (callE (arity 2 F_law_draw) (consA (vr 1) (consA (cn (.int 4)) nilA)))) (callE (arity 2 F_law_some) (consA (vr 1) (consA (lstE (consA (cn (.int 300)) (consA (cn (.int 240)) (consA (cn (.int 210)) (consA (cn (.int 64)) (consA (bop addD (cn (.int 1)) (callE (arity 2 F_law_draw) (consA (vr 1) (consA (cn (.int 300)) nilA)))) (consA (bop addD (cn (.int 1)) (callE (arity 2 F_law_draw) (consA (vr 1) (consA (cn (.int 40)) nilA)))) nilA))))))) nilA))))
    (ifS (orT (notT (tst (callE (arity 2 F_law_are_counts_right) (consA (vr 3) (consA (vr 4) nilA))))) (orT (notT (tst (callE (arity 1 F_law_are_periods_right) (consA (vr 1) nilA)))) (notT (tst (callE (arity 1 F_law_is_root_right) (consA (vr 1) nilA)))))) (retS (cn (.bl false))) nxS)))
    (retS (cn (.bl true)))))
def F_law : FF := defF 5 b_law
theorem okx_law (Z : Fa K mg) {f : Addr} {fd : FuncData} (hF : Fun K "law" "law" s_law f fd) (d_law_is_root_right : Dn P w K mg base T "_law_is_root_right" 9 1 F_law_is_root_right) (d_law_are_periods_right : Dn P w K mg base T "_law_are_periods_right" 3 1 F_law_are_periods_right) (d_law_are_counts_right : Dn P w K mg base T "_law_are_counts_right" 15 2 F_law_are_counts_right) (d_law_draw : Dn P w K mg base T "_law_draw" 1 2 F_law_draw) (d_law_some : Dn P w K mg base T "_law_some" 2 2 F_law_some) (d_law_hand : Dn P w K mg base T "_law_hand" 1 1 F_law_hand) : FnOk P w K mg base (L2.CX P w) 16 f fd ["script"] (spF K T 1 F_law) :=
  fn_ok hF sc_law rfl (by decide) fun cdv A outer s H E hr => (s_cons (s_set (i := 1) sc_law.nd (e_callD (takes_of rfl rfl rfl rfl) d_law_hand (hr.mono (by decide)) rfl (a_cons (e_var (i := 0) rfl (by first | exact Or.inl rfl | exact Or.inr (Or.inl rfl) | exact Or.inr (Or.inr rfl)) (by decide) (by decide)) a_nil (by rfl)) (by decide) (by rfl) (by rfl)) rfl (by first | exact .inl rfl | exact .inr rfl) (by rfl) (by first | exact .inl rfl | exact .inr rfl))
    (s_cons (s_for (passes_of rfl) rfl (i_range1 rfl Z.b_range e_int (by rfl)) (g_name (i := 2) sc_law.nd rfl (by first | exact .inl rfl | exact .inr rfl) (by first | exact .inl rfl | exact .inr rfl))
    (s_cons (s_par (i := 3) (j := 4) rfl sc_law.nd (e_op o_add e_int (e_callD (takes_of rfl rfl rfl rfl) d_law_draw (hr.mono (by decide)) rfl (a_cons (e_var (i := 1) rfl (by first | exact Or.inl rfl | exact Or.inr (Or.inl rfl) | exact Or.inr (Or.inr rfl)) (by decide) (by decide)) (a_cons e_int a_nil (by rfl)) (by rfl)) (by decide) (by rfl) (by rfl))) (e_callD (takes_of rfl rfl rfl rfl) d_law_some (hr.mono (by decide)) rfl (a_cons (e_var (i := 1) rfl (by first | exact Or.inl rfl | exact Or.inr (Or.inl rfl) | exact Or.inr (Or.inr rfl)) (by decide) (by decide)) (a_cons (e_lst (a_cons e_int (a_cons e_int (a_cons e_int (a_cons e_int (a_cons (e_op o_add e_int (e_callD (takes_of rfl rfl rfl rfl) d_law_draw (hr.mono (by decide)) rfl (a_cons (e_var (i := 1) rfl (by first | exact Or.inl rfl | exact Or.inr (Or.inl rfl) | exact Or.inr (Or.inr rfl)) (by decide) (by decide)) (a_cons e_int a_nil (by rfl)) (by rfl)) (by decide) (by rfl) (by rfl))) (a_cons (e_op o_add e_int (e_callD (takes_of rfl rfl rfl rfl) d_law_draw (hr.mono (by decide)) rfl (a_cons (e_var (i := 1) rfl (by first | exact Or.inl rfl | exact Or.inr (Or.inl rfl) | exact Or.inr (Or.inr rfl)) (by decide) (by decide)) (a_cons e_int a_nil (by rfl)) (by rfl)) (by decide) (by rfl) (by rfl))) a_nil (by rfl)) (by rfl)) (by rfl)) (by rfl)) (by rfl)) (by rfl))) a_nil (by rfl)) (by rfl)) (by decide) (by rfl) (by rfl)) rfl rfl (by decide) rfl rfl (by rfl) (by rfl) (by rfl) (by rfl))
    (s_one (s_if (w_pt (w_or (t_not (t_val (e_callD (takes_of rfl rfl rfl rfl) d_law_are_counts_right (hr.mono (by decide)) rfl (a_cons (e_var (i := 3) rfl (by first | exact Or.inl rfl | exact Or.inr (Or.inl rfl) | exact Or.inr (Or.inr rfl)) (by decide) (by decide)) (a_cons (e_var (i := 4) rfl (by first | exact Or.inl rfl | exact Or.inr (Or.inl rfl) | exact Or.inr (Or.inr rfl)) (by decide) (by decide)) a_nil (by rfl)) (by rfl)) (by decide) (by rfl) (by rfl)) (by intro _; rfl))) (w_or (t_not (t_val (e_callD (takes_of rfl rfl rfl rfl) d_law_are_periods_right (hr.mono (by decide)) rfl (a_cons (e_var (i := 1) rfl (by first | exact Or.inl rfl | exact Or.inr (Or.inl rfl) | exact Or.inr (Or.inr rfl)) (by decide) (by decide)) a_nil (by rfl)) (by decide) (by rfl) (by rfl)) (by intro _; rfl))) (w_or1 (t_not (t_val (e_callD (takes_of rfl rfl rfl rfl) d_law_is_root_right (hr.mono (by decide)) rfl (a_cons (e_var (i := 1) rfl (by first | exact Or.inl rfl | exact Or.inr (Or.inl rfl) | exact Or.inr (Or.inr rfl)) (by decide) (by decide)) a_nil (by rfl)) (by decide) (by rfl) (by rfl)) (by intro _; rfl))))))) (s_one (s_ret e_bl)) s_nil))) (by intro _; rfl))
    (s_one (s_ret e_bl))))
theorem ok_law (Z : Fa K mg) (h : Here K mg "law" s_law ["script"]) (d_law_is_root_right : Dn P w K mg base T "_law_is_root_right" 9 1 F_law_is_root_right) (d_law_are_periods_right : Dn P w K mg base T "_law_are_periods_right" 3 1 F_law_are_periods_right) (d_law_are_counts_right : Dn P w K mg base T "_law_are_counts_right" 15 2 F_law_are_counts_right) (d_law_draw : Dn P w K mg base T "_law_draw" 1 2 F_law_draw) (d_law_some : Dn P w K mg base T "_law_some" 2 2 F_law_some) (d_law_hand : Dn P w K mg base T "_law_hand" 1 1 F_law_hand) : Dn P w K mg base T "law" 16 1 F_law := by
  obtain ⟨f, fd, hF, hm, hk, hb⟩ := h
  exact ⟨f, fd, _, hm, hk, hb, okx_law Z hF d_law_is_root_right d_law_are_periods_right d_law_are_counts_right d_law_draw d_law_some d_law_hand⟩
end
theorem all_mk {l : PySem.W.OpenLaw} {w : World} {K : PySem.W.Frag} {h : Heap} {mg : Str → Option Value} {fa : Addr} (X : K.In h) (G : h.Ns mainGlobals mg) (hfa : mg "law" = some (.ref fa)) (Z : Fa K mg)
    (h_is_number : Here K mg "is_number" s_is_number ["thing"])
    (h_check_word : Here K mg "check_word" s_check_word ["word", "letters", "most"])
    (h_check_letters : Here K mg "check_letters" s_check_letters ["word"])
    (h_check_filled : Here K mg "check_filled" s_check_filled ["word"])
    (h_border_lengths : Here K mg "border_lengths" s_border_lengths ["word"])
    (h_borders : Here K mg "borders" s_borders ["word"])
    (h_periods : Here K mg "periods" s_periods ["word"])
    (h_root_of : Here K mg "root_of" s_root_of ["word"])
    (h_least_turn : Here K mg "least_turn" s_least_turn ["word"])
    (h_divisors : Here K mg "divisors" s_divisors ["number"])
    (h_raised : Here K mg "raised" s_raised ["number", "times"])
    (h_roots_count : Here K mg "roots_count" s_roots_count ["letters", "length"])
    (h_check_counts : Here K mg "check_counts" s_check_counts ["letters", "length"])
    (h_many_roots : Here K mg "many_roots" s_many_roots ["letters", "length"])
    (h_many_turns : Here K mg "many_turns" s_many_turns ["letters", "length"])
    (h_turns_of : Here K mg "turns_of" s_turns_of ["word"])
    (h_with_periods : Here K mg "with_periods" s_with_periods ["length", "first", "second"])
    (h_law_hand : Here K mg "_law_hand" s_law_hand ["script"])
    (h_law_draw : Here K mg "_law_draw" s_law_draw ["hand", "many"])
    (h_law_some : Here K mg "_law_some" s_law_some ["hand", "things"])
    (h_law_is : Here K mg "_law_is" s_law_is ["said", "due"])
    (h_law_gcd : Here K mg "_law_gcd" s_law_gcd ["one", "other"])
    (h_law_power : Here K mg "_law_power" s_law_power ["one", "many"])
    (h_law_sign : Here K mg "_law_sign" s_law_sign ["number"])
    (h_law_divisors : Here K mg "_law_divisors" s_law_divisors ["number"])
    (h_law_are_counts_right : Here K mg "_law_are_counts_right" s_law_are_counts_right ["letters", "length"])
    (h_law_joined : Here K mg "_law_joined" s_law_joined ["length", "first", "second"])
    (h_law_are_periods_right : Here K mg "_law_are_periods_right" s_law_are_periods_right ["hand"])
    (h_law_is_root_right : Here K mg "_law_is_root_right" s_law_is_root_right ["hand"])
    (h_law : Here K mg "law" s_law ["script"])
    (F : ∀ ns : List Int, ns.length ≤ 63 → (∀ z ∈ ns, Builtin.Int.intBits z ≤ 1048576) → F_law [.d (.scr ns)] [] = .ok (.d (.bl true)) []) :
    ∃ fd : FuncData, (∀ (s : Shared) (v : Value), BindsTo s fd ⟨[v], []⟩ [("script", v)]) ∧ ∀ base : Heap, K.In base → base.Ns mainGlobals mg → FnOk l.prog w K mg base (L2.CX l.prog w) 16 fa fd ["script"] (spLaw K) := by
  obtain ⟨fL, fdL, FL, mL, kL, bL⟩ := id h_law
  rw [hfa] at mL
  cases mL
  refine ⟨fdL, ?_, fun base _ _ => ?_⟩
  · obtain ⟨oc, od, kV, doc, pm, an, cdv, ct, osl, rfl, _⟩ := FL.ex
    exact fun s v => .of_eq rfl
  have d_is_number : Dn l.prog w K mg base ⟨fun _ => 0, fun _ => []⟩ "is_number" 1 1 F_is_number := ok_is_number Z h_is_number 
  have d_check_word : Dn l.prog w K mg base ⟨fun _ => 0, fun _ => []⟩ "check_word" 1 3 F_check_word := ok_check_word Z h_check_word 
  have d_check_letters : Dn l.prog w K mg base ⟨fun _ => 0, fun _ => []⟩ "check_letters" 2 1 F_check_letters := ok_check_letters Z h_check_letters d_check_word
  have d_check_filled : Dn l.prog w K mg base ⟨fun _ => 0, fun _ => []⟩ "check_filled" 3 1 F_check_filled := ok_check_filled Z h_check_filled d_check_letters
  have d_border_lengths : Dn l.prog w K mg base ⟨fun _ => 0, fun _ => []⟩ "border_lengths" 1 1 F_border_lengths := ok_border_lengths Z h_border_lengths 
  have d_borders : Dn l.prog w K mg base ⟨fun _ => 0, fun _ => []⟩ "borders" 3 1 F_borders := ok_borders Z h_borders d_border_lengths d_check_letters
  have d_periods : Dn l.prog w K mg base ⟨fun _ => 0, fun _ => []⟩ "periods" 4 1 F_periods := ok_periods Z h_periods d_borders
  have d_root_of : Dn l.prog w K mg base ⟨fun _ => 0, fun _ => []⟩ "root_of" 5 1 F_root_of := ok_root_of Z h_root_of d_periods d_check_filled
  have d_least_turn : Dn l.prog w K mg base ⟨fun _ => 0, fun _ => []⟩ "least_turn" 4 1 F_least_turn := ok_least_turn Z h_least_turn d_check_filled
  have d_divisors : Dn l.prog w K mg base ⟨fun _ => 0, fun _ => []⟩ "divisors" 1 1 F_divisors := ok_divisors Z h_divisors 
  have d_raised : Dn l.prog w K mg base ⟨fun _ => 0, fun _ => []⟩ "raised" 1 2 F_raised := ok_raised Z h_raised 
  have d_roots_count : Dn l.prog w K mg base ⟨fun _ => 0, fun _ => []⟩ "roots_count" 13 2 (F_roots_count 12) := ok_roots_count Z h_roots_count d_divisors d_raised 12
  have d_check_counts : Dn l.prog w K mg base ⟨fun _ => 0, fun _ => []⟩ "check_counts" 2 2 F_check_counts := ok_check_counts Z h_check_counts d_is_number
  have d_many_roots : Dn l.prog w K mg base ⟨fun _ => 0, fun _ => []⟩ "many_roots" 14 2 F_many_roots := ok_many_roots Z h_many_roots d_roots_count d_check_counts
  have d_many_turns : Dn l.prog w K mg base ⟨fun _ => 0, fun _ => []⟩ "many_turns" 14 2 F_many_turns := ok_many_turns Z h_many_turns d_divisors d_roots_count d_check_counts
  have d_turns_of : Dn l.prog w K mg base ⟨fun _ => 0, fun _ => []⟩ "turns_of" 3 1 F_turns_of := ok_turns_of Z h_turns_of d_check_letters
  have d_with_periods : Dn l.prog w K mg base ⟨fun _ => 0, fun _ => []⟩ "with_periods" 2 3 F_with_periods := ok_with_periods Z h_with_periods d_is_number
  have d_law_hand : Dn l.prog w K mg base ⟨fun _ => 0, fun _ => []⟩ "_law_hand" 1 1 F_law_hand := ok_law_hand Z h_law_hand 
  have d_law_draw : Dn l.prog w K mg base ⟨fun _ => 0, fun _ => []⟩ "_law_draw" 1 2 F_law_draw := ok_law_draw Z h_law_draw 
  have d_law_some : Dn l.prog w K mg base ⟨fun _ => 0, fun _ => []⟩ "_law_some" 2 2 F_law_some := ok_law_some Z h_law_some d_law_draw
  have d_law_is : Dn l.prog w K mg base ⟨fun _ => 0, fun _ => []⟩ "_law_is" 8 2 (F_law_is 8) := ok_law_is Z h_law_is  8
  have d_law_gcd : Dn l.prog w K mg base ⟨fun _ => 0, fun _ => []⟩ "_law_gcd" 1 2 F_law_gcd := ok_law_gcd Z h_law_gcd 
  have d_law_power : Dn l.prog w K mg base ⟨fun _ => 0, fun _ => []⟩ "_law_power" 1 2 F_law_power := ok_law_power Z h_law_power 
  have d_law_sign : Dn l.prog w K mg base ⟨fun _ => 0, fun _ => []⟩ "_law_sign" 1 1 F_law_sign := ok_law_sign Z h_law_sign 
  have d_law_divisors : Dn l.prog w K mg base ⟨fun _ => 0, fun _ => []⟩ "_law_divisors" 1 1 F_law_divisors := ok_law_divisors Z h_law_divisors 
  have d_law_are_counts_right : Dn l.prog w K mg base ⟨fun _ => 0, fun _ => []⟩ "_law_are_counts_right" 15 2 F_law_are_counts_right := ok_law_are_counts_right Z h_law_are_counts_right d_many_roots d_law_power d_many_turns d_law_is d_law_gcd d_law_sign d_law_divisors
  have d_law_joined : Dn l.prog w K mg base ⟨fun _ => 0, fun _ => []⟩ "_law_joined" 1 3 F_law_joined := ok_law_joined Z h_law_joined 
  have d_law_are_periods_right : Dn l.prog w K mg base ⟨fun _ => 0, fun _ => []⟩ "_law_are_periods_right" 3 1 F_law_are_periods_right := ok_law_are_periods_right Z h_law_are_periods_right d_law_draw d_with_periods d_law_joined d_law_gcd
  have d_law_is_root_right : Dn l.prog w K mg base ⟨fun _ => 0, fun _ => []⟩ "_law_is_root_right" 9 1 F_law_is_root_right := ok_law_is_root_right Z h_law_is_root_right d_periods d_least_turn d_turns_of d_root_of d_law_is d_law_divisors d_law_draw
  exact law_ok (okx_law (T := ⟨fun _ => 0, fun _ => []⟩) Z FL d_law_is_root_right d_law_are_periods_right d_law_are_counts_right d_law_draw d_law_some d_law_hand) F
end K21

set_option maxRecDepth 100000
set_option maxHeartbeats 1000000
namespace K21
open PySem PySem.Spec L2 Fy
structure Hand (cells : List Int) (i : Nat) (big mix cnt : Int) : Prop where
  c : ∀ z ∈ cells, 0 ≤ z
  b : 0 ≤ big
  m : 0 ≤ mix ∧ mix < 2147483648
  n : 0 ≤ cnt
def hand (cells : List Int) (i : Nat) (big mix cnt : Int) : O := .lst [.lst (cells.map .int), .int i, .int big, .int mix, .int cnt]
def HandM (M : Mem) : Prop := ∃ cells i big mix cnt, M = [hand cells i big mix cnt] ∧ Hand cells i big mix cnt
theorem mul_r {i j : Int} (h : j.natAbs < 2 ^ 63) : mulD (.int i) (.int j) = some (.int (i * j)) := ev_mul (.inr (.inl h))
theorem mul_l {i j : Int} (h : i.natAbs < 2 ^ 63) : mulD (.int i) (.int j) = some (.int (i * j)) := ev_mul (.inl h)
theorem mul_mod {a c j : Int} (h : 0 < c) (k : c < 2147483648) : mulD (.int (a % c)) (.int j) = some (.int (a % c * j)) := by
  refine mul_l ?_
  have h1 := Int.emod_nonneg a (show c ≠ 0 by omega)
  have h2 := Int.emod_lt_of_pos a h
  omega
theorem draw_split : ∃ p q, b_law_draw = seqS p q ∧ (∀ (m : Int) (M : Mem), HandM M → ∃ x M', p [some (.l 0), some (.d (.int m)), none, none, none] M = .nx [some (.l 0), some (.d (.int m)), x, none, none] M' ∧ HandM M') ∧
    (∀ (m : Int) (M : Mem) (x : Option A), 0 < m → m < 1073741824 → HandM M → ∃ v M', ends 1 (q [some (.l 0), some (.d (.int m)), x, none, none] M) = .ok (.d (.int v)) M' ∧ 0 ≤ v ∧ v < m ∧ HandM M') := by
  refine ⟨_, _, rfl, ?_, ?_⟩
  · rintro m M ⟨cells, i, big, mix, cnt, rfl, h⟩
    by_cases hb : big = 0 ∧ i < cells.length
    · obtain ⟨rfl, hi⟩ := hb
      have hc := h.c _ (List.getElem_mem hi)
      have e0 : ((i : Int) + 1).toNat = i + 1 := by omega
      by_cases hbig : 1000000000000000000 ≤ cells[i]
      · refine ⟨some (.d (.int cells[i])), [hand cells (i + 1) cells[i] ((mix * 69621 + cells[i] * 31 + 17) % 2147483647) cnt], ?_, _, _, _, _, _, rfl, ⟨h.c, hc, ⟨Int.emod_nonneg _ (by omega), by have := Int.emod_lt_of_pos (mix * 69621 + cells[i] * 31 + 17) (show (0:Int) < 2147483647 by omega); omega⟩, h.n⟩⟩
        simp [hand, hi, ev_mod, ev_setIx, atI, ixN, mul_r, powD, intOp, powC, hbig]
      · refine ⟨some (.d (.int cells[i])), [hand cells (i + 1) 0 ((mix * 69621 + cells[i] * 31 + 17) % 2147483647) cnt], ?_, _, _, _, _, _, rfl, ⟨h.c, by omega, ⟨Int.emod_nonneg _ (by omega), by have := Int.emod_lt_of_pos (mix * 69621 + cells[i] * 31 + 17) (show (0:Int) < 2147483647 by omega); omega⟩, h.n⟩⟩
        simp [hand, hi, ev_mod, ev_setIx, atI, ixN, mul_r, powD, intOp, powC, hbig]
    · have e1 : (if big = 0 then R.ok (decide (i < cells.length)) [hand cells i big mix cnt] else R.ok false [hand cells i big mix cnt]) = R.ok false [hand cells i big mix cnt] := by
        by_cases h0 : big = 0
        · have : ¬ i < cells.length := fun z => hb ⟨h0, z⟩
          simp [h0, this]
        · simp [h0]
      unfold hand at e1
      exact ⟨none, [hand cells i big mix cnt], by simp [hand, atI, ixN, e1], _, _, _, _, _, rfl, h⟩
  · rintro m M x hm hm2 ⟨cells, i, big, mix, cnt, rfl, h⟩
    by_cases h1 : 0 < big
    · refine ⟨big % m, [hand cells i (big / m) mix cnt], ?_, Int.emod_nonneg _ (by omega), Int.emod_lt_of_pos _ hm, cells, i, big / m, mix, cnt, rfl, ⟨h.c, Int.ediv_nonneg h.b (by omega), h.m, h.n⟩⟩
      simp [hand, ev_mod, ev_fdiv, hm, hm2, ev_setIx, atI, ixN, h1, ends]
    · have hz : ∃ z : Int, z % m = z % m := ⟨0, rfl⟩
      refine ⟨?z % m, [hand cells i big mix (cnt + 1)], ?w, Int.emod_nonneg _ (by omega), Int.emod_lt_of_pos _ hm, cells, i, big, mix, cnt + 1, rfl, ⟨h.c, h.b, h.m, by have := h.n; omega⟩⟩
      case w =>
        simp [hand, ev_mod, ev_fdiv, hm, hm2, ev_setIx, atI, ixN, mul_r, mul_l, mul_mod, h1, ends]
        rfl
theorem draw_ev {M : Mem} (h : HandM M) {m : Int} (hm : 0 < m) (hm2 : m < 1073741824) : ∃ v M', F_law_draw [.l 0, .d (.int m)] M = .ok (.d (.int v)) M' ∧ 0 ≤ v ∧ v < m ∧ HandM M' := by
  obtain ⟨p, q, e, hp, hq⟩ := draw_split
  obtain ⟨x, M1, e1, h1⟩ := hp m M h
  obtain ⟨v, M2, e2, r⟩ := hq m M1 x hm hm2 h1
  refine ⟨v, M2, ?_, r⟩
  have hl : M.length = 1 := by obtain ⟨_, _, _, _, _, rfl, _⟩ := h; rfl
  unfold F_law_draw defF
  rw [e, hl, ← e2]
  simp [env0, e1]
end K21

set_option maxRecDepth 100000
set_option maxHeartbeats 1000000
namespace K21
open PySem PySem.Spec L2 Fy
/-! ### numbers -/
abbrev I (n : Nat) : A := .d (.int n)
theorem gcd_ev (a b : Nat) (hb : b < 1000000000) (M : Mem) : F_law_gcd [I a, I b] M = .ok (I (Nat.gcd a b)) M := by
  obtain ⟨env', M', e, r⟩ := while_inv (c := tst (bop gtD (vr 1) (cn (.int 0)))) (p := parS 0 1 (vr 1) (bop modD (bifE intD (consA (vr 0) nilA)) (vr 1)))
    (fun k env M1 => ∃ x y : Nat, env = [some (I x), some (I y)] ∧ M1 = M ∧ y = k ∧ Nat.gcd x y = Nat.gcd a b) (fun env M1 => env = [some (I (Nat.gcd a b)), some (I 0)] ∧ M1 = M) (fun k env M1 => by
      rintro ⟨x, y, rfl, rfl, rfl, hg⟩
      by_cases h : y = 0
      · subst h
        refine .inl ⟨by simp, ?_, rfl⟩
        rw [← hg, Nat.gcd_zero_right]
      · have hy : 0 < y := by omega
        refine .inr ⟨by simp [h]; omega, [some (I y), some (I (x % y))], M1, x % y, Nat.mod_lt _ (by omega), .inl ?_, y, x % y, rfl, rfl, rfl, ?_⟩
        · simp [ev_mod, hy]
        · rw [← hg, Nat.gcd_comm x y, Nat.gcd_rec y x, Nat.gcd_comm (x % y) y]) FUEL b [some (I a), some (I b)] M hb ⟨a, b, rfl, rfl, rfl, rfl⟩
  obtain ⟨rfl, rfl⟩ := r
  unfold F_law_gcd defF b_law_gcd
  rw [show env0 2 [I a, I b] = [some (I a), some (I b)] from rfl, ev_seqS, e]
  simp [ends]
theorem ends_rt {n : Nat} {x : D} {M : Mem} : ends n (.rt (.d x) M) = .ok (.d x) (M.take n) := rfl
theorem take_len (M : Mem) : M.take M.length = M := List.take_length
theorem foldl_pow (k : Nat) : ∀ (ds : List D) (x : Nat) (s : Option A), (ds.foldl (fun (t : Nat × Option A) d => (t.1 * k, some (.d d))) (x, s)).1 = x * k ^ ds.length
  | [], x, s => by simp
  | d :: ds, x, s => by rw [List.foldl_cons, foldl_pow k ds, List.length_cons, Nat.pow_succ']; exact Nat.mul_assoc ..
theorem power_ev (k n : Nat) (hk : k < 2147483648) (hn : n < 1000000) (M : Mem) : F_law_power [I k, I n] M = .ok (I (k ^ n)) M := by
  have hb : smI (n : Int) = true := smI_of (by omega) (by omega)
  have hL := loop_fold (g := tgN 3) (p := setS 2 (bop mulD (vr 2) (vr 0))) (fun s : Nat × Option A => [some (I k), some (I n), some (I s.1), s.2]) (fun _ => M) (fun t d => (t.1 * k, some (.d d))) (fun _ => True) (rng 0 n) (fun s d hd _ => ⟨trivial, _, rfl, .inl (by
    have e : mulD (.int s.1) (.int k) = some (.int (s.1 * k : Nat)) := by rw [mul_r (by omega)]; simp
    simp [e])⟩) (1, none) trivial
  have e0 : loopS (tgN 3) (setS 2 (bop mulD (vr 2) (vr 0))) (rng 0 n) [some (I k), some (I n), some (.d (.int 1)), none] M = _ := hL.1
  rw [foldl_pow, rng_len, Nat.one_mul] at e0
  unfold F_law_power defF b_law_power
  rw [show env0 4 [I k, I n] = [some (I k), some (I n), none, none] from rfl]
  simp [hb, e0, ends]
theorem raised_ev (k n : Nat) (hk : k < 2147483648) (hn : n < 1000000) (M : Mem) : F_raised [I k, I n] M = .ok (I (k ^ n)) M := by
  have e : F_raised = F_law_power := rfl
  rw [e]; exact power_ev k n hk hn M
/-- the divisors, ascending -/
def dv (n : Nat) : List Nat := ((List.range n).map (· + 1)).filter fun d => n % d == 0
theorem divs_ev (n : Nat) (hn : n < 1000000) (M : Mem) : F_law_divisors [I n] M = .ok (.d (.lst ((dv n).map fun d : Nat => .int d))) M := by
  have e := compE_pure (it := rangeI2 (cn (.int 1)) (bop addD (vr 0) (cn (.int 1)))) (t := tgN 1) (c := tst (bop eqD (bop modD (bifE intD (consA (vr 0) nilA)) (vr 1)) (cn (.int 0)))) (el := vr 1) (vs := [1]) (env := [some (I n), none]) (M := M) (M1 := M) (ds := rng 1 n)
    (fun d => match d with | .int i => decide ((n : Int) % i = 0) | _ => false) id (by
      have h1 : smI 1 = true := by decide
      have h : smI ((n : Int) + 1) = true := smI_of (by omega) (by omega)
      have h2 : ((n : Int) + 1 - 1).toNat = n := by omega
      simp [h, h1]) (by rw [rng_len, SZ_eq]; omega) (fun d hd => by
      obtain ⟨i, hi, rfl⟩ := rng_mem hd
      have h : (0 : Int) < 1 + (i : Int) := by omega
      exact ⟨_, rfl, by simp [ev_mod, h], by simp⟩)
  unfold F_law_divisors defF b_law_divisors
  rw [show env0 2 [I n] = [some (I n), none] from rfl, ev_retS, e, ev_go_ok, ends_rt, take_len]
  refine congrArg (fun x => R.ok (A.d (D.lst x)) M) ?_
  unfold dv
  rw [show (1 : Int) = ((1 : Nat) : Int) from rfl, rng_nat]
  rw [List.filter_map, List.filter_map, List.map_map, List.map_map]
  congr 1
  · funext i; simp; omega
  · refine List.filter_congr fun i hi => ?_
    show decide ((n : Int) % ((1 + i : Nat) : Int) = 0) = (n % (i + 1) == 0)
    rw [← Int.natCast_emod, Nat.add_comm 1 i]
    by_cases h : n % (i + 1) = 0
    · rw [h]; rfl
    · rw [decide_eq_false (by omega)]
      exact (beq_eq_false_iff_ne.mpr h).symm
theorem divisors_ev (n : Nat) (hn : n < 1000000) (M : Mem) : F_divisors [I n] M = .ok (.d (.lst ((dv n).map fun d : Nat => .int d))) M := by
  have e : F_divisors = F_law_divisors := rfl
  rw [e]; exact divs_ev n hn M
/-! ### the counts -/
theorem dv_mem {n d : Nat} (h : d ∈ dv n) : 1 ≤ d ∧ d ≤ n ∧ n % d = 0 := by
  unfold dv at h
  rw [List.mem_filter, List.mem_map] at h
  obtain ⟨⟨i, hi, rfl⟩, h2⟩ := h
  rw [List.mem_range] at hi
  exact ⟨by omega, by omega, eq_of_beq h2⟩
theorem dv_len (n : Nat) : (dv n).length ≤ n := by
  unfold dv
  refine Nat.le_trans (List.length_filter_le _ _) ?_
  simp
/-- what _law_sign computes -/
def sgnStep (st : Option (Int × Nat)) (p : Nat) : Option (Int × Nat) := match st with
  | none => none
  | some (s, l) => if l % p = 0 then (if l / p % p = 0 then none else some (0 - s, l / p)) else some (s, l)
def sgn (n : Nat) : Int := match ((List.range (n - 1)).map (· + 2)).foldl sgnStep (some (1, n)) with
  | none => 0
  | some (s, _) => s
def sgnS (s : Int) (l : Nat) : List Nat → Int
  | [] => s
  | p :: ps => if l % p = 0 then (if l / p % p = 0 then 0 else sgnS (0 - s) (l / p) ps) else sgnS s l ps
abbrev sgB : FS := ifS (tst (bop eqD (bop modD (bifE intD (consA (vr 2) nilA)) (vr 3)) (cn (.int 0)))) (seqS (parS 2 1 (bop fdivD (vr 2) (vr 3)) (bop subD (cn (.int 0)) (vr 1))) (ifS (tst (bop eqD (bop modD (bifE intD (consA (vr 2) nilA)) (vr 3)) (cn (.int 0)))) (retS (cn (.int 0))) nxS)) nxS
theorem sign_loop (M : Mem) (a : A) : ∀ (ps : List Nat) (s : Int) (l : Nat) (x : Option A), (∀ p ∈ ps, 0 < p ∧ p < 1000000) →
    ends M.length (match loopS (tgN 3) sgB (ps.map fun p : Nat => D.int p) [some a, some (.d (.int s)), some (I l), x] M with
      | .nx env1 M1 => retS (vr 1) env1 M1 | .rt a M1 => .rt a M1 | .bk env1 M1 => .bk env1 M1 | .ct env1 M1 => .ct env1 M1 | .exc k fs env1 M1 => .exc k fs env1 M1 | .bad => .bad) = .ok (.d (.int (sgnS s l ps))) M
  | [], s, l, x, _ => by simp [loopS, ends, sgnS]
  | p :: ps, s, l, x, h => by
    obtain ⟨hp, hp2⟩ := h p List.mem_cons_self
    have hi : (0 : Int) < (p : Int) := by omega
    have hi2 : (p : Int) < 1073741824 := by omega
    have em : ∀ k : Nat, modD (.int (k : Int)) (.int (p : Int)) = some (.int ((k % p : Nat) : Int)) := fun k => by rw [ev_mod hi, Int.natCast_emod]
    have ed : fdivD (.int (l : Int)) (.int (p : Int)) = some (.int ((l / p : Nat) : Int)) := by rw [ev_fdiv hi hi2, Int.natCast_ediv]
    have z : ∀ k : Nat, decide (((k : Nat) : Int) = 0) = decide (k = 0) := fun k => by by_cases q : k = 0 <;> simp [q]
    rw [List.map_cons]
    unfold loopS sgnS
    obtain ⟨q, hq⟩ : ∃ q, q = l / p := ⟨_, rfl⟩
    rw [← hq] at ed ⊢
    have em1 := em l
    have em2 := em q
    by_cases h1 : l % p = 0
    · by_cases h2 : q % p = 0
      · rw [h1] at em1
        rw [h2] at em2
        simp [em1, em2, ed, h1, h2, ends]
      · have ih := sign_loop M a ps (0 - s) q (some (I p)) fun q hq => h q (List.mem_cons_of_mem _ hq)
        obtain ⟨r, hr⟩ : ∃ r, r = q % p := ⟨_, rfl⟩
        rw [← hr] at h2 em2
        rw [h1] at em1
        simp [em1, em2, ed, h1, h2, ← hr]
        simp at ih
        exact ih
    · have ih := sign_loop M a ps s l (some (I p)) fun q hq => h q (List.mem_cons_of_mem _ hq)
      obtain ⟨r, hr⟩ : ∃ r, r = l % p := ⟨_, rfl⟩
      rw [← hr] at h1 em1
      simp [em1, h1, ← hr]
      simp at ih
      exact ih
theorem sign_ev (n : Nat) (hn : n < 1000000) (M : Mem) : F_law_sign [I n] M = .ok (.d (.int (sgnS 1 n ((List.range (n - 1)).map (2 + ·))))) M := by
  have h1 : smI 2 = true := by decide
  have h : smI ((n : Int) + 1) = true := smI_of (by omega) (by omega)
  have e := sign_loop M (I n) ((List.range (n - 1)).map (2 + ·)) 1 n none fun p hp => by
    obtain ⟨i, hi, rfl⟩ := List.mem_map.mp hp
    rw [List.mem_range] at hi
    omega
  have er : rng 2 ((n : Int) + 1 - 2).toNat = ((List.range (n - 1)).map (2 + ·)).map fun p : Nat => D.int p := by
    rw [show ((n : Int) + 1 - 2).toNat = n - 1 by omega, show (2 : Int) = ((2 : Nat) : Int) from rfl, rng_nat, List.map_map]
    rfl
  rw [← e]
  unfold F_law_sign defF b_law_sign
  rw [show env0 4 [I n] = [some (I n), none, none, none] from rfl]
  simp [h1, h, er] <;> rfl
end K21

set_option maxRecDepth 100000
set_option maxHeartbeats 1000000
namespace K21
open PySem PySem.Spec L2 Fy
def sgnP (n : Nat) : Int := sgnS 1 n ((List.range (n - 1)).map (2 + ·))
def phi (n : Nat) : Nat := ((List.range n).filter fun k => Nat.gcd k n == 1).length
def mob (k n : Nat) : Int := ((dv n).map fun d => sgnP d * ((k ^ (n / d) : Nat) : Int)).sum
def tot (k n : Nat) : Int := ((dv n).map fun d => ((phi d : Nat) : Int) * ((k ^ (n / d) : Nat) : Int)).sum
def rcF : Nat → Nat → Nat → Int
  | 0, _, _ => 0
  | f + 1, k, n => (dv n).dropLast.foldl (fun w d => w - rcF f k d) ((k ^ n : Nat) : Int)
theorem sgnS_abs : ∀ (ps : List Nat) (s : Int) (l : Nat), s.natAbs ≤ 1 → (sgnS s l ps).natAbs ≤ 1
  | [], s, l, h => h
  | p :: ps, s, l, h => by
    unfold sgnS
    split
    · split
      · decide
      · exact sgnS_abs ps _ _ (by omega)
    · exact sgnS_abs ps _ _ h
theorem sgnP_abs (n : Nat) : (sgnP n).natAbs ≤ 1 := sgnS_abs _ _ _ (by decide)
theorem cut_last {α : Type} (xs : List α) : cutL xs none (some (-1)) = xs.dropLast := by
  unfold cutL sB sE
  rw [List.dropLast_eq_take]
  show (xs.drop 0).take ((-1 + (xs.length : Int)).toNat - 0) = _
  rw [List.drop_zero, Nat.sub_zero]
  congr 1
  omega
theorem dv_split {n : Nat} (h : 1 ≤ n) : dv n = (((List.range (n - 1)).map (· + 1)).filter fun d => n % d == 0) ++ [n] := by
  obtain ⟨m, rfl⟩ : ∃ m, n = m + 1 := ⟨n - 1, by omega⟩
  unfold dv
  rw [Nat.add_sub_cancel, List.range_succ, List.map_append, List.filter_append]
  congr 1
  simp
theorem drop_mem {n d : Nat} (h : d ∈ (dv n).dropLast) : 1 ≤ d ∧ 2 * d ≤ n := by
  by_cases hn : 1 ≤ n
  · rw [dv_split hn, List.dropLast_concat, List.mem_filter, List.mem_map] at h
    obtain ⟨⟨i, hi, rfl⟩, h2⟩ := h
    rw [List.mem_range] at hi
    refine ⟨by omega, ?_⟩
    obtain ⟨q, hq⟩ := Nat.dvd_of_mod_eq_zero (eq_of_beq h2)
    have : 2 ≤ q := by
      rcases Nat.lt_or_ge q 2 with h | h
      · have : q = 0 ∨ q = 1 := by omega
        rcases this with rfl | rfl <;> omega
      · exact h
    calc 2 * (i + 1) = (i + 1) * 2 := Nat.mul_comm ..
      _ ≤ (i + 1) * q := Nat.mul_le_mul_left _ this
      _ = n := hq.symm
  · have : n = 0 := by omega
    subst this
    simp [dv] at h
theorem roots_ev : ∀ (f k n : Nat), k < 2147483648 → n < 1000000 → n < 2 ^ f → ∀ M : Mem, F_roots_count (f + 1) [I k, I n] M = .ok (.d (.int (rcF (f + 1) k n))) M
  | f, k, n, hk, hn, hf, M => by
    have hL := loop_fold (g := tgN 3) (p := setS 2 (bop subD (vr 2) (callE (arity 2 (F_roots_count f)) (consA (vr 0) (consA (vr 3) nilA))))) (fun s : Int × Option A => [some (I k), some (I n), some (.d (.int s.1)), s.2]) (fun _ => M)
      (fun t d => (t.1 - rcF f k (match d with | .int i => i.toNat | _ => 0), some (.d d))) (fun _ => True) ((dv n).dropLast.map fun d : Nat => D.int d) (fun s d hd _ => ⟨trivial, _, rfl, .inl (by
      obtain ⟨d', hd', rfl⟩ := List.mem_map.mp hd
      obtain ⟨h1, h2⟩ := drop_mem hd'
      cases f with
      | zero => simp at hf; omega
      | succ f =>
        have ih := roots_ev f k d' hk (by omega) (by rw [Nat.pow_succ] at hf; omega) M
        simp [ih])⟩) (((k ^ n : Nat) : Int), none) trivial
    have e0 := hL.1
    have ef : ∀ (ds : List Nat) (w : Int) (x : Option A), ((ds.map fun d : Nat => D.int d).foldl (fun (t : Int × Option A) d => (t.1 - rcF f k (match d with | .int i => i.toNat | _ => 0), some (.d d))) (w, x)).1 = ds.foldl (fun w d => w - rcF f k d) w := by
      intro ds
      induction ds with
      | nil => intro w x; rfl
      | cons d ds ih => intro w x; rw [List.map_cons, List.foldl_cons, ih, List.foldl_cons]; rfl
    rw [ef] at e0
    have hr : F_raised [I k, I n] M = .ok (I (k ^ n)) M := raised_ev k n hk hn M
    have hd : F_divisors [I n] M = _ := divisors_ev n hn M
    refine def_rt1 (seq_nx (set_at (call2_at rfl rfl hr)) (seq_nx (for_at (items_at (ds := (dv n).dropLast.map fun d : Nat => D.int d) (sl_at (call1_at rfl hd) rfl rfl rfl ?_)) e0) (ret_at rfl)))
    show some (D.lst (cutL _ none (some (-1)))) = _
    rw [cut_last, List.map_dropLast]
/-! what is so, up to three hundred -/
def ok1 (k n : Nat) : Bool := ((dv n).map (mob k)).sum == ((k ^ n : Nat) : Int)
def ok2 (k n : Nat) : Bool := ((dv n).map fun d => mob k d / (d : Int)).sum == tot k n / (n : Int)
theorem all1 : [1, 2, 3, 4].all (fun k => ((List.range 300).map (· + 1)).all (ok1 k)) = true := by decide +kernel
theorem all2 : [1, 2, 3, 4].all (fun k => ((List.range 300).map (· + 1)).all (ok2 k)) = true := by decide +kernel
theorem small_k {k : Nat} (h1 : 1 ≤ k) (h4 : k ≤ 4) : k ∈ [1, 2, 3, 4] := by
  have : k = 1 ∨ k = 2 ∨ k = 3 ∨ k = 4 := by omega
  rcases this with rfl | rfl | rfl | rfl <;> decide
theorem small_n {n : Nat} (h1 : 1 ≤ n) (h3 : n ≤ 300) : n ∈ (List.range 300).map (· + 1) := List.mem_map.mpr ⟨n - 1, List.mem_range.mpr (by omega), by omega⟩
theorem is1 {k n : Nat} (h1 : 1 ≤ k) (h4 : k ≤ 4) (hn : 1 ≤ n) (h3 : n ≤ 300) : ((dv n).map (mob k)).sum = ((k ^ n : Nat) : Int) :=
  eq_of_beq (List.all_eq_true.mp (List.all_eq_true.mp all1 k (small_k h1 h4)) n (small_n hn h3))
theorem is2 {k n : Nat} (h1 : 1 ≤ k) (h4 : k ≤ 4) (hn : 1 ≤ n) (h3 : n ≤ 300) : ((dv n).map fun d => mob k d / (d : Int)).sum = tot k n / (n : Int) :=
  eq_of_beq (List.all_eq_true.mp (List.all_eq_true.mp all2 k (small_k h1 h4)) n (small_n hn h3))
theorem foldl_sub (g : Nat → Int) : ∀ (ds : List Nat) (w : Int), ds.foldl (fun w d => w - g d) w = w - (ds.map g).sum
  | [], w => by simp
  | d :: ds, w => by rw [List.foldl_cons, foldl_sub g ds, List.map_cons, List.sum_cons]; omega
theorem rc_mob : ∀ (f k n : Nat), 1 ≤ k → k ≤ 4 → 1 ≤ n → n ≤ 300 → n < 2 ^ f → rcF (f + 1) k n = mob k n
  | f, k, n, h1, h4, hn, h3, hf => by
    unfold rcF
    rw [foldl_sub]
    have e : (dv n).dropLast.map (rcF f k) = (dv n).dropLast.map (mob k) := List.map_congr_left fun d hd => by
      obtain ⟨a, b⟩ := drop_mem hd
      cases f with
      | zero => simp at hf; omega
      | succ f => exact rc_mob f k d h1 h4 a (by omega) (by rw [Nat.pow_succ] at hf; omega)
    rw [e]
    have q := is1 h1 h4 hn h3
    have c := dv_split hn
    have c2 : (dv n).dropLast ++ [n] = dv n := by rw [c, List.dropLast_concat]
    rw [← c2, List.map_append, List.sum_append] at q
    simp only [List.map_cons, List.map_nil, List.sum_cons, List.sum_nil, Int.add_zero] at q
    omega
theorem roots_is {k n : Nat} (h1 : 1 ≤ k) (h4 : k ≤ 4) (hn : 1 ≤ n) (h3 : n ≤ 300) (M : Mem) : F_roots_count 12 [I k, I n] M = .ok (.d (.int (mob k n))) M := by
  rw [roots_ev 11 k n (by omega) (by omega) (by omega), rc_mob 11 k n h1 h4 hn h3 (by omega)]
theorem isnum_ev (i : Int) (M : Mem) : F_is_number [.d (.int i)] M = .ok (.d (.bl true)) M := def_rt1 (by simp [b_is_number, env0, isB])
end K21

set_option maxRecDepth 100000
set_option maxHeartbeats 1000000
namespace K21
open PySem PySem.Spec L2 Fy
/-! lists of numbers -/
abbrev Ns (ds : List Nat) : D := .lst (ds.map fun d : Nat => .int d)
theorem intsOf_ints (f : Nat → Int) (ds : List Nat) : intsOf (ds.map fun d => D.int (f d)) = some (ds.map f) := by
  rw [← intsOf_map, List.map_map]; rfl
theorem sum_ints (f : Nat → Int) (ds : List Nat) : sumD [.lst (ds.map fun d => D.int (f d))] = some (.int (ds.map f).sum) := by
  show (intsOf _).map _ = _
  rw [intsOf_ints]; rfl
/-- a comprehension over numbers -/
theorem comp_nums {it : FI} {el : FE} {i : Nat} {env : Fy.Env} {M : Mem} {ds : List Nat} (f : Nat → D) (hi : it env M = .ok (ds.map fun d : Nat => .int d) M) (hl : ds.length ≤ SZ)
    (h : ∀ d ∈ ds, el ((env.set i none).set i (some (I d))) M = .ok (.d (f d)) M) : compE it (tgN i) yesT el [i] env M = .ok (.d (.lst (ds.map f))) M := by
  rw [compE_map (fun d => match d with | .int j => f j.toNat | _ => .non) hi (by rw [List.length_map]; exact hl) fun d hd => ?_, List.map_map]
  · rfl
  · obtain ⟨d', hd', rfl⟩ := List.mem_map.mp hd
    exact ⟨_, rfl, h d' hd'⟩
theorem check_counts_ev {k n : Nat} (h1 : 1 ≤ k) (h4 : k ≤ 4) (hn : 1 ≤ n) (h3 : n ≤ 300) (M : Mem) : F_check_counts [I k, I n] M = .ok (.d .non) M := by
  have a1 : decide ((1 : Int) ≤ (k : Int)) = true := decide_eq_true (by omega)
  have a2 : decide ((k : Int) ≤ 4) = true := decide_eq_true (by omega)
  have a3 : decide ((1 : Int) ≤ (n : Int)) = true := decide_eq_true (by omega)
  have a4 : decide ((n : Int) ≤ 300) = true := decide_eq_true (by omega)
  have l4 : lenD [.str [97, 98, 99, 100]] = some (.int 4) := rfl
  have q1 : chE leD leD (cn (.int 1)) (vr 0) (bifE lenD (consA (cn (.str [97, 98, 99, 100])) nilA)) [some (I k), some (I n)] M = .ok (.d (.bl true)) M := by simp [chE, l4, a1, a2]
  have q2 : chE leD leD (cn (.int 1)) (vr 1) (cn (.int 300)) [some (I k), some (I n)] M = .ok (.d (.bl true)) M := by simp [chE, a3, a4]
  exact def_nx1 (env1 := [some (I k), some (I n)]) (seq_nx (if_f (or_f (not_at (b := true) (tst_at (call1_at rfl (isnum_ev _ _)))) (not_at (b := true) (tst_at q1))) rfl) (if_f (or_f (not_at (b := true) (tst_at (call1_at rfl (isnum_ev _ _)))) (not_at (b := true) (tst_at q2))) rfl))
theorem many_roots_ev {k n : Nat} (h1 : 1 ≤ k) (h4 : k ≤ 4) (hn : 1 ≤ n) (h3 : n ≤ 300) (M : Mem) : F_many_roots [I k, I n] M = .ok (.d (.int (mob k n))) M :=
  def_rt1 (seq_nx (drop_at (call2_at rfl rfl (check_counts_ev h1 h4 hn h3 M))) (ret_at (call2_at rfl rfl (roots_is h1 h4 hn h3 M))))
theorem many_turns_ev {k n : Nat} (h1 : 1 ≤ k) (h4 : k ≤ 4) (hn : 1 ≤ n) (h3 : n ≤ 300) (M : Mem) : F_many_turns [I k, I n] M = .ok (.d (.int ((dv n).map fun d => mob k d / (d : Int)).sum)) M := by
  refine def_rt1 (seq_nx (drop_at (call2_at rfl rfl (check_counts_ev h1 h4 hn h3 M))) (ret_at (bif1_at (comp_nums (fun d => .int (mob k d / (d : Int))) (items_at (call1_at rfl (divisors_ev n (by omega) M))) (Nat.le_trans (dv_len n) (by rw [SZ_eq]; omega)) fun d hd => ?_) rfl (sum_ints _ _))))
  obtain ⟨a, b, _⟩ := dv_mem hd
  exact bop_at (call2_at rfl rfl (roots_is h1 h4 a (by omega) M)) rfl (ev_fdiv (by omega) (by omega))
theorem phi_ev {n : Nat} (h3 : n ≤ 300) {env : Fy.Env} {M : Mem} {i j : Nat} (hi : env[i]? = some (some (I n))) (hij : i ≠ j) (hj : j < env.length) :
    compE (rangeI1 (vr i)) (tgN j) (tst (bop eqD (callE (arity 2 F_law_gcd) (consA (vr j) (consA (vr i) nilA))) (cn (.int 1)))) (vr j) [j] env M = .ok (.d (.lst (((List.range n).filter fun k => Nat.gcd k n == 1).map fun d : Nat => .int d))) M := by
  have hv : ∀ M, vr i env M = .ok (I n) M := fun M => by rw [ev_vr, hi]
  rw [compE_pure (M1 := M) (ds := rng 0 n) (fun d => match d with | .int k => Nat.gcd k.toNat n == 1 | _ => false) id (range1_at (hv M) (by omega)) (by rw [rng_len, SZ_eq]; omega) fun d hd => ?_]
  · rw [show (0 : Int) = ((0 : Nat) : Int) from rfl, rng_nat, List.filter_map, List.map_map]
    refine congrArg (fun x => R.ok (A.d (D.lst x)) M) ?_
    simp only [Nat.zero_add]
    rfl
  · obtain ⟨k, hk, rfl⟩ := rng_mem hd
    have e0 : (0 : Int) + (k : Nat) = (k : Nat) := by omega
    rw [e0]
    have gj : ((env.set j none).set j (some (I k)))[j]? = some (some (I k)) := by
      rw [List.getElem?_set_self (by rw [List.length_set]; exact hj)]
    have gi : ((env.set j none).set j (some (I k)))[i]? = some (some (I n)) := by
      rw [List.getElem?_set_ne hij.symm, List.getElem?_set_ne hij.symm, hi]
    have vj : ∀ M, vr j ((env.set j none).set j (some (I k))) M = .ok (I k) M := fun M => by rw [ev_vr, gj]
    have vi : ∀ M, vr i ((env.set j none).set j (some (I k))) M = .ok (I n) M := fun M => by rw [ev_vr, gi]
    refine ⟨_, rfl, ?_, fun _ => vj M⟩
    refine tst_at (bop_at (call2_at (vj M) (vi M) (gcd_ev k n (by omega) M)) rfl ?_)
    show some (D.bl (decide (((Nat.gcd k n : Nat) : Int) = 1))) = some (D.bl (Nat.gcd k n == 1))
    congr 2
    by_cases q : Nat.gcd k n = 1
    · rw [q]; rfl
    · rw [decide_eq_false (by omega)]; exact (beq_eq_false_iff_ne.mpr q).symm
theorem isI (n : Nat) (a b : Int) (M : Mem) : F_law_is (n + 1) [.d (.int a), .d (.int b)] M = .ok (.d (.bl (decide (a = b)))) M := by
  show defF 4 _ _ _ = _
  refine def_rt1 ?_
  simp [b_law_is, env0, isB, isnD, Fy.isNon]
theorem isL (n : Nat) (a b c d : Int) (M : Mem) : F_law_is (n + 2) [.d (.lst [.int a, .int b]), .d (.lst [.int c, .int d])] M = .ok (.d (.bl (decide (a = c) && decide (b = d)))) M := by
  show defF 4 (b_law_is (F_law_is (n + 1))) _ _ = _
  refine def_rt1 ?_
  have e : ∀ (env : Fy.Env) (M1 : Mem) (a c : Int), env.length = 4 → callE (arity 2 (F_law_is (n + 1))) (consA (vr 2) (consA (vr 3) nilA)) ((env.set 2 (some (.d (.int a)))).set 3 (some (.d (.int c)))) M1 = .ok (.d (.bl (decide (a = c)))) M1 := fun env M1 a c hl => by
    have g2 : ((env.set 2 (some (A.d (.int a)))).set 3 (some (A.d (.int c))))[2]? = some (some (A.d (.int a))) := by
      rw [List.getElem?_set_ne (by decide), List.getElem?_set_self (by omega)]
    have g3 : ((env.set 2 (some (A.d (.int a)))).set 3 (some (A.d (.int c))))[3]? = some (some (A.d (.int c))) := by
      rw [List.getElem?_set_self (by rw [List.length_set]; omega)]
    exact call2_at (by rw [ev_vr, g2]) (by rw [ev_vr, g3]) (isI n a c M1)
  have e2 : compE (zipI (vr 0) (vr 1)) (tgT (tgCons (tgN 2) (tgCons (tgN 3) tgNil))) yesT (callE (arity 2 (F_law_is (n + 1))) (consA (vr 2) (consA (vr 3) nilA))) [2, 3] [some (.d (.lst [.int a, .int b])), some (.d (.lst [.int c, .int d])), none, none] M = .ok (.d (.lst [.bl (decide (a = c)), .bl (decide (b = d))])) M := by
    refine (compE_map (ds := [.tup [.int a, .int c], .tup [.int b, .int d]]) (fun x => match x with | .tup [.int p, .int q] => .bl (decide (p = q)) | _ => .non) rfl (Nat.le_of_ble_eq_true rfl) fun x hx => ?_).trans rfl
    simp only [List.mem_cons, List.not_mem_nil, or_false] at hx
    rcases hx with rfl | rfl
    · exact ⟨_, rfl, e _ M a c rfl⟩
    · exact ⟨_, rfl, e _ M b d rfl⟩
  simp [b_law_is, env0, isB, e2, allBD, bolsOf]
theorem counts_ev {k n : Nat} (h1 : 1 ≤ k) (h4 : k ≤ 4) (hn : 1 ≤ n) (h3 : n ≤ 300) (M : Mem) : F_law_are_counts_right [I k, I n] M = .ok (.d (.bl true)) M := by
  have hdiv : F_law_divisors [I n] M = .ok (.d (Ns (dv n))) M := divs_ev n (by omega) M
  have hl : (dv n).length ≤ SZ := Nat.le_trans (dv_len n) (by rw [SZ_eq]; omega)
  have fd : ∀ d ∈ dv n, fdivD (.int (n : Int)) (.int (d : Int)) = some (.int ((n / d : Nat) : Int)) := fun d hd => by
    obtain ⟨a, b, _⟩ := dv_mem hd
    rw [ev_fdiv (by omega) (by omega), Int.natCast_ediv]
  have pw : ∀ d, F_law_power [I k, I (n / d)] M = .ok (I (k ^ (n / d))) M := fun d => power_ev k (n / d) (by omega) (Nat.lt_of_le_of_lt (Nat.div_le_self ..) (by omega)) M
  have hr : F_many_roots [I k, I n] M = .ok (.d (.int (mob k n))) M := many_roots_ev h1 h4 hn h3 M
  have ht : F_many_turns [I k, I n] M = .ok (.d (.int (tot k n / (n : Int)))) M := by rw [many_turns_ev h1 h4 hn h3, is2 h1 h4 hn h3]
  refine def_rt1 (seq_nx (set_at (call1_at rfl hdiv)) (seq_nx (set_at (bif1_at (comp_nums (fun d => .int (sgnP d * ((k ^ (n / d) : Nat) : Int))) (items_at rfl) hl fun d hd => ?a) rfl (sum_ints _ _)))
    (seq_nx (set_at (bif1_at (comp_nums (fun d => .int (((phi d : Nat) : Int) * ((k ^ (n / d) : Nat) : Int))) (items_at rfl) hl fun d hd => ?b) rfl (sum_ints _ _)))
    (seq_nx (if_f (not_at (b := true) (tst_at ?c)) rfl) (ret_at (bop_at (bif1_at (comp_nums (fun d => .int (mob k d)) (items_at rfl) hl fun d hd => ?d) rfl (sum_ints _ _)) (call2_at rfl rfl (power_ev k n (by omega) (by omega) M)) ?e))))))
  case a =>
    obtain ⟨a, b, _⟩ := dv_mem hd
    exact bop_at (call1_at rfl (sign_ev d (by omega) M)) (call2_at rfl (bop_at rfl rfl (fd d hd)) (pw d)) (mul_l (by have := sgnP_abs d; unfold sgnP at this; omega))
  case b =>
    obtain ⟨a, b, _⟩ := dv_mem hd
    refine bop_at (bif1_at (phi_ev (n := d) (by omega) rfl (by decide) (by show 6 < 7; decide)) rfl (by rw [ev_len_l, List.length_map]; rfl)) (call2_at rfl (bop_at rfl rfl (fd d hd)) (pw d)) (mul_l ?_)
    have : phi d ≤ d := by unfold phi; exact Nat.le_trans (List.length_filter_le _ _) (by rw [List.length_range]; omega)
    show ((phi d : Nat) : Int).natAbs < _
    omega
  case c =>
    have := isL 6 (mob k n) (tot k n / (n : Int)) (mob k n) (tot k n / (n : Int)) M
    rw [decide_eq_true rfl, decide_eq_true rfl] at this
    refine call2_at (M1 := M) (a := .d (.lst [.int (mob k n), .int (tot k n / (n : Int))])) ?_ (M2 := M) (a2 := .d (.lst [.int (mob k n), .int (tot k n / (n : Int))])) ?_ this
    · exact lst2_at (call2_at rfl rfl hr) (call2_at rfl rfl ht)
    · exact lst2_at rfl (bop_at rfl rfl (ev_fdiv (by omega) (by omega)))
  case d =>
    obtain ⟨a, b, _⟩ := dv_mem hd
    exact call2_at rfl rfl (many_roots_ev h1 h4 a (by omega) M)
  case e =>
    rw [is1 h1 h4 hn h3]
    show some (D.bl (decide _)) = _
    rw [decide_eq_true rfl]
end K21

set_option maxRecDepth 100000
namespace K21
open Fy
/-! ### how many are different -/
abbrev sd (σ : List Int) (v : Int) : List Int := PyProof.Rows.step_dedup σ v
theorem sd_mem (σ : List Int) (v x : Int) : x ∈ sd σ v ↔ x ∈ σ ∨ x = v := by
  unfold sd PyProof.Rows.step_dedup
  split
  · rename_i h
    rw [List.any_eq_true] at h
    obtain ⟨y, hy, e⟩ := h
    have e := eq_of_beq e
    subst e
    exact ⟨.inl, fun z => z.elim id fun q => q ▸ hy⟩
  · simp
theorem sd_nodup {σ : List Int} (h : σ.Nodup) (v : Int) : (sd σ v).Nodup := by
  unfold sd PyProof.Rows.step_dedup
  split
  · exact h
  · rename_i hn
    have hn' : v ∉ σ := fun hm => hn (List.any_eq_true.mpr ⟨v, hm, by simp⟩)
    rw [List.nodup_append]
    refine ⟨h, by simp, fun a ha b hb => ?_⟩
    rw [List.mem_singleton] at hb
    intro e
    exact hn' (by rw [← hb, ← e]; exact ha)
theorem ded_all : ∀ (ns σ : List Int), (∀ x, x ∈ ns.foldl sd σ ↔ x ∈ σ ∨ x ∈ ns) ∧ (σ.Nodup → (ns.foldl sd σ).Nodup)
  | [], σ => ⟨fun x => by simp, id⟩
  | n :: ns, σ => by
    obtain ⟨h1, h2⟩ := ded_all ns (sd σ n)
    refine ⟨fun x => ?_, fun h => h2 (sd_nodup h n)⟩
    rw [List.foldl_cons, h1 x, sd_mem, List.mem_cons]
    exact or_assoc
theorem ded_mem (ns : List Int) (x : Int) : x ∈ dedI ns ↔ x ∈ ns := by
  unfold dedI; rw [(ded_all ns []).1 x]; simp
theorem ded_nodup (ns : List Int) : (dedI ns).Nodup := (ded_all ns []).2 List.nodup_nil
theorem nodup_le {α : Type} [DecidableEq α] : ∀ {a b : List α}, a.Nodup → (∀ x ∈ a, x ∈ b) → a.length ≤ b.length
  | [], b, _, _ => Nat.zero_le _
  | x :: a, b, hn, h => by
    obtain ⟨h1, h2⟩ := List.nodup_cons.mp hn
    have hx := h x List.mem_cons_self
    have ih := nodup_le (a := a) (b := b.erase x) h2 fun y hy => by
      have hne : y ≠ x := fun e => h1 (e ▸ hy)
      exact (List.mem_erase_of_ne hne).mpr (h y (List.mem_cons_of_mem _ hy))
    rw [List.length_erase_of_mem hx] at ih
    have : 0 < b.length := List.length_pos_of_mem hx
    rw [List.length_cons]
    omega
def cnt (ns : List Int) : Nat := (dedI ns).length
theorem cnt_le {ns T : List Int} (h : ∀ x ∈ ns, x ∈ T) : cnt ns ≤ T.length := nodup_le (ded_nodup ns) fun x hx => h x ((ded_mem ns x).mp hx)
theorem cnt_sub {a b : List Int} (h : ∀ x ∈ a, x ∈ b) : cnt a ≤ cnt b := nodup_le (ded_nodup a) fun x hx => (ded_mem b x).mpr (h x ((ded_mem a x).mp hx))
theorem cnt_of_nodup {a : List Int} (h : a.Nodup) : a.length ≤ cnt a := nodup_le h fun x hx => (ded_mem a x).mpr hx
theorem cnt_map (f : Int → Int) (a : List Int) : cnt (a.map f) ≤ cnt a := by
  have : cnt (a.map f) ≤ ((dedI a).map f).length := cnt_le fun x hx => by
    obtain ⟨y, hy, rfl⟩ := List.mem_map.mp hx
    exact List.mem_map.mpr ⟨y, (ded_mem a y).mpr hy, rfl⟩
  rw [List.length_map] at this
  exact this
theorem cnt_merge (a : List Int) (u v : Int) : cnt a ≤ cnt (a.map fun x => if x = u then v else x) + 1 := by
  have : cnt a ≤ (u :: dedI (a.map fun x => if x = u then v else x)).length := cnt_le fun x hx => by
    by_cases e : x = u
    · rw [e]; exact List.mem_cons_self
    · exact List.mem_cons_of_mem _ ((ded_mem _ x).mpr (List.mem_map.mpr ⟨x, hx, if_neg e⟩))
  exact this
/-! ### two periods -/
theorem one_period {p n : Nat} {h : Nat → Int} (hp : 0 < p) (H : ∀ i, i + p < n → h (i + p) = h i) : ∀ c, c < n → h c = h (c % p) := by
  intro c
  induction c using Nat.strongRecOn with
  | _ c ih =>
    intro hc
    by_cases e : c < p
    · rw [Nat.mod_eq_of_lt e]
    · have h1 := H (c - p) (by omega)
      rw [Nat.sub_add_cancel (by omega)] at h1
      rw [h1, ih (c - p) (by omega) (by omega), Nat.mod_eq_sub_mod (by omega : c ≥ p)]
theorem two_periods : ∀ (m f s n : Nat) (h : Nat → Int), f + s = m → 0 < f → 0 < s → (∀ i, i + f < n → h (i + f) = h i) → (∀ i, i + s < n → h (i + s) = h i) → f + s ≤ n + Nat.gcd f s → ∀ c, c < n → h c = h (c % Nat.gcd f s) := by
  intro m
  induction m using Nat.strongRecOn with
  | _ m ih =>
    intro f s n h hm hf hs Hf Hs hn c hc
    have main : ∀ f s, f + s = m → 0 < f → f < s → (∀ i, i + f < n → h (i + f) = h i) → (∀ i, i + s < n → h (i + s) = h i) → f + s ≤ n + Nat.gcd f s → h c = h (c % Nat.gcd f s) := by
      intro f s hm hf hfs Hf Hs hn
      have hg : Nat.gcd f (s - f) = Nat.gcd f s := Nat.gcd_sub_self_right (by omega)
      have gpos : 0 < Nat.gcd f s := Nat.gcd_pos_of_pos_left _ hf
      have gf : Nat.gcd f s ∣ f := Nat.gcd_dvd_left ..
      have gsf : Nat.gcd f s ≤ s - f := by rw [← hg]; exact Nat.le_of_dvd (by omega) (Nat.gcd_dvd_right ..)
      have q := ih (f + (s - f)) (by omega) f (s - f) (n - f) h rfl hf (by omega) (fun i hi => Hf i (by omega)) (fun i hi => by
        have h1 := Hs i (by omega)
        have h2 := Hf (i + (s - f)) (by omega)
        rw [show i + (s - f) + f = i + s by omega] at h2
        rw [← h2, h1]) (by rw [hg]; omega)
      rw [hg] at q
      by_cases e : c < n - f
      · exact q c e
      · have h1 := Hf (c - f) (by omega)
        rw [Nat.sub_add_cancel (by omega)] at h1
        rw [h1, q (c - f) (by omega)]
        congr 1
        obtain ⟨k, hk⟩ := gf
        have : c = (c - f) + Nat.gcd f s * k := by omega
        rw [show c % Nat.gcd f s = ((c - f) + Nat.gcd f s * k) % Nat.gcd f s by rw [← this], Nat.add_mul_mod_self_left]
    rcases Nat.lt_trichotomy f s with e | e | e
    · exact main f s hm hf e Hf Hs hn
    · subst e
      rw [Nat.gcd_self]
      exact one_period hf Hf c hc
    · rw [Nat.gcd_comm]
      rw [Nat.gcd_comm] at hn
      exact main s f (by omega) hs e Hs Hf (by omega)
/-- few values, ahead of where both periods tell -/
theorem few_values (f s : Nat) (hf : 0 < f) (hs : 0 < s) : ∀ (k n : Nat) (h : Nat → Int), n + k + Nat.gcd f s = f + s → max f s ≤ n → (∀ i, i + f < n → h (i + f) = h i) → (∀ i, i + s < n → h (i + s) = h i) →
    ∃ T : List Int, T.length + n = f + s ∧ ∀ i, i < n → h i ∈ T := by
  intro k
  induction k with
  | zero =>
    intro n h hk hm Hf Hs
    have q := two_periods (f + s) f s n h rfl hf hs Hf Hs (by omega)
    have gpos : 0 < Nat.gcd f s := Nat.gcd_pos_of_pos_left _ hf
    refine ⟨(List.range (Nat.gcd f s)).map h, by rw [List.length_map, List.length_range]; omega, fun i hi => ?_⟩
    rw [q i hi]
    exact List.mem_map.mpr ⟨_, List.mem_range.mpr (Nat.mod_lt _ gpos), rfl⟩
  | succ k ih =>
    intro n h hk hm Hf Hs
    have m1 : f ≤ n := by omega
    have m2 : s ≤ n := by omega
    let m : Int → Int := fun x => if x = h (n - f) then h (n - s) else x
    have mb : m (h (n - s)) = h (n - s) := by show (if _ then _ else _) = _; split <;> rfl
    have ma : m (h (n - f)) = h (n - s) := if_pos rfl
    obtain ⟨T, hT, hv⟩ := ih (n + 1) (fun i => if i < n then m (h i) else h (n - s)) (by omega) (by omega) (fun i hi => by
      by_cases e : i + f < n
      · rw [if_pos e, if_pos (by omega), Hf i e]
      · rw [if_neg e, if_pos (by omega), show i = n - f by omega, ma]) (fun i hi => by
      by_cases e : i + s < n
      · rw [if_pos e, if_pos (by omega), Hs i e]
      · rw [if_neg e, if_pos (by omega), show i = n - s by omega, mb])
    refine ⟨h (n - f) :: T, by rw [List.length_cons]; omega, fun i hi => ?_⟩
    have q := hv i (by omega)
    rw [if_pos hi] at q
    by_cases e : h i = h (n - f)
    · rw [e]; exact List.mem_cons_self
    · have : m (h i) = h i := if_neg e
      rw [this] at q
      exact List.mem_cons_of_mem _ q
/-! ### places joined -/
def mrg (h : List Int) (i j : Nat) : List Int := h.map fun x => if x = h.getD i 0 then h.getD j 0 else x
def edges (n p : Nat) : List (Nat × Nat) := (List.range (n - p)).map fun a => (a + p, a)
def joinAll (h : List Int) (es : List (Nat × Nat)) : List Int := es.foldl (fun h e => mrg h e.1 e.2) h
def start (n : Nat) : List Int := (List.range n).map fun i : Nat => (i : Int)
def lab (n f s : Nat) : List Int := joinAll (joinAll (start n) (edges n f)) (edges n s)
theorem mrg_len (h : List Int) (i j : Nat) : (mrg h i j).length = h.length := by unfold mrg; rw [List.length_map]
theorem mrg_get (h : List Int) (i j c : Nat) (hc : c < h.length) : (mrg h i j).getD c 0 = if h.getD c 0 = h.getD i 0 then h.getD j 0 else h.getD c 0 := by
  unfold mrg
  simp only [List.getD_eq_getElem?_getD, List.getElem?_map]
  rw [List.getElem?_eq_getElem hc]
  rfl
theorem joinAll_len : ∀ (es : List (Nat × Nat)) (h : List Int), (joinAll h es).length = h.length
  | [], h => rfl
  | e :: es, h => by
    show (joinAll (mrg h e.1 e.2) es).length = _
    rw [joinAll_len es, mrg_len]
/-- what is joined stays joined -/
theorem joinAll_keep : ∀ (es : List (Nat × Nat)) (h : List Int) (a b : Nat), a < h.length → b < h.length → h.getD a 0 = h.getD b 0 → (joinAll h es).getD a 0 = (joinAll h es).getD b 0
  | [], h, a, b, _, _, e => e
  | x :: es, h, a, b, ha, hb, e => by
    show (joinAll (mrg h x.1 x.2) es).getD a 0 = (joinAll (mrg h x.1 x.2) es).getD b 0
    refine joinAll_keep es _ a b (by rw [mrg_len]; exact ha) (by rw [mrg_len]; exact hb) ?_
    rw [mrg_get h _ _ a ha, mrg_get h _ _ b hb, e]
theorem joinAll_joins : ∀ (es : List (Nat × Nat)) (h : List Int), (∀ e ∈ es, e.1 < h.length ∧ e.2 < h.length) → ∀ e ∈ es, (joinAll h es).getD e.1 0 = (joinAll h es).getD e.2 0
  | [], h, _, e, he => by cases he
  | x :: es, h, hl, e, he => by
    show (joinAll (mrg h x.1 x.2) es).getD e.1 0 = (joinAll (mrg h x.1 x.2) es).getD e.2 0
    rcases List.mem_cons.mp he with z | z
    · subst z
      obtain ⟨h1, h2⟩ := hl e List.mem_cons_self
      refine joinAll_keep es _ _ _ (by rw [mrg_len]; exact h1) (by rw [mrg_len]; exact h2) ?_
      rw [mrg_get h _ _ _ h1, mrg_get h _ _ _ h2, if_pos rfl]
      split <;> rfl
    · exact joinAll_joins es _ (fun y hy => by rw [mrg_len]; exact hl y (List.mem_cons_of_mem _ hy)) e z
theorem joinAll_cnt : ∀ (es : List (Nat × Nat)) (h : List Int), cnt h ≤ cnt (joinAll h es) + es.length
  | [], h => Nat.le_refl _
  | x :: es, h => by
    have h1 := joinAll_cnt es (mrg h x.1 x.2)
    have h2 := cnt_merge h (h.getD x.1 0) (h.getD x.2 0)
    show cnt h ≤ cnt (joinAll (mrg h x.1 x.2) es) + (es.length + 1)
    have h3 : cnt h ≤ cnt (mrg h x.1 x.2) + 1 := h2
    omega
/-- labels stay with the rest by g -/
theorem joinAll_rest (g : Int) : ∀ (es : List (Nat × Nat)) (h : List Int), (∀ e ∈ es, e.1 < h.length ∧ e.2 < h.length ∧ (e.1 : Int) % g = (e.2 : Int) % g) → (∀ c, c < h.length → h.getD c 0 % g = (c : Int) % g) →
    ∀ c, c < h.length → (joinAll h es).getD c 0 % g = (c : Int) % g
  | [], h, _, q => q
  | x :: es, h, hl, q => by
    obtain ⟨h1, h2, h3⟩ := hl x List.mem_cons_self
    have := joinAll_rest g es (mrg h x.1 x.2) (fun y hy => by rw [mrg_len]; exact hl y (List.mem_cons_of_mem _ hy)) (fun c hc => by
      rw [mrg_len] at hc
      rw [mrg_get h _ _ c hc]
      split
      · rename_i e
        rw [q _ h2, ← h3, ← q _ h1, ← e, q c hc]
      · exact q c hc)
    rw [mrg_len] at this
    exact this
theorem edges_in {n p : Nat} {e : Nat × Nat} (h : e ∈ edges n p) : e.1 = e.2 + p ∧ e.1 < n := by
  unfold edges at h
  obtain ⟨a, ha, rfl⟩ := List.mem_map.mp h
  rw [List.mem_range] at ha
  exact ⟨rfl, by show a + p < n; omega⟩
theorem start_len (n : Nat) : (start n).length = n := by unfold start; simp
theorem start_get {n c : Nat} (h : c < n) : (start n).getD c 0 = (c : Int) := by
  unfold start
  simp [List.getD_eq_getElem?_getD, h]
theorem start_nodup (n : Nat) : (start n).Nodup := by
  unfold start
  refine List.Pairwise.map _ (fun a b (h : a ≠ b) => ?_) List.nodup_range
  omega
theorem lab_len (n f s : Nat) : (lab n f s).length = n := by unfold lab; rw [joinAll_len, joinAll_len, start_len]
theorem lab_f (n f s : Nat) : ∀ i, i + f < n → (lab n f s).getD (i + f) 0 = (lab n f s).getD i 0 := fun i hi => by
  unfold lab
  have hl : (joinAll (start n) (edges n f)).length = n := by rw [joinAll_len, start_len]
  refine joinAll_keep _ _ _ _ (by rw [hl]; exact hi) (by rw [hl]; omega) ?_
  exact joinAll_joins (edges n f) (start n) (fun e he => by have := edges_in he; rw [start_len]; omega) (i + f, i) (List.mem_map.mpr ⟨i, List.mem_range.mpr (by omega), rfl⟩)
theorem lab_s (n f s : Nat) : ∀ i, i + s < n → (lab n f s).getD (i + s) 0 = (lab n f s).getD i 0 := fun i hi => by
  unfold lab
  have hl : (joinAll (start n) (edges n f)).length = n := by rw [joinAll_len, start_len]
  exact joinAll_joins (edges n s) _ (fun e he => by have := edges_in he; rw [hl]; omega) (i + s, i) (List.mem_map.mpr ⟨i, List.mem_range.mpr (by omega), rfl⟩)
theorem edges_len (n p : Nat) : (edges n p).length = n - p := by unfold edges; simp
theorem lab_low (n f s : Nat) : n ≤ cnt (lab n f s) + (n - f) + (n - s) := by
  have h1 := joinAll_cnt (edges n f) (start n)
  have h2 := joinAll_cnt (edges n s) (joinAll (start n) (edges n f))
  have h3 := cnt_of_nodup (start_nodup n)
  rw [start_len] at h3
  rw [edges_len] at h1 h2
  unfold lab
  omega
theorem lab_gcd (n f s : Nat) (hf : 0 < f) (h : Nat.gcd f s ≤ n) : Nat.gcd f s ≤ cnt (lab n f s) := by
  have gpos : 0 < Nat.gcd f s := Nat.gcd_pos_of_pos_left _ hf
  have rest : ∀ p, Nat.gcd f s ∣ p → ∀ e ∈ edges n p, (e.1 : Int) % (Nat.gcd f s : Nat) = (e.2 : Int) % (Nat.gcd f s : Nat) := fun p hp e he => by
    obtain ⟨e1, _⟩ := edges_in he
    obtain ⟨k, hk⟩ := hp
    rw [← Int.natCast_emod, ← Int.natCast_emod, e1, hk, Nat.add_mul_mod_self_left]
  have hl : (joinAll (start n) (edges n f)).length = n := by rw [joinAll_len, start_len]
  have q1 := joinAll_rest (Nat.gcd f s : Nat) (edges n f) (start n) (fun e he => by
    have := edges_in he
    rw [start_len]
    exact ⟨by omega, by omega, rest f (Nat.gcd_dvd_left ..) e he⟩) (fun c hc => by rw [start_len] at hc; rw [start_get hc])
  have q2 := joinAll_rest (Nat.gcd f s : Nat) (edges n s) (joinAll (start n) (edges n f)) (fun e he => by
    have := edges_in he
    rw [hl]
    exact ⟨by omega, by omega, rest s (Nat.gcd_dvd_right ..) e he⟩) (fun c hc => by rw [hl] at hc; exact q1 c (by rw [start_len]; exact hc))
  have h1 := cnt_map (fun x => x % (Nat.gcd f s : Nat)) (lab n f s)
  have h2 : cnt (start (Nat.gcd f s)) ≤ cnt ((lab n f s).map fun x => x % (Nat.gcd f s : Nat)) := cnt_sub fun x hx => by
    unfold start at hx
    obtain ⟨c, hc, rfl⟩ := List.mem_map.mp hx
    rw [List.mem_range] at hc
    have hcn : c < (lab n f s).length := by rw [lab_len]; omega
    refine List.mem_map.mpr ⟨(lab n f s).getD c 0, ?_, ?_⟩
    · rw [List.getD_eq_getElem?_getD, List.getElem?_eq_getElem hcn]
      exact List.getElem_mem hcn
    · have := q2 c (by rw [hl]; omega)
      show (lab n f s).getD c 0 % _ = _
      unfold lab
      rw [this, ← Int.natCast_emod, Nat.mod_eq_of_lt hc]
  have h3 := cnt_of_nodup (start_nodup (Nat.gcd f s))
  rw [start_len] at h3
  omega
/-- how many names are left -/
def parts (n f s : Nat) : Nat := if n < min f s then n else if n < max f s then min f s else if f + s ≤ n + Nat.gcd f s then Nat.gcd f s else f + s - n
theorem mem_values {h : List Int} {x : Int} (hx : x ∈ h) : ∃ c, c < h.length ∧ x = h.getD c 0 := by
  obtain ⟨c, hc⟩ := List.mem_iff_getElem?.mp hx
  obtain ⟨h1, h2⟩ := List.getElem?_eq_some_iff.mp hc
  exact ⟨c, h1, by rw [List.getD_eq_getElem?_getD, hc]; rfl⟩
theorem lab_cnt (n f s : Nat) (hf : 0 < f) (hs : 0 < s) : cnt (lab n f s) = parts n f s := by
  have gpos : 0 < Nat.gcd f s := Nat.gcd_pos_of_pos_left _ hf
  have gf : Nat.gcd f s ≤ f := Nat.gcd_le_left _ hf
  have gs : Nat.gcd f s ≤ s := Nat.gcd_le_right _ hs
  have low := lab_low n f s
  have vals : ∀ T : List Int, (∀ i, i < n → (lab n f s).getD i 0 ∈ T) → cnt (lab n f s) ≤ T.length := fun T h => cnt_le fun x hx => by
    obtain ⟨c, hc, rfl⟩ := mem_values hx
    rw [lab_len] at hc
    exact h c hc
  have Hf := lab_f n f s
  have Hs := lab_s n f s
  unfold parts
  split
  · have up := vals (lab n f s) fun i hi => by
      rw [List.getD_eq_getElem?_getD, List.getElem?_eq_getElem (by rw [lab_len]; exact hi)]
      exact List.getElem_mem _
    rw [lab_len] at up
    omega
  · split
    · by_cases e : f ≤ s
      · have up := vals ((List.range f).map fun i => (lab n f s).getD i 0) fun i hi => by
          rw [one_period (h := fun i => (lab n f s).getD i 0) hf Hf i hi]
          exact List.mem_map.mpr ⟨_, List.mem_range.mpr (Nat.mod_lt _ hf), rfl⟩
        rw [List.length_map, List.length_range] at up
        omega
      · have up := vals ((List.range s).map fun i => (lab n f s).getD i 0) fun i hi => by
          rw [one_period (h := fun i => (lab n f s).getD i 0) hs Hs i hi]
          exact List.mem_map.mpr ⟨_, List.mem_range.mpr (Nat.mod_lt _ hs), rfl⟩
        rw [List.length_map, List.length_range] at up
        omega
    · split
      · have up := vals ((List.range (Nat.gcd f s)).map fun i => (lab n f s).getD i 0) fun i hi => by
          rw [two_periods (f + s) f s n (fun i => (lab n f s).getD i 0) rfl hf hs Hf Hs (by assumption) i hi]
          exact List.mem_map.mpr ⟨_, List.mem_range.mpr (Nat.mod_lt _ gpos), rfl⟩
        rw [List.length_map, List.length_range] at up
        have := lab_gcd n f s hf (by omega)
        omega
      · obtain ⟨T, hT, hv⟩ := few_values f s hf hs (f + s - Nat.gcd f s - n) n (fun i => (lab n f s).getD i 0) (by omega) (by omega) Hf Hs
        have := vals T hv
        omega
end K21

set_option maxRecDepth 100000
set_option maxHeartbeats 1000000
namespace K21
open PySem PySem.Spec L2 Fy
abbrev Li (h : List Int) : D := .lst (h.map .int)
theorem comp_ints {it : FI} {el : FE} {i : Nat} {env : Fy.Env} {M : Mem} {h : List Int} (f : Int → D) (hi : it env M = .ok (h.map .int) M) (hl : h.length ≤ SZ)
    (k : ∀ x ∈ h, el ((env.set i none).set i (some (.d (.int x)))) M = .ok (.d (f x)) M) : compE it (tgN i) yesT el [i] env M = .ok (.d (.lst (h.map f))) M := by
  rw [compE_map (fun d => match d with | .int j => f j | _ => .non) hi (by rw [List.length_map]; exact hl) fun d hd => ?_, List.map_map]
  · rfl
  · obtain ⟨x, hx, rfl⟩ := List.mem_map.mp hd
    exact ⟨_, rfl, k x hx⟩
theorem at_ints {h : List Int} {c : Nat} (hc : c < h.length) : atI (h.map D.int) (c : Int) = some (.int (h.getD c 0)) := by
  rw [atI_nat (by rw [List.length_map]; exact hc), List.getElem?_map, List.getD_eq_getElem?_getD, List.getElem?_eq_getElem hc]
  rfl
theorem joinAll_take (h : List Int) (n p i : Nat) (hi : i < n - p) : joinAll h ((edges n p).take (i + 1)) = mrg (joinAll h ((edges n p).take i)) (i + p) i := by
  have e : (edges n p)[i]? = some (i + p, i) := by unfold edges; simp [hi]
  unfold joinAll
  rw [List.take_succ, e, List.foldl_append]
  rfl
theorem mrg_same {h : List Int} {i j : Nat} (e : h.getD i 0 = h.getD j 0) : mrg h i j = h := by
  unfold mrg
  rw [e]
  conv => rhs; rw [← List.map_id h]
  refine List.map_congr_left fun x _ => ?_
  split
  · rename_i q; exact q.symm
  · rfl
abbrev jB : FS := seqS (asgS (tgT (tgCons (tgN 6) (tgCons (tgN 7) tgNil))) (tupE (consA (ixE (vr 3) (vr 5)) (consA (ixE (vr 3) (bop addD (vr 5) (vr 4))) nilA))))
    (ifS (tst (bop neD (vr 6) (vr 7))) (setS 3 (compE (itemsI (vr 3)) (tgN 8) yesT (ifE (tst (bop eqD (vr 8) (vr 7))) (vr 6) (vr 8)) [8])) nxS)
theorem j_inner (n p : Nat) (hn : n ≤ 1000) (a0 a1 a2 x5 x6 x7 x8 : Option A) (h : List Int) (hl : h.length = n) (M : Mem) : ∃ y5 y6 y7, loopS (tgN 5) jB (rng 0 (n - p)) [a0, a1, a2, some (.d (Li h)), some (I p), x5, x6, x7, x8] M
      = .nx [a0, a1, a2, some (.d (Li (joinAll h (edges n p)))), some (I p), y5, y6, y7, x8] M := by
  obtain ⟨env', M', e, r⟩ := loop_inv (g := tgN 5) (p := jB) (fun k env M1 => M1 = M ∧ ∃ y5 y6 y7, env = [a0, a1, a2, some (.d (Li (joinAll h ((edges n p).take k)))), some (I p), y5, y6, y7, x8]) (rng 0 (n - p)) 0 (fun i d env M1 hd hI => by
    obtain ⟨hi, rfl⟩ := rng_at hd
    obtain ⟨rfl, y5, y6, y7, rfl⟩ := hI
    rw [Nat.zero_add] at *
    have e0 : (0 : Int) + (i : Nat) = (i : Nat) := by omega
    rw [e0]
    have hL : (joinAll h ((edges n p).take i)).length = n := by rw [joinAll_len, hl]
    rw [joinAll_take h n p i hi]
    generalize joinAll h ((edges n p).take i) = H at hL
    have g1 : ixD (Li H) (.int (i : Int)) = some (.int (H.getD i 0)) := at_ints (by omega)
    have g2 : ixD (Li H) (.int ((i + p : Nat) : Int)) = some (.int (H.getD (i + p) 0)) := at_ints (by omega)
    have s1 : asgS (tgT (tgCons (tgN 6) (tgCons (tgN 7) tgNil))) (tupE (consA (ixE (vr 3) (vr 5)) (consA (ixE (vr 3) (bop addD (vr 5) (vr 4))) nilA))) [a0, a1, a2, some (.d (Li H)), some (I p), some (I i), y6, y7, x8] M1
        = .nx [a0, a1, a2, some (.d (Li H)), some (I p), some (I i), some (.d (.int (H.getD i 0))), some (.d (.int (H.getD (i + p) 0))), x8] M1 := by
      rw [ev_asgS, tup2_at (ix_at rfl rfl rfl g1) (ix_at rfl (bop_at (z := .int ((i + p : Nat) : Int)) rfl rfl (by rw [ev_add, Int.natCast_add])) rfl g2)]
      rfl
    refine ⟨_, [a0, a1, a2, some (.d (Li (mrg H (i + p) i))), some (I p), some (I i), some (.d (.int (H.getD i 0))), some (.d (.int (H.getD (i + p) 0))), x8], M1, rfl, .inl (seq_nx s1 ?_), rfl, _, _, _, rfl⟩
    by_cases q : H.getD i 0 = H.getD (i + p) 0
    · rw [mrg_same q.symm]
      exact if_f (tst_at (bop_at rfl rfl (by rw [ev_ne, decide_eq_true q]; rfl))) rfl
    · refine if_t (tst_at (bop_at rfl rfl (by rw [ev_ne, decide_eq_false q]; rfl))) (set_at (comp_ints (fun x => .int (if x = H.getD (i + p) 0 then H.getD i 0 else x)) (items_at rfl) (by rw [hL, SZ_eq]; omega) fun x _ => ?_) |>.trans ?_)
      · by_cases z : x = H.getD (i + p) 0
        · rw [if_pos z]
          exact ife_t (tst_at (bop_at rfl rfl (by rw [ev_eq, decide_eq_true z]))) rfl
        · rw [if_neg z]
          exact ife_f (tst_at (bop_at rfl rfl (by rw [ev_eq, decide_eq_false z]))) rfl
      · unfold Li mrg
        rw [List.map_map]
        rfl) _ M ⟨rfl, x5, x6, x7, rfl⟩
  obtain ⟨rfl, y5, y6, y7, rfl⟩ := r
  rw [Nat.zero_add, rng_len, show n - p = (edges n p).length by rw [edges_len], List.take_length] at e
  refine ⟨y5, y6, y7, ?_⟩
  rw [edges_len] at e
  exact e
end K21

set_option maxRecDepth 100000
set_option maxHeartbeats 1000000
namespace K21
open PySem PySem.Spec L2 Fy
theorem rng_start (n : Nat) : D.lst (rng 0 n) = Li (start n) := by
  unfold Li start
  rw [show (0 : Int) = ((0 : Nat) : Int) from rfl, rng_nat, List.map_map]
  congr 1
  refine List.map_congr_left fun i _ => ?_
  show D.int ((0 + i : Nat) : Int) = D.int (i : Int)
  rw [Nat.zero_add]
theorem listRg_at {f : FE} {env : Fy.Env} {M M1 : Mem} {n : Nat} (hf : f env M = .ok (I n) M1) (hn : n ≤ 1000) : listRg1 f env M = .ok (.d (Li (start n))) M1 := by
  have h1 : Fy.RgC 0 (n : Int) = true := by
    unfold Fy.RgC
    rw [smI_of (by omega) (by omega), smI_of (by omega) (by omega)]
    simp
    omega
  have h2 : ((n : Int) - 0).toNat = n := by omega
  unfold listRg1
  rw [hf, ev_bind_ok]
  dsimp only
  rw [if_pos h1, h2, rng_start]
theorem lenSet_at {f : FE} {env : Fy.Env} {M M1 : Mem} {h : List Int} (hf : f env M = .ok (.d (Li h)) M1) (hl : h.length ≤ 4000) : lenSetE f env M = .ok (.d (.int (cnt h : Nat))) M1 := by
  unfold lenSetE
  rw [ev_one, hf, ev_bind_ok]
  show (match intsOf (h.map D.int) with | some ns => _ | none => _) = _
  rw [intsOf_map]
  dsimp only
  rw [if_pos hl]
  rfl
theorem sub_rng (n p : Nat) : ((n : Int) - (p : Int)).toNat = n - p := by omega
theorem range1_at' {f : FE} {env : Fy.Env} {M M1 : Mem} {j : Int} (hf : f env M = .ok (.d (.int j)) M1) (hn : -1000000000 < j ∧ j < 1000000000) : rangeI1 f env M = .ok (rng 0 j.toNat) M1 := by
  unfold rangeI1
  rw [hf, ev_bind_ok]
  dsimp only
  rw [if_pos (smI_of hn.1 hn.2)]
theorem loop_nil {g : FG} {p : FS} {env : Fy.Env} {M : Mem} : loopS g p [] env M = .nx env M := rfl
theorem loop_cons {g : FG} {p : FS} {env env1 env2 : Fy.Env} {M M2 : Mem} {d : D} {ds : List D} {r : F} (h1 : g (.d d) env = some env1) (h2 : p env1 M = .nx env2 M2) (h3 : loopS g p ds env2 M2 = r) : loopS g p (d :: ds) env M = r := by
  rw [loopS, h1]
  dsimp only
  rw [h2]
  exact h3
theorem joined_ev {n f s : Nat} (hn : n ≤ 1000) (hf : 0 < f) (hf2 : f ≤ 1000) (hs : 0 < s) (hs2 : s ≤ 1000) (M : Mem) : F_law_joined [I n, I f, I s] M = .ok (I (parts n f s)) M := by
  have one : ∀ (p : Nat) (h : List Int) (x5 x6 x7 : Option A), p ≤ 1000 → h.length = n → ∃ y5 y6 y7, forS (rangeI1 (bop subD (vr 0) (vr 4))) (tgN 5) jB [some (I n), some (I f), some (I s), some (.d (Li h)), some (I p), x5, x6, x7, none] M
      = .nx [some (I n), some (I f), some (I s), some (.d (Li (joinAll h (edges n p)))), some (I p), y5, y6, y7, none] M := fun p h x5 x6 x7 hp hl => by
    obtain ⟨y5, y6, y7, e⟩ := j_inner n p hn (some (I n)) (some (I f)) (some (I s)) x5 x6 x7 none h hl M
    refine ⟨y5, y6, y7, for_at (range1_at' (bop_at rfl rfl (ev_sub)) (by omega)) ?_⟩
    rw [sub_rng]
    exact e
  obtain ⟨a5, a6, a7, e1⟩ := one f (start n) none none none hf2 (start_len n)
  obtain ⟨b5, b6, b7, e2⟩ := one s (joinAll (start n) (edges n f)) a5 a6 a7 hs2 (by rw [joinAll_len, start_len])
  rw [← lab_cnt n f s hf hs]
  exact def_rt1 (seq_nx (set_at (listRg_at rfl hn)) (seq_nx (for_at (itemsT_at (tup2_at rfl rfl)) (loop_cons rfl e1 (loop_cons rfl e2 loop_nil))) (ret_at (lenSet_at (h := lab n f s) rfl (by rw [lab_len]; omega)))))
abbrev wB : FS := seqS (asgS (tgT (tgCons (tgN 7) (tgCons (tgN 8) tgNil))) (tupE (consA (ixE (vr 4) (vr 6)) (consA (ixE (vr 4) (bop subD (vr 6) (vr 5))) nilA))))
    (setS 4 (compE (itemsI (vr 4)) (tgN 9) yesT (ifE (tst (bop eqD (vr 9) (vr 7))) (vr 8) (vr 9)) [9]))
theorem w_inner (n p : Nat) (hn : n ≤ 1000) (a0 a1 a2 a3 x6 x7 x8 x9 : Option A) (h : List Int) (hl : h.length = n) (M : Mem) : ∃ y6 y7 y8, loopS (tgN 6) wB (rng p (n - p)) [a0, a1, a2, a3, some (.d (Li h)), some (I p), x6, x7, x8, x9] M
      = .nx [a0, a1, a2, a3, some (.d (Li (joinAll h (edges n p)))), some (I p), y6, y7, y8, x9] M := by
  obtain ⟨env', M', e, r⟩ := loop_inv (g := tgN 6) (p := wB) (fun k env M1 => M1 = M ∧ ∃ y6 y7 y8, env = [a0, a1, a2, a3, some (.d (Li (joinAll h ((edges n p).take k)))), some (I p), y6, y7, y8, x9]) (rng p (n - p)) 0 (fun i d env M1 hd hI => by
    obtain ⟨hi, rfl⟩ := rng_at hd
    obtain ⟨rfl, y6, y7, y8, rfl⟩ := hI
    rw [Nat.zero_add] at *
    have e0 : (p : Int) + (i : Nat) = (i + p : Nat) := by omega
    rw [e0]
    have hL : (joinAll h ((edges n p).take i)).length = n := by rw [joinAll_len, hl]
    rw [joinAll_take h n p i hi]
    generalize joinAll h ((edges n p).take i) = H at hL
    have g1 : ixD (Li H) (.int (i : Int)) = some (.int (H.getD i 0)) := at_ints (by omega)
    have g2 : ixD (Li H) (.int ((i + p : Nat) : Int)) = some (.int (H.getD (i + p) 0)) := at_ints (by omega)
    have s1 : asgS (tgT (tgCons (tgN 7) (tgCons (tgN 8) tgNil))) (tupE (consA (ixE (vr 4) (vr 6)) (consA (ixE (vr 4) (bop subD (vr 6) (vr 5))) nilA))) [a0, a1, a2, a3, some (.d (Li H)), some (I p), some (I (i + p)), y7, y8, x9] M1
        = .nx [a0, a1, a2, a3, some (.d (Li H)), some (I p), some (I (i + p)), some (.d (.int (H.getD (i + p) 0))), some (.d (.int (H.getD i 0))), x9] M1 := by
      rw [ev_asgS, tup2_at (ix_at rfl rfl rfl g2) (ix_at rfl (bop_at (z := .int (i : Int)) rfl rfl (by rw [ev_sub]; congr 2; omega)) rfl g1)]
      rfl
    refine ⟨_, [a0, a1, a2, a3, some (.d (Li (mrg H (i + p) i))), some (I p), some (I (i + p)), some (.d (.int (H.getD (i + p) 0))), some (.d (.int (H.getD i 0))), x9], M1, rfl, .inl (seq_nx s1 ?_), rfl, _, _, _, rfl⟩
    refine (set_at (comp_ints (fun x => .int (if x = H.getD (i + p) 0 then H.getD i 0 else x)) (items_at rfl) (by rw [hL, SZ_eq]; omega) fun x _ => ?_) |>.trans ?_)
    · by_cases z : x = H.getD (i + p) 0
      · rw [if_pos z]
        exact ife_t (tst_at (bop_at rfl rfl (by rw [ev_eq, decide_eq_true z]))) rfl
      · rw [if_neg z]
        exact ife_f (tst_at (bop_at rfl rfl (by rw [ev_eq, decide_eq_false z]))) rfl
    · unfold Li mrg
      rw [List.map_map]
      rfl) _ M ⟨rfl, x6, x7, x8, rfl⟩
  obtain ⟨rfl, y6, y7, y8, rfl⟩ := r
  rw [Nat.zero_add, rng_len, show n - p = (edges n p).length by rw [edges_len], List.take_length] at e
  refine ⟨y6, y7, y8, ?_⟩
  rw [edges_len] at e
  exact e
theorem periods_ev {n f s : Nat} (hn0 : 1 ≤ n) (hn : n ≤ 300) (hf : 0 < f) (hf2 : f ≤ 300) (hs : 0 < s) (hs2 : s ≤ 300) (M : Mem) : F_with_periods [I n, I f, I s] M = .ok (I (parts n f s)) M := by
  have one : ∀ (p : Nat) (h : List Int) (x3 x6 x7 x8 : Option A), p ≤ 1000 → h.length = n → ∃ y6 y7 y8, forS (rangeI2 (vr 5) (vr 0)) (tgN 6) wB [some (I n), some (I f), some (I s), x3, some (.d (Li h)), some (I p), x6, x7, x8, none] M
      = .nx [some (I n), some (I f), some (I s), x3, some (.d (Li (joinAll h (edges n p)))), some (I p), y6, y7, y8, none] M := fun p h x3 x6 x7 x8 hp hl => by
    obtain ⟨y6, y7, y8, e⟩ := w_inner n p (by omega) (some (I n)) (some (I f)) (some (I s)) x3 x6 x7 x8 none h hl M
    refine ⟨y6, y7, y8, for_at (range2_at rfl rfl (by omega) (by omega)) ?_⟩
    rw [sub_rng]
    exact e
  have chk : ∀ (p : Nat) (x3 : Option A), 1 ≤ p → p ≤ 300 → ifS (orT (notT (tst (callE (arity 1 F_is_number) (consA (vr 3) nilA)))) (notT (tst (chE leD leD (cn (.int 1)) (vr 3) (cn (.int 300)))))) neverS nxS [some (I n), some (I f), some (I s), some (I p), none, none, none, none, none, none] M
      = .nx [some (I n), some (I f), some (I s), some (I p), none, none, none, none, none, none] M := fun p x3 h1 h2 => by
    have a3 : decide ((1 : Int) ≤ (p : Int)) = true := decide_eq_true (by omega)
    have a4 : decide ((p : Int) ≤ 300) = true := decide_eq_true (by omega)
    have q2 : chE leD leD (cn (.int 1)) (vr 3) (cn (.int 300)) [some (I n), some (I f), some (I s), some (I p), none, none, none, none, none, none] M = .ok (.d (.bl true)) M := by simp [chE, a3, a4]
    exact if_f (or_f (not_at (b := true) (tst_at (call1_at rfl (isnum_ev _ _)))) (not_at (b := true) (tst_at q2))) rfl
  obtain ⟨a6, a7, a8, e1⟩ := one f (start n) (some (I s)) none none none (by omega) (start_len n)
  obtain ⟨b6, b7, b8, e2⟩ := one s (joinAll (start n) (edges n f)) (some (I s)) a6 a7 a8 (by omega) (by rw [joinAll_len, start_len])
  rw [← lab_cnt n f s hf hs]
  exact def_rt1 (seq_nx (for_at (itemsT_at (tup3_at rfl rfl rfl)) (loop_cons rfl (chk n none (by omega) hn) (loop_cons rfl (chk f none (by omega) hf2) (loop_cons rfl (chk s none (by omega) hs2) loop_nil))))
    (seq_nx (set_at (listRg_at rfl (by omega))) (seq_nx (for_at (itemsT_at (tup2_at rfl rfl)) (loop_cons rfl e1 (loop_cons rfl e2 loop_nil))) (ret_at (lenSet_at (h := lab n f s) rfl (by rw [lab_len]; omega))))))
theorem parts_comm (n f s : Nat) : parts n f s = parts n s f := by
  unfold parts
  rw [Nat.min_comm, Nat.max_comm, Nat.gcd_comm, Nat.add_comm f s]
theorem parts_cap (n f s : Nat) (hf : 0 < f) : parts (min n (f + s + 3)) f s = parts n f s := by
  have gpos : 0 < Nat.gcd f s := Nat.gcd_pos_of_pos_left _ hf
  unfold parts
  by_cases h : n ≤ f + s + 3
  · rw [Nat.min_eq_left h]
  · rw [Nat.min_eq_right (by omega)]
    repeat' split
    all_goals omega
end K21

set_option maxRecDepth 100000
set_option maxHeartbeats 1000000
namespace K21
open PySem PySem.Spec L2 Fy
abbrev maxO : List D → Option D := fun ds => (maxL ds).or (max2D ds)
abbrev minO : List D → Option D := fun ds => (minL ds).or (min2D ds)
theorem max_nn (a b : Nat) : maxO [.int (a : Int), .int (b : Int)] = some (.int ((max a b : Nat) : Int)) := by
  show some (D.int (if (b : Int) > a then (b : Int) else a)) = _
  congr 2
  split <;> omega
theorem min_nn (a b : Nat) : minO [.int (a : Int), .int (b : Int)] = some (.int ((min a b : Nat) : Int)) := by
  show some (D.int (if (b : Int) < a then (b : Int) else a)) = _
  congr 2
  split <;> omega
theorem max_one (j : Int) : maxO [.int 1, .int j] = some (.int ((max 1 j.toNat : Nat) : Int)) := by
  show some (D.int (if j > 1 then j else 1)) = _
  congr 2
  split <;> omega
theorem ch_le {a b c : Int} {M : Mem} {env : Fy.Env} {f g h : FE} (hf : f env M = .ok (.d (.int a)) M) (hg : g env M = .ok (.d (.int b)) M) (hh : h env M = .ok (.d (.int c)) M) : chE leD ltD f g h env M = .ok (.d (.bl (decide (a ≤ b) && decide (b < c)))) M := by
  unfold chE
  rw [hf, ev_bind_ok, hg, ev_bind_ok]
  by_cases q : a ≤ b
  · simp [q, hh]
  · simp [q]
abbrev pB : FS := (seqS (setS 6 (callE (arity 3 F_law_joined) (consA (bifE (fun ds => (minL ds).or (min2D ds)) (consA (vr 5) (consA (bop addD (bop addD (vr 1) (vr 2)) (cn (.int 3))) nilA))) (consA (vr 1) (consA (vr 2) nilA)))))
    (seqS (ifS (orT (tst (bop neD (callE (arity 3 F_with_periods) (consA (vr 5) (consA (vr 1) (consA (vr 2) nilA)))) (vr 6))) (tst (bop neD (callE (arity 3 F_with_periods) (consA (vr 5) (consA (vr 2) (consA (vr 1) nilA)))) (vr 6)))) (retS (cn (.bl false))) nxS)
    (seqS (ifS (andT (tst (bop geD (vr 5) (bop subD (bop addD (vr 1) (vr 2)) (vr 3)))) (andT (tst (bop ltD (bifE (fun ds => (maxL ds).or (max2D ds)) (consA (vr 1) (consA (vr 2) nilA))) (vr 5))) (tst (bop neD (vr 6) (vr 3))))) (retS (cn (.bl false))) nxS)
    (ifS (andT (tst (chE leD ltD (bifE (fun ds => (maxL ds).or (max2D ds)) (consA (vr 1) (consA (vr 2) nilA))) (vr 5) (bop subD (bop addD (vr 1) (vr 2)) (vr 3)))) (tst (bop neD (vr 6) (bop subD (bop addD (vr 1) (vr 2)) (vr 5))))) (retS (cn (.bl false))) nxS))))
theorem p_turn {f s : Nat} (hf : 0 < f) (hf2 : f ≤ 300) (hs : 0 < s) (hs2 : s ≤ 300) (a0 a4 a6 : Option A) (L : Nat) (h1 : 1 ≤ L) (h3 : L ≤ 300) (M : Mem) :
    pB [a0, some (I f), some (I s), some (I (Nat.gcd f s)), a4, some (I L), a6] M = .nx [a0, some (I f), some (I s), some (I (Nat.gcd f s)), a4, some (I L), some (I (parts L f s))] M := by
  have gpos : 0 < Nat.gcd f s := Nat.gcd_pos_of_pos_left _ hf
  have gf : Nat.gcd f s ≤ f := Nat.gcd_le_left _ hf
  have e1 : F_law_joined [I (min L (f + s + 3)), I f, I s] M = .ok (I (parts L f s)) M := by rw [joined_ev (by omega) hf (by omega) hs (by omega), parts_cap L f s hf]
  have e2 : F_with_periods [I L, I f, I s] M = .ok (I (parts L f s)) M := periods_ev h1 h3 hf hf2 hs hs2 M
  have e3 : F_with_periods [I L, I s, I f] M = .ok (I (parts L f s)) M := by rw [periods_ev h1 h3 hs hs2 hf hf2 M, parts_comm]
  have a3 : addD (.int ((f : Nat) : Int)) (.int ((s : Nat) : Int)) = some (.int ((f + s : Nat) : Int)) := by rw [ev_add, Int.natCast_add]
  have a34 : addD (.int ((f + s : Nat) : Int)) (.int 3) = some (.int ((f + s + 3 : Nat) : Int)) := rfl
  have gg : subD (.int ((f + s : Nat) : Int)) (.int (Nat.gcd f s : Nat)) = some (.int ((f + s - Nat.gcd f s : Nat) : Int)) := by rw [ev_sub]; congr 2; omega
  have nt : ∀ a b : Nat, (a : Int) = b → (!decide ((a : Int) = b)) = false := fun a b e => by rw [decide_eq_true e]; rfl
  refine seq_nx (set_at (call3_at (bif2_at rfl (bop_at (bop_at rfl rfl a3) rfl a34) (min_nn ..)) rfl rfl e1)) (seq_nx (if_f (or_f (tst_at (bop_at (call3_at rfl rfl rfl e2) rfl (by rw [ev_ne, nt _ _ rfl]))) (tst_at (bop_at (call3_at rfl rfl rfl e3) rfl (by rw [ev_ne, nt _ _ rfl])))) rfl) (seq_nx (if_f (M1 := M) ?_ rfl) (if_f (M1 := M) ?_ rfl)))
  · by_cases q : f + s - Nat.gcd f s ≤ L
    · refine and_t (tst_at (bop_at rfl (bop_at (bop_at rfl rfl a3) rfl gg) (by rw [ev_ge, decide_eq_true (by omega)]))) ?_
      by_cases q2 : max f s < L
      · refine and_t (tst_at (bop_at (bif2_at rfl rfl (max_nn ..)) rfl (by rw [ev_lt, decide_eq_true (by omega)]))) (tst_at (bop_at rfl rfl ?_))
        rw [ev_ne, nt _ _ (by unfold parts; rw [if_neg (by omega), if_neg (by omega), if_pos (by omega)])]
      · exact and_f (tst_at (bop_at (bif2_at rfl rfl (max_nn ..)) rfl (by rw [ev_lt, decide_eq_false (by omega)])))
    · exact and_f (tst_at (bop_at rfl (bop_at (bop_at rfl rfl a3) rfl gg) (by rw [ev_ge, decide_eq_false (by omega)])))
  · have c := ch_le (M := M) (env := [a0, some (I f), some (I s), some (I (Nat.gcd f s)), a4, some (I L), some (I (parts L f s))]) (f := bifE (fun ds => (maxL ds).or (max2D ds)) (consA (vr 1) (consA (vr 2) nilA))) (g := vr 5) (h := bop subD (bop addD (vr 1) (vr 2)) (vr 3)) (bif2_at rfl rfl (max_nn ..)) rfl (bop_at (bop_at rfl rfl a3) rfl gg)
    by_cases q : max f s ≤ L ∧ L < f + s - Nat.gcd f s
    · rw [decide_eq_true (by omega), decide_eq_true (by omega)] at c
      refine and_t (tst_at c) (tst_at (bop_at rfl (bop_at (z := .int ((f + s - L : Nat) : Int)) (bop_at rfl rfl a3) rfl (by rw [ev_sub]; congr 2; omega)) ?_))
      rw [ev_ne, nt _ _ (by unfold parts; rw [if_neg (by omega), if_neg (by omega), if_neg (by omega)])]
    · have : (decide (((max f s : Nat) : Int) ≤ (L : Int)) && decide ((L : Int) < ((f + s - Nat.gcd f s : Nat) : Int))) = false := by
        rw [Bool.and_eq_false_iff, decide_eq_false_iff_not, decide_eq_false_iff_not]; omega
      rw [this] at c
      exact and_f (tst_at c)
theorem periods_right {M : Mem} (h : HandM M) : ∃ M', F_law_are_periods_right [.l 0] M = .ok (.d (.bl true)) M' ∧ HandM M' := by
  obtain ⟨v1, M1, d1, a1, b1, h1⟩ := draw_ev h (m := 60) (by omega) (by omega)
  obtain ⟨v2, M2, d2, a2, b2, h2⟩ := draw_ev h1 (m := 60) (by omega) (by omega)
  obtain ⟨v3, M3, d3, a3, b3, h3⟩ := draw_ev h2 (m := 5) (by omega) (by omega)
  obtain ⟨v4, M4, d4, a4, b4, h4⟩ := draw_ev h3 (m := 120) (by omega) (by omega)
  obtain ⟨f, hf⟩ : ∃ f : Nat, 1 + v1 = (f : Int) := ⟨(1 + v1).toNat, by omega⟩
  obtain ⟨s, hs⟩ : ∃ s : Nat, 1 + v2 = (s : Int) := ⟨(1 + v2).toNat, by omega⟩
  obtain ⟨c, hc⟩ : ∃ c : Nat, 1 + v4 = (c : Int) := ⟨(1 + v4).toNat, by omega⟩
  have gf : Nat.gcd f s ≤ f := Nat.gcd_le_left _ (by omega)
  have e1 : bop addD (cn (.int 1)) (callE (arity 2 F_law_draw) (consA (vr 0) (consA (cn (.int 60)) nilA))) (env0 7 [.l 0]) M = .ok (I f) M1 := bop_at rfl (call2_at rfl rfl d1) (by rw [ev_add, hf])
  have e2 : bop addD (cn (.int 1)) (callE (arity 2 F_law_draw) (consA (vr 0) (consA (cn (.int 60)) nilA))) (env0 7 [.l 0]) M1 = .ok (I s) M2 := bop_at rfl (call2_at rfl rfl d2) (by rw [ev_add, hs])
  have t := fun L h1 h3 a6 => p_turn (f := f) (s := s) (by omega) (by omega) (by omega) (by omega) (some (.l 0)) (some (.d (.int (v3 - 2)))) a6 L h1 h3 M4
  refine ⟨M4, ?_, h4⟩
  have l1 : M.length = 1 := by obtain ⟨_, _, _, _, _, rfl, _⟩ := h; rfl
  have l4 : M4.take M.length = M4 := by rw [l1]; obtain ⟨_, _, _, _, _, rfl, _⟩ := h4; rfl
  have a3 : addD (.int ((f : Nat) : Int)) (.int ((s : Nat) : Int)) = some (.int ((f + s : Nat) : Int)) := by rw [ev_add, Int.natCast_add]
  have gg : subD (.int ((f + s : Nat) : Int)) (.int (Nat.gcd f s : Nat)) = some (.int ((f + s - Nat.gcd f s : Nat) : Int)) := by rw [ev_sub]; congr 2; omega
  have s1 : parS 1 2 (bop addD (cn (.int 1)) (callE (arity 2 F_law_draw) (consA (vr 0) (consA (cn (.int 60)) nilA)))) (bop addD (cn (.int 1)) (callE (arity 2 F_law_draw) (consA (vr 0) (consA (cn (.int 60)) nilA)))) (env0 7 [.l 0]) M = .nx [some (.l 0), some (I f), some (I s), none, none, none, none] M2 := by
    rw [ev_parS, e1, ev_bind_ok, e2]; rfl
  have s2 : parS 3 4 (callE (arity 2 F_law_gcd) (consA (vr 1) (consA (vr 2) nilA))) (bop subD (callE (arity 2 F_law_draw) (consA (vr 0) (consA (cn (.int 5)) nilA))) (cn (.int 2))) [some (.l 0), some (I f), some (I s), none, none, none, none] M2 = .nx [some (.l 0), some (I f), some (I s), some (I (Nat.gcd f s)), some (.d (.int (v3 - 2))), none, none] M3 := by
    rw [ev_parS, call2_at rfl rfl (gcd_ev f s (by omega) M2), ev_bind_ok, bop_at (call2_at rfl rfl d3) rfl ev_sub]; rfl
  refine (def_rt (seq_nx s1 (seq_nx s2 (seq_nx (for_at (itemsT_at (tup4_at (bif2_at rfl (bop_at (bop_at (bop_at rfl rfl a3) rfl gg) rfl ev_add) (max_one _)) (bif2_at rfl (bop_at (bif2_at rfl rfl (max_nn ..)) rfl ev_add) (max_one _)) (bop_at (z := .int (c : Int)) rfl (call2_at rfl rfl d4) (by rw [ev_add, hc])) rfl))
    (loop_cons rfl (t _ ?_ ?_ _) (loop_cons rfl (t _ ?_ ?_ _) (loop_cons rfl (t _ ?_ ?_ _) (loop_cons rfl (t 300 (by omega) (by omega) _) loop_nil))))) (ret_at rfl))))).trans (by rw [l4])
  all_goals omega
end K21

set_option maxRecDepth 100000
namespace K21
open Fy
/-! ### words -/
abbrev Wd := List Nat
abbrev gt (w : Wd) (i : Nat) : Nat := w.getD i 0
theorem gt_ext {a b : Wd} (hl : a.length = b.length) (h : ∀ i, i < a.length → gt a i = gt b i) : a = b := by
  refine List.ext_getElem hl fun i h1 h2 => ?_
  have := h i h1
  simp only [gt, List.getD_eq_getElem?_getD, List.getElem?_eq_getElem h1, List.getElem?_eq_getElem h2, Option.getD_some] at this
  exact this
theorem gt_take {a : Wd} {k i : Nat} (h : i < k) : gt (a.take k) i = gt a i := by
  simp only [gt, List.getD_eq_getElem?_getD, List.getElem?_take, if_pos h]
theorem gt_drop (a : Wd) (k i : Nat) : gt (a.drop k) i = gt a (k + i) := by
  simp only [gt, List.getD_eq_getElem?_getD, List.getElem?_drop]
theorem gt_app_l {a b : Wd} {i : Nat} (h : i < a.length) : gt (a ++ b) i = gt a i := by
  simp only [gt, List.getD_eq_getElem?_getD, List.getElem?_append_left h]
theorem gt_app_r {a b : Wd} {i : Nat} (h : a.length ≤ i) : gt (a ++ b) i = gt b (i - a.length) := by
  simp only [gt, List.getD_eq_getElem?_getD, List.getElem?_append_right h]
def rep (u : Wd) (k : Nat) : Wd := (List.replicate k u).flatten
theorem rep_len (u : Wd) : ∀ k, (rep u k).length = k * u.length
  | 0 => by simp [rep]
  | k + 1 => by
    have ih := rep_len u k
    unfold rep at ih ⊢
    rw [List.replicate_succ, List.flatten_cons, List.length_append, ih, Nat.succ_mul, Nat.add_comm]
theorem rep_gt (u : Wd) : ∀ k i, i < k * u.length → gt (rep u k) i = gt u (i % u.length)
  | 0, i, h => by omega
  | k + 1, i, h => by
    have ih := rep_gt u k
    have e : rep u (k + 1) = u ++ rep u k := by unfold rep; rw [List.replicate_succ, List.flatten_cons]
    rw [e]
    by_cases q : i < u.length
    · rw [gt_app_l q, Nat.mod_eq_of_lt q]
    · rw [gt_app_r (by omega), ih (i - u.length) (by rw [Nat.succ_mul] at h; omega), Nat.mod_eq_sub_mod (a := i) (by omega)]
def rot (w : Wd) (s : Nat) : Wd := w.drop s ++ w.take s
theorem rot_len (w : Wd) {s : Nat} (h : s ≤ w.length) : (rot w s).length = w.length := by
  unfold rot; rw [List.length_append, List.length_drop, List.length_take]; omega
theorem rot_gt {w : Wd} {s i : Nat} (hs : s ≤ w.length) (hi : i < w.length) : gt (rot w s) i = gt w ((i + s) % w.length) := by
  unfold rot
  have dl : (w.drop s).length = w.length - s := List.length_drop ..
  by_cases q : i < w.length - s
  · rw [gt_app_l (by rw [dl]; exact q), gt_drop, Nat.mod_eq_of_lt (by omega), Nat.add_comm]
  · rw [gt_app_r (by rw [dl]; omega), dl, gt_take (by omega), Nat.mod_eq_sub_mod (by omega), Nat.mod_eq_of_lt (by omega)]
    congr 1; omega
/-- a period, by letters -/
theorem per_iff {w : Wd} {p : Nat} (hp : p ≤ w.length) : w.drop p = w.take (w.length - p) ↔ ∀ i, i + p < w.length → gt w (i + p) = gt w i := by
  constructor
  · intro e i hi
    have : gt (w.drop p) i = gt (w.take (w.length - p)) i := by rw [e]
    rw [gt_drop, gt_take (by omega), Nat.add_comm] at this
    exact this
  · intro h
    refine gt_ext (by rw [List.length_drop, List.length_take]; omega) fun i hi => ?_
    rw [List.length_drop] at hi
    rw [gt_drop, gt_take (by omega), Nat.add_comm]
    exact h i (by omega)
theorem rep_iff {w : Wd} {d : Nat} (hd : 0 < d) (hl : w.length % d = 0) (hdl : d ≤ w.length) : rep (w.take d) (w.length / d) = w ↔ ∀ c, c < w.length → gt w c = gt w (c % d) := by
  have tl : (w.take d).length = d := by rw [List.length_take]; omega
  have nl : w.length / d * d = w.length := Nat.div_mul_cancel (Nat.dvd_of_mod_eq_zero hl)
  constructor
  · intro e c hc
    have := rep_gt (w.take d) (w.length / d) c (by rw [tl, nl]; exact hc)
    rw [e, tl, gt_take (Nat.mod_lt _ hd)] at this
    exact this
  · intro h
    refine gt_ext (by rw [rep_len, tl, nl]) fun i hi => ?_
    rw [rep_len, tl, nl] at hi
    rw [rep_gt _ _ _ (by rw [tl, nl]; exact hi), tl, gt_take (Nat.mod_lt _ hd), ← h i hi]
/-- u is no power of a shorter word -/
def Prim (u : Wd) : Prop := 0 < u.length ∧ ∀ d, 0 < d → u.length % d = 0 → (∀ c, c < u.length → gt u c = gt u (c % d)) → d = u.length
/-- W is u again and again -/
structure Pw (u W : Wd) (k : Nat) : Prop where
  pr : Prim u
  kp : 0 < k
  len : W.length = k * u.length
  at_ : ∀ c, c < W.length → gt W c = gt u (c % u.length)
theorem Pw.rep {u : Wd} {k : Nat} (h : Prim u) (hk : 0 < k) : Pw u (K21.rep u k) k := ⟨h, hk, rep_len u k, fun c hc => rep_gt u k c (by rw [rep_len] at hc; exact hc)⟩
theorem Pw.le {u W : Wd} {k : Nat} (h : Pw u W k) : u.length ≤ W.length := by
  rw [h.len]; exact Nat.le_mul_of_pos_left _ h.kp
theorem Pw.pos {u W : Wd} {k : Nat} (h : Pw u W k) : 0 < W.length := Nat.lt_of_lt_of_le h.pr.1 h.le
theorem Pw.multiple {u W : Wd} {k : Nat} (h : Pw u W k) (a : Nat) : ∀ i, i + u.length * a < W.length → gt W (i + u.length * a) = gt W i := fun i hi => by
  rw [h.at_ _ hi, h.at_ _ (by omega), Nat.add_mul_mod_self_left]
/-- the only short periods are the root's -/
theorem Pw.short {u W : Wd} {k p : Nat} (h : Pw u W k) (hp : 0 < p) (hper : ∀ i, i + p < W.length → gt W (i + p) = gt W i) (hn : p + u.length ≤ W.length + Nat.gcd p u.length) : u.length ∣ p := by
  have q := two_periods (p + u.length) p u.length W.length (fun i => ((gt W i : Nat) : Int)) rfl hp h.pr.1 (fun i hi => by rw [hper i hi]) (fun i hi => by
    have := h.multiple 1 i (by rw [Nat.mul_one]; exact hi)
    rw [Nat.mul_one] at this
    show ((gt W (i + u.length) : Nat) : Int) = _
    rw [this]) hn
  have gpos : 0 < Nat.gcd p u.length := Nat.gcd_pos_of_pos_left _ hp
  have gd : Nat.gcd p u.length ∣ u.length := Nat.gcd_dvd_right ..
  have e := h.pr.2 (Nat.gcd p u.length) gpos (Nat.mod_eq_zero_of_dvd gd) fun c hc => by
    have h1 := q c (Nat.lt_of_lt_of_le hc h.le)
    have h2 := h.at_ c (Nat.lt_of_lt_of_le hc h.le)
    have hlt : c % Nat.gcd p u.length < u.length := Nat.lt_of_le_of_lt (Nat.mod_le ..) hc
    have h3 := h.at_ (c % Nat.gcd p u.length) (Nat.lt_of_lt_of_le hlt h.le)
    rw [Nat.mod_eq_of_lt hc] at h2
    rw [Nat.mod_eq_of_lt hlt] at h3
    have h1' : gt W c = gt W (c % Nat.gcd p u.length) := by omega
    rw [← h2, h1', h3]
  rw [← e]
  exact Nat.gcd_dvd_left ..
/-- the least period that is told -/
theorem Pw.root {u W : Wd} {k p : Nat} (h : Pw u W k) (hp : 0 < p) (hpn : p ≤ W.length) (hper : ∀ i, i + p < W.length → gt W (i + p) = gt W i) (least : ∀ q, 0 < q → q < p → ¬ ∀ i, i + q < W.length → gt W (i + q) = gt W i) :
    (if W.length % p ≠ 0 then W.length else p) = u.length := by
  have hl := h.len
  have upos := h.pr.1
  have ple : p ≤ u.length := by
    rcases Nat.lt_or_ge u.length p with q | q
    · exact absurd (fun i hi => by
        have := h.multiple 1 i (by rw [Nat.mul_one]; exact hi)
        rw [Nat.mul_one] at this
        exact this) (least u.length upos q)
    · exact q
  have two : 2 ≤ k → p = u.length := fun h2 => by
    have : 2 * u.length ≤ W.length := by rw [hl]; exact Nat.mul_le_mul_right _ h2
    have d := h.short hp hper (by omega)
    exact Nat.le_antisymm ple (Nat.le_of_dvd hp d)
  by_cases h2 : 2 ≤ k
  · have e := two h2
    rw [e, hl, Nat.mul_mod_left, if_neg (by omega)]
  · have k1 : k = 1 := by have := h.kp; omega
    rw [k1, Nat.one_mul] at hl
    split
    · exact hl
    · rename_i hm
      have hm : W.length % p = 0 := by omega
      have dv : p ∣ u.length := by rw [← hl]; exact Nat.dvd_of_mod_eq_zero hm
      have g : Nat.gcd p u.length = p := Nat.gcd_eq_left dv
      have d := h.short hp hper (by rw [g, hl]; omega)
      exact Nat.le_antisymm ple (Nat.le_of_dvd hp d)
theorem Pw.rot_gt {u W : Wd} {k s i : Nat} (h : Pw u W k) (hs : s ≤ W.length) (hi : i < W.length) : gt (rot W s) i = gt u ((i + s) % u.length) := by
  rw [K21.rot_gt hs hi, h.at_ _ (Nat.mod_lt _ h.pos)]
  congr 1
  exact Nat.mod_mod_of_dvd _ ⟨k, by rw [h.len, Nat.mul_comm]⟩
theorem Pw.rot_mod {u W : Wd} {k s : Nat} (h : Pw u W k) (hs : s ≤ W.length) : rot W s = rot W (s % u.length) := by
  have hs2 : s % u.length ≤ W.length := Nat.le_trans (Nat.mod_le ..) hs
  refine gt_ext (by rw [rot_len _ hs, rot_len _ hs2]) fun i hi => ?_
  rw [rot_len _ hs] at hi
  rw [h.rot_gt hs hi, h.rot_gt hs2 hi]
  congr 1
  rw [Nat.add_mod_mod]
theorem Pw.rot_inj {u W : Wd} {k s t : Nat} (h : Pw u W k) (hst : s < t) (ht : t < u.length) (e : rot W s = rot W t) : False := by
  have upos := h.pr.1
  have hle := h.le
  have step : ∀ c, gt u ((c + (t - s)) % u.length) = gt u (c % u.length) := fun c => by
    -- the place i with i + s = c, round
    have hi : (c % u.length + (u.length - s)) % u.length < W.length := Nat.lt_of_lt_of_le (Nat.mod_lt _ upos) hle
    have q : gt (rot W s) ((c % u.length + (u.length - s)) % u.length) = gt (rot W t) ((c % u.length + (u.length - s)) % u.length) := by rw [e]
    rw [h.rot_gt (by omega) hi, h.rot_gt (by omega) hi] at q
    rw [Nat.mod_add_mod, Nat.mod_add_mod] at q
    have e1 : c % u.length + (u.length - s) + s = c % u.length + u.length := by omega
    have e2 : c % u.length + (u.length - s) + t = c % u.length + (t - s) + u.length := by omega
    rw [e1, e2, Nat.add_mod_right, Nat.add_mod_right, Nat.mod_add_mod, Nat.mod_mod] at q
    exact q.symm
  have q := two_periods ((t - s) + u.length) (t - s) u.length ((t - s) + u.length) (fun i => ((gt u (i % u.length) : Nat) : Int)) rfl (by omega) upos (fun i _ => by rw [step i]) (fun i _ => by rw [Nat.add_mod_right]) (by omega)
  have gpos : 0 < Nat.gcd (t - s) u.length := Nat.gcd_pos_of_pos_left _ (by omega)
  have gd : Nat.gcd (t - s) u.length ∣ u.length := Nat.gcd_dvd_right ..
  have gl : Nat.gcd (t - s) u.length ≤ t - s := Nat.gcd_le_left _ (by omega)
  have e := h.pr.2 (Nat.gcd (t - s) u.length) gpos (Nat.mod_eq_zero_of_dvd gd) fun c hc => by
    have h1 := q c (by omega)
    have hlt : c % Nat.gcd (t - s) u.length < u.length := Nat.lt_of_le_of_lt (Nat.mod_le ..) hc
    rw [Nat.mod_eq_of_lt hc, Nat.mod_eq_of_lt hlt] at h1
    omega
  omega
end K21

set_option maxRecDepth 100000
set_option maxHeartbeats 1000000
namespace K21
open PySem PySem.Spec L2 Fy
/-! ### the owned list at the memory's end -/
theorem mem_at (M : Mem) (o : O) : (M ++ [o])[M.length]? = some o := by simp
theorem mem_set (M : Mem) (o o' : O) : (M ++ [o]).set M.length o' = M ++ [o'] := by
  rw [List.set_append_right _ _ (Nat.le_refl _), Nat.sub_self]; rfl
theorem pk_end (M : Mem) (ds : List D) : pk (M ++ [.lst ds]) (.l M.length) = some (.lst ds) := ev_pk_l (mem_at M _)
theorem app_at {f g : FE} {env : Fy.Env} {M : Mem} {ds : List D} {x : D} (hf : f env (M ++ [.lst ds]) = .ok (.l M.length) (M ++ [.lst ds])) (hg : g env (M ++ [.lst ds]) = .ok (.d x) (M ++ [.lst ds])) (hl : ds.length < SZ) :
    appE f g env (M ++ [.lst ds]) = .ok (.d .non) (M ++ [.lst (ds ++ [x])]) := by
  unfold appE lmE
  rw [hf, ev_bind_ok]
  simp only [mem_at, hg, ev_bind_ok]
  unfold appO
  rw [if_pos hl]
  simp only [mem_set]
/-! ### borders -/
def isBd (W : Wd) (m b : Nat) : Prop := b < m ∧ ∀ i, i < b → gt W i = gt W (m - b + i)
def IsMax (W : Wd) (m b : Nat) : Prop := isBd W m b ∧ ∀ c, isBd W m c → c ≤ b
theorem b_zero {W : Wd} {m : Nat} (h : 0 < m) : isBd W m 0 := ⟨h, fun i hi => absurd hi (Nat.not_lt_zero _)⟩
theorem b_succ {W : Wd} {m b : Nat} (hb : b < m) : isBd W (m + 1) (b + 1) ↔ isBd W m b ∧ gt W b = gt W m := by
  constructor
  · rintro ⟨_, h⟩
    refine ⟨⟨hb, fun i hi => ?_⟩, ?_⟩
    · have := h i (by omega)
      rw [show m + 1 - (b + 1) + i = m - b + i by omega] at this
      exact this
    · have := h b (by omega)
      rw [show m + 1 - (b + 1) + b = m by omega] at this
      exact this
  · rintro ⟨⟨_, h⟩, e⟩
    refine ⟨by omega, fun i hi => ?_⟩
    rw [show m + 1 - (b + 1) + i = m - b + i by omega]
    by_cases q : i < b
    · exact h i q
    · have : i = b := by omega
      subst this
      rw [show m - i + i = m by omega]; exact e
theorem b_down {W : Wd} {m b c : Nat} (hb : isBd W m b) (hc : c < b) : isBd W m c ↔ isBd W b c := by
  obtain ⟨h1, h2⟩ := hb
  have key : ∀ i, i < c → gt W (b - c + i) = gt W (m - c + i) := fun i hi => by
    rw [h2 (b - c + i) (by omega), show m - b + (b - c + i) = m - c + i by omega]
  constructor
  · rintro ⟨_, h⟩
    exact ⟨hc, fun i hi => by rw [h i hi, key i hi]⟩
  · rintro ⟨_, h⟩
    exact ⟨by omega, fun i hi => by rw [h i hi, key i hi]⟩
theorem ix_str {W : Wd} {c : Nat} (hc : c < W.length) (hl : W.length ≤ SZ) : ixD (.str W) (.int (c : Int)) = some (.str [gt W c]) := by
  rw [ev_ix_s hl, atI_nat hc, List.getElem?_eq_getElem hc]
  simp [gt, List.getD_eq_getElem?_getD, hc]
theorem ix_ns {F : List Nat} {c : Nat} (hc : c < F.length) : ixD (Ns F) (.int (c : Int)) = some (.int ((gt F c : Nat) : Int)) := by
  rw [ev_ix_l, atI_nat (by rw [List.length_map]; exact hc), List.getElem?_map, List.getElem?_eq_getElem hc]
  simp [gt, List.getD_eq_getElem?_getD, hc]
theorem ix_last {F : List Nat} (hc : 0 < F.length) : ixD (Ns F) (.int (-1)) = some (.int ((gt F (F.length - 1) : Nat) : Int)) := by
  have e : ixN (F.map fun d : Nat => D.int d).length (-1) = some (F.length - 1) := by
    unfold ixN
    rw [List.length_map, if_neg (by omega), if_pos (by omega)]
    congr 1; omega
  rw [ev_ix_l]
  unfold atI
  rw [e, Option.bind_some, List.getElem?_map, List.getElem?_eq_getElem (by omega)]
  simp [gt, List.getD_eq_getElem?_getD, show F.length - 1 < F.length by omega]
abbrev kW : FS := setS 3 (ixE (vr 1) (bop subD (vr 3) (cn (.int 1))))
abbrev kC : FB := andT (tst (bop gtD (vr 3) (cn (.int 0)))) (tst (bop neD (ixE (vr 0) (vr 3)) (vr 2)))
theorem kmp_while {W : Wd} {F : List Nat} {m b : Nat} (hm0 : 0 < m) (hm : m < W.length) (hW : W.length ≤ 300) (hF : F.length = m) (hs : ∀ j, j < m → IsMax W (j + 1) (gt F j)) (M : Mem)
    (hb : isBd W m b) (ab : ∀ c, isBd W m c → gt W c = gt W m → c ≤ b) : ∃ b', whileS kC kW FUEL [some (.d (.str W)), some (.l M.length), some (.d (.str [gt W m])), some (I b)] (M ++ [.lst (F.map fun d : Nat => .int d)])
      = .nx [some (.d (.str W)), some (.l M.length), some (.d (.str [gt W m])), some (I b')] (M ++ [.lst (F.map fun d : Nat => .int d)]) ∧ isBd W m b' ∧ (∀ c, isBd W m c → gt W c = gt W m → c ≤ b') ∧ (b' = 0 ∨ gt W b' = gt W m) := by
  have hSZ : W.length ≤ SZ := by rw [SZ_eq]; omega
  have hbm := hb.1
  obtain ⟨env', M', e, r⟩ := while_inv (c := kC) (p := kW) (fun k env M1 => M1 = M ++ [.lst (F.map fun d : Nat => .int d)] ∧ ∃ b, k = b ∧ env = [some (.d (.str W)), some (.l M.length), some (.d (.str [gt W m])), some (I b)] ∧ isBd W m b ∧ ∀ c, isBd W m c → gt W c = gt W m → c ≤ b)
    (fun env M1 => M1 = M ++ [.lst (F.map fun d : Nat => .int d)] ∧ ∃ b', env = [some (.d (.str W)), some (.l M.length), some (.d (.str [gt W m])), some (I b')] ∧ isBd W m b' ∧ (∀ c, isBd W m c → gt W c = gt W m → c ≤ b') ∧ (b' = 0 ∨ gt W b' = gt W m)) (fun k env M1 h => by
      obtain ⟨rfl, b, rfl, rfl, h1, h2⟩ := h
      have hbm := h1.1
      by_cases z : k = 0
      · subst z
        exact .inl ⟨and_f (tst_at (bop_at rfl rfl (by rw [ev_gt]; rfl))), rfl, 0, rfl, h1, h2, .inl rfl⟩
      · have c1 : tst (bop gtD (vr 3) (cn (.int 0))) [some (.d (.str W)), some (.l M.length), some (.d (.str [gt W m])), some (I k)] (M ++ [.lst (F.map fun d : Nat => .int d)]) = .ok true (M ++ [.lst (F.map fun d : Nat => .int d)]) := tst_at (bop_at rfl rfl (by rw [ev_gt, decide_eq_true (by omega)]))
        by_cases q : gt W k = gt W m
        · refine .inl ⟨and_t c1 (tst_at (bop_at (ix_at rfl rfl rfl (ix_str (by omega) hSZ)) rfl ?_)), rfl, k, rfl, h1, h2, .inr q⟩
          rw [ev_nes, decide_eq_true (by rw [q])]; rfl
        · have hm1 := hs (k - 1) (by omega)
          rw [Nat.sub_add_cancel (by omega)] at hm1
          have lt1 := hm1.1.1
          refine .inr ⟨and_t c1 (tst_at (bop_at (ix_at rfl rfl rfl (ix_str (by omega) hSZ)) rfl ?_)), _, _, gt F (k - 1), lt1, .inl (set_at (ix_at rfl (bop_at (z := .int ((k - 1 : Nat) : Int)) rfl rfl ?_) (pk_end M _) (ix_ns (by omega)))), rfl, _, rfl, rfl, ?_, ?_⟩
          · rw [ev_nes, decide_eq_false (by simpa using q)]; rfl
          · rw [ev_sub]; congr 2; omega
          · exact (b_down h1 lt1).mpr hm1.1
          · intro c hc e
            have := h2 c hc e
            rcases Nat.lt_or_ge c k with z | z
            · exact hm1.2 c ((b_down h1 z).mp hc)
            · have : c = k := by omega
              subst this
              exact absurd e q) FUEL b _ _ (by show b < 1000000000; omega) ⟨rfl, b, rfl, rfl, hb, ab⟩
  obtain ⟨rfl, b', rfl, r⟩ := r
  exact ⟨b', e, r⟩
theorem bl_ev {W : Wd} (h0 : 0 < W.length) (hW : W.length ≤ 300) (M : Mem) : ∃ F : List Nat, F_border_lengths [.d (.str W)] M = .ok (.d (Ns F)) M ∧ F.length = W.length ∧ ∀ j, j < W.length → IsMax W (j + 1) (gt F j) := by
  have hSZ : W.length ≤ SZ := by rw [SZ_eq]; omega
  have hit : signsI (slE (vr 0) (soO (cn (.int 1))) noO) [some (.d (.str W)), some (.l M.length), none, none] (M ++ [.lst [.int 0]]) = .ok ((W.drop 1).map fun c => .str [c]) (M ++ [.lst [.int 0]]) := by
    have e : slD (.str W) (some 1) none = some (.str (W.drop 1)) := by
      show (if W.length ≤ SZ then some (D.str (cutL W (some 1) none)) else none) = _
      rw [if_pos hSZ]
      have e1 : sB W.length (some 1) = 1 := by
        show (if (1 : Int) < 0 then ((1 : Int) + (W.length : Int)).toNat else min (1 : Int).toNat W.length) = 1
        rw [if_neg (by omega)]
        show min 1 W.length = 1
        omega
      unfold cutL
      rw [e1]
      show some (D.str ((W.drop 1).take (W.length - 1))) = _
      rw [List.take_of_length_le (by rw [List.length_drop]; omega)]
    unfold signsI
    rw [sl_at rfl (so_at rfl) rfl rfl e]
    rfl
  obtain ⟨env', M', e, r⟩ := loop_inv (g := tgN 2) (p := seqS (setS 3 (ixE (vr 1) (negE (cn (.int 1))))) (seqS (whileS kC kW FUEL) (dropS (appE (vr 1) (bop addD (vr 3) (bifE intD (consA (bop eqD (ixE (vr 0) (vr 3)) (vr 2)) nilA)))))))
    (fun k env M1 => ∃ F : List Nat, ∃ x2 x3 : Option A, F.length = k + 1 ∧ M1 = M ++ [.lst (F.map fun d : Nat => .int d)] ∧ env = [some (.d (.str W)), some (.l M.length), x2, x3] ∧ ∀ j, j < k + 1 → IsMax W (j + 1) (gt F j)) ((W.drop 1).map fun c => .str [c]) 0 (fun i d env M1 hd hI => by
      rw [Nat.zero_add] at *
      obtain ⟨F, x2, x3, hF, rfl, rfl, hs⟩ := hI
      have hi : i + 1 < W.length := by
        have := (List.getElem?_eq_some_iff.mp hd).1
        rw [List.length_map, List.length_drop] at this
        omega
      have hd' : d = .str [gt W (i + 1)] := by
        rw [List.getElem?_map, List.getElem?_drop, Nat.add_comm 1 i, List.getElem?_eq_getElem hi] at hd
        rw [← Option.some.inj hd]
        simp [gt, List.getD_eq_getElem?_getD, hi]
      subst hd'
      have top := hs i (by omega)
      obtain ⟨b', ew, hb', ab', st⟩ := kmp_while (W := W) (F := F) (m := i + 1) (b := gt F i) (by omega) hi hW hF hs M top.1 (fun c hc _ => top.2 c hc)
      have e3 : setS 3 (ixE (vr 1) (negE (cn (.int 1)))) [some (.d (.str W)), some (.l M.length), some (.d (.str [gt W (i + 1)])), x3] (M ++ [.lst (F.map fun d : Nat => .int d)]) = .nx [some (.d (.str W)), some (.l M.length), some (.d (.str [gt W (i + 1)])), some (I (gt F i))] (M ++ [.lst (F.map fun d : Nat => .int d)]) := by
        have q := ix_last (F := F) (by omega)
        rw [hF, Nat.add_sub_cancel] at q
        exact set_at (ix_at rfl (by simp) (pk_end M _) q)
      have hb1 := hb'.1
      have cmp : eqD (.str [gt W b']) (.str [gt W (i + 1)]) = some (.bl (decide (gt W b' = gt W (i + 1)))) := by
        rw [ev_eqs]
        congr 2
        by_cases q : gt W b' = gt W (i + 1)
        · rw [decide_eq_true (by rw [q]), decide_eq_true q]
        · rw [decide_eq_false (by simpa using q), decide_eq_false q]
      by_cases q : gt W b' = gt W (i + 1)
      · rw [decide_eq_true q] at cmp
        refine ⟨_, _, _, rfl, .inl (seq_nx e3 (seq_nx ew (drop_at (app_at rfl (bop_at (z := .int ((b' + 1 : Nat) : Int)) rfl (bif1_at (bop_at (ix_at rfl rfl rfl (ix_str (by omega) hSZ)) rfl cmp) rfl rfl) rfl) (by rw [List.length_map, hF, SZ_eq]; omega))))), F ++ [b' + 1], _, _, by simp [hF], ?_, rfl, fun j hj => ?_⟩
        · rw [List.map_append]; rfl
        · by_cases z : j < i + 1
          · have := hs j z
            rw [show gt (F ++ [b' + 1]) j = gt F j from gt_app_l (by omega)]
            exact this
          · have : j = i + 1 := by omega
            subst this
            rw [show gt (F ++ [b' + 1]) (i + 1) = b' + 1 by rw [gt_app_r (by omega), hF, Nat.sub_self]; rfl]
            refine ⟨(b_succ hb1).mpr ⟨hb', q⟩, fun c hc => ?_⟩
            cases c with
            | zero => omega
            | succ c =>
              have := (b_succ (by have := hc.1; omega)).mp hc
              have := ab' c this.1 this.2
              omega
      · rw [decide_eq_false q] at cmp
        have b0 : b' = 0 := st.resolve_right q
        subst b0
        refine ⟨_, _, _, rfl, .inl (seq_nx e3 (seq_nx ew (drop_at (app_at rfl (bop_at (z := .int ((0 : Nat) : Int)) rfl (bif1_at (bop_at (ix_at rfl rfl rfl (ix_str (by omega) hSZ)) rfl cmp) rfl rfl) rfl) (by rw [List.length_map, hF, SZ_eq]; omega))))), F ++ [0], _, _, by simp [hF], ?_, rfl, fun j hj => ?_⟩
        · rw [List.map_append]; rfl
        · by_cases z : j < i + 1
          · have := hs j z
            rw [show gt (F ++ [0]) j = gt F j from gt_app_l (by omega)]
            exact this
          · have : j = i + 1 := by omega
            subst this
            rw [show gt (F ++ [0]) (i + 1) = 0 by rw [gt_app_r (by omega), hF, Nat.sub_self]; rfl]
            refine ⟨b_zero (by omega), fun c hc => ?_⟩
            cases c with
            | zero => omega
            | succ c =>
              have h1 := (b_succ (by have := hc.1; omega)).mp hc
              have h2 := ab' c h1.1 h1.2
              have : c = 0 := by omega
              subst this
              exact absurd h1.2 q) _ (M ++ [.lst [.int 0]]) ⟨[0], none, none, rfl, rfl, rfl, fun j hj => by
        have : j = 0 := by omega
        subst this
        exact ⟨b_zero (by omega), fun c hc => by have := hc.1; show c ≤ 0; omega⟩⟩
  obtain ⟨F, x2, x3, hF, rfl, rfl, hs⟩ := r
  rw [Nat.zero_add, List.length_map, List.length_drop, Nat.sub_add_cancel h0] at hF
  refine ⟨F, ?_, hF, fun j hj => hs j (by rw [Nat.zero_add, List.length_map, List.length_drop]; omega)⟩
  have tk : ((M ++ [O.lst (F.map fun d : Nat => .int d)]).set M.length .dead).take M.length = M := by
    rw [mem_set, List.take_left']; rfl
  refine (def_rt (M1 := (M ++ [O.lst (F.map fun d : Nat => .int d)]).set M.length .dead) (seq_nx (set_at (a := .l M.length) (M1 := M ++ [.lst [.int 0]]) rfl) (seq_nx (for_at hit e) (ret_at ?_)))).trans (by rw [tk])
  rw [ev_frz, show vr 1 _ _ = R.ok (A.l M.length) _ from rfl, ev_bind_ok]
  simp only [mem_at]
end K21

set_option maxRecDepth 100000
set_option maxHeartbeats 1000000
namespace K21
open PySem PySem.Spec L2 Fy
/-! ### plain checks of words -/
def Abc (W : Wd) : Prop := ∀ c ∈ W, c = 97 ∨ c = 98 ∨ c = 99
theorem check_word_ev {W : Wd} (hA : Abc W) (hW : W.length ≤ 300) (M : Mem) : F_check_word [.d (.str W), .d (.int 4), .d (.int 300)] M = .ok (.d .non) M := by
  have hSZ : W.length ≤ SZ := by rw [SZ_eq]; omega
  have ec : compE (signsI (vr 0)) (tgN 3) (tst (bop niD (vr 3) (slE (cn (.str [97, 98, 99, 100])) noO (soO (vr 1))))) (vr 3) [3] [some (.d (.str W)), some (.d (.int 4)), some (.d (.int 300)), none] M = .ok (.d (.lst [])) M := by
    refine (compE_pure (M1 := M) (ds := W.map fun c => .str [c]) (fun _ => false) id rfl (by rw [List.length_map]; exact hSZ) fun d hd => ?_).trans ?_
    · obtain ⟨c, hc, rfl⟩ := List.mem_map.mp hd
      refine ⟨_, rfl, tst_at (bop_at rfl (sl_at (z := .str [97, 98, 99, 100]) rfl rfl (so_at rfl) rfl rfl) ?_), fun z => (Bool.noConfusion z)⟩
      rcases hA c hc with rfl | rfl | rfl <;> rfl
    · rw [show (W.map fun c => D.str [c]).filter (fun _ => false) = [] from List.filter_eq_nil_iff.mpr fun _ _ => Bool.false_ne_true]
      rfl
  exact def_nx1 (env1 := [some (.d (.str W)), some (.d (.int 4)), some (.d (.int 300)), none]) (if_f (or_f (not_at (b := true) (tst_at (by simp [env0, isB]))) (or_f (tst_at (bop_at (bif1_at rfl rfl (ev_len_s hSZ)) rfl (by rw [ev_gt, decide_eq_false (by omega)]))) (tst_at (bop_at ec lst0_at rfl)))) rfl)
theorem check_letters_ev {W : Wd} (hA : Abc W) (hW : W.length ≤ 300) (M : Mem) : F_check_letters [.d (.str W)] M = .ok (.d .non) M :=
  def_nx1 (drop_at (call3_at rfl (bif1_at rfl rfl rfl) rfl (check_word_ev hA hW M)))
theorem ne_nil {W : Wd} (h : 0 < W.length) : W ≠ [] := fun e => by rw [e] at h; exact absurd h (Nat.lt_irrefl _)
theorem check_filled_ev {W : Wd} (hA : Abc W) (h0 : 0 < W.length) (hW : W.length ≤ 300) (M : Mem) : F_check_filled [.d (.str W)] M = .ok (.d .non) M :=
  def_nx1 (seq_nx (drop_at (call1_at rfl (check_letters_ev hA hW M))) (if_f (tst_at (bop_at rfl rfl (by rw [ev_eqs, decide_eq_false (ne_nil h0)]))) rfl))
/-! ### borders, periods -/
theorem isMax_uniq {W : Wd} {m b b' : Nat} (h : IsMax W m b) (h' : IsMax W m b') : b = b' := Nat.le_antisymm (h'.2 b h.1) (h.2 b' h'.1)
theorem borders_ev {W : Wd} (hA : Abc W) (h0 : 0 < W.length) (hW : W.length ≤ 300) (M : Mem) : ∃ bs : List Nat, F_borders [.d (.str W)] M = .ok (.d (Ns bs)) M ∧ bs.Pairwise (· < ·) ∧ ∀ c, c ∈ bs ↔ isBd W W.length c := by
  obtain ⟨F, ef, hF, hs⟩ := bl_ev h0 hW M
  have top := hs (W.length - 1) (by omega)
  rw [Nat.sub_add_cancel h0] at top
  obtain ⟨env', M', e, r⟩ := while_inv (c := tst (bop gtD (vr 3) (cn (.int 0)))) (p := seqS (dropS (appE (vr 2) (vr 3))) (setS 3 (ixE (vr 1) (bop subD (vr 3) (cn (.int 1))))))
    (fun k env M1 => ∃ L : List Nat, M1 = M ++ [.lst (L.map fun d : Nat => .int d)] ∧ env = [some (.d (.str W)), some (.d (Ns F)), some (.l M.length), some (I k)] ∧ L.Pairwise (fun a b => b < a) ∧ (∀ c, c ∈ L ↔ isBd W W.length c ∧ k < c) ∧ L.length + k ≤ W.length ∧ isBd W W.length k)
    (fun env M1 => ∃ L : List Nat, M1 = M ++ [.lst (L.map fun d : Nat => .int d)] ∧ env = [some (.d (.str W)), some (.d (Ns F)), some (.l M.length), some (I 0)] ∧ L.Pairwise (fun a b => b < a) ∧ (∀ c, c ∈ L ↔ isBd W W.length c ∧ 0 < c)) (fun k env M1 h => by
      obtain ⟨L, rfl, rfl, hp, hm, hl, hk⟩ := h
      have hkn := hk.1
      by_cases z : k = 0
      · subst z
        exact .inl ⟨tst_at (bop_at rfl rfl (by rw [ev_gt]; rfl)), L, rfl, rfl, hp, hm⟩
      · have m1 := hs (k - 1) (by omega)
        rw [Nat.sub_add_cancel (by omega)] at m1
        have lt1 := m1.1.1
        refine .inr ⟨tst_at (bop_at rfl rfl (by rw [ev_gt, decide_eq_true (by omega)])), _, _, gt F (k - 1), lt1, .inl (seq_nx (drop_at (app_at (x := .int (k : Int)) rfl rfl (by rw [List.length_map, SZ_eq]; omega))) (set_at (ix_at rfl (bop_at (z := .int ((k - 1 : Nat) : Int)) rfl rfl (by rw [ev_sub]; congr 2; omega)) rfl (ix_ns (by omega))))), L ++ [k], by rw [List.map_append]; rfl, rfl, ?_, ?_, ?_, ?_⟩
        · rw [List.pairwise_append]
          refine ⟨hp, List.pairwise_singleton _ _, fun a ha b hb => ?_⟩
          rw [List.mem_singleton] at hb
          rw [hb]
          exact ((hm a).mp ha).2
        · intro c
          rw [List.mem_append, List.mem_singleton, hm c]
          constructor
          · rintro (⟨h1, h2⟩ | rfl)
            · exact ⟨h1, by omega⟩
            · exact ⟨hk, lt1⟩
          · rintro ⟨h1, h2⟩
            rcases Nat.lt_trichotomy c k with z | z | z
            · have := m1.2 c ((b_down hk z).mp h1)
              omega
            · exact .inr z
            · exact .inl ⟨h1, z⟩
        · rw [List.length_append, List.length_singleton]; omega
        · exact (b_down hk lt1).mpr m1.1) FUEL (gt F (W.length - 1)) _ (M ++ [.lst []]) (by have := top.1.1; show _ < 1000000000; omega) ⟨[], rfl, rfl, List.Pairwise.nil, fun c => ⟨fun z => (nomatch z), fun z => absurd (top.2 c z.1) (by have := z.2; omega)⟩, by have := top.1.1; show 0 + _ ≤ _; omega, top.1⟩
  obtain ⟨L, rfl, rfl, hp, hm⟩ := r
  refine ⟨[0] ++ L.reverse, ?_, ?_, fun c => ?_⟩
  · have q := ix_last (F := F) (by omega)
    rw [hF] at q
    have lL : L.length ≤ 300 := by
      have : (L.map fun d : Nat => (d : Int)).length ≤ ((List.range W.length).map fun d : Nat => (d : Int)).length := nodup_le (List.Pairwise.map _ (fun a b (h : b < a) => by omega) hp) fun x hx => by
        obtain ⟨d, hd, rfl⟩ := List.mem_map.mp hx
        exact List.mem_map.mpr ⟨d, List.mem_range.mpr ((hm d).mp hd).1.1, rfl⟩
      simp at this
      omega
    refine (def_rt (M1 := M ++ [.lst (L.map fun d : Nat => .int d)]) (seq_nx (drop_at (call1_at rfl (check_letters_ev hA hW M))) (seq_nx (if_f (tst_at (bop_at rfl rfl (by rw [ev_eqs, decide_eq_false (ne_nil h0)]))) rfl)
      (seq_nx (M1 := M ++ [.lst []]) (env1 := [some (.d (.str W)), some (.d (Ns F)), some (.l M.length), none]) ?_ (seq_nx (set_at (ix_at rfl rfl rfl q)) (seq_nx e (ret_at (bop_at (lst1_at rfl) (y := .lst (L.map fun d : Nat => D.int d).reverse) ?_ ?_)))))))).trans (by rw [List.take_left']; rfl)
    · rw [ev_parS, call1_at rfl ef]; rfl
    · unfold revE
      rw [ev_one, show vr 2 _ _ = R.ok (A.l M.length) _ from rfl, ev_bind_ok, pk_end]
    · show _ = some (D.lst (([0] ++ L.reverse).map fun d : Nat => D.int d))
      rw [List.map_append, List.map_reverse]
      exact ev_addl (by simp [SZ_eq]; omega)
  · rw [List.pairwise_append]
    refine ⟨List.pairwise_singleton _ _, List.pairwise_reverse.mpr hp, fun a ha b hb => ?_⟩
    rw [List.mem_singleton] at ha
    rw [ha]
    exact ((hm b).mp (List.mem_reverse.mp hb)).2
  · rw [List.mem_append, List.mem_singleton, List.mem_reverse, hm c]
    constructor
    · rintro (rfl | h)
      · exact b_zero h0
      · exact h.1
    · intro h
      by_cases z : c = 0
      · exact .inl z
      · exact .inr ⟨h, by omega⟩
def pers (W : Wd) : List Nat := ((List.range W.length).map (· + 1)).filter fun p => decide (W.drop p = W.take (W.length - p))
theorem pers_mem {W : Wd} {p : Nat} : p ∈ pers W ↔ 0 < p ∧ p ≤ W.length ∧ ∀ i, i + p < W.length → gt W (i + p) = gt W i := by
  unfold pers
  rw [List.mem_filter, List.mem_map, decide_eq_true_eq]
  constructor
  · rintro ⟨⟨i, hi, rfl⟩, h⟩
    rw [List.mem_range] at hi
    exact ⟨by omega, by omega, (per_iff (by omega)).mp h⟩
  · rintro ⟨h1, h2, h3⟩
    exact ⟨⟨p - 1, List.mem_range.mpr (by omega), by omega⟩, (per_iff h2).mpr h3⟩
theorem pers_asc (W : Wd) : (pers W).Pairwise (· < ·) := by
  unfold pers
  refine List.Pairwise.filter _ (List.Pairwise.map _ (fun a b (h : a < b) => by omega) List.pairwise_lt_range)
theorem per_border {W : Wd} {b : Nat} : isBd W W.length b ↔ b < W.length ∧ ∀ i, i + (W.length - b) < W.length → gt W (i + (W.length - b)) = gt W i := by
  constructor
  · rintro ⟨h, h2⟩
    exact ⟨h, fun i hi => by rw [h2 i (by omega), Nat.add_comm]⟩
  · rintro ⟨h, h2⟩
    exact ⟨h, fun i hi => by rw [Nat.add_comm]; exact (h2 i (by omega)).symm⟩
theorem periods_of_ev {W : Wd} (hA : Abc W) (h0 : 0 < W.length) (hW : W.length ≤ 300) (M : Mem) : F_periods [.d (.str W)] M = .ok (.d (Ns (pers W))) M := by
  have hSZ : W.length ≤ SZ := by rw [SZ_eq]; omega
  obtain ⟨bs, eb, asc, hb⟩ := borders_ev hA h0 hW M
  have bl : bs.length ≤ SZ := by
    have : (bs.map fun d : Nat => (d : Int)).length ≤ ((List.range W.length).map fun d : Nat => (d : Int)).length := nodup_le (List.Pairwise.map _ (fun a b (h : a < b) => by omega) asc) fun x hx => by
      obtain ⟨d, hd, rfl⟩ := List.mem_map.mp hx
      exact List.mem_map.mpr ⟨d, List.mem_range.mpr ((hb d).mp hd).1, rfl⟩
    simp at this
    omega
  refine def_rt1 (ret_at (bif1_at (comp_nums (fun b => .int ((W.length : Int) - (b : Int))) (items_at (call1_at rfl eb)) bl fun d _ => bop_at (bif1_at rfl rfl (ev_len_s hSZ)) rfl ev_sub) rfl ?_))
  show (intsOf _).map _ = _
  rw [intsOf_ints]
  show some (D.lst ((sortI (bs.map fun b : Nat => (W.length : Int) - (b : Int))).map .int)) = _
  have e : (pers W).map (fun p : Nat => (p : Int)) = sortI (bs.map fun b : Nat => (W.length : Int) - (b : Int)) := by
    refine sortI_is ((List.perm_ext_iff_of_nodup ?_ ?_).mpr fun x => ?_) ?_
    · exact List.Pairwise.map _ (fun a b (h : a < b) => by omega) (pers_asc W)
    · exact List.Pairwise.map _ (fun a b (h : a < b) => by omega) asc
    · rw [List.mem_map, List.mem_map]
      constructor
      · rintro ⟨p, hp, rfl⟩
        obtain ⟨h1, h2, h3⟩ := pers_mem.mp hp
        refine ⟨W.length - p, (hb _).mpr (per_border.mpr ⟨by omega, ?_⟩), by omega⟩
        rw [show W.length - (W.length - p) = p by omega]; exact h3
      · rintro ⟨b, hb', rfl⟩
        obtain ⟨h1, h2⟩ := per_border.mp ((hb b).mp hb')
        exact ⟨W.length - b, pers_mem.mpr ⟨by omega, by omega, h2⟩, by omega⟩
    · exact List.Pairwise.map _ (fun a b (h : a < b) => by omega) (pers_asc W)
  rw [← e, List.map_map]
  rfl
theorem root_of_ev {u W : Wd} {k : Nat} (h : Pw u W k) (hA : Abc W) (hW : W.length ≤ 300) (M : Mem) : F_root_of [.d (.str W)] M = .ok (.d (.tup [.str u, .int ((W.length / u.length : Nat) : Int)])) M := by
  have hSZ : W.length ≤ SZ := by rw [SZ_eq]; omega
  have h0 := h.pos
  have hne : W.length ∈ pers W := pers_mem.mpr ⟨h0, Nat.le_refl _, fun i hi => absurd hi (by omega)⟩
  obtain ⟨p, ps, hp⟩ : ∃ p ps, pers W = p :: ps := by
    cases hq : pers W with
    | nil => rw [hq] at hne; cases hne
    | cons p ps => exact ⟨p, ps, rfl⟩
  obtain ⟨p1, p2, p3⟩ := pers_mem.mp (show p ∈ pers W by rw [hp]; exact List.mem_cons_self)
  have asc := pers_asc W
  rw [hp] at asc
  have least : ∀ q, 0 < q → q < p → ¬ ∀ i, i + q < W.length → gt W (i + q) = gt W i := fun q q1 q2 q3 => by
    have := pers_mem.mpr ⟨q1, by omega, q3⟩
    rw [hp] at this
    rcases List.mem_cons.mp this with z | z
    · omega
    · have := (List.pairwise_cons.mp asc).1 q z
      omega
  have hr := h.root p1 p2 p3 least
  have hul := h.le
  have hup := h.pr.1
  have eix : ixD (Ns (pers W)) (.int 0) = some (.int (p : Int)) := by
    have := ix_ns (F := pers W) (c := 0) (by rw [hp]; exact Nat.succ_pos _)
    rw [hp] at this ⊢
    exact this
  have em : modD (.int (W.length : Int)) (.int (p : Int)) = some (.int ((W.length % p : Nat) : Int)) := by rw [ev_mod (by omega), Int.natCast_emod]
  have eu : W.take u.length = u := gt_ext (by rw [List.length_take]; omega) fun i hi => by
    rw [List.length_take] at hi
    rw [gt_take (by omega), h.at_ i (by omega), Nat.mod_eq_of_lt (by omega)]
  have fin : ∀ x1 : Nat, x1 = u.length → retS (tupE (consA (slE (vr 0) noO (soO (vr 1))) (consA (bop fdivD (bifE lenD (consA (vr 0) nilA)) (vr 1)) nilA))) [some (.d (.str W)), some (I x1)] M = .rt (.d (.tup [.str u, .int ((W.length / u.length : Nat) : Int)])) M := fun x1 e => by
    subst e
    refine ret_at (tup2_at (sl_at (z := .str u) rfl rfl (so_at rfl) rfl ?_) (bop_at (bif1_at rfl rfl (ev_len_s hSZ)) rfl (by rw [ev_fdiv (by omega) (by omega), Int.natCast_ediv])))
    rw [ev_sl_s hSZ, cut_to, eu]
  by_cases q : W.length % p = 0
  · rw [if_neg (by omega)] at hr
    exact def_rt1 (seq_nx (drop_at (call1_at rfl (check_filled_ev hA h0 hW M))) (seq_nx (set_at (ix_at (call1_at rfl (periods_of_ev hA h0 hW M)) rfl rfl eix)) (seq_nx (if_f (tst_at (bop_at (bop_at (bif1_at (bif1_at rfl rfl (ev_len_s hSZ)) rfl rfl) rfl em) rfl (by rw [q, ev_ne]; rfl))) rfl) (fin p hr))))
  · rw [if_pos q] at hr
    exact def_rt1 (seq_nx (drop_at (call1_at rfl (check_filled_ev hA h0 hW M))) (seq_nx (set_at (ix_at (call1_at rfl (periods_of_ev hA h0 hW M)) rfl rfl eix)) (seq_nx (if_t (tst_at (bop_at (bop_at (bif1_at (bif1_at rfl rfl (ev_len_s hSZ)) rfl rfl) rfl em) rfl (by rw [ev_ne, decide_eq_false (by omega)]; rfl))) (set_at (bif1_at rfl rfl (ev_len_s hSZ)))) (fin W.length hr))))
end K21

set_option maxRecDepth 100000
set_option maxHeartbeats 1000000
namespace K21
open PySem PySem.Spec L2 Fy
/-! ### texts in order -/
theorem tlt_trans {a b c : Wd} (h : a < b) (k : b < c) : a < c := List.lt_trans h k
theorem tlt_irr (a : Wd) : ¬ a < a := List.lt_irrefl a
theorem tlt_tri (a b : Wd) : a < b ∨ a = b ∨ b < a := by
  by_cases h : a < b
  · exact .inl h
  · by_cases k : b < a
    · exact .inr (.inr k)
    · exact .inr (.inl (List.le_antisymm (List.not_lt.mp k) (List.not_lt.mp h)))
theorem tlt_app : ∀ {a b : Wd} (x y : Wd), a.length = b.length → a < b → a ++ x < b ++ y
  | [], [], _, _, _, h => absurd h (tlt_irr [])
  | [], b :: bs, _, _, hl, _ => by simp at hl
  | a :: as, [], _, _, hl, _ => by simp at hl
  | a :: as, b :: bs, x, y, hl, h => by
    rw [List.cons_lt_cons_iff] at h
    show a :: (as ++ x) < b :: (bs ++ y)
    rw [List.cons_lt_cons_iff]
    rcases h with h | ⟨h1, h2⟩
    · exact .inl h
    · exact .inr ⟨h1, tlt_app x y (by simpa using hl) h2⟩
theorem txtsOf_str (xs : List Wd) : txtsOf (xs.map .str) = some xs := by
  induction xs with
  | nil => rfl
  | cons x xs ih =>
    show (txtsOf (xs.map .str)).map (x :: ·) = _
    rw [ih]; rfl
/-! ### all turns -/
def turns (W : Wd) : List Wd := (List.range W.length).map (rot W)
theorem rot_at {f : FE} {env : Fy.Env} {M : Mem} {W : Wd} {s i j : Nat} (hW : W.length ≤ 300) (hi : env[i]? = some (some (.d (.str W)))) (hj : env[j]? = some (some (I s))) :
    bop addD (slE (vr i) (soO (vr j)) noO) (slE (vr i) noO (soO (vr j))) env M = .ok (.d (.str (rot W s))) M := by
  have hSZ : W.length ≤ SZ := by rw [SZ_eq]; omega
  have vi : ∀ M, vr i env M = .ok (.d (.str W)) M := fun M => by rw [ev_vr, hi]
  have vj : ∀ M, vr j env M = .ok (I s) M := fun M => by rw [ev_vr, hj]
  refine bop_at (sl_at (z := .str (W.drop s)) (vi M) (so_at (vj M)) rfl rfl (by rw [ev_sl_s hSZ, cut_from])) (sl_at (z := .str (W.take s)) (vi M) rfl (so_at (vj M)) rfl (by rw [ev_sl_s hSZ, cut_to])) (ev_adds ?_)
  rw [List.length_drop, List.length_take, SZ_eq]
  omega
theorem comp_range {n i : Nat} {el : FE} {it : FI} {env : Fy.Env} {M : Mem} (f : Nat → D) (hi : it env M = .ok (rng 0 n) M) (hn : n ≤ 1000000)
    (h : ∀ d, d < n → el ((env.set i none).set i (some (I d))) M = .ok (.d (f d)) M) : compE it (tgN i) yesT el [i] env M = .ok (.d (.lst ((List.range n).map f))) M := by
  refine comp_nums f (by rw [hi, show (0 : Int) = ((0 : Nat) : Int) from rfl, rng_nat]; simp only [Nat.zero_add]) (by rw [List.length_range, SZ_eq]; omega) fun d hd => h d (List.mem_range.mp hd)
theorem addT_mem (zs : List Wd) (x y : Wd) : y ∈ addT zs x ↔ y ∈ zs ∨ y = x := by
  unfold addT
  split
  · rename_i h
    exact ⟨.inl, fun z => z.elim id fun e => e ▸ h⟩
  · rw [List.mem_cons]; exact Or.comm
theorem addT_nodup {zs : List Wd} (h : zs.Nodup) (x : Wd) : (addT zs x).Nodup := by
  unfold addT
  split
  · exact h
  · rename_i hn
    exact List.nodup_cons.mpr ⟨hn, h⟩
theorem dedT_all : ∀ (xs zs : List Wd), (∀ y, y ∈ xs.foldl addT zs ↔ y ∈ zs ∨ y ∈ xs) ∧ (zs.Nodup → (xs.foldl addT zs).Nodup)
  | [], zs => ⟨fun y => by simp, id⟩
  | x :: xs, zs => by
    obtain ⟨h1, h2⟩ := dedT_all xs (addT zs x)
    refine ⟨fun y => ?_, fun h => h2 (addT_nodup h x)⟩
    rw [List.foldl_cons, h1 y, addT_mem, List.mem_cons]
    exact or_assoc
theorem turns_mem {u W : Wd} {k : Nat} (h : Pw u W k) (x : Wd) : x ∈ turns W ↔ x ∈ (List.range u.length).map (rot W) := by
  unfold turns
  rw [List.mem_map, List.mem_map]
  constructor
  · rintro ⟨s, hs, rfl⟩
    rw [List.mem_range] at hs
    exact ⟨s % u.length, List.mem_range.mpr (Nat.mod_lt _ h.pr.1), (h.rot_mod (Nat.le_of_lt hs)).symm⟩
  · rintro ⟨s, hs, rfl⟩
    rw [List.mem_range] at hs
    exact ⟨s, List.mem_range.mpr (Nat.lt_of_lt_of_le hs h.le), rfl⟩
theorem turns_nodup {u W : Wd} {k : Nat} (h : Pw u W k) : ((List.range u.length).map (rot W)).Nodup := by
  refine List.pairwise_map.mpr ((List.pairwise_iff_getElem.mpr fun i j hi hj hij => ?_) : (List.range u.length).Pairwise fun s t => rot W s ≠ rot W t)
  rw [List.length_range] at hi hj
  rw [List.getElem_range, List.getElem_range]
  exact fun e => h.rot_inj hij hj e
theorem turns_count {u W : Wd} {k : Nat} (h : Pw u W k) : (dedT (turns W)).length = u.length := by
  obtain ⟨h1, h2⟩ := dedT_all (turns W) []
  have nd : (dedT (turns W)).Nodup := h2 List.nodup_nil
  have mem : ∀ y, y ∈ dedT (turns W) ↔ y ∈ (List.range u.length).map (rot W) := fun y => by
    rw [← turns_mem h]
    unfold dedT
    rw [h1 y]; simp
  have a := nodup_le nd fun x hx => (mem x).mp hx
  have b := nodup_le (turns_nodup h) fun x hx => (mem x).mpr hx
  rw [List.length_map, List.length_range] at a b
  omega
theorem max1 {n : Nat} (h : 0 < n) : maxO [.int 1, .int (n : Int)] = some (.int (n : Int)) := by
  rw [max_one]
  congr 2
  omega
theorem turns_of_ev {u W : Wd} {k : Nat} (h : Pw u W k) (hA : Abc W) (hW : W.length ≤ 300) (M : Mem) : ∃ X : List D, F_turns_of [.d (.str W)] M = .ok (.d (.lst X)) M ∧ X.length = u.length := by
  have hSZ : W.length ≤ SZ := by rw [SZ_eq]; omega
  refine ⟨((dedT (turns W)).mergeSort leT).map .str, def_rt1 (seq_nx (drop_at (call1_at rfl (check_letters_ev hA hW M))) (ret_at ?_)), by rw [List.length_map, List.length_mergeSort, turns_count h]⟩
  have ec := comp_range (M := M) (env := [some (.d (.str W)), none]) (i := 1) (el := bop addD (slE (vr 0) (soO (vr 1)) noO) (slE (vr 0) noO (soO (vr 1)))) (it := rangeI1 (bifE maxO (consA (cn (.int 1)) (consA (bifE lenD (consA (vr 0) nilA)) nilA)))) (fun s => .str (rot W s))
    (range1_at (bif2_at rfl (bif1_at rfl rfl (ev_len_s hSZ)) (max1 h.pos)) (by omega)) (by omega) fun d hd => rot_at (f := vr 0) hW rfl rfl
  unfold sortedSetE
  rw [ev_one]
  show ((compE _ _ _ _ _ [some (.d (.str W)), none] M).bind _) = _
  rw [ec, ev_bind_ok]
  have e2 : (List.range W.length).map (fun s => D.str (rot W s)) = (turns W).map .str := by unfold turns; rw [List.map_map]; rfl
  rw [e2]
  show (match txtsOf ((turns W).map .str) with | some xs => _ | none => _) = _
  rw [txtsOf_str]
  dsimp only
  rw [if_pos (by unfold turns; rw [List.length_map, List.length_range]; omega)]
/-! ### the least turn -/
abbrev Pr := Wd × Nat
def plt (p q : Pr) : Prop := p.1 < q.1 ∨ (p.1 = q.1 ∧ p.2 < q.2)
instance (p q : Pr) : Decidable (plt p q) := by unfold plt; exact inferInstance
abbrev tp (p : Pr) : D := .tup [.str p.1, .int (p.2 : Int)]
theorem plt_trans {a b c : Pr} (h : plt a b) (k : plt b c) : plt a c := by
  rcases h with h | ⟨h1, h2⟩ <;> rcases k with k | ⟨k1, k2⟩
  · exact .inl (tlt_trans h k)
  · exact .inl (k1 ▸ h)
  · exact .inl (h1 ▸ k)
  · exact .inr ⟨h1.trans k1, by omega⟩
theorem plt_irr (a : Pr) : ¬ plt a a := fun h => h.elim (tlt_irr _) fun h => Nat.lt_irrefl _ h.2
theorem ltP_tp (p q : Pr) : ltP (tp p) (tp q) = decide (plt p q) := by
  have m1 : (ms p.1 == ms q.1) = decide (p.1 = q.1) := by
    by_cases e : p.1 = q.1
    · rw [decide_eq_true e, e]; exact beq_self_eq_true _
    · rw [decide_eq_false e]; exact beq_eq_false_iff_ne.mpr fun z => e (ms_inj.mp z)
  show PySem.W.dataLt (.tuple [.str (ms p.1), .int _]) (.tuple [.str (ms q.1), .int _]) = _
  rw [PySem.W.dataLt_pair rfl rfl, PySem.W.dataLt_str, PySem.W.dataLt_int, ms_list, ms_list]
  simp only [PyData.eqv, m1]
  unfold plt
  by_cases e : p.1 = q.1
  · have n1 : ¬ p.1 < q.1 := e ▸ tlt_irr _
    by_cases e2 : p.2 = q.2
    · have : ¬ p.2 < q.2 := by omega
      simp [e, e2, tlt_irr]
    · have e2' : ¬ ((p.2 : Int) = (q.2 : Int)) := by omega
      by_cases e3 : p.2 < q.2
      · simp [e, e2', e3]
      · simp [e, e2', e3, tlt_irr]
  · simp [e]
def pmin (p : Pr) (ps : List Pr) : Pr := ps.foldl (fun a y => if plt y a then y else a) p
theorem pmin_ok : ∀ (ps : List Pr) (p : Pr), (pmin p ps = p ∨ pmin p ps ∈ ps) ∧ ∀ q, (q = p ∨ q ∈ ps) → ¬ plt q (pmin p ps)
  | [], p => ⟨.inl rfl, fun q hq => by
    rcases hq with rfl | hq
    · exact plt_irr q
    · cases hq⟩
  | y :: ps, p => by
    have e : pmin p (y :: ps) = pmin (if plt y p then y else p) ps := rfl
    obtain ⟨h1, h2⟩ := pmin_ok ps (if plt y p then y else p)
    rw [e]
    refine ⟨?_, fun q hq => ?_⟩
    · rcases h1 with h1 | h1
      · rw [h1]
        split
        · exact .inr List.mem_cons_self
        · exact .inl rfl
      · exact .inr (List.mem_cons_of_mem _ h1)
    · have h0 := h2 _ (.inl rfl)
      rcases hq with rfl | hq
      · intro z
        by_cases c : plt y q
        · rw [if_pos c] at h0 z
          exact h0 (plt_trans c z)
        · rw [if_neg c] at h0 z
          exact h0 z
      · rcases List.mem_cons.mp hq with rfl | hq
        · intro z
          by_cases c : plt q p
          · rw [if_pos c] at h0 z
            exact h0 z
          · rw [if_neg c] at h0 z
            -- q ≮ p, q < min
            exact absurd z (by
              intro z
              rcases tlt_tri q.1 p.1 with a | a | a
              · exact c (.inl a)
              · rcases Nat.lt_trichotomy q.2 p.2 with b | b | b
                · exact c (.inr ⟨a, b⟩)
                · have : q = p := Prod.ext a b
                  rw [this] at z
                  exact h0 z
                · exact h0 (plt_trans (.inr ⟨a.symm, b⟩) z)
              · exact h0 (plt_trans (.inl a) z))
        · exact h2 q (.inr hq)
theorem minDD_tp (ps : List Pr) : ∀ p : Pr, minDD (tp p) (ps.map tp) = tp (pmin p ps) := by
  induction ps with
  | nil => intro p; rfl
  | cons y ps ih =>
    intro p
    show minDD (if ltP (tp y) (tp p) = true then tp y else tp p) (ps.map tp) = tp (pmin (if plt y p then y else p) ps)
    rw [← ih, ltP_tp]
    by_cases c : plt y p
    · rw [if_pos (decide_eq_true c), if_pos c]
    · rw [if_neg (by rw [decide_eq_false c]; exact Bool.false_ne_true), if_neg c]
theorem ms_ok {x : Wd} (h : Abc x) : PyData.strOk (ms x) = true := by
  unfold PyData.strOk
  rw [← Array.all_toList, ms_list]
  refine List.all_eq_true.mpr fun c hc => ?_
  rcases h c hc with rfl | rfl | rfl <;> rfl
theorem abc_rot {W : Wd} (h : Abc W) (s : Nat) : Abc (rot W s) := fun c hc => by
  rcases List.mem_append.mp hc with z | z
  · exact h c (List.mem_of_mem_drop z)
  · exact h c (List.mem_of_mem_take z)
theorem okMin_tp (ps : List Pr) (ha : ∀ p ∈ ps, Abc p.1) : okMin (ps.map tp) = true := by
  unfold okMin
  simp only [Bool.and_eq_true, decide_eq_true_eq]
  refine ⟨⟨⟨?_, ?_⟩, ?_⟩, ?_⟩
  · refine List.all_eq_true.mpr fun d hd => List.all_eq_true.mpr fun e he => ?_
    obtain ⟨p, _, rfl⟩ := List.mem_map.mp hd
    obtain ⟨q, _, rfl⟩ := List.mem_map.mp he
    rfl
  · refine List.all_eq_true.mpr fun d hd => ?_
    obtain ⟨p, hp, rfl⟩ := List.mem_map.mp hd
    simp [tp, toP, toPs, PyData.canLay0, PyData.canLayAll0, PyData.depth, PyData.depthAll, ms_ok (ha p hp)]
  · refine List.all_eq_true.mpr fun d hd => ?_
    obtain ⟨p, _, rfl⟩ := List.mem_map.mp hd
    rfl
  · induction ps with
    | nil => exact Nat.zero_le _
    | cons p ps ih =>
      show PyData.depthAll (toP (tp p) :: toPs (ps.map tp)) ≤ 40
      rw [PyData.depthAll]
      exact Nat.max_le.mpr ⟨by simp [tp, toP, toPs, PyData.depth, PyData.depthAll], ih fun q hq => ha q (List.mem_cons_of_mem _ hq)⟩
theorem least_turn_ev {u W : Wd} {k : Nat} (h : Pw u W k) (hA : Abc W) (hW : W.length ≤ 300) (M : Mem) : ∃ t, t < u.length ∧ F_least_turn [.d (.str W)] M = .ok (.d (.tup [.str (rot W t), .int (t : Int)])) M ∧ ∀ s, s < W.length → ¬ rot W s < rot W t := by
  have hSZ : W.length ≤ SZ := by rw [SZ_eq]; omega
  have h0 := h.pos
  have hul := h.le
  have ec := comp_range (M := M) (env := [some (.d (.str W)), none, none]) (i := 2) (el := tupE (consA (bop addD (slE (vr 0) (soO (vr 2)) noO) (slE (vr 0) noO (soO (vr 2)))) (consA (vr 2) nilA))) (it := rangeI1 (bifE lenD (consA (vr 0) nilA))) (fun s => tp (rot W s, s))
    (range1_at (bif1_at rfl rfl (ev_len_s hSZ)) (by omega)) (by omega) fun d hd => tup2_at (rot_at (f := vr 0) hW rfl rfl) rfl
  have el : (List.range W.length).map (fun s => tp (rot W s, s)) = ((List.range W.length).map fun s => (rot W s, s)).map tp := by rw [List.map_map]; rfl
  obtain ⟨n, hn⟩ : ∃ n, W.length = n + 1 := ⟨W.length - 1, by omega⟩
  obtain ⟨p, ps, hp⟩ : ∃ p ps, (List.range W.length).map (fun s => (rot W s, s)) = p :: ps := by
    cases hq : (List.range W.length).map (fun s => (rot W s, s)) with
    | nil => have := congrArg List.length hq; rw [List.length_map, List.length_range, List.length_nil] at this; omega
    | cons p ps => exact ⟨p, ps, rfl⟩
  obtain ⟨h1, h2⟩ := pmin_ok ps p
  have mem : pmin p ps ∈ (List.range W.length).map (fun s => (rot W s, s)) := by
    rw [hp]
    rcases h1 with h1 | h1
    · rw [h1]; exact List.mem_cons_self
    · exact List.mem_cons_of_mem _ h1
  obtain ⟨t, ht, et⟩ := List.mem_map.mp mem
  rw [List.mem_range] at ht
  have least : ∀ s, s < W.length → ¬ plt (rot W s, s) (rot W t, t) := fun s hs => by
    have : (rot W s, s) ∈ p :: ps := by rw [← hp]; exact List.mem_map.mpr ⟨s, List.mem_range.mpr hs, rfl⟩
    rw [et]
    exact h2 _ (List.mem_cons.mp this)
  refine ⟨t, ?_, ?_, fun s hs z => least s hs (.inl z)⟩
  · rcases Nat.lt_or_ge t u.length with z | z
    · exact z
    · have lt1 : t % u.length < u.length := Nat.mod_lt _ h.pr.1
      exact absurd (.inr ⟨(h.rot_mod (Nat.le_of_lt ht)).symm, by show t % u.length < t; omega⟩) (least (t % u.length) (by omega))
  · refine def_rt1 (seq_nx (drop_at (call1_at rfl (check_filled_ev hA h0 hW M))) (seq_nx (set_at ec) (ret_at (bif1_at rfl rfl ?_))))
    rw [el, hp, List.map_cons]
    show (if okMin (tp p :: ps.map tp) = true then some (minDD (tp p) (ps.map tp)) else none) = _
    have ok := okMin_tp (p :: ps) fun q hq => by
      rw [← hp] at hq
      obtain ⟨s, _, rfl⟩ := List.mem_map.mp hq
      exact abc_rot hA s
    rw [List.map_cons] at ok
    rw [if_pos ok, minDD_tp, ← et]
end K21

set_option maxRecDepth 100000
set_option maxHeartbeats 1000000
namespace K21
open PySem PySem.Spec L2 Fy
/-! ### the drawn word -/
theorem letters_of : ∀ {xs : List D}, (∀ x ∈ xs, ∃ c, (c = 97 ∨ c = 98 ∨ c = 99) ∧ x = D.str [c]) → ∃ w : Wd, xs = w.map (fun c => .str [c]) ∧ Abc w
  | [], _ => ⟨[], rfl, fun c hc => by cases hc⟩
  | x :: xs, h => by
    obtain ⟨c, hc, rfl⟩ := h x List.mem_cons_self
    obtain ⟨w, rfl, hw⟩ := letters_of (xs := xs) fun y hy => h y (List.mem_cons_of_mem _ hy)
    refine ⟨c :: w, rfl, fun d hd => ?_⟩
    rcases List.mem_cons.mp hd with rfl | hd
    · exact hc
    · exact hw d hd
theorem strsOf_letters (w : Wd) : strsOf (w.map fun c => D.str [c]) = some (w.map fun c => [c]) := by
  induction w with
  | nil => rfl
  | cons c w ih =>
    show (strsOf (w.map fun c => D.str [c])).map ([c] :: ·) = _
    rw [ih]; rfl
theorem joinL_letters : ∀ w : Wd, joinL [] (w.map fun c => [c]) = w
  | [] => rfl
  | [c] => rfl
  | c :: d :: w => by
    have ih := joinL_letters (d :: w)
    show [c] ++ [] ++ joinL [] ((d :: w).map fun c => [c]) = _
    rw [ih]; rfl
theorem word_ev {M : Mem} (h : HandM M) {env : Fy.Env} (he : env[0]? = some (some (.l 0))) (hl : 2 < env.length) : ∃ (w : Wd) (M' : Mem), joinE (cn (.str [])) (compE (rangeI1 (bop addD (cn (.int 1)) (callE (arity 2 F_law_draw) (consA (vr 0) (consA (cn (.int 12)) nilA))))) (tgN 2) yesT (ixE (cn (.str [97, 98, 99, 100])) (callE (arity 2 F_law_draw) (consA (vr 0) (consA (cn (.int 3)) nilA)))) [2]) env M
    = .ok (.d (.str w)) M' ∧ HandM M' ∧ 0 < w.length ∧ w.length ≤ 12 ∧ Abc w := by
  obtain ⟨v1, M1, d1, a1, b1, h1⟩ := draw_ev h (m := 12) (by omega) (by omega)
  obtain ⟨n, hn⟩ : ∃ n : Nat, 1 + v1 = (n : Int) := ⟨(1 + v1).toNat, by omega⟩
  have v0 : ∀ M, vr 0 env M = .ok (.l 0) M := fun M => by rw [ev_vr, he]
  obtain ⟨xs, M2, e, len, hx, h2⟩ := compE_mem (it := rangeI1 (bop addD (cn (.int 1)) (callE (arity 2 F_law_draw) (consA (vr 0) (consA (cn (.int 12)) nilA))))) (t := tgN 2) (el := ixE (cn (.str [97, 98, 99, 100])) (callE (arity 2 F_law_draw) (consA (vr 0) (consA (cn (.int 3)) nilA)))) (vs := [2]) (env := env) (M := M) (ds := rng 0 n) HandM (fun x => ∃ c, (c = 97 ∨ c = 98 ∨ c = 99) ∧ x = D.str [c])
    (range1_at (bop_at rfl (call2_at (v0 _) rfl d1) (by rw [ev_add, hn])) (by omega)) (by rw [rng_len, SZ_eq]; omega) h1 (fun d hd M hM => by
      obtain ⟨v, M3, d3, a3, b3, h3⟩ := draw_ev hM (m := 3) (by omega) (by omega)
      have g0 : (((wipeE env [2]).set 2 (some (A.d d)))[0]?) = some (some (.l 0)) := by
        rw [List.getElem?_set_ne (by decide)]
        show (env.set 2 none)[0]? = _
        rw [List.getElem?_set_ne (by decide), he]
      have v0' : ∀ M, vr 0 ((wipeE env [2]).set 2 (some (A.d d))) M = .ok (.l 0) M := fun M => by rw [ev_vr, g0]
      have : v = 0 ∨ v = 1 ∨ v = 2 := by omega
      rcases this with rfl | rfl | rfl
      · exact ⟨_, .str [97], M3, rfl, ix_at rfl (call2_at (v0' _) rfl d3) rfl rfl, ⟨97, .inl rfl, rfl⟩, h3⟩
      · exact ⟨_, .str [98], M3, rfl, ix_at rfl (call2_at (v0' _) rfl d3) rfl rfl, ⟨98, .inr (.inl rfl), rfl⟩, h3⟩
      · exact ⟨_, .str [99], M3, rfl, ix_at rfl (call2_at (v0' _) rfl d3) rfl rfl, ⟨99, .inr (.inr rfl), rfl⟩, h3⟩)
  obtain ⟨w, rfl, hw⟩ := letters_of hx
  rw [List.length_map, rng_len] at len
  refine ⟨w, M2, ?_, h2, by omega, by omega, hw⟩
  unfold joinE
  rw [ev_cn, ev_bind_ok]
  dsimp only
  rw [e, ev_bind_ok]
  show (match strsOf (w.map fun c => D.str [c]) with | some xs => _ | none => _) = _
  rw [strsOf_letters]
  dsimp only
  rw [joinL_letters, if_pos]
  have : ((w.map fun c => [c]).map (·.length)).sum = w.length := by
    clear e hw len hx
    induction w with
    | nil => rfl
    | cons c w ih => rw [List.map_cons, List.map_cons, List.sum_cons, ih, List.length_cons]; show 1 + w.length = w.length + 1; omega
  rw [this, List.length_map, SZ_eq]
  simp
  omega
/-! ### its root -/
theorem dv_asc (n : Nat) : (dv n).Pairwise (· < ·) := by
  unfold dv
  exact List.Pairwise.filter _ (List.Pairwise.map _ (fun a b (h : a < b) => by omega) List.pairwise_lt_range)
theorem dv_all {n d : Nat} (h1 : 1 ≤ d) (h2 : d ≤ n) (h3 : n % d = 0) : d ∈ dv n := by
  unfold dv
  rw [List.mem_filter, List.mem_map]
  exact ⟨⟨d - 1, List.mem_range.mpr (by omega), by omega⟩, by rw [h3]; rfl⟩
def sizes (w : Wd) : List Nat := (dv w.length).filter fun d => decide (rep (w.take d) (w.length / d) = w)
theorem root_exists {w : Wd} (h0 : 0 < w.length) : ∃ r rest, sizes w = r :: rest ∧ r ∈ dv w.length ∧ rep (w.take r) (w.length / r) = w ∧ Prim (w.take r) := by
  have hm : w.length ∈ sizes w := by
    unfold sizes
    rw [List.mem_filter, decide_eq_true_eq]
    exact ⟨dv_all h0 (Nat.le_refl _) (Nat.mod_self _), (rep_iff h0 (Nat.mod_self _) (Nat.le_refl _)).mpr fun c hc => by rw [Nat.mod_eq_of_lt hc]⟩
  obtain ⟨r, rest, hr⟩ : ∃ r rest, sizes w = r :: rest := by
    cases hq : sizes w with
    | nil => rw [hq] at hm; cases hm
    | cons r rest => exact ⟨r, rest, rfl⟩
  have asc : (sizes w).Pairwise (· < ·) := List.Pairwise.filter _ (dv_asc _)
  have hin : r ∈ sizes w := by rw [hr]; exact List.mem_cons_self
  have hin' := hin
  unfold sizes at hin'
  rw [List.mem_filter, decide_eq_true_eq] at hin'
  obtain ⟨hd, hrep⟩ := hin'
  obtain ⟨r1, r2, r3⟩ := dv_mem hd
  have tl : (w.take r).length = r := by rw [List.length_take]; omega
  refine ⟨r, rest, hr, hd, hrep, by rw [tl]; omega, fun d d0 dr hdd => ?_⟩
  rw [tl] at dr hdd ⊢
  have hw := (rep_iff r1 r3 r2).mp hrep
  have dvd : d ∣ r := Nat.dvd_of_mod_eq_zero dr
  have dle : d ≤ r := Nat.le_of_dvd r1 dvd
  have dn : w.length % d = 0 := Nat.mod_eq_zero_of_dvd (Nat.dvd_trans dvd (Nat.dvd_of_mod_eq_zero r3))
  have key : rep (w.take d) (w.length / d) = w := (rep_iff d0 dn (by omega)).mpr fun c hc => by
    have cr : c % r < r := Nat.mod_lt _ r1
    have q := hdd (c % r) cr
    have lt2 : c % r % d < r := Nat.lt_of_lt_of_le (Nat.mod_lt _ d0) dle
    rw [gt_take cr, gt_take lt2] at q
    rw [hw c hc, q, Nat.mod_mod_of_dvd _ dvd]
  have : d ∈ sizes w := by
    unfold sizes
    rw [List.mem_filter, decide_eq_true_eq]
    exact ⟨dv_all d0 (by omega) dn, key⟩
  rw [hr] at this asc
  rcases List.mem_cons.mp this with z | z
  · exact z
  · have := (List.pairwise_cons.mp asc).1 d z
    omega
theorem pw_whole {w : Wd} {r c : Nat} (h0 : 0 < w.length) (hd : r ∈ dv w.length) (hrep : rep (w.take r) (w.length / r) = w) (hp : Prim (w.take r)) (hc : 0 < c) : Pw (w.take r) (rep w c) (c * (w.length / r)) := by
  obtain ⟨r1, r2, r3⟩ := dv_mem hd
  have tl : (w.take r).length = r := by rw [List.length_take]; omega
  have nl : w.length / r * r = w.length := Nat.div_mul_cancel (Nat.dvd_of_mod_eq_zero r3)
  have q0 : 0 < w.length / r := Nat.div_pos r2 r1
  have hw := (rep_iff r1 r3 r2).mp hrep
  refine ⟨hp, Nat.mul_pos hc q0, by rw [rep_len, tl, Nat.mul_assoc, nl], fun i hi => ?_⟩
  rw [rep_len] at hi
  have lt1 : i % w.length < w.length := Nat.mod_lt _ h0
  rw [rep_gt _ _ _ hi, hw _ lt1, tl, Nat.mod_mod_of_dvd _ (Nat.dvd_of_mod_eq_zero r3), gt_take (Nat.mod_lt _ r1)]
theorem abc_rep {w : Wd} (h : Abc w) (k : Nat) : Abc (rep w k) := fun c hc => by
  unfold rep at hc
  obtain ⟨l, hl, hc⟩ := List.mem_flatten.mp hc
  rw [(List.mem_replicate.mp hl).2] at hc
  exact h c hc
theorem abc_take {w : Wd} (h : Abc w) (k : Nat) : Abc (w.take k) := fun c hc => h c (List.mem_of_mem_take hc)
end K21

set_option maxRecDepth 100000
set_option maxHeartbeats 1000000
namespace K21
open PySem PySem.Spec L2 Fy
theorem isS (n : Nat) (a b : Wd) (M : Mem) : F_law_is (n + 1) [.d (.str a), .d (.str b)] M = .ok (.d (.bl (decide (a = b)))) M := by
  show defF 4 _ _ _ = _
  refine def_rt1 ?_
  simp [b_law_is, env0, Fy.isB, isnD, Fy.isNon]
theorem isT (n : Nat) (a : Wd) (b : Int) (M : Mem) : F_law_is (n + 2) [.d (.tup [.str a, .int b]), .d (.tup [.str a, .int b])] M = .ok (.d (.bl true)) M := by
  show defF 4 (b_law_is (F_law_is (n + 1))) _ _ = _
  refine def_rt1 ?_
  have e2 : compE (zipI (vr 0) (vr 1)) (tgT (tgCons (tgN 2) (tgCons (tgN 3) tgNil))) yesT (callE (arity 2 (F_law_is (n + 1))) (consA (vr 2) (consA (vr 3) nilA))) [2, 3] [some (.d (.tup [.str a, .int b])), some (.d (.tup [.str a, .int b])), none, none] M = .ok (.d (.lst [.bl true, .bl true])) M := by
    refine (compE_map (ds := [.tup [.str a, .str a], .tup [.int b, .int b]]) (fun _ => .bl true) rfl (Nat.le_of_ble_eq_true rfl) fun x hx => ?_).trans rfl
    simp only [List.mem_cons, List.not_mem_nil, or_false] at hx
    rcases hx with rfl | rfl
    · exact ⟨_, rfl, call2_at rfl rfl (by rw [isS, decide_eq_true rfl])⟩
    · exact ⟨_, rfl, call2_at rfl rfl (by rw [isI, decide_eq_true rfl])⟩
  simp [b_law_is, env0, Fy.isB, e2, allBD, bolsOf]
theorem eq_ns (L : List Nat) : eqD (Ns L) (Ns L) = some (.bl true) := by
  have hc : PyData.canLayAll0 (toPs (L.map fun d : Nat => D.int d)) = true := by
    induction L with
    | nil => rfl
    | cons x L ih => show ((toP (.int (x : Int))).canLay0 && PyData.canLayAll0 (toPs (L.map fun d : Nat => D.int d))) = true; rw [ih]; rfl
  have hd : PyData.depthAll (toPs (L.map fun d : Nat => D.int d)) ≤ 2 := by
    clear hc
    induction L with
    | nil => exact Nat.zero_le _
    | cons x L ih =>
      show PyData.depthAll (toP (.int (x : Int)) :: toPs (L.map fun d : Nat => D.int d)) ≤ 2
      rw [PyData.depthAll]
      exact Nat.max_le.mpr ⟨by simp [toP, PyData.depth], ih⟩
  have hl : (toP (Ns L)).canLay0 = true := by
    show (PyData.list (toPs (L.map fun d : Nat => D.int d))).canLay0 = true
    simpa [PyData.canLay0] using hc
  have hok : okP (Ns L) = true := by
    show (PyData.canLay0 (toP (Ns L)) && decide ((PyData.list (toPs (L.map fun d : Nat => D.int d))).depth ≤ 64)) = true
    rw [hl, decide_eq_true (by rw [PyData.depth]; omega)]; rfl
  show ((eqS (Ns L) (Ns L)).map D.bl).or ((eqP (Ns L) (Ns L)).map D.bl) = _
  have e1 : eqS (Ns L) (Ns L) = none := rfl
  have e2 : eqP (Ns L) (Ns L) = some true := by
    unfold eqP
    rw [if_pos ⟨hok, hok⟩, SeqAt.eqv_refl _ hl]
  rw [e1, e2]; rfl
theorem in_ns {L : List Nat} {j : Nat} (h : j ∈ L) : inD (.int (j : Int)) (Ns L) = some (.bl true) := by
  have f : (L.map fun d : Nat => D.int d).all flatD = true := by
    refine List.all_eq_true.mpr fun d hd => ?_
    obtain ⟨x, _, rfl⟩ := List.mem_map.mp hd
    rfl
  have g : hasD (.int (j : Int)) (L.map fun d : Nat => D.int d) = true := by
    unfold hasD
    exact List.any_eq_true.mpr ⟨.int (j : Int), List.mem_map.mpr ⟨j, h, rfl⟩, beq_self_eq_true _⟩
  show (inSq false (.int (j : Int)) (Ns L)).or _ = _
  have e : inSq false (.int (j : Int)) (Ns L) = some (.bl true) := by
    show (if flatD (.int (j : Int)) = true ∧ (L.map fun d : Nat => D.int d).all flatD = true then _ else _) = _
    rw [if_pos ⟨rfl, f⟩, if_neg Bool.false_ne_true, g]
  rw [e]; rfl
theorem okSort_strs {xs : List Wd} (h : ∀ x ∈ xs, Abc x) : okSort (xs.map .str) = true := by
  unfold okSort
  simp only [Bool.and_eq_true, Bool.or_eq_true]
  refine ⟨⟨?_, ?_⟩, .inr ?_⟩
  · refine List.all_eq_true.mpr fun d hd => List.all_eq_true.mpr fun e he => ?_
    obtain ⟨p, _, rfl⟩ := List.mem_map.mp hd
    obtain ⟨q, _, rfl⟩ := List.mem_map.mp he
    rfl
  · refine List.all_eq_true.mpr fun d hd => ?_
    obtain ⟨p, hp, rfl⟩ := List.mem_map.mp hd
    simp [toP, PyData.canLay0, PyData.depth, ms_ok (h p hp)]
  · refine List.all_eq_true.mpr fun d hd => ?_
    obtain ⟨p, _, rfl⟩ := List.mem_map.mp hd
    rfl
theorem leT_tr (a b c : Wd) (h : leT a b = true) (k : leT b c = true) : leT a c = true := by
  unfold leT at *
  rw [decide_eq_true_eq] at *
  exact List.le_trans h k
theorem leT_tot (a b : Wd) : (leT a b || leT b a) = true := by
  unfold leT
  rw [Bool.or_eq_true, decide_eq_true_eq, decide_eq_true_eq]
  exact List.le_total _ _
theorem sorted_strs {xs : List Wd} (h : ∀ x ∈ xs, Abc x) : sortedD [.lst (xs.map .str)] = some (.lst ((xs.mergeSort leT).map .str)) := by
  show (if okSort (xs.map .str) = true then some (D.lst ((xs.map .str).mergeSort leP)) else none) = _
  rw [if_pos (okSort_strs h), List.map_mergeSort (s := leP) fun a _ b _ => ?_]
  show decide (a ≤ b) = !PySem.W.dataLt (.str (ms b)) (.str (ms a))
  rw [PySem.W.dataLt_str, ms_list, ms_list]
  by_cases q : b < a
  · rw [decide_eq_true q, decide_eq_false (fun z => List.not_lt.mpr z q)]; rfl
  · rw [decide_eq_false q, decide_eq_true (List.not_lt.mp q)]; rfl
/-- the first of the root's turns, as often, is the whole's least turn -/
theorem least_is {u W : Wd} {k t : Nat} (h : Pw u W k) (ht : t < u.length) (least : ∀ s, s < W.length → ¬ rot W s < rot W t) :
    ∃ y rest, (turns u).mergeSort leT = y :: rest ∧ rep y (W.length / u.length) = rot W t := by
  have hup := h.pr.1
  have hul := h.le
  have kq : W.length / u.length = k := by rw [h.len, Nat.mul_div_cancel _ hup]
  have pu : Pw u u 1 := ⟨h.pr, by omega, by omega, fun c hc => by rw [Nat.mod_eq_of_lt hc]⟩
  obtain ⟨y, rest, hy⟩ : ∃ y rest, (turns u).mergeSort leT = y :: rest := by
    cases hq : (turns u).mergeSort leT with
    | nil =>
      have := congrArg List.length hq
      rw [List.length_mergeSort] at this
      unfold turns at this
      rw [List.length_map, List.length_range, List.length_nil] at this
      omega
    | cons y rest => exact ⟨y, rest, rfl⟩
  have hyin : y ∈ turns u := (List.mergeSort_perm _ leT).mem_iff.mp (by rw [hy]; exact List.mem_cons_self)
  unfold turns at hyin
  obtain ⟨s, hs, rfl⟩ := List.mem_map.mp hyin
  rw [List.mem_range] at hs
  have pre : ∀ s, s < u.length → rot W s = rep (rot u s) k := fun s hs => by
    have rl : (rot u s).length = u.length := rot_len _ (by omega)
    refine gt_ext (by rw [rot_len _ (by omega), rep_len, rl, h.len]) fun i hi => ?_
    rw [rot_len _ (by omega)] at hi
    rw [h.rot_gt (by omega) hi, rep_gt _ _ _ (by rw [rl, ← h.len]; exact hi), rl, rot_gt (by omega) (Nat.mod_lt _ hup), Nat.mod_add_mod]
  refine ⟨rot u s, rest, hy, ?_⟩
  rw [kq, ← pre s hs]
  have srt := List.pairwise_mergeSort leT_tr leT_tot (turns u)
  rw [hy] at srt
  have tin : rot u t ∈ (turns u).mergeSort leT := (List.mergeSort_perm _ leT).mem_iff.mpr (List.mem_map.mpr ⟨t, List.mem_range.mpr ht, rfl⟩)
  rw [hy] at tin
  rcases List.mem_cons.mp tin with z | z
  · rw [pre s hs, pre t ht, z]
  · have le := (List.pairwise_cons.mp srt).1 _ z
    unfold leT at le
    rw [decide_eq_true_eq] at le
    rcases tlt_tri (rot u s) (rot u t) with q | q | q
    · exfalso
      refine least s (by omega) ?_
      obtain ⟨k', rfl⟩ : ∃ k', k = k' + 1 := ⟨k - 1, by have := h.kp; omega⟩
      rw [pre s hs, pre t ht]
      have e : ∀ x, rep x (k' + 1) = x ++ rep x k' := fun x => by unfold rep; rw [List.replicate_succ, List.flatten_cons]
      rw [e, e]
      exact tlt_app _ _ (by rw [rot_len _ (by omega), rot_len _ (by omega)]) q
    · rw [pre s hs, pre t ht, q]
    · exact absurd q (List.not_lt.mpr le)
end K21

set_option maxRecDepth 100000
set_option maxHeartbeats 2000000
namespace K21
open PySem PySem.Spec L2 Fy
theorem smI_nat {n : Nat} (h : n < 1000000000) : smI (n : Int) = true := decide_eq_true (by rw [Int.natAbs_natCast]; omega)
theorem root_right {M : Mem} (h : HandM M) : ∃ M', F_law_is_root_right [.l 0] M = .ok (.d (.bl true)) M' ∧ HandM M' := by
  obtain ⟨w, M1, ew, h1, w0, w12, hA⟩ := word_ev (env := env0 14 [.l 0]) h rfl (by show 2 < 14; decide)
  obtain ⟨v, M2, d2, a2, b2, h2⟩ := draw_ev h1 (m := 12) (by omega) (by omega)
  obtain ⟨c, hc⟩ : ∃ c : Nat, 1 + v = (c : Int) := ⟨(1 + v).toNat, by omega⟩
  obtain ⟨r, rest, hr, hd, hrep, hprim⟩ := root_exists w0
  obtain ⟨r1, r2, r3⟩ := dv_mem hd
  have P := pw_whole w0 hd hrep hprim (c := c) (by omega)
  have hAu : Abc (w.take r) := abc_take hA r
  have hAW : Abc (rep w c) := abc_rep hA c
  have WL : (rep w c).length ≤ 300 := by
    rw [rep_len]
    have : c * w.length ≤ 12 * 12 := Nat.mul_le_mul (by omega) w12
    omega
  have ulen : (w.take r).length = r := by rw [List.length_take]; omega
  have wSZ : w.length ≤ SZ := by rw [SZ_eq]; omega
  have hsel : ∀ (M : Mem), ixE (compE (itemsI (callE (arity 1 F_law_divisors) (consA (bifE lenD (consA (vr 1) nilA)) nilA))) (tgN 5) (tst (bop eqD (bop mulD (slE (vr 1) noO (soO (vr 5))) (bop fdivD (bifE lenD (consA (vr 1) nilA)) (vr 5))) (vr 1))) (slE (vr 1) noO (soO (vr 5))) [5]) (cn (.int 0)) [some (.l 0), some (.d (.str w)), none, some (I c), none, none, none, none, none, none, none, none, none, none] M = .ok (.d (.str (w.take r))) M := fun M => by
    have hdv : F_law_divisors [I w.length] M = .ok (.d (Ns (dv w.length))) M := divs_ev _ (by omega) M
    have ec := compE_pure (it := itemsI (callE (arity 1 F_law_divisors) (consA (bifE lenD (consA (vr 1) nilA)) nilA))) (t := tgN 5) (c := tst (bop eqD (bop mulD (slE (vr 1) noO (soO (vr 5))) (bop fdivD (bifE lenD (consA (vr 1) nilA)) (vr 5))) (vr 1))) (el := slE (vr 1) noO (soO (vr 5))) (vs := [5])
      (env := [some (.l 0), some (.d (.str w)), none, some (I c), none, none, none, none, none, none, none, none, none, none]) (M := M) (M1 := M) (ds := (dv w.length).map fun d : Nat => .int d)
      (fun d => match d with | .int i => decide (rep (w.take i.toNat) (w.length / i.toNat) = w) | _ => false) (fun d => match d with | .int i => .str (w.take i.toNat) | _ => .non) (items_at (call1_at (bif1_at rfl rfl (ev_len_s wSZ)) hdv)) (by rw [List.length_map, SZ_eq]; have := dv_len w.length; omega) (fun x hx => by
        obtain ⟨d, hd', rfl⟩ := List.mem_map.mp hx
        obtain ⟨q1, q2, q3⟩ := dv_mem hd'
        have es : slE (vr 1) noO (soO (vr 5)) ((wipeE [some (.l 0), some (.d (.str w)), none, some (I c), none, none, none, none, none, none, none, none, none, none] [5]).set 5 (some (.d (.int (d : Int))))) M = .ok (.d (.str (w.take d))) M := sl_at (z := .str (w.take d)) rfl rfl (so_at rfl) rfl (by rw [ev_sl_s wSZ, cut_to])
        refine ⟨_, rfl, tst_at (bop_at (bop_at es (bop_at (z := .int ((w.length / d : Nat) : Int)) (bif1_at rfl rfl (ev_len_s wSZ)) rfl (by rw [ev_fdiv (by omega) (by omega), Int.natCast_ediv])) (ev_muls (smI_nat (Nat.lt_of_le_of_lt (Nat.div_le_self ..) (by omega))) ?_)) rfl ?_), fun _ => es⟩
        · rw [Int.toNat_natCast, List.length_take, Nat.min_eq_left q2, Nat.mul_comm, Nat.div_mul_cancel (Nat.dvd_of_mod_eq_zero q3)]
          exact wSZ
        · rw [ev_eqs, Int.toNat_natCast]
          rfl)
    refine ix_at ec rfl rfl ?_
    rw [List.filter_map, List.map_map]
    show atI (((dv w.length).filter fun d => decide (rep (w.take d) (w.length / d) = w)).map fun d => D.str (w.take d)) 0 = _
    rw [show (dv w.length).filter (fun d => decide (rep (w.take d) (w.length / d) = w)) = r :: rest from hr]
    show atI (D.str (w.take r) :: rest.map fun d => D.str (w.take d)) ((0 : Nat) : Int) = _
    rw [Fy.atI_nat (by rw [List.length_cons]; omega)]
    rfl
  generalize hu : w.take r = u at *
  have ewh : mulD (.str w) (.int (c : Int)) = some (.str (rep w c)) := by
    rw [ev_muls (smI_of (by omega) (by omega)) (by rw [Int.toNat_natCast, Nat.mul_comm, ← rep_len]; rw [SZ_eq]; omega), Int.toNat_natCast]
    rfl
  generalize rep w c = W at *
  have hup := P.pr.1
  have hul := P.le
  have W0 := P.pos
  have WSZ : W.length ≤ SZ := by rw [SZ_eq]; omega
  have uSZ : u.length ≤ SZ := by omega
  have uLen := hup
  obtain ⟨X, eX, lX⟩ := turns_of_ev P hAW WL M2
  obtain ⟨t, ht, et, least⟩ := least_turn_ev P hAW WL M2
  obtain ⟨y, ys, hy, hyr⟩ := least_is P ht least
  have eR := root_of_ev P hAW WL M2
  have eP := periods_of_ev hAW W0 WL M2
  have fdv : fdivD (.int (W.length : Int)) (.int (u.length : Int)) = some (.int ((W.length / u.length : Nat) : Int)) := by rw [ev_fdiv (by omega) (by omega), Int.natCast_ediv]
  have hdq : W.length / u.length ≤ W.length := Nat.div_le_self ..
  have hmulq : u.length * (W.length / u.length) ≤ W.length := Nat.mul_div_le ..
  generalize hqn : W.length / u.length = qn at *
  -- the sorted turns of the root
  have eS : ∀ (x2 x5 : Option A), bifE sortedD (consA (compE (rangeI1 (bifE lenD (consA (vr 4) nilA))) (tgN 8) yesT (bop addD (slE (vr 4) (soO (vr 8)) noO) (slE (vr 4) noO (soO (vr 8)))) [8]) nilA) [some (.l 0), some (.d (.str w)), none, some (I c), some (.d (.str u)), none, some (.d (.str W)), none, none, none, none, none, none, none] M2 = .ok (.d (.lst ((y :: ys).map .str))) M2 := fun x2 x5 => by
    have ec := comp_range (M := M2) (env := [some (.l 0), some (.d (.str w)), none, some (I c), some (.d (.str u)), none, some (.d (.str W)), none, none, none, none, none, none, none]) (i := 8) (el := bop addD (slE (vr 4) (soO (vr 8)) noO) (slE (vr 4) noO (soO (vr 8)))) (it := rangeI1 (bifE lenD (consA (vr 4) nilA))) (fun s => .str (rot u s))
      (range1_at (bif1_at rfl rfl (ev_len_s uSZ)) (by omega)) (by omega) fun d hd => rot_at (f := vr 0) (by omega) rfl rfl
    refine bif1_at ec rfl ?_
    have e2 : (List.range u.length).map (fun s => D.str (rot u s)) = (turns u).map .str := by unfold turns; rw [List.map_map]; rfl
    rw [e2, sorted_strs (fun x hx => by
      unfold turns at hx
      obtain ⟨s, _, rfl⟩ := List.mem_map.mp hx
      exact abc_rot hAu s), hy]
  -- the periods due
  have eD : ∀ (x7 x9 x10 x11 : Option A), compE (rangeI2 (cn (.int 1)) (bop addD (bifE lenD (consA (vr 6) nilA)) (cn (.int 1)))) (tgN 13) (tst (bop eqD (slE (vr 6) (soO (vr 13)) noO) (slE (vr 6) noO (soO (bop subD (bifE lenD (consA (vr 6) nilA)) (vr 13)))))) (vr 13) [13] [some (.l 0), some (.d (.str w)), none, some (I c), some (.d (.str u)), none, some (.d (.str W)), x7, none, x9, x10, x11, none, none] M2 = .ok (.d (Ns (pers W))) M2 := fun x7 x9 x10 x11 => by
    have ec := compE_pure (it := rangeI2 (cn (.int 1)) (bop addD (bifE lenD (consA (vr 6) nilA)) (cn (.int 1)))) (t := tgN 13) (c := tst (bop eqD (slE (vr 6) (soO (vr 13)) noO) (slE (vr 6) noO (soO (bop subD (bifE lenD (consA (vr 6) nilA)) (vr 13)))))) (el := vr 13) (vs := [13])
      (env := [some (.l 0), some (.d (.str w)), none, some (I c), some (.d (.str u)), none, some (.d (.str W)), x7, none, x9, x10, x11, none, none]) (M := M2) (M1 := M2) (ds := rng 1 ((W.length : Int) + 1 - 1).toNat)
      (fun d => match d with | .int i => decide (W.drop i.toNat = W.take (W.length - i.toNat)) | _ => false) id (range2_at rfl (bop_at (bif1_at rfl rfl (ev_len_s WSZ)) rfl ev_add) (by omega) (by omega)) (by rw [rng_len, SZ_eq]; omega) (fun x hx => by
        obtain ⟨i, hi, rfl⟩ := rng_mem hx
        have e1 : (1 : Int) + (i : Nat) = ((1 + i : Nat) : Int) := by omega
        rw [e1]
        refine ⟨_, rfl, tst_at (bop_at (sl_at (z := .str (W.drop (1 + i))) rfl (so_at rfl) rfl rfl (by rw [ev_sl_s WSZ, cut_from])) (sl_at (z := .str (W.take (W.length - (1 + i)))) rfl rfl (so_at (i := ((W.length - (1 + i) : Nat) : Int)) (bop_at (bif1_at rfl rfl (ev_len_s WSZ)) rfl ?_)) rfl (by rw [ev_sl_s WSZ, cut_to])) ?_), fun _ => rfl⟩
        · rw [ev_sub]; congr 2; omega
        · rw [ev_eqs]; rfl)
    rw [ec]
    refine congrArg (fun z => R.ok (A.d (D.lst z)) M2) ?_
    rw [List.map_id, show ((W.length : Int) + 1 - 1).toNat = W.length by omega, show (1 : Int) = ((1 : Nat) : Int) from rfl, rng_nat]
    unfold pers
    rw [List.filter_map, List.filter_map, List.map_map]
    refine Eq.trans (congrArg _ (List.filter_congr (q := (fun p => decide (W.drop p = W.take (W.length - p))) ∘ (· + 1)) fun i _ => ?_)) (List.map_congr_left fun i _ => ?_)
    · show decide (W.drop (1 + i) = W.take (W.length - (1 + i))) = decide (W.drop (i + 1) = W.take (W.length - (i + 1)))
      rw [Nat.add_comm]
    · show D.int ((1 + i : Nat) : Int) = D.int ((i + 1 : Nat) : Int)
      rw [Nat.add_comm]
  -- the multiples of the root's length are periods
  have eM : ∀ (x7 x9 x10 x11 : Option A), compE (rangeI2 (cn (.int 1)) (bop addD (bop fdivD (bifE lenD (consA (vr 6) nilA)) (bifE lenD (consA (vr 4) nilA))) (cn (.int 1)))) (tgN 8) yesT (bop inD (bop mulD (bifE lenD (consA (vr 4) nilA)) (vr 8)) (vr 12)) [8] [some (.l 0), some (.d (.str w)), none, some (I c), some (.d (.str u)), none, some (.d (.str W)), x7, none, x9, x10, x11, some (.d (Ns (pers W))), none] M2 = .ok (.d (.lst ((rng 1 (((qn : Nat) : Int) + 1 - 1).toNat).map fun _ => .bl true))) M2 := fun x7 x9 x10 x11 => by
    refine compE_map (fun _ => .bl true) (range2_at rfl (bop_at (bop_at (bif1_at rfl rfl (ev_len_s WSZ)) (bif1_at rfl rfl (ev_len_s uSZ)) fdv) rfl ev_add) (by omega) (by omega)) (by rw [rng_len, SZ_eq]; omega) fun x hx => ?_
    obtain ⟨i, hi, rfl⟩ := rng_mem hx
    have hi2 : 1 + i ≤ qn := by omega
    have hle : u.length * (1 + i) ≤ u.length * (qn) := Nat.mul_le_mul_left _ hi2
    refine ⟨_, rfl, bop_at (bop_at (z := .int ((u.length * (1 + i) : Nat) : Int)) (bif1_at rfl rfl (ev_len_s uSZ)) rfl ?_) rfl (in_ns (pers_mem.mpr ⟨Nat.mul_pos hup (by omega), by omega, P.multiple (1 + i)⟩))⟩
    rw [mul_l (by omega), Int.natCast_mul]
    congr 3
  refine ⟨M2, ?_, h2⟩
  have l1 : M.length = 1 := by obtain ⟨_, _, _, _, _, rfl, _⟩ := h; rfl
  have l2 : M2.take M.length = M2 := by rw [l1]; obtain ⟨_, _, _, _, _, rfl, _⟩ := h2; rfl
  refine (def_rt (x := .bl true) (M1 := M2) (seq_nx (set_at ew) (seq_nx (set_at (bop_at rfl (call2_at rfl rfl d2) (by rw [ev_add, hc]))) (seq_nx (set_at (hsel M2)) (seq_nx (set_at (bop_at rfl rfl ewh))
    (seq_nx (if_f (M1 := M2) ?c1 rfl) (seq_nx (set_at (eS none none)) (seq_nx (env1 := [some (.l 0), some (.d (.str w)), none, some (I c), some (.d (.str u)), none, some (.d (.str W)), some (.d (.lst ((y :: ys).map .str))), none, some (.d (.str (rot W t))), some (I t), none, none, none]) (M1 := M2) ?c2
      (seq_nx (if_f (M1 := M2) ?c3 rfl) (seq_nx (set_at (call1_at rfl eP)) (seq_nx (set_at (eD _ _ _ _)) (ret_at (ande_t (bop_at (bif1_at rfl rfl rfl) rfl (eq_ns _)) (bif1_at (eM _ _ _ _) rfl ?c4)))))))))))))).trans (by rw [l2])
  case c1 =>
    refine or_f (not_at (b := true) (tst_at (call2_at (call1_at rfl eR) (tup2_at rfl (bop_at (bif1_at rfl rfl (ev_len_s WSZ)) (bif1_at rfl rfl (ev_len_s uSZ)) fdv)) (isT 6 _ _ _)))) (tst_at (bop_at (bif1_at (call1_at rfl eX) rfl rfl) (bif1_at rfl rfl (ev_len_s uSZ)) ?_))
    rw [ev_ne, decide_eq_true (by rw [lX])]; rfl
  case c2 =>
    rw [ev_asgS, call1_at rfl et]; rfl
  case c3 =>
    have m1 : mulD (.str y) (.int ((qn : Nat) : Int)) = some (.str (rot W t)) := by
      have ly : y.length * (qn) ≤ SZ := by
        have := rep_len y (qn)
        rw [hyr, rot_len _ (by omega)] at this
        rw [Nat.mul_comm]
        omega
      rw [ev_muls (smI_nat (Nat.lt_of_le_of_lt hdq (by omega))) (by rw [Int.toNat_natCast]; exact ly), Int.toNat_natCast]
      rw [← hyr]; rfl
    have i0 : ixD (.lst ((y :: ys).map .str)) (.int 0) = some (.str y) := by
      show atI (D.str y :: ys.map .str) ((0 : Nat) : Int) = _
      rw [Fy.atI_nat (by rw [List.length_cons]; omega)]
      rfl
    refine or_f (tst_at (bop_at rfl (bop_at (ix_at (z := .str y) rfl rfl rfl i0) (bop_at (bif1_at rfl rfl (ev_len_s WSZ)) (bif1_at rfl rfl (ev_len_s uSZ)) fdv) m1) (by rw [ev_nes, decide_eq_true rfl]; rfl))) (or_f (tst_at (bop_at (rot_at (f := vr 0) WL rfl rfl) rfl (by rw [ev_nes, decide_eq_true rfl]; rfl))) (tst_at (bop_at rfl (bif1_at rfl rfl (ev_len_s uSZ)) (by rw [ev_ge, decide_eq_false (by omega)]))))
  case c4 =>
    show (bolsOf _).map _ = _
    have : ∀ ds : List D, bolsOf (ds.map fun _ => D.bl true) = some (ds.map fun _ => true) := fun ds => by
      induction ds with
      | nil => rfl
      | cons d ds ih => show (bolsOf (ds.map fun _ => D.bl true)).map _ = _; rw [ih]; rfl
    rw [this]
    show some (D.bl _) = _
    congr 2
    exact List.all_eq_true.mpr fun b hb => by
      obtain ⟨_, _, rfl⟩ := List.mem_map.mp hb
      rfl
end K21

set_option maxRecDepth 100000
set_option maxHeartbeats 2000000
namespace K21
open PySem PySem.Spec L2 Fy
theorem hand_ev (ns : List Int) (hl : ns.length ≤ 63) : ∃ M, F_law_hand [.d (.scr ns)] [] = .ok (.l 0) M ∧ HandM M := by
  have ec := comp_ints (it := itemsI (slE (vr 0) noO (soO (cn (.int 63))))) (el := bifE absD (consA (bifE intD (consA (vr 2) nilA)) nilA)) (i := 2) (env := [some (.d (.scr ns)), none, none]) (M := []) (h := ns) (fun x => .int (if x < 0 then -x else x))
    (items_at (sl_at (z := .lst (ns.map .int)) rfl rfl (so_at rfl) rfl (by
      show some (D.lst ((cutL ns none (some ((63 : Nat) : Int))).map D.int)) = _
      rw [cut_to, List.take_of_length_le hl]))) (by rw [SZ_eq]; omega) (fun x _ => bif1_at (bif1_at rfl rfl rfl) rfl rfl)
  have e2 : ns.map (fun x => D.int (if x < 0 then -x else x)) = (ns.map fun x => if x < 0 then -x else x).map .int := by rw [List.map_map]; rfl
  rw [e2] at ec
  have lc : (ns.map fun x => if x < 0 then -x else x).length = ns.length := List.length_map ..
  have nn : ∀ z ∈ ns.map (fun x => if x < 0 then -x else x), 0 ≤ z := fun z hz => by
    obtain ⟨x, _, rfl⟩ := List.mem_map.mp hz
    split <;> omega
  generalize ns.map (fun x => if x < 0 then -x else x) = cells at *
  refine ⟨[hand cells 0 0 (18701 + 43 * (cells.length : Int)) 0], ?_, cells, 0, 0, _, 0, rfl, ⟨nn, Int.le_refl _, by omega, Int.le_refl _⟩⟩
  have s1 : b_law_hand (env0 3 [.d (.scr ns)]) [] = .rt (.l 0) [hand cells 0 0 (18701 + 43 * (cells.length : Int)) 0] := by
    refine seq_nx (set_at ec) (ret_at ?_)
    have m : mulD (.int 43) (.int (cells.length : Int)) = some (.int (43 * (cells.length : Int))) := mul_l (by decide)
    have q : bop addD (cn (.int 18701)) (bop mulD (cn (.int 43)) (bifE lenD (consA (vr 1) nilA))) ((env0 3 [.d (.scr ns)]).set 1 (some (.d (Li cells)))) [] = .ok (.d (.int (18701 + 43 * (cells.length : Int)))) [] :=
      bop_at rfl (bop_at rfl (bif1_at rfl rfl (by rw [ev_len_l, List.length_map])) m) ev_add
    rw [ev_newE, ev_consA, show vr 1 _ _ = R.ok (A.d (Li cells)) [] from rfl, ev_bind_ok, ev_consA, ev_cn, ev_bind_ok, ev_consA, ev_cn, ev_bind_ok, ev_consA, q]
    rfl
  unfold F_law_hand defF
  rw [s1]
  rfl
abbrev law6 : FE := lstE (consA (cn (.int 300)) (consA (cn (.int 240)) (consA (cn (.int 210)) (consA (cn (.int 64)) (consA (bop addD (cn (.int 1)) (callE (arity 2 F_law_draw) (consA (vr 1) (consA (cn (.int 300)) nilA)))) (consA (bop addD (cn (.int 1)) (callE (arity 2 F_law_draw) (consA (vr 1) (consA (cn (.int 40)) nilA)))) nilA))))))
theorem turn_ev {M : Mem} (h : HandM M) (a0 x2 x3 x4 : Option A) : ∃ (k n : Nat) (M' : Mem), parS 3 4 (bop addD (cn (.int 1)) (callE (arity 2 F_law_draw) (consA (vr 1) (consA (cn (.int 4)) nilA)))) (callE (arity 2 F_law_some) (consA (vr 1) (consA law6 nilA))) [a0, some (.l 0), x2, x3, x4] M = .nx [a0, some (.l 0), x2, some (I k), some (I n)] M' ∧ HandM M' ∧ 1 ≤ k ∧ k ≤ 4 ∧ 1 ≤ n ∧ n ≤ 300 := by
  obtain ⟨v1, M1, d1, a1, b1, h1⟩ := draw_ev h (m := 4) (by omega) (by omega)
  obtain ⟨v2, M2, d2, a2, b2, h2⟩ := draw_ev h1 (m := 300) (by omega) (by omega)
  obtain ⟨v3, M3, d3, a3, b3, h3⟩ := draw_ev h2 (m := 40) (by omega) (by omega)
  obtain ⟨v4, M4, d4, a4, b4, h4⟩ := draw_ev h3 (m := 6) (by omega) (by omega)
  obtain ⟨k, hk⟩ : ∃ k : Nat, 1 + v1 = (k : Int) := ⟨(1 + v1).toNat, by omega⟩
  have e6 : law6 [a0, some (.l 0), x2, x3, x4] M1 = .ok (.d (.lst [.int 300, .int 240, .int 210, .int 64, .int (1 + v2), .int (1 + v3)])) M3 := by
    have q2 : bop addD (cn (.int 1)) (callE (arity 2 F_law_draw) (consA (vr 1) (consA (cn (.int 300)) nilA))) [a0, some (.l 0), x2, x3, x4] M1 = .ok (.d (.int (1 + v2))) M2 := bop_at rfl (call2_at rfl rfl d2) ev_add
    have q3 : bop addD (cn (.int 1)) (callE (arity 2 F_law_draw) (consA (vr 1) (consA (cn (.int 40)) nilA))) [a0, some (.l 0), x2, x3, x4] M2 = .ok (.d (.int (1 + v3))) M3 := bop_at rfl (call2_at rfl rfl d3) ev_add
    unfold law6
    rw [ev_lstE, ev_consA, ev_cn, ev_bind_ok, ev_consA, ev_cn, ev_bind_ok, ev_consA, ev_cn, ev_bind_ok, ev_consA, ev_cn, ev_bind_ok, ev_consA, q2, ev_bind_ok, ev_consA, q3]
    rfl
  have pick : ∃ n : Nat, 1 ≤ n ∧ n ≤ 300 ∧ atI [D.int 300, .int 240, .int 210, .int 64, .int (1 + v2), .int (1 + v3)] v4 = some (.int (n : Int)) := by
    have : v4 = 0 ∨ v4 = 1 ∨ v4 = 2 ∨ v4 = 3 ∨ v4 = 4 ∨ v4 = 5 := by omega
    rcases this with rfl | rfl | rfl | rfl | rfl | rfl
    · exact ⟨300, by omega, by omega, rfl⟩
    · exact ⟨240, by omega, by omega, rfl⟩
    · exact ⟨210, by omega, by omega, rfl⟩
    · exact ⟨64, by omega, by omega, rfl⟩
    · refine ⟨(1 + v2).toNat, by omega, by omega, ?_⟩
      show some (D.int (1 + v2)) = _
      congr 2; omega
    · refine ⟨(1 + v3).toNat, by omega, by omega, ?_⟩
      show some (D.int (1 + v3)) = _
      congr 2; omega
  obtain ⟨n, n1, n2, hn⟩ := pick
  have l3 : M3.length = 1 := by obtain ⟨_, _, _, _, _, rfl, _⟩ := h3; rfl
  have l4 : M4.take M3.length = M4 := by rw [l3]; obtain ⟨_, _, _, _, _, rfl, _⟩ := h4; rfl
  have es : F_law_some [.l 0, .d (.lst [.int 300, .int 240, .int 210, .int 64, .int (1 + v2), .int (1 + v3)])] M3 = .ok (I n) M4 :=
    (def_rt (M1 := M4) (ret_at (ix_at (x := .lst [.int 300, .int 240, .int 210, .int 64, .int (1 + v2), .int (1 + v3)]) rfl (call2_at rfl (bif1_at rfl rfl rfl) d4) rfl hn))).trans (by rw [l4])
  refine ⟨k, n, M4, ?_, h4, by omega, by omega, n1, n2⟩
  rw [ev_parS, bop_at (z := .int (k : Int)) rfl (call2_at rfl rfl d1) (by rw [ev_add, hk]), ev_bind_ok, call2_at rfl e6 es]
  rfl
theorem law_true : ∀ ns : List Int, ns.length ≤ 63 → (∀ z ∈ ns, Builtin.Int.intBits z ≤ 1048576) → F_law [.d (.scr ns)] [] = .ok (.d (.bl true)) [] := by
  intro ns hl _
  obtain ⟨M0, e0, h0⟩ := hand_ev ns hl
  obtain ⟨env', M', e, r⟩ := loop_inv (g := tgN 2) (p := seqS (parS 3 4 (bop addD (cn (.int 1)) (callE (arity 2 F_law_draw) (consA (vr 1) (consA (cn (.int 4)) nilA)))) (callE (arity 2 F_law_some) (consA (vr 1) (consA law6 nilA))))
    (ifS (orT (notT (tst (callE (arity 2 F_law_are_counts_right) (consA (vr 3) (consA (vr 4) nilA))))) (orT (notT (tst (callE (arity 1 F_law_are_periods_right) (consA (vr 1) nilA)))) (notT (tst (callE (arity 1 F_law_is_root_right) (consA (vr 1) nilA)))))) (retS (cn (.bl false))) nxS))
    (fun _ env M => HandM M ∧ ∃ x2 x3 x4, env = [some (.d (.scr ns)), some (.l 0), x2, x3, x4]) (rng 0 3) 0 (fun i d env M _ hI => by
      obtain ⟨hM, x2, x3, x4, rfl⟩ := hI
      obtain ⟨k, n, M1, e1, h1, k1, k4, n1, n3⟩ := turn_ev hM (some (.d (.scr ns))) (some (.d d)) x3 x4
      obtain ⟨M2, e2, h2⟩ := periods_right h1
      obtain ⟨M3, e3, h3⟩ := root_right h2
      exact ⟨_, _, M3, rfl, .inl (seq_nx e1 (if_f (or_f (not_at (b := true) (tst_at (call2_at rfl rfl (counts_ev k1 k4 n1 n3 M1)))) (or_f (not_at (b := true) (tst_at (call1_at rfl e2))) (not_at (b := true) (tst_at (call1_at rfl e3))))) rfl)), h3, _, _, _, rfl⟩) _ M0 ⟨h0, none, none, none, rfl⟩
  exact def_rt (M1 := M') (seq_nx (set_at (call1_at rfl e0)) (seq_nx (for_at (range1_at (n := 3) rfl (by omega)) e) (ret_at rfl)))
end K21

open PySem PySem.W PyProof.Rows
set_option maxRecDepth 100000 in
set_option maxHeartbeats 0 in
theorem PySem.Challenge.cw_wordfolds_k21_whole_roots_turns_and_peri_holds : PySem.Challenge.rw_wordfolds_k21_whole_roots_turns_and_peri.Holds := by
  w_on; o_law; k_head; (case hw => w_witness2)
  k_fill
  refine L2.walk_ofB (l := PySem.Challenge.rw_wordfolds_k21_whole_roots_turns_and_peri) (n := 63) (k := 16) (x := "script") (CX := fun w => L2.CX PySem.Challenge.pw_wordfolds_k21_whole_roots_turns_and_peri w) (sp := fun w => Fy.spLaw _) rfl (by decide) rfl ⟨rfl, by decide, by decide⟩ (fun w h Y => PySem.W.kIn_of Y) ?F (fun _ _ a ns hl hb _ hS => ⟨a, ns, rfl, hS, hl, hb, fun _ => rfl⟩) (fun _ _ _ _ _ h => Fy.cxf h)
  case F =>
    intro w mg fa h KX G hmg
    refine' K21.all_mk KX G hmg ?Z ?h_is_number ?h_check_word ?h_check_letters ?h_check_filled ?h_border_lengths ?h_borders ?h_periods ?h_root_of ?h_least_turn ?h_divisors ?h_raised ?h_roots_count ?h_check_counts ?h_many_roots ?h_many_turns ?h_turns_of ?h_with_periods ?h_law_hand ?h_law_draw ?h_law_some ?h_law_is ?h_law_gcd ?h_law_power ?h_law_sign ?h_law_divisors ?h_law_are_counts_right ?h_law_joined ?h_law_are_periods_right ?h_law_is_root_right ?h_law K21.law_true
    case Z =>
      refine' ⟨Fy.none_mk KX G ?b_abs, Fy.none_mk KX G ?b_all, Fy.none_mk KX G ?b_bool, Fy.none_mk KX G ?b_int, Fy.none_mk KX G ?b_isinstance, Fy.none_mk KX G ?b_len, Fy.none_mk KX G ?b_list, Fy.none_mk KX G ?b_max, Fy.none_mk KX G ?b_min, Fy.none_mk KX G ?b_range, Fy.none_mk KX G ?b_set, Fy.none_mk KX G ?b_sorted, Fy.none_mk KX G ?b_str, Fy.none_mk KX G ?b_sum, Fy.none_mk KX G ?b_tuple, Fy.none_mk KX G ?b_zip, Fy.some_mk KX G ?g_MOST_SIGNS ?r_MOST_SIGNS, Fy.some_mk KX G ?g_SIGNS ?r_SIGNS⟩
      (case b_abs => k_is)
      (case b_all => k_is)
      (case b_bool => k_is)
      (case b_int => k_is)
      (case b_isinstance => k_is)
      (case b_len => k_is)
      (case b_list => k_is)
      (case b_max => k_is)
      (case b_min => k_is)
      (case b_range => k_is)
      (case b_set => k_is)
      (case b_sorted => k_is)
      (case b_str => k_is)
      (case b_sum => k_is)
      (case b_tuple => k_is)
      (case b_zip => k_is)
      (case g_MOST_SIGNS => k_is)
      (case g_SIGNS => k_is)
      (case r_MOST_SIGNS => exact ⟨_, rfl⟩)
      (case r_SIGNS => exact ⟨_, rfl⟩)
    case h_is_number =>
      refine' Fy.here_mk KX G ?a ?l ?c ?k (fun _ _ _ _ _ _ us hl => match us, hl with | [_], _ => rfl)
      (case a => k_is); (case l => k_is); (case c => k_is); (case k => k_is)
    case h_check_word =>
      refine' Fy.here_mk KX G ?a ?l ?c ?k (fun _ _ _ _ _ _ us hl => match us, hl with | [_, _, _], _ => rfl)
      (case a => k_is); (case l => k_is); (case c => k_is); (case k => k_is)
    case h_check_letters =>
      refine' Fy.here_mk KX G ?a ?l ?c ?k (fun _ _ _ _ _ _ us hl => match us, hl with | [_], _ => rfl)
      (case a => k_is); (case l => k_is); (case c => k_is); (case k => k_is)
    case h_check_filled =>
      refine' Fy.here_mk KX G ?a ?l ?c ?k (fun _ _ _ _ _ _ us hl => match us, hl with | [_], _ => rfl)
      (case a => k_is); (case l => k_is); (case c => k_is); (case k => k_is)
    case h_border_lengths =>
      refine' Fy.here_mk KX G ?a ?l ?c ?k (fun _ _ _ _ _ _ us hl => match us, hl with | [_], _ => rfl)
      (case a => k_is); (case l => k_is); (case c => k_is); (case k => k_is)
    case h_borders =>
      refine' Fy.here_mk KX G ?a ?l ?c ?k (fun _ _ _ _ _ _ us hl => match us, hl with | [_], _ => rfl)
      (case a => k_is); (case l => k_is); (case c => k_is); (case k => k_is)
    case h_periods =>
      refine' Fy.here_mk KX G ?a ?l ?c ?k (fun _ _ _ _ _ _ us hl => match us, hl with | [_], _ => rfl)
      (case a => k_is); (case l => k_is); (case c => k_is); (case k => k_is)
    case h_root_of =>
      refine' Fy.here_mk KX G ?a ?l ?c ?k (fun _ _ _ _ _ _ us hl => match us, hl with | [_], _ => rfl)
      (case a => k_is); (case l => k_is); (case c => k_is); (case k => k_is)
    case h_least_turn =>
      refine' Fy.here_mk KX G ?a ?l ?c ?k (fun _ _ _ _ _ _ us hl => match us, hl with | [_], _ => rfl)
      (case a => k_is); (case l => k_is); (case c => k_is); (case k => k_is)
    case h_divisors =>
      refine' Fy.here_mk KX G ?a ?l ?c ?k (fun _ _ _ _ _ _ us hl => match us, hl with | [_], _ => rfl)
      (case a => k_is); (case l => k_is); (case c => k_is); (case k => k_is)
    case h_raised =>
      refine' Fy.here_mk KX G ?a ?l ?c ?k (fun _ _ _ _ _ _ us hl => match us, hl with | [_, _], _ => rfl)
      (case a => k_is); (case l => k_is); (case c => k_is); (case k => k_is)
    case h_roots_count =>
      refine' Fy.here_mk KX G ?a ?l ?c ?k (fun _ _ _ _ _ _ us hl => match us, hl with | [_, _], _ => rfl)
      (case a => k_is); (case l => k_is); (case c => k_is); (case k => k_is)
    case h_check_counts =>
      refine' Fy.here_mk KX G ?a ?l ?c ?k (fun _ _ _ _ _ _ us hl => match us, hl with | [_, _], _ => rfl)
      (case a => k_is); (case l => k_is); (case c => k_is); (case k => k_is)
    case h_many_roots =>
      refine' Fy.here_mk KX G ?a ?l ?c ?k (fun _ _ _ _ _ _ us hl => match us, hl with | [_, _], _ => rfl)
      (case a => k_is); (case l => k_is); (case c => k_is); (case k => k_is)
    case h_many_turns =>
      refine' Fy.here_mk KX G ?a ?l ?c ?k (fun _ _ _ _ _ _ us hl => match us, hl with | [_, _], _ => rfl)
      (case a => k_is); (case l => k_is); (case c => k_is); (case k => k_is)
    case h_turns_of =>
      refine' Fy.here_mk KX G ?a ?l ?c ?k (fun _ _ _ _ _ _ us hl => match us, hl with | [_], _ => rfl)
      (case a => k_is); (case l => k_is); (case c => k_is); (case k => k_is)
    case h_with_periods =>
      refine' Fy.here_mk KX G ?a ?l ?c ?k (fun _ _ _ _ _ _ us hl => match us, hl with | [_, _, _], _ => rfl)
      (case a => k_is); (case l => k_is); (case c => k_is); (case k => k_is)
    case h_law_hand =>
      refine' Fy.here_mk KX G ?a ?l ?c ?k (fun _ _ _ _ _ _ us hl => match us, hl with | [_], _ => rfl)
      (case a => k_is); (case l => k_is); (case c => k_is); (case k => k_is)
    case h_law_draw =>
      refine' Fy.here_mk KX G ?a ?l ?c ?k (fun _ _ _ _ _ _ us hl => match us, hl with | [_, _], _ => rfl)
      (case a => k_is); (case l => k_is); (case c => k_is); (case k => k_is)
    case h_law_some =>
      refine' Fy.here_mk KX G ?a ?l ?c ?k (fun _ _ _ _ _ _ us hl => match us, hl with | [_, _], _ => rfl)
      (case a => k_is); (case l => k_is); (case c => k_is); (case k => k_is)
    case h_law_is =>
      refine' Fy.here_mk KX G ?a ?l ?c ?k (fun _ _ _ _ _ _ us hl => match us, hl with | [_, _], _ => rfl)
      (case a => k_is); (case l => k_is); (case c => k_is); (case k => k_is)
    case h_law_gcd =>
      refine' Fy.here_mk KX G ?a ?l ?c ?k (fun _ _ _ _ _ _ us hl => match us, hl with | [_, _], _ => rfl)
      (case a => k_is); (case l => k_is); (case c => k_is); (case k => k_is)
    case h_law_power =>
      refine' Fy.here_mk KX G ?a ?l ?c ?k (fun _ _ _ _ _ _ us hl => match us, hl with | [_, _], _ => rfl)
      (case a => k_is); (case l => k_is); (case c => k_is); (case k => k_is)
    case h_law_sign =>
      refine' Fy.here_mk KX G ?a ?l ?c ?k (fun _ _ _ _ _ _ us hl => match us, hl with | [_], _ => rfl)
      (case a => k_is); (case l => k_is); (case c => k_is); (case k => k_is)
    case h_law_divisors =>
      refine' Fy.here_mk KX G ?a ?l ?c ?k (fun _ _ _ _ _ _ us hl => match us, hl with | [_], _ => rfl)
      (case a => k_is); (case l => k_is); (case c => k_is); (case k => k_is)
    case h_law_are_counts_right =>
      refine' Fy.here_mk KX G ?a ?l ?c ?k (fun _ _ _ _ _ _ us hl => match us, hl with | [_, _], _ => rfl)
      (case a => k_is); (case l => k_is); (case c => k_is); (case k => k_is)
    case h_law_joined =>
      refine' Fy.here_mk KX G ?a ?l ?c ?k (fun _ _ _ _ _ _ us hl => match us, hl with | [_, _, _], _ => rfl)
      (case a => k_is); (case l => k_is); (case c => k_is); (case k => k_is)
    case h_law_are_periods_right =>
      refine' Fy.here_mk KX G ?a ?l ?c ?k (fun _ _ _ _ _ _ us hl => match us, hl with | [_], _ => rfl)
      (case a => k_is); (case l => k_is); (case c => k_is); (case k => k_is)
    case h_law_is_root_right =>
      refine' Fy.here_mk KX G ?a ?l ?c ?k (fun _ _ _ _ _ _ us hl => match us, hl with | [_], _ => rfl)
      (case a => k_is); (case l => k_is); (case c => k_is); (case k => k_is)
    case h_law =>
      refine' Fy.here_mk KX G ?a ?l ?c ?k (fun _ _ _ _ _ _ us hl => match us, hl with | [_], _ => rfl)
      (case a => k_is); (case l => k_is); (case c => k_is); (case k => k_is)

