import PyProof.Rows.All
import Wide.All
import OpenK.AllK
import Wide.FinOn
import HandS.ForMost
import HandS.ForExc
import KE.SortData
import HandS.ExcCtx
import HandS.IsInst
import HandS.Wide
import HandS.TupAny
import HandS.Deep
import HandS.CallSlots
import HandS.Iter
import HandS.Comp
import HandS.CallRecv
import HandS.Gcd
import HandS.WideBits
import HandS.Codes
import HandS.WordsExc
import HandS.Ends
import HandS.Defaults
import PySem.Challenge.RW_greatestnext_k36_quotient
set_option Elab.async false
set_option linter.all false
/-! ## Core -/
set_option maxRecDepth 100000
set_option maxHeartbeats 1000000
namespace VS
open PySem PySem.Spec PyProof.Rows L2

/-! ### data trees -/
/-- a value as a tree; the flag: may be changed in place (owned) -/
inductive D where
  | hole
  | non
  | bl (b : Bool)
  | int (i : Int)
  | str (s : Str)
  | scr (ns : List Int)
  | tup (m : Bool) (xs : List D)
  | lst (m : Bool) (xs : List D)
  | ins (m : Bool) (c : Str) (ns : List Str) (xs : List D)
  deriving Inhabited

def D.own : D → Bool
  | .tup m _ => m
  | .lst m _ => m
  | .ins m _ _ _ => m
  | _ => false

mutual
/-- all of it frozen -/
def D.frz : D → D
  | .tup true xs => .tup false (D.frzs xs)
  | .lst true xs => .lst false (D.frzs xs)
  | .ins true c ns xs => .ins false c ns (D.frzs xs)
  | .tup false xs => .tup false xs
  | .lst false xs => .lst false xs
  | .ins false c ns xs => .ins false c ns xs
  | .hole => .hole
  | .non => .non
  | .bl b => .bl b
  | .int i => .int i
  | .str s => .str s
  | .scr ns => .scr ns
def D.frzs : List D → List D
  | [] => []
  | d :: ds => D.frz d :: D.frzs ds
end

theorem D.frzs_length : ∀ ds : List D, (D.frzs ds).length = ds.length
  | [] => rfl
  | _ :: ds => by rw [D.frzs]; simp [D.frzs_length ds]
theorem D.frzs_eq : ∀ ds : List D, D.frzs ds = ds.map D.frz
  | [] => rfl
  | _ :: ds => by rw [D.frzs, D.frzs_eq ds]; rfl
theorem D.frz_of {d : D} (h : d.own = false) : d.frz = d := by
  cases d with
  | tup m xs => cases m <;> simp_all [D.own, D.frz]
  | lst m xs => cases m <;> simp_all [D.own, D.frz]
  | ins m c ns xs => cases m <;> simp_all [D.own, D.frz]
  | _ => simp [D.frz]
theorem D.frz_own (d : D) : d.frz.own = false := by
  cases d with
  | tup m xs => cases m <;> simp [D.own, D.frz]
  | lst m xs => cases m <;> simp [D.own, D.frz]
  | ins m c ns xs => cases m <;> simp [D.own, D.frz]
  | _ => simp [D.frz, D.own]

/-- what the module gives: the written part, the module's names -/
structure Sta where
  K : PySem.W.Frag
  mg : Str → Option Value

/-- what the written part says of a class of values -/
structure InsOk (K : PySem.W.Frag) (C : Addr) (ns : List Str) : Prop where
  cls : Cls K C
  na : ∀ f ∈ ns, NoAttr K C f
  ha : PySem.W.findIn K (.ref C) "__class__" = some (some (.builtin "object.__class__"))
  hn : PySem.W.specialIn K (.builtin "object.__class__") "__get__" = some (some (.builtin "getset_descriptor.__get__"))
  tk : PySem.W.takesIn K (.builtin "object.__class__") = some true
  ob : PySem.W.mroIn K C (.type "object") = some true

mutual
/-- v is the tree d: F what is frozen, H all, A the owned addresses -/
def Rp (S : Sta) (F H : Hp) : D → V → List Addr → Prop
  | .hole, _, A => A = []
  | .non, v, A => v = .non ∧ A = []
  | .bl b, v, A => v = .bl b ∧ A = []
  | .int i, v, A => v = .int i ∧ A = []
  | .str s, v, A => v = .str s ∧ A = []
  | .scr ns, v, A => A = [] ∧ ∃ a, v = .ref a ∧ SqL S.K F a (ns.map V.int)
  | .tup m ds, v, A => (m = false → A = []) ∧ ∃ a vs, v = .ref a ∧ F a = some (.tup vs) ∧ Rps S F H ds vs A
  | .lst false ds, v, A => A = [] ∧ ∃ a vs, v = .ref a ∧ F a = some (.lst vs) ∧ Rps S F H ds vs []
  | .lst true ds, v, A => ∃ a vs B, v = .ref a ∧ A = a :: B ∧ H a = some (.lst vs) ∧ F a = none ∧ Rps S F H ds vs B
  | .ins false c ns ds, v, A => A = [] ∧ ∃ a C dx vs, v = .ref a ∧ (S.mg c = some (.ref C) ∧ InsOk S.K C ns) ∧ ns.length = ds.length ∧ F a = some (.ins C dx (ns.zip vs)) ∧ Rps S F H ds vs []
  | .ins true c ns ds, v, A => ∃ a C dx vs B, v = .ref a ∧ A = a :: B ∧ (S.mg c = some (.ref C) ∧ InsOk S.K C ns) ∧ ns.length = ds.length ∧ H a = some (.ins C dx (ns.zip vs)) ∧ F a = none ∧ Rps S F H ds vs B
def Rps (S : Sta) (F H : Hp) : List D → List V → List Addr → Prop
  | [], vs, A => vs = [] ∧ A = []
  | d :: ds, vs, A => ∃ v ws A1 A2, vs = v :: ws ∧ A = A1 ++ A2 ∧ Rp S F H d v A1 ∧ Rps S F H ds ws A2
end

section
variable {S : Sta} {F H F' H' : Hp} {d : D} {ds : List D} {v : V} {vs : List V} {A : List Addr}

theorem Rps.nil : Rps S F H [] [] [] := by simp [Rps]
theorem Rps.cons {A1 A2 : List Addr} (h : Rp S F H d v A1) (t : Rps S F H ds vs A2) : Rps S F H (d :: ds) (v :: vs) (A1 ++ A2) := by
  rw [Rps]; exact ⟨v, vs, A1, A2, rfl, rfl, h, t⟩
theorem Rps.length : ∀ {ds : List D} {vs : List V} {A : List Addr}, Rps S F H ds vs A → ds.length = vs.length
  | [], _, _, h => by rw [Rps] at h; rw [h.1]; rfl
  | _ :: ds, _, _, h => by
    rw [Rps] at h
    obtain ⟨v, ws, A1, A2, rfl, rfl, _, t⟩ := h
    simp [Rps.length t]

mutual
/-- owned addresses: tracked, not frozen -/
theorem Rp.adr : ∀ (d : D) {v : V} {A : List Addr}, Rp S F H d v A → ∀ a ∈ A, (∃ o, H a = some o) ∧ F a = none
  | .hole, _, _, h => by rw [Rp] at h; subst h; simp
  | .non, _, _, h => by rw [Rp] at h; rw [h.2]; simp
  | .bl _, _, _, h => by rw [Rp] at h; rw [h.2]; simp
  | .int _, _, _, h => by rw [Rp] at h; rw [h.2]; simp
  | .str _, _, _, h => by rw [Rp] at h; rw [h.2]; simp
  | .scr _, _, _, h => by rw [Rp] at h; rw [h.1]; simp
  | .tup _ ds, _, _, h => by
    rw [Rp] at h
    obtain ⟨_, a, vs, _, _, t⟩ := h
    exact Rps.adr ds t
  | .lst false ds, _, _, h => by rw [Rp] at h; rw [h.1]; simp
  | .ins false _ _ ds, _, _, h => by rw [Rp] at h; rw [h.1]; simp
  | .lst true ds, _, _, h => by
    rw [Rp] at h
    obtain ⟨a, vs, B, _, rfl, e, n, t⟩ := h
    intro b hb
    rcases List.mem_cons.mp hb with rfl | hb
    · exact ⟨⟨_, e⟩, n⟩
    · exact Rps.adr ds t b hb
  | .ins true _ _ ds, _, _, h => by
    rw [Rp] at h
    obtain ⟨a, C, dx, vs, B, _, rfl, _, _, e, n, t⟩ := h
    intro b hb
    rcases List.mem_cons.mp hb with rfl | hb
    · exact ⟨⟨_, e⟩, n⟩
    · exact Rps.adr ds t b hb
theorem Rps.adr : ∀ (ds : List D) {vs : List V} {A : List Addr}, Rps S F H ds vs A → ∀ a ∈ A, (∃ o, H a = some o) ∧ F a = none
  | [], _, _, h => by rw [Rps] at h; rw [h.2]; simp
  | d :: ds, _, _, h => by
    rw [Rps] at h
    obtain ⟨v, ws, A1, A2, _, rfl, p, t⟩ := h
    intro a ha
    rcases List.mem_append.mp ha with ha | ha
    · exact Rp.adr d p a ha
    · exact Rps.adr ds t a ha
end

theorem SqL.same {K : PySem.W.Frag} {a : Addr} {xs : List V} (e : Same F F') (h : SqL K F a xs) : SqL K F' a xs := e.seq h

mutual
/-- more is frozen, the owned objects stay -/
theorem Rp.mono (sf : Same F F') : ∀ (d : D) {v : V} {A : List Addr}, Rp S F H d v A → (∀ a ∈ A, F' a = none ∧ H' a = H a) → Rp S F' H' d v A
  | .hole, _, _, h, _ => by rw [Rp] at h ⊢; exact h
  | .non, _, _, h, _ => by rw [Rp] at h ⊢; exact h
  | .bl _, _, _, h, _ => by rw [Rp] at h ⊢; exact h
  | .int _, _, _, h, _ => by rw [Rp] at h ⊢; exact h
  | .str _, _, _, h, _ => by rw [Rp] at h ⊢; exact h
  | .scr _, _, _, h, _ => by
    rw [Rp] at h ⊢
    obtain ⟨e, a, e1, q⟩ := h
    exact ⟨e, a, e1, SqL.same sf q⟩
  | .tup _ ds, _, _, h, k => by
    rw [Rp] at h ⊢
    obtain ⟨e, a, vs, e1, e2, t⟩ := h
    exact ⟨e, a, vs, e1, sf _ _ e2, Rps.mono sf ds t k⟩
  | .lst false ds, _, _, h, k => by
    rw [Rp] at h ⊢
    obtain ⟨e, a, vs, e1, e2, t⟩ := h
    exact ⟨e, a, vs, e1, sf _ _ e2, Rps.mono sf ds t (by simp)⟩
  | .ins false _ _ ds, _, _, h, k => by
    rw [Rp] at h ⊢
    obtain ⟨e, a, C, dx, vs, e1, e2, e3, e4, t⟩ := h
    exact ⟨e, a, C, dx, vs, e1, e2, e3, sf _ _ e4, Rps.mono sf ds t (by simp)⟩
  | .lst true ds, _, _, h, k => by
    rw [Rp] at h ⊢
    obtain ⟨a, vs, B, e1, rfl, e, n, t⟩ := h
    have ka := k a (by simp)
    exact ⟨a, vs, B, e1, rfl, ka.2.trans e, ka.1, Rps.mono sf ds t fun b hb => k b (by simp [hb])⟩
  | .ins true _ _ ds, _, _, h, k => by
    rw [Rp] at h ⊢
    obtain ⟨a, C, dx, vs, B, e1, rfl, e2, e3, e, n, t⟩ := h
    have ka := k a (by simp)
    exact ⟨a, C, dx, vs, B, e1, rfl, e2, e3, ka.2.trans e, ka.1, Rps.mono sf ds t fun b hb => k b (by simp [hb])⟩
theorem Rps.mono (sf : Same F F') : ∀ (ds : List D) {vs : List V} {A : List Addr}, Rps S F H ds vs A → (∀ a ∈ A, F' a = none ∧ H' a = H a) → Rps S F' H' ds vs A
  | [], _, _, h, _ => by rw [Rps] at h ⊢; exact h
  | d :: ds, _, _, h, k => by
    rw [Rps] at h ⊢
    obtain ⟨v, ws, A1, A2, e, rfl, p, t⟩ := h
    exact ⟨v, ws, A1, A2, e, rfl, Rp.mono sf d p fun a ha => k a (by simp [ha]), Rps.mono sf ds t fun a ha => k a (by simp [ha])⟩
end

mutual
/-- frozen -/
theorem Rp.frz (sf : Same F F') : ∀ (d : D) {v : V} {A : List Addr}, Rp S F H d v A → (∀ a ∈ A, F' a = H a) → Rp S F' H' d.frz v []
  | .hole, _, _, h, _ => by rw [D.frz, Rp]
  | .non, _, _, h, _ => by rw [Rp] at h; rw [D.frz, Rp]; exact ⟨h.1, rfl⟩
  | .bl _, _, _, h, _ => by rw [Rp] at h; rw [D.frz, Rp]; exact ⟨h.1, rfl⟩
  | .int _, _, _, h, _ => by rw [Rp] at h; rw [D.frz, Rp]; exact ⟨h.1, rfl⟩
  | .str _, _, _, h, _ => by rw [Rp] at h; rw [D.frz, Rp]; exact ⟨h.1, rfl⟩
  | .scr _, _, _, h, _ => by
    rw [Rp] at h; rw [D.frz, Rp]
    obtain ⟨e, a, e1, q⟩ := h
    exact ⟨rfl, a, e1, SqL.same sf q⟩
  | .tup false ds, _, _, h, k => by
    rw [Rp] at h; rw [D.frz, Rp]
    obtain ⟨e, a, vs, e1, e2, t⟩ := h
    have eA := e rfl
    subst eA
    exact ⟨fun _ => rfl, a, vs, e1, sf _ _ e2, Rps.mono sf ds t (by simp)⟩
  | .tup true ds, _, _, h, k => by
    rw [Rp] at h; rw [D.frz, Rp]
    obtain ⟨e, a, vs, e1, e2, t⟩ := h
    exact ⟨fun _ => rfl, a, vs, e1, sf _ _ e2, Rps.frz sf ds t k⟩
  | .lst false ds, _, _, h, k => by
    rw [Rp] at h; rw [D.frz, Rp]
    obtain ⟨e, a, vs, e1, e2, t⟩ := h
    exact ⟨rfl, a, vs, e1, sf _ _ e2, Rps.mono sf ds t (by simp)⟩
  | .ins false _ _ ds, _, _, h, k => by
    rw [Rp] at h; rw [D.frz, Rp]
    obtain ⟨e, a, C, dx, vs, e1, e2, e3, e4, t⟩ := h
    exact ⟨rfl, a, C, dx, vs, e1, e2, e3, sf _ _ e4, Rps.mono sf ds t (by simp)⟩
  | .lst true ds, _, _, h, k => by
    rw [Rp] at h; rw [D.frz, Rp]
    obtain ⟨a, vs, B, e1, rfl, e, n, t⟩ := h
    exact ⟨rfl, a, vs, e1, (k a (by simp)).trans e, Rps.frz sf ds t fun b hb => k b (by simp [hb])⟩
  | .ins true _ ns ds, _, _, h, k => by
    rw [Rp] at h; rw [D.frz, Rp]
    obtain ⟨a, C, dx, vs, B, e1, rfl, e2, e3, e, n, t⟩ := h
    exact ⟨rfl, a, C, dx, vs, e1, e2, by rw [e3, D.frzs_length], (k a (by simp)).trans e, Rps.frz sf ds t fun b hb => k b (by simp [hb])⟩
theorem Rps.frz (sf : Same F F') : ∀ (ds : List D) {vs : List V} {A : List Addr}, Rps S F H ds vs A → (∀ a ∈ A, F' a = H a) → Rps S F' H' (D.frzs ds) vs []
  | [], _, _, h, _ => by rw [Rps] at h; rw [D.frzs, Rps]; exact ⟨h.1, rfl⟩
  | d :: ds, _, _, h, k => by
    rw [Rps] at h; rw [D.frzs, Rps]
    obtain ⟨v, ws, A1, A2, e, rfl, p, t⟩ := h
    exact ⟨v, ws, [], [], e, rfl, Rp.frz sf d p fun a ha => k a (by simp [ha]), Rps.frz sf ds t fun a ha => k a (by simp [ha])⟩
end

/-- not owned: no addresses -/
theorem Rp.nown : ∀ {d : D} {v : V} {A : List Addr}, Rp S F H d v A → d.own = false → A = []
  | .hole, _, _, h, _ => by rw [Rp] at h; exact h
  | .non, _, _, h, _ => by rw [Rp] at h; exact h.2
  | .bl _, _, _, h, _ => by rw [Rp] at h; exact h.2
  | .int _, _, _, h, _ => by rw [Rp] at h; exact h.2
  | .str _, _, _, h, _ => by rw [Rp] at h; exact h.2
  | .scr _, _, _, h, _ => by rw [Rp] at h; exact h.1
  | .tup false ds, _, _, h, _ => by rw [Rp] at h; exact h.1 rfl
  | .lst false ds, _, _, h, _ => by rw [Rp] at h; exact h.1
  | .ins false _ _ ds, _, _, h, _ => by rw [Rp] at h; exact h.1
  | .tup true _, _, _, _, e => by simp [D.own] at e
  | .lst true _, _, _, _, e => by simp [D.own] at e
  | .ins true _ _ _, _, _, _, e => by simp [D.own] at e

theorem Rps.append : ∀ {ds es : List D} {vs ws : List V} {A B : List Addr}, Rps S F H ds vs A → Rps S F H es ws B → Rps S F H (ds ++ es) (vs ++ ws) (A ++ B)
  | [], es, vs, ws, A, B, h, t => by rw [Rps] at h; obtain ⟨rfl, rfl⟩ := h; exact t
  | d :: ds, es, vs, ws, A, B, h, t => by
    rw [Rps] at h
    obtain ⟨v, vs', A1, A2, rfl, rfl, p, q⟩ := h
    rw [List.append_assoc]
    exact .cons p (Rps.append q t)
theorem Rps.split : ∀ {ds es : List D} {vs : List V} {A : List Addr}, Rps S F H (ds ++ es) vs A → ∃ us ws B C, vs = us ++ ws ∧ A = B ++ C ∧ Rps S F H ds us B ∧ Rps S F H es ws C
  | [], es, vs, A, h => ⟨[], vs, [], A, rfl, rfl, .nil, h⟩
  | d :: ds, es, vs, A, h => by
    rw [List.cons_append, Rps] at h
    obtain ⟨v, vs', A1, A2, rfl, rfl, p, q⟩ := h
    obtain ⟨us, ws, B, C, rfl, rfl, q1, q2⟩ := Rps.split q
    exact ⟨v :: us, ws, A1 ++ B, C, rfl, by rw [List.append_assoc], .cons p q1, q2⟩

/-- one of several in focus: it may be exchanged -/
theorem Rps.focus : ∀ {ds : List D} {vs : List V} {A : List Addr} {i : Nat} {d : D}, Rps S F H ds vs A → ds[i]? = some d →
    ∃ v Ai Ar, vs[i]? = some v ∧ Rp S F H d v Ai ∧ A.Perm (Ai ++ Ar) ∧
      ∀ {F' H' : Hp} {d' : D} {v' : V} {B : List Addr}, Rp S F' H' d' v' B → Same F F' → (∀ a ∈ Ar, F' a = none ∧ H' a = H a) → ∃ C, Rps S F' H' (ds.set i d') (vs.set i v') C ∧ C.Perm (B ++ Ar)
  | [], _, _, _, _, _, e => by simp at e
  | x :: ds, vs, A, 0, d, h, e => by
    simp at e; subst e
    rw [Rps] at h
    obtain ⟨v, ws, A1, A2, rfl, rfl, p, t⟩ := h
    refine ⟨v, A1, A2, rfl, p, .refl _, fun {F' H' d' v' B} q sf k => ⟨B ++ A2, ?_, .refl _⟩⟩
    exact .cons q (Rps.mono sf ds t k)
  | x :: ds, vs, A, i + 1, d, h, e => by
    rw [Rps] at h
    obtain ⟨v, ws, A1, A2, rfl, rfl, p, t⟩ := h
    obtain ⟨u, Ai, Ar, e1, q, pm, k⟩ := Rps.focus (i := i) (d := d) t (by simpa using e)
    have pm2 : (A1 ++ A2).Perm (Ai ++ (A1 ++ Ar)) := by
      refine (List.Perm.append_left A1 pm).trans ?_
      rw [← List.append_assoc, ← List.append_assoc]
      exact List.Perm.append_right Ar List.perm_append_comm
    refine ⟨u, Ai, A1 ++ Ar, by simpa using e1, q, pm2, fun {F' H' d' v' B} q' sf kk => ?_⟩
    obtain ⟨C, hC, pC⟩ := k q' sf fun a ha => kk a (by simp [ha])
    refine ⟨A1 ++ C, ?_, ?_⟩
    · exact .cons (Rp.mono sf x p fun a ha => kk a (by simp [ha])) hC
    · refine (List.Perm.append_left A1 pC).trans ?_
      rw [← List.append_assoc, ← List.append_assoc]
      exact List.Perm.append_right Ar List.perm_append_comm
end
end VS

/-! ## Rel -/
set_option maxRecDepth 100000
set_option maxHeartbeats 1000000
namespace VS
open PySem PySem.Spec PyProof.Rows L2

abbrev En := List D

/-- the entry of the def that runs: what was frozen, all, what it may change -/
structure Fr where
  F : Hp
  H : Hp
  O : List Addr

/-- the slots σ and the pending values Tv are the trees env, Td -/
structure R (S : Sta) (φ : Fr) (F H : Hp) (σ : L2.St) (env : En) (Td : List D) (Tv : List V) : Prop where
  fh : Same F H
  f0 : Same φ.F F
  fn : ∀ a, F a ≠ none → φ.F a = none → φ.H a = none ∨ a ∈ φ.O
  h0 : ∀ a o, φ.H a = some o → a ∉ φ.O → H a = some o
  dm : ∀ a, H a = none → φ.H a = none
  len : σ.length = env.length
  cl : ∃ vs A, Rps S F H (Td ++ env) (Tv ++ vs) A ∧ vs.length = env.length ∧ A.Nodup ∧ (∀ a ∈ A, a ∈ φ.O ∨ φ.H a = none) ∧
    ∀ (i : Nat) d v, env[i]? = some d → d ≠ .hole → vs[i]? = some v → σ[i]? = some (some v)

section
variable {S : Sta} {φ : Fr} {F H F' H' : Hp} {σ : L2.St} {env : En} {Td : List D} {Tv : List V} {d e : D} {v w : V} {A : List Addr}

theorem R.tlen (r : R S φ F H σ env Td Tv) : Td.length = Tv.length := by
  obtain ⟨vs, A, h, l, _⟩ := r.cl
  have := h.length
  simp only [List.length_append] at this
  omega

/-- a scalar, or anything frozen, comes -/
theorem R.push (r : R S φ F H σ env Td Tv) (h : Rp S F H d v []) : R S φ F H σ env (d :: Td) (v :: Tv) := by
  obtain ⟨vs, A, q, l, nd, ok, lk⟩ := r.cl
  refine ⟨r.fh, r.f0, r.fn, r.h0, r.dm, r.len, vs, A, ?_, l, nd, ok, lk⟩
  have := Rps.cons h q
  simpa using this
/-- the last one goes -/
theorem R.pop (r : R S φ F H σ env (d :: Td) (v :: Tv)) : R S φ F H σ env Td Tv := by
  obtain ⟨vs, A, q, l, nd, ok, lk⟩ := r.cl
  rw [List.cons_append, Rps] at q
  obtain ⟨u, ws, A1, A2, e1, rfl, p, t⟩ := q
  simp only [List.cons_append, List.cons.injEq] at e1
  obtain ⟨_, rfl⟩ := e1
  exact ⟨r.fh, r.f0, r.fn, r.h0, r.dm, r.len, vs, A2, t, l, (List.nodup_append.mp nd).2.1, fun a ha => ok a (by simp [ha]), lk⟩
theorem R.top (r : R S φ F H σ env (d :: Td) (v :: Tv)) : ∃ A, Rp S F H d v A := by
  obtain ⟨vs, A, q, l, nd, ok, lk⟩ := r.cl
  rw [List.cons_append, Rps] at q
  obtain ⟨u, ws, A1, A2, e1, rfl, p, t⟩ := q
  simp only [List.cons_append, List.cons.injEq] at e1
  obtain ⟨rfl, rfl⟩ := e1
  exact ⟨A1, p⟩
theorem R.popN : ∀ {Ud : List D} {Uv : List V}, Ud.length = Uv.length → R S φ F H σ env (Ud ++ Td) (Uv ++ Tv) → R S φ F H σ env Td Tv
  | [], [], _, r => r
  | _ :: Ud, _ :: Uv, e, r => R.popN (by simpa using e) (R.pop r)
  | [], _ :: _, e, _ => by simp at e
  | _ :: _, [], e, _ => by simp at e

/-- the claims, taken apart: those in front, the others -/
theorem R.open1 (r : R S φ F H σ env (d :: Td) (v :: Tv)) : ∃ vs A1 A2, Rp S F H d v A1 ∧ Rps S F H (Td ++ env) (Tv ++ vs) A2 ∧ vs.length = env.length ∧ (A1 ++ A2).Nodup ∧ (∀ a ∈ A1 ++ A2, a ∈ φ.O ∨ φ.H a = none) ∧
    ∀ (i : Nat) d v, env[i]? = some d → d ≠ .hole → vs[i]? = some v → σ[i]? = some (some v) := by
  obtain ⟨vs, A, q, l, nd, ok, lk⟩ := r.cl
  rw [List.cons_append, Rps] at q
  obtain ⟨u, ws, A1, A2, e1, rfl, p, t⟩ := q
  simp only [List.cons_append, List.cons.injEq] at e1
  obtain ⟨rfl, rfl⟩ := e1
  exact ⟨vs, A1, A2, p, t, l, nd, ok, lk⟩
theorem R.openN {Ud : List D} {Uv : List V} (el : Ud.length = Uv.length) (r : R S φ F H σ env (Ud ++ Td) (Uv ++ Tv)) : ∃ vs A1 A2, Rps S F H Ud Uv A1 ∧ Rps S F H (Td ++ env) (Tv ++ vs) A2 ∧ vs.length = env.length ∧ (A1 ++ A2).Nodup ∧ (∀ a ∈ A1 ++ A2, a ∈ φ.O ∨ φ.H a = none) ∧
    ∀ (i : Nat) d v, env[i]? = some d → d ≠ .hole → vs[i]? = some v → σ[i]? = some (some v) := by
  obtain ⟨vs, A, q, l, nd, ok, lk⟩ := r.cl
  rw [List.append_assoc, List.append_assoc] at q
  obtain ⟨us, ws, B, C, e1, rfl, q1, q2⟩ := q.split
  have hl := q1.length
  have e2 := List.append_inj e1 (by omega)
  obtain ⟨rfl, rfl⟩ := e2
  exact ⟨vs, B, C, q1, q2, l, nd, ok, lk⟩

/-- the heaps turn: what is frozen stays frozen, the claims' own objects stay, the pending values in front are exchanged -/
theorem R.turn {Ud Ud' : List D} {Uv Uv' : List V} {vs : List V} {A2 B : List Addr} (r : R S φ F H σ env (Ud ++ Td) (Uv ++ Tv))
    (q : Rps S F H (Td ++ env) (Tv ++ vs) A2) (l : vs.length = env.length) (lk : ∀ (i : Nat) d v, env[i]? = some d → d ≠ .hole → vs[i]? = some v → σ[i]? = some (some v))
    (sf : Same F F') (fh : Same F' H') (k : ∀ a ∈ A2, F' a = none ∧ H' a = H a)
    (fn : ∀ a, F' a ≠ none → F a = none → φ.H a = none ∨ a ∈ φ.O)
    (h0 : ∀ a o, φ.H a = some o → a ∉ φ.O → H' a = some o) (dm : ∀ a, H' a = none → H a = none)
    (p : Rps S F' H' Ud' Uv' B) (nd : (B ++ A2).Nodup) (ok : ∀ a ∈ B ++ A2, a ∈ φ.O ∨ φ.H a = none) : R S φ F' H' σ env (Ud' ++ Td) (Uv' ++ Tv) := by
  refine ⟨fh, r.f0.trans sf, fun a h1 h2 => ?_, h0, fun a h1 => r.dm a (dm a h1), r.len, vs, B ++ A2, ?_, l, nd, ok, lk⟩
  · by_cases e : F a = none
    · exact fn a h1 e
    · exact r.fn a e h2
  · rw [List.append_assoc, List.append_assoc]
    exact p.append (Rps.mono sf _ q k)

/-- a new object, frozen -/
theorem R.newF {o : HO} {p : Addr} (hp : H p = none) (r : R S φ F H σ env Td Tv) : R S φ (upd F p o) (upd H p o) σ env Td Tv := by
  obtain ⟨vs, A, q, l, nd, ok, lk⟩ := r.cl
  have fp : F p = none := r.fh.free hp
  have ad := Rps.adr _ q
  have nA : p ∉ A := fun h => by
    obtain ⟨⟨o, e⟩, _⟩ := ad p h
    rw [hp] at e; cases e
  have sf : Same F (upd F p o) := fun b u e => by rw [upd_ne (ne_of_none e fp)]; exact e
  have sh : Same H (upd H p o) := fun b u e => by rw [upd_ne (ne_of_none e hp)]; exact e
  refine R.turn (Ud := []) (Uv := []) (Ud' := []) (Uv' := []) (B := []) r q l lk sf ?_ ?_ ?_ ?_ ?_ .nil (by simpa using nd) (by simpa using ok)
  · intro b u e
    by_cases hb : b = p
    · subst hb; rw [upd_same] at e ⊢; exact e
    · rw [upd_ne hb] at e ⊢; exact r.fh _ _ e
  · intro a ha
    have hne : a ≠ p := fun z => nA (z ▸ ha)
    rw [upd_ne hne, upd_ne hne]
    exact ⟨(ad a ha).2, rfl⟩
  · intro a h1 h2
    by_cases hb : a = p
    · subst hb; exact .inl (r.dm _ hp)
    · rw [upd_ne hb] at h1; exact absurd h2 h1
  · intro a u e n
    exact sh _ _ (r.h0 a u e n)
  · intro a e
    by_cases hb : a = p
    · subst hb; exact hp
    · rw [upd_ne hb] at e; exact e

/-- the heap's frozen part grows by owned objects: the value in front is frozen -/
theorem R.freeze (r : R S φ F H σ env (d :: Td) (v :: Tv)) : ∃ F', R S φ F' H σ env (d.frz :: Td) (v :: Tv) := by
  obtain ⟨vs, A1, A2, p, q, l, nd, ok, lk⟩ := r.open1
  have ad1 := Rp.adr _ p
  have ad2 := Rps.adr _ q
  have sf : Same F (fun a => if a ∈ A1 then H a else F a) := fun b u e => by
    have : b ∉ A1 := fun h => by rw [(ad1 b h).2] at e; cases e
    simp only [this, if_false]; exact e
  have dj : ∀ a ∈ A2, a ∉ A1 := fun a h2 h1 => (List.nodup_append.mp nd).2.2 a h1 a h2 rfl
  refine ⟨fun a => if a ∈ A1 then H a else F a, ?_⟩
  refine R.turn (Ud := [d]) (Uv := [v]) (Ud' := [d.frz]) (Uv' := [v]) (B := []) r q l lk sf ?_ ?_ ?_ r.h0 (fun _ h => h) ?_ (by simpa using (List.nodup_append.mp nd).2.1) (fun a ha => ok a (by simp at ha; simp [ha]))
  · intro b u e
    by_cases hb : b ∈ A1
    · simp only [hb, if_true] at e; exact e
    · simp only [hb, if_false] at e; exact r.fh _ _ e
  · intro a ha
    exact ⟨by simp only [dj a ha, if_false]; exact (ad2 a ha).2, rfl⟩
  · intro a h1 h2
    by_cases hb : a ∈ A1
    · rcases ok a (by simp [hb]) with h | h
      · exact .inr h
      · exact .inl h
    · simp only [hb, if_false] at h1; exact absurd h2 h1
  · have := Rp.frz (H' := H) sf d p (fun a ha => by simp only [ha, if_true])
    simpa using Rps.cons this Rps.nil

/-- a slot is read: what it holds goes in front, a hole stays -/
theorem R.take {i : Nat} (r : R S φ F H σ env Td Tv) (e : env[i]? = some d) (hd : d ≠ .hole) : ∃ v, σ[i]? = some (some v) ∧ R S φ F H σ (env.set i .hole) (d :: Td) (v :: Tv) := by
  obtain ⟨vs, A, q, l, nd, ok, lk⟩ := r.cl
  obtain ⟨us, ws, B, C, e1, rfl, q1, q2⟩ := q.split
  have hl := q1.length
  have tl := r.tlen
  obtain ⟨rfl, rfl⟩ := List.append_inj e1 (by omega)
  obtain ⟨v, Ai, Ar, hv, p, pm, kk⟩ := q2.focus e
  have ad := Rps.adr _ q2
  have hs := lk i d v e hd hv
  obtain ⟨C', q3, pC⟩ := kk (F' := F) (H' := H) (d' := .hole) (v' := v) (B := []) (by rw [Rp]) (Same.refl F) fun a ha => ⟨(ad a (pm.mem_iff.mpr (by simp [ha]))).2, rfl⟩
  have hset : vs.set i v = vs := by
    apply List.ext_getElem? ; intro j
    rw [List.getElem?_set]
    by_cases h : i = j
    · subst h
      obtain ⟨h1, h2⟩ := List.getElem?_eq_some_iff.mp hv
      simp [h1, h2]
    · simp [h]
  rw [hset] at q3
  have pm2 : (Ai ++ (B ++ C')).Perm (B ++ C) := by
    have h1 : C'.Perm Ar := by simpa using pC
    have h2 : (B ++ C).Perm (B ++ (Ai ++ Ar)) := List.Perm.append_left B pm
    refine List.Perm.trans ?_ h2.symm
    refine (List.Perm.append_left Ai (List.Perm.append_left B h1)).trans ?_
    rw [← List.append_assoc, ← List.append_assoc]
    exact List.Perm.append_right Ar List.perm_append_comm
  refine ⟨v, hs, r.fh, r.f0, r.fn, r.h0, r.dm, by rw [List.length_set]; exact r.len, vs, Ai ++ (B ++ C'), ?_, by rw [List.length_set]; exact l, pm2.nodup_iff.mpr nd, fun a ha => ok a (pm2.mem_iff.mp ha), ?_⟩
  · rw [List.cons_append, List.cons_append]
    exact .cons p (q1.append q3)
  · intro j d2 v2 h1 h2 h3
    rw [List.getElem?_set] at h1
    by_cases h : i = j
    · subst h
      have : i < env.length := (List.getElem?_eq_some_iff.mp e).1
      simp [this] at h1
      exact absurd h1.symm h2
    · simp only [h, if_false] at h1
      exact lk j d2 v2 h1 h2 h3
/-- the value in front goes into a slot -/
theorem R.put {i : Nat} (r : R S φ F H σ env (d :: Td) (v :: Tv)) (hi : i < env.length) : R S φ F H (σ.set i (some v)) (env.set i d) Td Tv := by
  obtain ⟨vs, A1, A2, p, q, l, nd, ok, lk⟩ := r.open1
  obtain ⟨us, ws, B, C, e1, rfl, q1, q2⟩ := q.split
  have hl := q1.length
  have tl := r.pop.tlen
  obtain ⟨rfl, rfl⟩ := List.append_inj e1 (by omega)
  obtain ⟨x, hx⟩ : ∃ x, env[i]? = some x := ⟨env[i], by simp [hi]⟩
  obtain ⟨v0, Ai, Ar, hv, p0, pm, kk⟩ := q2.focus hx
  have ad := Rps.adr _ q2
  obtain ⟨C', q3, pC⟩ := kk (F' := F) (H' := H) p (Same.refl F) fun a ha => ⟨(ad a (pm.mem_iff.mpr (by simp [ha]))).2, rfl⟩
  -- A1 ++ (B ++ C) without Ai
  have pm2 : (Ai ++ (B ++ C')).Perm (A1 ++ (B ++ C)) := by
    have h1 : (Ai ++ (B ++ C')).Perm (Ai ++ (B ++ (A1 ++ Ar))) := List.Perm.append_left _ (List.Perm.append_left _ pC)
    have h2 : (A1 ++ (B ++ C)).Perm (A1 ++ (B ++ (Ai ++ Ar))) := List.Perm.append_left _ (List.Perm.append_left _ pm)
    refine h1.trans (List.Perm.trans ?_ h2.symm)
    have h3 : ∀ (X Y Z W : List Addr), (X ++ (Y ++ (Z ++ W))).Perm (Z ++ (Y ++ (X ++ W))) := fun X Y Z W => by
      rw [List.perm_iff_count]; intro a; simp only [List.count_append]; omega
    exact h3 Ai B A1 Ar
  have nd2 : (Ai ++ (B ++ C')).Nodup := pm2.nodup_iff.mpr nd
  refine ⟨r.fh, r.f0, r.fn, r.h0, r.dm, by simp [r.len], vs.set i v, B ++ C', q1.append q3, by simp [l], (List.nodup_append.mp nd2).2.1, fun a ha => ok a (pm2.mem_iff.mp (by simp at ha; simp [ha])), ?_⟩
  intro j d2 v2 h1 h2 h3
  rw [List.getElem?_set] at h1 h3 ⊢
  by_cases h : i = j
  · subst h
    have hv2 : i < vs.length := by omega
    have hs2 : i < σ.length := by have := r.len; omega
    simp [hi] at h1
    simp [hv2] at h3
    simp [hs2, h3]
  · simp only [h, if_false] at h1 h3 ⊢
    exact lk j d2 v2 h1 h2 h3
/-- .. back into the slot it came from: the slots as they are -/
theorem R.back {i : Nat} (r : R S φ F H σ env (d :: Td) (v :: Tv)) (hs : σ[i]? = some (some v)) : R S φ F H σ (env.set i d) Td Tv := by
  have hi : i < env.length := by rw [← r.len]; exact (List.getElem?_eq_some_iff.mp hs).1
  have := r.put hi
  have e : σ.set i (some v) = σ := by
    apply List.ext_getElem? ; intro j
    rw [List.getElem?_set]
    by_cases h : i = j
    · subst h
      obtain ⟨h1, h2⟩ := List.getElem?_eq_some_iff.mp hs
      simp [h1, h2]
    · simp [h]
  rw [e] at this
  exact this
/-- a copy of a frozen value in front -/
theorem R.dup (r : R S φ F H σ env (d :: Td) (v :: Tv)) (hd : d.own = false) : R S φ F H σ env (d :: d :: Td) (v :: v :: Tv) := by
  obtain ⟨A, p⟩ := r.top
  have := p.nown hd
  subst this
  exact r.push p
/-- the order of the pending values -/
theorem R.swap {d2 : D} {v2 : V} (r : R S φ F H σ env (d :: d2 :: Td) (v :: v2 :: Tv)) : R S φ F H σ env (d2 :: d :: Td) (v2 :: v :: Tv) := by
  obtain ⟨vs, A, q, l, nd, ok, lk⟩ := r.cl
  rw [List.cons_append, Rps] at q
  obtain ⟨u, ws, A1, A2, e1, rfl, p, t⟩ := q
  simp only [List.cons_append, List.cons.injEq] at e1
  obtain ⟨rfl, rfl⟩ := e1
  rw [List.cons_append, Rps] at t
  obtain ⟨u2, ws2, A3, A4, e2, rfl, p2, t2⟩ := t
  simp only [List.cons.injEq] at e2
  obtain ⟨rfl, rfl⟩ := e2
  have pm : (A3 ++ (A1 ++ A4)).Perm (A1 ++ (A3 ++ A4)) := by rw [List.perm_iff_count]; intro a; simp only [List.count_append]; omega
  exact ⟨r.fh, r.f0, r.fn, r.h0, r.dm, r.len, vs, A3 ++ (A1 ++ A4), .cons p2 (.cons p t2), l, pm.nodup_iff.mpr nd, fun a ha => ok a (pm.mem_iff.mp ha), lk⟩
end
end VS

/-! ## Sem -/
set_option maxRecDepth 100000
set_option maxHeartbeats 1000000
namespace VS
open PySem PySem.Spec PyProof.Rows L2

/-! ### results -/
/-- an exception: its class, its fields -/
structure Exn where
  c : Str
  ns : List Str
  ds : List D

inductive Rs (α : Type) where
  | bad
  | ok (a : α) (e : En)
  | exc (x : Exn) (e : En)

@[simp] def Rs.bind {α β : Type} (r : Rs α) (k : α → En → Rs β) : Rs β := match r with
  | .bad => .bad
  | .ok a e => k a e
  | .exc x e => .exc x e
/-- a value, or none -/
@[simp] def Rs.opt {α : Type} (o : Option α) (e : En) : Rs α := match o with
  | some a => .ok a e
  | none => .bad

inductive Fl where
  | nx | brk | cnt
  | ret (d : D)

/-- a def's answer: the value, then what its in-out parameters hold -/
inductive Out where
  | bad
  | ok (d : D) (outs : List D)
  | exc (x : Exn) (outs : List D)

/-- where a def stands -/
inductive Wh where
  | top                        -- a def of the module
  | meth (c : Str)             -- a method
  | init (c : Str)             -- an __init__ of a class of values
  | static (c : Str)           -- a static method
  | cls (c : Str)              -- a class method
structure Fn where
  wh : Wh
  name : Str
  ps : List Str
  io : List Bool
  df : List D                  -- the defaults of the last parameters
  kws : List (List Str) := []  -- the orders of keywords it is called with
  sem : List D → Out

/-! ### operations -/
abbrev lim : Nat := 16777216

def isScal : D → Bool
  | .non => true | .bl _ => true | .int _ => true | .str _ => true
  | _ => false
def b2n (b : Bool) : Int := if b then 1 else 0
/-- == of scalars -/
def seq : D → D → Bool
  | .non, .non => true
  | .bl a, .bl b => a == b
  | .bl a, .int j => b2n a == j
  | .int i, .bl b => i == b2n b
  | .int i, .int j => i == j
  | .str x, .str y => x == y
  | _, _ => false
def strOkB (x : Str) : Bool := PyData.strOk x
def deqL (f : D → D → Option Bool) : List D → List D → Option Bool
  | [], [] => some true
  | x :: xs, y :: ys => (f x y).bind fun b => if b then deqL f xs ys else some false
  | _, _ => some false
/-- nothing but scalars, lists, tuples; not too deep -/
def shal : Nat → D → Bool
  | _, .non => true
  | _, .bl _ => true
  | _, .int _ => true
  | _, .str x => strOkB x
  | n + 1, .lst _ xs => xs.all (shal n)
  | n + 1, .tup _ xs => xs.all (shal n)
  | _, _ => false
/-- == of data -/
def deqN : Nat → D → D → Bool
  | n + 1, .lst _ xs, .lst _ ys => go n xs ys
  | n + 1, .tup _ xs, .tup _ ys => go n xs ys
  | _, a, b => seq a b
where go (n : Nat) : List D → List D → Bool
  | [], [] => true
  | x :: xs, y :: ys => deqN n x y && go n xs ys
  | _, _ => false
def deq (a b : D) : Option Bool :=
  if isScal a && isScal b then some (seq a b) else if shal 60 a && shal 60 b then some (deqN 60 a b) else none

def idx {α : Type} (xs : List α) (i : Int) : Option Nat :=
  if 0 ≤ i then (if i < xs.length then some i.toNat else none) else if -(xs.length : Int) ≤ i then some (i + xs.length).toNat else none

def isNon : D → Bool
  | .non => true
  | _ => false
def isHole : D → Bool
  | .hole => true
  | _ => false
def cmpD (o : CmpOp) (a b : D) : Option D :=
  match o with
  | .Eq => (deq a b).map D.bl
  | .NotEq => (deq a b).map fun r => D.bl (!r)
  | .Is => match b with
    | .non => if isHole a then none else some (.bl (isNon a))
    | _ => none
  | .IsNot => match b with
    | .non => if isHole a then none else some (.bl (!isNon a))
    | _ => none
  | .In => match b with
    | .lst _ xs => if isScal a && xs.all isScal then some (.bl (xs.any fun x => seq x a)) else none
    | .tup _ xs => if isScal a && xs.all isScal then some (.bl (xs.any fun x => seq x a)) else none
    | _ => none
  | .NotIn => match b with
    | .lst _ xs => if isScal a && xs.all isScal then some (.bl (!xs.any fun x => seq x a)) else none
    | .tup _ xs => if isScal a && xs.all isScal then some (.bl (!xs.any fun x => seq x a)) else none
    | _ => none
  | .Lt => match a, b with | .int i, .int j => some (.bl (decide (i < j))) | _, _ => none
  | .LtE => match a, b with | .int i, .int j => some (.bl (decide (i ≤ j))) | _, _ => none
  | .Gt => match a, b with | .int i, .int j => some (.bl (decide (j < i))) | _, _ => none
  | .GtE => match a, b with | .int i, .int j => some (.bl (decide (j ≤ i))) | _, _ => none

def binD (o : Operator) (a b : D) : Option D :=
  match o, a, b with
  | .Add, .int i, .int j => some (.int (i + j))
  | .Add, .str x, .str y => if x.length + y.length ≤ lim then some (.str (x ++ y)) else none
  | .Add, .lst false xs, .lst false ys => if xs.length + ys.length ≤ lim then some (.lst true (xs ++ ys)) else none
  | .Sub, .int i, .int j => some (.int (i - j))
  | .Mult, .int i, .int j => if i.natAbs < 2 ^ 63 ∨ j.natAbs < 2 ^ 63 ∨ i.natAbs.log2 + j.natAbs.log2 < 1000000 then some (.int (i * j)) else none
  | .Mult, .lst false xs, .int j => if -(2 ^ 63) ≤ j ∧ j < 2 ^ 63 ∧ xs.length * j.toNat ≤ lim then some (.lst true ((List.replicate j.toNat xs).flatten)) else none
  | .FloorDiv, .int i, .int j => if 0 < j ∧ j.natAbs.log2 < 9000 then some (.int (i / j)) else none
  | .Mod, .int i, .int j => if 0 < j then some (.int (i % j)) else none
  | .Pow, .int i, .int j => if 0 ≤ j ∧ j ≤ 1000000 ∧ i.natAbs < 2 ^ 64 then some (.int (i ^ j.toNat)) else none
  | .LShift, .int i, .int j => if 0 ≤ j ∧ j ≤ 1000000 ∧ i.natAbs < 2 ^ 64 then some (.int (i * 2 ^ j.toNat)) else none
  | .RShift, .int i, .int j => if 0 ≤ j then some (.int (i / 2 ^ j.toNat)) else none
  | .BitAnd, .int i, .int j => some (.int (Builtin.bitAnd i j))
  | .BitOr, .int i, .int j => some (.int (Builtin.bitOr i j))
  | .BitXor, .int i, .int j => some (.int (Builtin.bitXor i j))
  | _, _, _ => none

/-- truth -/
def truD : D → Option Bool
  | .non => some false
  | .bl b => some b
  | .int i => some (i != 0)
  | .lst _ xs => some (!xs.isEmpty)
  | .tup _ xs => some (!xs.isEmpty)
  | _ => none

/-- a[i], a frozen -/
def subD : D → D → Option D
  | .lst false xs, .int i => (idx xs i).bind fun k => xs[k]?
  | .tup false xs, .int i => (idx xs i).bind fun k => xs[k]?
  | .str x, .int i => if x.length ≤ lim then (idx x.cps.toList i).bind fun k => (x.cps.toList[k]?).map fun c => .str ⟨#[c]⟩ else none
  | _, _ => none

/-! ### builtins -/
inductive Bi where
  | len | abs | sum | all | any | max1 | max2 | min2 | int | str | tuple | list | sorted
  deriving DecidableEq
def Bi.nm : Bi → Str
  | .len => "len" | .abs => "abs" | .sum => "sum" | .all => "all" | .any => "any" | .max1 => "max" | .max2 => "max" | .min2 => "min"
  | .int => "int" | .str => "str" | .tuple => "tuple" | .list => "list" | .sorted => "sorted"
def intsOf : List D → Option (List Int)
  | [] => some []
  | .int i :: r => (intsOf r).map (i :: ·)
  | _ => none
def blsOf : List D → Option (List Bool)
  | [] => some []
  | .bl i :: r => (blsOf r).map (i :: ·)
  | _ => none
def maxL : List Int → Option Int
  | [] => none
  | x :: xs => some (xs.foldl (fun a b => if b > a then b else a) x)
def nowns (xs : List D) : Bool := xs.all fun d => !d.own
mutual
def pyOf : D → PyData
  | .bl b => .bool b
  | .int i => .int i
  | .str x => .str x
  | .lst _ xs => .list (pyOfs xs)
  | .tup _ xs => .tuple (pyOfs xs)
  | .non => .none
  | .hole => .none
  | .scr _ => .none
  | .ins _ _ _ _ => .none
def pyOfs : List D → List PyData
  | [] => []
  | d :: ds => pyOf d :: pyOfs ds
end
def alikeB (xs : List D) : Bool := xs.all fun x => xs.all fun y => PySem.W.alike (pyOf x) (pyOf y)
def tup1 : D → Bool
  | .tup _ (_ :: _) => true
  | _ => false
def atom : D → Bool
  | .int _ => true
  | .str _ => true
  | _ => false
/-- sorting, by fuel -/
def mrgF {α : Type} (le : α → α → Bool) : Nat → List α → List α → List α
  | _, [], ys => ys
  | _, x :: xs, [] => x :: xs
  | n + 1, x :: xs, y :: ys => if le x y then x :: mrgF le n xs (y :: ys) else y :: mrgF le n (x :: xs) ys
  | 0, _ :: _, _ :: _ => []
def srtF {α : Type} (le : α → α → Bool) : Nat → List α → List α
  | _, [] => []
  | _, [a] => [a]
  | n + 1, a :: b :: xs => mrgF le (xs.length + 2) (srtF le n ((a :: b :: xs).take ((xs.length + 2 + 1) / 2))) (srtF le n ((a :: b :: xs).drop ((xs.length + 2 + 1) / 2)))
  | 0, _ :: _ :: _ => []
theorem mrgF_eq {α : Type} (le : α → α → Bool) : ∀ (n : Nat) (xs ys : List α), xs.length + ys.length ≤ n → mrgF le n xs ys = List.merge xs ys le
  | 0, [], ys, _ => by simp [mrgF]
  | _ + 1, [], ys, _ => by simp [mrgF]
  | 0, x :: xs, [], _ => by simp [mrgF]
  | _ + 1, x :: xs, [], _ => by simp [mrgF]
  | n + 1, x :: xs, y :: ys, h => by
    simp only [List.length_cons] at h
    rw [mrgF, List.cons_merge_cons, mrgF_eq le n xs (y :: ys) (by simp; omega), mrgF_eq le n (x :: xs) ys (by simp; omega)]
  | 0, x :: xs, y :: ys, h => by simp at h
theorem srtF_eq {α : Type} (le : α → α → Bool) : ∀ (n : Nat) (xs : List α), xs.length ≤ n → srtF le n xs = xs.mergeSort le
  | 0, [], _ => by simp [srtF]
  | _ + 1, [], _ => by simp [srtF]
  | 0, [a], _ => by simp [srtF]
  | _ + 1, [a], _ => by simp [srtF]
  | 0, _ :: _ :: _, h => by simp at h
  | n + 1, a :: b :: xs, h => by
    simp only [List.length_cons] at h
    have e : ∀ {l : List α}, (a :: b :: xs).take ((xs.length + 2 + 1) / 2) = l → l.length ≤ n := fun e => by subst e; simp; omega
    rw [srtF, srtF_eq le n _ (by simp; omega), srtF_eq le n _ (by simp; omega), mrgF_eq le _ _ _ (by simp; omega), List.mergeSort]
    simp [List.MergeSort.Internal.splitInTwo, List.splitAt_eq]
/-- a builtin of values that are only read -/
def biD : Bi → List D → Option D
  | .len, [.lst _ xs] => some (.int xs.length)
  | .len, [.tup _ xs] => some (.int xs.length)
  | .len, [.str x] => if x.length ≤ lim then some (.int x.length) else none
  | .abs, [.int i] => some (.int (if i < 0 then -i else i))
  | .sum, [.lst _ xs] => (intsOf xs).map fun l => .int l.sum
  | .all, [.lst _ xs] => (blsOf xs).map fun l => .bl (l.all id)
  | .any, [.lst _ xs] => (blsOf xs).map fun l => .bl (l.any id)
  | .max1, [.lst _ xs] => (intsOf xs).bind fun l => (maxL l).map .int
  | .max2, [.int i, .int j] => some (.int (if j > i then j else i))
  | .min2, [.int i, .int j] => some (.int (if j < i then j else i))
  | .int, [.int i] => some (.int i)
  | .str, [.int i] => if i.natAbs.log2 < 1920 then some (.str (toString i)) else none
  | .tuple, [.lst _ xs] => if nowns xs then some (.tup false xs) else none
  | .tuple, [.tup false xs] => some (.tup false xs)
  | .list, [.lst _ xs] => if nowns xs then some (.lst true xs) else none
  | .list, [.tup false xs] => some (.lst true xs)
  | .list, [.scr ns] => some (.lst true (ns.map .int))
  | .sorted, [.lst _ xs] => if nowns xs && xs.all (shal 58) && alikeB xs && (xs.all tup1 || xs.all atom) then some (.lst true (srtF (PySem.W.dataLe false pyOf) xs.length xs)) else none
  | _, _ => none

/-! ### types -/
inductive Ty where
  | bool | int | str | list | tuple
  deriving DecidableEq, Repr
def Ty.nm : Ty → String
  | .bool => "bool" | .int => "int" | .str => "str" | .list => "list" | .tuple => "tuple"
inductive Ct where
  | ty (t : Ty)
  | non
  | own (c : Str)
  deriving DecidableEq
def ctD : D → Option Ct
  | .non => some .non
  | .bl _ => some (.ty .bool)
  | .int _ => some (.ty .int)
  | .str _ => some (.ty .str)
  | .lst _ _ => some (.ty .list)
  | .tup _ _ => some (.ty .tuple)
  | .ins _ c _ _ => some (.own c)
  | _ => none
abbrev KT := List (Ct × Ct × Bool)
def isC (tab : KT) : Ct → Ct → Option Bool
  | .ty a, .ty b => some (a == b || (a == .bool && b == .int))
  | a, b => (tab.find? fun p => p.1 == a && p.2.1 == b).map (·.2.2)
def isCs (tab : KT) (t : Ct) : List Ct → Option Bool
  | [] => some false
  | c :: cs => (isC tab t c).bind fun b => if b then some true else isCs tab t cs
def isD (tab : KT) (d : D) (cs : List Ct) : Option D := (ctD d).bind fun t => (isCs tab t cs).map .bl
def gcdD : D → D → Option D
  | .int i, .int j => some (.int ((Nat.gcd i.natAbs j.natAbs : Nat) : Int))
  | _, _ => none
def blnD : D → Option D
  | .int i => some (.int (Builtin.Int.intBits i : Nat))
  | _ => none

/-! ### the text -/
inductive Tg where
  | nm (i : Nat)
  | tp (l : List Tg)
  deriving Inhabited

mutual
inductive E where
  | var (i : Nat)
  | glo (x : Str) (d : D)
  | int (i : Int)
  | bl (b : Bool)
  | non
  | str (s : Str)
  | bin (o : Operator) (a b : E)
  | neg (a : E)
  | nt (a : E)
  | an (a b : E)
  | or (a b : E)
  | cmp (o : CmpOp) (a b : E)
  | chn (o p : CmpOp) (a b c : E)
  | ite (c a b : E)
  | tup (es : Es)
  | lst (es : Es)
  | sub (a i : E)
  | subv (x : Nat) (i : E)
  | att (a : E) (f : Str)
  | attv (x : Nat) (f : Str)
  | call (fn : Fn) (es : As)
  | bi (b : Bi) (es : Es)
  | biv (b : Bi) (x : Nat)
  | lc (elt : E) (g : Tg) (src : Sr) (ifs : Es) (own : List Nat)
  | tv (a : E)                  -- a value as a test
  | mk (fn : Fn) (es : As)      -- C(..)
  | callk (fn : Fn) (ks : List Str) (es : Es)   -- f(k = ..)
  | met (fn : Fn) (a : E) (es : As)   -- a.m(..)
  | isi (tab : KT) (a : E) (cs : List Ct) (one : Bool)   -- isinstance
  | gcd (a b : E)
  | bln (a : E)                 -- a.bit_length()
inductive Es where
  | nil
  | cons (e : E) (es : Es)
/-- arguments: a value, or a slot that is lent -/
inductive As where
  | nil
  | cons (e : E) (es : As)
  | lend (i : Nat) (es : As)
/-- what is walked -/
inductive Sr where
  | seq (e : E)
  | rng1 (e : E)
  | rng2 (a b : E)
  | enm (e : E)
  | zip (a b : E)
  | rev (e : E)
end

inductive S where
  | asg (i : Nat) (e : E)
  | unp (g : Tg) (e : E)
  | setv (x : Nat) (i : E) (e : E)
  | app (x : Nat) (e : E)
  | aug (i : Nat) (o : Operator) (e : E)
  | exp (e : E)
  | ret (e : E)
  | retN
  | ite (c : E) (a b : List S)
  | fr (g : Tg) (src : Sr) (b : List S)
  | whl (n : Nat) (c : E) (b : List S)
  | brk | cnt | pas
  | par (i j : Nat) (a b : E)
  | appi (x : Nat) (i : E) (v : Nat)    -- x[i].append(v), v a slot
  | stf (x : Nat) (c f : Str) (e : E)   -- x.f = e, x owned, f new
  | nev                         -- never reached
  | tryN (b : List S)           -- try: nothing is raised
end VS
namespace VS
open PySem PySem.Spec PyProof.Rows L2

/-! ### evaluation -/
/-- a slot is read: what is owned is frozen -/
@[simp] def rdv (i : Nat) (env : En) : Rs D := match env[i]? with
  | none => .bad
  | some .hole => .bad
  | some d => if d.own then .ok d.frz (env.set i d.frz) else .ok d env
/-- a slot is seen -/
@[simp] def peek (i : Nat) (env : En) : Option D := match env[i]? with
  | some .hole => none
  | o => o
mutual
/-- a target takes a value -/
def asgT : Tg → D → En → Option En
  | .nm i, d, env => if i < env.length then some (env.set i d) else none
  | .tp l, d, env => match d with
    | .tup _ xs => asgTs l xs env
    | _ => none
def asgTs : List Tg → List D → En → Option En
  | [], [], env => some env
  | g :: gs, d :: ds, env => (asgT g d env).bind fun e => asgTs gs ds e
  | _, _, _ => none
end
/-- the slots of a comprehension's own names -/
@[simp] def wipeE : En → List Nat → En
  | env, [] => env
  | env, i :: r => (wipeE env r).set i .hole
@[simp] def saved (env : En) : List Nat → List D
  | [] => []
  | i :: r => env.getD i .hole :: saved env r
@[simp] def restore : En → List Nat → List D → En
  | env, i :: r, d :: ds => restore (env.set i d) r ds
  | env, _, _ => env
def lcL (g : D → En → Option En) (ts : En → Rs Bool) (el : En → Rs D) (own : List Nat) : List D → En → List D → Rs (List D)
  | [], env, acc => .ok acc env
  | x :: xs, env, acc => match g x env with
    | none => .bad
    | some e1 => match ts e1 with
      | .ok true e2 => match el e2 with
        | .ok d e3 => if acc.length < lim then lcL g ts el own xs (wipeE e3 own) (acc ++ [d]) else .bad
        | _ => .bad
      | .ok false e2 => lcL g ts el own xs (wipeE e2 own) acc
      | _ => .bad
/-- the items of a frozen value that is walked -/
def itemsD : D → Option (List D)
  | .lst false xs => some xs
  | .tup false xs => some xs
  | .scr ns => some (ns.map .int)
  | .str x => some (x.cps.toList.map fun c => .str ⟨#[c]⟩)
  | _ => none
def enumL : Nat → List D → List D
  | _, [] => []
  | i, x :: xs => .tup false [.int (i : Nat), x] :: enumL (i + 1) xs
def zipL : List D → List D → List D
  | x :: xs, y :: ys => .tup false [x, y] :: zipL xs ys
  | _, _ => []
/-- the items of a frozen list -/
def lstD : D → Option (List D)
  | .lst false xs => some xs
  | _ => none
def range (lo : Int) (n : Nat) : List D := (List.range n).map fun k => .int (lo + (k : Nat))
/-- a field -/
def fldD (f : Str) : D → Option D
  | .ins _ _ ns xs => (ns.zip xs).lookup f
  | _ => none
def fldR (f : Str) (x : D) (env : En) : Rs D := match fldD f x with
  | some y => if y.own then .bad else .ok y env
  | none => .bad
/-- x[i] of a slot: an owned item is frozen on the way -/
def itemV (x : Nat) (k : D) (env : En) : Rs D := match peek x env with
  | some (.lst m xs) => match k with
    | .int i => match idx xs i with
      | some j => match xs[j]? with
        | some d => if d.own then (match m with | true => .ok d.frz (env.set x (.lst true (xs.set j d.frz))) | false => .bad) else .ok d env
        | none => .bad
      | none => .bad
    | _ => .bad
  | some (.tup m xs) => match k with
    | .int i => match idx xs i with
      | some j => match xs[j]? with
        | some d => if d.own then .bad else .ok d env
        | none => .bad
      | none => .bad
    | _ => .bad
  | some (.str x) => Rs.opt (subD (.str x) k) env
  | _ => .bad
def putBack : List (Option Nat) → List D → En → Option En
  | [], [], env => some env
  | some i :: r, d :: ds, env => putBack r ds (env.set i d)
  | none :: r, ds, env => putBack r ds env
  | _, _, _ => none
def As.lends : As → List (Option Nat)
  | .nil => []
  | .cons _ es => none :: es.lends
  | .lend i es => some i :: es.lends
/-- a call: which parameters are given back -/
def callFn (fn : Fn) (ds : List D) (lends : List (Option Nat)) (env : En) : Rs D :=
  match fn.sem (ds ++ fn.df.drop (fn.df.length + ds.length - fn.ps.length)) with
  | .bad => .bad
  | .ok d outs => match putBack lends outs env with
    | some e => .ok d e
    | none => .bad
  | .exc x outs => match putBack lends outs env with
    | some e => .exc x e
    | none => .bad

/-- by the names of the keywords, in the parameters' order -/
def permK {α : Type} (ps ks : List Str) (vs : List α) : List α := ps.filterMap fun p => (ks.zip vs).lookup p
def mkFn (fn : Fn) (ds : List D) (lends : List (Option Nat)) (env : En) : Rs D := match fn.wh with
  | .init c => match fn.sem (.ins true c [] [] :: ds ++ fn.df.drop (fn.df.length + (ds.length + 1) - fn.ps.length)) with
    | .ok .non (x :: outs) => match putBack lends outs env with
      | some e => .ok x e
      | none => .bad
    | .exc x (_ :: outs) => match putBack lends outs env with
      | some e => .exc x e
      | none => .bad
    | _ => .bad
  | _ => .bad
def metOk (fn : Fn) (x : D) : Bool := match fn.wh with
  | .meth c => match x with
    | .ins false c' ns _ => c == c' && !ns.contains fn.name
    | _ => false
  | _ => false
mutual
def ev : E → En → Rs D
  | .var i, env => rdv i env
  | .glo _ d, env => .ok d env
  | .int i, env => .ok (.int i) env
  | .bl b, env => .ok (.bl b) env
  | .non, env => .ok .non env
  | .str s, env => .ok (.str s) env
  | .bin o a b, env => (ev a env).bind fun x e1 => (ev b e1).bind fun y e2 => Rs.opt (binD o x.frz y.frz) e2
  | .neg a, env => (ev a env).bind fun x e1 => match x with
    | .int i => .ok (.int (-i)) e1
    | _ => .bad
  | .nt a, env => (ev a env).bind fun x e1 => match x with
    | .bl b => .ok (.bl (!b)) e1
    | _ => .bad
  | .tv _, _ => .bad
  | .an a b, env => (ev a env).bind fun x e1 => match x with
    | .bl true => ev b e1
    | .bl false => .ok (.bl false) e1
    | _ => .bad
  | .or a b, env => (ev a env).bind fun x e1 => match x with
    | .bl false => ev b e1
    | .bl true => .ok (.bl true) e1
    | _ => .bad
  | .cmp o a b, env => (ev a env).bind fun x e1 => (ev b e1).bind fun y e2 => Rs.opt (cmpD o x.frz y.frz) e2
  | .chn o p a b c, env => (ev a env).bind fun x e1 => (ev b e1).bind fun y e2 => match cmpD o x.frz y.frz with
    | some (.bl true) => (ev c e2).bind fun z e3 => Rs.opt (cmpD p y.frz z.frz) e3
    | some (.bl false) => .ok (.bl false) e2
    | _ => .bad
  | .ite c a b, env => (tst c env).bind fun t e1 => if t then ev a e1 else ev b e1
  | .tup es, env => (evs es env).bind fun ds e1 => if ds.length ≤ lim then .ok (.tup (ds.any D.own) ds) e1 else .bad
  | .lst es, env => (evs es env).bind fun ds e1 => if ds.length ≤ lim then .ok (.lst true ds) e1 else .bad
  | .sub a i, env => (ev a env).bind fun x e1 => (ev i e1).bind fun k e2 => Rs.opt (subD x.frz k) e2
  | .subv x i, env => match peek x env with
    | none => .bad
    | some _ => (ev i env).bind fun k e1 => itemV x k e1
  | .att a f, env => (ev a env).bind fun x e1 => fldR f x.frz e1
  | .attv x f, env => match peek x env with
    | some d => fldR f d env
    | none => .bad
  | .call fn es, env => (eva es env).bind fun ds e1 => callFn fn ds es.lends e1
  | .bi b es, env => (evs es env).bind fun ds e1 => Rs.opt (biD b (D.frzs ds)) e1
  | .biv b x, env => match peek x env with
    | some d => Rs.opt (biD b [d]) env
    | none => .bad
  | .lc elt g src ifs own, env => (evr src env).bind fun xs e1 =>
      (lcL (asgT g) (tsts ifs) (ev elt) own xs (wipeE e1 own) []).bind fun ds e2 => .ok (.lst true ds) (restore e2 own (saved e1 own))
  | .callk fn ks es, env => (evs es env).bind fun ds e1 => if ds.length = ks.length then (match fn.sem (permK fn.ps ks (D.frzs ds)) with
    | .bad => .bad
    | .ok d _ => .ok d e1
    | .exc x _ => .exc x e1) else .bad
  | .mk fn es, env => (eva es env).bind fun ds e1 => mkFn fn ds es.lends e1
  | .met fn a es, env => (ev a env).bind fun x e1 => if metOk fn x.frz then (eva es e1).bind fun ds e2 => callFn fn (x.frz :: ds) (none :: es.lends) e2 else .bad
  | .isi tab a cs _, env => (ev a env).bind fun x e1 => Rs.opt (isD tab x cs) e1
  | .gcd a b, env => (ev a env).bind fun x e1 => (ev b e1).bind fun y e2 => Rs.opt (gcdD x y) e2
  | .bln a, env => (ev a env).bind fun x e1 => Rs.opt (blnD x) e1
def evs : Es → En → Rs (List D)
  | .nil, env => .ok [] env
  | .cons e es, env => (ev e env).bind fun d e1 => (evs es e1).bind fun ds e2 => .ok (d :: ds) e2
def eva : As → En → Rs (List D)
  | .nil, env => .ok [] env
  | .cons e es, env => (ev e env).bind fun d e1 => (eva es e1).bind fun ds e2 => .ok (d.frz :: ds) e2
  | .lend i es, env => match peek i env with
    | some _ => (eva es env).bind fun ds e2 => match peek i e2 with
      | some d => .ok (d :: ds) (e2.set i .hole)
      | none => .bad
    | none => .bad
def evr : Sr → En → Rs (List D)
  | .seq e, env => (ev e env).bind fun d e1 => Rs.opt (itemsD d.frz) e1
  | .rng1 e, env => (ev e env).bind fun d e1 => match d with
    | .int j => if -(2 ^ 62) ≤ j ∧ j < 2 ^ 62 then .ok (range 0 j.toNat) e1 else .bad
    | _ => .bad
  | .rng2 a b, env => (ev a env).bind fun c e1 => (ev b e1).bind fun d e2 => match c, d with
    | .int i, .int j => if -(2 ^ 62) ≤ i ∧ i < 2 ^ 62 ∧ -(2 ^ 62) ≤ j ∧ j < 2 ^ 62 then .ok (range i (j - i).toNat) e2 else .bad
    | _, _ => .bad
  | .enm e, env => (ev e env).bind fun d e1 => Rs.opt ((lstD d.frz).map (enumL 0)) e1
  | .zip a b, env => (ev a env).bind fun c e1 => (ev b e1).bind fun d e2 => Rs.opt ((lstD c.frz).bind fun xs => (lstD d.frz).map fun ys => zipL xs ys) e2
  | .rev e, env => (ev e env).bind fun d e1 => Rs.opt ((lstD d.frz).map List.reverse) e1
def tst : E → En → Rs Bool
  | .an a b, env => (tst a env).bind fun x e1 => if x then tst b e1 else .ok false e1
  | .or a b, env => (tst a env).bind fun x e1 => if x then .ok true e1 else tst b e1
  | .nt a, env => (tst a env).bind fun x e1 => .ok (!x) e1
  | .cmp o a b, env => (ev a env).bind fun x e1 => (ev b e1).bind fun y e2 => match cmpD o x.frz y.frz with
    | some (.bl t) => .ok t e2
    | _ => .bad
  | .chn o p a b c, env => (ev a env).bind fun x e1 => (ev b e1).bind fun y e2 => match cmpD o x.frz y.frz with
    | some (.bl true) => (ev c e2).bind fun z e3 => match cmpD p y.frz z.frz with
      | some (.bl t) => .ok t e3
      | _ => .bad
    | some (.bl false) => .ok false e2
    | _ => .bad
  | .tv a, env => (ev a env).bind fun x e1 => Rs.opt (truD x) e1
  | _, _ => .bad
def tsts : Es → En → Rs Bool
  | .nil, env => .ok true env
  | .cons c .nil, env => tst c env
  | _, _ => .bad
end

def whL (c : En → Rs Bool) (b : En → Rs Fl) : Nat → En → Rs Fl
  | 0, _ => .bad
  | n + 1, env => (c env).bind fun t e1 => if t then (b e1).bind fun f e2 => match f with
      | .nx => whL c b n e2
      | .cnt => whL c b n e2
      | .brk => .ok .nx e2
      | .ret d => .ok (.ret d) e2
    else .ok .nx e1
def frL (g : D → En → Option En) (b : En → Rs Fl) : List D → En → Rs Fl
  | [], env => .ok .nx env
  | x :: xs, env => match g x env with
    | none => .bad
    | some e1 => (b e1).bind fun f e2 => match f with
      | .nx => frL g b xs e2
      | .cnt => frL g b xs e2
      | .brk => .ok .nx e2
      | .ret d => .ok (.ret d) e2
def augD (o : Operator) (a b : D) : Option D := match o, a, b with
  | .Add, .int i, .int j => some (.int (i + j))
  | .Sub, .int i, .int j => some (.int (i - j))
  | _, _, _ => none
mutual
def evS : S → En → Rs Fl
  | .asg i e, env => (ev e env).bind fun d e1 => if i < e1.length then .ok .nx (e1.set i d) else .bad
  | .unp g e, env => (ev e env).bind fun d e1 => match asgT g d.frz e1 with
    | some e2 => .ok .nx e2
    | none => .bad
  | .setv x i e, env => (ev e env).bind fun d e1 => match peek x e1 with
    | none => .bad
    | some _ => (ev i e1).bind fun k e2 => match peek x e2, k with
      | some (.lst true xs), .int j => match idx xs j with
        | some n => .ok .nx (e2.set x (.lst true (xs.set n d)))
        | none => .bad
      | _, _ => .bad
  | .app x e, env => match peek x env with
    | some (.lst _ _) => (ev e env).bind fun d e1 => match peek x e1 with
      | some (.lst true xs) => if xs.length < lim then .ok .nx (e1.set x (.lst true (xs ++ [d]))) else .bad
      | _ => .bad
    | _ => .bad
  | .aug i o e, env => match peek i env with
    | some x => (ev e env).bind fun d e1 => match augD o x d with
      | some y => if i < e1.length then .ok .nx (e1.set i y) else .bad
      | none => .bad
    | none => .bad
  | .exp e, env => (ev e env).bind fun _ e1 => .ok .nx e1
  | .ret e, env => (ev e env).bind fun d e1 => .ok (.ret d) e1
  | .retN, env => .ok (.ret .non) env
  | .ite c a b, env => (tst c env).bind fun t e1 => if t then evSs a e1 else evSs b e1
  | .fr g src b, env => (evr src env).bind fun xs e1 => frL (asgT g) (evSs b) xs e1
  | .whl n c b, env => whL (tst c) (evSs b) n env
  | .brk, env => .ok .brk env
  | .cnt, env => .ok .cnt env
  | .pas, env => .ok .nx env
  | .par i j a b, env => (ev a env).bind fun x e1 => (ev b e1).bind fun y e2 => if i < e2.length ∧ j < e2.length then .ok .nx ((e2.set i x).set j y) else .bad
  | .stf x c f e, env => (ev e env).bind fun d e1 => match peek x e1 with
    | some (.ins true c' ns xs) => if c == c' && !ns.contains f && decide (ns.length < 1000) then .ok .nx (e1.set x (.ins true c' (ns ++ [f]) (xs ++ [d]))) else .bad
    | _ => .bad
  | .appi x i v, env => match peek x env with
    | none => .bad
    | some _ => (ev i env).bind fun k e1 => match peek x e1, k with
      | some (.lst true xs), .int j => match idx xs j with
        | some n => match xs[n]? with
          | some (.lst true ys) => if x ≠ v ∧ ys.length < lim then match peek v e1 with
            | some d => .ok .nx ((e1.set v d.frz).set x (.lst true (xs.set n (.lst true (ys ++ [d.frz])))))
            | none => .bad
            else .bad
          | _ => .bad
        | none => .bad
      | _, _ => .bad
  | .nev, _ => .bad
  | .tryN b, env => match evSs b env with
    | .exc _ _ => .bad
    | r => r
def evSs : List S → En → Rs Fl
  | [], env => .ok .nx env
  | s :: ss, env => (evS s env).bind fun f e1 => match f with
    | .nx => evSs ss e1
    | f => .ok f e1
end

/-! ### the defs that a text calls -/
mutual
def E.ok (Φ : Fn → Prop) : E → Prop
  | .bin _ a b => a.ok Φ ∧ b.ok Φ
  | .neg a => a.ok Φ
  | .nt a => a.ok Φ
  | .an a b => a.ok Φ ∧ b.ok Φ
  | .or a b => a.ok Φ ∧ b.ok Φ
  | .cmp _ a b => a.ok Φ ∧ b.ok Φ
  | .chn _ _ a b c => a.ok Φ ∧ b.ok Φ ∧ c.ok Φ
  | .ite c a b => c.ok Φ ∧ a.ok Φ ∧ b.ok Φ
  | .tup es => es.ok Φ
  | .lst es => es.ok Φ
  | .sub a i => a.ok Φ ∧ i.ok Φ
  | .subv _ i => i.ok Φ
  | .att a _ => a.ok Φ
  | .call fn es => Φ fn ∧ es.ok Φ
  | .bi _ es => es.ok Φ
  | .lc e _ src ifs _ => e.ok Φ ∧ src.ok Φ ∧ ifs.ok Φ
  | .tv a => a.ok Φ
  | .mk fn es => Φ fn ∧ es.ok Φ
  | .callk fn _ es => Φ fn ∧ es.ok Φ
  | .met fn a es => Φ fn ∧ a.ok Φ ∧ es.ok Φ
  | .isi _ a _ _ => a.ok Φ
  | .gcd a b => a.ok Φ ∧ b.ok Φ
  | .bln a => a.ok Φ
  | .var _ => True
  | .glo _ _ => True
  | .int _ => True
  | .bl _ => True
  | .non => True
  | .str _ => True
  | .attv _ _ => True
  | .biv _ _ => True
def Es.ok (Φ : Fn → Prop) : Es → Prop
  | .nil => True
  | .cons e es => e.ok Φ ∧ es.ok Φ
def As.ok (Φ : Fn → Prop) : As → Prop
  | .nil => True
  | .cons e es => e.ok Φ ∧ es.ok Φ
  | .lend _ es => es.ok Φ
def Sr.ok (Φ : Fn → Prop) : Sr → Prop
  | .seq e => e.ok Φ
  | .rng1 e => e.ok Φ
  | .rng2 a b => a.ok Φ ∧ b.ok Φ
  | .enm e => e.ok Φ
  | .zip a b => a.ok Φ ∧ b.ok Φ
  | .rev e => e.ok Φ
end
mutual
def S.ok (Φ : Fn → Prop) : S → Prop
  | .asg _ e => e.ok Φ
  | .unp _ e => e.ok Φ
  | .setv _ i e => i.ok Φ ∧ e.ok Φ
  | .app _ e => e.ok Φ
  | .aug _ _ e => e.ok Φ
  | .exp e => e.ok Φ
  | .ret e => e.ok Φ
  | .ite c a b => c.ok Φ ∧ oks Φ a ∧ oks Φ b
  | .fr _ src b => src.ok Φ ∧ oks Φ b
  | .whl _ c b => c.ok Φ ∧ oks Φ b
  | .retN => True
  | .brk => True
  | .cnt => True
  | .pas => True
  | .par _ _ a b => a.ok Φ ∧ b.ok Φ
  | .stf _ _ _ e => e.ok Φ
  | .appi _ i _ => i.ok Φ
  | .nev => True
  | .tryN b => oks Φ b
def oks (Φ : Fn → Prop) : List S → Prop
  | [] => True
  | s :: ss => s.ok Φ ∧ oks Φ ss
end
/-- those that are given back -/
def ioOf {α : Type} : List Bool → List α → List α
  | true :: io, x :: xs => x :: ioOf io xs
  | false :: io, _ :: xs => ioOf io xs
  | _, _ => []
/-- what a def's body computes -/
def runF (n : Nat) (io : List Bool) (body : List VS.S) (ds : List D) : Out := match evSs body (ds ++ List.replicate (n - ds.length) .hole) with
  | .bad => .bad
  | .ok .nx env => .ok .non (ioOf io env)
  | .ok (.ret d) env => .ok d (ioOf io env)
  | .ok _ _ => .bad
  | .exc x env => .exc x (ioOf io env)
end VS

/-! ## Chk -/
set_option maxRecDepth 100000
set_option maxHeartbeats 4000000
namespace VS
open PySem PySem.Spec PyProof.Rows L2

/-! ### is it that text? -/
structure Cc where
  N : List Str
  sc : Scope
  st : Str → Bool
  bl : List Str
  gl : List (Str × D)
  kt : KT                       -- isinstance's answers
  fl : List (Str × Str)         -- (class, field)
  gcd : Bool
  keep : List Nat

def scEq : D → D → Bool
  | .int i, .int j => i == j
  | .str x, .str y => x == y
  | _, _ => false
def okName (x : Str) : Bool := !(x == ("__debug__" : Str)) && !(x == ("__classdict__" : Str)) && !(x == ("__name__" : Str))
def Cc.vis (c : Cc) (x : Str) (i : Nat) : Bool := decide (c.N[i]? = some x) && okName x && (match c.sc.names.lookup x with | some .local => true | some .cell => true | some .free => true | _ => false)
def Cc.sto (c : Cc) (x : Str) (i : Nat) : Bool := decide (c.N[i]? = some x) && okName x && !(c.keep.contains i) && (match c.sc.names.lookup x with | some .local => true | some .cell => c.st x | _ => false)
def Cc.glb (c : Cc) (x : Str) : Bool := okName x && (match c.sc.names.lookup x with | some .globalImplicit => true | _ => false)
def Cc.blt (c : Cc) (x : Str) : Bool := c.glb x && c.bl.contains x
def isStar : Expr → Bool
  | .Starred _ _ => true
  | _ => false
def isSlice : Expr → Bool
  | .Slice _ _ _ _ => true
  | _ => false
def isCall : Expr → Bool
  | .Call (.Name _ _) [] [] _ => true
  | _ => false
def ctOk (c : Cc) : Ct → Expr → Bool
  | .ty t, .Name x _ => x == (t.nm : Str) && c.blt x
  | .own k, .Name x _ => x == k && c.glb x && c.kt.any (fun p => p.2.1 == .own k)
  | _, _ => false
def ctsOk (c : Cc) : List Ct → List Expr → Bool
  | [], [] => true
  | t :: ts, x :: xs => ctOk c t x && ctsOk c ts xs
  | _, _ => false
def isSet : Expr → Bool
  | .Set _ _ _ => true
  | _ => false
/-- its test is its value's truth -/
def plainT : Expr → Bool
  | .UnaryOp .Not _ _ => false
  | .BoolOp _ _ _ => false
  | .IfExp _ _ _ _ => false
  | .Compare _ _ _ _ => false
  | _ => true
def Cc.blk (c : Cc) (scope : Scope) : Cc := { c with sc := relS scope c.sc, st := fun x => scope.names.lookup x == some .cell }

def tupT : Expr → Bool
  | .Tuple _ _ _ => true
  | _ => false
def needT : Sr → Bool
  | .enm _ => true
  | .zip _ _ => true
  | _ => false
mutual
def chkG (c : Cc) : Tg → Expr → Bool
  | .nm i, .Name x _ => c.sto x i
  | .tp l, .Tuple es _ _ => chkGs c l es
  | _, _ => false
def chkGs (c : Cc) : List Tg → List Expr → Bool
  | [], [] => true
  | g :: gs, e :: es => !isStar e && chkG c g e && chkGs c gs es
  | _, _ => false
end
def kwN : List Keyword → List (Option Str)
  | [] => []
  | k :: ks => k.arg :: kwN ks
mutual
def chk (c : Cc) : E → Expr → Bool
  | .var i, .Name x _ => c.vis x i
  | .glo x d, .Name y _ => x == y && c.glb x && c.gl.any fun p => p.1 == x && scEq p.2 d
  | .int i, .Constant (.int j) _ _ => i == j
  | .bl b, .Constant (.bool d) _ _ => b == d
  | .non, .Constant .none _ _ => true
  | .str s, .Constant (.str t) _ _ => s == t
  | .bin o a b, .BinOp l p r _ => o == p && chk c a l && chk c b r
  | .neg a, .UnaryOp .USub x _ => chk c a x
  | .nt a, .UnaryOp .Not x _ => chk c a x
  | .an a b, .BoolOp .And [x, y] _ => chk c a x && chk c b y
  | .an a b, .BoolOp .And (x :: y :: z :: r) p => chk c a x && chk c b (.BoolOp .And (y :: z :: r) p)
  | .or a b, .BoolOp .Or [x, y] _ => chk c a x && chk c b y
  | .or a b, .BoolOp .Or (x :: y :: z :: r) p => chk c a x && chk c b (.BoolOp .Or (y :: z :: r) p)
  | .cmp o a b, .Compare l [p] [r] _ => o == p && !isSet r && chk c a l && chk c b r
  | .chn o p a b d, .Compare l [o', p'] [r, r'] _ => o == o' && p == p' && !isSet r && !isSet r' && chk c a l && chk c b r && chk c d r'
  | .ite t a b, .IfExp u x y _ => chkT c t u && chk c a x && chk c b y
  | .tup es, .Tuple xs _ _ => chks c es xs
  | .lst es, .List xs _ => chks c es xs
  | .sub a i, .Subscript x k _ => !isSlice k && chk c a x && chk c i k
  | .subv v i, .Subscript (.Name x _) k _ => !isSlice k && c.vis x v && chk c i k
  | .att a f, .Attribute x g _ => f == g && !isCall x && chk c a x
  | .attv v f, .Attribute (.Name x _) g _ => f == g && c.vis x v
  | .call fn es, .Call (.Name x _) (y :: ys) [] _ => (match fn.wh with | .top => true | _ => false) && x == fn.name && c.glb x && decide (ys.length + 1 ≤ fn.ps.length) && decide (fn.ps.length ≤ ys.length + 1 + fn.df.length) && (fn.io.drop (ys.length + 1)).all (fun b => !b) && chka c fn.io es (y :: ys)
  | .bi b es, .Call (.Name x _) (y :: ys) [] _ => x == b.nm && c.blt x && chks c es (y :: ys)
  | .biv b v, .Call (.Name x _) [.Name y _] [] _ => x == b.nm && c.blt x && c.vis y v
  | .lc elt g src ifs own, .ListComp e [⟨t, it, fs, 0⟩] scope _ =>
      blkC c.N c.sc scope (own.map fun i => (c.N.getD i "", i)) && decide own.Nodup && own.all (fun i => decide (i < c.N.length)) && !isSet it && (!needT src || tupT t) && chkR c src it && chkG (c.blk scope) g t && chkTs (c.blk scope) ifs fs && chk (c.blk scope) elt e
  | .callk fn ks es, .Call (.Name x _) [] kws _ => (match fn.wh with | .top => true | _ => false) && x == fn.name && c.glb x && (kwN kws == ks.map some) && fn.kws.contains ks && decide (ks.length = fn.ps.length) && fn.ps.all (fun p => ks.contains p) && fn.io.all (fun b => !b) && chkK c es kws
  | .mk fn es, .Call (.Name x _) (y :: ys) [] _ => (match fn.wh with | .init k => x == k | _ => false) && c.glb x && decide (ys.length + 2 ≤ fn.ps.length) && decide (fn.ps.length ≤ ys.length + 2 + fn.df.length) && (match fn.io with | b :: _ => b | _ => false) && (fn.io.drop (ys.length + 2)).all (fun b => !b) && chka c fn.io.tail es (y :: ys)
  | .met fn a es, .Call (.Attribute x m ap) ys [] cp => (match fn.wh with | .meth _ => true | _ => false) && m == fn.name && (ap.endLine == cp.line) && !isCall x && decide (ys.length < 30) && decide (ys.length + 1 ≤ fn.ps.length) && decide (fn.ps.length ≤ ys.length + 1 + fn.df.length) && (match fn.io with | b :: _ => !b | _ => true) && (fn.io.drop (ys.length + 1)).all (fun b => !b) && chk c a x && chka c fn.io.tail es ys
  | .isi tab a cs true, .Call (.Name x _) [y, z] [] _ => x == ("isinstance" : Str) && c.blt x && !isStar y && !isStar z && tab.all (fun p => c.kt.contains p) && (match cs with | [k] => ctOk c k z | _ => false) && chk c a y
  | .isi tab a cs false, .Call (.Name x _) [y, .Tuple zs _ _] [] _ => x == ("isinstance" : Str) && c.blt x && !isStar y && tab.all (fun p => c.kt.contains p) && decide (cs.length < 1000) && ctsOk c cs zs && chk c a y
  | .gcd a b, .Call (.Name x _) [y, z] [] _ => x == ("gcd" : Str) && c.gcd && c.glb x && !isStar y && !isStar z && chk c a y && chk c b z
  | .bln a, .Call (.Attribute x m ap) [] [] cp => m == ("bit_length" : Str) && (ap.endLine == cp.line) && !isCall x && chk c a x
  | _, _ => false
def chkK (c : Cc) : Es → List Keyword → Bool
  | .nil, [] => true
  | .cons e es, ⟨_, x, _⟩ :: xs => chk c e x && chkK c es xs
  | _, _ => false
def chks (c : Cc) : Es → List Expr → Bool
  | .nil, [] => true
  | .cons e es, x :: xs => !isStar x && chk c e x && chks c es xs
  | _, _ => false
def chka (c : Cc) : List Bool → As → List Expr → Bool
  | _, .nil, [] => true
  | false :: io, .cons e es, x :: xs => !isStar x && chk c e x && chka c io es xs
  | true :: io, .lend i es, .Name x _ :: xs => c.vis x i && chka c io es xs
  | _, _, _ => false
def chkR (c : Cc) : Sr → Expr → Bool
  | .seq e, x => chk c e x
  | .rng1 e, .Call (.Name x _) [a] [] _ => x == ("range" : Str) && c.blt x && !isStar a && chk c e a
  | .rng2 d e, .Call (.Name x _) [a, b] [] _ => x == ("range" : Str) && c.blt x && !isStar a && !isStar b && chk c d a && chk c e b
  | .enm e, .Call (.Name x _) [a] [] _ => x == ("enumerate" : Str) && c.blt x && !isStar a && chk c e a
  | .zip d e, .Call (.Name x _) [a, b] [] _ => x == ("zip" : Str) && c.blt x && !isStar a && !isStar b && chk c d a && chk c e b
  | .rev e, .Call (.Name x _) [a] [] _ => x == ("reversed" : Str) && c.blt x && !isStar a && chk c e a
  | _, _ => false
def chkT (c : Cc) : E → Expr → Bool
  | .an a b, .BoolOp .And [x, y] _ => chkT c a x && chkT c b y
  | .an a b, .BoolOp .And (x :: y :: z :: r) p => chkT c a x && chkT c b (.BoolOp .And (y :: z :: r) p)
  | .or a b, .BoolOp .Or [x, y] _ => chkT c a x && chkT c b y
  | .or a b, .BoolOp .Or (x :: y :: z :: r) p => chkT c a x && chkT c b (.BoolOp .Or (y :: z :: r) p)
  | .nt a, .UnaryOp .Not x _ => chkT c a x
  | .cmp o a b, .Compare l [p] [r] _ => o == p && !isSet r && chk c a l && chk c b r
  | .chn o p a b d, .Compare l [o', p'] [r, r'] _ => o == o' && p == p' && !isSet r && !isSet r' && chk c a l && chk c b r && chk c d r'
  | .tv a, x => plainT x && chk c a x
  | _, _ => false
def chkTs (c : Cc) : Es → List Expr → Bool
  | .nil, [] => true
  | .cons e .nil, [x] => chkT c e x
  | _, _ => false
end
/-- whether a comprehension is stored from within (swapsWith's answer) -/
def swB (c : Cc) (x : Str) (p : Pos) (v : Expr) : Bool := match v with
  | .ListComp _ _ s vp => (c.sc.names.lookup x == some .local) && p.line == vp.line && !(s.names.any fun (n, k) => n == x && (k == .local || k == .cell))
  | .SetComp _ _ s vp => (c.sc.names.lookup x == some .local) && p.line == vp.line && !(s.names.any fun (n, k) => n == x && (k == .local || k == .cell))
  | .DictComp _ _ _ s vp => (c.sc.names.lookup x == some .local) && p.line == vp.line && !(s.names.any fun (n, k) => n == x && (k == .local || k == .cell))
  | _ => false
def augO : Operator → Bool
  | .Add => true
  | .Sub => true
  | _ => false
def isLc : E → Bool
  | .lc _ _ _ _ _ => true
  | _ => false
def fnK (c : Cc) : Bool := match c.sc.kind with
  | .function => true
  | _ => false
mutual
def chkS (c : Cc) : S → Stmt → Bool
  | .asg i e, .Assign [.Name x p] v q => fnK c && c.sto x i && chk c e v && (!swB c x p v || isLc e)
  | .unp g e, .Assign [t] v q => (match t with | .Tuple _ _ _ => true | _ => false) && (match v with | .Tuple _ _ _ => false | _ => true) && chkG c g t && chk c e v
  | .setv x i e, .Assign [.Subscript (.Name y _) k _] v q => !isSlice k && c.vis y x && chk c i k && chk c e v
  | .app x e, .Expr (.Call (.Attribute (.Name y _) m ap) [v] [] cp) _ => m == ("append" : Str) && (ap.endLine == cp.line) && c.vis y x && !isStar v && chk c e v
  | .aug i o e, .AugAssign (.Name x _) p v _ => o == p && augO o && c.sto x i && chk c e v
  | .exp e, .Expr v _ => chk c e v && (match v with | .ListComp _ _ _ _ => false | .SetComp _ _ _ _ => false | .DictComp _ _ _ _ _ => false | _ => true)
  | .ret e, .Return (some v) _ => chk c e v
  | .retN, .Return none _ => true
  | .ite t a b, .If u x y _ => chkT c t u && chkSs c a x && chkSs c b y
  | .fr g src b, .For t it x [] _ => !isSet it && (!needT src || tupT t) && chkR c src it && chkG c g t && chkSs c b x
  | .whl _ t b, .While u x [] _ => chkT c t u && chkSs c b x
  | .brk, .Break _ => true
  | .cnt, .Continue _ => true
  | .pas, .Pass _ => true
  | .par i j a b, .Assign [.Tuple [.Name x px, .Name y py] _ _] (.Tuple [u, v] _ _) _ => fnK c && c.sto x i && c.sto y j && decide (i ≠ j) && (c.sc.names.lookup x == some .local) && (c.sc.names.lookup y == some .local) && py.line == px.line && !isStar u && !isStar v && !(foldedForSure 8 u && foldedForSure 8 v) && !(constantsAlone 8 u && constantsAlone 8 v) && chk c a u && chk c b v
  | .appi i e v, .Expr (.Call (.Attribute (.Subscript (.Name y _) k _) m ap) [.Name z _] [] cp) _ => m == ("append" : Str) && (ap.endLine == cp.line) && !isSlice k && c.vis y i && c.vis z v && chk c e k
  | .stf i k f e, .Assign [.Attribute (.Name y _) g _] v q => c.vis y i && f == g && c.fl.contains (k, f) && chk c e v
  | .nev, _ => true
  | .tryN b, .Try x (_ :: _) [] [] _ => chkSs c b x
  | _, _ => false
def chkSs (c : Cc) : List S → List Stmt → Bool
  | [], [] => true
  | s :: ss, x :: xs => chkS c s x && chkSs c ss xs
  | _, _ => false
end
end VS

/-! ## Snd1 -/
set_option maxRecDepth 100000
set_option maxHeartbeats 4000000
namespace VS
open PySem PySem.Spec PyProof.Rows L2

/-! ### what is wanted of a result -/
/-- an exception as it lies -/
def ExAt (S : Sta) (F H : Hp) (cls : Value) (dd : Option Addr) (x : Exn) : Prop :=
  ∃ (C dx : Addr) (vs : List V), cls = .ref C ∧ S.mg x.c = some (.ref C) ∧ dd = some dx ∧ x.ns.length = x.ds.length ∧ F dx = some (.xd (x.ns.zip vs)) ∧ Rps S F H x.ds vs []

def PostE (S : Sta) (φ : Fr) (W : WX) (σ : L2.St) (Td : List D) (Tv : List V) (r : Rs D) (Q : VK) : Prop := match r with
  | .bad => False
  | .ok d env => ∀ F H v, R S φ F H σ env (d :: Td) (v :: Tv) → Q v H
  | .exc x env => ∀ F H cls dd, R S φ F H σ env Td Tv → ExAt S F H cls dd x → W cls dd σ H
def PostT (S : Sta) (φ : Fr) (W : WX) (σ : L2.St) (Td : List D) (Tv : List V) (r : Rs Bool) (Q : Bool → Hp → Prop) : Prop := match r with
  | .bad => False
  | .ok b env => ∀ F H, R S φ F H σ env Td Tv → Q b H
  | .exc x env => ∀ F H cls dd, R S φ F H σ env Td Tv → ExAt S F H cls dd x → W cls dd σ H
def PostA (S : Sta) (φ : Fr) (W : WX) (σ : L2.St) (Td : List D) (Tv : List V) (r : Rs (List D)) (Q : List V → Hp → Prop) : Prop := match r with
  | .bad => False
  | .ok ds env => ∀ F H vs, ds.length = vs.length → R S φ F H σ env (ds ++ Td) (vs ++ Tv) → Q vs H
  | .exc x env => ∀ F H cls dd, R S φ F H σ env Td Tv → ExAt S F H cls dd x → W cls dd σ H

def tE (S : Sta) (W : WX) (f : En → Rs D) : TE := fun σ H Q => ∃ φ F env Td Tv, R S φ F H σ env Td Tv ∧ PostE S φ W σ Td Tv (f env) Q
def tT (S : Sta) (W : WX) (f : En → Rs Bool) : TT := fun σ H Q => ∃ φ F env Td Tv, R S φ F H σ env Td Tv ∧ PostT S φ W σ Td Tv (f env) Q
def tA (S : Sta) (W : WX) (f : En → Rs (List D)) : TA := fun σ H Q => ∃ φ F env Td Tv, R S φ F H σ env Td Tv ∧ PostA S φ W σ Td Tv (f env) Q

section
variable {S : Sta} {φ : Fr} {W : WX} {F H F' H' : Hp} {σ : L2.St} {env : En} {Td Ud : List D} {Tv Uv : List V} {d e x y : D} {v w va vb : V} {A : List Addr}

theorem PostE.imp {r : Rs D} {Q Q' : VK} (h : PostE S φ W σ Td Tv r Q) (k : ∀ v H, Q v H → Q' v H) : PostE S φ W σ Td Tv r Q' := by
  cases r with
  | bad => exact h
  | ok d e => exact fun F H v r => k _ _ (h F H v r)
  | exc x e => exact h
/-- first this, then that; more may be pending -/
theorem PostE.bnd {r : Rs D} {k : D → En → Rs D} {Q Q' : VK} (h : PostE S φ W σ Td Tv (r.bind k) Q) (hp : ∀ F H env, R S φ F H σ env Ud Uv → R S φ F H σ env Td Tv)
    (hk : ∀ d env F H v, R S φ F H σ env (d :: Ud) (v :: Uv) → PostE S φ W σ Td Tv (k d env) Q → Q' v H) : PostE S φ W σ Ud Uv r Q' := by
  cases r with
  | bad => exact h
  | ok d e => exact fun F H v r => hk d e F H v r h
  | exc x e => exact fun F H cls dd r a => h F H cls dd (hp _ _ _ r) a
theorem PostE.bndT {r : Rs Bool} {k : Bool → En → Rs D} {Q : VK} {Q' : Bool → Hp → Prop} (h : PostE S φ W σ Td Tv (r.bind k) Q) (hp : ∀ F H env, R S φ F H σ env Ud Uv → R S φ F H σ env Td Tv)
    (hk : ∀ d env F H, R S φ F H σ env Ud Uv → PostE S φ W σ Td Tv (k d env) Q → Q' d H) : PostT S φ W σ Ud Uv r Q' := by
  cases r with
  | bad => exact h
  | ok d e => exact fun F H r => hk d e F H r h
  | exc x e => exact fun F H cls dd r a => h F H cls dd (hp _ _ _ r) a
theorem PostE.bndA {r : Rs (List D)} {k : List D → En → Rs D} {Q : VK} {Q' : List V → Hp → Prop} (h : PostE S φ W σ Td Tv (r.bind k) Q) (hp : ∀ F H env, R S φ F H σ env Ud Uv → R S φ F H σ env Td Tv)
    (hk : ∀ ds env F H vs, ds.length = vs.length → R S φ F H σ env (ds ++ Ud) (vs ++ Uv) → PostE S φ W σ Td Tv (k ds env) Q → Q' vs H) : PostA S φ W σ Ud Uv r Q' := by
  cases r with
  | bad => exact h
  | ok d e => exact fun F H vs l r => hk d e F H vs l r h
  | exc x e => exact fun F H cls dd r a => h F H cls dd (hp _ _ _ r) a
theorem PostT.bnd {r : Rs D} {k : D → En → Rs Bool} {Q : Bool → Hp → Prop} {Q' : VK} (h : PostT S φ W σ Td Tv (r.bind k) Q) (hp : ∀ F H env, R S φ F H σ env Ud Uv → R S φ F H σ env Td Tv)
    (hk : ∀ d env F H v, R S φ F H σ env (d :: Ud) (v :: Uv) → PostT S φ W σ Td Tv (k d env) Q → Q' v H) : PostE S φ W σ Ud Uv r Q' := by
  cases r with
  | bad => exact h
  | ok d e => exact fun F H v r => hk d e F H v r h
  | exc x e => exact fun F H cls dd r a => h F H cls dd (hp _ _ _ r) a
theorem PostT.bndT {r : Rs Bool} {k : Bool → En → Rs Bool} {Q Q' : Bool → Hp → Prop} (h : PostT S φ W σ Td Tv (r.bind k) Q) (hp : ∀ F H env, R S φ F H σ env Ud Uv → R S φ F H σ env Td Tv)
    (hk : ∀ d env F H, R S φ F H σ env Ud Uv → PostT S φ W σ Td Tv (k d env) Q → Q' d H) : PostT S φ W σ Ud Uv r Q' := by
  cases r with
  | bad => exact h
  | ok d e => exact fun F H r => hk d e F H r h
  | exc x e => exact fun F H cls dd r a => h F H cls dd (hp _ _ _ r) a
theorem PostA.bnd {r : Rs D} {k : D → En → Rs (List D)} {Q : List V → Hp → Prop} {Q' : VK} (h : PostA S φ W σ Td Tv (r.bind k) Q) (hp : ∀ F H env, R S φ F H σ env Ud Uv → R S φ F H σ env Td Tv)
    (hk : ∀ d env F H v, R S φ F H σ env (d :: Ud) (v :: Uv) → PostA S φ W σ Td Tv (k d env) Q → Q' v H) : PostE S φ W σ Ud Uv r Q' := by
  cases r with
  | bad => exact h
  | ok d e => exact fun F H v r => hk d e F H v r h
  | exc x e => exact fun F H cls dd r a => h F H cls dd (hp _ _ _ r) a
theorem PostA.bndA {r : Rs (List D)} {k : List D → En → Rs (List D)} {Q Q' : List V → Hp → Prop} (h : PostA S φ W σ Td Tv (r.bind k) Q) (hp : ∀ F H env, R S φ F H σ env Ud Uv → R S φ F H σ env Td Tv)
    (hk : ∀ ds env F H vs, ds.length = vs.length → R S φ F H σ env (ds ++ Ud) (vs ++ Uv) → PostA S φ W σ Td Tv (k ds env) Q → Q' vs H) : PostA S φ W σ Ud Uv r Q' := by
  cases r with
  | bad => exact h
  | ok d e => exact fun F H vs l r => hk d e F H vs l r h
  | exc x e => exact fun F H cls dd r a => h F H cls dd (hp _ _ _ r) a

/-! ### more about the claims -/
theorem R.frz2 (r : R S φ F H σ env (y :: x :: Td) (vb :: va :: Tv)) : ∃ F', R S φ F' H σ env (y.frz :: x.frz :: Td) (vb :: va :: Tv) := by
  obtain ⟨F1, r1⟩ := r.freeze
  obtain ⟨F2, r2⟩ := r1.swap.freeze
  exact ⟨F2, r2.swap⟩
theorem R.pop2 (r : R S φ F H σ env (y :: x :: Td) (vb :: va :: Tv)) : R S φ F H σ env Td Tv := r.pop.pop
/-- what a frozen value in front is -/
theorem R.fz (r : R S φ F H σ env (d :: Td) (v :: Tv)) (hd : d.own = false) : Rp S F H d v [] := by
  obtain ⟨A, p⟩ := r.top
  have := p.nown hd
  subst this
  exact p
theorem R.int {i : Int} (r : R S φ F H σ env (.int i :: Td) (v :: Tv)) : v = .int i := by
  have := r.fz rfl; rw [Rp] at this; exact this.1
theorem R.bl {b : Bool} (r : R S φ F H σ env (.bl b :: Td) (v :: Tv)) : v = .bl b := by
  have := r.fz rfl; rw [Rp] at this; exact this.1
theorem R.str {z : Str} (r : R S φ F H σ env (.str z :: Td) (v :: Tv)) : v = .str z := by
  have := r.fz rfl; rw [Rp] at this; exact this.1
theorem R.non (r : R S φ F H σ env (.non :: Td) (v :: Tv)) : v = .non := by
  have := r.fz rfl; rw [Rp] at this; exact this.1
theorem R.pInt (i : Int) (r : R S φ F H σ env Td Tv) : R S φ F H σ env (.int i :: Td) (.int i :: Tv) := r.push (by rw [Rp]; exact ⟨rfl, rfl⟩)
theorem R.pBl (i : Bool) (r : R S φ F H σ env Td Tv) : R S φ F H σ env (.bl i :: Td) (.bl i :: Tv) := r.push (by rw [Rp]; exact ⟨rfl, rfl⟩)
theorem R.pStr (i : Str) (r : R S φ F H σ env Td Tv) : R S φ F H σ env (.str i :: Td) (.str i :: Tv) := r.push (by rw [Rp]; exact ⟨rfl, rfl⟩)
theorem R.pNon (r : R S φ F H σ env Td Tv) : R S φ F H σ env (.non :: Td) (.non :: Tv) := r.push (by rw [Rp]; exact ⟨rfl, rfl⟩)
/-- a new list of pending values -/
theorem R.newL {ds : List D} {vs : List V} {p : Addr} (el : ds.length = vs.length) (r : R S φ F H σ env (ds ++ Td) (vs ++ Tv)) (hp : H p = none) : R S φ F (upd H p (.lst vs)) σ env (.lst true ds :: Td) (.ref p :: Tv) := by
  obtain ⟨ws, A1, A2, q, t, l, nd, ok, lk⟩ := r.openN el
  have ad1 := Rps.adr _ q
  have ad2 := Rps.adr _ t
  have np : ∀ a, (∃ o, H a = some o) → a ≠ p := fun a ⟨o, e⟩ z => by rw [z, hp] at e; cases e
  have fp : F p = none := r.fh.free hp
  have h0p := r.dm p hp
  refine R.turn (Ud := ds) (Uv := vs) (Ud' := [.lst true ds]) (Uv' := [.ref p]) (B := p :: A1) r t l lk (Same.refl F) ?_ ?_ ?_ ?_ ?_ ?_ ?_ ?_
  · intro b u e; rw [upd_ne (np b ⟨u, r.fh _ _ e⟩)]; exact r.fh _ _ e
  · intro a ha; exact ⟨(ad2 a ha).2, upd_ne (np a (ad2 a ha).1)⟩
  · intro a h1 h2; exact absurd h2 h1
  · intro a o e n
    have := r.h0 a o e n
    rw [upd_ne (np a ⟨o, this⟩)]; exact this
  · intro a e
    by_cases hb : a = p
    · subst hb; rw [upd_same] at e; cases e
    · rw [upd_ne hb] at e; exact e
  · have h1 : Rp S F (upd H p (.lst vs)) (.lst true ds) (.ref p) (p :: A1) := by
      rw [Rp]
      refine ⟨p, vs, A1, rfl, rfl, upd_same, fp, Rps.mono (Same.refl F) ds q fun a ha => ⟨(ad1 a ha).2, upd_ne (np a (ad1 a ha).1)⟩⟩
    simpa using Rps.cons h1 .nil
  · rw [List.cons_append, List.nodup_cons]
    refine ⟨fun hm => ?_, nd⟩
    rcases List.mem_append.mp hm with hm | hm
    · exact np p (ad1 p hm).1 rfl
    · exact np p (ad2 p hm).1 rfl
  · intro a ha
    rw [List.cons_append, List.mem_cons] at ha
    rcases ha with rfl | ha
    · exact .inr h0p
    · exact ok a ha
theorem Rps.nown : ∀ {ds : List D} {vs : List V} {B : List Addr}, Rps S F H ds vs B → ds.any D.own = false → B = []
  | [], _, _, h, _ => by rw [Rps] at h; exact h.2
  | d :: ds, _, _, h, ha => by
    rw [Rps] at h
    obtain ⟨v, ws, B1, B2, rfl, rfl, p1, t1⟩ := h
    simp only [List.any_cons, Bool.or_eq_false_iff] at ha
    rw [p1.nown ha.1, List.nil_append]
    exact Rps.nown t1 ha.2
/-- a new tuple of pending values -/
theorem R.newT {ds : List D} {vs : List V} {p : Addr} {m : Bool} (el : ds.length = vs.length) (r : R S φ F H σ env (ds ++ Td) (vs ++ Tv)) (hp : H p = none) (hm : m = false → ds.any D.own = false) :
    R S φ (upd F p (.tup vs)) (upd H p (.tup vs)) σ env (.tup m ds :: Td) (.ref p :: Tv) := by
  have r' := r.newF (o := .tup vs) hp
  obtain ⟨ws, A1, A2, q, t, l, nd, ok, lk⟩ := r'.openN el
  refine R.turn (Ud := ds) (Uv := vs) (Ud' := [.tup m ds]) (Uv' := [.ref p]) (B := A1) r' t l lk (Same.refl _) r'.fh (fun a ha => ⟨(Rps.adr _ t a ha).2, rfl⟩) (fun a h1 h2 => absurd h2 h1) r'.h0 (fun _ h => h) ?_ nd ok
  have h1 : Rp S (upd F p (.tup vs)) (upd H p (.tup vs)) (.tup m ds) (.ref p) A1 := by
    rw [Rp]
    refine ⟨fun e => ?_, p, vs, rfl, upd_same, q⟩
    have h2 := hm e
    exact q.nown h2
  simpa using Rps.cons h1 .nil
/-- the order of the pending values -/
theorem R.rot {ds : List D} {vs : List V} (el : ds.length = vs.length) (r : R S φ F H σ env (ds ++ d :: Td) (vs ++ v :: Tv)) : R S φ F H σ env (d :: (ds ++ Td)) (v :: (vs ++ Tv)) := by
  obtain ⟨ws, A1, A2, q, t, l, nd, ok, lk⟩ := r.openN el
  rw [List.cons_append, Rps] at t
  obtain ⟨u, us, B1, B2, e1, rfl, p, t2⟩ := t
  simp only [List.cons_append, List.cons.injEq] at e1
  obtain ⟨rfl, rfl⟩ := e1
  have pm : (B1 ++ (A1 ++ B2)).Perm (A1 ++ (B1 ++ B2)) := by rw [List.perm_iff_count]; intro a; simp only [List.count_append]; omega
  refine ⟨r.fh, r.f0, r.fn, r.h0, r.dm, r.len, ws, B1 ++ (A1 ++ B2), ?_, l, pm.nodup_iff.mpr nd, fun a ha => ok a (pm.mem_iff.mp ha), lk⟩
  rw [List.cons_append, List.cons_append, List.append_assoc, List.append_assoc]
  exact .cons p (q.append t2)
end
end VS

/-! ## Snd2 -/
set_option maxRecDepth 100000
set_option maxHeartbeats 4000000
namespace VS
open PySem PySem.Spec PyProof.Rows L2

theorem lim_eq : lim = sizeLine := by rw [sizeLine_eq]
section
variable {S : Sta} {φ : Fr} {W : WX} {F H F' H' : Hp} {σ : L2.St} {env : En} {Td Ud : List D} {Tv Uv : List V} {d e x y : D} {v w va vb : V} {A : List Addr} {X : Cx}

theorem opFalse {f : Value → Value → Sem Value} : OpR X f (fun _ _ _ _ => False) := fun _ _ _ _ _ _ _ _ _ _ _ _ h => h.elim
/-- what a frozen list, a frozen tuple is -/
theorem R.lf {xs : List D} (r : R S φ F H σ env (.lst false xs :: Td) (v :: Tv)) : ∃ a vs, v = .ref a ∧ F a = some (.lst vs) ∧ H a = some (.lst vs) ∧ Rps S F H xs vs [] := by
  have := r.fz rfl
  rw [Rp] at this
  obtain ⟨_, a, vs, e, e2, q⟩ := this
  exact ⟨a, vs, e, e2, r.fh _ _ e2, q⟩
theorem R.tf {xs : List D} (r : R S φ F H σ env (.tup false xs :: Td) (v :: Tv)) : ∃ a vs, v = .ref a ∧ F a = some (.tup vs) ∧ H a = some (.tup vs) ∧ Rps S F H xs vs [] := by
  have := r.fz rfl
  rw [Rp] at this
  obtain ⟨_, a, vs, e, e2, q⟩ := this
  exact ⟨a, vs, e, e2, r.fh _ _ e2, q⟩
/-- frozen items, many -/
theorem R.pushN : ∀ {ds : List D} {vs : List V}, Rps S F H ds vs [] → R S φ F H σ env Td Tv → R S φ F H σ env (ds ++ Td) (vs ++ Tv)
  | [], vs, h, r => by rw [Rps] at h; rw [h.1]; exact r
  | d :: ds, vs, h, r => by
    rw [Rps] at h
    obtain ⟨v, ws, A1, A2, rfl, e, p, t⟩ := h
    have e2 := List.append_eq_nil_iff.mp e.symm
    rw [e2.1] at p; rw [e2.2] at t
    exact (R.pushN t r).push p
theorem Rps.get : ∀ {ds : List D} {vs : List V} {i : Nat} {d : D}, Rps S F H ds vs [] → ds[i]? = some d → ∃ v, vs[i]? = some v ∧ Rp S F H d v []
  | [], _, _, _, _, e => by simp at e
  | x :: ds, vs, i, d, h, e => by
    rw [Rps] at h
    obtain ⟨v, ws, A1, A2, rfl, e1, p, t⟩ := h
    have e2 := List.append_eq_nil_iff.mp e1.symm
    rw [e2.1] at p; rw [e2.2] at t
    cases i with
    | zero => simp at e; subst e; exact ⟨v, rfl, p⟩
    | succ i => exact Rps.get (i := i) t (by simpa using e)
theorem Rps.app0 {ds es : List D} {vs ws : List V} (h : Rps S F H ds vs []) (t : Rps S F H es ws []) : Rps S F H (ds ++ es) (vs ++ ws) [] := by
  simpa using Rps.append h t
theorem Rps.rep {ds : List D} {vs : List V} (h : Rps S F H ds vs []) : ∀ n : Nat, Rps S F H (List.replicate n ds).flatten (List.replicate n vs).flatten []
  | 0 => by simp [Rps]
  | n + 1 => by rw [List.replicate_succ, List.replicate_succ, List.flatten_cons, List.flatten_cons]; exact Rps.app0 h (Rps.rep h n)

/-- a new list of frozen items comes -/
theorem R.newLF {ds : List D} {vs : List V} {p : Addr} (r : R S φ F H σ env Td Tv) (q : Rps S F H ds vs []) (hp : H p = none) : R S φ F (upd H p (.lst vs)) σ env (.lst true ds :: Td) (.ref p :: Tv) :=
  R.newL q.length (R.pushN q r) hp
theorem R.newTF {ds : List D} {vs : List V} {p : Addr} (r : R S φ F H σ env Td Tv) (q : Rps S F H ds vs []) (hp : H p = none) : R S φ (upd F p (.tup vs)) (upd H p (.tup vs)) σ env (.tup false ds :: Td) (.ref p :: Tv) := by
  -- frozen items stand over any owned ones: their claims are empty
  have r' := r.newF (o := .tup vs) hp
  have fp : F p = none := r.fh.free hp
  have sf : Same F (upd F p (.tup vs)) := fun b u e => by rw [upd_ne (ne_of_none e fp)]; exact e
  have q' : Rps S (upd F p (.tup vs)) (upd H p (.tup vs)) ds vs [] := Rps.mono sf ds q (by simp)
  refine r'.push ?_
  rw [Rp]
  exact ⟨fun _ => rfl, p, vs, rfl, upd_same, q'⟩

abbrev OpOk (S : Sta) (X : Cx) (f : Value → Value → Sem Value) (g : D → D → Option D) : Prop := ∃ r : R2, OpR X f r ∧
  ∀ {φ : Fr} {F H : Hp} {σ : L2.St} {env : En} {Td : List D} {Tv : List V} {x y d : D} {va vb : V} {Q : VK}, x.own = false → y.own = false → R S φ F H σ env (y :: x :: Td) (vb :: va :: Tv) → g x y = some d →
    (∀ F' H' v, R S φ F' H' σ env (d :: Td) (v :: Tv) → Q v H') → r va vb H Q

theorem opOk_int {f : Value → Value → Sem Value} {C : Int → Int → Prop} {h : Int → Int → Int} {g : D → D → Option D} (ho : OpR X f (rI C fun i j => .int (h i j)))
    (hg : ∀ x y d, g x y = some d → ∃ i j, x = .int i ∧ y = .int j ∧ C i j ∧ d = .int (h i j)) : OpOk S X f g := by
  refine ⟨_, ho, fun {φ F H σ env Td Tv x y d va vb Q} _ _ r e q => ?_⟩
  obtain ⟨i, j, rfl, rfl, c, rfl⟩ := hg _ _ _ e
  exact ⟨i, j, r.pop.int, r.int, c, q _ _ _ (r.pop2.pInt _)⟩

def MulX (i j : Int) : Prop := i.natAbs < 2 ^ 63 ∨ j.natAbs < 2 ^ 63 ∨ i.natAbs.log2 + j.natAbs.log2 < 1000000
theorem intBits_small {i : Int} (h : i.natAbs < 2 ^ 63) : Builtin.Int.intBits i ≤ 64 := by
  unfold Builtin.Int.intBits
  split
  · omega
  · rename_i hz
    have h0 : i.natAbs ≠ 0 := by simp at hz; omega
    have := (Nat.log2_lt h0).mpr h
    omega
theorem op_mulX : OpR X (binaryOp .Mult) (rI MulX fun i j => .int (i * j)) := opI fun _ _ _ _ _ _ _ hc q => mul_int q (by
  rcases hc with h | h | h
  · exact IntMulOk.of_left (intBits_small h)
  · exact IntMulOk.of_right (intBits_small h)
  · exact CMulW.ok h)
theorem bin_ok (hK : X.K = S.K) (o : Operator) : OpOk S X (binaryOp o) (binD o) := by
  cases o with
  | Add =>
    refine ⟨_, op_add.or (op_add_str.or (op_cat.or opFalse)), fun {φ F H σ env Td Tv x y d va vb Q} _ _ r e q => ?_⟩
    unfold binD at e
    split at e <;> (first | (simp at e; done) | skip)
    all_goals (try (rename_i h; cases h))
    all_goals (first | (simp only [reduceCtorEq] at *; done) | skip)
    · cases e
      exact .inl ⟨_, _, r.pop.int, r.int, q _ _ _ (r.pop2.pInt _)⟩
    · split at e
      · cases e
        rename_i h
        exact .inr (.inl ⟨_, _, r.pop.str, r.str, by rw [← lim_eq]; exact h, q _ _ _ (r.pop2.pStr _)⟩)
      · cases e
    · split at e
      · cases e
        rename_i h
        obtain ⟨a, us, rfl, fa, ha, qa⟩ := r.pop.lf
        obtain ⟨b, ws, rfl, fb, hb, qb⟩ := r.lf
        refine .inr (.inr (.inl ⟨a, b, us, ws, rfl, rfl, ha, hb, by rw [← qa.length, ← qb.length, ← lim_eq]; exact h, fun p hp => q _ _ _ (r.pop2.newLF (qa.app0 qb) hp)⟩))
      · cases e
  | Sub =>
    refine opOk_int (C := fun _ _ => True) (h := fun i j => i - j) (opI fun _ _ _ _ _ _ _ _ q => sub_int q) fun x y d e => ?_
    unfold binD at e
    split at e <;> simp_all
  | Mult =>
    refine ⟨_, op_mulX.or (op_rep.or opFalse), fun {φ F H σ env Td Tv x y d va vb Q} _ _ r e q => ?_⟩
    unfold binD at e
    split at e <;> (first | (simp at e; done) | skip)
    all_goals (first | (simp only [reduceCtorEq] at *; done) | skip)
    · split at e
      · cases e
        rename_i h
        exact .inl ⟨_, _, r.pop.int, r.int, h, q _ _ _ (r.pop2.pInt _)⟩
      · cases e
    · split at e
      · cases e
        rename_i h
        obtain ⟨a, us, rfl, fa, ha, qa⟩ := r.pop.lf
        obtain rfl := r.int
        refine .inr (.inl ⟨a, _, us, rfl, rfl, ha, h.1, h.2.1, by rw [← qa.length, ← lim_eq]; exact h.2.2, fun p hp => q _ _ _ (r.pop2.newLF (qa.rep _) hp)⟩)
      · cases e
  | FloorDiv =>
    refine opOk_int op_fdivW fun x y d e => ?_
    unfold binD at e
    split at e <;> simp_all [CDivW]
  | Mod =>
    refine opOk_int op_mod fun x y d e => ?_
    unfold binD at e
    split at e <;> simp_all
  | Pow =>
    refine opOk_int op_pow fun x y d e => ?_
    unfold binD at e
    split at e <;> simp_all [CPow]
  | LShift =>
    refine opOk_int op_shl fun x y d e => ?_
    unfold binD at e
    split at e <;> simp_all [CPow]
  | RShift =>
    refine opOk_int op_shr fun x y d e => ?_
    unfold binD at e
    split at e <;> simp_all
  | BitAnd =>
    refine opOk_int (C := fun _ _ => True) (opI fun _ _ _ _ _ _ _ _ q => and_int q) fun x y d e => ?_
    unfold binD at e
    split at e <;> simp_all
  | BitOr =>
    refine opOk_int (C := fun _ _ => True) (opI fun _ _ _ _ _ _ _ _ q => or_int q) fun x y d e => ?_
    unfold binD at e
    split at e <;> simp_all
  | BitXor =>
    refine opOk_int (C := fun _ _ => True) (opI fun _ _ _ _ _ _ _ _ q => xor_int q) fun x y d e => ?_
    unfold binD at e
    split at e <;> simp_all
  | MatMult => exact ⟨_, opFalse, fun {φ F H σ env Td Tv x y d va vb Q} _ _ r e q => by unfold binD at e; split at e <;> simp_all⟩
  | Div => exact ⟨_, opFalse, fun {φ F H σ env Td Tv x y d va vb Q} _ _ r e q => by unfold binD at e; split at e <;> simp_all⟩
end
end VS

/-! ## Snd3 -/
set_option maxRecDepth 100000
set_option maxHeartbeats 4000000
namespace VS
open PySem PySem.Spec PyProof.Rows L2

/-! ### comparisons -/
section
variable {S : Sta} {φ : Fr} {W : WX} {F H F' H' : Hp} {σ : L2.St} {env : En} {Td Ud : List D} {Tv Uv : List V} {d e x y : D} {v w va vb : V} {A : List Addr} {X : Cx}

theorem shal_lay : ∀ (n : Nat) (d : D), shal n d = true → (pyOf d).canLay0 = true ∧ (pyOf d).depth ≤ n := by
  intro n
  have scal : ∀ (n : Nat) (d : D), isScal d = true → shal n d = true → (pyOf d).canLay0 = true ∧ (pyOf d).depth ≤ n := by
    intro n d hs h
    cases d <;> simp_all [isScal, pyOf, PyData.canLay0, PyData.depth]
    cases n <;> simpa [shal, strOkB] using h
  induction n with
  | zero =>
    intro d h
    cases d with
    | non => exact scal _ _ rfl h
    | bl _ => exact scal _ _ rfl h
    | int _ => exact scal _ _ rfl h
    | str _ => exact scal _ _ rfl h
    | _ => simp [shal] at h
  | succ n ih =>
    have all : ∀ ds : List D, ds.all (shal n) = true → PyData.canLayAll0 (pyOfs ds) = true ∧ PyData.depthAll (pyOfs ds) ≤ n := by
      intro ds
      induction ds with
      | nil => intro _; simp [pyOfs, PyData.canLayAll0, PyData.depthAll]
      | cons d ds ih2 =>
        intro h
        simp only [List.all_cons, Bool.and_eq_true] at h
        have h1 := ih d h.1
        have h2 := ih2 h.2
        simp only [pyOfs, PyData.canLayAll0, PyData.depthAll, Bool.and_eq_true]
        exact ⟨⟨h1.1, h2.1⟩, by omega⟩
    intro d h
    cases d with
    | lst m xs =>
      have := all xs (by simpa [shal] using h)
      simp only [pyOf, PyData.canLay0, PyData.depth]
      exact ⟨this.1, by omega⟩
    | tup m xs =>
      have := all xs (by simpa [shal] using h)
      simp only [pyOf, PyData.canLay0, PyData.depth]
      exact ⟨this.1, by omega⟩
    | hole => simp [shal] at h
    | scr _ => simp [shal] at h
    | ins _ _ _ _ => simp [shal] at h
    | non => exact scal _ _ rfl h
    | bl _ => exact scal _ _ rfl h
    | int _ => exact scal _ _ rfl h
    | str _ => exact scal _ _ rfl h
theorem shal_shaped {d : D} (h : shal 60 d = true) : SeqAt.shaped (pyOf d) = true := by
  have := shal_lay 60 d h
  unfold SeqAt.shaped
  simp only [this.1, Bool.true_and, decide_eq_true_eq]
  omega

theorem shal_dp (fh : Same F H) : ∀ (n : Nat) (d : D) {v : V} {A : List Addr}, shal n d = true → Rp S F H d v A → Dp S.K H v (pyOf d) := by
  have sc : ∀ (n : Nat) (d : D) {v : V} {A : List Addr}, isScal d = true → Rp S F H d v A → Dp S.K H v (pyOf d) := by
    intro n d v A hs h
    cases d <;> simp [isScal] at hs <;> (rw [Rp] at h; obtain ⟨rfl, _⟩ := h; rw [pyOf]; constructor)
  intro n
  induction n with
  | zero =>
    intro d v A h p
    cases d <;> (try simp [shal] at h) <;> exact sc 0 _ rfl p
  | succ n ih =>
    have all : ∀ (ds : List D) {vs : List V} {A : List Addr}, ds.all (shal n) = true → Rps S F H ds vs A → DpAll S.K H vs (pyOfs ds) := by
      intro ds
      induction ds with
      | nil => intro vs A _ h; rw [Rps] at h; rw [h.1, pyOfs]; exact .nil
      | cons d ds ih2 =>
        intro vs A h q
        simp only [List.all_cons, Bool.and_eq_true] at h
        rw [Rps] at q
        obtain ⟨v, ws, B1, B2, rfl, _, p, t⟩ := q
        rw [pyOfs]
        exact .cons (ih d h.1 p) (ih2 h.2 t)
    intro d v A h p
    cases d with
    | lst m xs =>
      have hx : xs.all (shal n) = true := by simpa [shal] using h
      rw [pyOf]
      cases m with
      | false =>
        rw [Rp] at p
        obtain ⟨_, a, vs, rfl, e, q⟩ := p
        exact .lst (SqL.of (fh _ _ e)) (all xs hx q)
      | true =>
        rw [Rp] at p
        obtain ⟨a, vs, B, rfl, _, e, _, q⟩ := p
        exact .lst (SqL.of e) (all xs hx q)
    | tup m xs =>
      have hx : xs.all (shal n) = true := by simpa [shal] using h
      rw [pyOf]
      rw [Rp] at p
      obtain ⟨_, a, vs, rfl, e, q⟩ := p
      exact .tup (SqT.of (fh _ _ e)) (all xs hx q)
    | hole => simp [shal] at h
    | scr _ => simp [shal] at h
    | ins _ _ _ _ => simp [shal] at h
    | non => exact sc 0 _ rfl p
    | bl _ => exact sc 0 _ rfl p
    | int _ => exact sc 0 _ rfl p
    | str _ => exact sc 0 _ rfl p

theorem seq_eqv {a b : D} (ha : isScal a = true) (hb : isScal b = true) : seq a b = PyData.eqv (pyOf a) (pyOf b) := by
  cases a <;> simp [isScal] at ha <;> cases b <;> simp [isScal] at hb <;> simp [seq, pyOf, PyData.eqv, b2n]
theorem deqN_eqv : ∀ (n : Nat) (a b : D), shal n a = true → shal n b = true → deqN n a b = PyData.eqv (pyOf a) (pyOf b) := by
  intro n
  induction n with
  | zero =>
    intro a b ha hb
    cases a <;> (try simp [shal] at ha) <;> cases b <;> (try simp [shal] at hb) <;> simp [deqN, seq, pyOf, PyData.eqv, b2n]
  | succ n ih =>
    have all : ∀ (xs ys : List D), xs.all (shal n) = true → ys.all (shal n) = true → deqN.go n xs ys = PyData.eqvAll (pyOfs xs) (pyOfs ys) := by
      intro xs
      induction xs with
      | nil => intro ys _ _; cases ys <;> simp [deqN.go, pyOfs, PyData.eqvAll]
      | cons x xs ih2 =>
        intro ys hx hy
        cases ys with
        | nil => simp [deqN.go, pyOfs, PyData.eqvAll]
        | cons y ys =>
          simp only [List.all_cons, Bool.and_eq_true] at hx hy
          simp only [deqN.go, pyOfs, PyData.eqvAll]
          rw [ih x y hx.1 hy.1, ih2 ys hx.2 hy.2]
    intro a b ha hb
    cases a with
    | lst m xs =>
      have hx : xs.all (shal n) = true := by simpa [shal] using ha
      cases b with
      | lst m2 ys =>
        have hy : ys.all (shal n) = true := by simpa [shal] using hb
        simp only [deqN, pyOf, PyData.eqv]
        exact all xs ys hx hy
      | hole => simp [shal] at hb
      | scr _ => simp [shal] at hb
      | ins _ _ _ _ => simp [shal] at hb
      | _ => simp [deqN, seq, pyOf, PyData.eqv]
    | tup m xs =>
      have hx : xs.all (shal n) = true := by simpa [shal] using ha
      cases b with
      | tup m2 ys =>
        have hy : ys.all (shal n) = true := by simpa [shal] using hb
        simp only [deqN, pyOf, PyData.eqv]
        exact all xs ys hx hy
      | hole => simp [shal] at hb
      | scr _ => simp [shal] at hb
      | ins _ _ _ _ => simp [shal] at hb
      | _ => simp [deqN, seq, pyOf, PyData.eqv]
    | hole => simp [shal] at ha
    | scr _ => simp [shal] at ha
    | ins _ _ _ _ => simp [shal] at ha
    | _ =>
      cases b with
      | hole => simp [shal] at hb
      | scr _ => simp [shal] at hb
      | ins _ _ _ _ => simp [shal] at hb
      | _ => simp [deqN, seq, pyOf, PyData.eqv, b2n]

/-- a scalar's value -/
def scV : D → V
  | .bl b => .bl b
  | .int i => .int i
  | .str x => .str x
  | _ => .non
theorem Rp.scal (h : Rp S F H d v A) (hs : isScal d = true) : v = scV d := by
  cases d <;> simp [isScal] at hs <;> (rw [Rp] at h; exact h.1)
theorem flat_scV (hs : isScal d = true) : flatV (scV d) = true := by
  cases d <;> simp [isScal] at hs <;> rfl
theorem eqV_scV (hs : isScal d = true) (he : isScal e = true) : eqV (scV d) (scV e) = seq d e := by
  cases d <;> simp [isScal] at hs <;> cases e <;> simp [isScal] at he <;> simp [scV, eqV, seq, b2n]
theorem Rps.flat : ∀ {ds : List D} {vs : List V} {A : List Addr}, Rps S F H ds vs A → ds.all isScal = true → vs = ds.map scV
  | [], _, _, h, _ => by rw [Rps] at h; rw [h.1]; rfl
  | d :: ds, _, _, h, hs => by
    rw [Rps] at h
    obtain ⟨v, ws, B1, B2, rfl, _, p, t⟩ := h
    simp only [List.all_cons, Bool.and_eq_true] at hs
    rw [List.map_cons, ← p.scal hs.1, ← Rps.flat t hs.2]
theorem inV_eq {a : D} (ha : isScal a = true) : ∀ {ds : List D}, ds.all isScal = true → inV (scV a) (ds.map scV) = ds.any fun x => seq x a
  | [], _ => rfl
  | d :: ds, h => by
    simp only [List.all_cons, Bool.and_eq_true] at h
    have ih := inV_eq ha h.2
    unfold inV at ih ⊢
    rw [List.map_cons, List.any_cons, List.any_cons, ih, eqV_scV h.1 ha]
theorem all_flat : ∀ {ds : List D}, ds.all isScal = true → (ds.map scV).all flatV = true
  | [], _ => rfl
  | d :: ds, h => by
    simp only [List.all_cons, Bool.and_eq_true] at h
    rw [List.map_cons, List.all_cons, flat_scV h.1, all_flat h.2]; rfl

theorem scal_seq {a b : D} (ha : isScal a = true) (hb : isScal b = true) (h : L2.scal (scV a) (scV b) = true) : decide (scV a = scV b) = seq a b := by
  cases a <;> simp [isScal] at ha <;> cases b <;> simp [isScal] at hb <;> simp_all [scV, seq, L2.scal] <;> (rw [Bool.eq_iff_iff]; simp)
theorem scal_or {a b : D} (ha : isScal a = true) (hb : isScal b = true) : L2.scal (scV a) (scV b) = true ∨ (shal 60 a = true ∧ shal 60 b = true) := by
  cases a <;> simp [isScal] at ha <;> cases b <;> simp [isScal] at hb <;> simp [scV, L2.scal, shal]

theorem opOk_cmp {o : CmpOp} {h : Int → Int → Bool} {g : D → D → Option D} (ho : OpR X (compareOp o) (rI0 fun i j => .bl (h i j)))
    (hg : ∀ x y d, g x y = some d → ∃ i j, x = .int i ∧ y = .int j ∧ d = .bl (h i j)) : OpOk S X (compareOp o) g := by
  refine ⟨_, ho, fun {φ F H σ env Td Tv x y d va vb Q} _ _ r e q => ?_⟩
  obtain ⟨i, j, rfl, rfl, rfl⟩ := hg _ _ _ e
  exact ⟨i, j, r.pop.int, r.int, q _ _ _ (r.pop2.pBl _)⟩
theorem isNon_ok (p : Rp S F H x v A) (h : isHole x = false) : decide (v = .non) = isNon x := by
  cases x with
  | hole => simp [isHole] at h
  | lst m xs => cases m <;> rw [Rp] at p
                · obtain ⟨_, a, vs, rfl, _⟩ := p; rfl
                · obtain ⟨a, vs, B, rfl, _⟩ := p; rfl
  | tup m xs => rw [Rp] at p; obtain ⟨_, a, vs, rfl, _⟩ := p; rfl
  | ins m c ns xs => cases m <;> rw [Rp] at p
                     · obtain ⟨_, a, C, dx, vs, rfl, _⟩ := p; rfl
                     · obtain ⟨a, C, dx, vs, B, rfl, _⟩ := p; rfl
  | scr ns => rw [Rp] at p; obtain ⟨_, a, rfl, _⟩ := p; rfl
  | non => rw [Rp] at p; obtain ⟨rfl, _⟩ := p; rfl
  | bl _ => rw [Rp] at p; obtain ⟨rfl, _⟩ := p; rfl
  | int _ => rw [Rp] at p; obtain ⟨rfl, _⟩ := p; rfl
  | str _ => rw [Rp] at p; obtain ⟨rfl, _⟩ := p; rfl
theorem deq_ok {t : Bool} (hK : X.K = S.K) (r : R S φ F H σ env (y :: x :: Td) (vb :: va :: Tv)) (e : deq x y = some t) :
    (L2.scal va vb = true ∧ decide (va = vb) = t) ∨ ∃ d e, Dp X.K H va d ∧ Dp X.K H vb e ∧ SeqAt.shaped d = true ∧ SeqAt.shaped e = true ∧ PyData.eqv d e = t := by
  obtain ⟨A, p⟩ := r.pop.top
  obtain ⟨B, q⟩ := r.top
  unfold deq at e
  have dp : shal 60 x = true → shal 60 y = true → deqN 60 x y = t → ∃ d e, Dp X.K H va d ∧ Dp X.K H vb e ∧ SeqAt.shaped d = true ∧ SeqAt.shaped e = true ∧ PyData.eqv d e = t := fun h1 h2 h3 => by
    rw [hK]
    exact ⟨pyOf x, pyOf y, shal_dp r.fh 60 x h1 p, shal_dp r.fh 60 y h2 q, shal_shaped h1, shal_shaped h2, by rw [← deqN_eqv 60 x y h1 h2]; exact h3⟩
  split at e
  · rename_i h
    simp only [Bool.and_eq_true] at h
    cases e
    rcases scal_or h.1 h.2 with hs | hs
    · rw [p.scal h.1, q.scal h.2]
      exact .inl ⟨hs, scal_seq h.1 h.2 hs⟩
    · exact .inr (dp hs.1 hs.2 (by rw [deqN_eqv 60 _ _ hs.1 hs.2, seq_eqv h.1 h.2]))
  · split at e
    · rename_i h
      simp only [Bool.and_eq_true] at h
      cases e
      exact .inr (dp h.1 h.2 rfl)
    · cases e
theorem in_ok0 {a : D} {xs : List D} (ha : isScal a = true) (hs : xs.all isScal = true) (hx : ∀ vs, Rps S F H xs vs [] → ∀ p, v = .ref p → (SqL X.K H p vs ∨ SqT X.K H p vs) → ∀ {neg : Bool} {Q : VK}, Q (.bl (if neg then !(xs.any fun x => seq x a) else xs.any fun x => seq x a)) H → rIn X.K neg (scV a) v H Q) : True := True.intro
theorem cmp_ok (hK : X.K = S.K) (hu : X.A.units + 64 < cLine) (o : CmpOp) : OpOk S X (compareOp o) (cmpD o) := by
  have inn : ∀ {φ : Fr} {F H : Hp} {σ : L2.St} {env : En} {Td : List D} {Tv : List V} {x y : D} {va vb : V} {xs : List D} {neg : Bool} {Q : VK}, R S φ F H σ env (y :: x :: Td) (vb :: va :: Tv) → y = .lst false xs ∨ y = .tup false xs → isScal x = true → xs.all isScal = true →
      Q (.bl (if neg then !(xs.any fun z => seq z x) else xs.any fun z => seq z x)) H → rIn X.K neg va vb H Q := by
    intro φ F H σ env Td Tv x y va vb xs neg Q r hy hx hs q
    obtain ⟨A, p⟩ := r.pop.top
    have ev := p.scal hx
    have fin : ∀ {a : Addr} {vs : List V}, vb = .ref a → (SqL X.K H a vs ∨ SqT X.K H a vs) → Rps S F H xs vs [] → rIn X.K neg va vb H Q := fun {a vs} e1 e2 qs => by
      have e3 := qs.flat hs
      subst e3
      refine ⟨a, _, e1, e2, by rw [ev]; exact flat_scV hx, all_flat hs, ?_⟩
      rw [ev, inV_eq hx hs]
      exact q
    rcases hy with rfl | rfl
    · obtain ⟨a, vs, e1, _, e2, qs⟩ := r.lf
      exact fin e1 (.inl (SqL.of e2)) qs
    · obtain ⟨a, vs, e1, _, e2, qs⟩ := r.tf
      exact fin e1 (.inr (SqT.of e2)) qs
  cases o with
  | Lt =>
    refine opOk_cmp op_lt fun x y d e => ?_
    unfold cmpD at e; simp only at e; split at e <;> simp_all
  | LtE =>
    refine opOk_cmp op_le fun x y d e => ?_
    unfold cmpD at e; simp only at e; split at e <;> simp_all
  | Gt =>
    refine opOk_cmp op_gt fun x y d e => ?_
    unfold cmpD at e; simp only at e; split at e <;> simp_all
  | GtE =>
    refine opOk_cmp op_ge fun x y d e => ?_
    unfold cmpD at e; simp only at e; split at e <;> simp_all
  | Is =>
    refine ⟨_, op_isN, fun {φ F H σ env Td Tv x y d va vb Q} hx hy r e q => ?_⟩
    unfold cmpD at e
    simp only at e
    split at e
    · split at e
      · cases e
      · rename_i h
        cases e
        obtain ⟨A, p⟩ := r.pop.top
        refine ⟨r.non, ?_⟩
        rw [isNon_ok p (by simpa using h)]
        exact q _ _ _ (r.pop2.pBl _)
    · cases e
  | IsNot =>
    refine ⟨_, op_notN, fun {φ F H σ env Td Tv x y d va vb Q} hx hy r e q => ?_⟩
    unfold cmpD at e
    simp only at e
    split at e
    · split at e
      · cases e
      · rename_i h
        cases e
        obtain ⟨A, p⟩ := r.pop.top
        refine ⟨r.non, ?_⟩
        rw [isNon_ok p (by simpa using h)]
        exact q _ _ _ (r.pop2.pBl _)
    · cases e
  | Eq =>
    refine ⟨_, op_eq.or (op_eqD hu), fun {φ F H σ env Td Tv x y d va vb Q} hx hy r e q => ?_⟩
    unfold cmpD at e
    simp only [Option.map_eq_some_iff] at e
    obtain ⟨t, e, rfl⟩ := e
    rcases deq_ok hK r e with ⟨h1, h2⟩ | ⟨d, e, h1, h2, h3, h4, h5⟩
    · exact .inl ⟨h1, by rw [h2]; exact q _ _ _ (r.pop2.pBl _)⟩
    · exact .inr ⟨d, e, h1, h2, h3, h4, by rw [h5]; exact q _ _ _ (r.pop2.pBl _)⟩
  | NotEq =>
    refine ⟨_, op_ne.or (op_neD hu), fun {φ F H σ env Td Tv x y d va vb Q} hx hy r e q => ?_⟩
    unfold cmpD at e
    simp only [Option.map_eq_some_iff] at e
    obtain ⟨t, e, rfl⟩ := e
    rcases deq_ok hK r e with ⟨h1, h2⟩ | ⟨d, e, h1, h2, h3, h4, h5⟩
    · exact .inl ⟨h1, by rw [h2]; exact q _ _ _ (r.pop2.pBl _)⟩
    · exact .inr ⟨d, e, h1, h2, h3, h4, by rw [h5]; exact q _ _ _ (r.pop2.pBl _)⟩
  | In =>
    refine ⟨_, op_in_seq, fun {φ F H σ env Td Tv x y d va vb Q} hx hy r e q => ?_⟩
    unfold cmpD at e
    simp only at e
    split at e <;> (first | (cases e; done) | skip)
    all_goals
      split at e
      · rename_i h
        simp only [Bool.and_eq_true] at h
        cases e
        simp only [D.own] at hy
        subst hy
        exact inn (neg := false) r (by simp) h.1 h.2 (q _ _ _ (r.pop2.pBl _))
      · cases e
  | NotIn =>
    refine ⟨_, op_notIn_seq, fun {φ F H σ env Td Tv x y d va vb Q} hx hy r e q => ?_⟩
    unfold cmpD at e
    simp only at e
    split at e <;> (first | (cases e; done) | skip)
    all_goals
      split at e
      · rename_i h
        simp only [Bool.and_eq_true] at h
        cases e
        simp only [D.own] at hy
        subst hy
        exact inn (neg := true) r (by simp) h.1 h.2 (q _ _ _ (r.pop2.pBl _))
      · cases e
end
end VS

/-! ## Srt -/
set_option maxRecDepth 100000
set_option maxHeartbeats 4000000
namespace VS
open PySem PySem.Spec PyProof.Rows L2
/-- sorted(xs), xs data that are alike -/
def rSortD (K : PySem.W.Frag) : List V → Hp → VK → Prop := fun vs H Q => ∃ (a : Addr) (bs : List (V × PyData)), vs = [.ref a] ∧ SqL K H a (bs.map (·.1)) ∧ (∀ b ∈ bs, Dp K H b.1 b.2) ∧ PySem.W.AllAlike (bs.map (·.2)) ∧ PySem.W.Sortable (bs.map (·.2)) ∧ (∀ b ∈ bs, b.2.depth ≤ 58) ∧
  ∀ p, H p = none → Q (.ref p) (upd H p (.lst ((bs.mergeSort (PySem.W.dataLe false (·.2))).map (·.1))))
section
variable {X : Cx}
theorem each_of {pins : List (Addr × Obj)} {σ : L2.St} {H : Hp} {s : Shared} (I : Inv X pins σ H s) : ∀ {bs : List (V × PyData)} {its : List Value}, Vals (bs.map (·.1)) its → (∀ b ∈ bs, Dp X.K H b.1 b.2) →
    PySem.W.EachIs (fun v (b : V × PyData) => RelV b.1 v) its bs ∧ PySem.W.EachIs (fun v (b : V × PyData) => ∃ as, Reads s.heap v b.2 as) its bs
  | [], _, .nil, _ => ⟨.nil, .nil⟩
  | b :: bs, _, .cons r rr, h => by
    obtain ⟨i1, i2⟩ := each_of I rr fun c hc => h c (by simp [hc])
    exact ⟨.cons r i1, .cons (Dp.reads I _ _ _ (h b (by simp)) r) i2⟩
theorem vals_each : ∀ {out : List Value} {bs : List (V × PyData)}, PySem.W.EachIs (fun v (b : V × PyData) => RelV b.1 v) out bs → Vals (bs.map (·.1)) out
  | _, _, .nil => .nil
  | _, _, .cons r rr => .cons r (vals_each rr)
theorem cr_sortD (hu : X.A.units + 64 < cLine) : CallR X (.builtin "sorted") (rSortD X.K) := by
  intro pins s σ H vs us Q I r h
  obtain ⟨a, bs, rfl, hs, hd, ha, hk, hz, q⟩ := h
  obtain ⟨its, rv, hl, hlen⟩ := I.list hs
  rw [Vals.ref1 r]
  obtain ⟨e1, e2⟩ := each_of I rv hd
  refine PySem.W.sorted_data (enc := fun b : V × PyData => b.2) hl.isList e1 e2 ha hk (by simpa using hlen) (fun b hb => by have := hz b hb; omega) fun out ho eo => ?_
  obtain ⟨ep, he'⟩ := PyProof.Rows.sortedAll_at s.heap its out.toArray
  have hl2 : ((bs.mergeSort (PySem.W.dataLe false (fun b : V × PyData => b.2))).map (·.1)).length ≤ sizeLine := by
    rw [List.length_map, List.length_mergeSort]; simpa using hlen
  exact ⟨.ref _, upd H (s.heap.objs.size + 1) (.lst ((bs.mergeSort (PySem.W.dataLe false (fun b : V × PyData => b.2))).map (·.1))), I.laid (t' := s.toks) (fun _ _ => PyProof.Rows.sortedAll_old) (Nat.le_succ _) ⟨hl2, out, ep, vals_each eo, he'⟩, rfl, q _ (I.hok.fresh (Nat.le_succ _))⟩
end
end VS

/-! ## Snd4 -/
set_option maxRecDepth 100000
set_option maxHeartbeats 4000000
namespace VS
open PySem PySem.Spec PyProof.Rows L2
section
variable {S : Sta} {φ : Fr} {W : WX} {F H F' H' : Hp} {σ : L2.St} {env : En} {Td Ud : List D} {Tv Uv : List V} {d e x y : D} {v w va vb : V} {A : List Addr} {X : Cx}

theorem idx_ixN {α : Type} (xs : List α) (i : Int) : idx xs i = ixN xs.length i := rfl
theorem idx_len {α β : Type} {xs : List α} {ys : List β} (h : xs.length = ys.length) (i : Int) : idx xs i = idx ys i := by unfold idx; rw [h]
theorem Rps.atI {ds : List D} {vs : List V} {i : Int} {j : Nat} (q : Rps S F H ds vs []) (e : idx ds i = some j) (e2 : ds[j]? = some d) : ∃ v, L2.atI vs i = some v ∧ Rp S F H d v [] := by
  obtain ⟨v, h1, h2⟩ := q.get e2
  refine ⟨v, ?_, h2⟩
  unfold L2.atI
  rw [← q.length, ← idx_ixN, e]
  exact h1
/-- a[i] -/
theorem sub_ok (hK : X.K = S.K) : IxR X (rIx X.K) ∧
    ∀ {φ : Fr} {F H : Hp} {σ : L2.St} {env : En} {Td : List D} {Tv : List V} {x y d : D} {va vb : V} {Q : VK}, R S φ F H σ env (y :: x :: Td) (vb :: va :: Tv) → subD x y = some d →
    (∀ v, R S φ F H σ env (d :: Td) (v :: Tv) → Q v H) → rIx X.K va vb H Q := by
  refine ⟨ix_seq, fun {φ F H σ env Td Tv x y d va vb Q} r e q => ?_⟩
  unfold subD at e
  split at e
  · simp only [Option.bind_eq_some_iff] at e
    obtain ⟨j, e1, e2⟩ := e
    obtain ⟨a, vs, rfl, _, ha, qs⟩ := r.pop.lf
    obtain ⟨v, h1, h2⟩ := qs.atI e1 e2
    exact .inl ⟨a, vs, _, v, rfl, r.int, SqL.of ha, h1, q v (r.pop2.push h2)⟩
  · simp only [Option.bind_eq_some_iff] at e
    obtain ⟨j, e1, e2⟩ := e
    obtain ⟨a, vs, rfl, _, ha, qs⟩ := r.pop.tf
    obtain ⟨v, h1, h2⟩ := qs.atI e1 e2
    exact .inr (.inl ⟨a, vs, _, v, rfl, r.int, SqT.of ha, h1, q v (r.pop2.push h2)⟩)
  · split at e
    · rename_i h
      simp only [Option.bind_eq_some_iff, Option.map_eq_some_iff] at e
      obtain ⟨j, e1, c, e2, rfl⟩ := e
      refine .inr (.inr ⟨_, _, c, r.pop.str, r.int, by rw [← lim_eq]; exact h, ?_, q _ (r.pop2.pStr _)⟩)
      unfold L2.atI
      rw [← idx_ixN, e1]
      exact e2
    · cases e
  · cases e

/-- a list, whosesoever -/
theorem R.la {m : Bool} {xs : List D} (r : R S φ F H σ env (.lst m xs :: Td) (v :: Tv)) : ∃ a vs B, v = .ref a ∧ H a = some (.lst vs) ∧ Rps S F H xs vs B := by
  obtain ⟨A, p⟩ := r.top
  cases m with
  | false =>
    rw [Rp] at p
    obtain ⟨_, a, vs, e, e2, q⟩ := p
    exact ⟨a, vs, _, e, r.fh _ _ e2, q⟩
  | true =>
    rw [Rp] at p
    obtain ⟨a, vs, B, e, _, e2, _, q⟩ := p
    exact ⟨a, vs, _, e, e2, q⟩
theorem R.ta {m : Bool} {xs : List D} (r : R S φ F H σ env (.tup m xs :: Td) (v :: Tv)) : ∃ a vs B, v = .ref a ∧ H a = some (.tup vs) ∧ Rps S F H xs vs B := by
  obtain ⟨A, p⟩ := r.top
  rw [Rp] at p
  obtain ⟨_, a, vs, e, e2, q⟩ := p
  exact ⟨a, vs, _, e, r.fh _ _ e2, q⟩
theorem nowns_any {xs : List D} (h : nowns xs = true) : xs.any D.own = false := by
  induction xs with
  | nil => rfl
  | cons x xs ih =>
    simp only [nowns, List.all_cons, Bool.and_eq_true] at h
    simp only [List.any_cons, Bool.or_eq_false_iff]
    exact ⟨by simpa using h.1, ih h.2⟩
theorem intsOf_ok : ∀ {ds : List D} {l : List Int} {vs : List V} {A : List Addr}, intsOf ds = some l → Rps S F H ds vs A → vs = l.map V.int
  | [], l, vs, A, e, q => by rw [Rps] at q; simp [intsOf] at e; rw [q.1, e]; rfl
  | d :: ds, l, vs, A, e, q => by
    rw [Rps] at q
    obtain ⟨v, ws, B1, B2, rfl, _, p, t⟩ := q
    cases d <;> simp [intsOf] at e
    obtain ⟨l', e1, rfl⟩ := e
    rw [Rp] at p
    rw [intsOf_ok e1 t, p.1]; rfl
theorem blsOf_ok : ∀ {ds : List D} {l : List Bool} {vs : List V} {A : List Addr}, blsOf ds = some l → Rps S F H ds vs A → vs = l.map V.bl
  | [], l, vs, A, e, q => by rw [Rps] at q; simp [blsOf] at e; rw [q.1, e]; rfl
  | d :: ds, l, vs, A, e, q => by
    rw [Rps] at q
    obtain ⟨v, ws, B1, B2, rfl, _, p, t⟩ := q
    cases d <;> simp [blsOf] at e
    obtain ⟨l', e1, rfl⟩ := e
    rw [Rp] at p
    rw [blsOf_ok e1 t, p.1]; rfl
theorem foldmax : ∀ (xs : List Int) (x : Int), let m := xs.foldl (fun a b => if b > a then b else a) x; x ≤ m ∧ (∀ y ∈ xs, y ≤ m) ∧ (m = x ∨ m ∈ xs)
  | [], x => by simp
  | z :: xs, x => by
    simp only [List.foldl_cons]
    by_cases h : z > x
    · simp only [if_pos h]
      have := foldmax xs z
      simp only at this
      refine ⟨by omega, ?_, ?_⟩
      · intro y hy
        rcases List.mem_cons.mp hy with rfl | hy
        · exact this.1
        · exact this.2.1 y hy
      · rcases this.2.2 with h2 | h2
        · exact .inr (by rw [h2]; exact List.mem_cons_self)
        · exact .inr (List.mem_cons_of_mem _ h2)
    · simp only [if_neg h]
      have := foldmax xs x
      simp only at this
      refine ⟨this.1, ?_, ?_⟩
      · intro y hy
        rcases List.mem_cons.mp hy with rfl | hy
        · omega
        · exact this.2.1 y hy
      · rcases this.2.2 with h2 | h2
        · exact .inl h2
        · exact .inr (List.mem_cons_of_mem _ h2)
theorem maxL_of {ns : List Int} {m k : Int} (e : maxL ns = some k) (h1 : m ∈ ns) (h2 : ∀ y ∈ ns, y ≤ m) : m = k := by
  cases ns with
  | nil => simp [maxL] at e
  | cons x xs =>
    simp only [maxL, Option.some.injEq] at e
    have h := foldmax xs x
    simp only [e] at h
    have a : m ≤ k := by
      rcases List.mem_cons.mp h1 with rfl | h1
      · exact h.1
      · exact h.2.1 m h1
    have b : k ≤ m := by
      rcases h.2.2 with h3 | h3
      · rw [h3]; exact h2 x List.mem_cons_self
      · exact h2 k (List.mem_cons_of_mem _ h3)
    omega

def Bi.val : Bi → Value
  | .len => .builtin "len" | .abs => .builtin "abs" | .sum => .builtin "sum" | .all => .builtin "all" | .any => .builtin "any" | .max1 => .builtin "max" | .max2 => .builtin "max" | .min2 => .builtin "min"
  | .int => .type "int" | .str => .type "str" | .tuple => .type "tuple" | .list => .type "list" | .sorted => .builtin "sorted"
theorem Bi.boot (b : Bi) : bootBuiltins b.nm = some b.val := by cases b <;> decide +kernel

/-- a builtin of values -/
theorem Rps.pairs : ∀ {ps : List (V × D)}, (∀ p ∈ ps, Rp S F H p.2 p.1 []) → Rps S F H (ps.map (·.2)) (ps.map (·.1)) []
  | [], _ => Rps.nil
  | p :: ps, h => by
    have := Rps.cons (h p (by simp)) (Rps.pairs (ps := ps) fun q hq => h q (List.mem_cons_of_mem _ hq))
    simpa using this
theorem Rps.zipped : ∀ {xs : List D} {vs : List V}, Rps S F H xs vs [] → (vs.zip xs).map (·.1) = vs ∧ (vs.zip xs).map (·.2) = xs ∧ ∀ p ∈ vs.zip xs, Rp S F H p.2 p.1 []
  | [], _, h => by rw [Rps] at h; obtain ⟨rfl, _⟩ := h; exact ⟨rfl, rfl, by simp⟩
  | x :: xs, _, h => by
    rw [Rps] at h
    obtain ⟨v, ws, A1, A2, rfl, hA, p1, p2⟩ := h
    obtain ⟨rfl, rfl⟩ := List.append_eq_nil_iff.mp hA.symm
    obtain ⟨i1, i2, i3⟩ := Rps.zipped p2
    refine ⟨by simp [i1], by simp [i2], fun p hp => ?_⟩
    rcases List.mem_cons.mp (show p ∈ (v, x) :: ws.zip xs from hp) with z | z
    · subst z; exact p1
    · exact i3 p z
theorem bi_ok (hK : X.K = S.K) (hc : X.calm = true) (hu : X.A.units + 64 < cLine) (b : Bi) : ∃ r : List V → Hp → VK → Prop, CallR X b.val r ∧
    ∀ {φ : Fr} {F H : Hp} {σ : L2.St} {env : En} {Td ds : List D} {Tv vs : List V} {d : D} {Q : VK}, ds.length = vs.length → R S φ F H σ env (ds ++ Td) (vs ++ Tv) → biD b ds = some d →
    (∀ F' H' v, R S φ F' H' σ env (d :: (ds ++ Td)) (v :: (vs ++ Tv)) → Q v H') → r vs H Q := by
  have one : ∀ {ds : List D} {vs : List V} {d : D}, ds = [d] → ds.length = vs.length → ∃ v, vs = [v] := by
    intro ds vs d e l; subst e
    match vs, l with
    | [v], _ => exact ⟨v, rfl⟩
  have two : ∀ {ds : List D} {vs : List V} {d e : D}, ds = [d, e] → ds.length = vs.length → ∃ v w, vs = [v, w] := by
    intro ds vs d e h l; subst h
    match vs, l with
    | [v, w], _ => exact ⟨v, w, rfl⟩
  cases b with
  | len =>
    refine ⟨_, call_len_seq.or call_len_str, fun {φ F H σ env Td ds Tv vs d Q} el r e q => ?_⟩
    unfold biD at e
    split at e <;> (first | (simp at e; done) | skip) <;> (first | (simp only [reduceCtorEq] at *; done) | skip)
    · obtain ⟨v, rfl⟩ := one rfl el
      cases e
      obtain ⟨a, us, B, rfl, ha, qs⟩ := R.la r
      refine .inl ⟨a, us, rfl, .inl (SqL.of ha), ?_⟩
      rw [← qs.length]
      exact q _ _ _ (r.pInt _)
    · obtain ⟨v, rfl⟩ := one rfl el
      cases e
      obtain ⟨a, us, B, rfl, ha, qs⟩ := R.ta r
      refine .inl ⟨a, us, rfl, .inr (SqT.of ha), ?_⟩
      rw [← qs.length]
      exact q _ _ _ (r.pInt _)
    · obtain ⟨v, rfl⟩ := one rfl el
      split at e
      · rename_i h
        cases e
        obtain rfl := R.str r
        exact .inr ⟨_, rfl, by rw [← lim_eq]; exact h, q _ _ _ (r.pInt _)⟩
      · cases e
  | abs =>
    refine ⟨_, call_abs, fun {φ F H σ env Td ds Tv vs d Q} el r e q => ?_⟩
    unfold biD at e
    split at e <;> (first | (simp at e; done) | skip) <;> (first | (simp only [reduceCtorEq] at *; done) | skip)
    obtain ⟨v, rfl⟩ := one rfl el
    cases e
    obtain rfl := R.int r
    exact ⟨_, rfl, q _ _ _ (r.pInt _)⟩
  | sum =>
    refine ⟨_, cr_sum hc, fun {φ F H σ env Td ds Tv vs d Q} el r e q => ?_⟩
    unfold biD at e
    split at e <;> (first | (simp at e; done) | skip) <;> (first | (simp only [reduceCtorEq] at *; done) | skip)
    obtain ⟨v, rfl⟩ := one rfl el
    simp only [Option.map_eq_some_iff] at e
    obtain ⟨l, e, rfl⟩ := e
    obtain ⟨a, us, B, rfl, ha, qs⟩ := R.la r
    have eu := intsOf_ok e qs
    subst eu
    exact ⟨a, l, rfl, SqL.of ha, q _ _ _ (r.pInt _)⟩
  | all =>
    refine ⟨_, cr_all hc, fun {φ F H σ env Td ds Tv vs d Q} el r e q => ?_⟩
    unfold biD at e
    split at e <;> (first | (simp at e; done) | skip) <;> (first | (simp only [reduceCtorEq] at *; done) | skip)
    obtain ⟨v, rfl⟩ := one rfl el
    simp only [Option.map_eq_some_iff] at e
    obtain ⟨l, e, rfl⟩ := e
    obtain ⟨a, us, B, rfl, ha, qs⟩ := R.la r
    have eu := blsOf_ok e qs
    subst eu
    exact ⟨a, l, rfl, SqL.of ha, q _ _ _ (r.pBl _)⟩
  | any =>
    refine ⟨_, cr_any hc, fun {φ F H σ env Td ds Tv vs d Q} el r e q => ?_⟩
    unfold biD at e
    split at e <;> (first | (simp at e; done) | skip) <;> (first | (simp only [reduceCtorEq] at *; done) | skip)
    obtain ⟨v, rfl⟩ := one rfl el
    simp only [Option.map_eq_some_iff] at e
    obtain ⟨l, e, rfl⟩ := e
    obtain ⟨a, us, B, rfl, ha, qs⟩ := R.la r
    have eu := blsOf_ok e qs
    subst eu
    exact ⟨a, l, rfl, SqL.of ha, q _ _ _ (r.pBl _)⟩
  | max1 =>
    refine ⟨_, cr_max hc, fun {φ F H σ env Td ds Tv vs d Q} el r e q => ?_⟩
    unfold biD at e
    split at e <;> (first | (simp at e; done) | skip) <;> (first | (simp only [reduceCtorEq] at *; done) | skip)
    obtain ⟨v, rfl⟩ := one rfl el
    simp only [Option.bind_eq_some_iff, Option.map_eq_some_iff] at e
    obtain ⟨l, e, k, e2, rfl⟩ := e
    obtain ⟨a, us, B, rfl, ha, qs⟩ := R.la r
    have eu := intsOf_ok e qs
    subst eu
    refine ⟨a, l, rfl, SqL.of ha, ?_, fun m h1 h2 => ?_⟩
    · cases l with
      | nil => simp [maxL] at e2
      | cons x xs => simp
    · rw [maxL_of e2 h1 h2]
      exact q _ _ _ (r.pInt _)
  | max2 =>
    refine ⟨_, call_max2 hc, fun {φ F H σ env Td ds Tv vs d Q} el r e q => ?_⟩
    unfold biD at e
    split at e <;> (first | (simp at e; done) | skip) <;> (first | (simp only [reduceCtorEq] at *; done) | skip)
    obtain ⟨v, w, rfl⟩ := two rfl el
    cases e
    obtain rfl := R.int r
    obtain rfl := R.int (R.pop r)
    exact ⟨_, _, rfl, q _ _ _ (r.pInt _)⟩
  | min2 =>
    refine ⟨_, call_min2 hc, fun {φ F H σ env Td ds Tv vs d Q} el r e q => ?_⟩
    unfold biD at e
    split at e <;> (first | (simp at e; done) | skip) <;> (first | (simp only [reduceCtorEq] at *; done) | skip)
    obtain ⟨v, w, rfl⟩ := two rfl el
    cases e
    obtain rfl := R.int r
    obtain rfl := R.int (R.pop r)
    exact ⟨_, _, rfl, q _ _ _ (r.pInt _)⟩
  | int =>
    refine ⟨_, call_int1, fun {φ F H σ env Td ds Tv vs d Q} el r e q => ?_⟩
    unfold biD at e
    split at e <;> (first | (simp at e; done) | skip) <;> (first | (simp only [reduceCtorEq] at *; done) | skip)
    obtain ⟨v, rfl⟩ := one rfl el
    cases e
    obtain rfl := R.int r
    exact .inl ⟨_, rfl, q _ _ _ (r.pInt _)⟩
  | str =>
    refine ⟨_, call_str_int, fun {φ F H σ env Td ds Tv vs d Q} el r e q => ?_⟩
    unfold biD at e
    split at e <;> (first | (simp at e; done) | skip) <;> (first | (simp only [reduceCtorEq] at *; done) | skip)
    obtain ⟨v, rfl⟩ := one rfl el
    split at e
    · rename_i h
      cases e
      obtain rfl := R.int r
      exact ⟨_, rfl, h, q _ _ _ (r.pStr _)⟩
    · cases e
  | tuple =>
    refine ⟨_, call_tuple_of, fun {φ F H σ env Td ds Tv vs d Q} el r e q => ?_⟩
    unfold biD at e
    split at e <;> (first | (simp at e; done) | skip) <;> (first | (simp only [reduceCtorEq] at *; done) | skip)
    · obtain ⟨v, rfl⟩ := one rfl el
      split at e
      · rename_i h
        cases e
        obtain ⟨a, us, B, rfl, ha, qs⟩ := R.la r
        have eb := qs.nown (nowns_any h)
        subst eb
        exact ⟨a, us, rfl, .inl ⟨SqL.of ha, fun p hp => q _ _ _ (r.newTF qs hp)⟩⟩
      · cases e
    · obtain ⟨v, rfl⟩ := one rfl el
      cases e
      obtain ⟨a, us, rfl, fa, ha, qs⟩ := R.tf r
      exact ⟨a, us, rfl, .inr ⟨SqT.of ha, q _ _ _ (r.push (R.fz r rfl))⟩⟩
  | list =>
    refine ⟨_, call_list_of, fun {φ F H σ env Td ds Tv vs d Q} el r e q => ?_⟩
    unfold biD at e
    split at e <;> (first | (simp at e; done) | skip) <;> (first | (simp only [reduceCtorEq] at *; done) | skip)
    · obtain ⟨v, rfl⟩ := one rfl el
      split at e
      · rename_i h
        cases e
        obtain ⟨a, us, B, rfl, ha, qs⟩ := R.la r
        have eb := qs.nown (nowns_any h)
        subst eb
        exact ⟨a, us, rfl, .inl (SqL.of ha), fun p hp => q _ _ _ (r.newLF qs hp)⟩
      · cases e
    · obtain ⟨v, rfl⟩ := one rfl el
      cases e
      obtain ⟨a, us, rfl, fa, ha, qs⟩ := R.tf r
      exact ⟨a, us, rfl, .inr (SqT.of ha), fun p hp => q _ _ _ (r.newLF qs hp)⟩
    · obtain ⟨v, rfl⟩ := one rfl el
      cases e
      have p := R.fz r rfl
      rw [Rp] at p
      obtain ⟨_, a, rfl, hs⟩ := p
      have qs : ∀ ns : List Int, Rps S F H (ns.map D.int) (ns.map V.int) [] := by
        intro ns
        induction ns with
        | nil => exact .nil
        | cons n ns ih => have h1 : Rp S F H (.int n) (.int n) [] := by rw [Rp]; exact ⟨rfl, rfl⟩
                          simpa using Rps.cons h1 ih
      exact ⟨a, _, rfl, .inl (by rw [hK]; exact r.fh.seq hs), fun p hp => q _ _ _ (r.newLF (qs _) hp)⟩
  | sorted =>
    refine ⟨_, cr_sortD hu, fun {φ F H σ env Td ds Tv vs d Q} el r e q => ?_⟩
    unfold biD at e
    split at e <;> (first | (simp at e; done) | skip) <;> (first | (simp only [reduceCtorEq] at *; done) | skip)
    rename_i xs m
    obtain ⟨v, rfl⟩ := one rfl el
    rw [srtF_eq _ _ _ (Nat.le_refl _)] at e
    split at e
    · rename_i hh
      cases e
      simp only [Bool.and_eq_true, Bool.or_eq_true] at hh
      obtain ⟨⟨⟨h0, h1⟩, h2⟩, h3⟩ := hh
      obtain ⟨a, us, B, rfl, ha, qs⟩ := R.la r
      have hB : B = [] := Rps.nown qs (nowns_any h0)
      subst hB
      obtain ⟨z1, z2, z3⟩ := qs.zipped
      have hsh : ∀ x ∈ xs, shal 58 x = true := List.all_eq_true.mp h1
      have mem2 : ∀ p ∈ us.zip xs, p.2 ∈ xs := fun p hp => by rw [← z2]; exact List.mem_map.mpr ⟨p, hp, rfl⟩
      let bs := (us.zip xs).map fun p => (p.1, pyOf p.2)
      have b1 : bs.map (·.1) = us := by show List.map _ (List.map _ _) = _; rw [List.map_map]; exact z1
      have b2 : bs.map (·.2) = xs.map pyOf := by
        show List.map _ (List.map _ _) = _
        rw [List.map_map, ← z2, List.map_map]
        rw [z2]
        rfl
      refine ⟨a, bs, rfl, by rw [b1]; exact SqL.of ha, ?_, ?_, ?_, ?_, fun p hp => ?_⟩
      · intro b hb
        obtain ⟨p, hp, rfl⟩ := List.mem_map.mp hb
        rw [hK]
        exact shal_dp r.fh 58 _ (hsh _ (mem2 p hp)) (z3 p hp)
      · rw [b2]
        intro d1 hd1 d2 hd2
        obtain ⟨x, hx, rfl⟩ := List.mem_map.mp hd1
        obtain ⟨y, hy, rfl⟩ := List.mem_map.mp hd2
        unfold alikeB at h2
        have := List.all_eq_true.mp h2 x hx
        exact List.all_eq_true.mp this y hy
      · rw [b2]
        rcases h3 with h3 | h3
        · refine .inl fun d1 hd1 => ?_
          obtain ⟨x, hx, rfl⟩ := List.mem_map.mp hd1
          have := List.all_eq_true.mp h3 x hx
          unfold tup1 at this
          split at this
          · exact ⟨_, _, rfl⟩
          · cases this
        · refine .inr fun d1 hd1 => ?_
          obtain ⟨x, hx, rfl⟩ := List.mem_map.mp hd1
          have := List.all_eq_true.mp h3 x hx
          unfold atom at this
          split at this
          · exact ⟨by simp [pyOf], by simp [pyOf]⟩
          · exact ⟨by simp [pyOf], by simp [pyOf]⟩
          · cases this
      · intro b hb
        obtain ⟨p, hp, rfl⟩ := List.mem_map.mp hb
        exact (shal_lay 58 _ (hsh _ (mem2 p hp))).2
      · have e1 : bs.mergeSort (PySem.W.dataLe false (·.2)) = ((us.zip xs).mergeSort (PySem.W.dataLe false fun p => pyOf p.2)).map fun p => (p.1, pyOf p.2) :=
          (List.map_mergeSort (f := fun p : V × D => (p.1, pyOf p.2)) (r := PySem.W.dataLe false fun p : V × D => pyOf p.2) (s := PySem.W.dataLe false fun b : V × PyData => b.2) (fun x _ y _ => rfl)).symm
        have e2 : xs.mergeSort (PySem.W.dataLe false pyOf) = ((us.zip xs).mergeSort (PySem.W.dataLe false fun p => pyOf p.2)).map (·.2) := by
          rw [List.map_mergeSort (f := fun p : V × D => p.2) (r := PySem.W.dataLe false fun p : V × D => pyOf p.2) (s := PySem.W.dataLe false pyOf) (fun x _ y _ => rfl), z2]
        have qs2 : Rps S F H (((us.zip xs).mergeSort (PySem.W.dataLe false fun p => pyOf p.2)).map (·.2)) (((us.zip xs).mergeSort (PySem.W.dataLe false fun p => pyOf p.2)).map (·.1)) [] :=
          Rps.pairs fun p hp => z3 p ((List.mergeSort_perm _ _).mem_iff.mp hp)
        have := r.newLF qs2 hp
        rw [← e2] at this
        have e3 : (bs.mergeSort (PySem.W.dataLe false (·.2))).map (·.1) = ((us.zip xs).mergeSort (PySem.W.dataLe false fun p => pyOf p.2)).map (·.1) := by
          rw [e1, List.map_map]; rfl
        rw [e3]
        exact q _ _ _ this
    · cases e
end
end VS

/-! ## Snd5 -/
set_option maxRecDepth 100000
set_option maxHeartbeats 4000000
namespace VS
open PySem PySem.Spec PyProof.Rows L2

/-! ### defs -/
structure Aft (S : Sta) (F H : Hp) (A : List Addr) (F' H' : Hp) (ds : List D) (vs : List V) : Prop where
  ff : Same F F'
  fh : Same F' H'
  cl : ∃ B, Rps S F' H' ds vs B ∧ B.Nodup ∧ ∀ a ∈ B, a ∈ A ∨ H a = none
  fn : ∀ a, F' a ≠ none → F a = none → H a = none ∨ a ∈ A
  hh : ∀ a o, H a = some o → a ∉ A → H' a = some o
  dm : ∀ a, H' a = none → H a = none
/-- what a def promises -/
def spOf (S : Sta) (fn : Fn) : Sp := fun vs H Q E => ∃ F ds A, Same F H ∧ Rps S F H ds vs A ∧ A.Nodup ∧ ds.length = fn.ps.length ∧ match fn.sem ds with
  | .bad => False
  | .ok d outs => ∀ F' H' v, Aft S F H A F' H' (outs ++ [d]) (ioOf fn.io vs ++ [v]) → Q v H'
  | .exc x outs => ∀ F' H' cls dd, Aft S F H A F' H' outs (ioOf fn.io vs) → ExAt S F' H' cls dd x → E cls dd H'
structure Gb where
  P : Program
  w : World
  base : Heap
  S : Sta
  k : Nat
def Dfl (G : Gb) (fd : FuncData) (fn : Fn) : Prop := fn.df.all isScal = true ∧ ∀ j, j ≤ fn.df.length → ∃ ds, Binds G.S.K fd fn.ps ds ∧ Vals ((fn.df.drop j).map scV) ds
/-- how its keywords bind -/
def Kwd (fd : FuncData) (fn : Fn) : Prop := ∀ ks ∈ fn.kws, ∀ (s : Shared) (ws : List Value), ws.length = ks.length → BindsTo s fd ⟨[], ks.zip ws⟩ (fn.ps.zip (permK fn.ps ks ws))
def FnSem (G : Gb) (fn : Fn) : Prop := match fn.wh with
  | .meth k => ∃ C f fd, G.S.mg k = some (.ref C) ∧ Cls G.S.K C ∧ Meth G.S.K C fn.name f ∧ Dfl G fd fn ∧ FnOk G.P G.w G.S.K G.S.mg G.base (L2N.CX G.P G.w) G.k f fd fn.ps (spOf G.S fn)
  | .init k => ∃ k0 C f fd, G.k = k0 + 1 ∧ G.S.mg k = some (.ref C) ∧ InsOk G.S.K C [] ∧ Mk G.S.K C f ∧ Dfl G fd fn ∧ FnOk G.P G.w G.S.K G.S.mg G.base (L2N.CX G.P G.w) k0 f fd fn.ps (spOf G.S fn)
  | .top => ∃ f fd, G.S.mg fn.name = some (.ref f) ∧ PySem.W.keepIn G.S.K (.ref f) = true ∧ (Dfl G fd fn ∧ Kwd fd fn) ∧ FnOk G.P G.w G.S.K G.S.mg G.base (L2N.CX G.P G.w) G.k f fd fn.ps (spOf G.S fn)
  | _ => False
def CtV (G : Gb) : Ct → Value → Prop
  | .ty t, u => u = .type t.nm
  | .non, u => u = .type "NoneType"
  | .own c, u => ∃ C, G.S.mg c = some (.ref C) ∧ u = .ref C
def KtOk (G : Gb) (p : Ct × Ct × Bool) : Prop := ∃ t u, CtV G p.1 t ∧ CtV G p.2.1 u ∧ PySem.W.kitOne G.S.K t u = some p.2.2
structure GX (G : Gb) (c : Cc) (X : Cx) (W : WX) : Prop where
  hP : X.prog = G.P
  hw : X.w = G.w
  hb : X.base = G.base
  hK : X.K = G.S.K
  hm : X.mg = G.S.mg
  N : X.N = c.N
  nd : c.N.Nodup
  sc : X.env.scope = c.sc
  st : ∀ x, c.st x = true → X.fn x = true
  calm : X.calm = true
  room : Room G.k X.A
  tk : L2N.Takes X W
  bl : ∀ x ∈ c.bl, G.S.mg x = none
  gl : ∀ p ∈ c.gl, ∃ u, G.S.mg p.1 = some u ∧ RelV (scV p.2) u
  kt : ∀ p ∈ c.kt, KtOk G p
  fl : ∀ p ∈ c.fl, ∃ C, G.S.mg p.1 = some (.ref C) ∧ NoAttr G.S.K C p.2
  gcd : c.gcd = true → G.S.mg "gcd" = some (.builtin "math.gcd")
theorem PE.imp {X : Cx} {e : Expr} {t t' : TE} (h : PE X e t) (k : ∀ σ H Q, t' σ H Q → t σ H Q) : PE X e t' := ⟨fun pins s σ H Q I q => h.run pins s σ H Q I (k σ H Q q)⟩
theorem PT.imp {X : Cx} {e : Expr} {t t' : TT} (h : PT X e t) (k : ∀ σ H Q, t' σ H Q → t σ H Q) : PT X e t' := ⟨fun pins s σ H Q I q => h.run pins s σ H Q I (k σ H Q q)⟩
theorem PA.imp {X : Cx} {e : List Expr} {t t' : TA} (h : PA X e t) (k : ∀ σ H Q, t' σ H Q → t σ H Q) : PA X e t' := ⟨fun ps pins s σ H Q I q => h.run ps pins s σ H Q I (k σ H Q q)⟩
theorem PS.imp {X : Cx} {e : Stmt} {t t' : TS} (h : PS X e t) (k : ∀ D σ H, t' D σ H → t D σ H) : PS X e t' := ⟨fun pins s σ H D I q => h.run pins s σ H D I (k D σ H q)⟩
theorem PSs.imp {X : Cx} {e : List Stmt} {t t' : TS} (h : PSs X e t) (k : ∀ D σ H, t' D σ H → t D σ H) : PSs X e t' := ⟨fun pins s σ H D I q => h.run pins s σ H D I (k D σ H q)⟩

section
variable {G : Gb} {c : Cc} {X : Cx} {W : WX}
theorem okName_dbg {x : Str} (h : okName x = true) : (x == ("__debug__" : Str)) = false := by
  unfold okName at h; simp only [Bool.and_eq_true] at h; simpa using h.1.1
theorem okName_cd {x : Str} (h : okName x = true) : (x == ("__classdict__" : Str)) = false := by
  unfold okName at h; simp only [Bool.and_eq_true] at h; simpa using h.1.2
theorem okName_nm {x : Str} (h : okName x = true) : x ≠ ("__name__" : Str) := by
  unfold okName at h; simp only [Bool.and_eq_true] at h; simpa using h.2
theorem GX.pv (g : GX G c X W) {x : Str} {i : Nat} {pos : Pos} (h : c.vis x i = true) : PE X (.Name x pos) (tVar i) := by
  unfold Cc.vis at h
  simp only [Bool.and_eq_true, decide_eq_true_eq] at h
  refine pe_var (by rw [g.N]; exact h.1.1) ?_ (okName_dbg h.1.2) (okName_cd h.1.2)
  unfold Vis
  rw [g.sc]
  have := h.2
  split at this <;> simp_all
theorem GX.gl' (g : GX G c X W) {x : Str} (h : c.glb x = true) : Gl X x ∧ okName x = true := by
  unfold Cc.glb at h
  simp only [Bool.and_eq_true] at h
  refine ⟨?_, h.1⟩
  show X.env.scope.names.lookup x = _
  rw [g.sc]
  have := h.2
  split at this <;> simp_all
theorem GX.blt (g : GX G c X W) {x : Str} (h : c.blt x = true) : Gl X x ∧ X.mg x = none ∧ okName x = true := by
  unfold Cc.blt at h
  simp only [Bool.and_eq_true] at h
  obtain ⟨h1, h2⟩ := g.gl' h.1
  exact ⟨h1, by rw [g.hm]; exact g.bl x (by simpa using h.2), h2⟩
theorem GX.pg (g : GX G c X W) {x : Str} {i : Nat} {pos : Pos} (h : c.sto x i = true) : PG X (.Name x pos) (gName i) ∧ c.N[i]? = some x ∧ okName x = true ∧ i ∉ c.keep ∧ L2.Loc X.env.scope x ∧ (X.fn x = true ∨ X.env.scope.names.lookup x = some .local) := by
  unfold Cc.sto at h
  simp only [Bool.and_eq_true, decide_eq_true_eq] at h
  have hl : L2.Loc X.env.scope x ∧ (X.fn x = true ∨ X.env.scope.names.lookup x = some .local) := by
    unfold L2.Loc
    rw [g.sc]
    have := h.2
    split at this
    · rename_i e; exact ⟨.inl e, .inr e⟩
    · rename_i e; exact ⟨.inr e, .inl (g.st x this)⟩
    · cases this
  exact ⟨pg_name (by rw [g.N]; exact g.nd) (by rw [g.N]; exact h.1.1.1) hl.1 hl.2, h.1.1.1, h.1.1.2, by simpa using h.1.2, hl⟩
theorem star_of {e : Expr} {es : List Expr} {env : PySem.Env} (h : isStar e = false) : starEach (e :: es) env = (false, eval e env) :: starEach es env := by
  cases e <;> first | rfl | (simp [isStar] at h)
theorem asg_of {e : Expr} {es : List Expr} {env : PySem.Env} (h : isStar e = false) : assignEach (e :: es) env = (false, assign e env) :: assignEach es env := by
  cases e <;> first | rfl | (simp [isStar] at h)

abbrev PEo (G : Gb) (c : Cc) (e : E) (ast : Expr) : Prop := chk c e ast = true → e.ok (FnSem G) → ∀ (X : Cx) (W : WX), GX G c X W → PE X ast (tE G.S W (ev e))
abbrev PTo (G : Gb) (c : Cc) (e : E) (ast : Expr) : Prop := chkT c e ast = true → e.ok (FnSem G) → ∀ (X : Cx) (W : WX), GX G c X W → PT X ast (tT G.S W (tst e))

theorem r_var {i : Nat} {x : Str} {pos : Pos} : PEo G c (.var i) (.Name x pos) := fun h _ X W g => by
  simp only [chk] at h
  refine PE.imp (g.pv h) fun σ H Q ⟨φ, F, env, Td, Tv, r, p⟩ => ?_
  simp only [ev, rdv] at p
  cases hd : env[i]? with
  | none => rw [hd] at p; exact p.elim
  | some d =>
    rw [hd] at p
    by_cases hh : d = .hole
    · subst hh; exact p.elim
    obtain ⟨v, hv, r1⟩ := r.take hd hh
    have p' : PostE G.S φ W σ Td Tv (if d.own then .ok d.frz (env.set i d.frz) else .ok d env) Q := by
      cases d <;> first | exact p | exact absurd rfl hh
    refine ⟨v, hv, ?_⟩
    by_cases ho : d.own = true
    · rw [if_pos ho] at p'
      obtain ⟨F1, r2⟩ := r1.freeze
      have r3 := (r2.dup (D.frz_own d)).back hv
      rw [List.set_set] at r3
      exact p' _ _ _ r3
    · have ho' : d.own = false := by simpa using ho
      rw [if_neg ho] at p'
      have r3 := (r1.dup ho').back hv
      rw [List.set_set] at r3
      have e : env.set i d = env := by
        apply List.ext_getElem?; intro j
        rw [List.getElem?_set]
        by_cases h : i = j
        · subst h
          obtain ⟨h1, h2⟩ := List.getElem?_eq_some_iff.mp hd
          simp [h1, h2]
        · simp [h]
      rw [e] at r3
      exact p' _ _ _ r3
theorem r_glo {x y : Str} {d : D} {pos : Pos} : PEo G c (.glo x d) (.Name y pos) := fun h _ X W g => by
  simp only [chk, Bool.and_eq_true, beq_iff_eq, List.any_eq_true] at h
  obtain ⟨⟨rfl, h1⟩, p, hp, rfl, h3⟩ := h
  obtain ⟨hg, hn⟩ := g.gl' h1
  obtain ⟨u, hm, hr⟩ := g.gl p hp
  refine PE.imp (pe_glob (v := scV p.2) hg (by rw [g.hm]; exact hm) hr (okName_dbg hn)) fun σ H Q ⟨φ, F, env, Td, Tv, r, q⟩ => ?_
  simp only [ev] at q
  show Q _ H
  refine q F H _ (r.push ?_)
  obtain ⟨p1, p2⟩ := p
  cases p2 <;> cases d <;> simp [scEq] at h3 <;> (subst h3; rw [Rp]; exact ⟨rfl, rfl⟩)
theorem r_int {i j : Int} {k : Nat} {pos : Pos} : PEo G c (.int i) (.Constant (.int j) k pos) := fun h _ X W g => by
  simp only [chk, beq_iff_eq] at h
  subst h
  exact PE.imp pe_int fun σ H Q ⟨φ, F, env, Td, Tv, r, q⟩ => q F H _ (r.pInt i)
theorem r_bl {i j : Bool} {k : Nat} {pos : Pos} : PEo G c (.bl i) (.Constant (.bool j) k pos) := fun h _ X W g => by
  simp only [chk, beq_iff_eq] at h
  subst h
  exact PE.imp pe_bl fun σ H Q ⟨φ, F, env, Td, Tv, r, q⟩ => q F H _ (r.pBl i)
theorem r_str {i j : Str} {k : Nat} {pos : Pos} : PEo G c (.str i) (.Constant (.str j) k pos) := fun h _ X W g => by
  simp only [chk, beq_iff_eq] at h
  subst h
  exact PE.imp pe_str fun σ H Q ⟨φ, F, env, Td, Tv, r, q⟩ => q F H _ (r.pStr i)
theorem r_non {k : Nat} {pos : Pos} : PEo G c .non (.Constant .none k pos) := fun h _ X W g =>
  PE.imp pe_non fun σ H Q ⟨φ, F, env, Td, Tv, r, q⟩ => q F H _ r.pNon
theorem PostE.opt {S : Sta} {φ : Fr} {σ : L2.St} {Td : List D} {Tv : List V} {o : Option D} {e : En} {Q : VK} (h : PostE S φ W σ Td Tv (Rs.opt o e) Q) : ∃ d, o = some d ∧ ∀ F H v, R S φ F H σ e (d :: Td) (v :: Tv) → Q v H := by
  cases o with
  | none => exact h.elim
  | some d => exact ⟨d, rfl, h⟩
theorem r_bin {o p : Operator} {a b : E} {l m : Expr} {pos : Pos} (ia : PEo G c a l) (ib : PEo G c b m) : PEo G c (.bin o a b) (.BinOp l p m pos) := fun h hf X W g => by
  simp only [chk, Bool.and_eq_true, beq_iff_eq] at h
  obtain ⟨⟨rfl, h1⟩, h2⟩ := h
  obtain ⟨ro, ho, hs⟩ := bin_ok (X := X) g.hK o
  refine PE.imp (pe_op ho (ia h1 hf.1 X W g) (ib h2 hf.2 X W g)) fun σ H Q ⟨φ, F, env, Td, Tv, r, q⟩ => ?_
  simp only [ev] at q
  refine ⟨φ, F, env, Td, Tv, r, q.bnd (fun _ _ _ x => x) fun x e1 F1 H1 v1 r1 q1 => ⟨φ, F1, e1, _, _, r1, q1.bnd (fun _ _ _ x => x.pop) fun y e2 F2 H2 v2 r2 q2 => ?_⟩⟩
  obtain ⟨d, e, q3⟩ := q2.opt
  obtain ⟨F3, r3⟩ := r2.frz2
  exact hs (D.frz_own x) (D.frz_own y) r3 e q3
theorem r_neg {a : E} {x : Expr} {pos : Pos} (ia : PEo G c a x) : PEo G c (.neg a) (.UnaryOp .USub x pos) := fun h hf X W g => by
  simp only [chk] at h
  refine PE.imp (pe_un un_neg (ia h hf X W g)) fun σ H Q ⟨φ, F, env, Td, Tv, r, q⟩ => ?_
  simp only [ev] at q
  refine ⟨φ, F, env, Td, Tv, r, q.bnd (fun _ _ _ x => x) fun x e1 F1 H1 v1 r1 q1 => ?_⟩
  cases x with
  | int i =>
    obtain rfl := r1.int
    exact ⟨i, rfl, q1 _ _ _ (r1.pop.pInt _)⟩
  | _ => exact q1.elim
theorem r_nt {a : E} {x : Expr} {pos : Pos} (ia : PEo G c a x) : PEo G c (.nt a) (.UnaryOp .Not x pos) := fun h hf X W g => by
  simp only [chk] at h
  refine PE.imp (pe_not (ia h hf X W g)) fun σ H Q ⟨φ, F, env, Td, Tv, r, q⟩ => ?_
  simp only [ev] at q
  refine ⟨φ, F, env, Td, Tv, r, q.bnd (fun _ _ _ x => x) fun x e1 F1 H1 v1 r1 q1 => ?_⟩
  cases x with
  | bl i =>
    obtain rfl := r1.bl
    exact ⟨i, rfl, q1 _ _ _ (r1.pop.pBl _)⟩
  | _ => exact q1.elim
theorem r_and0 {a b : E} {x y : Expr} {rest : List Expr} {pos : Pos} {ia : PE X x (tE G.S W (ev a))} {ib : PE X (.BoolOp .And (y :: rest) pos) (tE G.S W (ev b))} : PE X (.BoolOp .And (x :: y :: rest) pos) (tE G.S W (ev (.an a b))) := by
  refine PE.imp (pe_and ia ib) fun σ H Q ⟨φ, F, env, Td, Tv, r, q⟩ => ?_
  simp only [ev] at q
  refine ⟨φ, F, env, Td, Tv, r, q.bnd (fun _ _ _ x => x) fun x e1 F1 H1 v1 r1 q1 => ?_⟩
  cases x with
  | bl i =>
    obtain rfl := r1.bl
    cases i with
    | true => exact ⟨true, rfl, by rw [if_pos rfl]; exact ⟨φ, _, _, _, _, r1.pop, q1⟩⟩
    | false => exact ⟨false, rfl, by rw [if_neg Bool.false_ne_true]; exact q1 _ _ _ r1⟩
  | _ => exact q1.elim
theorem r_or0 {a b : E} {x y : Expr} {rest : List Expr} {pos : Pos} {ia : PE X x (tE G.S W (ev a))} {ib : PE X (.BoolOp .Or (y :: rest) pos) (tE G.S W (ev b))} : PE X (.BoolOp .Or (x :: y :: rest) pos) (tE G.S W (ev (.or a b))) := by
  refine PE.imp (pe_or ia ib) fun σ H Q ⟨φ, F, env, Td, Tv, r, q⟩ => ?_
  simp only [ev] at q
  refine ⟨φ, F, env, Td, Tv, r, q.bnd (fun _ _ _ x => x) fun x e1 F1 H1 v1 r1 q1 => ?_⟩
  cases x with
  | bl i =>
    obtain rfl := r1.bl
    cases i with
    | false => exact ⟨false, rfl, by rw [if_neg Bool.false_ne_true]; exact ⟨φ, _, _, _, _, r1.pop, q1⟩⟩
    | true => exact ⟨true, rfl, by rw [if_pos rfl]; exact q1 _ _ _ r1⟩
  | _ => exact q1.elim
theorem r_cmp {o p : CmpOp} {a b : E} {l m : Expr} {pos : Pos} (ia : PEo G c a l) (ib : PEo G c b m) : PEo G c (.cmp o a b) (.Compare l [p] [m] pos) := fun h hf X W g => by
  simp only [chk, Bool.and_eq_true, beq_iff_eq] at h
  obtain ⟨⟨⟨rfl, h0⟩, h1⟩, h2⟩ := h
  obtain ⟨ro, ho, hs⟩ := cmp_ok (X := X) g.hK g.room.units o
  have hb : behindInMarks o m = false := by cases m <;> first | rfl | (simp [isSet] at h0)
  refine PE.imp (pe_cmpR ho (ia h1 hf.1 X W g) (ib h2 hf.2 X W g) hb) fun σ H Q ⟨φ, F, env, Td, Tv, r, q⟩ => ?_
  simp only [ev] at q
  refine ⟨φ, F, env, Td, Tv, r, q.bnd (fun _ _ _ x => x) fun x e1 F1 H1 v1 r1 q1 => ⟨φ, F1, e1, _, _, r1, q1.bnd (fun _ _ _ x => x.pop) fun y e2 F2 H2 v2 r2 q2 => ?_⟩⟩
  obtain ⟨d, e, q3⟩ := q2.opt
  obtain ⟨F3, r3⟩ := r2.frz2
  exact hs (D.frz_own x) (D.frz_own y) r3 e q3
end
end VS

/-! ## Snd6 -/
set_option maxRecDepth 100000
set_option maxHeartbeats 4000000
namespace VS
open PySem PySem.Spec PyProof.Rows L2
section
variable {G : Gb} {c : Cc} {X : Cx} {W : WX} {S : Sta} {φ : Fr} {F H F' H' : Hp} {σ : L2.St} {env : En} {Td Ud : List D} {Tv Uv : List V} {d e x y : D} {v w va vb : V} {A : List Addr}

/-- the value in front stays, a copy of a frozen one goes below the next -/
theorem R.keep2 (hy : y.own = false) (r : R S φ F H σ env (y :: x :: Td) (vb :: va :: Tv)) : R S φ F H σ env (y :: x :: y :: Td) (vb :: va :: vb :: Tv) :=
  (R.rot (ds := [x, y]) (vs := [va, vb]) (d := y) (v := vb) (Td := Td) (Tv := Tv) rfl (by
    have h1 := r.dup hy
    -- y, y, x  to  x, y, y
    exact R.rot (ds := [y, y]) (vs := [vb, vb]) rfl h1))
theorem behind_of {o : CmpOp} {m : Expr} (h : isSet m = false) : behindInMarks o m = false := by cases m <;> first | rfl | (simp [isSet] at h)
theorem last_of {o p : CmpOp} {m n : Expr} (h : isSet n = false) : lastMarks [o, p] [m, n] = false := by
  show behindInMarks p n = false
  exact behind_of h
theorem r_chn0 {o p : CmpOp} {a b e : E} {l m n : Expr} {h0 : isSet n = false} (g : GX G c X W) (ia : PE X l (tE G.S W (ev a))) (ib : PE X m (tE G.S W (ev b))) (ic : PE X n (tE G.S W (ev e))) :
    ∃ ro rp, OpR X (compareOp o) ro ∧ OpR X (compareOp p) rp ∧ ∀ σ H Q, tE G.S W (ev (.chn o p a b e)) σ H Q → tChain ro rp (tE G.S W (ev a)) (tE G.S W (ev b)) (tE G.S W (ev e)) σ H Q := by
  obtain ⟨ro, ho, hs⟩ := cmp_ok (X := X) g.hK g.room.units o
  obtain ⟨rp, hp, ht⟩ := cmp_ok (X := X) g.hK g.room.units p
  refine ⟨ro, rp, ho, hp, fun σ H Q ⟨φ, F, env, Td, Tv, r, q⟩ => ?_⟩
  simp only [ev] at q
  refine ⟨φ, F, env, Td, Tv, r, q.bnd (fun _ _ _ x => x) fun x e1 F1 H1 v1 r1 q1 => ⟨φ, F1, e1, _, _, r1, q1.bnd (fun _ _ _ x => x.pop) fun y e2 F2 H2 v2 r2 q2 => ?_⟩⟩
  obtain ⟨F3, r3⟩ := r2.frz2
  cases ec : cmpD o x.frz y.frz with
  | none => rw [ec] at q2; exact q2.elim
  | some d =>
    rw [ec] at q2
    refine hs (D.frz_own x) (D.frz_own y) (r3.keep2 (D.frz_own y)) ec fun F4 H4 v4 r4 => ?_
    cases d with
    | bl t =>
      obtain rfl := r4.bl
      cases t with
      | true =>
        refine ⟨true, rfl, ?_⟩
        rw [if_pos rfl]
        refine ⟨φ, F4, e2, _, _, r4.pop, q2.bnd (fun _ _ _ x => x.pop) fun z e3 F5 H5 v5 r5 q5 => ?_⟩
        obtain ⟨d, e5, q6⟩ := q5.opt
        obtain ⟨F6, r6⟩ := r5.freeze
        exact ht (D.frz_own y) (D.frz_own z) r6 e5 q6
      | false =>
        refine ⟨false, rfl, ?_⟩
        rw [if_neg Bool.false_ne_true]
        exact q2 _ _ _ (r4.swap.pop)
    | _ => exact q2.elim
theorem r_chn {o p o' p' : CmpOp} {a b e : E} {l m n : Expr} {pos : Pos} (ia : PEo G c a l) (ib : PEo G c b m) (ic : PEo G c e n) : PEo G c (.chn o p a b e) (.Compare l [o', p'] [m, n] pos) := fun h hf X W g => by
  simp only [chk, Bool.and_eq_true, beq_iff_eq, Bool.not_eq_true'] at h
  obtain ⟨⟨⟨⟨⟨⟨rfl, rfl⟩, h0⟩, h00⟩, h1⟩, h2⟩, h3⟩ := h
  have pa := ia h1 hf.1 X W g
  have pb := ib h2 hf.2.1 X W g
  have pc := ic h3 hf.2.2 X W g
  obtain ⟨ro, rp, ho, hp, k⟩ := r_chn0 (o := o) (p := p) (h0 := h00) g pa pb pc
  exact PE.imp (pe_chain ho hp pa pb pc (last_of h00)) k
theorem r_ite {t a b : E} {u x y : Expr} {pos : Pos} (it : PTo G c t u) (ia : PEo G c a x) (ib : PEo G c b y) : PEo G c (.ite t a b) (.IfExp u x y pos) := fun h hf X W g => by
  simp only [chk, Bool.and_eq_true] at h
  refine PE.imp (pe_ifExp (it h.1.1 hf.1 X W g) (ia h.1.2 hf.2.1 X W g) (ib h.2 hf.2.2 X W g)) fun σ H Q ⟨φ, F, env, Td, Tv, r, q⟩ => ?_
  simp only [ev] at q
  refine ⟨φ, F, env, Td, Tv, r, q.bndT (fun _ _ _ x => x) fun t e1 F1 H1 r1 q1 => ?_⟩
  cases t with
  | true => rw [if_pos rfl] at q1 ⊢; exact ⟨φ, F1, e1, Td, Tv, r1, q1⟩
  | false => rw [if_neg Bool.false_ne_true] at q1 ⊢; exact ⟨φ, F1, e1, Td, Tv, r1, q1⟩

/-! ### arguments, displays -/
abbrev PAo (G : Gb) (c : Cc) (es : Es) (xs : List Expr) : Prop := chks c es xs = true → es.ok (FnSem G) → ∀ (X : Cx) (W : WX), GX G c X W → PA X xs (tA G.S W (evs es))
theorem r_nil : PAo G c .nil [] := fun h _ X W g => PA.imp pa_nil fun σ H Q ⟨φ, F, env, Td, Tv, r, q⟩ => by
  simp only [evs] at q
  exact q F H [] rfl r
theorem r_cons {e : E} {es : Es} {x : Expr} {xs : List Expr} (ie : PEo G c e x) (is : PAo G c es xs) : PAo G c (.cons e es) (x :: xs) := fun h hf X W g => by
  simp only [chks, Bool.and_eq_true, Bool.not_eq_true'] at h
  refine PA.imp (pa_cons (ie h.1.2 hf.1 X W g) (is h.2 hf.2 X W g) (star_of h.1.1)) fun σ H Q ⟨φ, F, env, Td, Tv, r, q⟩ => ?_
  simp only [evs] at q
  refine ⟨φ, F, env, Td, Tv, r, q.bnd (fun _ _ _ x => x) fun d e1 F1 H1 v1 r1 q1 => ⟨φ, F1, e1, _, _, r1, q1.bndA (fun _ _ _ x => x.pop) fun ds e2 F2 H2 vs l r2 q2 => ?_⟩⟩
  exact q2 F2 H2 (v1 :: vs) (by simp [l]) (r2.rot l)
theorem r_tup {es : Es} {xs : List Expr} {k : Nat} {pos : Pos} (is : PAo G c es xs) : PEo G c (.tup es) (.Tuple xs k pos) := fun h hf X W g => by
  simp only [chk] at h
  refine PE.imp (pe_tup (is h hf X W g)) fun σ H Q ⟨φ, F, env, Td, Tv, r, q⟩ => ?_
  simp only [ev] at q
  refine ⟨φ, F, env, Td, Tv, r, q.bndA (fun _ _ _ x => x) fun ds e1 F1 H1 vs l r1 q1 => ?_⟩
  by_cases hz : ds.length ≤ lim
  · rw [if_pos hz] at q1
    refine ⟨by rw [← l, ← lim_eq]; exact hz, fun p hp => q1 _ _ _ (r1.newT l hp fun h => h)⟩
  · rw [if_neg hz] at q1; exact q1.elim
theorem r_lst {es : Es} {xs : List Expr} {pos : Pos} (is : PAo G c es xs) : PEo G c (.lst es) (.List xs pos) := fun h hf X W g => by
  simp only [chk] at h
  refine PE.imp (pe_lst (is h hf X W g)) fun σ H Q ⟨φ, F, env, Td, Tv, r, q⟩ => ?_
  simp only [ev] at q
  refine ⟨φ, F, env, Td, Tv, r, q.bndA (fun _ _ _ x => x) fun ds e1 F1 H1 vs l r1 q1 => ?_⟩
  by_cases hz : ds.length ≤ lim
  · rw [if_pos hz] at q1
    refine ⟨by rw [← l, ← lim_eq]; exact hz, fun p hp => q1 _ _ _ (r1.newL l hp)⟩
  · rw [if_neg hz] at q1; exact q1.elim

/-! ### subscripts, attributes -/
theorem plainIx_of {b : Expr} (h : isSlice b = false) : PlainIx b := by
  intro o i
  cases b <;> first | rfl | (simp [isSlice] at h)
theorem r_sub {a i : E} {x k : Expr} {pos : Pos} (ia : PEo G c a x) (ii : PEo G c i k) : PEo G c (.sub a i) (.Subscript x k pos) := fun h hf X W g => by
  simp only [chk, Bool.and_eq_true, Bool.not_eq_true'] at h
  obtain ⟨hr, hs⟩ := sub_ok (X := X) g.hK
  refine PE.imp (pe_ix hr (ia h.1.2 hf.1 X W g) (ii h.2 hf.2 X W g) (plainIx_of h.1.1)) fun σ H Q ⟨φ, F, env, Td, Tv, r, q⟩ => ?_
  simp only [ev] at q
  refine ⟨φ, F, env, Td, Tv, r, q.bnd (fun _ _ _ x => x) fun x e1 F1 H1 v1 r1 q1 => ⟨φ, F1, e1, _, _, r1, q1.bnd (fun _ _ _ x => x.pop) fun y e2 F2 H2 v2 r2 q2 => ?_⟩⟩
  obtain ⟨d, e, q3⟩ := q2.opt
  obtain ⟨F3, r3⟩ := r2.swap.freeze
  exact hs r3.swap e fun v r4 => q3 _ _ _ r4
/-- a slot is seen -/
theorem R.see {i : Nat} (r : R S φ F H σ env Td Tv) (h : peek i env = some d) : ∃ v, σ[i]? = some (some v) ∧ R S φ F H σ (env.set i .hole) (d :: Td) (v :: Tv) ∧ env[i]? = some d := by
  unfold peek at h
  cases he : env[i]? with
  | none => rw [he] at h; cases h
  | some x =>
    rw [he] at h
    cases x <;> simp only [Option.some.injEq, reduceCtorEq] at h
    all_goals
      subst h
      obtain ⟨v, h1, h2⟩ := r.take he (by simp)
      exact ⟨v, h1, h2, rfl⟩
theorem set_same {i : Nat} (h : env[i]? = some d) : (env.set i .hole).set i d = env := by
  rw [List.set_set]
  apply List.ext_getElem?; intro j
  rw [List.getElem?_set]
  by_cases e : i = j
  · subst e
    obtain ⟨h1, h2⟩ := List.getElem?_eq_some_iff.mp h
    simp [h1, h2]
  · simp [e]
/-- an item, whosesoever the sequence is -/
theorem Rps.atA {ds : List D} {vs : List V} {i : Int} {j : Nat} (q : Rps S F H ds vs A) (e : idx ds i = some j) (e2 : ds[j]? = some d) (ho : d.own = false) : ∃ v, L2.atI vs i = some v ∧ Rp S F H d v [] := by
  obtain ⟨v, Ai, Ar, h1, p, _⟩ := q.focus e2
  have := p.nown ho
  subst this
  refine ⟨v, ?_, p⟩
  unfold L2.atI
  rw [← q.length, ← idx_ixN, e]
  exact h1
/-- an item is frozen in its place -/
theorem R.frzItem {xs : List D} {j : Nat} (hj : xs[j]? = some d) (r : R S φ F H σ env (.lst true xs :: Td) (v :: Tv)) : ∃ F' a vs u, v = .ref a ∧ H a = some (.lst vs) ∧ vs.length = xs.length ∧ vs[j]? = some u ∧
    R S φ F' H σ env (.lst true (xs.set j d.frz) :: Td) (v :: Tv) ∧ Rp S F' H d.frz u [] := by
  obtain ⟨vs0, A1, A2, p, q, l, nd, ok, lk⟩ := r.open1
  rw [Rp] at p
  obtain ⟨a, vs, B, rfl, rfl, hH, hF, qs⟩ := p
  obtain ⟨u, Ai, Ar, hv, pi, pm, kk⟩ := qs.focus hj
  have pmc := List.perm_iff_count.mp pm
  have pm0 : (a :: (Ai ++ Ar) ++ A2).Perm ((a :: B) ++ A2) := by
    rw [List.perm_iff_count]; intro z
    have := pmc z
    simp only [List.count_append, List.count_cons, List.cons_append] at this ⊢
    omega
  have nd0 := pm0.nodup_iff.mpr nd
  have e0 : a :: (Ai ++ Ar) ++ A2 = a :: (Ai ++ (Ar ++ A2)) := by simp
  rw [e0] at nd0
  obtain ⟨n1, n2⟩ := List.nodup_cons.mp nd0
  simp only [List.mem_append, not_or] at n1
  have n3 := List.nodup_append.mp n2
  have adi := Rp.adr _ pi
  have adB := Rps.adr _ qs
  have ad2 := Rps.adr _ q
  have sf : Same F (fun b => if b ∈ Ai then H b else F b) := fun b u e => by
    have : b ∉ Ai := fun h => by rw [(adi b h).2] at e; cases e
    simp only [this, if_false]; exact e
  have dj : ∀ b, b ∈ Ar ∨ b ∈ A2 → b ∉ Ai := fun b h2 h1 => n3.2.2 b h1 b (by simpa using h2) rfl
  have pf : Rp S (fun b => if b ∈ Ai then H b else F b) H d.frz u [] := Rp.frz sf d pi (fun b hb => by simp only [hb, if_true])
  obtain ⟨C, q3, pC⟩ := kk pf sf (fun b hb => ⟨by simp only [dj b (.inl hb), if_false]; exact (adB b (pm.mem_iff.mpr (by simp [hb]))).2, rfl⟩)
  have hset : vs.set j u = vs := by
    apply List.ext_getElem?; intro i
    rw [List.getElem?_set]
    by_cases h : j = i
    · subst h
      obtain ⟨h1, h2⟩ := List.getElem?_eq_some_iff.mp hv
      simp [h1, h2]
    · simp [h]
  rw [hset] at q3
  have pm2 : ((a :: C) ++ A2 ++ Ai).Perm ((a :: B) ++ A2) := by
    have h1 := List.perm_iff_count.mp pC
    rw [List.perm_iff_count]; intro z
    have h1 := h1 z
    have h3 := pmc z
    simp only [List.count_append, List.count_cons, List.count_nil] at h1 h3 ⊢
    omega
  refine ⟨_, a, vs, u, rfl, hH, qs.length.symm, hv, ?_, pf⟩
  refine R.turn (Ud := [.lst true xs]) (Uv := [.ref a]) (Ud' := [.lst true (xs.set j d.frz)]) (Uv' := [.ref a]) (B := a :: C) r q l lk sf ?_ ?_ ?_ r.h0 (fun _ h => h) ?_ ?_ ?_
  · intro b u e
    by_cases hb : b ∈ Ai
    · simp only [hb, if_true] at e; exact e
    · simp only [hb, if_false] at e; exact r.fh _ _ e
  · intro b hb
    exact ⟨by simp only [dj b (.inr hb), if_false]; exact (ad2 b hb).2, rfl⟩
  · intro b h1 h2
    by_cases hb : b ∈ Ai
    · rcases ok b (by simp [pm.mem_iff.mpr (by simp [hb] : b ∈ Ai ++ Ar)]) with h | h
      · exact .inr h
      · exact .inl h
    · simp only [hb, if_false] at h1; exact absurd h2 h1
  · have h4 : Rp S (fun b => if b ∈ Ai then H b else F b) H (.lst true (xs.set j d.frz)) (.ref a) (a :: C) := by
      rw [Rp]
      exact ⟨a, _, _, rfl, rfl, hH, by simp only [n1.1, if_false]; exact hF, q3⟩
    simpa using Rps.cons h4 Rps.nil
  · exact (List.nodup_append.mp (pm2.nodup_iff.mpr nd)).1
  · exact fun z hz => ok z (pm2.mem_iff.mp (by simp only [List.mem_append] at hz ⊢; exact .inl hz))
theorem r_subv {n : Nat} {i : E} {x : Str} {p1 : Pos} {k : Expr} {pos : Pos} (ii : PEo G c i k) : PEo G c (.subv n i) (.Subscript (.Name x p1) k pos) := fun h hf X W g => by
  simp only [chk, Bool.and_eq_true, Bool.not_eq_true'] at h
  refine PE.imp (pe_ix ix_seq (g.pv h.1.2) (ii h.2 hf X W g) (plainIx_of h.1.1)) fun σ H Q ⟨φ, F, env, Td, Tv, r, q⟩ => ?_
  simp only [ev] at q
  cases hp : peek n env with
  | none => rw [hp] at q; exact q.elim
  | some d0 =>
    rw [hp] at q
    obtain ⟨v, hv, _⟩ := r.see hp
    refine ⟨v, hv, φ, F, env, Td, Tv, r, PostE.bnd q (fun _ _ _ x => x) fun y e1 F1 H1 v1 r1 q1 => ?_⟩
    -- the slot's value is the same behind the index
    have same : ∀ {d : D}, peek n e1 = some d → ∃ A, R G.S φ F1 H1 σ (e1.set n .hole) (d :: y :: Td) (v :: v1 :: Tv) ∧ e1[n]? = some d ∧ Rp G.S F1 H1 d v A := fun {d} h => by
      obtain ⟨w, h1, h2, h3⟩ := r1.see h
      rw [hv] at h1
      obtain rfl : v = w := by injection h1 with h1; injection h1
      obtain ⟨A, p⟩ := h2.top
      exact ⟨A, h2, h3, p⟩
    unfold itemV at q1
    split at q1
    · rename_i m xs h
      obtain ⟨A, r2, h3, p⟩ := same h
      split at q1
      · rename_i i0
        cases hx : idx xs i0 with
        | none => simp only [hx] at q1; exact q1.elim
        | some j =>
          simp only [hx] at q1
          cases hj : xs[j]? with
          | none => simp only [hj] at q1; exact q1.elim
          | some d =>
            simp only [hj] at q1
            by_cases ho : d.own = true
            · rw [if_pos ho] at q1
              cases m with
              | false => exact q1.elim
              | true =>
                obtain ⟨F2, a, vs, u, rfl, ha, hl, hu, r3, pf⟩ := r2.frzItem hj
                have r4 := r3.back hv
                rw [List.set_set] at r4
                refine .inl ⟨a, vs, _, u, rfl, r1.int, SqL.of ha, ?_, q1 _ _ _ (r4.pop.push pf)⟩
                unfold L2.atI
                rw [hl, ← idx_ixN, hx]
                exact hu
            · rw [if_neg ho] at q1
              obtain ⟨a, vs, B, rfl, ha, qs⟩ := r2.la
              obtain ⟨u, h5, h6⟩ := qs.atA hx hj (by simpa using ho)
              exact .inl ⟨a, vs, _, u, rfl, r1.int, SqL.of ha, h5, q1 _ _ _ (r1.pop.push h6)⟩
      · exact q1.elim
    · rename_i m xs h
      obtain ⟨A, r2, h3, p⟩ := same h
      split at q1
      · rename_i i0
        cases hx : idx xs i0 with
        | none => simp only [hx] at q1; exact q1.elim
        | some j =>
          simp only [hx] at q1
          cases hj : xs[j]? with
          | none => simp only [hj] at q1; exact q1.elim
          | some d =>
            simp only [hj] at q1
            by_cases ho : d.own = true
            · rw [if_pos ho] at q1; exact q1.elim
            · rw [if_neg ho] at q1
              obtain ⟨a, vs, B, rfl, ha, qs⟩ := r2.ta
              obtain ⟨u, h5, h6⟩ := qs.atA hx hj (by simpa using ho)
              exact .inr (.inl ⟨a, vs, _, u, rfl, r1.int, SqT.of ha, h5, q1 _ _ _ (r1.pop.push h6)⟩)
      · exact q1.elim
    · rename_i z h
      obtain ⟨A, r2, h3, p⟩ := same h
      obtain ⟨d, e, q3⟩ := q1.opt
      rw [Rp] at p
      obtain ⟨rfl, _⟩ := p
      exact (sub_ok (X := X) g.hK).2 (R.swap (r1.pStr z).swap.swap) e fun v r4 => q3 _ _ _ r4
    · exact q1.elim

/-! ### fields -/
theorem zip_lookup {f : Str} : ∀ {ns : List Str} {xs : List D} {vs : List V} {d : D} {A : List Addr}, Rps S F H xs vs A → (ns.zip xs).lookup f = some d → d.own = false → ∃ v, (ns.zip vs).lookup f = some v ∧ Rp S F H d v [] ∧ f ∈ ns
  | [], _, _, _, _, _, h, _ => by simp at h
  | n :: ns, [], _, _, _, _, h, _ => by simp at h
  | n :: ns, x :: xs, vs, d, A, q, h, ho => by
    rw [Rps] at q
    obtain ⟨v, ws, A1, A2, rfl, rfl, p, t⟩ := q
    simp only [List.zip_cons_cons, List.lookup_cons] at h ⊢
    cases e : f == n with
    | true =>
      simp only [e] at h ⊢
      cases h
      have := p.nown ho
      subst this
      exact ⟨v, rfl, p, by simp [(beq_iff_eq.mp e)]⟩
    | false =>
      simp only [e] at h ⊢
      obtain ⟨u, h1, h2, h3⟩ := zip_lookup t h ho
      exact ⟨u, h1, h2, by simp [h3]⟩
theorem fld_ok {f : Str} (r : R S φ F H σ env (x :: Td) (v :: Tv)) (h : fldD f x = some d) (ho : d.own = false) : ∃ a C dx fs u, v = .ref a ∧ H a = some (.ins C dx fs) ∧ Cls S.K C ∧ NoAttr S.K C f ∧ fs.lookup f = some u ∧ Rp S F H d u [] := by
  obtain ⟨A, p⟩ := r.top
  unfold fldD at h
  split at h
  · rename_i m cn ns xs
    cases m with
    | false =>
      rw [Rp] at p
      obtain ⟨_, a, C, dx, vs, rfl, ⟨e1, e2⟩, e3, e4, qs⟩ := p
      obtain ⟨u, h1, h2, h3⟩ := zip_lookup qs h ho
      exact ⟨a, C, dx, _, u, rfl, r.fh _ _ e4, e2.cls, e2.na f h3, h1, h2⟩
    | true =>
      rw [Rp] at p
      obtain ⟨a, C, dx, vs, B, rfl, _, ⟨e1, e2⟩, e3, e4, _, qs⟩ := p
      obtain ⟨u, h1, h2, h3⟩ := zip_lookup qs h ho
      exact ⟨a, C, dx, _, u, rfl, e4, e2.cls, e2.na f h3, h1, h2⟩
  · cases h
theorem base_of {x : Expr} {f : Str} {env : PySem.Env} (h : isCall x = false) : attributeBase x f env (eval x env) = eval x env := by
  unfold attributeBase
  split
  · simp [isCall] at h
  · rfl
theorem r_attv {n : Nat} {f g' : Str} {x : Str} {p1 pos : Pos} : PEo G c (.attv n f) (.Attribute (.Name x p1) g' pos) := fun h hf X W g => by
  simp only [chk, Bool.and_eq_true, beq_iff_eq] at h
  obtain ⟨rfl, h1⟩ := h
  refine PE.imp (pe_fld (g.pv h1) (base_of rfl)) fun σ H Q ⟨φ, F, env, Td, Tv, r, q⟩ => ?_
  simp only [ev] at q
  cases hp : peek n env with
  | none => rw [hp] at q; exact q.elim
  | some d0 =>
    rw [hp] at q
    obtain ⟨v, hv, r1, _⟩ := r.see hp
    simp only [fldR] at q
    cases hf : fldD f d0 with
    | none => simp only [hf] at q; exact q.elim
    | some y =>
      simp only [hf] at q
      by_cases ho : y.own = true
      · rw [if_pos ho] at q; exact q.elim
      · rw [if_neg ho] at q
        obtain ⟨a, C, dx, fs, u, rfl, h1, h2, h3, h4, h5⟩ := fld_ok r1 hf (by simpa using ho)
        rw [g.hK]
        exact ⟨_, hv, a, C, dx, fs, u, rfl, h1, h2, h3, h4, q _ _ _ (r.push h5)⟩
theorem r_att {a : E} {f g' : Str} {x : Expr} {pos : Pos} (ia : PEo G c a x) : PEo G c (.att a f) (.Attribute x g' pos) := fun h hf X W g => by
  simp only [chk, Bool.and_eq_true, beq_iff_eq, Bool.not_eq_true'] at h
  obtain ⟨⟨rfl, h0⟩, h1⟩ := h
  refine PE.imp (pe_fld (ia h1 hf X W g) (base_of h0)) fun σ H Q ⟨φ, F, env, Td, Tv, r, q⟩ => ?_
  simp only [ev] at q
  refine ⟨φ, F, env, Td, Tv, r, q.bnd (fun _ _ _ x => x) fun x e1 F1 H1 v1 r1 q1 => ?_⟩
  simp only [fldR] at q1
  obtain ⟨F2, r2⟩ := r1.freeze
  cases hf : fldD f x.frz with
  | none => simp only [hf] at q1; exact q1.elim
  | some y =>
    simp only [hf] at q1
    by_cases ho : y.own = true
    · rw [if_pos ho] at q1; exact q1.elim
    · rw [if_neg ho] at q1
      obtain ⟨a, C, dx, fs, u, rfl, h1, h2, h3, h4, h5⟩ := fld_ok r2 hf (by simpa using ho)
      rw [g.hK]
      exact ⟨a, C, dx, fs, u, rfl, h1, h2, h3, h4, q1 _ _ _ (r2.pop.push h5)⟩

/-! ### builtins -/
theorem R.tor {Ud : List D} {Uv : List V} (l : Ud.length = Uv.length) (r : R S φ F H σ env (d :: (Ud ++ Td)) (v :: (Uv ++ Tv))) : R S φ F H σ env (Ud ++ d :: Td) (Uv ++ v :: Tv) := by
  obtain ⟨ws, B1, B2, p, q, lw, nd, ok, lk⟩ := R.open1 r
  obtain ⟨us, ys, C1, C2, e1, rfl, q1, q2⟩ := (show Rps S F H (Ud ++ (Td ++ env)) (Uv ++ (Tv ++ ws)) B2 by simpa [List.append_assoc] using q).split
  obtain ⟨rfl, rfl⟩ := List.append_inj e1 (by rw [← l]; exact q1.length)
  have pm : (C1 ++ (B1 ++ C2)).Perm (B1 ++ (C1 ++ C2)) := by rw [List.perm_iff_count]; intro a; simp only [List.count_append]; omega
  refine ⟨r.fh, r.f0, r.fn, r.h0, r.dm, r.len, ws, C1 ++ (B1 ++ C2), ?_, lw, pm.nodup_iff.mpr nd, fun a ha => ok a (pm.mem_iff.mp ha), lk⟩
  have := q1.append (Rps.cons p q2)
  simpa [List.append_assoc] using this
theorem R.frzN : ∀ {ds : List D} {vs : List V}, ds.length = vs.length → ∀ {F : Hp} {Td : List D} {Tv : List V}, R S φ F H σ env (ds ++ Td) (vs ++ Tv) → ∃ F', R S φ F' H σ env (D.frzs ds ++ Td) (vs ++ Tv)
  | [], [], _, F, _, _, r => ⟨F, r⟩
  | d :: ds, v :: vs, l, F, Td, Tv, r => by
    obtain ⟨F1, r1⟩ := R.freeze r
    have l' : ds.length = vs.length := by simpa using l
    obtain ⟨F3, r3⟩ := R.frzN l' (r1.tor l')
    refine ⟨F3, ?_⟩
    rw [D.frzs]
    exact R.rot (ds := D.frzs ds) (vs := vs) (by rw [D.frzs_length]; exact l') r3
  | [], _ :: _, l, _, _, _, _ => by simp at l
  | _ :: _, [], l, _, _, _, _ => by simp at l
theorem call_bi {b : Bi} {x y : Str} {r : List V → Hp → VK → Prop} {e : Expr} {es : List Expr} {t : TA} {p pos : Pos} (hc : CallR X b.val r) (hg : Gl X b.nm) (hm : X.mg b.nm = none) (ha : PA X (e :: es) t) (hn : okName b.nm = true)
    (h1 : starEach (e :: es) X.env = (false, eval e X.env) :: starEach es X.env) (h2 : (backTo pos (starEach es X.env)).any (·.1) = false) : PE X (.Call (.Name b.nm p) (e :: es) [] pos) (tCB r t) := by
  have hb := b.boot
  cases b
  case len => exact pe_callB hc hg hm hb ha (okName_nm hn) (okName_dbg hn) h1 h2
  case abs => exact pe_callB hc hg hm hb ha (okName_nm hn) (okName_dbg hn) h1 h2
  case sum => exact pe_callB hc hg hm hb ha (okName_nm hn) (okName_dbg hn) h1 h2
  case all => exact pe_callB hc hg hm hb ha (okName_nm hn) (okName_dbg hn) h1 h2
  case any => exact pe_callB hc hg hm hb ha (okName_nm hn) (okName_dbg hn) h1 h2
  case max1 => exact pe_callB hc hg hm hb ha (okName_nm hn) (okName_dbg hn) h1 h2
  case max2 => exact pe_callB hc hg hm hb ha (okName_nm hn) (okName_dbg hn) h1 h2
  case min2 => exact pe_callB hc hg hm hb ha (okName_nm hn) (okName_dbg hn) h1 h2
  case sorted => exact pe_callB hc hg hm hb ha (okName_nm hn) (okName_dbg hn) h1 h2
  case int => exact pe_callTy hc hg hm hb ha (okName_nm hn) (okName_dbg hn) h1 h2
  case str => exact pe_callTy hc hg hm hb ha (okName_nm hn) (okName_dbg hn) h1 h2
  case tuple => exact pe_callTy hc hg hm hb ha (okName_nm hn) (okName_dbg hn) h1 h2
  case list => exact pe_callTy hc hg hm hb ha (okName_nm hn) (okName_dbg hn) h1 h2
/-- no argument bears a star -/
theorem plain_of {pos : Pos} {env : PySem.Env} : ∀ {es : List Expr}, es.all (fun e => !isStar e) = true → (backTo pos (starEach es env)).any (·.1) = false
  | [], _ => rfl
  | e :: es, h => by
    simp only [List.all_cons, Bool.and_eq_true, Bool.not_eq_true'] at h
    rw [star_of h.1]
    show (false || (backTo pos (starEach es env)).any (·.1)) = false
    rw [plain_of h.2]; rfl
theorem chks_star : ∀ {es : Es} {xs : List Expr}, chks c es xs = true → xs.all (fun e => !isStar e) = true
  | .nil, [], _ => rfl
  | .cons e es, x :: xs, h => by
    simp only [chks, Bool.and_eq_true] at h
    rw [List.all_cons, h.1.1, chks_star h.2]; rfl
  | .nil, _ :: _, h => by simp [chks] at h
  | .cons _ _, [], h => by simp [chks] at h
theorem r_bi {b : Bi} {es : Es} {x : Str} {p1 : Pos} {y : Expr} {ys : List Expr} {pos : Pos} (is : PAo G c es (y :: ys)) : PEo G c (.bi b es) (.Call (.Name x p1) (y :: ys) [] pos) := fun h hf X W g => by
  simp only [chk, Bool.and_eq_true, beq_iff_eq] at h
  obtain ⟨⟨rfl, h1⟩, h2⟩ := h
  obtain ⟨hg, hm, hn⟩ := g.blt h1
  have hs := chks_star h2
  simp only [List.all_cons, Bool.and_eq_true, Bool.not_eq_true'] at hs
  obtain ⟨rr, hc, hr⟩ := bi_ok (X := X) g.hK g.calm g.room.units b
  refine PE.imp (call_bi (x := b.nm) (y := b.nm) hc hg hm (is h2 hf X W g) hn (star_of hs.1) (plain_of hs.2)) fun σ H Q ⟨φ, F, env, Td, Tv, r, q⟩ => ?_
  simp only [ev] at q
  refine ⟨φ, F, env, Td, Tv, r, q.bndA (fun _ _ _ x => x) fun ds e1 F1 H1 vs l r1 q1 => ?_⟩
  obtain ⟨d, e, q3⟩ := q1.opt
  obtain ⟨F2, r2⟩ := r1.frzN l
  refine hr (by rw [D.frzs_length]; exact l) r2 e fun F' H' v r3 => q3 F' _ _ ?_
  have hl : (D.frzs ds).length = vs.length := by rw [D.frzs_length]; exact l
  exact R.popN hl (r3.tor hl)
theorem r_biv {b : Bi} {n : Nat} {x y : Str} {p1 p2 pos : Pos} : PEo G c (.biv b n) (.Call (.Name x p1) [.Name y p2] [] pos) := fun h hf X W g => by
  simp only [chk, Bool.and_eq_true, beq_iff_eq] at h
  obtain ⟨⟨rfl, h1⟩, h2⟩ := h
  obtain ⟨hg, hm, hn⟩ := g.blt h1
  obtain ⟨rr, hc, hr⟩ := bi_ok (X := X) g.hK g.calm g.room.units b
  refine PE.imp (call_bi (x := b.nm) (y := b.nm) hc hg hm (pa_cons (g.pv h2) pa_nil (star_of rfl)) hn (star_of rfl) rfl) fun σ H Q ⟨φ, F, env, Td, Tv, r, q⟩ => ?_
  simp only [ev] at q
  cases hp : peek n env with
  | none => rw [hp] at q; exact q.elim
  | some d0 =>
    rw [hp] at q
    obtain ⟨v, hv, r1, he⟩ := r.see hp
    obtain ⟨d, e, q3⟩ := PostE.opt q
    refine ⟨v, hv, ?_⟩
    refine hr (ds := [d0]) (vs := [v]) rfl r1 e fun F' H' u r3 => q3 F' _ _ ?_
    have r4 := (r3.swap).back hv
    rw [set_same he] at r4
    exact r4
end
end VS

/-! ## Snd7 -/
set_option maxRecDepth 100000
set_option maxHeartbeats 4000000
namespace VS
open PySem PySem.Spec PyProof.Rows L2

/-- the values of the lent slots -/
def lv : List (Option Nat) → List V → List V
  | some _ :: r, v :: vs => v :: lv r vs
  | none :: r, _ :: vs => lv r vs
  | _, _ => []
def LkV (σ : L2.St) : List (Option Nat) → List V → Prop
  | some i :: r, v :: vs => σ[i]? = some (some v) ∧ LkV σ r vs
  | none :: r, _ :: vs => LkV σ r vs
  | _, _ => True
def PostL (S : Sta) (φ : Fr) (W : WX) (σ : L2.St) (Td : List D) (Tv : List V) (ls : List (Option Nat)) (r : Rs (List D)) (Q : List V → Hp → Prop) : Prop := match r with
  | .bad => False
  | .ok ds env => ∀ F H vs, ds.length = vs.length → ls.length = vs.length → LkV σ ls vs → R S φ F H σ env (ds ++ Td) (vs ++ Tv) → Q vs H
  | .exc x env => ∀ F H cls dd, R S φ F H σ env Td Tv → ExAt S F H cls dd x → W cls dd σ H
def tL (S : Sta) (W : WX) (es : As) : TA := fun σ H Q => ∃ φ F env Td Tv, R S φ F H σ env Td Tv ∧ PostL S φ W σ Td Tv es.lends (eva es env) Q
section
variable {G : Gb} {c : Cc} {X : Cx} {W : WX} {S : Sta} {φ : Fr} {F H F' H' : Hp} {σ : L2.St} {env : En} {Td Ud : List D} {Tv Uv : List V} {d e x y : D} {v w va vb : V} {A : List Addr}

theorem PostL.bnd {ls : List (Option Nat)} {r : Rs D} {k : D → En → Rs (List D)} {Q : List V → Hp → Prop} {Q' : VK} (h : PostL S φ W σ Td Tv ls (r.bind k) Q) (hp : ∀ F H env, R S φ F H σ env Ud Uv → R S φ F H σ env Td Tv)
    (hk : ∀ d env F H v, R S φ F H σ env (d :: Ud) (v :: Uv) → PostL S φ W σ Td Tv ls (k d env) Q → Q' v H) : PostE S φ W σ Ud Uv r Q' := by
  cases r with
  | bad => exact h
  | ok d e => exact fun F H v r => hk d e F H v r h
  | exc x e => exact fun F H cls dd r a => h F H cls dd (hp _ _ _ r) a
theorem PostL.bndL {ls ms : List (Option Nat)} {r : Rs (List D)} {k : List D → En → Rs (List D)} {Q Q' : List V → Hp → Prop} (h : PostL S φ W σ Td Tv ls (r.bind k) Q) (hp : ∀ F H env, R S φ F H σ env Ud Uv → R S φ F H σ env Td Tv)
    (hk : ∀ ds env F H vs, ds.length = vs.length → ms.length = vs.length → LkV σ ms vs → R S φ F H σ env (ds ++ Ud) (vs ++ Uv) → PostL S φ W σ Td Tv ls (k ds env) Q → Q' vs H) : PostL S φ W σ Ud Uv ms r Q' := by
  cases r with
  | bad => exact h
  | ok d e => exact fun F H vs l l2 lk r => hk d e F H vs l l2 lk r h
  | exc x e => exact fun F H cls dd r a => h F H cls dd (hp _ _ _ r) a
theorem PostE.bndL {ms : List (Option Nat)} {r : Rs (List D)} {k : List D → En → Rs D} {Q : VK} {Q' : List V → Hp → Prop} (h : PostE S φ W σ Td Tv (r.bind k) Q) (hp : ∀ F H env, R S φ F H σ env Ud Uv → R S φ F H σ env Td Tv)
    (hk : ∀ ds env F H vs, ds.length = vs.length → ms.length = vs.length → LkV σ ms vs → R S φ F H σ env (ds ++ Ud) (vs ++ Uv) → PostE S φ W σ Td Tv (k ds env) Q → Q' vs H) : PostL S φ W σ Ud Uv ms r Q' := by
  cases r with
  | bad => exact h
  | ok d e => exact fun F H vs l l2 lk r => hk d e F H vs l l2 lk r h
  | exc x e => exact fun F H cls dd r a => h F H cls dd (hp _ _ _ r) a

abbrev PLo (G : Gb) (c : Cc) (io : List Bool) (es : As) (xs : List Expr) : Prop := chka c io es xs = true → es.ok (FnSem G) → ∀ (X : Cx) (W : WX), GX G c X W → PA X xs (tL G.S W es)
theorem l_nil {io : List Bool} : PLo G c io .nil [] := fun h _ X W g => PA.imp pa_nil fun σ H Q ⟨φ, F, env, Td, Tv, r, q⟩ => by
  simp only [eva] at q
  exact q F H [] rfl rfl True.intro r
theorem l_cons {io : List Bool} {e : E} {es : As} {x : Expr} {xs : List Expr} (ie : PEo G c e x) (is : PLo G c io es xs) : PLo G c (false :: io) (.cons e es) (x :: xs) := fun h hf X W g => by
  simp only [chka, Bool.and_eq_true, Bool.not_eq_true'] at h
  refine PA.imp (pa_cons (ie h.1.2 hf.1 X W g) (is h.2 hf.2 X W g) (star_of h.1.1)) fun σ H Q ⟨φ, F, env, Td, Tv, r, q⟩ => ?_
  simp only [eva, As.lends] at q
  refine ⟨φ, F, env, Td, Tv, r, q.bnd (fun _ _ _ x => x) fun d e1 F1 H1 v1 r1 q1 => ?_⟩
  obtain ⟨F2, r2⟩ := r1.freeze
  refine ⟨φ, F2, e1, _, _, r2, q1.bndL (ms := es.lends) (fun _ _ _ x => x.pop) fun ds e2 F3 H3 vs l l2 lk r3 q3 => ?_⟩
  exact q3 F3 H3 (v1 :: vs) (by simp [l]) (by simp [l2]) lk (r3.rot l)
theorem l_lend {io : List Bool} {i : Nat} {es : As} {x : Str} {p : Pos} {xs : List Expr} (is : PLo G c io es xs) : PLo G c (true :: io) (.lend i es) (.Name x p :: xs) := fun h hf X W g => by
  simp only [chka, Bool.and_eq_true, Bool.not_eq_true'] at h
  refine PA.imp (pa_cons (g.pv h.1) (is h.2 hf X W g) (star_of rfl)) fun σ H Q ⟨φ, F, env, Td, Tv, r, q⟩ => ?_
  simp only [eva, As.lends] at q
  cases hp : peek i env with
  | none => rw [hp] at q; exact q.elim
  | some d =>
    rw [hp] at q
    obtain ⟨v, hv, _, he⟩ := r.see hp
    refine ⟨v, hv, φ, F, env, Td, Tv, r, PostL.bndL (ms := es.lends) q (fun _ _ _ x => x) fun ds e2 F3 H3 vs l l2 lk r3 q3 => ?_⟩
    cases hp2 : peek i e2 with
    | none => rw [hp2] at q3; exact q3.elim
    | some d2 =>
      rw [hp2] at q3
      obtain ⟨w, hw, r4, _⟩ := r3.see hp2
      rw [hv] at hw
      obtain rfl : v = w := by injection hw with hw; injection hw
      exact q3 F3 H3 (v :: vs) (by simp [l]) (by simp [l2]) ⟨hv, lk⟩ r4
theorem chka_star : ∀ {io : List Bool} {es : As} {xs : List Expr}, chka c io es xs = true → xs.all (fun e => !isStar e) = true ∧ es.lends.length = xs.length
  | _, .nil, [], _ => ⟨rfl, rfl⟩
  | false :: io, .cons e es, x :: xs, h => by
    simp only [chka, Bool.and_eq_true] at h
    have ih := chka_star h.2
    rw [List.all_cons, h.1.1, ih.1]
    exact ⟨rfl, by simp [As.lends, ih.2]⟩
  | true :: io, .lend i es, e :: xs, h => by
    have h' : ∃ x p, e = .Name x p ∧ chka c io es xs = true := by
      cases e <;> first | (simp [chka] at h; done) | (simp only [chka, Bool.and_eq_true] at h; exact ⟨_, _, rfl, h.2⟩)
    obtain ⟨x, p, rfl, h2⟩ := h'
    have ih := chka_star h2
    rw [List.all_cons, ih.1]
    exact ⟨rfl, by simp [As.lends, ih.2]⟩
  | [], .cons _ _, _, h => by simp [chka] at h
  | [], .lend _ _, _, h => by simp [chka] at h
  | true :: _, .cons _ _, _, h => by simp [chka] at h
  | false :: _, .lend _ _, _, h => by simp [chka] at h
  | false :: _, .cons _ _, [], h => by simp [chka] at h
  | true :: _, .lend _ _, [], h => by simp [chka] at h
  | _, .nil, _ :: _, h => by simp [chka] at h
theorem ioOf_false {α : Type} : ∀ {io : List Bool} {xs : List α}, io.all (fun b => !b) = true → ioOf io xs = []
  | [], xs, _ => by unfold ioOf; rfl
  | false :: io, [], _ => rfl
  | false :: io, x :: xs, h => ioOf_false (io := io) (xs := xs) (by simpa using h)
  | true :: io, _, h => by simp at h
theorem chka_lv : ∀ {io : List Bool} {es : As} {xs : List Expr} {vs ws : List V}, chka c io es xs = true → es.lends.length = vs.length → (io.drop xs.length).all (fun b => !b) = true → ioOf io (vs ++ ws) = lv es.lends vs
  | io, .nil, [], vs, ws, _, l, hd => by
    have : vs = [] := List.eq_nil_of_length_eq_zero (by simpa [As.lends] using l.symm)
    subst this
    rw [List.nil_append, ioOf_false (by simpa using hd)]; rfl
  | false :: io, .cons e es, x :: xs, v :: vs, ws, h, l, hd => by
    simp only [chka, Bool.and_eq_true] at h
    exact chka_lv (io := io) (es := es) (xs := xs) (vs := vs) (ws := ws) h.2 (by simpa [As.lends] using l) (by simpa using hd)
  | true :: io, .lend i es, e :: xs, v :: vs, ws, h, l, hd => by
    have h' : chka c io es xs = true := by
      cases e <;> first | (simp [chka] at h; done) | (simp only [chka, Bool.and_eq_true] at h; exact h.2)
    have ih := chka_lv (io := io) (es := es) (xs := xs) (vs := vs) (ws := ws) h' (by simpa [As.lends] using l) (by simpa using hd)
    show v :: ioOf io (vs ++ ws) = v :: lv es.lends vs
    rw [ih]
  | [], .cons _ _, _, _, _, h, _, _ => by simp [chka] at h
  | [], .lend _ _, _, _, _, h, _, _ => by simp [chka] at h
  | true :: _, .cons _ _, _, _, _, h, _, _ => by simp [chka] at h
  | false :: _, .lend _ _, _, _, _, h, _, _ => by simp [chka] at h
  | false :: _, .cons _ _, [], _, _, h, _, _ => by simp [chka] at h
  | true :: _, .lend _ _, [], _, _, h, _, _ => by simp [chka] at h
  | _, .nil, _ :: _, _, _, h, _, _ => by simp [chka] at h
  | false :: _, .cons _ _, _ :: _, [], _, _, l, _ => by simp [As.lends] at l
  | true :: _, .lend _ _, _ :: _, [], _, _, l, _ => by simp [As.lends] at l
/-- what is given back goes where it came from -/
theorem putBack_ok : ∀ {ls : List (Option Nat)} {outs : List D} {env e : En} {vs : List V}, LkV σ ls vs → ls.length = vs.length → putBack ls outs env = some e → R S φ F H σ env (outs ++ Td) (lv ls vs ++ Tv) → R S φ F H σ e Td Tv
  | [], [], env, e, vs, _, _, h, r => by simp [putBack] at h; subst h; exact r
  | [], _ :: _, _, _, _, _, _, h, _ => by simp [putBack] at h
  | some i :: ls, [], _, _, _, _, _, h, _ => by simp [putBack] at h
  | some i :: ls, d :: outs, env, e, [], _, l, _, _ => by simp at l
  | some i :: ls, d :: outs, env, e, v :: vs, lk, l, h, r => by
    simp only [putBack] at h
    have r1 : R S φ F H σ env (d :: (outs ++ Td)) (v :: (lv ls vs ++ Tv)) := r
    exact putBack_ok lk.2 (by simpa using l) h (r1.back lk.1)
  | none :: ls, outs, env, e, [], _, l, _, _ => by simp at l
  | none :: ls, outs, env, e, v :: vs, lk, l, h, r => by
    simp only [putBack] at h
    exact putBack_ok (ls := ls) (outs := outs) (vs := vs) lk (by simpa using l) h r
theorem scal_rps : ∀ {ds : List D}, ds.all isScal = true → Rps S F H ds (ds.map scV) []
  | [], _ => by simp [Rps]
  | d :: ds, h => by
    simp only [List.all_cons, Bool.and_eq_true] at h
    have p : Rp S F H d (scV d) [] := by
      have := h.1
      cases d <;> simp [isScal] at this <;> (rw [Rp]; exact ⟨rfl, rfl⟩)
    simpa using Rps.cons p (scal_rps h.2)
/-- behind a call -/
theorem R.after {ds outs : List D} {vs us : List V} {A : List Addr} {ws : List V} {A2 : List Addr} (r : R S φ F H σ env (ds ++ Td) (vs ++ Tv)) (q : Rps S F H ds vs A) (t : Rps S F H (Td ++ env) (Tv ++ ws) A2) (l : ws.length = env.length)
    (nd : (A ++ A2).Nodup) (ok : ∀ a ∈ A ++ A2, a ∈ φ.O ∨ φ.H a = none) (lk : ∀ (i : Nat) d v, env[i]? = some d → d ≠ .hole → ws[i]? = some v → σ[i]? = some (some v)) (a : Aft S F H A F' H' outs us) : R S φ F' H' σ env (outs ++ Td) (us ++ Tv) := by
  obtain ⟨B, qb, ndb, hb⟩ := a.cl
  have ad2 := Rps.adr _ t
  have nA : ∀ b ∈ A2, b ∉ A := fun b h2 h1 => (List.nodup_append.mp nd).2.2 b h1 b h2 rfl
  refine R.turn (Ud := ds) (Uv := vs) (Ud' := outs) (Uv' := us) r t l lk a.ff a.fh (fun b hb2 => ?_) (fun b h1 h2 => ?_) (fun b o h1 h2 => ?_) a.dm qb ?_ fun b hb2 => ?_
  · obtain ⟨⟨o, eo⟩, ef⟩ := ad2 b hb2
    refine ⟨?_, (a.hh b o eo (nA b hb2)).trans eo.symm⟩
    cases e : F' b with
    | none => rfl
    | some u =>
      rcases a.fn b (by rw [e]; simp) ef with z | z
      · rw [eo] at z; cases z
      · exact absurd z (nA b hb2)
  · rcases a.fn b h1 h2 with z | z
    · exact .inl (r.dm b z)
    · exact (ok b (by simp [z])).elim .inr .inl
  · have e := r.h0 b o h1 h2
    refine a.hh b o e fun z => ?_
    rcases ok b (by simp [z]) with y | y
    · exact h2 y
    · rw [h1] at y; cases y
  · refine List.nodup_append.mpr ⟨ndb, (List.nodup_append.mp nd).2.1, fun x hx y hy e => ?_⟩
    subst e
    rcases hb x hx with z | z
    · exact nA x hy z
    · obtain ⟨⟨o, eo⟩, _⟩ := ad2 x hy
      rw [eo] at z; cases z
  · rcases List.mem_append.mp hb2 with h | h
    · rcases hb b h with z | z
      · exact ok b (by simp [z])
      · exact .inr (r.dm b z)
    · exact ok b (by simp [h])
theorem sp_core {fn : Fn} {ds : List D} {vs dvs : List V} {Q : VK} {E : XK} (l : ds.length = vs.length) (r : R S φ F H σ env (ds ++ Td) (vs ++ Tv))
    (hlen : (ds ++ fn.df.drop (fn.df.length + ds.length - fn.ps.length)).length = fn.ps.length) (hdf : fn.df.all isScal = true) (hdv : dvs = (fn.df.drop (fn.df.length + ds.length - fn.ps.length)).map scV)
    (q : match fn.sem (ds ++ fn.df.drop (fn.df.length + ds.length - fn.ps.length)) with
      | .bad => False
      | .ok d outs => ∀ F' H' v, R S φ F' H' σ env (outs ++ d :: Td) (ioOf fn.io (vs ++ dvs) ++ v :: Tv) → Q v H'
      | .exc x outs => ∀ F' H' cls dd, R S φ F' H' σ env (outs ++ Td) (ioOf fn.io (vs ++ dvs) ++ Tv) → ExAt S F' H' cls dd x → E cls dd H') : spOf S fn (vs ++ dvs) H Q E := by
  obtain ⟨ws, A1, A2, q1, t, lw, nd, ok, lkk⟩ := r.openN l
  have hd2 : (fn.df.drop (fn.df.length + ds.length - fn.ps.length)).all isScal = true := by
    rw [List.all_eq_true] at hdf ⊢
    exact fun x hx => hdf x (List.mem_of_mem_drop hx)
  have q2 : Rps S F H (ds ++ fn.df.drop (fn.df.length + ds.length - fn.ps.length)) (vs ++ dvs) A1 := by
    have := q1.append (scal_rps (S := S) (F := F) (H := H) hd2)
    rw [hdv]; simpa using this
  refine ⟨F, _, A1, r.fh, q2, (List.nodup_append.mp nd).1, hlen, ?_⟩
  cases hs : fn.sem (ds ++ fn.df.drop (fn.df.length + ds.length - fn.ps.length)) with
  | bad => rw [hs] at q; exact q.elim
  | ok d outs =>
    simp only [hs] at q
    intro F' H' v a
    have r2 := R.after r q1 t lw nd ok lkk a
    exact q F' H' v (by simpa [List.append_assoc] using r2)
  | exc x outs =>
    simp only [hs] at q
    intro F' H' cls dd a hx
    exact q F' H' cls dd (R.after r q1 t lw nd ok lkk a) hx
theorem sp_call {fn : Fn} {ds : List D} {ls : List (Option Nat)} {vs dvs : List V} {Q : VK} (l : ds.length = vs.length) (l2 : ls.length = vs.length) (lk : LkV σ ls vs) (r : R S φ F H σ env (ds ++ Td) (vs ++ Tv))
    (hlen : (ds ++ fn.df.drop (fn.df.length + ds.length - fn.ps.length)).length = fn.ps.length) (hdf : fn.df.all isScal = true) (hdv : dvs = (fn.df.drop (fn.df.length + ds.length - fn.ps.length)).map scV)
    (hio : ioOf fn.io (vs ++ dvs) = lv ls vs) (q : PostE S φ W σ Td Tv (callFn fn ds ls env) Q) : spOf S fn (vs ++ dvs) H Q (WE W σ) := by
  refine sp_core l r hlen hdf hdv ?_
  unfold callFn at q
  rw [hio]
  cases hs : fn.sem (ds ++ fn.df.drop (fn.df.length + ds.length - fn.ps.length)) with
  | bad => rw [hs] at q; exact q.elim
  | ok d outs =>
    simp only [hs] at q ⊢
    intro F' H' v r2
    cases hp : putBack ls outs env with
    | none => simp only [hp] at q; exact q.elim
    | some e =>
      simp only [hp] at q
      exact q F' H' v (putBack_ok lk l2 hp r2)
  | exc x outs =>
    simp only [hs] at q ⊢
    intro F' H' cls dd r2 hx
    cases hp : putBack ls outs env with
    | none => simp only [hp] at q; exact q.elim
    | some e =>
      simp only [hp] at q
      exact q F' H' cls dd (putBack_ok lk l2 hp r2) hx
theorem r_call {fn : Fn} {es : As} {x : Str} {p1 : Pos} {y : Expr} {ys : List Expr} {pos : Pos} (is : PLo G c fn.io es (y :: ys)) : PEo G c (.call fn es) (.Call (.Name x p1) (y :: ys) [] pos) := fun h hf X W g => by
  simp only [chk, Bool.and_eq_true, beq_iff_eq, decide_eq_true_eq] at h
  obtain ⟨⟨⟨⟨⟨⟨hw, rfl⟩, h1⟩, h2⟩, h3⟩, h4⟩, h5⟩ := h
  obtain ⟨hfn, hes⟩ := hf
  obtain ⟨hg, hn⟩ := g.gl' h1
  have hs := chka_star h5
  have hst := hs.1
  simp only [List.all_cons, Bool.and_eq_true, Bool.not_eq_true'] at hst
  unfold FnSem at hfn
  cases hwh : fn.wh <;> rw [hwh] at hw hfn <;> (first | (simp at hw; done) | skip)
  obtain ⟨f, fd, m1, m2, ⟨⟨d1, d2⟩, _⟩, m3⟩ := hfn
  obtain ⟨ds, b1, b2⟩ := d2 (fn.df.length + (ys.length + 1) - fn.ps.length) (by omega)
  obtain ⟨rP, rw', rb, rK, rm⟩ := And.intro g.hP (And.intro g.hw (And.intro g.hb (And.intro g.hK g.hm)))
  rw [← rP, ← rw', ← rb, ← rK, ← rm] at m3
  refine PE.imp (pe_callSD (E := WE W) m3 g.room hg (by rw [rm]; exact m1) (by rw [rK]; exact m2) (by rw [rK]; exact b1) b2 (L2N.passAt g.tk) (is h5 hes X W g) (okName_dbg hn) (star_of hst.1) (plain_of hst.2)) fun σ H Q ⟨φ, F, env, Td, Tv, r, q⟩ => ?_
  simp only [ev] at q
  refine ⟨φ, F, env, Td, Tv, r, q.bndL (ms := es.lends) (fun _ _ _ x => x) fun zs e1 F1 H1 vs l l2 lk r1 q1 => ?_⟩
  have hl : zs.length = ys.length + 1 := by rw [l, ← l2, hs.2]; rfl
  refine sp_call l l2 lk r1 ?_ d1 (by rw [hl]) ?_ q1
  · rw [hl, List.length_append, List.length_drop, hl]; omega
  · exact chka_lv h5 l2 h4
end
end VS

/-! ## Snd8 -/
set_option maxRecDepth 100000
set_option maxHeartbeats 4000000
namespace VS
open PySem PySem.Spec PyProof.Rows L2
section
variable {G : Gb} {c : Cc} {X : Cx} {W : WX} {S : Sta} {φ : Fr} {F H F' H' : Hp} {σ : L2.St} {env : En} {Td Ud : List D} {Tv Uv : List V} {d e x y : D} {v w va vb : V} {A : List Addr}

def isBo : Expr → Bool
  | .BoolOp _ _ _ => true
  | _ => false
abbrev PBo (G : Gb) (c : Cc) (e : E) (ast : Expr) : Prop := chkT c e ast = true → e.ok (FnSem G) → ∀ (X : Cx) (W : WX), GX G c X W → PT X ast (tT G.S W (tst e)) ∧ (isBo ast = true → PW X ast (tT G.S W (tst e)))
theorem PW.imp {X : Cx} {e : Expr} {t t' : TT} (h : PW X e t) (k : ∀ σ H Q, t' σ H Q → t σ H Q) : PW X e t' := ⟨fun wh pins s σ H Q I q => h.run wh pins s σ H Q I (k σ H Q q)⟩
theorem tAnd_of {a b : E} {σ : L2.St} {H : Hp} {Q : Bool → Hp → Prop} (h : tT S W (tst (.an a b)) σ H Q) : tAnd (tT S W (tst a)) (tT S W (tst b)) σ H Q := by
  obtain ⟨φ, F, env, Td, Tv, r, q⟩ := h
  simp only [tst] at q
  refine ⟨φ, F, env, Td, Tv, r, q.bndT (fun _ _ _ x => x) fun t e1 F1 H1 r1 q1 => ?_⟩
  cases t with
  | true => rw [if_pos rfl] at q1 ⊢; exact ⟨φ, F1, e1, Td, Tv, r1, q1⟩
  | false => rw [if_neg Bool.false_ne_true] at q1 ⊢; exact q1 _ _ r1
theorem tOr_of {a b : E} {σ : L2.St} {H : Hp} {Q : Bool → Hp → Prop} (h : tT S W (tst (.or a b)) σ H Q) : tOr (tT S W (tst a)) (tT S W (tst b)) σ H Q := by
  obtain ⟨φ, F, env, Td, Tv, r, q⟩ := h
  simp only [tst] at q
  refine ⟨φ, F, env, Td, Tv, r, q.bndT (fun _ _ _ x => x) fun t e1 F1 H1 r1 q1 => ?_⟩
  cases t with
  | false => rw [if_neg Bool.false_ne_true] at q1 ⊢; exact ⟨φ, F1, e1, Td, Tv, r1, q1⟩
  | true => rw [if_pos rfl] at q1 ⊢; exact q1 _ _ r1
theorem t_an2 {a b : E} {x y : Expr} {pos : Pos} (ia : PBo G c a x) (ib : PBo G c b y) : PBo G c (.an a b) (.BoolOp .And [x, y] pos) := fun h hf X W g => by
  simp only [chkT, Bool.and_eq_true] at h
  have p := PW.imp (pw_and (ia h.1 hf.1 X W g).1 (pw_and1 (pos := pos) (ib h.2 hf.2 X W g).1)) fun σ H Q => tAnd_of
  exact ⟨p.pt, fun _ => p⟩
theorem t_an3 {a b : E} {x y z : Expr} {r : List Expr} {pos : Pos} (ia : PBo G c a x) (ib : PBo G c b (.BoolOp .And (y :: z :: r) pos)) : PBo G c (.an a b) (.BoolOp .And (x :: y :: z :: r) pos) := fun h hf X W g => by
  simp only [chkT, Bool.and_eq_true] at h
  have p := PW.imp (pw_and (ia h.1 hf.1 X W g).1 ((ib h.2 hf.2 X W g).2 rfl)) fun σ H Q => tAnd_of
  exact ⟨p.pt, fun _ => p⟩
theorem t_or2 {a b : E} {x y : Expr} {pos : Pos} (ia : PBo G c a x) (ib : PBo G c b y) : PBo G c (.or a b) (.BoolOp .Or [x, y] pos) := fun h hf X W g => by
  simp only [chkT, Bool.and_eq_true] at h
  have p := PW.imp (pw_or (ia h.1 hf.1 X W g).1 (pw_or1 (pos := pos) (ib h.2 hf.2 X W g).1)) fun σ H Q => tOr_of
  exact ⟨p.pt, fun _ => p⟩
theorem t_or3 {a b : E} {x y z : Expr} {r : List Expr} {pos : Pos} (ia : PBo G c a x) (ib : PBo G c b (.BoolOp .Or (y :: z :: r) pos)) : PBo G c (.or a b) (.BoolOp .Or (x :: y :: z :: r) pos) := fun h hf X W g => by
  simp only [chkT, Bool.and_eq_true] at h
  have p := PW.imp (pw_or (ia h.1 hf.1 X W g).1 ((ib h.2 hf.2 X W g).2 rfl)) fun σ H Q => tOr_of
  exact ⟨p.pt, fun _ => p⟩
theorem t_nt {a : E} {x : Expr} {pos : Pos} (ia : PBo G c a x) : PBo G c (.nt a) (.UnaryOp .Not x pos) := fun h hf X W g => by
  simp only [chkT] at h
  refine ⟨PT.imp (pt_not (ia h hf X W g).1) fun σ H Q ⟨φ, F, env, Td, Tv, r, q⟩ => ?_, fun z => by simp [isBo] at z⟩
  simp only [tst] at q
  exact ⟨φ, F, env, Td, Tv, r, q.bndT (fun _ _ _ x => x) fun t e1 F1 H1 r1 q1 => q1 _ _ r1⟩
/-- a test of a comparison: its value is a bool -/
theorem cmp_tst {o : CmpOp} {a b : E} {σ : L2.St} {H : Hp} {Q : Bool → Hp → Prop} (h : tT S W (tst (.cmp o a b)) σ H Q) : tE S W (ev (.cmp o a b)) σ H fun v H' => ∃ k, v = .bl k ∧ Q k H' := by
  obtain ⟨φ, F, env, Td, Tv, r, q⟩ := h
  refine ⟨φ, F, env, Td, Tv, r, ?_⟩
  simp only [tst] at q
  simp only [ev]
  cases ea : ev a env with
  | bad => rw [ea] at q; exact q
  | exc x e1 => rw [ea] at q; exact q
  | ok x e1 =>
    rw [ea] at q
    simp only [Rs.bind] at q ⊢
    cases eb : ev b e1 with
    | bad => rw [eb] at q; exact q
    | exc x e1 => rw [eb] at q; exact q
    | ok y e2 =>
      rw [eb] at q
      simp only at q ⊢
      split at q
      · rename_i t ht
        rw [ht]
        exact fun F H v r => ⟨t, r.bl, q _ _ r.pop⟩
      · exact q.elim
theorem chn_tst {o p : CmpOp} {a b d : E} {σ : L2.St} {H : Hp} {Q : Bool → Hp → Prop} (h : tT S W (tst (.chn o p a b d)) σ H Q) : tE S W (ev (.chn o p a b d)) σ H fun v H' => ∃ k, v = .bl k ∧ Q k H' := by
  obtain ⟨φ, F, env, Td, Tv, r, q⟩ := h
  refine ⟨φ, F, env, Td, Tv, r, ?_⟩
  simp only [tst] at q
  simp only [ev]
  cases ea : ev a env with
  | bad => rw [ea] at q; exact q
  | exc x e1 => rw [ea] at q; exact q
  | ok x e1 =>
    rw [ea] at q
    simp only [Rs.bind] at q ⊢
    cases eb : ev b e1 with
    | bad => rw [eb] at q; exact q
    | exc x e1 => rw [eb] at q; exact q
    | ok y e2 =>
      rw [eb] at q
      simp only at q ⊢
      split at q
      · rename_i ht
        cases ec : ev d e2 with
        | bad => rw [ec] at q; exact q
        | exc x e1 => rw [ec] at q; exact q
        | ok z e3 =>
          rw [ec] at q
          simp only at q ⊢
          split at q
          · rename_i t ht
            rw [ht]
            exact fun F H v r => ⟨t, r.bl, q _ _ r.pop⟩
          · exact q.elim
      · rename_i ht
        skip
        exact fun F H v r => ⟨false, r.bl, q _ _ r.pop⟩
      · exact q.elim
theorem t_cmp {o p : CmpOp} {a b : E} {l m : Expr} {pos : Pos} (ia : PEo G c a l) (ib : PEo G c b m) : PBo G c (.cmp o a b) (.Compare l [p] [m] pos) := fun h hf X W g => by
  simp only [chkT, Bool.and_eq_true, beq_iff_eq, Bool.not_eq_true'] at h
  obtain ⟨⟨⟨rfl, h0⟩, h1⟩, h2⟩ := h
  obtain ⟨ro, ho, hs⟩ := cmp_ok (X := X) g.hK g.room.units o
  refine ⟨PT.imp (pt_cmpR ho (ia h1 hf.1 X W g) (ib h2 hf.2 X W g) (behind_of h0)) fun σ H Q h => ?_, fun z => by simp [isBo] at z⟩
  obtain ⟨φ, F, env, Td, Tv, r, q⟩ := cmp_tst h
  simp only [ev] at q
  refine ⟨φ, F, env, Td, Tv, r, q.bnd (fun _ _ _ x => x) fun x e1 F1 H1 v1 r1 q1 => ⟨φ, F1, e1, _, _, r1, q1.bnd (fun _ _ _ x => x.pop) fun y e2 F2 H2 v2 r2 q2 => ?_⟩⟩
  obtain ⟨d, e, q3⟩ := q2.opt
  obtain ⟨F3, r3⟩ := r2.frz2
  exact hs (D.frz_own x) (D.frz_own y) r3 e q3
theorem t_chn {o p o' p' : CmpOp} {a b e : E} {l m n : Expr} {pos : Pos} (ia : PEo G c a l) (ib : PEo G c b m) (ic : PEo G c e n) : PBo G c (.chn o p a b e) (.Compare l [o', p'] [m, n] pos) := fun h hf X W g => by
  simp only [chkT, Bool.and_eq_true, beq_iff_eq, Bool.not_eq_true'] at h
  obtain ⟨⟨⟨⟨⟨⟨rfl, rfl⟩, h0⟩, h00⟩, h1⟩, h2⟩, h3⟩ := h
  have pa := ia h1 hf.1 X W g
  have pb := ib h2 hf.2.1 X W g
  have pc := ic h3 hf.2.2 X W g
  obtain ⟨ro, rp, ho, hp, k⟩ := r_chn0 (o := o) (p := p) (h0 := h00) g pa pb pc
  exact ⟨PT.imp (pt_chain ho hp pa pb pc (last_of h00)) fun σ H Q h => k _ _ _ (chn_tst h), fun z => by simp [isBo] at z⟩
theorem plainT_of {x : Expr} (h : plainT x = true) (env : PySem.Env) (whole : Sem Value) : isTrue x env whole = (do let v ← whole; standAt x.pos; holding [v] (truthy v)) := by
  cases x <;> first | rfl | (simp [plainT] at h; done) | skip
  rename_i o y p
  cases o <;> first | rfl | (simp [plainT] at h; done)
theorem tru_D {k : Bool} (hK : X.K = S.K) (e : truD x = some k) (r : R S φ F H σ env (x :: Td) (v :: Tv)) : TruV X.K v H k := by
  cases x with
  | non => have := r.non; subst this; simp [truD] at e; exact e.symm ▸ rfl
  | bl b => have := r.bl; subst this; simp [truD] at e; exact e.symm
  | int i => have := r.int; subst this; simp [truD] at e; exact e ▸ rfl
  | lst m xs =>
    obtain ⟨a, vs, B, rfl, ha, qs⟩ := r.la
    simp only [truD, Option.some.injEq] at e
    refine .inl ⟨vs, SqL.of ha, ?_⟩
    have := qs.length
    cases xs <;> cases vs <;> simp_all
  | tup m xs =>
    obtain ⟨a, vs, B, rfl, ha, qs⟩ := r.ta
    simp only [truD, Option.some.injEq] at e
    refine .inr (.inl ⟨vs, SqT.of ha, ?_⟩)
    have := qs.length
    cases xs <;> cases vs <;> simp_all
  | _ => simp [truD] at e
theorem t_tv {a : E} {x : Expr} (ia : PEo G c a x) (hp : plainT x = true → chkT c (.tv a) x = chk c a x) (h0 : chkT c (.tv a) x = true → plainT x = true) : PBo G c (.tv a) x := fun h hf X W g => by
  have h1 := h0 h
  rw [hp h1] at h
  refine ⟨PT.imp (pt_truth (ia h hf X W g) (fun whole => plainT_of h1 _ _)) fun σ H Q ⟨φ, F, env, Td, Tv, r, q⟩ => ?_, fun z => by cases x <;> simp [isBo, plainT] at z h1⟩
  simp only [tst] at q
  refine ⟨φ, F, env, Td, Tv, r, q.bnd (fun _ _ _ x => x) fun x e1 F1 H1 v1 r1 q1 => ?_⟩
  cases et : truD x with
  | none => rw [et] at q1; exact q1.elim
  | some k =>
    rw [et] at q1
    exact ⟨k, tru_D g.hK et r1, q1 _ _ r1.pop⟩
end
end VS

/-! ## Snd9 -/
set_option maxRecDepth 100000
set_option maxHeartbeats 4000000
namespace VS
open PySem PySem.Spec PyProof.Rows L2

mutual
/-- the slots of a target -/
def Tg.ixs : Tg → List Nat
  | .nm i => [i]
  | .tp l => Tg.ixss l
def Tg.ixss : List Tg → List Nat
  | [] => []
  | g :: gs => g.ixs ++ Tg.ixss gs
end
/-- no other slot turned -/
def Out1 (is : List Nat) (σ σ' : L2.St) : Prop := σ'.length = σ.length ∧ ∀ j, j ∉ is → σ'[j]? = σ[j]?
theorem Out1.refl {is : List Nat} {σ : L2.St} : Out1 is σ σ := ⟨rfl, fun _ _ => rfl⟩
theorem Out1.trans {is js : List Nat} {σ σ' σ'' : L2.St} (h : Out1 is σ σ') (k : Out1 js σ' σ'') : Out1 (is ++ js) σ σ'' :=
  ⟨k.1.trans h.1, fun j hj => by simp only [List.mem_append, not_or] at hj; exact (k.2 j hj.2).trans (h.2 j hj.1)⟩
theorem Out1.mono {is js : List Nat} {σ σ' : L2.St} (h : Out1 is σ σ') (k : ∀ i ∈ is, i ∈ js) : Out1 js σ σ' := ⟨h.1, fun j hj => h.2 j fun z => hj (k j z)⟩
def gT (S : Sta) (g : Tg) : TG := fun v σ H Q => ∃ φ F d env Td Tv env', Rp S F H d v [] ∧ R S φ F H σ env Td Tv ∧ asgT g d env = some env' ∧ ∀ σ', R S φ F H σ' env' Td Tv → Out1 g.ixs σ σ' → Q σ' H
def gTs (S : Sta) (gs : List Tg) : TGs := fun vs σ H Q => ∃ φ F ds env Td Tv env', Rps S F H ds vs [] ∧ R S φ F H σ env Td Tv ∧ asgTs gs ds env = some env' ∧ ∀ σ', R S φ F H σ' env' Td Tv → Out1 (Tg.ixss gs) σ σ' → Q σ' H
theorem PG.imp {X : Cx} {e : Expr} {t t' : TG} (h : PG X e t) (k : ∀ v σ H Q, t' v σ H Q → t v σ H Q) : PG X e t' := ⟨fun pins s σ H v u Q I r q => h.run pins s σ H v u Q I r (k _ _ _ _ q)⟩
theorem PGs.imp {X : Cx} {e : List Expr} {t t' : TGs} (h : PGs X e t) (k : ∀ v σ H Q, t' v σ H Q → t v σ H Q) : PGs X e t' := ⟨fun pins s σ H v u Q I r q => h.run pins s σ H v u Q I r (k _ _ _ _ q)⟩
theorem Out1.set {i : Nat} {σ : L2.St} {w : Option V} : Out1 [i] σ (σ.set i w) := ⟨by simp, fun j hj => by rw [List.getElem?_set]; simp at hj; simp [Ne.symm hj]⟩
section
variable {G : Gb} {c : Cc} {X : Cx} {W : WX} {S : Sta} {φ : Fr} {F H F' H' : Hp} {σ : L2.St} {env : En} {Td Ud : List D} {Tv Uv : List V} {d e x y : D} {v w va vb : V} {A : List Addr}
theorem chkGs_len : ∀ {gs : List Tg} {es : List Expr}, chkGs c gs es = true → gs.length = es.length ∧ ∀ env : PySem.Env, (assignEach es env).length = es.length ∧ (assignEach es env).findIdx? (·.1) = none
  | [], [], _ => ⟨rfl, fun _ => ⟨rfl, rfl⟩⟩
  | g :: gs, e :: es, h => by
    simp only [chkGs, Bool.and_eq_true, Bool.not_eq_true'] at h
    obtain ⟨i1, i2⟩ := chkGs_len h.2
    refine ⟨by simp [i1], fun env => ?_⟩
    rw [asg_of h.1.1]
    refine ⟨by simp [(i2 env).1], ?_⟩
    rw [List.findIdx?_cons]
    simp [(i2 env).2]
  | [], _ :: _, h => by simp [chkGs] at h
  | _ :: _, [], h => by simp [chkGs] at h
theorem asgTs_len : ∀ {gs : List Tg} {ds : List D} {env env' : En}, asgTs gs ds env = some env' → gs.length = ds.length
  | [], [], _, _, _ => rfl
  | [], _ :: _, _, _, h => by simp [asgTs] at h
  | _ :: _, [], _, _, h => by simp [asgTs] at h
  | g :: gs, d :: ds, env, env', h => by
    simp only [asgTs, Option.bind_eq_some_iff] at h
    obtain ⟨e1, _, h2⟩ := h
    simp [asgTs_len h2]
mutual
theorem pg_ok (g0 : GX G c X W) : ∀ (g : Tg) (t : Expr), chkG c g t = true → PG X t (gT G.S g)
  | .nm i, .Name x p, h => by
    simp only [chkG] at h
    refine PG.imp (g0.pg h).1 fun v σ H Q ⟨φ, F, d, env, Td, Tv, env', p, r, e, q⟩ => ?_
    simp only [asgT] at e
    split at e
    · rename_i hi
      cases e
      exact q _ ((r.push p).put hi) Out1.set
    · cases e
  | .tp l, .Tuple es k p, h => by
    simp only [chkG] at h
    obtain ⟨h1, h2⟩ := chkGs_len h
    refine PG.imp (pg_tup (n := es.length) g0.calm (pgs_ok g0 l es h) (h2 _).1 (h2 _).2) fun v σ H Q ⟨φ, F, d, env, Td, Tv, env', p, r, e, q⟩ => ?_
    cases d <;> simp only [asgT, reduceCtorEq] at e
    rename_i m xs
    rw [Rp] at p
    obtain ⟨_, a, vs, rfl, ha, qs⟩ := p
    refine ⟨a, vs, rfl, SqT.of (r.fh _ _ ha), ?_, φ, F, xs, env, Td, Tv, env', qs, r, e, fun σ' r' o => q σ' r' (by simpa [Tg.ixs] using o)⟩
    rw [← qs.length, ← asgTs_len e, h1]
  | .nm i, .Tuple _ _ _, h => by simp [chkG] at h
theorem pgs_ok (g0 : GX G c X W) : ∀ (gs : List Tg) (es : List Expr), chkGs c gs es = true → PGs X es (gTs G.S gs)
  | [], [], h => PGs.imp pgs_nil fun vs σ H Q ⟨φ, F, ds, env, Td, Tv, env', p, r, e, q⟩ => by
    have hl := asgTs_len e
    cases ds with
    | cons => simp at hl
    | nil =>
      rw [Rps] at p
      obtain ⟨rfl, _⟩ := p
      simp only [asgTs, Option.some.injEq] at e
      subst e
      exact ⟨rfl, q σ r Out1.refl⟩
  | g :: gs, e :: es, h => by
    simp only [chkGs, Bool.and_eq_true, Bool.not_eq_true'] at h
    refine PGs.imp (pgs_cons (pg_ok g0 g e h.1.2) (pgs_ok g0 gs es h.2) (by rw [asg_of h.1.1]; rfl)) fun vs σ H Q ⟨φ, F, ds, env, Td, Tv, env', p, r, e, q⟩ => ?_
    have hl := asgTs_len e
    cases ds with
    | nil => simp at hl
    | cons d ds =>
      rw [Rps] at p
      obtain ⟨v, ws, A1, A2, rfl, hA, p1, p2⟩ := p
      obtain ⟨rfl, rfl⟩ := List.append_eq_nil_iff.mp hA.symm
      simp only [asgTs, Option.bind_eq_some_iff] at e
      obtain ⟨e1, e2, e3⟩ := e
      exact ⟨v, ws, rfl, φ, F, d, env, Td, Tv, e1, p1, r, e2, fun σ1 r1 o1 => ⟨φ, F, ds, e1, Td, Tv, env', p2, r1, e3, fun σ2 r2 o2 => q σ2 r2 (by simpa [Tg.ixss] using o1.trans o2)⟩⟩
  | [], _ :: _, h => by simp [chkGs] at h
  | _ :: _, [], h => by simp [chkGs] at h
end
end
end VS

/-! ## Snd10 -/
set_option maxRecDepth 100000
set_option maxHeartbeats 4000000
namespace VS
open PySem PySem.Spec PyProof.Rows L2

/-- what J hands out: the frozen items ds -/
structure ItD (S : Sta) (φ : Fr) (F : Hp) (J : It) (ds : List D) : Prop where
  go : ∀ F' H' i, Same F F' → Same F' H' → i < ds.length → J.go i H'
  stop : ∀ F' H' i, Same F F' → Same F' H' → ds.length ≤ i → J.stop i H'
  yld : ∀ F' H' i x H'' σ env Td Tv, Same F F' → R S φ F' H' σ env Td Tv → J.yld i H' x H'' → i < ds.length → ∃ F'' d, Same F' F'' ∧ ds[i]? = some d ∧ Rp S F'' H'' d x [] ∧ R S φ F'' H'' σ env Td Tv
theorem ItD.mono {S : Sta} {φ : Fr} {F F' : Hp} {J : It} {ds : List D} (h : ItD S φ F J ds) (s : Same F F') : ItD S φ F' J ds :=
  ⟨fun F1 H1 i s1 => h.go F1 H1 i (s.trans s1), fun F1 H1 i s1 => h.stop F1 H1 i (s.trans s1), fun F1 H1 i x H2 σ env Td Tv s1 => h.yld F1 H1 i x H2 σ env Td Tv (s.trans s1)⟩
def PostI (S : Sta) (φ : Fr) (W : WX) (σ : L2.St) (Td : List D) (Tv : List V) (r : Rs (List D)) (Q : It → Hp → Prop) : Prop := match r with
  | .bad => False
  | .ok ds env => ∀ F H J, ItD S φ F J ds → R S φ F H σ env Td Tv → Q J H
  | .exc x env => ∀ F H cls dd, R S φ F H σ env Td Tv → ExAt S F H cls dd x → W cls dd σ H
def tI (S : Sta) (W : WX) (f : En → Rs (List D)) : TI := fun σ H Q => ∃ φ F env Td Tv, R S φ F H σ env Td Tv ∧ PostI S φ W σ Td Tv (f env) Q
theorem PI.imp {X : Cx} {tg e : Expr} {t t' : TI} (h : PI X tg e t) (k : ∀ σ H Q, t' σ H Q → t σ H Q) : PI X tg e t' := ⟨fun pins s σ H Q I q => h.run pins s σ H Q I (k σ H Q q)⟩
section
variable {G : Gb} {c : Cc} {X : Cx} {W : WX} {S : Sta} {φ : Fr} {F H F' H' : Hp} {σ : L2.St} {env : En} {Td Ud : List D} {Tv Uv : List V} {d e x y : D} {v w va vb : V} {A : List Addr} {tg : Expr}
theorem PostI.bnd {r : Rs D} {k : D → En → Rs (List D)} {Q : It → Hp → Prop} {Q' : VK} (h : PostI S φ W σ Td Tv (r.bind k) Q) (hp : ∀ F H env, R S φ F H σ env Ud Uv → R S φ F H σ env Td Tv)
    (hk : ∀ d env F H v, R S φ F H σ env (d :: Ud) (v :: Uv) → PostI S φ W σ Td Tv (k d env) Q → Q' v H) : PostE S φ W σ Ud Uv r Q' := by
  cases r with
  | bad => exact h
  | ok d e => exact fun F H v r => hk d e F H v r h
  | exc x e => exact fun F H cls dd r a => h F H cls dd (hp _ _ _ r) a
theorem PostE.bndI {r : Rs (List D)} {k : List D → En → Rs D} {Q : VK} {Q' : It → Hp → Prop} (h : PostE S φ W σ Td Tv (r.bind k) Q)
    (hk : ∀ ds env F H J, ItD S φ F J ds → R S φ F H σ env Td Tv → PostE S φ W σ Td Tv (k ds env) Q → Q' J H) : PostI S φ W σ Td Tv r Q' := by
  cases r with
  | bad => exact h
  | ok d e => exact fun F H v it r => hk d e F H v it r h
  | exc x e => exact fun F H cls dd r a => h F H cls dd r a
theorem PostI.opt {o : Option (List D)} {e : En} {Q : It → Hp → Prop} (h : PostI S φ W σ Td Tv (Rs.opt o e) Q) : ∃ d, o = some d ∧ ∀ F H J, ItD S φ F J d → R S φ F H σ e Td Tv → Q J H := by
  cases o with
  | none => exact h.elim
  | some d => exact ⟨d, rfl, h⟩

/-! ### the iterators -/
theorem itd_lst {K : PySem.W.Frag} {a : Addr} {ds : List D} {vs : List V} (hs : SqL K F a vs) (q : Rps S F H ds vs []) : ItD S φ F (Itl K a) ds := by
  have hl := q.length
  refine ⟨fun F1 H1 i s1 s2 hi => ⟨vs, vs[i]'(by omega), (s1.trans s2).seq hs, by simp <;> omega⟩, fun F1 H1 i s1 s2 hi => ⟨vs, (s1.trans s2).seq hs, by omega⟩, fun F1 H1 i x H2 σ env Td Tv s1 r y hi => ?_⟩
  obtain ⟨rfl, y⟩ := y
  have hx := y vs ((s1.trans r.fh).seq hs)
  obtain ⟨d, hd⟩ : ∃ d, ds[i]? = some d := ⟨ds[i], by simp [hi]⟩
  obtain ⟨v, hv, p⟩ := q.get hd
  rw [hx] at hv; cases hv
  exact ⟨F1, d, Same.refl _, hd, Rp.mono s1 _ p (by simp), r⟩
theorem itd_tup {K : PySem.W.Frag} {a : Addr} {ds : List D} {vs : List V} (hs : F a = some (.tup vs)) (q : Rps S F H ds vs []) : ItD S φ F (Itt K a) ds := by
  have hl := q.length
  refine ⟨fun F1 H1 i s1 s2 hi => ⟨vs, vs[i]'(by omega), SqT.of (s2 _ _ (s1 _ _ hs)), by simp <;> omega⟩, fun F1 H1 i s1 s2 hi => ⟨vs, SqT.of (s2 _ _ (s1 _ _ hs)), by omega⟩, fun F1 H1 i x H2 σ env Td Tv s1 r y hi => ?_⟩
  obtain ⟨rfl, y⟩ := y
  have hx := y vs (SqT.of (r.fh _ _ (s1 _ _ hs)))
  obtain ⟨d, hd⟩ : ∃ d, ds[i]? = some d := ⟨ds[i], by simp [hi]⟩
  obtain ⟨v, hv, p⟩ := q.get hd
  rw [hx] at hv; cases hv
  exact ⟨F1, d, Same.refl _, hd, Rp.mono s1 _ p (by simp), r⟩
theorem itd_str {z : Str} : ItD S φ F (Its z) (z.cps.toList.map fun c => .str ⟨#[c]⟩) := by
  refine ⟨fun F1 H1 i s1 s2 hi => by simpa [Its] using hi, fun F1 H1 i s1 s2 hi => by simpa [Its] using hi, fun F1 H1 i x H2 σ env Td Tv s1 r y hi => ?_⟩
  obtain ⟨rfl, c, hc, rfl⟩ := y
  refine ⟨F1, .str ⟨#[c]⟩, Same.refl _, ?_, by rw [Rp]; exact ⟨rfl, rfl⟩, r⟩
  simp [List.getElem?_map, hc]
theorem itd_rng {lo : Int} {n : Nat} : ItD S φ F (Itr lo n) (range lo n) := by
  have hl : (range lo n).length = n := by simp [range]
  refine ⟨fun F1 H1 i s1 s2 hi => by simpa [Itr, hl] using hi, fun F1 H1 i s1 s2 hi => by simpa [Itr, hl] using hi, fun F1 H1 i x H2 σ env Td Tv s1 r y hi => ?_⟩
  obtain ⟨rfl, rfl⟩ := y
  rw [hl] at hi
  exact ⟨F1, .int (lo + i), Same.refl _, by simp [range, hi], by rw [Rp]; exact ⟨rfl, rfl⟩, r⟩
theorem itd_rev {K : PySem.W.Frag} {a : Addr} {ds : List D} {vs : List V} (hs : SqL K F a vs) (q : Rps S F H ds vs []) : ItD S φ F (Itv K a vs.length) ds.reverse := by
  have hl := q.length
  refine ⟨fun F1 H1 i s1 s2 hi => ⟨by simpa [hl] using hi, vs, vs[vs.length - 1 - i]'(by simp at hi; omega), (s1.trans s2).seq hs, by simp at hi; simp <;> omega⟩, fun F1 H1 i s1 s2 hi => by simpa [hl, Itv] using hi, fun F1 H1 i x H2 σ env Td Tv s1 r y hi => ?_⟩
  obtain ⟨rfl, y⟩ := y
  have hx := y vs ((s1.trans r.fh).seq hs)
  simp at hi
  obtain ⟨d, hd⟩ : ∃ d, ds[vs.length - 1 - i]? = some d := ⟨ds[vs.length - 1 - i]'(by omega), by simp <;> omega⟩
  obtain ⟨v, hv, p⟩ := q.get hd
  rw [hx] at hv; cases hv
  refine ⟨F1, d, Same.refl _, ?_, Rp.mono s1 _ p (by simp), r⟩
  rw [List.getElem?_reverse hi, hl]; exact hd
theorem enumL_get : ∀ {xs : List D} {k i : Nat} {x : D}, xs[i]? = some x → (enumL k xs)[i]? = some (.tup false [.int ((k + i : Nat) : Int), x])
  | [], _, _, _, h => by simp at h
  | y :: ys, k, 0, x, h => by simp at h; subst h; simp [enumL]
  | y :: ys, k, i + 1, x, h => by
    simp only [List.getElem?_cons_succ] at h
    simp only [enumL, List.getElem?_cons_succ]
    rw [enumL_get h]
    congr 4
    omega
theorem enumL_len : ∀ {xs : List D} {k : Nat}, (enumL k xs).length = xs.length
  | [], _ => rfl
  | _ :: xs, k => by simp [enumL, enumL_len (xs := xs)]
theorem itd_enm {K : PySem.W.Frag} {a : Addr} {ds : List D} {vs : List V} (hs : SqL K F a vs) (q : Rps S F H ds vs []) : ItD S φ F (Ite K a) (enumL 0 ds) := by
  have hl := q.length
  refine ⟨fun F1 H1 i s1 s2 hi => ⟨vs, vs[i]'(by rw [enumL_len] at hi; omega), (s1.trans s2).seq hs, by rw [enumL_len] at hi; simp <;> omega⟩, fun F1 H1 i s1 s2 hi => ⟨vs, (s1.trans s2).seq hs, by rw [enumL_len] at hi; omega⟩, fun F1 H1 i x H2 σ env Td Tv s1 r y hi => ?_⟩
  obtain ⟨T, u, rfl, hT, rfl, y⟩ := y
  have hx := y vs ((s1.trans r.fh).seq hs)
  rw [enumL_len] at hi
  obtain ⟨d, hd⟩ : ∃ d, ds[i]? = some d := ⟨ds[i], by simp [hi]⟩
  obtain ⟨v, hv, p⟩ := q.get hd
  rw [hx] at hv; cases hv
  have p1 : Rp S F1 H1 d u [] := Rp.mono s1 _ p (by simp)
  have fT : F1 T = none := r.fh.free hT
  have sf : Same F1 (upd F1 T (.tup [.int (i : Nat), u])) := fun b o e => by rw [upd_ne (ne_of_none e fT)]; exact e
  refine ⟨_, .tup false [.int (i : Nat), d], sf, by rw [enumL_get hd, Nat.zero_add], ?_, r.newF hT⟩
  rw [Rp]
  refine ⟨fun _ => rfl, T, _, rfl, upd_same, ?_⟩
  have := Rps.cons (S := S) (F := upd F1 T (.tup [.int (i : Nat), u])) (H := upd H1 T (.tup [.int (i : Nat), u])) (d := .int (i : Nat)) (v := .int (i : Nat)) (A1 := []) (by rw [Rp]; exact ⟨rfl, rfl⟩) (Rps.cons (Rp.mono sf _ p1 (by simp)) Rps.nil)
  simpa using this
theorem zipL_get : ∀ {xs ys : List D} {i : Nat} {x y : D}, xs[i]? = some x → ys[i]? = some y → (zipL xs ys)[i]? = some (.tup false [x, y])
  | [], _, _, _, _, h, _ => by simp at h
  | _ :: _, [], _, _, _, _, h => by simp at h
  | a :: xs, b :: ys, 0, x, y, h, k => by simp at h k; subst h k; simp [zipL]
  | a :: xs, b :: ys, i + 1, x, y, h, k => by
    simp only [List.getElem?_cons_succ] at h k
    simp only [zipL, List.getElem?_cons_succ]
    exact zipL_get h k
theorem zipL_len : ∀ {xs ys : List D}, (zipL xs ys).length = min xs.length ys.length
  | [], _ => by simp [zipL]
  | _ :: _, [] => by simp [zipL]
  | a :: xs, b :: ys => by simp [zipL, zipL_len (xs := xs) (ys := ys)]
theorem itd_zip {K : PySem.W.Frag} {a b : Addr} {ds es : List D} {vs ws : List V} (hs : SqL K F a vs) (q : Rps S F H ds vs []) (ht : SqL K F b ws) (q2 : Rps S F H es ws []) : ItD S φ F (Itz K a b) (zipL ds es) := by
  have hl := q.length
  have hl2 := q2.length
  refine ⟨fun F1 H1 i s1 s2 hi => ?_, fun F1 H1 i s1 s2 hi => ⟨vs, ws, (s1.trans s2).seq hs, (s1.trans s2).seq ht, by rw [zipL_len] at hi; omega⟩, fun F1 H1 i x H2 σ env Td Tv s1 r y hi => ?_⟩
  · rw [zipL_len] at hi
    exact ⟨vs, ws, vs[i]'(by omega), ws[i]'(by omega), (s1.trans s2).seq hs, (s1.trans s2).seq ht, by simp <;> omega, by simp <;> omega⟩
  obtain ⟨T, u, t, rfl, hT, rfl, y, z⟩ := y
  have hx := y vs ((s1.trans r.fh).seq hs)
  have hz := z ws ((s1.trans r.fh).seq ht)
  rw [zipL_len] at hi
  obtain ⟨d, hd⟩ : ∃ d, ds[i]? = some d := ⟨ds[i]'(by omega), by simp <;> omega⟩
  obtain ⟨d2, hd2⟩ : ∃ d, es[i]? = some d := ⟨es[i]'(by omega), by simp <;> omega⟩
  obtain ⟨v, hv, p⟩ := q.get hd
  rw [hx] at hv; cases hv
  obtain ⟨v, hv, p2⟩ := q2.get hd2
  rw [hz] at hv; cases hv
  have fT : F1 T = none := r.fh.free hT
  have sf : Same F1 (upd F1 T (.tup [u, t])) := fun b o e => by rw [upd_ne (ne_of_none e fT)]; exact e
  refine ⟨_, _, sf, by rw [zipL_get hd hd2], ?_, r.newF hT⟩
  rw [Rp]
  refine ⟨fun _ => rfl, T, _, rfl, upd_same, ?_⟩
  have := Rps.cons (S := S) (F := upd F1 T (.tup [u, t])) (H := upd H1 T (.tup [u, t])) (Rp.mono (H' := upd H1 T (.tup [u, t])) (s1.trans sf) _ p (by simp)) (Rps.cons (Rp.mono (H' := upd H1 T (.tup [u, t])) (s1.trans sf) _ p2 (by simp)) Rps.nil)
  simpa using this

/-- a list, a tuple, a text, walked -/
def iAny (K : PySem.W.Frag) (te : TE) : TI := fun σ H Q => te σ H fun x H1 => (∃ a, x = .ref a ∧ (∃ xs, SqL K H1 a xs) ∧ Q (Itl K a) H1) ∨ (∃ a, x = .ref a ∧ (∃ xs, SqT K H1 a xs) ∧ Q (Itt K a) H1) ∨ ∃ z, x = .str z ∧ Q (Its z) H1
theorem pi_any {l : Expr} {tl : TE} (hl : PE X l tl) : PI X tg l (iAny X.K tl) := by
  refine ⟨fun pins s σ H R I h => ?_⟩
  refine thn (hl.run pins s σ H _ I h) fun v s1 ⟨x, H1, I1, r1, q1⟩ => ?_
  rcases q1 with q1 | q1 | q1
  · obtain ⟨a, e, ⟨xs, hq⟩, q⟩ := q1
    subst e
    cases r1
    obtain ⟨its, rv, p, hz⟩ := I1.list hq
    refine wpAny_pyIter_list p.isList ?_
    refine ⟨s1.heap.objs.size, [s1.heap.objs.size], _, _, H1, rfl, I1.kept (t' := s1.toks) fun b o e => Heap.get?_push_of_some _ e, turn_list a _, ⟨_, Heap.get?_push_size _ rfl, rfl, rfl⟩, fun b hb => ?_, q⟩
    have e : b = s1.heap.objs.size := by simpa using hb
    subst e
    exact I1.fpOk (Nat.le_refl _) (I1.hok.fresh (Nat.le_refl _))
  · obtain ⟨a, e, ⟨xs, hq⟩, q⟩ := q1
    subst e
    cases r1
    obtain ⟨its, rv, p, hz⟩ := I1.tuple hq
    refine wpAny_pyIter_tuple (show s1.heap.IsTuple a its.toArray from p) ?_
    refine ⟨s1.heap.objs.size, [s1.heap.objs.size], _, _, H1, rfl, I1.kept (t' := s1.toks) fun b o e => Heap.get?_push_of_some _ e, turn_tuple a _, ⟨_, Heap.get?_push_size _ rfl, rfl, rfl⟩, fun b hb => ?_, q⟩
    have e : b = s1.heap.objs.size := by simpa using hb
    subst e
    exact I1.fpOk (Nat.le_refl _) (I1.hok.fresh (Nat.le_refl _))
  · obtain ⟨z, rfl, q⟩ := q1
    obtain ⟨t, rfl⟩ := r1
    cases ha : z.cps.all (· < 128)
    · exact wpAny_pyIter_wide ha (pi_one (tk := s1.toks) I1 _ (turn_str _ z t "str_iterator" (.inr rfl)) ⟨_, Heap.get?_push_size _ rfl, rfl, rfl⟩ q)
    · exact wpAny_pyIter_ascii ha (pi_one (tk := s1.toks) I1 _ (turn_str _ z t "str_ascii_iterator" (.inl rfl)) ⟨_, Heap.get?_push_size _ rfl, rfl, rfl⟩ q)
theorem rps_ints : ∀ ns : List Int, Rps S F H (ns.map .int) (ns.map V.int) []
  | [] => Rps.nil
  | n :: ns => by
    have := Rps.cons (S := S) (F := F) (H := H) (d := .int n) (v := .int n) (A1 := []) (by rw [Rp]; exact ⟨rfl, rfl⟩) (rps_ints ns)
    simpa using this
abbrev PIo (G : Gb) (c : Cc) (e : Sr) (ast : Expr) : Prop := chkR c e ast = true → e.ok (FnSem G) → ∀ (X : Cx) (W : WX), GX G c X W → ∀ tg : Expr, (needT e = true → tupT tg = true) → PI X tg ast (tI G.S W (evr e))
theorem i_seq {e : E} {x : Expr} (ie : PEo G c e x) (h0 : chkR c (.seq e) x = chk c e x) : PIo G c (.seq e) x := fun h hf X W g tg _ => by
  rw [h0] at h
  refine PI.imp (pi_any (ie h hf X W g)) fun σ H Q ⟨φ, F, env, Td, Tv, r, q⟩ => ?_
  simp only [evr] at q
  refine ⟨φ, F, env, Td, Tv, r, q.bnd (fun _ _ _ x => x) fun d e1 F1 H1 v1 r1 q1 => ?_⟩
  obtain ⟨ds, e2, q2⟩ := q1.opt
  obtain ⟨F2, r2⟩ := r1.freeze
  have hK := g.hK
  generalize hd : d.frz = d' at e2 r2
  unfold itemsD at e2
  split at e2
  · cases e2
    obtain ⟨a, vs, rfl, h1, h2, qs⟩ := r2.lf
    exact .inl ⟨a, rfl, ⟨vs, SqL.of h2⟩, q2 _ _ _ (itd_lst (SqL.of h1) qs) r2.pop⟩
  · cases e2
    obtain ⟨a, vs, rfl, h1, h2, qs⟩ := r2.tf
    exact .inr (.inl ⟨a, rfl, ⟨vs, SqT.of h2⟩, q2 _ _ _ (itd_tup h1 qs) r2.pop⟩)
  · rename_i ns
    cases e2
    obtain ⟨A, p⟩ := r2.top
    rw [Rp] at p
    obtain ⟨_, a, rfl, hs⟩ := p
    rw [hK]
    exact .inl ⟨a, rfl, ⟨_, r2.fh.seq hs⟩, q2 _ _ _ (itd_lst (H := H1) hs (rps_ints ns)) r2.pop⟩
  · cases e2
    have := r2.str
    subst this
    exact .inr (.inr ⟨_, rfl, q2 _ _ _ itd_str r2.pop⟩)
  · cases e2
theorem i_rng1 {e : E} {a : Expr} {x : Str} {p pos : Pos} (ie : PEo G c e a) : PIo G c (.rng1 e) (.Call (.Name x p) [a] [] pos) := fun h hf X W g tg _ => by
  simp only [chkR, Bool.and_eq_true, beq_iff_eq, Bool.not_eq_true'] at h
  obtain ⟨⟨⟨rfl, h1⟩, h2⟩, h3⟩ := h
  obtain ⟨hg, hm, hn⟩ := g.blt h1
  refine PI.imp (pi_range1 hg hm (pa_cons (ie h3 hf X W g) pa_nil (star_of h2)) (by rw [star_of h2]; rfl)) fun σ H Q ⟨φ, F, env, Td, Tv, r, q⟩ => ?_
  simp only [evr] at q
  refine ⟨φ, F, env, Td, Tv, r, q.bnd (fun _ _ _ x => x) fun d e1 F1 H1 v1 r1 q1 => ?_⟩
  split at q1
  · split at q1
    · rename_i j hj
      have := r1.int
      subst this
      exact ⟨j, rfl, hj.1, hj.2, q1 _ _ _ itd_rng r1.pop⟩
    · exact q1.elim
  · exact q1.elim
theorem i_rng2 {d e : E} {a b : Expr} {x : Str} {p pos : Pos} (id : PEo G c d a) (ie : PEo G c e b) : PIo G c (.rng2 d e) (.Call (.Name x p) [a, b] [] pos) := fun h hf X W g tg _ => by
  simp only [chkR, Bool.and_eq_true, beq_iff_eq, Bool.not_eq_true'] at h
  obtain ⟨⟨⟨⟨⟨rfl, h1⟩, h2⟩, h4⟩, h3⟩, h5⟩ := h
  obtain ⟨hg, hm, hn⟩ := g.blt h1
  refine PI.imp (pi_range2 hg hm (pa_cons (id h3 hf.1 X W g) (pa_cons (ie h5 hf.2 X W g) pa_nil (star_of h4)) (star_of h2)) (by rw [star_of h2, star_of h4]; rfl) (by rw [star_of h4]; rfl)) fun σ H Q ⟨φ, F, env, Td, Tv, r, q⟩ => ?_
  simp only [evr] at q
  refine ⟨φ, F, env, Td, Tv, r, q.bnd (fun _ _ _ x => x) fun d e1 F1 H1 v1 r1 q1 => ⟨φ, F1, e1, _, _, r1, q1.bnd (fun _ _ _ x => x.pop) fun d2 e2 F2 H2 v2 r2 q2 => ?_⟩⟩
  split at q2
  · split at q2
    · rename_i i j hj
      have := r2.int
      subst this
      have := r2.pop.int
      subst this
      exact ⟨i, j, rfl, hj, q2 _ _ _ itd_rng r2.pop.pop⟩
    · exact q2.elim
  · exact q2.elim
theorem lstD_some {xs : List D} (e : lstD x = some xs) : x = .lst false xs := by
  unfold lstD at e
  split at e
  · cases e; rfl
  · cases e
theorem tupT_of {t : Expr} (h : tupT t = true) : ∃ es k p, t = .Tuple es k p := by
  cases t <;> first | exact ⟨_, _, _, rfl⟩ | (simp [tupT] at h)
theorem i_enm {e : E} {a : Expr} {x : Str} {p pos : Pos} (ie : PEo G c e a) : PIo G c (.enm e) (.Call (.Name x p) [a] [] pos) := fun h hf X W g tg ht => by
  simp only [chkR, Bool.and_eq_true, beq_iff_eq, Bool.not_eq_true'] at h
  obtain ⟨⟨⟨rfl, h1⟩, h2⟩, h3⟩ := h
  obtain ⟨hg, hm, hn⟩ := g.blt h1
  obtain ⟨es, k, tp, rfl⟩ := tupT_of (ht rfl)
  refine PI.imp (pi_enum hg hm (pa_cons (ie h3 hf X W g) pa_nil (star_of h2)) (by rw [star_of h2]; rfl)) fun σ H Q ⟨φ, F, env, Td, Tv, r, q⟩ => ?_
  simp only [evr] at q
  refine ⟨φ, F, env, Td, Tv, r, q.bnd (fun _ _ _ x => x) fun d e1 F1 H1 v1 r1 q1 => ?_⟩
  obtain ⟨ds, e2, q2⟩ := q1.opt
  obtain ⟨F2, r2⟩ := r1.freeze
  simp only [Option.map_eq_some_iff] at e2
  obtain ⟨xs, e3, rfl⟩ := e2
  rw [lstD_some e3] at r2
  obtain ⟨a, vs, rfl, h1, h2, qs⟩ := r2.lf
  exact ⟨a, vs, rfl, SqL.of h2, q2 _ _ _ (itd_enm (SqL.of h1) qs) r2.pop⟩
theorem i_rev {e : E} {a : Expr} {x : Str} {p pos : Pos} (ie : PEo G c e a) : PIo G c (.rev e) (.Call (.Name x p) [a] [] pos) := fun h hf X W g tg ht => by
  simp only [chkR, Bool.and_eq_true, beq_iff_eq, Bool.not_eq_true'] at h
  obtain ⟨⟨⟨rfl, h1⟩, h2⟩, h3⟩ := h
  obtain ⟨hg, hm, hn⟩ := g.blt h1
  refine PI.imp (pi_reversed hg hm (pa_cons (ie h3 hf X W g) pa_nil (star_of h2)) (by rw [star_of h2]; rfl)) fun σ H Q ⟨φ, F, env, Td, Tv, r, q⟩ => ?_
  simp only [evr] at q
  refine ⟨φ, F, env, Td, Tv, r, q.bnd (fun _ _ _ x => x) fun d e1 F1 H1 v1 r1 q1 => ?_⟩
  obtain ⟨ds, e2, q2⟩ := q1.opt
  obtain ⟨F2, r2⟩ := r1.freeze
  simp only [Option.map_eq_some_iff] at e2
  obtain ⟨xs, e3, rfl⟩ := e2
  rw [lstD_some e3] at r2
  obtain ⟨a, vs, rfl, h1, h2, qs⟩ := r2.lf
  exact ⟨a, vs, rfl, SqL.of h2, q2 _ _ _ (itd_rev (SqL.of h1) qs) r2.pop⟩
theorem i_zip {d e : E} {a b : Expr} {x : Str} {p pos : Pos} (id : PEo G c d a) (ie : PEo G c e b) : PIo G c (.zip d e) (.Call (.Name x p) [a, b] [] pos) := fun h hf X W g tg ht => by
  simp only [chkR, Bool.and_eq_true, beq_iff_eq, Bool.not_eq_true'] at h
  obtain ⟨⟨⟨⟨⟨rfl, h1⟩, h2⟩, h4⟩, h3⟩, h5⟩ := h
  obtain ⟨hg, hm, hn⟩ := g.blt h1
  obtain ⟨es, k, tp, rfl⟩ := tupT_of (ht rfl)
  refine PI.imp (pi_zip hg hm (pa_cons (id h3 hf.1 X W g) (pa_cons (ie h5 hf.2 X W g) pa_nil (star_of h4)) (star_of h2)) (star_of h2) (by rw [star_of h4]; rfl)) fun σ H Q ⟨φ, F, env, Td, Tv, r, q⟩ => ?_
  simp only [evr] at q
  refine ⟨φ, F, env, Td, Tv, r, q.bnd (fun _ _ _ x => x) fun d e1 F1 H1 v1 r1 q1 => ⟨φ, F1, e1, _, _, r1, q1.bnd (fun _ _ _ x => x.pop) fun d2 e2 F2 H2 v2 r2 q2 => ?_⟩⟩
  obtain ⟨ds, e3, q3⟩ := q2.opt
  obtain ⟨F3, r3⟩ := r2.frz2
  simp only [Option.bind_eq_some_iff, Option.map_eq_some_iff] at e3
  obtain ⟨xs, e4, ys, e5, rfl⟩ := e3
  rw [lstD_some e4, lstD_some e5] at r3
  obtain ⟨b, ws, rfl, h7, h8, qs2⟩ := r3.lf
  obtain ⟨a, vs, rfl, h1, h2, qs⟩ := r3.pop.lf
  exact ⟨a, b, vs, ws, rfl, SqL.of h2, SqL.of h8, q3 _ _ _ (itd_zip (SqL.of h1) qs (SqL.of h7) qs2) r3.pop.pop⟩
end
end VS

/-! ## Snd11 -/
set_option maxRecDepth 100000
set_option maxHeartbeats 4000000
namespace VS
open PySem PySem.Spec PyProof.Rows L2
section
variable {G : Gb} {c : Cc} {X : Cx} {W : WX} {S : Sta} {φ : Fr} {F H F' H' : Hp} {σ : L2.St} {env : En} {Td Ud : List D} {Tv Uv : List V} {d e x y : D} {v w va vb : V} {A : List Addr} {tg : Expr}

/-- a slot is forgotten -/
theorem R.forget {i : Nat} {w : Option V} (r : R S φ F H σ env Td Tv) : R S φ F H (σ.set i w) (env.set i .hole) Td Tv := by
  have h0 : ∃ r' : R S φ F H σ (env.set i .hole) Td Tv, True := by
    by_cases hi : i < env.length
    · by_cases hh : env[i] = .hole
      · refine ⟨?_, trivial⟩
        have : env.set i .hole = env := by
          apply List.ext_getElem?; intro j
          rw [List.getElem?_set]
          by_cases z : i = j
          · subst z; simp [hi, hh]
          · simp [z]
        rw [this]; exact r
      · obtain ⟨v, _, r2⟩ := r.take (i := i) (by simp [hi]) hh
        exact ⟨r2.pop, trivial⟩
    · have : env.set i .hole = env := by
        apply List.ext_getElem?; intro j
        rw [List.getElem?_set]
        by_cases z : i = j
        · subst z; simp [hi]
        · simp [z]
      exact ⟨by rw [this]; exact r, trivial⟩
  obtain ⟨r1, _⟩ := h0
  obtain ⟨vs, A, q, l, nd, ok, lk⟩ := r1.cl
  refine ⟨r1.fh, r1.f0, r1.fn, r1.h0, r1.dm, by simpa using r.len, vs, A, q, l, nd, ok, fun j d v h1 h2 h3 => ?_⟩
  have := lk j d v h1 h2 h3
  rw [List.getElem?_set]
  by_cases z : i = j
  · subst z
    rw [List.getElem?_set] at h1
    by_cases hi : i < env.length
    · simp [hi] at h1; exact absurd h1.symm h2
    · simp [hi] at h1
  · simp [z, this]
theorem R.wipe0 : ∀ {own : List Nat} , R S φ F H σ env Td Tv → R S φ F H (wipe σ own) (wipeE env own) Td Tv
  | [], r => r
  | i :: own, r => by
    show R S φ F H ((wipe σ own).set i none) _ _ _
    exact (R.wipe0 (own := own) r).forget
theorem wipeE_get : ∀ {own : List Nat} {env : En} {i : Nat}, i ∉ own → (wipeE env own)[i]? = env[i]?
  | [], _, _, _ => rfl
  | j :: own, env, i, h => by
    simp only [List.mem_cons, not_or] at h
    simp only [wipeE]
    rw [List.getElem?_set, if_neg (Ne.symm h.1)]
    exact wipeE_get h.2
theorem wipeE_length : ∀ {own : List Nat} {env : En}, (wipeE env own).length = env.length
  | [], _ => rfl
  | j :: own, env => by simp [wipeE_length (own := own)]
/-- the saved values of the own slots -/
def LkS (σ : L2.St) : List Nat → List D → List V → Prop
  | i :: r, d :: ds, v :: vs => (d ≠ .hole → σ[i]? = some (some v)) ∧ LkS σ r ds vs
  | [], [], [] => True
  | _, _, _ => False
theorem R.wipeS : ∀ {own : List Nat}, own.Nodup → R S φ F H σ env Td Tv → ∃ sv, LkS σ own (saved env own) sv ∧ R S φ F H (wipe σ own) (wipeE env own) (saved env own ++ Td) (sv ++ Tv)
  | [], _, r => ⟨[], trivial, r⟩
  | i :: own, nd, r => by
    obtain ⟨n1, n2⟩ := List.nodup_cons.mp nd
    obtain ⟨sv, lk, r1⟩ := R.wipeS n2 r
    have hE : (wipeE env own)[i]? = env[i]? := wipeE_get n1
    have hS : (wipe σ own)[i]? = σ[i]? := wipe_out n1
    by_cases hh : env.getD i .hole = .hole
    · refine ⟨.non :: sv, ⟨fun z => absurd hh z, lk⟩, ?_⟩
      have r2 : R S φ F H ((wipe σ own).set i none) ((wipeE env own).set i .hole) (saved env own ++ Td) (sv ++ Tv) := r1.forget
      show R S φ F H ((wipe σ own).set i none) _ (env.getD i .hole :: (saved env own ++ Td)) (.non :: (sv ++ Tv))
      rw [hh]
      exact r2.push (by rw [Rp])
    · have he : env[i]? = some (env.getD i .hole) := by
        rw [List.getD_eq_getElem?_getD] at hh ⊢
        cases h : env[i]? with
        | none => rw [h] at hh; simp at hh
        | some d => simp
      obtain ⟨v, h1, r2⟩ := r1.take (hE.trans he) hh
      refine ⟨v :: sv, ⟨fun _ => hS ▸ h1, lk⟩, ?_⟩
      have r3 : R S φ F H ((wipe σ own).set i none) (((wipeE env own).set i .hole).set i .hole) _ _ := r2.forget
      rw [List.set_set] at r3
      exact r3
theorem lks_len : ∀ {own : List Nat} {ds : List D} {sv : List V}, LkS σ own ds sv → ds.length = sv.length
  | [], [], [], _ => rfl
  | _ :: _, _ :: _, _ :: _, h => by simp [lks_len h.2]
  | [], _ :: _, _, h => by simp [LkS] at h
  | [], [], _ :: _, h => by simp [LkS] at h
  | _ :: _, [], _, h => by simp [LkS] at h
  | _ :: _, _ :: _, [], h => by simp [LkS] at h
theorem set_back {α : Type} {l : List α} {i : Nat} {a : α} {b : α} (h : l[i]? = some b) : (l.set i a).set i b = l := by
  rw [List.set_set]
  apply List.ext_getElem?; intro j
  rw [List.getElem?_set]
  by_cases z : i = j
  · subst z
    obtain ⟨h1, h2⟩ := List.getElem?_eq_some_iff.mp h
    simp [h1, h2]
  · simp [z]
theorem R.restoreS : ∀ {own : List Nat} {ds : List D} {sv : List V} {e : En}, own.Nodup → LkS σ own ds sv → R S φ F H (wipe σ own) e (ds ++ Td) (sv ++ Tv) → R S φ F H σ (restore e own ds) Td Tv
  | [], [], [], e, _, _, r => r
  | i :: own, d :: ds, v :: sv, e, nd, lk, r => by
    obtain ⟨n1, n2⟩ := List.nodup_cons.mp nd
    have hS : (wipe σ own)[i]? = σ[i]? := wipe_out n1
    simp only [restore]
    refine R.restoreS n2 lk.2 ?_
    have r' : R S φ F H ((wipe σ own).set i none) e (d :: (ds ++ Td)) (v :: (sv ++ Tv)) := r
    by_cases hi : i < e.length
    · have hw : i < (wipe σ own).length := by have := r.len; unfold wipe at this; simp at this; omega
      by_cases hh : d = .hole
      · subst hh
        have r2 := (r'.pop).forget (i := i) (w := (wipe σ own)[i])
        rw [set_back (by simp [hw])] at r2
        exact r2
      · have r2 := r'.put hi
        rw [set_back (by rw [hS]; exact lk.1 hh)] at r2
        exact r2
    · have e1 : e.set i d = e := by
        apply List.ext_getElem?; intro j
        rw [List.getElem?_set]
        by_cases z : i = j
        · subst z; simp [hi]
        · simp [z]
      have e2 : (wipe σ own).set i none = wipe σ own := by
        have hw : ¬ i < (wipe σ own).length := by have := r.len; unfold wipe at this; simp at this; omega
        apply List.ext_getElem?; intro j
        rw [List.getElem?_set]
        by_cases z : i = j
        · subst z; simp [hw]
        · simp [z]
      rw [e1]
      rw [e2] at r'
      exact r'.pop
  | [], _ :: _, _, _, _, lk, _ => by simp [LkS] at lk
  | [], [], _ :: _, _, _, lk, _ => by simp [LkS] at lk
  | _ :: _, [], _, _, _, lk, _ => by simp [LkS] at lk
  | _ :: _, _ :: _, [], _, _, lk, _ => by simp [LkS] at lk
/-- an item goes to the list below it -/
theorem R.app {acc : List D} {D : Addr} (r : R S φ F H σ env (d :: .lst true acc :: Td) (v :: .ref D :: Tv)) : ∃ vs, H D = some (.lst vs) ∧ vs.length = acc.length ∧ R S φ F (upd H D (.lst (vs ++ [v]))) σ env (.lst true (acc ++ [d]) :: Td) (.ref D :: Tv) := by
  obtain ⟨ws, B, C, qs, t, lw, nd, ok, lk⟩ := R.openN (Ud := [d, .lst true acc]) (Uv := [v, .ref D]) rfl r
  rw [Rps] at qs
  obtain ⟨v1, ws1, A1, B1, e1, rfl, p, qs⟩ := qs
  simp only [List.cons.injEq] at e1
  obtain ⟨rfl, rfl⟩ := e1
  rw [Rps] at qs
  obtain ⟨v1, ws1, A2, B2, e1, rfl, p2, qs⟩ := qs
  simp only [List.cons.injEq] at e1
  obtain ⟨rfl, rfl⟩ := e1
  rw [Rps] at qs
  obtain ⟨_, rfl⟩ := qs
  rw [Rp] at p2
  obtain ⟨a, vs, B, e2, rfl, hH, hF, q⟩ := p2
  cases e2
  have nd' := nd
  have hn := List.nodup_append.mp nd
  have hn1 := List.nodup_append.mp hn.1
  have hD1 : D ∉ A1 := fun z => hn1.2.2 D z D (by simp) rfl
  have hDB : D ∉ B := by have := hn1.2.1; simp at this; exact this.1
  have hDC : D ∉ C := fun z => hn.2.2 D (by simp) D z rfl
  have ad1 := Rp.adr _ p
  have adB := Rps.adr _ q
  have adC := Rps.adr _ t
  refine ⟨vs, hH, q.length.symm, ?_⟩
  have sfh : Same F (upd H D (.lst (vs ++ [v]))) := fun b u e => by
    have : b ≠ D := fun z => by subst z; rw [hF] at e; cases e
    rw [upd_ne this]; exact r.fh _ _ e
  refine R.turn (Ud := [d, .lst true acc]) (Uv := [v, .ref D]) (Ud' := [.lst true (acc ++ [d])]) (Uv' := [.ref D]) (B := D :: (B ++ A1)) r t lw lk (Same.refl F) sfh (fun a ha => ⟨(adC a ha).2, upd_ne fun z => hDC (z ▸ ha)⟩) (fun a h1 h2 => absurd h2 h1) (fun a o h1 h2 => ?_) (fun a h => ?_) ?_ ?_ ?_
  · have : a ≠ D := fun z => by
      subst z
      rcases ok a (by simp) with k | k
      · exact h2 k
      · rw [h1] at k; cases k
    rw [upd_ne this]; exact r.h0 a o h1 h2
  · by_cases z : a = D
    · subst z; rw [upd_same] at h; cases h
    · rw [upd_ne z] at h; exact h
  · have h1 : Rps S F (upd H D (.lst (vs ++ [v]))) acc vs B := Rps.mono (Same.refl F) _ q fun a ha => ⟨(adB a ha).2, upd_ne fun z => hDB (z ▸ ha)⟩
    have h2 : Rp S F (upd H D (.lst (vs ++ [v]))) d v A1 := Rp.mono (Same.refl F) _ p fun a ha => ⟨(ad1 a ha).2, upd_ne fun z => hD1 (z ▸ ha)⟩
    have h3 := h1.append (Rps.cons h2 Rps.nil)
    have h4 : Rp S F (upd H D (.lst (vs ++ [v]))) (.lst true (acc ++ [d])) (.ref D) (D :: (B ++ A1)) := by
      rw [Rp]
      exact ⟨D, _, _, rfl, rfl, upd_same, hF, by simpa using h3⟩
    simpa using Rps.cons h4 Rps.nil
  · have pm : (D :: (B ++ A1) ++ C).Perm (A1 ++ (D :: B ++ []) ++ C) := by
      rw [List.perm_iff_count]; intro a; simp only [List.count_append, List.count_cons, List.count_nil]; omega
    exact pm.nodup_iff.mpr nd
  · intro b hb
    refine ok b ?_
    simp only [List.mem_append, List.mem_cons] at hb ⊢
    rcases hb with (z | z | z) | z <;> simp [z]
theorem wipe_eq : ∀ {own : List Nat} {σ σ' : L2.St}, Out1 own σ σ' → wipe σ' own = wipe σ own := fun {own σ σ'} h => by
  apply List.ext_getElem?; intro j
  by_cases hj : j ∈ own
  · have h1 : ∀ {σ : L2.St} {own : List Nat}, j ∈ own → (wipe σ own)[j]? = if j < σ.length then some none else none := fun {σ own} => by
      induction own with
      | nil => simp
      | cons i own ih =>
        intro hm
        unfold wipe
        rw [List.getElem?_set, wipe_length]
        by_cases z : i = j
        · simp [z]
        · rw [if_neg z]
          exact ih (by simp at hm; exact hm.resolve_left (Ne.symm z))
    rw [h1 hj, h1 hj, h.1]
  · rw [wipe_out hj, wipe_out hj]; exact h.2 j hj
mutual
theorem ixs_own {own : List Nat} (h : ∀ x i, c.sto x i = true → i ∈ own) : ∀ (g : Tg) (t : Expr), chkG c g t = true → ∀ i ∈ g.ixs, i ∈ own
  | .nm i, .Name x p, k, j, hj => by
    simp only [chkG] at k
    simp only [Tg.ixs, List.mem_singleton] at hj
    subst hj
    exact h x j k
  | .tp l, .Tuple es _ _, k, j, hj => by
    simp only [chkG] at k
    exact ixss_own h l es k j (by simpa [Tg.ixs] using hj)
  | .nm _, .Tuple _ _ _, k, _, _ => by simp [chkG] at k
theorem ixss_own {own : List Nat} (h : ∀ x i, c.sto x i = true → i ∈ own) : ∀ (gs : List Tg) (es : List Expr), chkGs c gs es = true → ∀ i ∈ Tg.ixss gs, i ∈ own
  | [], [], _, j, hj => by simp [Tg.ixss] at hj
  | g :: gs, e :: es, k, j, hj => by
    simp only [chkGs, Bool.and_eq_true] at k
    simp only [Tg.ixss, List.mem_append] at hj
    rcases hj with hj | hj
    · exact ixs_own h g e k.1.2 j hj
    · exact ixss_own h gs es k.2 j hj
  | [], _ :: _, k, _, _ => by simp [chkGs] at k
  | _ :: _, [], k, _, _ => by simp [chkGs] at k
end
abbrev PCo (G : Gb) (c : Cc) (e : Es) (xs : List Expr) : Prop := chkTs c e xs = true → e.ok (FnSem G) → ∀ (X : Cx) (W : WX), GX G c X W → PTs X xs (tT G.S W (tsts e))
theorem PTs.imp {X : Cx} {e : List Expr} {t t' : TT} (h : PTs X e t) (k : ∀ σ H Q, t' σ H Q → t σ H Q) : PTs X e t' := ⟨fun pins s σ H Q I q => h.run pins s σ H Q I (k σ H Q q)⟩
theorem c_nil : PCo G c .nil [] := fun _ _ X W g => PTs.imp pts_nil fun σ H Q ⟨φ, F, env, Td, Tv, r, q⟩ => by
  simp only [tsts] at q
  exact q F H r
theorem c_one {e : E} {x : Expr} (ie : PBo G c e x) : PCo G c (.cons e .nil) [x] := fun h hf X W g => by
  simp only [chkTs] at h
  refine PTs.imp (pts_one (ie h hf.1 X W g).1) fun σ H Q ⟨φ, F, env, Td, Tv, r, q⟩ => ?_
  simp only [tsts] at q
  exact ⟨φ, F, env, Td, Tv, r, q⟩
theorem GX.blk (g : GX G c X W) {scope : Scope} {s : Shared} {H : Hp} {C : Addr} {cl : List (Str × Addr)} {fp : List Addr} : GX G (c.blk scope) (X.blk s H scope (compEnvC scope cl C X.env) fp) (fun _ _ _ _ => False) where
  hP := g.hP
  hw := g.hw
  hb := g.hb
  hK := g.hK
  hm := g.hm
  N := g.N
  nd := g.nd
  sc := by
    show relS scope X.env.scope = relS scope c.sc
    rw [g.sc]
  st := fun x h => h
  calm := g.calm
  room := g.room
  tk := fun u s' ⟨a, B, sI, pins, σ, H, cls, d, e, I, nb, up, sky, na, os, ag, w⟩ => w.elim
  bl := g.bl
  gl := g.gl
  kt := g.kt
  fl := g.fl
  gcd := g.gcd
theorem R.reb {φ' : Fr} (r : R S φ F H σ env Td Tv) (s : Same φ'.F F) (s0 : Same φ.F φ'.F) (e1 : φ'.H = φ.H) (e2 : φ'.O = φ.O) : R S φ' F H σ env Td Tv := by
  refine ⟨r.fh, s, fun a h1 h2 => ?_, by rw [e1, e2]; exact r.h0, by rw [e1]; exact r.dm, r.len, by rw [e1, e2]; exact r.cl⟩
  rw [e1, e2]
  refine r.fn a h1 ?_
  cases e : φ.F a with
  | none => rfl
  | some o => rw [s0 _ _ e] at h2; cases h2
theorem R.unreb {F1 H1 : Hp} {σ1 : L2.St} {env1 : En} {Td1 : List D} {Tv1 : List V} (r : R S ⟨F1, φ.H, φ.O⟩ F H σ env Td Tv) (r1 : R S φ F1 H1 σ1 env1 Td1 Tv1) : R S φ F H σ env Td Tv := by
  refine ⟨r.fh, r1.f0.trans r.f0, fun a h1 h2 => ?_, r.h0, r.dm, r.len, r.cl⟩
  by_cases e : F1 a = none
  · exact r.fn a h1 e
  · exact r1.fn a e h2
theorem R.rb {F1 : Hp} (r : R S φ F H σ env Td Tv) (s : Same F1 F) (s0 : Same φ.F F1) : R S ⟨F1, φ.H, φ.O⟩ F H σ env Td Tv := r.reb s s0 rfl rfl
theorem lookup_keep {f : Str × NameKind → Str × NameKind} (hf : ∀ p, (f p).1 = p.1) {x : Str} {k : NameKind} : ∀ {l : List (Str × NameKind)}, (l.map f).lookup x = some k → ∃ k0, (x, k0) ∈ l ∧ l.lookup x = some k0 ∧ (f (x, k0)).2 = k
  | [], h => by simp at h
  | p :: l, h => by
    obtain ⟨y, k1⟩ := p
    rw [List.map_cons] at h
    obtain ⟨y', k'⟩ : ∃ a b, f (y, k1) = (a, b) := ⟨_, _, rfl⟩
    obtain ⟨k', hk⟩ := k'
    have hy := hf (y, k1)
    rw [hk] at h hy
    simp only at hy
    subst hy
    rw [List.lookup_cons] at h ⊢
    by_cases e : x = y'
    · subst e
      simp only [beq_self_eq_true] at h ⊢
      cases h
      exact ⟨k1, by simp, rfl, by rw [hk]⟩
    · have : (x == y') = false := by simpa using e
      simp only [this] at h ⊢
      obtain ⟨k0, h1, h2, h3⟩ := lookup_keep hf h
      exact ⟨k0, by simp [h1], h2, h3⟩
theorem fold_of {it : Expr} (h : isSet it = false) (env : PySem.Env) (x : Value) : foldedSetIterable it env x = pure x := by
  cases it <;> first | rfl | (simp [isSet] at h)
structure LcP (G : Gb) (c : Cc) (X : Cx) (W : WX) (elt : E) (tgt : Tg) (src : Sr) (ifs : Es) (own : List Nat) (ea t it : Expr) (fs : List Expr) (scope : Scope) : Prop where
  hi : PI X t it (tI G.S W (evr src))
  ok : BlkOk X.N X.env.scope scope (own.map fun i => (c.N.getD i ("" : Str), i))
  hg : ∀ (s : Shared) (H : Hp) (C : Addr) (cl : List (Str × Addr)) (fp : List Addr), PG (X.blk s H scope (compEnvC scope cl C X.env) fp) t (gT G.S tgt)
  ht : ∀ (s : Shared) (H : Hp) (C : Addr) (cl : List (Str × Addr)) (fp : List Addr), PTs (X.blk s H scope (compEnvC scope cl C X.env) fp) fs (tT G.S (fun _ _ _ _ => False) (tsts ifs))
  he : ∀ (s : Shared) (H : Hp) (C : Addr) (cl : List (Str × Addr)) (fp : List Addr), PE (X.blk s H scope (compEnvC scope cl C X.env) fp) ea (tE G.S (fun _ _ _ _ => False) (ev elt))
  hs : ∀ x, foldedSetIterable it X.env x = pure x
  imp : ∀ σ H Q, tE G.S W (ev (.lc elt tgt src ifs own)) σ H Q → tLc (tI G.S W (evr src)) (gT G.S tgt) (tT G.S (fun _ _ _ _ => False) (tsts ifs)) (tE G.S (fun _ _ _ _ => False) (ev elt)) ((own.map fun i => (c.N.getD i ("" : Str), i)).map (·.2)) σ H Q
theorem lc_parts {elt : E} {tgt : Tg} {src : Sr} {ifs : Es} {own : List Nat} {ea t it : Expr} {fs : List Expr} {scope : Scope} {pos : Pos} (ir : PIo G c src it) (ic : PCo G (c.blk scope) ifs fs) (ie : PEo G (c.blk scope) elt ea)
    (h : chk c (.lc elt tgt src ifs own) (.ListComp ea [⟨t, it, fs, 0⟩] scope pos) = true) (hf : (E.lc elt tgt src ifs own).ok (FnSem G)) (g : GX G c X W) : LcP G c X W elt tgt src ifs own ea t it fs scope := by
  simp only [chk, Bool.and_eq_true, Bool.not_eq_true', Bool.or_eq_true, decide_eq_true_eq] at h
  obtain ⟨⟨⟨⟨⟨⟨⟨⟨h1, hnd⟩, h2⟩, h3⟩, h4⟩, h5⟩, h6⟩, h7⟩, h8⟩ := h
  have hown : (own.map fun i => (c.N.getD i ("" : Str), i)).map (·.2) = own := by rw [List.map_map]; exact List.map_id'' (fun _ => rfl) own
  have ok := blkOk_by h1
  have hsto : ∀ x i, (c.blk scope).sto x i = true → i ∈ own := fun x i h => by
    unfold Cc.sto at h
    simp only [Bool.and_eq_true, decide_eq_true_eq] at h
    obtain ⟨⟨⟨hN, _⟩, _⟩, hl⟩ := h
    have hN : c.N[i]? = some x := hN
    have hl2 : ∃ k, (x, k) ∈ scope.names ∧ (k = .local ∨ k = .cell) := by
      simp only [Cc.blk] at hl
      split at hl
      · rename_i e
        obtain ⟨k0, m, l, f⟩ := lookup_keep (fun p => by dsimp only; split <;> rfl) e
        refine ⟨k0, m, .inl ?_⟩
        dsimp only at f
        split at f
        · cases f
        · exact f
      · refine ⟨.cell, ?_, .inr rfl⟩
        have hl : scope.names.lookup x = some .cell := by simpa using hl
        obtain ⟨k0, m, l, f⟩ := lookup_keep (f := id) (fun p => rfl) (x := x) (k := .cell) (l := scope.names) (by simpa using hl)
        have : k0 = .cell := f
        subst this
        exact m
      · cases hl
    obtain ⟨k, m, hk⟩ := hl2
    have hxN : x ∈ c.N := List.mem_of_getElem? hN
    rcases ok.own (x, k) m hk with z | z
    · simp only [List.map_map, List.mem_map, Function.comp] at z
      obtain ⟨j, hj, e⟩ := z
      have hjN : j < c.N.length := by
        rw [List.all_eq_true] at h2
        simpa using h2 j hj
      have hiN : i < c.N.length := (List.getElem?_eq_some_iff.mp hN).1
      have e2 : c.N[j]? = c.N[i]? := by
        rw [hN, ← e, List.getD_eq_getElem?_getD]
        simp [hjN]
      have := (List.getElem?_inj hjN g.nd).mp e2
      subst this
      exact hj
    · exact absurd hxN z
  refine ⟨ir h5 hf.2.1 X W g t (fun z => h4.resolve_left (by simp [z])), by rw [g.N, g.sc]; exact ok, fun s H C cl fp => pg_ok g.blk tgt t h6, fun s H C cl fp => ic h7 hf.2.2 _ _ g.blk, fun s H C cl fp => ie h8 hf.1 _ _ g.blk, fold_of h3 _, fun σ H Q ⟨φ, F, env, Td, Tv, r, q⟩ => ?_⟩
  rw [hown]
  simp only [ev] at q
  refine ⟨φ, F, env, Td, Tv, r, q.bndI fun ds e1 F1 H1 J it1 r1 q1 D hD => ?_⟩
  obtain ⟨sv, lks, r2⟩ := R.wipeS hnd r1
  have r3 : R G.S φ F1 (upd H1 D (.lst [])) (wipe σ own) (wipeE e1 own) (.lst true [] :: (saved e1 own ++ Td)) (.ref D :: (sv ++ Tv)) := R.newL (ds := []) (vs := []) rfl r2 hD
  refine ⟨fun i m H => m = ds.length - i ∧ i ≤ ds.length ∧ ∃ F' e acc, Same F1 F' ∧ R G.S φ F' H (wipe σ own) e (.lst true acc :: (saved e1 own ++ Td)) (.ref D :: (sv ++ Tv)) ∧
    PostE G.S φ W σ Td Tv ((lcL (asgT tgt) (tsts ifs) (ev elt) own (ds.drop i) e acc).bind fun ds e2 => .ok (.lst true ds) (restore e2 own (saved e1 own))) Q, ⟨_, rfl, Nat.zero_le _, F1, _, _, Same.refl _, r3, by simpa using q1⟩, ?_⟩
  rintro i m H2 ⟨rfl, hi, F2, e2, acc, sf, r4, q2⟩
  by_cases hlt : i < ds.length
  · refine .inr ⟨it1.go _ _ _ sf r4.fh hlt, fun H' => ∃ m', m' < ds.length - i ∧ m' = ds.length - (i + 1) ∧ i + 1 ≤ ds.length ∧ ∃ F' e acc, Same F1 F' ∧ R G.S φ F' H' (wipe σ own) e (.lst true acc :: (saved e1 own ++ Td)) (.ref D :: (sv ++ Tv)) ∧
      PostE G.S φ W σ Td Tv ((lcL (asgT tgt) (tsts ifs) (ev elt) own (ds.drop (i + 1)) e acc).bind fun ds e2 => .ok (.lst true ds) (restore e2 own (saved e1 own))) Q, fun H' ⟨m', a, b⟩ => ⟨m', a, b⟩, fun x H3 y => ?_⟩
    obtain ⟨F3, d, s3, hd, p, r5⟩ := it1.yld _ _ _ _ _ _ _ _ _ sf r4 y hlt
    have hdr : ds.drop i = d :: ds.drop (i + 1) := by
      rw [List.drop_eq_getElem_cons hlt]
      congr 1
      rw [List.getElem?_eq_getElem hlt] at hd
      exact Option.some.inj hd
    rw [hdr] at q2
    unfold lcL at q2
    cases hg : asgT tgt d e2 with
    | none => simp only [hg] at q2; exact q2.elim
    | some e3 =>
      simp only [hg] at q2
      refine ⟨⟨F1, φ.H, φ.O⟩, F3, d, e2, _, _, e3, p, r5.rb (sf.trans s3) r1.f0, hg, fun σ2 r6 o1 => ?_⟩
      have ow := wipe_eq (o1.mono (ixs_own hsto tgt t h6))
      have ww : wipe (wipe σ own) own = wipe σ own := by
        refine wipe_eq ⟨by rw [wipe_length], fun j hj => wipe_out hj⟩
      refine ⟨by rw [ow, ww], ?_⟩
      refine ⟨⟨F1, φ.H, φ.O⟩, F3, e3, _, _, r6, ?_⟩
      cases ht : tsts ifs e3 with
      | bad => simp only [ht] at q2; exact q2.elim
      | exc _ _ => simp only [ht] at q2; exact q2.elim
      | ok b e4 =>
        cases b with
        | false =>
          simp only [ht] at q2
          intro F4 H4 r7
          rw [if_neg Bool.false_ne_true]
          refine ⟨_, by omega, rfl, hlt, F4, _, acc, r7.f0, ?_, q2⟩
          have := (r7.unreb r1).wipe0 (own := own)
          rw [ow, ww] at this
          exact this
        | true =>
          simp only [ht] at q2
          intro F4 H4 r7
          rw [if_pos rfl]
          refine ⟨⟨F1, φ.H, φ.O⟩, F4, e4, _, _, r7, ?_⟩
          cases hev : ev elt e4 with
          | bad => simp only [hev] at q2; exact q2.elim
          | exc _ _ => simp only [hev] at q2; exact q2.elim
          | ok dd e5 =>
            simp only [hev] at q2
            intro F5 H5 u r8
            obtain ⟨vs, hv, hl, r9⟩ := r8.app
            split at q2
            · rename_i hz
              refine ⟨vs, hv, by rw [hl, ← lim_eq]; exact hz, _, by omega, rfl, hlt, F5, _, acc ++ [dd], r9.f0, ?_, q2⟩
              have := (r9.unreb r1).wipe0 (own := own)
              rw [ow, ww] at this
              exact this
            · exact q2.elim
  · have e : i = ds.length := by omega
    subst e
    rw [List.drop_length] at q2
    simp only [lcL, Rs.bind] at q2
    refine .inl ⟨it1.stop _ _ _ sf r4.fh (Nat.le_refl _), q2 F2 H2 _ ?_⟩
    have := r4
    refine R.restoreS hnd lks ?_
    -- the list behind the saved ones
    exact R.tor (Ud := saved e1 own) (Uv := sv) (lks_len lks) r4
theorem r_lc {elt : E} {tgt : Tg} {src : Sr} {ifs : Es} {own : List Nat} {ea t it : Expr} {fs : List Expr} {scope : Scope} {pos : Pos} (ir : PIo G c src it) (ic : PCo G (c.blk scope) ifs fs) (ie : PEo G (c.blk scope) elt ea) :
    PEo G c (.lc elt tgt src ifs own) (.ListComp ea [⟨t, it, fs, 0⟩] scope pos) := fun h hf X W g => by
  have p := lc_parts ir ic ie h hf g
  exact PE.imp (pe_lc g.calm (by rw [g.N]; exact g.nd) p.hi p.ok p.hg p.ht p.he p.hs) p.imp
end
end VS

/-! ## SndM -/
set_option maxRecDepth 100000
set_option maxHeartbeats 4000000
namespace VS
open PySem PySem.Spec PyProof.Rows L2
section
variable {X : Cx} {CX : CXT} {k : Nat} {f C : Addr} {fd : FuncData} {ps : List Str} {sp : Sp} {dvs : List V} {ds : List Value} {E : L2.St → XK} {x m : Str} {p pos apos : Pos} {e o : Expr} {es : List Expr} {ta : TE} {t : TA}
def tMethSD (C : Addr) (m : Str) (sp : Sp) (dvs : List V) (E : L2.St → XK) (ta : TE) (t : TA) : TE := fun σ H Q => ta σ H fun x H1 => ∃ a dx fs, x = .ref a ∧ H1 a = some (.ins C dx fs) ∧ fs.lookup m = none ∧
  t σ H1 fun vs H2 => sp (x :: (vs ++ dvs)) H2 Q (E σ)
theorem pe_methSD {pl : Sem Bool} (he : PE X o ta) (c : Cls X.K C) (hm : Meth X.K C m f) (F : FnOk X.prog X.w X.K X.mg X.base CX k f fd ps sp) (hr : Room k X.A) (hb : Binds X.K fd ps ds) (hd : Vals dvs ds) (hx : ∀ σ, PassesAt CX X σ (E σ)) (ha : PA X (e :: es) t)
    (hst : starEach (e :: es) X.env = (false, eval e X.env) :: starEach es X.env := by rfl) (hpl : (backTo pos (starEach es X.env)).any (·.1) = false := by rfl)
    (ht : eval (.Call (.Attribute o m apos) (e :: es) [] pos) X.env = (do
      let ov ← eval o X.env
      standAt apos.atName
      let (f, first) ← holding [ov] (getMethod ov m pl)
      callWith pos f first (backTo pos (starEach (e :: es) X.env)) (backToKw pos (keywordEach [] X.env)))) :
    PE X (.Call (.Attribute o m apos) (e :: es) [] pos) (tMethSD C m sp dvs E ta t) := by
  refine ⟨fun pins s σ H Q I h => ?_⟩
  refine PySem.W.methodCall_KW (pl := pl) (thn (he.run pins s σ H _ I h) fun u s1 ⟨x, H1, I1, rx, a, dx, fs, ex, ea, l, q⟩ => ?_) ht
  subst ex
  obtain rfl : u = Value.ref a := rx
  refine getmeth_ok I1 ea c hm l ?_
  refine PySem.W.callWith_K (first := [.ref a]) (h₀ := X.base) I.ok.mod.kin hm.kp (thn (ha.run pos pins s1 σ H1 _ I1 q) fun us s2 ⟨vs, H2, I2, r, q2⟩ => ⟨I2.kIn, ?_⟩) hst hpl
  exact run_fnSD (us := .ref a :: us) (vs := .ref a :: vs) F hr hb hd (hx σ) I2 (.cons rfl r) q2
theorem pe_methSD0 {pl : Sem Bool} (he : PE X o ta) (c : Cls X.K C) (hm : Meth X.K C m f) (F : FnOk X.prog X.w X.K X.mg X.base CX k f fd ps sp) (hr : Room k X.A) (hb : Binds X.K fd ps ds) (hd : Vals dvs ds) (hx : ∀ σ, PassesAt CX X σ (E σ))
    (ht : eval (.Call (.Attribute o m apos) [] [] pos) X.env = (do
      let ov ← eval o X.env
      standAt apos.atName
      let (f, first) ← holding [ov] (getMethod ov m pl)
      callWith pos f first (backTo pos (starEach [] X.env)) (backToKw pos (keywordEach [] X.env)))) :
    PE X (.Call (.Attribute o m apos) [] [] pos) (tMethSD C m sp dvs E ta tNil) := by
  refine ⟨fun pins s σ H Q I h => ?_⟩
  refine PySem.W.methodCall_KW (pl := pl) (thn (he.run pins s σ H _ I h) fun u s1 ⟨x, H1, I1, rx, a, dx, fs, ex, ea, l, q⟩ => ?_) ht
  subst ex
  obtain rfl : u = Value.ref a := rx
  refine getmeth_ok I1 ea c hm l ?_
  exact PySem.W.callWith_K0 (first := [.ref a]) I1.kIn hm.kp (run_fnSD (us := [.ref a]) (vs := [.ref a]) F hr hb hd (hx σ) I1 (.cons rfl .nil) q)
def tMakeSD (C : Addr) (sp : Sp) (dvs : List V) (E : L2.St → XK) (t : TA) : TE := fun σ H Q => t σ H fun vs H1 => ∀ x dx, H1 x = none → H1 dx = none → dx ≠ x →
  sp (.ref x :: (vs ++ dvs)) (upd (upd H1 dx (.own x)) x (.ins C dx [])) (fun v H2 => v = .non ∧ Q (.ref x) H2) (E σ)
theorem run_makeSD {pins : List (Addr × Obj)} {σ : L2.St} {H : Hp} {s : Shared} {Q : VK} {us : List Value} {vs : List V} (M : Mk X.K C f) (F : FnOk X.prog X.w X.K X.mg X.base CX k f fd ps sp) (hr : Room (k + 1) X.A) (hb : Binds X.K fd ps ds) (hd : Vals dvs ds)
    (hx : PassesAt CX X σ (E σ)) (I : Inv X pins σ H s) (r : Vals vs us)
    (h : ∀ x dx, H x = none → H dx = none → dx ≠ x → sp (.ref x :: (vs ++ dvs)) (upd (upd H dx (.own x)) x (.ins C dx [])) (fun v H2 => v = .non ∧ Q (.ref x) H2) (E σ)) :
    wpAny (model X.prog X.w) X.A (call (.ref C) us) (EP X pins σ Q) X.xe s := by
  have hq := h (s.heap.objs.size + 1) s.heap.objs.size (I.hok.fresh (Nat.le_succ _)) (I.hok.fresh (Nat.le_refl _)) (Nat.ne_of_lt (Nat.lt_succ_self _))
  have I2 := Inv.made (C := C) I
  have r2 : Vals (V.ref (s.heap.objs.size + 1) :: (vs ++ dvs)) (Value.ref (s.heap.objs.size + 1) :: (us ++ ds)) := .cons rfl (r.append hd)
  have hl : (Value.ref (s.heap.objs.size + 1) :: us ++ ds).length = ps.length := by
    have e := r2.length
    rw [F.len _ _ _ _ hq] at e
    exact e.symm
  refine wpAny_call (make_map (f := f) I.kIn M.makes M.init (beq_iff_eq.mp M.fn) (codeAny_mono (F.run _ X.stack _ _ ⟨Value.ref (s.heap.objs.size + 1) :: us, []⟩ (Value.ref (s.heap.objs.size + 1) :: (us ++ ds)) _ _ (E σ) (hr.make C us [])
    (I2.env0.make C us []) (hb _ (Value.ref (s.heap.objs.size + 1) :: us) I2.kIn hl) r2 hq) fun r s' hq' => ?_))
  cases r with
  | error e => exact hx pins _ _ e s' I2 hq'
  | ok fl =>
    cases fl with
    | ret u =>
      obtain ⟨v, H', I3, rv, ev, q3⟩ := I2.after hq'
      subst ev
      exact ⟨rv, ⟨V.ref (s.heap.objs.size + 1), H', I3, rfl, q3⟩⟩
    | next => exact False.elim hq'
    | brk => exact False.elim hq'
    | cont => exact False.elim hq'
theorem pe_makeSD (M : Mk X.K C f) (F : FnOk X.prog X.w X.K X.mg X.base CX k f fd ps sp) (hr : Room (k + 1) X.A) (hg : Gl X x) (hm : X.mg x = some (.ref C)) (hb : Binds X.K fd ps ds) (hd : Vals dvs ds) (hx : ∀ σ, PassesAt CX X σ (E σ))
    (ha : PA X (e :: es) t) (hdb : (x == ("__debug__" : Str)) = false := by decide) (he : starEach (e :: es) X.env = (false, eval e X.env) :: starEach es X.env := by rfl) (hpl : (backTo pos (starEach es X.env)).any (·.1) = false := by rfl) :
    PE X (.Call (.Name x p) (e :: es) [] pos) (tMakeSD C sp dvs E t) := by
  refine ⟨fun pins s σ H Q I h => ?_⟩
  refine wpAny_Call_Name_kw (ld_glob I hg hm ?_ hdb)
  refine PySem.W.callWith_K (h₀ := X.base) I.ok.mod.kin M.kp (thn (ha.run pos pins s σ H _ I h) fun us s1 ⟨vs, H1, I1, r, q⟩ => ⟨I1.kIn, ?_⟩) he hpl
  exact run_makeSD M F hr hb hd (hx σ) I1 r q
theorem mt_tree {o : Expr} {m : Str} {apos pos : Pos} {es : List Expr} {env : PySem.Env} (hb : attributeBase o m env (eval o env) = eval o env) (hf : methodCallForm es.length (backTo pos (starEach es env)) (backToKw pos (keywordEach [] env)) = true) (hl : (apos.endLine == pos.line) = true) :
    eval (.Call (.Attribute o m apos) es [] pos) env = (do
      let ov ← eval o env
      standAt apos.atName
      let (f, first) ← holding [ov] (getMethod ov m (do return (← importBound o env).getD true))
      callWith pos f first (backTo pos (starEach es env)) (backToKw pos (keywordEach [] env))) := by
  refine mcall_of hb fun ov => ?_
  unfold methodCall calleeOf methodCallPos
  have e0 : es.length + ([] : List Keyword).length = es.length := rfl
  rw [e0]
  simp only [hf, hl, if_true, Bool.not_true, Bool.false_or]
  rfl
end
section
variable {G : Gb} {c : Cc} {X : Cx} {W : WX} {S : Sta} {φ : Fr} {F H F' H' : Hp} {σ : L2.St} {env : En} {Td Ud : List D} {Tv Uv : List V} {d e x y : D} {v w va vb : V} {A : List Addr} {tg : Expr}
theorem back_all : ∀ {es : List Expr} {pos : Pos} {env : PySem.Env}, es.all (fun e => !isStar e) = true → (backTo pos (starEach es env)).all (fun x => !x.1) = true ∧ (starEach es env).length = es.length
  | [], _, _, _ => ⟨rfl, rfl⟩
  | e :: es, pos, env, h => by
    simp only [List.all_cons, Bool.and_eq_true, Bool.not_eq_true'] at h
    obtain ⟨i1, i2⟩ := back_all (pos := pos) (env := env) h.2
    rw [star_of h.1]
    refine ⟨?_, by simp [i2]⟩
    show (!false && (backTo pos (starEach es env)).all (fun x => !x.1)) = true
    rw [i1]; rfl
theorem form_ok {es : List Expr} {pos : Pos} {env : PySem.Env} (h : es.all (fun e => !isStar e) = true) (hl : es.length < 30) : methodCallForm es.length (backTo pos (starEach es env)) (backToKw pos (keywordEach [] env)) = true := by
  unfold methodCallForm
  rw [(back_all h).1]
  show (true && true && decide (es.length + 0 < 30)) = true
  simp [hl]
/-- a new instance, its dict beside it -/
theorem R.newI {C p dx : Addr} {cn : Str} (hc : S.mg cn = some (.ref C)) (hi : InsOk S.K C []) (r : R S φ F H σ env Td Tv) (hp : H p = none) (hd : H dx = none) (ne : dx ≠ p) :
    R S φ F (upd (upd H dx (.own p)) p (.ins C dx [])) σ env (.ins true cn [] [] :: Td) (.ref p :: Tv) := by
  obtain ⟨vs, A, q, l, nd, ok, lk⟩ := r.cl
  have fp : F p = none := r.fh.free hp
  have fd : F dx = none := r.fh.free hd
  have ad := Rps.adr _ q
  have nA : p ∉ A := fun h => by obtain ⟨⟨o, e⟩, _⟩ := ad p h; rw [hp] at e; cases e
  have nA2 : dx ∉ A := fun h => by obtain ⟨⟨o, e⟩, _⟩ := ad dx h; rw [hd] at e; cases e
  have up : ∀ b, b ≠ p → b ≠ dx → (upd (upd H dx (.own p)) p (.ins C dx [])) b = H b := fun b h1 h2 => by rw [upd_ne h1, upd_ne h2]
  refine R.turn (Ud := []) (Uv := []) (Ud' := [.ins true cn [] []]) (Uv' := [.ref p]) (B := [p]) r q l lk (Same.refl F) ?_ (fun a ha => ⟨(ad a ha).2, up a (fun z => nA (z ▸ ha)) fun z => nA2 (z ▸ ha)⟩) (fun a h1 h2 => absurd h2 h1) (fun a u e n => ?_) (fun a e => ?_) ?_ ?_ ?_
  · intro b u e
    rw [up b (fun z => by subst z; rw [fp] at e; cases e) (fun z => by subst z; rw [fd] at e; cases e)]
    exact r.fh _ _ e
  · have := r.h0 a u e n
    rw [up a (fun z => by subst z; rw [hp] at this; cases this) (fun z => by subst z; rw [hd] at this; cases this)]
    exact this
  · by_cases z : a = p
    · subst z; exact hp
    · by_cases z2 : a = dx
      · subst z2; exact hd
      · rw [up a z z2] at e; exact e
  · have h4 : Rp S F (upd (upd H dx (.own p)) p (.ins C dx [])) (.ins true cn [] []) (.ref p) [p] := by
      rw [Rp]
      exact ⟨p, C, dx, [], [], rfl, rfl, ⟨hc, hi⟩, rfl, upd_same, fp, Rps.nil⟩
    simpa using Rps.cons h4 Rps.nil
  · show (p :: A).Nodup
    exact List.nodup_cons.mpr ⟨nA, nd⟩
  · intro b hb
    rcases List.mem_cons.mp (show b ∈ p :: A from hb) with z | z
    · subst z; exact .inr (r.dm _ hp)
    · exact ok b z
theorem r_mk {fn : Fn} {es : As} {x : Str} {p1 : Pos} {y : Expr} {ys : List Expr} {pos : Pos} (is : PLo G c fn.io.tail es (y :: ys)) : PEo G c (.mk fn es) (.Call (.Name x p1) (y :: ys) [] pos) := fun h hf X W g => by
  simp only [chk, Bool.and_eq_true, beq_iff_eq, decide_eq_true_eq] at h
  obtain ⟨⟨⟨⟨⟨⟨hw, h1⟩, h2⟩, h3⟩, hio0⟩, h4⟩, h5⟩ := h
  obtain ⟨hfn, hes⟩ := hf
  obtain ⟨hg, hn⟩ := g.gl' h1
  have hs := chka_star h5
  have hst := hs.1
  simp only [List.all_cons, Bool.and_eq_true, Bool.not_eq_true'] at hst
  obtain ⟨io, hio⟩ : ∃ io, fn.io = true :: io := by
    cases hi : fn.io with
    | nil => rw [hi] at hio0; simp at hio0
    | cons b io => rw [hi] at hio0; simp at hio0; subst hio0; exact ⟨io, rfl⟩
  unfold FnSem at hfn
  cases hwh : fn.wh <;> rw [hwh] at hw hfn <;> (first | (simp at hw; done) | skip)
  rename_i kn
  have hx : x = kn := by simpa using hw
  subst hx
  obtain ⟨k0, C, f, fd, hk, m1, hI, M, ⟨d1, d2⟩, m3⟩ := hfn
  obtain ⟨ds, b1, b2⟩ := d2 (fn.df.length + (ys.length + 2) - fn.ps.length) (by omega)
  obtain ⟨rP, rw', rb, rK, rm⟩ := And.intro g.hP (And.intro g.hw (And.intro g.hb (And.intro g.hK g.hm)))
  rw [← rP, ← rw', ← rb, ← rK, ← rm] at m3
  refine PE.imp (pe_makeSD (E := WE W) (C := C) (by rw [rK]; exact M) m3 (by have := g.room; rw [hk] at this; exact this) hg (by rw [rm]; exact m1) (by rw [rK]; exact b1) b2 (L2N.passAt g.tk) (is h5 hes X W g) (okName_dbg hn) (star_of hst.1) (plain_of hst.2)) fun σ H Q ⟨φ, F, env, Td, Tv, r, q⟩ => ?_
  simp only [ev] at q
  refine ⟨φ, F, env, Td, Tv, r, q.bndL (ms := es.lends) (fun _ _ _ x => x) fun zs e1 F1 H1 vs l l2 lk r1 q1 => ?_⟩
  intro pa dx hp hd ne
  have hl : zs.length = ys.length + 1 := by rw [l, ← l2, hs.2]; rfl
  have r2 := R.newI m1 hI r1 hp hd ne
  have r2' : R G.S φ F1 (upd (upd H1 dx (.own pa)) pa (.ins C dx [])) σ e1 ((.ins true x [] [] :: zs) ++ Td) ((.ref pa :: vs) ++ Tv) := r2
  have hl1 : (D.ins true x [] [] :: zs).length = ys.length + 2 := by simp [hl]
  have hlv : ioOf fn.io ((.ref pa :: vs) ++ (fn.df.drop (fn.df.length + (ys.length + 2) - fn.ps.length)).map scV) = .ref pa :: lv es.lends vs := by
    rw [hio]
    show V.ref pa :: ioOf io (vs ++ _) = _
    rw [hio] at h5 h4
    have h5' : chka c io es (y :: ys) = true := h5
    rw [chka_lv h5' l2 (by simpa using h4)]
  refine sp_core (ds := .ins true x [] [] :: zs) (vs := .ref pa :: vs) (by simp [l]) r2' ?_ d1 (by rw [hl1]) ?_
  · rw [hl1, List.length_append, List.length_drop, hl1]; omega
  · rw [hl1, hlv]
    unfold mkFn at q1
    rw [hwh] at q1
    simp only [hl] at q1
    have e2 : ys.length + 1 + 1 = ys.length + 2 := rfl
    rw [e2] at q1
    cases hsm : fn.sem (.ins true x [] [] :: zs ++ fn.df.drop (fn.df.length + (ys.length + 2) - fn.ps.length)) with
    | bad => rw [hsm] at q1; exact q1.elim
    | ok d outs =>
      rw [hsm] at q1
      intro F' H' v r3
      cases outs with
      | nil => cases d <;> exact q1.elim
      | cons o outs =>
        cases d with
        | non =>
          simp only at q1
          cases hpb : putBack es.lends outs e1 with
          | none => simp only [hpb] at q1; exact q1.elim
          | some e =>
            simp only [hpb] at q1
            -- the value None goes, the instance stays
            have hlo : outs.length = (lv es.lends vs).length := by
              have := r3.tlen
              have := r1.popN l |>.tlen
              simp only [List.length_append, List.length_cons] at *
              omega
            have r4 : R G.S φ F' H' σ e1 ((o :: outs) ++ D.non :: Td) ((.ref pa :: lv es.lends vs) ++ v :: Tv) := r3
            have r5 : R G.S φ F' H' σ e1 (D.non :: ((o :: outs) ++ Td)) (v :: ((.ref pa :: lv es.lends vs) ++ Tv)) := R.rot (ds := o :: outs) (vs := .ref pa :: lv es.lends vs) (by simp [hlo]) r4
            have hv := r5.non
            have r6 : R G.S φ F' H' σ e1 (o :: (outs ++ Td)) (.ref pa :: (lv es.lends vs ++ Tv)) := r5.pop
            have r7 := R.tor (Ud := outs) (Uv := lv es.lends vs) hlo r6
            exact ⟨hv, q1 F' H' _ (putBack_ok lk l2 hpb r7)⟩
        | _ => exact q1.elim
    | exc xx outs =>
      rw [hsm] at q1
      intro F' H' cls dd r3 hx
      cases outs with
      | nil => exact q1.elim
      | cons o outs =>
        simp only at q1
        cases hpb : putBack es.lends outs e1 with
        | none => simp only [hpb] at q1; exact q1.elim
        | some e =>
          simp only [hpb] at q1
          have r4 : R G.S φ F' H' σ e1 (o :: (outs ++ Td)) (.ref pa :: (lv es.lends vs ++ Tv)) := r3
          exact q1 F' H' cls dd (putBack_ok lk l2 hpb r4.pop) hx
theorem met_none {ns : List Str} {vs : List V} {m : Str} (h : ns.contains m = false) : (ns.zip vs).lookup m = none := by
  induction ns generalizing vs with
  | nil => rfl
  | cons n ns ih =>
    cases vs with
    | nil => rfl
    | cons v vs =>
      simp only [List.contains_cons, Bool.or_eq_false_iff] at h
      simp only [List.zip_cons_cons, List.lookup_cons, h.1]
      exact ih h.2
theorem r_met {fn : Fn} {a : E} {es : As} {x : Expr} {m : Str} {ap : Pos} {ys : List Expr} {cp : Pos} (ia : PEo G c a x) (is : PLo G c fn.io.tail es ys) : PEo G c (.met fn a es) (.Call (.Attribute x m ap) ys [] cp) := fun h hf X W g => by
  simp only [chk, Bool.and_eq_true, beq_iff_eq, decide_eq_true_eq, Bool.not_eq_true'] at h
  obtain ⟨⟨⟨⟨⟨⟨⟨⟨⟨⟨hwh0, rfl⟩, hln⟩, hcl⟩, h30⟩, h2⟩, h3⟩, hio0⟩, h4⟩, h1⟩, h5⟩ := h
  obtain ⟨hfn, hfa, hes⟩ := hf
  have hs := chka_star h5
  -- what the reading asks
  have key : ∀ {C : Addr} {t : TE} {ds : List Value} (C' : Str) (hwh : fn.wh = .meth C') (m1 : G.S.mg C' = some (.ref C)) (d1 : fn.df.all isScal = true),
      (∀ σ H Q, tMethSD C fn.name (spOf G.S fn) ((fn.df.drop (fn.df.length + (ys.length + 1) - fn.ps.length)).map scV) (WE W) (tE G.S W (ev a)) (tL G.S W es) σ H Q → t σ H Q) → ∀ σ H Q, tE G.S W (ev (.met fn a es)) σ H Q → t σ H Q := fun {C t ds} C' hwh m1 d1 ht σ H Q ⟨φ, F, env, Td, Tv, r, q⟩ => by
    refine ht σ H Q ?_
    simp only [ev] at q
    refine ⟨φ, F, env, Td, Tv, r, q.bnd (fun _ _ _ x => x) fun xd e1 F1 H1 v1 r1 q1 => ?_⟩
    split at q1
    · rename_i hok
      unfold metOk at hok
      rw [hwh] at hok
      obtain ⟨F2, r2⟩ := r1.freeze
      have hx : ∃ ns xs, xd.frz = .ins false C' ns xs ∧ ns.contains fn.name = false := by
        simp only at hok
        split at hok
        · rename_i c' ns xs e2
          simp only [Bool.and_eq_true, beq_iff_eq, Bool.not_eq_true'] at hok
          obtain ⟨rfl, hn⟩ := hok
          exact ⟨ns, xs, e2, hn⟩
        · cases hok
      obtain ⟨ns, xs, ex, hn⟩ := hx
      have p2 := r2.fz (D.frz_own xd)
      rw [ex, Rp] at p2
      obtain ⟨_, pa, C2, dx, vs0, rfl, ⟨mc, _⟩, _, hF, _⟩ := p2
      rw [m1] at mc
      obtain rfl : C = C2 := by injection mc with z; injection z
      refine ⟨pa, dx, _, rfl, r2.fh _ _ hF, met_none hn, φ, F2, e1, _, _, r2, ?_⟩
      -- the arguments
      cases hev : eva es e1 with
      | bad => rw [hev] at q1; exact q1.elim
      | exc xx e2 => rw [hev] at q1; exact fun F H cls dd r a => q1 F H cls dd r.pop a
      | ok zs e2 =>
        rw [hev] at q1
        simp only [Rs.bind] at q1
        intro F3 H3 vs l l2 lk r3
        have hl : zs.length = ys.length := by rw [l, ← l2, hs.2]
        have r4 : R G.S φ F3 H3 σ e2 ((xd.frz :: zs) ++ Td) ((.ref pa :: vs) ++ Tv) := R.rot l r3
        have hl1 : (xd.frz :: zs).length = ys.length + 1 := by simp [hl]
        refine sp_call (ds := xd.frz :: zs) (ls := none :: es.lends) (vs := .ref pa :: vs) (by simp [l]) (by simp [l2]) lk r4 ?_ d1 (by rw [hl1]) ?_ q1
        · rw [hl1, List.length_append, List.length_drop, hl1]; omega
        · cases hi : fn.io with
          | nil =>
            rw [hi] at h5
            have := chka_lv (ws := (fn.df.drop (fn.df.length + (ys.length + 1) - fn.ps.length)).map scV) h5 l2 (by simp)
            rw [ioOf_false (by simp)] at this
            rw [ioOf_false (by simp)]
            exact this
          | cons b io =>
            rw [hi] at hio0 h5 h4
            have hb : b = false := by simpa using hio0
            subst hb
            exact chka_lv h5 l2 (by simpa using h4)
    · exact q1.elim
  unfold FnSem at hfn
  cases hwh : fn.wh with
  | meth C' =>
    rw [hwh] at hfn
    obtain ⟨C, f, fd, m1, hC, M, ⟨d1, d2⟩, m3⟩ := hfn
    obtain ⟨ds, b1, b2⟩ := d2 (fn.df.length + (ys.length + 1) - fn.ps.length) (by omega)
    obtain ⟨rP, rw', rb, rK, rm⟩ := And.intro g.hP (And.intro g.hw (And.intro g.hb (And.intro g.hK g.hm)))
    rw [← rP, ← rw', ← rb, ← rK, ← rm] at m3
    cases ys with
    | nil =>
      have hes0 : es = .nil := by cases es <;> first | rfl | (simp [chka] at h5; done) | (cases hi : fn.io.tail <;> rw [hi] at h5 <;> simp [chka] at h5; done) | skip
      subst hes0
      exact PE.imp (pe_methSD0 (E := WE W) (C := C) (ia h1 hfa X W g) (by rw [rK]; exact hC) (by rw [rK]; exact M) m3 g.room (by rw [rK]; exact b1) b2 (L2N.passAt g.tk) (mt_tree (base_of hcl) (form_ok rfl (by simp)) (by rw [beq_iff_eq]; exact hln))) (key (ds := ds) C' hwh m1 d1 fun σ H Q ⟨φ, F, env, Td, Tv, r, q⟩ => ⟨φ, F, env, Td, Tv, r, q.imp fun v H ⟨a, dx, fs, e1, e2, e3, ⟨φ', F', env', Td', Tv', r', q'⟩⟩ => ⟨a, dx, fs, e1, e2, e3, by
        simp only [eva, As.lends] at q'
        exact q' F' _ [] rfl rfl True.intro r'⟩⟩)
    | cons y ys =>
      have hst := hs.1
      simp only [List.all_cons, Bool.and_eq_true, Bool.not_eq_true'] at hst
      exact PE.imp (pe_methSD (E := WE W) (C := C) (ia h1 hfa X W g) (by rw [rK]; exact hC) (by rw [rK]; exact M) m3 g.room (by rw [rK]; exact b1) b2 (L2N.passAt g.tk) (is h5 hes X W g) (star_of hst.1) (plain_of hst.2) (mt_tree (base_of hcl) (form_ok hs.1 h30) (by rw [beq_iff_eq]; exact hln))) (key (ds := ds) C' hwh m1 d1 fun σ H Q ht => ht)
  | _ => rw [hwh] at hwh0; simp at hwh0

/-! ### isinstance, gcd, bit_length -/
theorem ctx_of (hK : X.K = S.K) (r : R S φ F H σ env (d :: Td) (v :: Tv)) {t : Ct} (e : ctD d = some t) : ∃ u, TyX X.K H v u ∧ (match t with | .ty t => u = .type t.nm | .non => u = .type "NoneType" | .own c => ∃ C, S.mg c = some (.ref C) ∧ u = .ref C) := by
  cases d with
  | non => cases e; have := r.non; subst this; exact ⟨_, .base .non, rfl⟩
  | bl b => cases e; have := r.bl; subst this; exact ⟨_, .base (.bl b), rfl⟩
  | int b => cases e; have := r.int; subst this; exact ⟨_, .base (.int b), rfl⟩
  | str b => cases e; have := r.str; subst this; exact ⟨_, .base (.str b), rfl⟩
  | lst m xs => cases e; obtain ⟨a, vs, B, rfl, ha, _⟩ := r.la; exact ⟨_, .base (.lst ha), rfl⟩
  | tup m xs => cases e; obtain ⟨a, vs, B, rfl, ha, _⟩ := r.ta; exact ⟨_, .base (.tup ha), rfl⟩
  | ins m c ns xs =>
    cases e
    obtain ⟨A, p⟩ := r.top
    have key : ∀ {a C dx : Addr} {fs : List (Str × V)}, S.mg c = some (.ref C) → InsOk S.K C ns → H a = some (.ins C dx fs) → ∃ u, TyX X.K H (.ref a) u ∧ ∃ C, S.mg c = some (.ref C) ∧ u = .ref C := fun {a C dx fs} h1 h2 h3 => by
      rw [hK]
      exact ⟨_, .base (.ins h3 h2.cls h2.ha h2.hn h2.tk h2.ob), C, h1, rfl⟩
    cases m with
    | false =>
      rw [Rp] at p
      obtain ⟨_, a, C, dx, vs, rfl, ⟨e1, e2⟩, e3, e4, qs⟩ := p
      exact key e1 e2 (r.fh _ _ e4)
    | true =>
      rw [Rp] at p
      obtain ⟨a, C, dx, vs, B, rfl, _, ⟨e1, e2⟩, e3, e4, _, qs⟩ := p
      exact key e1 e2 e4
  | _ => simp [ctD] at e
theorem isC_ok {tab : KT} (ht : ∀ p ∈ tab, KtOk G p) {t k : Ct} {b : Bool} (e : isC tab t k = some b) {u w : Value} (h1 : CtV G t u) (h2 : CtV G k w) : PySem.W.kitOne G.S.K u w = some b := by
  have tabs : (tab.find? fun p => p.1 == t && p.2.1 == k).map (·.2.2) = some b → PySem.W.kitOne G.S.K u w = some b := fun e => by
    simp only [Option.map_eq_some_iff] at e
    obtain ⟨p, hp, rfl⟩ := e
    have hm := List.mem_of_find?_eq_some hp
    have hq := List.find?_some hp
    simp only [Bool.and_eq_true, beq_iff_eq] at hq
    obtain ⟨rfl, rfl⟩ := hq
    obtain ⟨u', w', k1, k2, k3⟩ := ht p hm
    have inj : ∀ {t : Ct} {u u' : Value}, CtV G t u → CtV G t u' → u = u' := fun {t u u'} a b => by
      cases t with
      | ty t => exact (show u = _ from a).trans (show u' = _ from b).symm
      | non => exact (show u = _ from a).trans (show u' = _ from b).symm
      | own c =>
        obtain ⟨C, a1, a2⟩ := a
        obtain ⟨C', b1, b2⟩ := b
        rw [a1] at b1
        cases b1
        rw [a2, b2]
    rw [inj h1 k1, inj h2 k2]; exact k3
  cases t with
  | ty a =>
    cases k with
    | ty b' =>
      have e1 : u = .type a.nm := h1
      have e2 : w = .type b'.nm := h2
      subst e1 e2
      simp only [isC, Option.some.injEq] at e
      subst e
      refine kit_ty ?_
      cases a <;> cases b' <;> decide +kernel
    | _ => exact tabs e
  | _ => exact tabs e
theorem boot_ty (t : Ty) : bootBuiltins (t.nm : Str) = some (.type t.nm) := by cases t <;> decide +kernel
theorem ct_eval (g : GX G c X W) {k : Ct} {z : Expr} (h : ctOk c k z = true) : ∃ kv u, PE X z (tC kv) ∧ ClsV kv u ∧ CtV G k u := by
  cases k with
  | ty t =>
    cases z <;> simp only [ctOk, Bool.false_eq_true] at h
    simp only [Bool.and_eq_true, beq_iff_eq] at h
    obtain ⟨rfl, h1⟩ := h
    obtain ⟨hg, hm, hn⟩ := g.blt h1
    exact ⟨.ty t.nm, .type t.nm, pe_bltn hg hm (boot_ty t) rfl (okName_nm hn) (okName_dbg hn), .ty _, rfl⟩
  | non => cases z <;> simp [ctOk] at h
  | own C =>
    cases z with
    | Name x p =>
      simp only [ctOk, Bool.and_eq_true, beq_iff_eq] at h
      obtain ⟨⟨rfl, h1⟩, h2⟩ := h
      obtain ⟨hg, hn⟩ := g.gl' h1
      obtain ⟨a, ha⟩ : ∃ a, G.S.mg x = some (.ref a) := by
        simp only [List.any_eq_true, beq_iff_eq] at h2
        obtain ⟨p, hp, e⟩ := h2
        obtain ⟨_, w, _, k2, _⟩ := g.kt p hp
        rw [e] at k2
        obtain ⟨a, h, _⟩ := k2
        exact ⟨a, h⟩
      exact ⟨.ref a, .ref a, pe_glob hg (by rw [g.hm]; exact ha) rfl (okName_dbg hn), .own a, a, ha, rfl⟩
    | _ => simp [ctOk] at h
theorem r_isi1 {tab : KT} {a : E} {cs : List Ct} {x : Str} {p1 : Pos} {y z : Expr} {pos : Pos} (ia : PEo G c a y) : PEo G c (.isi tab a cs true) (.Call (.Name x p1) [y, z] [] pos) := fun h hf X W g => by
  simp only [chk, Bool.and_eq_true, beq_iff_eq, Bool.not_eq_true'] at h
  obtain ⟨⟨⟨⟨⟨⟨rfl, h1⟩, h2⟩, h3⟩, h4⟩, h5⟩, h6⟩ := h
  obtain ⟨hg, hm, hn⟩ := g.blt h1
  obtain ⟨k, rfl⟩ : ∃ k, cs = [k] := by
    cases cs with
    | nil => simp at h5
    | cons k r => cases r with
      | nil => exact ⟨k, rfl⟩
      | cons _ _ => simp at h5
  have ht : ∀ p ∈ tab, KtOk G p := fun p hp => g.kt p (by rw [List.all_eq_true] at h4; simpa using h4 p hp)
  obtain ⟨kv, u, pk, hcl, hcv⟩ := ct_eval g h5
  refine PE.imp (pe_callB call_isi hg hm PyProof.Rows.boot_isinstance (pa_cons (ia h6 hf X W g) (pa_cons pk pa_nil (star_of h3)) (star_of h2)) (by decide) (by decide) (star_of h2) (by rw [star_of h3]; rfl)) fun σ H Q ⟨φ, F, env, Td, Tv, r, q⟩ => ?_
  simp only [ev] at q
  refine ⟨φ, F, env, Td, Tv, r, q.bnd (fun _ _ _ x => x) fun x e1 F1 H1 v1 r1 q1 => ?_⟩
  obtain ⟨dd, ed, q2⟩ := q1.opt
  unfold isD at ed
  simp only [Option.bind_eq_some_iff, Option.map_eq_some_iff] at ed
  obtain ⟨t, e3, b, e4, rfl⟩ := ed
  obtain ⟨u2, ty, htu⟩ := ctx_of g.hK r1 e3
  refine ⟨_, _, u2, u, b, rfl, hcl, ty, ?_, q2 _ _ _ (r1.pop.pBl b)⟩
  rw [g.hK]
  simp only [isCs, Option.bind_eq_some_iff] at e4
  obtain ⟨b0, e5, e6⟩ := e4
  have : b0 = b := by cases b0 <;> simp_all
  subst this
  exact isC_ok ht e5 (by cases t <;> exact htu) hcv
theorem cts_eval (g : GX G c X W) : ∀ {ks : List Ct} {zs : List Expr}, ctsOk c ks zs = true → ∃ kvs us, PA X zs (fun _ H Q => Q kvs H) ∧ Paired ClsV kvs us ∧ Paired (CtV G) ks us
  | [], [], _ => ⟨[], [], pa_nil, .nil, .nil⟩
  | k :: ks, z :: zs, h => by
    simp only [ctsOk, Bool.and_eq_true] at h
    obtain ⟨kv, u, p, q1, q2⟩ := ct_eval g h.1
    obtain ⟨kvs, us, ps, r1, r2⟩ := cts_eval g h.2
    have hst : isStar z = false := by
      have := h.1
      cases k <;> cases z <;> first | rfl | (simp [ctOk] at this)
    exact ⟨kv :: kvs, u :: us, pa_cons p ps (star_of hst), .cons q1 r1, .cons q2 r2⟩
  | [], _ :: _, h => by simp [ctsOk] at h
  | _ :: _, [], h => by simp [ctsOk] at h
theorem isCs_ok {tab : KT} (ht : ∀ p ∈ tab, KtOk G p) {t : Ct} {u : Value} (h1 : CtV G t u) : ∀ {ks : List Ct} {ws : List Value} {b : Bool}, isCs tab t ks = some b → Paired (CtV G) ks ws → PySem.W.kitAny G.S.K u ws = some b
  | [], _, b, e, .nil => by
    simp only [isCs, Option.some.injEq] at e
    subst e
    rfl
  | k :: ks, _, b, e, .cons q r => by
    simp only [isCs, Option.bind_eq_some_iff] at e
    obtain ⟨b0, e1, e2⟩ := e
    refine kitAny_cons (isC_ok ht e1 h1 q) (fun hb => ?_) (fun hb => ?_)
    · subst hb; exact isCs_ok ht h1 (by simpa using e2) r
    · subst hb; simpa using e2.symm
theorem r_isi2 {tab : KT} {a : E} {cs : List Ct} {x : Str} {p1 : Pos} {y : Expr} {zs : List Expr} {k0 : Nat} {p2 pos : Pos} (ia : PEo G c a y) : PEo G c (.isi tab a cs false) (.Call (.Name x p1) [y, .Tuple zs k0 p2] [] pos) := fun h hf X W g => by
  simp only [chk, Bool.and_eq_true, beq_iff_eq, Bool.not_eq_true'] at h
  obtain ⟨⟨⟨⟨⟨⟨rfl, h1⟩, h2⟩, h4⟩, hcl0⟩, h5⟩, h6⟩ := h
  obtain ⟨hg, hm, hn⟩ := g.blt h1
  have ht : ∀ p ∈ tab, KtOk G p := fun p hp => g.kt p (by rw [List.all_eq_true] at h4; simpa using h4 p hp)
  obtain ⟨kvs, us, pk, hcl, hcv⟩ := cts_eval g h5
  refine PE.imp (pe_callB call_isiT hg hm PyProof.Rows.boot_isinstance (pa_cons (ia h6 hf X W g) (pa_cons (pe_tup pk) pa_nil (star_of rfl)) (star_of h2)) (by decide) (by decide) (star_of h2) (by rw [star_of rfl]; rfl)) fun σ H Q ⟨φ, F, env, Td, Tv, r, q⟩ => ?_
  simp only [ev] at q
  refine ⟨φ, F, env, Td, Tv, r, q.bnd (fun _ _ _ x => x) fun x e1 F1 H1 v1 r1 q1 => ?_⟩
  obtain ⟨dd, ed, q2⟩ := q1.opt
  unfold isD at ed
  simp only [Option.bind_eq_some_iff, Option.map_eq_some_iff] at ed
  obtain ⟨t, e3, b, e4, rfl⟩ := ed
  refine ⟨by rw [hcl.length, ← hcv.length, ← lim_eq]; exact Nat.le_of_lt (Nat.lt_of_lt_of_le (by simpa using hcl0) (by decide)), fun p hp => ?_⟩
  have r2 := r1.newF (o := .tup kvs) hp
  obtain ⟨u2, ty, htu⟩ := ctx_of g.hK r2 e3
  refine ⟨_, p, kvs, u2, us, b, rfl, upd_same, hcl, ty, ?_, q2 _ _ _ (r2.pop.pBl b)⟩
  rw [g.hK]
  exact isCs_ok ht (by cases t <;> exact htu) e4 hcv
theorem r_gcd {a b : E} {x : Str} {p1 : Pos} {y z : Expr} {pos : Pos} (ia : PEo G c a y) (ib : PEo G c b z) : PEo G c (.gcd a b) (.Call (.Name x p1) [y, z] [] pos) := fun h hf X W g => by
  simp only [chk, Bool.and_eq_true, beq_iff_eq, Bool.not_eq_true'] at h
  obtain ⟨⟨⟨⟨⟨⟨rfl, h0⟩, h1⟩, h2⟩, h3⟩, h4⟩, h5⟩ := h
  obtain ⟨hg, hn⟩ := g.gl' h1
  refine PE.imp (pe_callBfun cr_gcd hg (by rw [g.hm]; exact g.gcd h0) (pa_cons (ia h4 hf.1 X W g) (pa_cons (ib h5 hf.2 X W g) pa_nil (star_of h3)) (star_of h2)) (by decide) (star_of h2) (by rw [star_of h3]; rfl)) fun σ H Q ⟨φ, F, env, Td, Tv, r, q⟩ => ?_
  simp only [ev] at q
  refine ⟨φ, F, env, Td, Tv, r, q.bnd (fun _ _ _ x => x) fun x e1 F1 H1 v1 r1 q1 => ⟨φ, F1, e1, _, _, r1, q1.bnd (fun _ _ _ x => x.pop) fun y e2 F2 H2 v2 r2 q2 => ?_⟩⟩
  obtain ⟨dd, ed, q3⟩ := q2.opt
  unfold gcdD at ed
  split at ed
  · cases ed
    have := r2.int; subst this
    have := r2.pop.int; subst this
    exact ⟨_, _, rfl, q3 _ _ _ (r2.pop.pop.pInt _)⟩
  · cases ed
theorem r_bln {a : E} {x : Expr} {m : Str} {ap cp : Pos} (ia : PEo G c a x) : PEo G c (.bln a) (.Call (.Attribute x m ap) [] [] cp) := fun h hf X W g => by
  simp only [chk, Bool.and_eq_true, beq_iff_eq, Bool.not_eq_true'] at h
  obtain ⟨⟨⟨rfl, h1⟩, h2⟩, h3⟩ := h
  refine PE.imp (pe_bits (ia h3 hf X W g) (base_of h2) (by rw [beq_iff_eq]; exact h1)) fun σ H Q ⟨φ, F, env, Td, Tv, r, q⟩ => ?_
  simp only [ev] at q
  refine ⟨φ, F, env, Td, Tv, r, q.bnd (fun _ _ _ x => x) fun x e1 F1 H1 v1 r1 q1 => ?_⟩
  obtain ⟨dd, ed, q2⟩ := q1.opt
  unfold blnD at ed
  split at ed
  · cases ed
    have := r1.int; subst this
    exact ⟨_, rfl, q2 _ _ _ (r1.pop.pInt _)⟩
  · cases ed
/-! ### keywords -/
abbrev PKo (G : Gb) (c : Cc) (es : Es) (xs : List Keyword) : Prop := chkK c es xs = true → es.ok (FnSem G) → ∀ (X : Cx) (W : WX), GX G c X W → PK X xs (tA G.S W (evs es))
theorem PK.imp {X : Cx} {e : List Keyword} {t t' : TA} (h : PK X e t) (k : ∀ σ H Q, t' σ H Q → t σ H Q) : PK X e t' := ⟨fun ps pins s σ H Q I q => h.run ps pins s σ H Q I (k σ H Q q)⟩
theorem kw_nil : PKo G c .nil [] := fun h _ X W g => PK.imp pk_nil fun σ H Q ⟨φ, F, env, Td, Tv, r, q⟩ => by
  simp only [evs] at q
  exact q F H [] rfl r
theorem kw_cons {nm : Option Str} {p : Pos} {e : E} {es : Es} {x : Expr} {xs : List Keyword} (ie : PEo G c e x) (is : PKo G c es xs) : PKo G c (.cons e es) (⟨nm, x, p⟩ :: xs) := fun h hf X W g => by
  simp only [chkK, Bool.and_eq_true] at h
  refine PK.imp (pk_cons (ie h.1 hf.1 X W g) (is h.2 hf.2 X W g)) fun σ H Q ⟨φ, F, env, Td, Tv, r, q⟩ => ?_
  simp only [evs] at q
  refine ⟨φ, F, env, Td, Tv, r, q.bnd (fun _ _ _ x => x) fun d e1 F1 H1 v1 r1 q1 => ?_⟩
  refine ⟨φ, F1, e1, _, _, r1, q1.bndA (fun _ _ _ x => x.pop) fun ds e2 F3 H3 vs l r3 q3 => ?_⟩
  exact q3 F3 H3 (v1 :: vs) (by simp [l]) (r3.rot l)
theorem perm_vals {ks : List Str} {zs : List V} {ws : List Value} (r : Vals zs ws) : ∀ ps : List Str, Vals (permK ps ks zs) (permK ps ks ws)
  | [] => .nil
  | p :: ps => by
    have key : ∀ {ks : List Str} {zs : List V} {ws : List Value}, Vals zs ws → ((ks.zip zs).lookup p = none ∧ (ks.zip ws).lookup p = none) ∨ ∃ v u, (ks.zip zs).lookup p = some v ∧ (ks.zip ws).lookup p = some u ∧ RelV v u := fun {ks zs ws} r => by
      induction ks generalizing zs ws with
      | nil => exact .inl ⟨rfl, rfl⟩
      | cons k ks ih =>
        cases r with
        | nil => exact .inl ⟨rfl, rfl⟩
        | cons r rr =>
          simp only [List.zip_cons_cons, List.lookup_cons]
          cases e : p == k with
          | true => exact .inr ⟨_, _, rfl, rfl, r⟩
          | false => exact ih rr
    have ih := perm_vals (ks := ks) r ps
    unfold permK at ih ⊢
    rcases key (ks := ks) r with ⟨h1, h2⟩ | ⟨v, u, h1, h2, h3⟩
    · simp only [List.filterMap_cons, h1, h2]; exact ih
    · simp only [List.filterMap_cons, h1, h2]; exact .cons h3 ih
theorem perm_rps {ks : List Str} {ds : List D} {vs : List V} (r : Rps S F H ds vs []) : ∀ ps : List Str, Rps S F H (permK ps ks ds) (permK ps ks vs) []
  | [] => Rps.nil
  | p :: ps => by
    have key : ∀ {ks : List Str} {ds : List D} {vs : List V}, Rps S F H ds vs [] → ((ks.zip ds).lookup p = none ∧ (ks.zip vs).lookup p = none) ∨ ∃ v u, (ks.zip ds).lookup p = some v ∧ (ks.zip vs).lookup p = some u ∧ Rp S F H v u [] := fun {ks ds vs} r => by
      induction ks generalizing ds vs with
      | nil => exact .inl ⟨rfl, rfl⟩
      | cons k ks ih =>
        cases ds with
        | nil => rw [Rps] at r; obtain ⟨rfl, _⟩ := r; exact .inl ⟨rfl, rfl⟩
        | cons d ds =>
          rw [Rps] at r
          obtain ⟨v, ws, A1, A2, rfl, hA, p1, p2⟩ := r
          obtain ⟨rfl, rfl⟩ := List.append_eq_nil_iff.mp hA.symm
          simp only [List.zip_cons_cons, List.lookup_cons]
          cases e : p == k with
          | true => exact .inr ⟨_, _, rfl, rfl, p1⟩
          | false => exact ih p2
    have ih := perm_rps (ks := ks) r ps
    unfold permK at ih ⊢
    rcases key (ks := ks) r with ⟨h1, h2⟩ | ⟨v, u, h1, h2, h3⟩
    · simp only [List.filterMap_cons, h1, h2]; exact ih
    · simp only [List.filterMap_cons, h1, h2]
      have := Rps.cons h3 ih
      simpa using this
theorem perm_len {α : Type} {ks : List Str} {ds : List α} (hl : ds.length = ks.length) : ∀ ps : List Str, (∀ p ∈ ps, p ∈ ks) → (permK ps ks ds).length = ps.length
  | [], _ => rfl
  | p :: ps, h => by
    have key : ∀ {ks : List Str} {ds : List α}, ds.length = ks.length → p ∈ ks → ∃ v, (ks.zip ds).lookup p = some v := fun {ks ds} hl hm => by
      induction ks generalizing ds with
      | nil => simp at hm
      | cons k ks ih =>
        cases ds with
        | nil => simp at hl
        | cons d ds =>
          simp only [List.zip_cons_cons, List.lookup_cons]
          cases e : p == k with
          | true => exact ⟨_, rfl⟩
          | false =>
            refine ih (by simpa using hl) ?_
            rcases List.mem_cons.mp hm with z | z
            · subst z; simp at e
            · exact z
    obtain ⟨v, hv⟩ := key hl (h p (by simp))
    have ih := perm_len (ks := ks) hl ps fun q hq => h q (by simp [hq])
    unfold permK at ih ⊢
    simp only [List.filterMap_cons, hv, List.length_cons, ih]
theorem pe_callKSD {X : Cx} {CX : CXT} {k : Nat} {f : Addr} {fd : FuncData} {ps ks : List Str} {sp : Sp} {E : L2.St → XK} {x : Str} {p pos : Pos} {kws : List Keyword} {tk : TA}
    (F : FnOk X.prog X.w X.K X.mg X.base CX k f fd ps sp) (hr : Room k X.A) (hg : Gl X x) (hm : X.mg x = some (.ref f)) (hk : PySem.W.keepIn X.K (.ref f) = true) (hb : ∀ (s : Shared) (ws : List Value), ws.length = ks.length → BindsTo s fd ⟨[], ks.zip ws⟩ (ps.zip (permK ps ks ws))) (hx : ∀ σ, PassesAt CX X σ (E σ))
    (hkw : PK X kws tk) (hall : (backToKw pos (keywordEach kws X.env)).all (·.1.isSome) = true) (hks : (backToKw pos (keywordEach kws X.env)).filterMap (·.1) = ks) (hdb : (x == ("__debug__" : Str)) = false)
    (hpl : ((backTo pos (starEach [] X.env)).any (·.1) || (backToKw pos (keywordEach kws X.env)).any (·.1.isNone)) = false) :
    PE X (.Call (.Name x p) [] kws pos) (fun σ H Q => tk σ H fun zs H1 => zs.length = ks.length ∧ sp (permK ps ks zs) H1 Q (E σ)) := by
  refine ⟨fun pins s σ H Q I h => ?_⟩
  refine wpAny_Call_Name_kw (ld_glob I hg hm ?_ hdb)
  refine PySem.W.callWith_KW0 (h₀ := X.base) I.ok.mod.kin hk hall (thn (hkw.run pos pins s σ H _ I h) fun ws s2 ⟨zs, H2, I2, rz, lz, q2⟩ => ⟨I2.kIn, ?_⟩) hpl
  rw [hks]
  have r2 := perm_vals (ks := ks) rz ps
  refine wpAny_call (codeAny_mono (F.run X.A X.stack s2 H2 ⟨[], ks.zip ws⟩ (permK ps ks ws) (permK ps ks zs) Q (E σ) hr I2.env0 (hb s2 ws (by rw [← rz.length]; exact lz)) r2 q2) fun r s' hq => ?_)
  cases r with
  | error e => exact hx σ pins H2 s2 e s' I2 hq
  | ok fl =>
    cases fl with
    | ret u => exact I2.after hq
    | next => exact False.elim hq
    | brk => exact False.elim hq
    | cont => exact False.elim hq
theorem kwN_of {pos : Pos} {env : PySem.Env} : ∀ {kws : List Keyword} {ks : List Str}, kwN kws = ks.map some → (backToKw pos (keywordEach kws env)).all (·.1.isSome) = true ∧ (backToKw pos (keywordEach kws env)).filterMap (·.1) = ks ∧ (backToKw pos (keywordEach kws env)).any (·.1.isNone) = false
  | [], [], _ => ⟨rfl, rfl, rfl⟩
  | ⟨a, v, p⟩ :: kws, k :: ks, h => by
    simp only [kwN, List.map_cons, List.cons.injEq] at h
    obtain ⟨rfl, h2⟩ := h
    obtain ⟨i1, i2, i3⟩ := kwN_of (pos := pos) (env := env) h2
    refine ⟨?_, ?_, ?_⟩
    · show (true && (backToKw pos (keywordEach kws env)).all (·.1.isSome)) = true
      rw [i1]; rfl
    · show k :: (backToKw pos (keywordEach kws env)).filterMap (·.1) = k :: ks
      rw [i2]
    · show (false || (backToKw pos (keywordEach kws env)).any (·.1.isNone)) = false
      rw [i3]; rfl
  | [], _ :: _, h => by simp [kwN] at h
  | _ :: _, [], h => by simp [kwN] at h
theorem r_callk {fn : Fn} {ks : List Str} {es : Es} {x : Str} {p1 : Pos} {kws : List Keyword} {pos : Pos} (is : PKo G c es kws) : PEo G c (.callk fn ks es) (.Call (.Name x p1) [] kws pos) := fun h hf X W g => by
  simp only [chk, Bool.and_eq_true, beq_iff_eq, decide_eq_true_eq] at h
  obtain ⟨⟨⟨⟨⟨⟨⟨⟨hw, rfl⟩, h1⟩, h2⟩, h3⟩, h4⟩, h5⟩, h6⟩, h7⟩ := h
  obtain ⟨hfn, hes⟩ := hf
  obtain ⟨hg, hn⟩ := g.gl' h1
  obtain ⟨k1, k2, k3⟩ := kwN_of (pos := pos) (env := X.env) h2
  unfold FnSem at hfn
  cases hwh : fn.wh <;> rw [hwh] at hw hfn <;> (first | (simp at hw; done) | skip)
  obtain ⟨f, fd, m1, m2, ⟨_, hkw⟩, m3⟩ := hfn
  obtain ⟨rP, rw', rb, rK, rm⟩ := And.intro g.hP (And.intro g.hw (And.intro g.hb (And.intro g.hK g.hm)))
  rw [← rP, ← rw', ← rb, ← rK, ← rm] at m3
  refine PE.imp (pe_callKSD (E := WE W) m3 g.room hg (by rw [rm]; exact m1) (by rw [rK]; exact m2) (hkw ks (by simpa using h3)) (L2N.passAt g.tk) (is h7 hes X W g) k1 k2 (okName_dbg hn) (by rw [k3]; rfl)) fun σ H Q ⟨φ, F, env, Td, Tv, r, q⟩ => ?_
  simp only [ev] at q
  refine ⟨φ, F, env, Td, Tv, r, q.bndA (fun _ _ _ x => x) fun ds e1 F1 H1 vs l r1 q1 => ?_⟩
  obtain ⟨F2, r2⟩ := R.frzN l r1
  obtain ⟨ws, A1, A2, qs, t, lw, nd, ok, lkk⟩ := R.openN (Ud := D.frzs ds) (Uv := vs) (by rw [D.frzs_length]; exact l) r2
  -- nothing of the arguments is owned
  have q0 : Rps G.S F2 H1 (D.frzs ds) vs [] := by
    have : ∀ {ds : List D} {vs : List V} {A : List Addr}, Rps G.S F2 H1 (D.frzs ds) vs A → A = [] := fun {ds} => by
      induction ds with
      | nil => intro vs A h; rw [D.frzs, Rps] at h; exact h.2
      | cons d ds ih =>
        intro vs A h
        rw [D.frzs, Rps] at h
        obtain ⟨v, ws, B1, B2, rfl, rfl, p1, p2⟩ := h
        rw [p1.nown (D.frz_own d), ih p2]; rfl
    have h0 := this qs
    subst h0
    exact qs
  by_cases hlen : ds.length = ks.length
  case neg => rw [if_neg hlen] at q1; exact q1.elim
  rw [if_pos hlen] at q1
  refine ⟨by rw [← l, hlen], ?_⟩
  have hp := perm_rps (ks := ks) q0 fn.ps
  refine ⟨F2, permK fn.ps ks (D.frzs ds), [], r2.fh, hp, List.nodup_nil, perm_len (by rw [D.frzs_length, hlen]) fn.ps (fun p hp => by rw [List.all_eq_true] at h5; simpa using h5 p hp), ?_⟩
  have r3 : R G.S φ F2 H1 σ e1 Td Tv := r2.popN (by rw [D.frzs_length]; exact l)
  obtain ⟨ws3, A3, t3, lw3, nd3, ok3, lk3⟩ := r3.cl
  cases hs : fn.sem (permK fn.ps ks (D.frzs ds)) with
  | bad => rw [hs] at q1; exact q1.elim
  | ok d outs =>
    rw [hs] at q1
    intro F' H' v a
    have a' : Aft G.S F2 H1 [] F' H' ([d]) ([v]) := by
      refine ⟨a.ff, a.fh, ?_, a.fn, a.hh, a.dm⟩
      obtain ⟨B, qb, ndb, hb⟩ := a.cl
      rw [ioOf_false h6, List.nil_append] at qb
      have hl1 := qb.length
      have ho : outs = [] := by
        cases outs with
        | nil => rfl
        | cons o os => simp at hl1
      subst ho
      exact ⟨B, qb, ndb, hb⟩
    have r4 := R.after (ds := []) (outs := [d]) (vs := []) (us := [v]) (A := []) r3 Rps.nil t3 lw3 (by simpa using nd3) (by simpa using ok3) lk3 a'
    exact q1 F' H' v r4
  | exc xx outs =>
    rw [hs] at q1
    intro F' H' cls dd a hx
    have a' : Aft G.S F2 H1 [] F' H' [] [] := by
      refine ⟨a.ff, a.fh, ⟨[], Rps.nil, List.nodup_nil, fun a h => absurd h (by simp)⟩, a.fn, a.hh, a.dm⟩
    have r4 := R.after (ds := []) (outs := []) (vs := []) (us := []) (A := []) r3 Rps.nil t3 lw3 (by simpa using nd3) (by simpa using ok3) lk3 a'
    exact q1 F' H' cls dd r4 hx
end
end VS

/-! ## Snd12 -/
set_option maxRecDepth 100000
set_option maxHeartbeats 4000000
namespace VS
open PySem PySem.Spec PyProof.Rows L2
section
variable {G : Gb} {c : Cc}
theorem r_and2 {a b : E} {x y : Expr} {pos : Pos} (ia : PEo G c a x) (ib : PEo G c b y) : PEo G c (.an a b) (.BoolOp .And [x, y] pos) := fun h hf X W g => by
  simp only [chk, Bool.and_eq_true] at h
  exact r_and0 (ia := ia h.1 hf.1 X W g) (ib := pe_one (ib h.2 hf.2 X W g))
theorem r_and3 {a b : E} {x y z : Expr} {r : List Expr} {pos : Pos} (ia : PEo G c a x) (ib : PEo G c b (.BoolOp .And (y :: z :: r) pos)) : PEo G c (.an a b) (.BoolOp .And (x :: y :: z :: r) pos) := fun h hf X W g => by
  simp only [chk, Bool.and_eq_true] at h
  exact r_and0 (ia := ia h.1 hf.1 X W g) (ib := ib h.2 hf.2 X W g)
theorem r_or2 {a b : E} {x y : Expr} {pos : Pos} (ia : PEo G c a x) (ib : PEo G c b y) : PEo G c (.or a b) (.BoolOp .Or [x, y] pos) := fun h hf X W g => by
  simp only [chk, Bool.and_eq_true] at h
  exact r_or0 (ia := ia h.1 hf.1 X W g) (ib := pe_one (ib h.2 hf.2 X W g))
theorem r_or3 {a b : E} {x y z : Expr} {r : List Expr} {pos : Pos} (ia : PEo G c a x) (ib : PEo G c b (.BoolOp .Or (y :: z :: r) pos)) : PEo G c (.or a b) (.BoolOp .Or (x :: y :: z :: r) pos) := fun h hf X W g => by
  simp only [chk, Bool.and_eq_true] at h
  exact r_or0 (ia := ia h.1 hf.1 X W g) (ib := ib h.2 hf.2 X W g)
theorem r_ite' {t a b : E} {u x y : Expr} {pos : Pos} (it : PBo G c t u) (ia : PEo G c a x) (ib : PEo G c b y) : PEo G c (.ite t a b) (.IfExp u x y pos) := r_ite (fun h hf X W g => (it h hf X W g).1) ia ib
theorem chkT_tv (a : E) (x : Expr) : chkT c (.tv a) x = (plainT x && chk c a x) := by
  cases x <;> simp [chkT]
theorem t_tv' {a : E} {x : Expr} (ia : PEo G c a x) : PBo G c (.tv a) x := t_tv ia (fun h => by rw [chkT_tv, h, Bool.true_and]) (fun h => by rw [chkT_tv, Bool.and_eq_true] at h; exact h.1)
end
theorem sound0 (G : Gb) : (∀ c e x, PEo G c e x) ∧ (∀ c e x, PKo G c e x) ∧ (∀ c e x, PCo G c e x) ∧ (∀ c e x, PBo G c e x) ∧ (∀ c e x, PIo G c e x) ∧ (∀ c b e x, PLo G c b e x) ∧ (∀ c e x, PAo G c e x) := by
  apply chk.mutual_induct (motive_1 := fun c e x => PEo G c e x) (motive_2 := fun c e x => PKo G c e x) (motive_3 := fun c e x => PCo G c e x) (motive_4 := fun c e x => PBo G c e x) (motive_5 := fun c e x => PIo G c e x) (motive_6 := fun c b e x => PLo G c b e x) (motive_7 := fun c e x => PAo G c e x)
  case case1 => intros; exact r_var
  case case2 => intros; exact r_glo
  case case3 => intros; exact r_int
  case case4 => intros; exact r_bl
  case case5 => intros; exact r_non
  case case6 => intros; exact r_str
  case case7 => intros; exact r_bin (by assumption) (by assumption)
  case case8 => intros; exact r_neg (by assumption)
  case case9 => intros; exact r_nt (by assumption)
  case case10 => intros; exact r_and2 (by assumption) (by assumption)
  case case11 => intros; exact r_and3 (by assumption) (by assumption)
  case case12 => intros; exact r_or2 (by assumption) (by assumption)
  case case13 => intros; exact r_or3 (by assumption) (by assumption)
  case case14 => intros; exact r_cmp (by assumption) (by assumption)
  case case15 => intros; exact r_chn (by assumption) (by assumption) (by assumption)
  case case16 => intros; exact r_ite' (by assumption) (by assumption) (by assumption)
  case case17 => intros; exact r_tup (by assumption)
  case case18 => intros; exact r_lst (by assumption)
  case case19 => intros; exact r_sub (by assumption) (by assumption)
  case case20 => intros; exact r_subv (by assumption)
  case case21 => intros; exact r_att (by assumption)
  case case22 => intros; exact r_attv
  case case23 => intros; exact r_call (by assumption)
  case case24 => intros; exact r_bi (by assumption)
  case case25 => intros; exact r_biv
  case case26 => intros; exact r_lc (by assumption) (by assumption) (by assumption)
  case case27 => intros; exact r_callk (by assumption)
  case case28 => intros; exact r_mk (by assumption)
  case case29 => intros; exact r_met (by assumption) (by assumption)
  case case30 => intros; exact r_isi1 (by assumption)
  case case31 => intros; exact r_isi2 (by assumption)
  case case32 => intros; exact r_gcd (by assumption) (by assumption)
  case case33 => intros; exact r_bln (by assumption)
  case case34 => (intros; intro h; exfalso; first | (rw [chk] at h <;> first | assumption | (cases h; done)) | (rw [chkT] at h <;> first | assumption | (cases h; done)) | (rw [chkTs] at h <;> first | assumption | (cases h; done)) | (rw [chks] at h <;> first | assumption | (cases h; done)) | (rw [chkK] at h <;> first | assumption | (cases h; done)) | (rw [chka] at h <;> first | assumption | (cases h; done)) | (rw [chkR] at h <;> first | assumption | (cases h; done)))
  case case35 => intros; exact t_an2 (by assumption) (by assumption)
  case case36 => intros; exact t_an3 (by assumption) (by assumption)
  case case37 => intros; exact t_or2 (by assumption) (by assumption)
  case case38 => intros; exact t_or3 (by assumption) (by assumption)
  case case39 => intros; exact t_nt (by assumption)
  case case40 => intros; exact t_cmp (by assumption) (by assumption)
  case case41 => intros; exact t_chn (by assumption) (by assumption) (by assumption)
  case case42 => intros; exact t_tv' (by assumption)
  case case43 => (intros; intro h; exfalso; first | (rw [chk] at h <;> first | assumption | (cases h; done)) | (rw [chkT] at h <;> first | assumption | (cases h; done)) | (rw [chkTs] at h <;> first | assumption | (cases h; done)) | (rw [chks] at h <;> first | assumption | (cases h; done)) | (rw [chkK] at h <;> first | assumption | (cases h; done)) | (rw [chka] at h <;> first | assumption | (cases h; done)) | (rw [chkR] at h <;> first | assumption | (cases h; done)))
  case case44 => intros; exact kw_nil
  case case45 => intros; exact kw_cons (by assumption) (by assumption)
  case case46 => (intros; intro h; exfalso; first | (rw [chk] at h <;> first | assumption | (cases h; done)) | (rw [chkT] at h <;> first | assumption | (cases h; done)) | (rw [chkTs] at h <;> first | assumption | (cases h; done)) | (rw [chks] at h <;> first | assumption | (cases h; done)) | (rw [chkK] at h <;> first | assumption | (cases h; done)) | (rw [chka] at h <;> first | assumption | (cases h; done)) | (rw [chkR] at h <;> first | assumption | (cases h; done)))
  case case47 => intros; exact c_nil
  case case48 => intros; exact c_one (by assumption)
  case case49 => (intros; intro h; exfalso; first | (rw [chk] at h <;> first | assumption | (cases h; done)) | (rw [chkT] at h <;> first | assumption | (cases h; done)) | (rw [chkTs] at h <;> first | assumption | (cases h; done)) | (rw [chks] at h <;> first | assumption | (cases h; done)) | (rw [chkK] at h <;> first | assumption | (cases h; done)) | (rw [chka] at h <;> first | assumption | (cases h; done)) | (rw [chkR] at h <;> first | assumption | (cases h; done)))
  case case50 => intros; exact r_nil
  case case51 => intros; exact r_cons (by assumption) (by assumption)
  case case52 => (intros; intro h; exfalso; first | (rw [chk] at h <;> first | assumption | (cases h; done)) | (rw [chkT] at h <;> first | assumption | (cases h; done)) | (rw [chkTs] at h <;> first | assumption | (cases h; done)) | (rw [chks] at h <;> first | assumption | (cases h; done)) | (rw [chkK] at h <;> first | assumption | (cases h; done)) | (rw [chka] at h <;> first | assumption | (cases h; done)) | (rw [chkR] at h <;> first | assumption | (cases h; done)))
  case case53 => intros; exact l_nil
  case case54 => intros; exact l_cons (by assumption) (by assumption)
  case case55 => intros; exact l_lend (by assumption)
  case case56 => (intros; intro h; exfalso; first | (rw [chk] at h <;> first | assumption | (cases h; done)) | (rw [chkT] at h <;> first | assumption | (cases h; done)) | (rw [chkTs] at h <;> first | assumption | (cases h; done)) | (rw [chks] at h <;> first | assumption | (cases h; done)) | (rw [chkK] at h <;> first | assumption | (cases h; done)) | (rw [chka] at h <;> first | assumption | (cases h; done)) | (rw [chkR] at h <;> first | assumption | (cases h; done)))
  case case57 => intros; exact i_seq (by assumption) (by simp [chkR])
  case case58 => intros; exact i_rng1 (by assumption)
  case case59 => intros; exact i_rng2 (by assumption) (by assumption)
  case case60 => intros; exact i_enm (by assumption)
  case case61 => intros; exact i_zip (by assumption) (by assumption)
  case case62 => intros; exact i_rev (by assumption)
  case case63 => (intros; intro h; exfalso; first | (rw [chk] at h <;> first | assumption | (cases h; done)) | (rw [chkT] at h <;> first | assumption | (cases h; done)) | (rw [chkTs] at h <;> first | assumption | (cases h; done)) | (rw [chks] at h <;> first | assumption | (cases h; done)) | (rw [chkK] at h <;> first | assumption | (cases h; done)) | (rw [chka] at h <;> first | assumption | (cases h; done)) | (rw [chkR] at h <;> first | assumption | (cases h; done)))
theorem sound (G : Gb) : (∀ c e x, PEo G c e x) ∧ (∀ c e x, PCo G c e x) ∧ (∀ c e x, PBo G c e x) ∧ (∀ c e x, PIo G c e x) ∧ (∀ c b e x, PLo G c b e x) ∧ (∀ c e x, PAo G c e x) :=
  ⟨(sound0 G).1, (sound0 G).2.2.1, (sound0 G).2.2.2.1, (sound0 G).2.2.2.2.1, (sound0 G).2.2.2.2.2.1, (sound0 G).2.2.2.2.2.2⟩
end VS

/-! ## Snd13 -/
set_option maxRecDepth 100000
set_option maxHeartbeats 4000000
namespace VS
open PySem PySem.Spec PyProof.Rows L2

def Kp (ks : List Nat) (σ σ' : L2.St) : Prop := ∀ j ∈ ks, σ'[j]? = σ[j]?
theorem Kp.refl {ks : List Nat} {σ : L2.St} : Kp ks σ σ := fun _ _ => rfl
theorem Kp.trans {ks : List Nat} {σ σ' σ'' : L2.St} (h : Kp ks σ σ') (k : Kp ks σ' σ'') : Kp ks σ σ'' := fun j hj => (k j hj).trans (h j hj)
/-- how a statement ends -/
def EndS (S : Sta) (φ : Fr) (ks : List Nat) (Dn : Ends) (σ : L2.St) (fl : Fl) (env : En) : Prop := match fl with
  | .nx => ∀ F H σ', R S φ F H σ' env [] [] → Kp ks σ σ' → Dn.nx σ' H
  | .brk => ∀ F H σ', R S φ F H σ' env [] [] → Kp ks σ σ' → Dn.bk σ' H
  | .cnt => ∀ F H σ', R S φ F H σ' env [] [] → Kp ks σ σ' → Dn.ct σ' H
  | .ret d => ∀ F H σ' v, R S φ F H σ' env [d] [v] → Kp ks σ σ' → Dn.rt v H
def PostS (S : Sta) (φ : Fr) (W : WX) (ks : List Nat) (Dn : Ends) (σ : L2.St) (r : Rs Fl) : Prop := match r with
  | .bad => False
  | .ok fl env => EndS S φ ks Dn σ fl env
  | .exc x env => ∀ F H σ' cls dd, R S φ F H σ' env [] [] → Kp ks σ σ' → ExAt S F H cls dd x → W cls dd σ' H
def tS (S : Sta) (W : WX) (ks : List Nat) (f : En → Rs Fl) : TS := fun Dn σ H => ∃ φ F env, R S φ F H σ env [] [] ∧ PostS S φ W ks Dn σ (f env)
structure GS (G : Gb) (c : Cc) (X : Cx) (W : WX) : Prop where
  gx : GX G c X W
  po : PassesOwn (model X.prog X.w) X.A X.env X.xe
section
variable {G : Gb} {c : Cc} {X : Cx} {W : WX} {S : Sta} {φ : Fr} {F H F' H' : Hp} {σ : L2.St} {env : En} {Td Ud : List D} {Tv Uv : List V} {d e x y : D} {v w va vb : V} {A : List Addr} {ks : List Nat} {Dn : Ends}
theorem PostS.bnd {r : Rs D} {k : D → En → Rs Fl} {Q' : VK} (h : PostS S φ W ks Dn σ (r.bind k))
    (hk : ∀ d env F H v, R S φ F H σ env [d] [v] → PostS S φ W ks Dn σ (k d env) → Q' v H) : PostE S φ W σ [] [] r Q' := by
  cases r with
  | bad => exact h
  | ok d e => exact fun F H v r => hk d e F H v r h
  | exc x e => exact fun F H cls dd r a => h F H σ cls dd r Kp.refl a
theorem PostS.bndT {r : Rs Bool} {k : Bool → En → Rs Fl} {Q' : Bool → Hp → Prop} (h : PostS S φ W ks Dn σ (r.bind k))
    (hk : ∀ d env F H, R S φ F H σ env [] [] → PostS S φ W ks Dn σ (k d env) → Q' d H) : PostT S φ W σ [] [] r Q' := by
  cases r with
  | bad => exact h
  | ok d e => exact fun F H r => hk d e F H r h
  | exc x e => exact fun F H cls dd r a => h F H σ cls dd r Kp.refl a
theorem PostS.bndI {r : Rs (List D)} {k : List D → En → Rs Fl} {Q' : It → Hp → Prop} (h : PostS S φ W ks Dn σ (r.bind k))
    (hk : ∀ ds env F H J, ItD S φ F J ds → R S φ F H σ env [] [] → PostS S φ W ks Dn σ (k ds env) → Q' J H) : PostI S φ W σ [] [] r Q' := by
  cases r with
  | bad => exact h
  | ok d e => exact fun F H v it r => hk d e F H v it r h
  | exc x e => exact fun F H cls dd r a => h F H σ cls dd r Kp.refl a
theorem PostS.from {σ' : L2.St} {r : Rs Fl} (h : PostS S φ W ks Dn σ r) (k : Kp ks σ σ') : PostS S φ W ks Dn σ' r := by
  cases r with
  | bad => exact h
  | ok fl e =>
    cases fl with
    | nx => exact fun F H s r q => h F H s r (k.trans q)
    | brk => exact fun F H s r q => h F H s r (k.trans q)
    | cnt => exact fun F H s r q => h F H s r (k.trans q)
    | ret d => exact fun F H s v r q => h F H s v r (k.trans q)
  | exc x e => exact fun F H s cls dd r q => h F H s cls dd r (k.trans q)
/-- first this statement, then .. -/
theorem PostS.seq {r : Rs Fl} {k : Fl → En → Rs Fl} {φ' : Fr} (hφ : ∀ F H σ env Td Tv, R S φ' F H σ env Td Tv → R S φ F H σ env Td Tv) {D' : Ends} (h : PostS S φ W ks Dn σ (r.bind k))
    (hn : ∀ F H σ' env, R S φ' F H σ' env [] [] → Kp ks σ σ' → PostS S φ W ks Dn σ' (k .nx env) → D'.nx σ' H)
    (hb : ∀ F H σ' env, R S φ' F H σ' env [] [] → Kp ks σ σ' → PostS S φ W ks Dn σ' (k .brk env) → D'.bk σ' H)
    (hc : ∀ F H σ' env, R S φ' F H σ' env [] [] → Kp ks σ σ' → PostS S φ W ks Dn σ' (k .cnt env) → D'.ct σ' H)
    (hr : ∀ F H σ' env d v, R S φ' F H σ' env [d] [v] → Kp ks σ σ' → PostS S φ W ks Dn σ (k (.ret d) env) → D'.rt v H) : PostS S φ' W ks D' σ r := by
  cases r with
  | bad => exact h
  | ok fl e =>
    cases fl with
    | nx => exact fun F H s r q => hn F H s e r q (PostS.from h q)
    | brk => exact fun F H s r q => hb F H s e r q (PostS.from h q)
    | cnt => exact fun F H s r q => hc F H s e r q (PostS.from h q)
    | ret d => exact fun F H s v r q => hr F H s e d v r q h
  | exc x e => exact fun F H s cls dd r q => h F H s cls dd (hφ _ _ _ _ _ _ r) q
theorem Kp.set {i : Nat} {w : Option V} (hi : i ∉ ks) : Kp ks σ (σ.set i w) := fun j hj => by
  rw [List.getElem?_set]
  have : i ≠ j := fun z => hi (z ▸ hj)
  simp [this]

abbrev PSo (G : Gb) (c : Cc) (s : VS.S) (ast : Stmt) : Prop := chkS c s ast = true → s.ok (FnSem G) → ∀ (X : Cx) (W : WX), GS G c X W → PS X ast (tS G.S W c.keep (evS s))
abbrev PSso (G : Gb) (c : Cc) (s : List VS.S) (ast : List Stmt) : Prop := chkSs c s ast = true → oks (FnSem G) s → ∀ (X : Cx) (W : WX), GS G c X W → PSs X ast (tS G.S W c.keep (evSs s))
theorem ss_nil : PSso G c [] [] := fun _ _ X W g => PSs.imp pss_nil fun Dn σ H ⟨φ, F, env, r, q⟩ => by
  simp only [evSs] at q
  exact q F H σ r Kp.refl
theorem ss_cons {s : VS.S} {ss : List VS.S} {x : Stmt} {xs : List Stmt} (is : PSo G c s x) (iss : PSso G c ss xs) : PSso G c (s :: ss) (x :: xs) := fun h hf X W g => by
  simp only [chkSs, Bool.and_eq_true] at h
  refine PSs.imp (pss_cons (is h.1 hf.1 X W g) (iss h.2 hf.2 X W g)) fun Dn σ H ⟨φ, F, env, r, q⟩ => ?_
  simp only [evSs] at q
  exact ⟨φ, F, env, r, PostS.seq (fun _ _ _ _ _ _ z => z) q (fun F H s e r k p => ⟨φ, F, e, r, p⟩) (fun F H s e r k p => p F H s r Kp.refl) (fun F H s e r k p => p F H s r Kp.refl) (fun F H s e d v r k p => p F H s v r k)⟩
theorem s_pas {p : Pos} : PSo G c .pas (.Pass p) := fun _ _ X W g => PS.imp ps_pass fun Dn σ H ⟨φ, F, env, r, q⟩ => by
  simp only [evS] at q
  exact q F H σ r Kp.refl
theorem s_brk {p : Pos} : PSo G c .brk (.Break p) := fun _ _ X W g => PS.imp ps_break fun Dn σ H ⟨φ, F, env, r, q⟩ => by
  simp only [evS] at q
  exact q F H σ r Kp.refl
theorem s_cnt {p : Pos} : PSo G c .cnt (.Continue p) := fun _ _ X W g => PS.imp ps_continue fun Dn σ H ⟨φ, F, env, r, q⟩ => by
  simp only [evS] at q
  exact q F H σ r Kp.refl
theorem s_nev {x : Stmt} : PSo G c .nev x := fun _ _ X W g => PS.imp ps_never fun Dn σ H ⟨φ, F, env, r, q⟩ => by
  simp only [evS] at q
  exact q
theorem s_retN {p : Pos} : PSo G c .retN (.Return none p) := fun _ _ X W g => PS.imp ps_retN fun Dn σ H ⟨φ, F, env, r, q⟩ => by
  simp only [evS] at q
  exact q F H σ _ r.pNon Kp.refl
theorem s_ret {e : E} {x : Expr} {p : Pos} : PSo G c (.ret e) (.Return (some x) p) := fun h hf X W g => by
  simp only [chkS] at h
  refine PS.imp (ps_ret ((sound G).1 _ _ _ h hf X W g.gx)) fun Dn σ H ⟨φ, F, env, r, q⟩ => ?_
  simp only [evS] at q
  exact ⟨φ, F, env, [], [], r, q.bnd fun d e F H v r1 q1 => q1 F H σ v r1 Kp.refl⟩
theorem sw_other {x : Expr} {t : Option Expr} {l : Nat} {env : PySem.Env} (h : (match x with | .ListComp _ _ _ _ => false | .SetComp _ _ _ _ => false | .DictComp _ _ _ _ _ => false | _ => true) = true) : swapsWith x t l env = pure false := by
  cases x <;> first | rfl | (simp at h)
theorem s_exp {e : E} {x : Expr} {p : Pos} : PSo G c (.exp e) (.Expr x p) := fun h hf X W g => by
  simp only [chkS, Bool.and_eq_true] at h
  refine PS.imp (ps_expr ((sound G).1 _ _ _ h.1 hf X W g.gx) (sw_other h.2)) fun Dn σ H ⟨φ, F, env, r, q⟩ => ?_
  simp only [evS] at q
  exact ⟨φ, F, env, [], [], r, q.bnd fun d e F H v r1 q1 => q1 F H σ r1.pop Kp.refl⟩
theorem s_ite {t : E} {a b : List VS.S} {u : Expr} {x y : List Stmt} {p : Pos} (ia : PSso G c a x) (ib : PSso G c b y) : PSo G c (.ite t a b) (.If u x y p) := fun h hf X W g => by
  simp only [chkS, Bool.and_eq_true] at h
  refine PS.imp (ps_if ((sound G).2.2.1 _ _ _ h.1.1 hf.1 X W g.gx).1 (ia h.1.2 hf.2.1 X W g) (ib h.2 hf.2.2 X W g)) fun Dn σ H ⟨φ, F, env, r, q⟩ => ?_
  simp only [evS] at q
  refine ⟨φ, F, env, [], [], r, q.bndT fun t e F H r1 q1 => ?_⟩
  cases t with
  | true => rw [if_pos rfl] at q1 ⊢; exact ⟨φ, F, e, r1, q1⟩
  | false => rw [if_neg Bool.false_ne_true] at q1 ⊢; exact ⟨φ, F, e, r1, q1⟩
theorem swB_ok (g : GX G c X W) {x : Str} {p : Pos} {v : Expr} {l : Nat} (hk : fnK c = true) : swapsWith v (some (.Name x p)) l X.env = pure (swB c x p v) := by
  have hb : X.env.blockKind = .function := by
    unfold Env.blockKind
    rw [g.sc]
    unfold fnK at hk
    split at hk
    · rename_i e; rw [e]; rfl
    · cases hk
  have hn : ∀ y, X.env.kindOf y = c.sc.names.lookup y := fun y => by show X.env.scope.names.lookup y = _; rw [g.sc]
  cases v <;> first
    | rfl
    | (unfold swapsWith swB; simp only [hb, hn, Expr.pos]; simp)
theorem s_asg {i : Nat} {e : E} {x : Str} {p q' : Pos} {v : Expr} : PSo G c (.asg i e) (.Assign [.Name x p] v q') := fun h hf X W g => by
  simp only [chkS, Bool.and_eq_true, Bool.or_eq_true, Bool.not_eq_true'] at h
  obtain ⟨⟨⟨hk, h1⟩, h2⟩, h3⟩ := h
  obtain ⟨_, hN, hok, hkeep, hl, hf'⟩ := g.gx.pg (pos := p) h1
  have hsw := swB_ok (p := p) (x := x) (v := v) (l := q'.line) g.gx hk
  have fin : ∀ (Dn : Ends) σ H, tS G.S W c.keep (evS (.asg i e)) Dn σ H → tE G.S W (ev e) σ H (fun u H1 => gName i u σ H1 Dn.nx) := fun Dn σ H ⟨φ, F, env, r, q⟩ => by
    simp only [evS] at q
    refine ⟨φ, F, env, [], [], r, q.bnd fun d e1 F1 H1 u r1 q1 => ?_⟩
    split at q1
    · rename_i hi
      exact q1 F1 H1 _ (r1.put hi) (Kp.set hkeep)
    · exact q1.elim
  cases hs : swB c x p v with
  | false =>
    rw [hs] at hsw
    exact PS.imp (ps_set (by rw [g.gx.N]; exact g.gx.nd) (by rw [g.gx.N]; exact hN) hl ((sound G).1 _ _ _ h2 hf X W g.gx) hsw hf') fin
  | true =>
    rw [hs] at hsw h3
    have h3 : isLc e = true := by simpa using h3
    cases e with
    | lc elt tgt src ifs own =>
      have hv : ∃ ea t it fs scope pos, v = .ListComp ea [⟨t, it, fs, 0⟩] scope pos := by
        unfold chk at h2
        split at h2
        all_goals first | (exact absurd h2 Bool.false_ne_true) | skip
        all_goals first | (rename_i he; cases he; done) | skip
        all_goals first | exact ⟨_, _, _, _, _, _, rfl⟩ | trace_state
      obtain ⟨ea, t, it, fs, scope, pos, rfl⟩ := hv
      have hx : X.env.scope.names.lookup x = some .local := by
        rw [g.gx.sc]
        simp only [swB, Bool.and_eq_true, beq_iff_eq] at hs
        exact hs.1.1
      have pp := lc_parts (fun a b => (sound G).2.2.2.1 _ _ _ a b) (fun a b => (sound G).2.1 _ _ _ a b) (fun a b => (sound G).1 _ _ _ a b) h2 hf g.gx
      exact PS.imp (ps_setLc g.gx.calm (by rw [g.gx.N]; exact g.gx.nd) (by rw [g.gx.N]; exact hN) hx hsw pp.hi pp.ok pp.hg pp.ht pp.he pp.hs) fun Dn σ H q => pp.imp _ _ _ (fin Dn σ H q)
    | _ => simp [isLc] at h3
theorem sts_tup {es : List Expr} {k : Nat} {p : Pos} {v : Expr} {env : PySem.Env} (h : (match v with | .Tuple _ _ _ => false | _ => true) = true) : swappedStores [.Tuple es k p] v env = pure none := by
  cases v <;> first | rfl | (simp at h)
theorem sole_tup {t v : Expr} {l : Nat} {env : PySem.Env} (h : (match t with | .Name _ _ => false | _ => true) = true) : swapsWithSole [t] v l env = pure false := by
  cases v <;> first | rfl | (cases t <;> first | rfl | (simp at h))
theorem s_unp {tg : Tg} {e : E} {t v : Expr} {q' : Pos} : PSo G c (.unp tg e) (.Assign [t] v q') := fun h hf X W g => by
  simp only [chkS, Bool.and_eq_true] at h
  obtain ⟨⟨⟨h1, h2⟩, h3⟩, h4⟩ := h
  obtain ⟨es, k, p, rfl⟩ : ∃ es k p, t = .Tuple es k p := by cases t <;> first | exact ⟨_, _, _, rfl⟩ | (simp at h1)
  have hkeep : ∀ i ∈ tg.ixs, i ∉ c.keep := by
    refine fun i hi hk => ?_
    have := ixs_own (c := c) (own := (List.range (c.N.length)).filter fun j => !(c.keep.contains j)) (fun x i hs => ?_) tg _ h3 i hi
    · simp only [List.mem_filter, Bool.not_eq_true'] at this
      simp [hk] at this
    · unfold Cc.sto at hs
      simp only [Bool.and_eq_true, decide_eq_true_eq] at hs
      simp only [List.mem_filter, List.mem_range]
      exact ⟨(List.getElem?_eq_some_iff.mp hs.1.1.1).1, hs.1.2⟩
  refine PS.imp (ps_asg ((sound G).1 _ _ _ h4 hf X W g.gx) (pg_ok g.gx tg _ h3) (sole_tup rfl) (sts_tup h2) rfl) fun Dn σ H ⟨φ, F, env, r, q⟩ => ?_
  simp only [evS] at q
  refine ⟨φ, F, env, [], [], r, q.bnd fun d e1 F1 H1 u r1 q1 => ?_⟩
  obtain ⟨F2, r2⟩ := r1.freeze
  cases ha : asgT tg d.frz e1 with
  | none => simp only [ha] at q1; exact q1.elim
  | some e2 =>
    simp only [ha] at q1
    exact ⟨φ, F2, _, e1, [], [], e2, r2.fz (D.frz_own d), r2.pop, ha, fun σ' r3 o => q1 F2 H1 σ' r3 fun j hj => o.2 j fun z => hkeep j z hj⟩
theorem s_par {i j : Nat} {a b : E} {x y : Str} {px py pt pt2 pos : Pos} {kt k2 : Nat} {u v : Expr} : PSo G c (.par i j a b) (.Assign [.Tuple [.Name x px, .Name y py] kt pt] (.Tuple [u, v] k2 pt2) pos) := fun h hf X W g => by
  simp only [chkS, Bool.and_eq_true, Bool.not_eq_true', beq_iff_eq, decide_eq_true_eq] at h
  obtain ⟨⟨⟨⟨⟨⟨⟨⟨⟨⟨⟨⟨hk, h1⟩, h2⟩, hij⟩, h3⟩, h4⟩, h5⟩, h6⟩, h7⟩, h8⟩, h9⟩, h10⟩, h11⟩ := h
  obtain ⟨_, hN, _, hkeep, _, _⟩ := g.gx.pg (pos := px) h1
  obtain ⟨_, hN2, _, hkeep2, _, _⟩ := g.gx.pg (pos := py) h2
  have hN' : X.N.Nodup := by rw [g.gx.N]; exact g.gx.nd
  have hxy : x ≠ y := fun z => by
    subst z
    exact hij ((List.getElem?_inj (List.getElem?_eq_some_iff.mp hN).1 g.gx.nd).mp (hN.trans hN2.symm))
  have hb : X.env.blockKind = .function := by
    unfold Env.blockKind
    rw [g.gx.sc]
    unfold fnK at hk
    split at hk
    · rename_i e; rw [e]; rfl
    · cases hk
  have hx : X.env.kindOf x = some .local := by show X.env.scope.names.lookup x = _; rw [g.gx.sc]; exact h3
  have hy : X.env.kindOf y = some .local := by show X.env.scope.names.lookup y = _; rw [g.gx.sc]; exact h4
  have hw : swappedStores [.Tuple [.Name x px, .Name y py] kt pt] (.Tuple [u, v] k2 pt2) X.env = pure (some [x, y]) := by
    unfold swappedStores
    have e2 : ([u, v].all (foldedForSure 8)) = false := by simp only [List.all_cons, List.all_nil, Bool.and_true]; exact h8
    have e3 : ([u, v].all (constantsAlone 8)) = false := by simp only [List.all_cons, List.all_nil, Bool.and_true]; exact h9
    simp only [List.length_cons, List.length_nil, hb, e2, e3, List.filterMap_cons, List.filterMap_nil, hx, hy, List.head?_cons, Option.map_some, Option.getD_some, Expr.pos, h5]
    simp [hxy]
    have e4 : [x, y].eraseDups = [x, y] := by
      have : (y == x) = false := by simpa using Ne.symm hxy
      simp [List.eraseDups_cons, List.filter_cons, this]
    rw [e4]
    cases u <;> first | (simp [isStar] at h6; done) | (cases v <;> first | (simp [isStar] at h7; done) | rfl)
  refine PS.imp (ps_par g.gx.calm hN' (by rw [g.gx.N]; exact hN) (by rw [g.gx.N]; exact hN2) hij hx hy (pa_cons ((sound G).1 _ _ _ h10 hf.1 X W g.gx) (pa_cons ((sound G).1 _ _ _ h11 hf.2 X W g.gx) pa_nil (star_of h7)) (star_of h6)) hw (sole_tup rfl)) fun Dn σ H ⟨φ, F, env, r, q⟩ => ?_
  simp only [evS] at q
  refine ⟨φ, F, env, [], [], r, q.bnd fun d e1 F1 H1 u1 r1 q1 => ⟨φ, F1, e1, _, _, r1, ?_⟩⟩
  cases hb : ev b e1 with
  | bad => rw [hb] at q1; exact q1.elim
  | exc x e => rw [hb] at q1; exact fun F H cls dd r a => q1 F H σ cls dd r.pop Kp.refl a
  | ok d2 e2 =>
    rw [hb] at q1
    intro F2 H2 u2 r2
    simp only [Rs.bind] at q1
    split at q1
    · rename_i hi
      refine ⟨u1, u2, rfl, q1 F2 H2 _ ?_ ((Kp.set hkeep).trans (Kp.set hkeep2))⟩
      have := (r2.swap.put hi.1).put (i := j) (by simpa using hi.2)
      exact this
    · exact q1.elim
theorem s_tryN {b : List VS.S} {x : List Stmt} {hd : ExceptHandler} {hs : List ExceptHandler} {p : Pos} (ib : PSso G c b x) : PSo G c (.tryN b) (.Try x (hd :: hs) [] [] p) := fun h hf X W g => by
  simp only [chkS] at h
  have gn : GS G c X.nox (fun _ _ _ _ => False) := ⟨⟨g.gx.hP, g.gx.hw, g.gx.hb, g.gx.hK, g.gx.hm, g.gx.N, g.gx.nd, g.gx.sc, g.gx.st, g.gx.calm, g.gx.room, fun u s' ⟨a, B, sI, pins, σ, H, cls, d, e, I, nb, up, sky, na, os, ag, w⟩ => w.elim, g.gx.bl, g.gx.gl, g.gx.kt, g.gx.fl, g.gx.gcd⟩, PassesOwn.never⟩
  refine PS.imp (ps_try_thru0 (ib h hf X.nox _ gn)) fun Dn σ H ⟨φ, F, env, r, q⟩ => ?_
  simp only [evS] at q
  refine ⟨φ, F, env, r, ?_⟩
  cases hb : evSs b env with
  | bad => rw [hb] at q; exact q
  | exc x e => rw [hb] at q; exact q.elim
  | ok fl e => rw [hb] at q; exact q
end
end VS

/-! ## Snd14 -/
set_option maxRecDepth 100000
set_option maxHeartbeats 4000000
namespace VS
open PySem PySem.Spec PyProof.Rows L2
section
variable {G : Gb} {c : Cc} {X : Cx} {W : WX} {S : Sta} {φ : Fr} {F H F' H' : Hp} {σ : L2.St} {env : En} {Td Ud : List D} {Tv Uv : List V} {d e x y : D} {v w va vb : V} {A : List Addr} {ks : List Nat} {Dn : Ends}

theorem R.setL {xs : List D} {a : Addr} {j : Nat} (hj : j < xs.length) (r : R S φ F H σ env (.lst true xs :: d :: Td) (.ref a :: v :: Tv)) : ∃ vs, H a = some (.lst vs) ∧ vs.length = xs.length ∧ R S φ F (upd H a (.lst (vs.set j v))) σ env (.lst true (xs.set j d) :: Td) (.ref a :: Tv) := by
  obtain ⟨ws, B0, C, qs, t, lw, nd, ok, lk⟩ := R.openN (Ud := [.lst true xs, d]) (Uv := [.ref a, v]) rfl r
  rw [Rps] at qs
  obtain ⟨v1, ws1, A2, B2, e1, rfl, p2, qs⟩ := qs
  simp only [List.cons.injEq] at e1
  obtain ⟨rfl, rfl⟩ := e1
  rw [Rps] at qs
  obtain ⟨v1, ws1, A1, B1, e1, rfl, p, qs⟩ := qs
  simp only [List.cons.injEq] at e1
  obtain ⟨rfl, rfl⟩ := e1
  rw [Rps] at qs
  obtain ⟨_, rfl⟩ := qs
  rw [Rp] at p2
  obtain ⟨D, vs, B, e2, rfl, hH, hF, q⟩ := p2
  cases e2
  have hn := List.nodup_append.mp nd
  have hn1 := List.nodup_append.mp hn.1
  have hD1 : a ∉ A1 := fun z => hn1.2.2 a (by simp) a (by simp [z]) rfl
  have hDB : a ∉ B := by have := hn1.1; simp at this; exact this.1
  have hDC : a ∉ C := fun z => hn.2.2 a (by simp) a z rfl
  have ad1 := Rp.adr _ p
  have adB := Rps.adr _ q
  have adC := Rps.adr _ t
  obtain ⟨x0, hx0⟩ : ∃ x, xs[j]? = some x := ⟨xs[j], by simp [hj]⟩
  obtain ⟨v0, Ai, Ar, hv, p0, pm, kk⟩ := q.focus hx0
  refine ⟨vs, hH, q.length.symm, ?_⟩
  have sfh : Same F (upd H a (.lst (vs.set j v))) := fun b u e => by
    have : b ≠ a := fun z => by subst z; rw [hF] at e; cases e
    rw [upd_ne this]; exact r.fh _ _ e
  have hpd : Rp S F (upd H a (.lst (vs.set j v))) d v A1 := Rp.mono (Same.refl F) _ p fun b ha => ⟨(ad1 b ha).2, upd_ne fun z => hD1 (z ▸ ha)⟩
  obtain ⟨C', q3, pC⟩ := kk (F' := F) (H' := upd H a (.lst (vs.set j v))) hpd (Same.refl F) fun b hb => ⟨(adB b (pm.mem_iff.mpr (by simp [hb]))).2, upd_ne fun z => hDB (z ▸ pm.mem_iff.mpr (by simp [hb]))⟩
  have pm2 : ((a :: C') ++ (Ai ++ C)).Perm ((a :: B) ++ (A1 ++ []) ++ C) := by
    have h1 := List.perm_iff_count.mp pC
    have h3 := List.perm_iff_count.mp pm
    rw [List.perm_iff_count]; intro b
    have h1 := h1 b
    have h3 := h3 b
    simp only [List.count_append, List.count_cons, List.count_nil] at h1 h3 ⊢
    omega
  have nd2 : ((a :: C') ++ (Ai ++ C)).Nodup := pm2.nodup_iff.mpr nd
  refine R.turn (Ud := [.lst true xs, d]) (Uv := [.ref a, v]) (Ud' := [.lst true (xs.set j d)]) (Uv' := [.ref a]) (B := a :: C') r t lw lk (Same.refl F) sfh (fun b hb => ⟨(adC b hb).2, upd_ne fun z => hDC (z ▸ hb)⟩) (fun a h1 h2 => absurd h2 h1) (fun b o h1 h2 => ?_) (fun b h => ?_) ?_ ?_ ?_
  · have : b ≠ a := fun z => by
      subst z
      rcases ok b (by simp) with k | k
      · exact h2 k
      · rw [h1] at k; cases k
    rw [upd_ne this]; exact r.h0 b o h1 h2
  · by_cases z : b = a
    · subst z; rw [upd_same] at h; cases h
    · rw [upd_ne z] at h; exact h
  · have h4 : Rp S F (upd H a (.lst (vs.set j v))) (.lst true (xs.set j d)) (.ref a) (a :: C') := by
      rw [Rp]
      exact ⟨a, _, _, rfl, rfl, upd_same, hF, q3⟩
    simpa using Rps.cons h4 Rps.nil
  · rw [List.nodup_append] at nd2 ⊢
    exact ⟨nd2.1, (List.nodup_append.mp nd2.2.1).2.1, fun x hx y hy => nd2.2.2 x hx y (by simp [hy])⟩
  · intro b hb
    have : b ∈ (a :: C') ++ (Ai ++ C) := by
      rcases List.mem_append.mp hb with z | z
      · simp only [List.mem_append]; exact .inl z
      · simp only [List.mem_append]; exact .inr (.inr z)
    exact ok b (pm2.mem_iff.mp this)
theorem idx_lt {α : Type} {xs : List α} {j : Int} {m : Nat} (h : idx xs j = some m) : m < xs.length := by
  unfold idx at h
  repeat' split at h
  all_goals first | (cases h; omega) | (simp at h; done) | (simp at h; omega)
theorem s_setv {n : Nat} {i e : E} {y : Str} {p p2 q' : Pos} {k v : Expr} : PSo G c (.setv n i e) (.Assign [.Subscript (.Name y p) k p2] v q') := fun h hf X W g => by
  simp only [chkS, Bool.and_eq_true, Bool.not_eq_true'] at h
  obtain ⟨⟨⟨h1, h2⟩, h3⟩, h4⟩ := h
  have ha : ∀ v, assign (.Subscript (.Name y p) k p2) X.env v = (do
      let ov ← holding [v] (eval (.Name y p) X.env)
      let iv ← holding [v, ov] (eval k X.env)
      standAt p2
      holding [v, ov, iv] (setItem ov iv v)
      release [v, ov, iv] []) := by intro v; cases k <;> first | rfl | (simp [isSlice] at h1)
  refine PS.imp (ps_asg ((sound G).1 _ _ _ h4 hf.2 X W g.gx) (pg_sub (g.gx.pv h2) ((sound G).1 _ _ _ h3 hf.1 X W g.gx) set_list ha) (sole_tup rfl) (by cases v <;> rfl) rfl) fun Dn σ H ⟨φ, F, env, r, q⟩ => ?_
  simp only [evS] at q
  refine ⟨φ, F, env, [], [], r, q.bnd fun d e1 F1 H1 u r1 q1 => ?_⟩
  cases hp : peek n e1 with
  | none => simp only [hp] at q1; exact q1.elim
  | some d0 =>
    simp only [hp] at q1
    obtain ⟨w, hv, _, _⟩ := r1.see hp
    refine ⟨w, hv, φ, F1, e1, _, _, r1, ?_⟩
    cases hi : ev i e1 with
    | bad => rw [hi] at q1; exact q1.elim
    | exc x e => rw [hi] at q1; exact fun F H cls dd r a => q1 F H σ cls dd r.pop Kp.refl a
    | ok kd e2 =>
      rw [hi] at q1
      simp only [Rs.bind] at q1
      intro F2 H2 kv r2
      split at q1
      · rename_i xs j hp2
        cases hx : idx xs j with
        | none => simp only [hx] at q1; exact q1.elim
        | some m =>
          simp only [hx] at q1
          have hkv := r2.int
          subst hkv
          have r3 := r2.pop
          obtain ⟨w2, hv2, r4, he⟩ := r3.see hp2
          rw [hv] at hv2
          obtain rfl : w = w2 := by injection hv2 with z; injection z
          obtain ⟨A4, p4⟩ := r4.top
          rw [Rp] at p4
          obtain ⟨a, vs0, B, rfl, _⟩ := p4
          have hm : m < xs.length := idx_lt hx
          obtain ⟨vs, hH, hl, r5⟩ := r4.setL hm
          refine ⟨a, vs, j, m, rfl, rfl, hH, ?_, q1 F2 _ _ ?_ Kp.refl⟩
          · rw [hl]; exact hx
          · have := r5.back hv
            rw [List.set_set] at this
            exact this
      · exact q1.elim
theorem s_app {n : Nat} {e : E} {y m : Str} {p ap cp p2 : Pos} {v : Expr} : PSo G c (.app n e) (.Expr (.Call (.Attribute (.Name y p) m ap) [v] [] cp) p2) := fun h hf X W g => by
  simp only [chkS, Bool.and_eq_true, Bool.not_eq_true', beq_iff_eq] at h
  obtain ⟨⟨⟨⟨rfl, h1⟩, h2⟩, h3⟩, h4⟩ := h
  refine PS.imp (ps_expr (pe_bm F.plainAttrs_list F.slot_list_append F.type_list_append mt_append (g.gx.pv h2) (pa_cons ((sound G).1 _ _ _ h4 hf X W g.gx) pa_nil (star_of h3)) rfl (by rw [star_of h3]; rfl) (by rw [beq_iff_eq]; exact h1) (star_of h3) rfl) rfl) fun Dn σ H ⟨φ, F, env, r, q⟩ => ?_
  simp only [evS] at q
  split at q
  · rename_i m0 xs0 hp
    obtain ⟨w, hv, r0, _⟩ := r.see hp
    obtain ⟨a, vs0, B, rfl, ha, _⟩ := r0.la
    refine ⟨.ref a, hv, .inl ⟨rfl, vs0, SqL.of ha⟩, φ, F, env, [], [], r, q.bnd fun d e1 F1 H1 u r1 q1 => ?_⟩
    split at q1
    · rename_i xs hp2
      split at q1
      · rename_i hz
        obtain ⟨w2, hv2, r4, he⟩ := r1.see hp2
        rw [hv] at hv2
        obtain rfl : V.ref a = w2 := by injection hv2 with z; injection z
        obtain ⟨vs, hH, hl, r5⟩ := r4.swap.app
        refine ⟨a, vs, u, rfl, rfl, hH, by rw [hl, ← lim_eq]; exact hz, q1 F1 _ _ ?_ Kp.refl⟩
        have := r5.back hv
        rw [List.set_set] at this
        exact this
      · exact q1.elim
    · exact q1.elim
  · exact q.elim
theorem s_aug {i : Nat} {o o' : Operator} {e : E} {x : Str} {p q' : Pos} {v : Expr} : PSo G c (.aug i o e) (.AugAssign (.Name x p) o' v q') := fun h hf X W g => by
  simp only [chkS, Bool.and_eq_true, beq_iff_eq] at h
  obtain ⟨⟨⟨rfl, h0⟩, h1⟩, h2⟩ := h
  obtain ⟨_, hN, hok, hkeep, hl, hf'⟩ := g.gx.pg (pos := p) h1
  have pe := (sound G).1 _ _ _ h2 hf X W g.gx
  have key : ∀ (f : Int → Int → Int) (ho : PIp X o (ipI f)) (hd : ∀ a b y, augD o a b = some y → ∃ i j, a = .int i ∧ b = .int j ∧ y = .int (f i j)), PS X (.AugAssign (.Name x p) o v q') (tS G.S W c.keep (evS (.aug i o e))) := fun f ho hd => by
    refine PS.imp (ps_aug (by rw [g.gx.N]; exact g.gx.nd) (by rw [g.gx.N]; exact hN) hl pe ho hf') fun Dn σ H ⟨φ, F, env, r, q⟩ => ?_
    simp only [evS] at q
    cases hp : peek i env with
    | none => simp only [hp] at q; exact q.elim
    | some d0 =>
      simp only [hp] at q
      obtain ⟨w, hv, r0, _⟩ := r.see hp
      refine ⟨w, hv, φ, F, env, [], [], r, PostS.bnd q fun d e1 F1 H1 u r1 q1 => ?_⟩
      cases ha : augD o d0 d with
      | none => simp only [ha] at q1; exact q1.elim
      | some yy =>
        simp only [ha] at q1
        obtain ⟨i1, j1, rfl, rfl, rfl⟩ := hd _ _ _ ha
        have := r1.int; subst this
        have := r0.int; subst this
        refine ⟨i1, j1, rfl, rfl, ?_⟩
        split at q1
        · rename_i hi
          exact q1 _ _ _ ((r1.pop.pInt _).put hi) (Kp.set hkeep)
        · exact q1.elim
  have hadd : ∀ a b y, augD .Add a b = some y → ∃ i j, a = .int i ∧ b = .int j ∧ y = .int (i + j) := fun a b y h => by
    unfold augD at h
    split at h <;> first | (cases h; exact ⟨_, _, rfl, rfl, rfl⟩) | (rename_i z; cases z; done) | (cases h; done)
  have hsub : ∀ a b y, augD .Sub a b = some y → ∃ i j, a = .int i ∧ b = .int j ∧ y = .int (i - j) := fun a b y h => by
    unfold augD at h
    split at h <;> first | (cases h; exact ⟨_, _, rfl, rfl, rfl⟩) | (rename_i z; cases z; done) | (cases h; done)
  cases o with
  | Add => exact key (fun i j => i + j) ip_add hadd
  | Sub => exact key (fun i j => i - j) ip_sub hsub
  | _ => simp [augO] at h0
theorem s_fr {tg : Tg} {src : Sr} {b : List VS.S} {t it : Expr} {x : List Stmt} {p : Pos} (ib : PSso G c b x) : PSo G c (.fr tg src b) (.For t it x [] p) := fun h hf X W g => by
  simp only [chkS, Bool.and_eq_true, Bool.not_eq_true', Bool.or_eq_true] at h
  obtain ⟨⟨⟨⟨h1, h2⟩, h3⟩, h4⟩, h5⟩ := h
  have hkeep : ∀ i ∈ tg.ixs, i ∉ c.keep := by
    refine fun i hi hk => ?_
    have := ixs_own (c := c) (own := (List.range (c.N.length)).filter fun j => !(c.keep.contains j)) (fun x i hs => ?_) tg _ h4 i hi
    · simp only [List.mem_filter, Bool.not_eq_true'] at this
      simp [hk] at this
    · unfold Cc.sto at hs
      simp only [Bool.and_eq_true, decide_eq_true_eq] at hs
      simp only [List.mem_filter, List.mem_range]
      exact ⟨(List.getElem?_eq_some_iff.mp hs.1.1.1).1, hs.1.2⟩
  refine PS.imp (ps_for g.po g.gx.calm ((sound G).2.2.2.1 _ _ _ h3 hf.1 X W g.gx t (fun z => h2.resolve_left (by simp [z]))) (pg_ok g.gx tg t h4) (ib h5 hf.2 X W g) (fold_of h1 _)) fun Dn σ H ⟨φ, F, env, r, q⟩ => ?_
  simp only [evS] at q
  refine ⟨φ, F, env, [], [], r, q.bndI fun ds e1 F1 H1 J it1 r1 q1 => ?_⟩
  refine ⟨fun i m σ' H' => m = ds.length - i ∧ i ≤ ds.length ∧ ∃ F' e, Same F1 F' ∧ R G.S φ F' H' σ' e [] [] ∧ PostS G.S φ W c.keep Dn σ' (frL (asgT tg) (evSs b) (ds.drop i) e), ⟨_, rfl, Nat.zero_le _, F1, _, Same.refl _, r1, by simpa using q1⟩, ?_⟩
  rintro i m σ2 H2 ⟨rfl, hi, F2, e2, sf, r4, q2⟩
  by_cases hlt : i < ds.length
  · refine .inr ⟨it1.go _ _ _ sf r4.fh hlt, fun σ' H' => ∃ m', m' < ds.length - i ∧ m' = ds.length - (i + 1) ∧ i + 1 ≤ ds.length ∧ ∃ F' e, Same F1 F' ∧ R G.S φ F' H' σ' e [] [] ∧ PostS G.S φ W c.keep Dn σ' (frL (asgT tg) (evSs b) (ds.drop (i + 1)) e), fun σ' H' ⟨m', a, b⟩ => ⟨m', a, b⟩, fun x H3 y => ?_⟩
    obtain ⟨F3, d, s3, hd, p, r5⟩ := it1.yld _ _ _ _ _ _ _ _ _ sf r4 y hlt
    have hdr : ds.drop i = d :: ds.drop (i + 1) := by
      rw [List.drop_eq_getElem_cons hlt]
      congr 1
      rw [List.getElem?_eq_getElem hlt] at hd
      exact Option.some.inj hd
    rw [hdr] at q2
    unfold frL at q2
    cases hg : asgT tg d e2 with
    | none => simp only [hg] at q2; exact q2.elim
    | some e3 =>
      simp only [hg] at q2
      refine ⟨⟨F1, φ.H, φ.O⟩, F3, d, e2, _, _, e3, p, r5.rb (sf.trans s3) r1.f0, hg, fun σ3 r6 o1 => ?_⟩
      have kp : Kp c.keep σ2 σ3 := fun j hj => o1.2 j fun z => hkeep j z hj
      refine ⟨⟨F1, φ.H, φ.O⟩, F3, e3, r6, PostS.seq (fun F H σ env Td Tv z => R.unreb z r1) (PostS.from q2 kp) (fun F H s e r k p => ?_) (fun F H s e r k p => ?_) (fun F H s e r k p => ?_) (fun F H s e d v r k p => ?_)⟩
      · exact ⟨_, by omega, rfl, hlt, F, e, r.f0, R.unreb r r1, p⟩
      · exact p F H s (R.unreb r r1) Kp.refl
      · exact ⟨_, by omega, rfl, hlt, F, e, r.f0, R.unreb r r1, p⟩
      · exact p F H s v (R.unreb r r1) k
  · have e : i = ds.length := by omega
    subst e
    rw [List.drop_length] at q2
    simp only [frL] at q2
    exact .inl ⟨it1.stop _ _ _ sf r4.fh (Nat.le_refl _), q2 F2 H2 _ r4 Kp.refl⟩
theorem s_whl {n : Nat} {t : E} {b : List VS.S} {u : Expr} {x : List Stmt} {p : Pos} (ib : PSso G c b x) : PSo G c (.whl n t b) (.While u x [] p) := fun h hf X W g => by
  simp only [chkS, Bool.and_eq_true] at h
  refine PS.imp (ps_while g.po ((sound G).2.2.1 _ _ _ h.1 hf.1 X W g.gx).1 (ib h.2 hf.2 X W g)) fun Dn σ H ⟨φ, F, env, r, q⟩ => ?_
  simp only [evS] at q
  refine ⟨fun m σ' H' => ∃ F' e, R G.S φ F' H' σ' e [] [] ∧ PostS G.S φ W c.keep Dn σ' (whL (tst t) (evSs b) m e), ⟨n, F, env, r, q⟩, ?_⟩
  rintro m σ2 H2 ⟨F2, e2, r2, q2⟩
  cases m with
  | zero => exact q2.elim
  | succ m =>
    unfold whL at q2
    refine ⟨φ, F2, e2, [], [], r2, q2.bndT fun tt e3 F3 H3 r3 q3 => ?_⟩
    cases tt with
    | false => rw [if_neg Bool.false_ne_true] at q3 ⊢; exact q3 F3 H3 _ r3 Kp.refl
    | true =>
      rw [if_pos rfl] at q3 ⊢
      refine ⟨fun σ' H' => ∃ F' e, R G.S φ F' H' σ' e [] [] ∧ PostS G.S φ W c.keep Dn σ' (whL (tst t) (evSs b) m e), fun σ' H' h => ⟨m, Nat.lt_succ_self m, h⟩, φ, F3, e3, r3, ?_⟩
      exact PostS.seq (fun _ _ _ _ _ _ z => z) q3 (fun F H s e r k p => ⟨F, e, r, p⟩) (fun F H s e r k p => p F H s r Kp.refl) (fun F H s e r k p => ⟨F, e, r, p⟩) (fun F H s e d v r k p => p F H s v r k)
theorem putF_app {f : Str} {v : V} : ∀ {fs : List (Str × V)}, (∀ p ∈ fs, p.1 ≠ f) → putF f v fs = fs ++ [(f, v)]
  | [], _ => rfl
  | (g, x) :: r, h => by
    unfold putF
    rw [if_neg (h (g, x) (by simp)), putF_app fun p hp => h p (by simp [hp])]
    rfl
theorem R.addF {xs : List D} {ns : List Str} {cn f : Str} {a : Addr} (hf : f ∉ ns) (hna : ∀ C, S.mg cn = some (.ref C) → NoAttr S.K C f) (r : R S φ F H σ env (.ins true cn ns xs :: d :: Td) (.ref a :: v :: Tv)) :
    ∃ C dx fs, H a = some (.ins C dx fs) ∧ fs.length = ns.length ∧ Cls S.K C ∧ NoAttr S.K C f ∧ R S φ F (upd H a (.ins C dx (putF f v fs))) σ env (.ins true cn (ns ++ [f]) (xs ++ [d]) :: Td) (.ref a :: Tv) := by
  obtain ⟨ws, B0, C0, qs, t, lw, nd, ok, lk⟩ := R.openN (Ud := [.ins true cn ns xs, d]) (Uv := [.ref a, v]) rfl r
  rw [Rps] at qs
  obtain ⟨v1, ws1, A2, B2, e1, rfl, p2, qs⟩ := qs
  simp only [List.cons.injEq] at e1
  obtain ⟨rfl, rfl⟩ := e1
  rw [Rps] at qs
  obtain ⟨v1, ws1, A1, B1, e1, rfl, p, qs⟩ := qs
  simp only [List.cons.injEq] at e1
  obtain ⟨rfl, rfl⟩ := e1
  rw [Rps] at qs
  obtain ⟨_, rfl⟩ := qs
  rw [Rp] at p2
  obtain ⟨a', C, dx, vs, B, e2, rfl, ⟨hmg, hI⟩, hl, hH, hF, q⟩ := p2
  cases e2
  have hn := List.nodup_append.mp nd
  have hn1 := List.nodup_append.mp hn.1
  have hD1 : a ∉ A1 := fun z => hn1.2.2 a (by simp) a (by simp [z]) rfl
  have hDB : a ∉ B := by have := hn1.1; simp at this; exact this.1
  have hDC : a ∉ C0 := fun z => hn.2.2 a (by simp) a z rfl
  have ad1 := Rp.adr _ p
  have adB := Rps.adr _ q
  have adC := Rps.adr _ t
  have hlv : ns.length = vs.length := hl.trans q.length
  have hpf : putF f v (ns.zip vs) = (ns ++ [f]).zip (vs ++ [v]) := by
    rw [putF_app, List.zip_append hlv]; rfl
    intro pp hpp z
    obtain ⟨g, u⟩ := pp
    exact hf (z ▸ (List.of_mem_zip hpp).1)
  refine ⟨C, dx, _, hH, by simp [hlv], hI.cls, hna C hmg, ?_⟩
  rw [hpf]
  have sfh : Same F (upd H a (.ins C dx ((ns ++ [f]).zip (vs ++ [v])))) := fun b u e => by
    have : b ≠ a := fun z => by subst z; rw [hF] at e; cases e
    rw [upd_ne this]; exact r.fh _ _ e
  refine R.turn (Ud := [.ins true cn ns xs, d]) (Uv := [.ref a, v]) (Ud' := [.ins true cn (ns ++ [f]) (xs ++ [d])]) (Uv' := [.ref a]) (B := a :: (B ++ A1)) r t lw lk (Same.refl F) sfh (fun b hb => ⟨(adC b hb).2, upd_ne fun z => hDC (z ▸ hb)⟩) (fun a h1 h2 => absurd h2 h1) (fun b o h1 h2 => ?_) (fun b h => ?_) ?_ ?_ ?_
  · have : b ≠ a := fun z => by
      subst z
      rcases ok b (by simp) with k | k
      · exact h2 k
      · rw [h1] at k; cases k
    rw [upd_ne this]; exact r.h0 b o h1 h2
  · by_cases z : b = a
    · subst z; rw [upd_same] at h; cases h
    · rw [upd_ne z] at h; exact h
  · have g1 : Rps S F (upd H a (.ins C dx ((ns ++ [f]).zip (vs ++ [v])))) xs vs B := Rps.mono (Same.refl F) _ q fun b ha => ⟨(adB b ha).2, upd_ne fun z => hDB (z ▸ ha)⟩
    have g2 : Rp S F (upd H a (.ins C dx ((ns ++ [f]).zip (vs ++ [v])))) d v A1 := Rp.mono (Same.refl F) _ p fun b ha => ⟨(ad1 b ha).2, upd_ne fun z => hD1 (z ▸ ha)⟩
    have g3 := g1.append (Rps.cons g2 Rps.nil)
    have h4 : Rp S F (upd H a (.ins C dx ((ns ++ [f]).zip (vs ++ [v])))) (.ins true cn (ns ++ [f]) (xs ++ [d])) (.ref a) (a :: (B ++ A1)) := by
      rw [Rp]
      refine ⟨a, C, dx, _, _, rfl, rfl, ⟨hmg, ?_⟩, by simp [hl], upd_same, hF, by simpa using g3⟩
      refine ⟨hI.cls, fun g hg => ?_, hI.ha, hI.hn, hI.tk, hI.ob⟩
      rcases List.mem_append.mp hg with z | z
      · exact hI.na g z
      · simp at z; subst z; exact hna C hmg
    simpa using Rps.cons h4 Rps.nil
  · have pm : (a :: (B ++ A1) ++ C0).Perm ((a :: B) ++ (A1 ++ []) ++ C0) := by
      rw [List.perm_iff_count]; intro b; simp only [List.count_append, List.count_cons, List.count_nil]; omega
    exact pm.nodup_iff.mpr nd
  · intro b hb
    refine ok b ?_
    simp only [List.mem_append, List.mem_cons] at hb ⊢
    rcases hb with (z | z | z) | z <;> simp [z]
theorem s_stf {n : Nat} {k f g' : Str} {e : E} {y : Str} {p p2 q' : Pos} {v : Expr} : PSo G c (.stf n k f e) (.Assign [.Attribute (.Name y p) g' p2] v q') := fun h hf X W g => by
  simp only [chkS, Bool.and_eq_true, beq_iff_eq] at h
  obtain ⟨⟨⟨h1, rfl⟩, h2⟩, h3⟩ := h
  have hsw : swapsWith v (some (.Attribute (.Name y p) f p2)) q'.line X.env = pure false := by cases v <;> rfl
  refine PS.imp (ps_fld (g.gx.pv h1) ((sound G).1 _ _ _ h3 hf X W g.gx) hsw) fun Dn σ H ⟨φ, F, env, r, q⟩ => ?_
  simp only [evS] at q
  refine ⟨φ, F, env, [], [], r, q.bnd fun d e1 F1 H1 u r1 q1 => ?_⟩
  split at q1
  · rename_i c' ns xs hp
    split at q1
    · rename_i hok
      simp only [Bool.and_eq_true, beq_iff_eq, Bool.not_eq_true', decide_eq_true_eq] at hok
      obtain ⟨⟨rfl, hns⟩, hlen⟩ := hok
      obtain ⟨w, hv, r4, he⟩ := r1.see hp
      have hfl : ∀ C, G.S.mg k = some (.ref C) → NoAttr G.S.K C f := fun C hC => by
        obtain ⟨C', a1, a2⟩ := g.gx.fl (k, f) (by simpa using h2)
        rw [hC] at a1
        cases a1
        exact a2
      obtain ⟨A4, p4⟩ := r4.top
      rw [Rp] at p4
      obtain ⟨a, _, _, _, _, rfl, _⟩ := p4
      obtain ⟨C, dx, fs, hH, hl, hC, hN, r5⟩ := r4.addF (by simpa using hns) hfl
      rw [g.gx.hK]
      refine ⟨.ref a, hv, a, C, dx, fs, rfl, hH, hC, hN, by omega, q1 F1 _ _ ?_ Kp.refl⟩
      have := r5.back hv
      rw [List.set_set] at this
      exact this
    · exact q1.elim
  · exact q1.elim
/-- an item goes to a list within the list below .. -/
theorem R.appAt {xs ys : List D} {a : Addr} {j : Nat} (hj : xs[j]? = some (.lst true ys)) (r : R S φ F H σ env (.lst true xs :: d :: Td) (.ref a :: v :: Tv)) : ∃ vs b ws, H a = some (.lst vs) ∧ vs.length = xs.length ∧ vs[j]? = some (.ref b) ∧ H b = some (.lst ws) ∧ ws.length = ys.length ∧ b ≠ a ∧
    R S φ F (upd H b (.lst (ws ++ [v]))) σ env (.lst true (xs.set j (.lst true (ys ++ [d]))) :: Td) (.ref a :: Tv) := by
  obtain ⟨us, B0, C, qs, t, lw, nd, ok, lk⟩ := R.openN (Ud := [.lst true xs, d]) (Uv := [.ref a, v]) rfl r
  rw [Rps] at qs
  obtain ⟨v1, ws1, A2, B2, e1, rfl, p2, qs⟩ := qs
  simp only [List.cons.injEq] at e1
  obtain ⟨rfl, rfl⟩ := e1
  rw [Rps] at qs
  obtain ⟨v1, ws1, A1, B1, e1, rfl, p, qs⟩ := qs
  simp only [List.cons.injEq] at e1
  obtain ⟨rfl, rfl⟩ := e1
  rw [Rps] at qs
  obtain ⟨_, rfl⟩ := qs
  rw [Rp] at p2
  obtain ⟨a', vs, B, e2, rfl, hH, hF, q⟩ := p2
  cases e2
  obtain ⟨v0, Ai, Ar, hv, p0, pm, kk⟩ := q.focus hj
  rw [Rp] at p0
  obtain ⟨b, ws, Bi, rfl, rfl, hHb, hFb, qi⟩ := p0
  have hn := List.nodup_append.mp nd
  have pmc := List.perm_iff_count.mp pm
  -- all the addresses, once
  have pm0 : ((a :: (b :: Bi ++ Ar)) ++ (A1 ++ []) ++ C).Perm ((a :: B) ++ (A1 ++ []) ++ C) := by
    rw [List.perm_iff_count]; intro z
    have := pmc z
    simp only [List.count_append, List.count_cons, List.count_nil] at this ⊢
    omega
  have nd0 := pm0.nodup_iff.mpr nd
  have e0 : (a :: (b :: Bi ++ Ar)) ++ (A1 ++ []) ++ C = a :: b :: (Bi ++ (Ar ++ (A1 ++ C))) := by simp
  rw [e0] at nd0
  obtain ⟨n1, n2⟩ := List.nodup_cons.mp nd0
  obtain ⟨n3, _⟩ := List.nodup_cons.mp n2
  simp only [List.mem_append, List.mem_cons, not_or] at n1 n3
  have nba : b ≠ a := Ne.symm n1.1
  have hbBi : b ∉ Bi := n3.1
  have hbAr : b ∉ Ar := n3.2.1
  have hbA1 : b ∉ A1 := n3.2.2.1
  have hbC : b ∉ C := n3.2.2.2
  have ad1 := Rp.adr _ p
  have adi := Rps.adr _ qi
  have adB := Rps.adr _ q
  have adC := Rps.adr _ t
  have up : ∀ z, z ≠ b → upd H b (.lst (ws ++ [v])) z = H z := fun z h => upd_ne h
  have sfh : Same F (upd H b (.lst (ws ++ [v]))) := fun z u e => by
    rw [up z (fun k => by subst k; rw [hFb] at e; cases e)]; exact r.fh _ _ e
  have hpd : Rp S F (upd H b (.lst (ws ++ [v]))) d v A1 := Rp.mono (Same.refl F) _ p fun z hz => ⟨(ad1 z hz).2, up z fun k => hbA1 (k ▸ hz)⟩
  have hqi : Rps S F (upd H b (.lst (ws ++ [v]))) ys ws Bi := Rps.mono (Same.refl F) _ qi fun z hz => ⟨(adi z hz).2, up z fun k => hbBi (k ▸ hz)⟩
  have hin : Rp S F (upd H b (.lst (ws ++ [v]))) (.lst true (ys ++ [d])) (.ref b) (b :: (Bi ++ A1)) := by
    rw [Rp]
    exact ⟨b, _, _, rfl, rfl, upd_same, hFb, by simpa using hqi.append (Rps.cons hpd Rps.nil)⟩
  obtain ⟨C', q3, pC⟩ := kk (F' := F) (H' := upd H b (.lst (ws ++ [v]))) hin (Same.refl F) fun z hz => ⟨(adB z (pm.mem_iff.mpr (by simp [hz]))).2, up z fun k => hbAr (k ▸ hz)⟩
  have hset : vs.set j (.ref b) = vs := by
    apply List.ext_getElem?; intro i
    rw [List.getElem?_set]
    by_cases h : j = i
    · subst h
      obtain ⟨h1, h2⟩ := List.getElem?_eq_some_iff.mp hv
      simp [h1, h2]
    · simp [h]
  rw [hset] at q3
  have pm2 : ((a :: C') ++ C).Perm ((a :: B) ++ (A1 ++ []) ++ C) := by
    have h1 := List.perm_iff_count.mp pC
    rw [List.perm_iff_count]; intro z
    have h1 := h1 z
    have h3 := pmc z
    simp only [List.count_append, List.count_cons, List.count_nil] at h1 h3 ⊢
    omega
  refine ⟨vs, b, ws, hH, q.length.symm, hv, hHb, qi.length.symm, nba, ?_⟩
  refine R.turn (Ud := [.lst true xs, d]) (Uv := [.ref a, v]) (Ud' := [.lst true (xs.set j (.lst true (ys ++ [d])))]) (Uv' := [.ref a]) (B := a :: C') r t lw lk (Same.refl F) sfh (fun z hz => ⟨(adC z hz).2, up z fun k => hbC (k ▸ hz)⟩) (fun a h1 h2 => absurd h2 h1) (fun z o h1 h2 => ?_) (fun z h => ?_) ?_ ?_ ?_
  · rw [up z (fun k => by
      subst k
      rcases ok z (pm0.mem_iff.mp (by simp)) with k | k
      · exact h2 k
      · rw [h1] at k; cases k)]
    exact r.h0 z o h1 h2
  · by_cases k : z = b
    · subst k; rw [upd_same] at h; cases h
    · rw [up z k] at h; exact h
  · have h4 : Rp S F (upd H b (.lst (ws ++ [v]))) (.lst true (xs.set j (.lst true (ys ++ [d])))) (.ref a) (a :: C') := by
      rw [Rp]
      exact ⟨a, _, _, rfl, rfl, by rw [up a nba.symm]; exact hH, hF, q3⟩
    simpa using Rps.cons h4 Rps.nil
  · exact pm2.nodup_iff.mpr nd
  · exact fun z hz => ok z (pm2.mem_iff.mp hz)
theorem s_appi {n m : Nat} {i : E} {y z mm : Str} {p ap cp p2 p3 p4 : Pos} {k : Expr} : PSo G c (.appi n i m) (.Expr (.Call (.Attribute (.Subscript (.Name y p) k p3) mm ap) [.Name z p4] [] cp) p2) := fun h hf X W g => by
  simp only [chkS, Bool.and_eq_true, Bool.not_eq_true', beq_iff_eq] at h
  obtain ⟨⟨⟨⟨⟨rfl, h1⟩, h2⟩, h3⟩, h4⟩, h5⟩ := h
  refine PS.imp (ps_expr (pe_bm F.plainAttrs_list F.slot_list_append F.type_list_append mt_append (pe_ix ix_seq (g.gx.pv h3) ((sound G).1 _ _ _ h5 hf X W g.gx) (plainIx_of h2)) (pa_cons (g.gx.pv h4) pa_nil (star_of rfl)) (base_of rfl) (by rw [star_of rfl]; rfl) (by rw [beq_iff_eq]; exact h1) (star_of rfl) rfl) rfl) fun Dn σ H ⟨φ, F, env, r, q⟩ => ?_
  simp only [evS] at q
  cases hp : peek n env with
  | none => rw [hp] at q; exact q.elim
  | some d0 =>
    rw [hp] at q
    obtain ⟨w, hv, _, _⟩ := r.see hp
    refine ⟨w, hv, φ, F, env, [], [], r, PostS.bnd q fun kd e1 F1 H1 kv r1 q1 => ?_⟩
    split at q1
    · rename_i xs j hp2
      cases hx : idx xs j with
      | none => simp only [hx] at q1; exact q1.elim
      | some nn =>
        simp only [hx] at q1
        have hkv := r1.int
        subst hkv
        split at q1
        · rename_i ys hy
          split at q1
          · rename_i hz
            cases hm : peek m e1 with
            | none => simp only [hm] at q1; exact q1.elim
            | some dm =>
              simp only [hm] at q1
              obtain ⟨vm, hvm, r2, hem⟩ := r1.pop.see hm
              obtain ⟨F2, r3⟩ := r2.freeze
              have r4 := (r3.dup (D.frz_own dm)).back hvm
              rw [List.set_set] at r4
              have hp3 : peek n (e1.set m dm.frz) = some (.lst true xs) := by
                unfold peek at hp2 ⊢
                rw [List.getElem?_set, if_neg (Ne.symm hz.1)]
                exact hp2
              obtain ⟨w2, hv2, r5, he⟩ := r4.see hp3
              rw [hv] at hv2
              obtain rfl : w = w2 := by injection hv2 with z; injection z
              obtain ⟨A4, p4⟩ := r5.top
              rw [Rp] at p4
              obtain ⟨a, _, _, rfl, _⟩ := p4
              obtain ⟨vs, b, ws, hH, hl, hvb, hHb, hlw, _, r6⟩ := r5.appAt hy
              refine .inl ⟨a, vs, j, .ref b, rfl, rfl, SqL.of hH, ?_, .inl ⟨rfl, ws, SqL.of hHb⟩, vm, hvm, b, ws, vm, rfl, rfl, hHb, by rw [hlw, ← lim_eq]; exact hz.2, q1 F2 _ _ ?_ Kp.refl⟩
              · unfold L2.atI
                rw [← idx_ixN, idx_len hl, hx]
                exact hvb
              · have := r6.back hv
                rw [List.set_set] at this
                exact this
          · exact q1.elim
        · exact q1.elim
    · exact q1.elim
end
theorem soundS (G : Gb) (c : Cc) : (∀ s x, PSo G c s x) ∧ (∀ s x, PSso G c s x) := by
  apply chkS.mutual_induct (motive_1 := fun s x => PSo G c s x) (motive_2 := fun s x => PSso G c s x)
  all_goals (first
    | (intros; first
      | exact s_asg | exact s_unp | exact s_setv | exact s_app | exact s_aug | exact s_exp | exact s_ret | exact s_retN | exact s_ite (by assumption) (by assumption) | exact s_fr (by assumption) | exact s_whl (by assumption) | exact s_brk | exact s_cnt | exact s_pas | exact s_par | exact s_nev | exact s_stf | exact s_appi | exact s_tryN (by assumption)
      | exact ss_nil | exact ss_cons (by assumption) (by assumption))
    | skip)
  all_goals (intros; intro h; exfalso; first | (rw [chkS] at h <;> first | assumption | (cases h; done)) | (rw [chkSs] at h <;> first | assumption | (cases h; done)))
end VS

/-! ## Snd15 -/
set_option maxRecDepth 100000
set_option maxHeartbeats 4000000
namespace VS
open PySem PySem.Spec PyProof.Rows L2

def keepOf : Nat → List Bool → List Nat
  | _, [] => []
  | i, true :: r => i :: keepOf (i + 1) r
  | i, false :: r => keepOf (i + 1) r
theorem keepOf_mem : ∀ {io : List Bool} {i j : Nat}, io[j]? = some true → i + j ∈ keepOf i io
  | [], _, _, h => by simp at h
  | true :: r, i, 0, _ => by simp [keepOf]
  | false :: r, i, 0, h => by simp at h
  | true :: r, i, j + 1, h => by
    simp only [List.getElem?_cons_succ] at h
    have := keepOf_mem (i := i + 1) h
    simp only [keepOf, List.mem_cons]
    exact .inr (by rw [show i + (j + 1) = i + 1 + j by omega]; exact this)
  | false :: r, i, j + 1, h => by
    simp only [List.getElem?_cons_succ] at h
    have := keepOf_mem (i := i + 1) h
    simp only [keepOf]
    rw [show i + (j + 1) = i + 1 + j by omega]; exact this
/-- a def of the text as it stands behind the top -/
structure DefT (K : PySem.W.Frag) (x qual : Str) (st : Stmt) (f : Addr) (dV : Value) (fd : FuncData) : Prop where
  ex : ∃ (oc : Value) (od : Option Addr) (kV doc pm : Value) (an : Option Addr) (cdv ct : Value) (osl : Array (Option Value)),
    fd = PySem.W.fnOf x qual (defArgs st) (defBody st) (defScope st) dV kV doc pm an cdv ct ∧ K.lookup f = some ⟨oc, od, .func fd, osl⟩ ∧ PySem.W.codeIn K cdv qual = true
theorem DefT.mk' {K : PySem.W.Frag} {x qual : Str} {st : Stmt} {f : Addr} {oc : Value} {od an : Option Addr} {osl : Array (Option Value)} {dV kV doc pm cdv ct : Value} (l : K.lookup f = some ⟨oc, od, .func (PySem.W.fnOf x qual (defArgs st) (defBody st) (defScope st) dV kV doc pm an cdv ct), osl⟩)
    (c : PySem.W.codeIn K cdv qual = true) : DefT K x qual st f dV (PySem.W.fnOf x qual (defArgs st) (defBody st) (defScope st) dV kV doc pm an cdv ct) := ⟨⟨oc, od, kV, doc, pm, an, cdv, ct, osl, rfl, l, c⟩⟩
/-- what the module says of the names that a text uses -/
structure GF (G : Gb) (c : Cc) : Prop where
  bl : ∀ x ∈ c.bl, G.S.mg x = none
  gl : ∀ p ∈ c.gl, ∃ u, G.S.mg p.1 = some u ∧ RelV (scV p.2) u
  kt : ∀ p ∈ c.kt, KtOk G p
  fl : ∀ p ∈ c.fl, ∃ C, G.S.mg p.1 = some (.ref C) ∧ NoAttr G.S.K C p.2
  gcd : c.gcd = true → G.S.mg "gcd" = some (.builtin "math.gcd")
def ccOf (N : List Str) (st : Stmt) (io : List Bool) (bl : List Str) (gl : List (Str × D)) (kt : KT) (fl : List (Str × Str)) (gc : Bool) : Cc :=
  { N := N, sc := defScope st, st := fun _ => true, bl := bl, gl := gl, kt := kt, fl := fl, gcd := gc, keep := keepOf 0 io }
section
variable {S : Sta} {φ : Fr} {F H F' H' : Hp} {σ : L2.St} {env : En} {Td Ud : List D} {Tv Uv : List V} {d e x y : D} {v w va vb : V} {A : List Addr}
theorem pick : ∀ {io : List Bool} {env : List D} {vs ws : List V} {A : List Addr}, Rps S F H env vs A → io.length ≤ ws.length → (∀ (j : Nat) (d : D), io[j]? = some true → env[j]? = some d → d ≠ D.hole → vs[j]? = ws[j]?) → (∀ j : Nat, io[j]? = some true → j < env.length) → ∃ B, Rps S F H (ioOf io env) (ioOf io ws) B ∧ B.Sublist A
  | [], env, vs, ws, A, _, _, _, _ => ⟨[], by unfold ioOf; exact Rps.nil, List.nil_sublist _⟩
  | b :: io, [], vs, ws, A, q, _, _, h => by
    have hf : (b :: io).all (fun b => !b) = true := by
      rw [List.all_eq_true]
      intro z hz
      obtain ⟨j, hj⟩ := List.getElem?_of_mem hz
      cases z with
      | false => rfl
      | true => exact absurd (h j hj) (by simp)
    rw [ioOf_false hf, ioOf_false hf]
    exact ⟨[], Rps.nil, List.nil_sublist _⟩
  | b :: io, d :: env, vs, [], _, _, h, _, _ => by simp at h
  | b :: io, d :: env, vs, w :: ws, A, q, h1, h2, h3 => by
    rw [Rps] at q
    obtain ⟨v, us, A1, A2, rfl, rfl, p, t⟩ := q
    obtain ⟨B, hB, hs⟩ := pick (io := io) (ws := ws) t (by simpa using h1) (fun j d a b c => by simpa using h2 (j + 1) d (by simpa using a) (by simpa using b) c) (fun j a => by have := h3 (j + 1) (by simpa using a); simpa using this)
    cases b with
    | false =>
      simp only [ioOf]
      exact ⟨B, hB, hs.trans (List.sublist_append_right _ _)⟩
    | true =>
      simp only [ioOf]
      by_cases hd : d = .hole
      · subst hd
        refine ⟨[] ++ B, Rps.cons (by rw [Rp]) hB, ?_⟩
        exact hs.trans (List.sublist_append_right _ _)
      · have e := h2 0 d rfl rfl hd
        simp at e
        subst e
        exact ⟨A1 ++ B, Rps.cons p hB, List.Sublist.append (List.Sublist.refl _) hs⟩
end
theorem fn_run {G : Gb} {fn : Fn} {st : Stmt} {qual : Str} {f : Addr} {dV : Value} {fd : FuncData} {N : List Str} {bl : List Str} {gl : List (Str × D)} {kt : KT} {fl : List (Str × Str)} {gc : Bool} {body : List VS.S}
    (T : DefT G.S.K fn.name qual st f dV fd) (hS : FnScope N fn.ps (defScope st)) (hio : fn.io.length ≤ fn.ps.length) (hchk : chkSs (ccOf N st fn.io bl gl kt fl gc) body (defBody st) = true) (hok : oks (FnSem G) body) (hG : GF G (ccOf N st fn.io bl gl kt fl gc))
    (hsem : ∀ ds, fn.sem ds = .bad ∨ fn.sem ds = runF N.length fn.io body ds) : FnOk G.P G.w G.S.K G.S.mg G.base (L2N.CX G.P G.w) (G.k + 1) f fd fn.ps (spOf G.S fn) := by
  obtain ⟨oc, od, kV, doc, pm, an, cdv, ct, osl, rfl, lk, hcd⟩ := T.ex
  have hpl : fn.ps.length ≤ N.length := by have := congrArg List.length hS.pre; rw [List.length_take] at this; omega
  refine fn_of lk hcd hS (fun vs H Q E h => ?_) fun A outer s H vs Q E hr hsp => ?_
  · obtain ⟨F, ds, A, _, q, _, hl, _⟩ := h
    rw [← q.length, hl]
  · generalize hX : cxOf (L2N.CX G.P G.w) G.P G.w G.S.K G.S.mg G.base N qual (defScope st) f cdv A outer s H E = X
    have gs : GS G (ccOf N st fn.io bl gl kt fl gc) X (fun cls d _ H => E cls d H) := by
      subst hX
      refine ⟨⟨rfl, rfl, rfl, rfl, rfl, rfl, hS.nd, rfl, fun x h => rfl, rfl, hr, L2N.takes_of rfl rfl rfl rfl, hG.bl, hG.gl, hG.kt, hG.fl, hG.gcd⟩, passes_of rfl⟩
    have hb := (soundS G (ccOf N st fn.io bl gl kt fl gc)).2 body (defBody st) hchk hok X _ gs
    refine ⟨_, hb, ?_⟩
    obtain ⟨F, ds, A0, sFH, q, nd, hl, hq⟩ := hsp
    have hlv := q.length
    rcases hsem ds with hb' | hb'
    · rw [hb'] at hq; exact hq.elim
    rw [hb'] at hq
    unfold runF at hq
    have hholes : ∀ n : Nat, Rps G.S F H (List.replicate n D.hole) (List.replicate n V.non) [] := fun n => by
      induction n with
      | zero => exact Rps.nil
      | succ n ih =>
        have := Rps.cons (S := G.S) (F := F) (H := H) (d := .hole) (v := .non) (A1 := []) (by rw [Rp]) ih
        simpa [List.replicate_succ] using this
    have hstart : (L2.start N vs).length = N.length := by unfold L2.start; simp; omega
    have r0 : R G.S ⟨F, H, A0⟩ F H (L2.start N vs) (ds ++ List.replicate (N.length - ds.length) .hole) [] [] := by
      refine ⟨sFH, Same.refl F, fun a h1 h2 => absurd h2 h1, fun a o e _ => e, fun a h => h, by rw [hstart]; simp; omega, vs ++ List.replicate (N.length - ds.length) .non, A0, ?_, by simp [hlv], nd, fun a ha => .inl ha, fun i d v h1 h2 h3 => ?_⟩
      · simpa using q.append (hholes (N.length - ds.length))
      · have hi : i < ds.length := by
          by_cases hi : i < ds.length
          · exact hi
          · rw [List.getElem?_append_right (by omega), List.getElem?_replicate] at h1
            split at h1
            · cases h1; exact absurd rfl h2
            · cases h1
        rw [List.getElem?_append_left (by omega)] at h3
        unfold L2.start
        rw [List.getElem?_append_left (by simp; omega), List.getElem?_map, h3]
        rfl
    have s0get : ∀ j, j < vs.length → (L2.start N vs)[j]? = some vs[j]? := fun j hj => by
      unfold L2.start
      rw [List.getElem?_append_left (by simp; omega), List.getElem?_map]
      simp [hj]
    -- the end
    have fin : ∀ {F' H' : Hp} {σ' : L2.St} {env : En} {Td : List D} {Tv : List V}, R G.S ⟨F, H, A0⟩ F' H' σ' env Td Tv → Kp (keepOf 0 fn.io) (L2.start N vs) σ' → Aft G.S F H A0 F' H' (ioOf fn.io env ++ Td) (ioOf fn.io vs ++ Tv) := fun {F' H' σ' env Td Tv} r kp => by
      obtain ⟨us, B, qs, lu, ndB, okB, lkB⟩ := r.cl
      obtain ⟨v1, u1, B1, B2, e1, rfl, q1, q2⟩ := qs.split
      have tl := r.tlen
      obtain ⟨rfl, rfl⟩ := List.append_inj e1 (by have := q1.length; omega)
      obtain ⟨C, q3, sub⟩ := pick (io := fn.io) (ws := vs) q2 (by omega) (fun j d h1 h2 h3 => by
        have hj : j < fn.io.length := (List.getElem?_eq_some_iff.mp h1).1
        obtain ⟨u, hu⟩ : ∃ u, us[j]? = some u := ⟨us[j]'(by have := (List.getElem?_eq_some_iff.mp h2).1; omega), by simp⟩
        have k1 := lkB j d u h2 h3 hu
        have k2 := kp (0 + j) (keepOf_mem h1)
        rw [Nat.zero_add, k1, s0get j (by omega)] at k2
        rw [hu]
        exact Option.some.inj k2) (fun j h1 => by
        have k2 := kp (0 + j) (keepOf_mem h1)
        have hj : j < fn.io.length := (List.getElem?_eq_some_iff.mp h1).1
        rw [Nat.zero_add, s0get j (by omega)] at k2
        have h2 := (List.getElem?_eq_some_iff.mp k2).1
        have h3 := r.len
        omega)
      refine ⟨r.f0, r.fh, ⟨C ++ B1, q3.append q1, ?_, fun a ha => ?_⟩, r.fn, r.h0, r.dm⟩
      · rw [List.nodup_append] at ndB ⊢
        exact ⟨ndB.2.1.sublist sub, ndB.1, fun x hx y hy e => ndB.2.2 y hy x (sub.subset hx) e.symm⟩
      · refine okB a ?_
        rcases List.mem_append.mp ha with z | z
        · simp [sub.subset z]
        · simp [z]
    refine ⟨⟨F, H, A0⟩, F, _, r0, ?_⟩
    cases he : evSs body (ds ++ List.replicate (N.length - ds.length) .hole) with
    | bad => rw [he] at hq; exact hq.elim
    | exc x env =>
      rw [he] at hq
      intro F' H' σ' cls dd r kp hx
      have := fin r kp
      simp only [List.append_nil] at this
      exact hq F' H' cls dd this hx
    | ok fl env =>
      rw [he] at hq
      cases fl with
      | brk => exact hq.elim
      | cnt => exact hq.elim
      | nx => exact fun F' H' σ' r kp => hq F' H' .non (fin r.pNon kp)
      | ret d => exact fun F' H' σ' v r kp => hq F' H' v (fin r kp)
end VS

/-! ## Snd16 -/
set_option maxRecDepth 100000
set_option maxHeartbeats 4000000
namespace VS
open PySem PySem.Spec PyProof.Rows L2
def spLaw (n : Nat) (K : PySem.W.Frag) : Sp := fun vs H Q _ => ∃ (a : Addr) (ns : List Int), vs = [.ref a] ∧ SqL K H a (ns.map V.int) ∧ ns.length ≤ n ∧ ∀ H', Q (.bl true) H'
theorem law_sp {G : Gb} {fn : Fn} {k n : Nat} {f : Addr} {fd : FuncData} (hps : fn.ps = [("script" : Str)]) (hio : fn.io.all (fun b => !b) = true) (hs : ∀ ns : List Int, ns.length ≤ n → fn.sem [.scr ns] = .ok (.bl true) [])
    (F : FnOk G.P G.w G.S.K G.S.mg G.base (L2N.CX G.P G.w) k f fd fn.ps (spOf G.S fn)) : FnOk G.P G.w G.S.K G.S.mg G.base (L2N.CX G.P G.w) k f fd [("script" : Str)] (spLaw n G.S.K) := by
  rw [hps] at F
  refine F.imp fun vs H Q E ⟨a, ns, e, hq, hl, q⟩ => ?_
  subst e
  refine ⟨H, [.scr ns], [], Same.refl H, ?_, List.nodup_nil, by rw [hps]; rfl, ?_⟩
  · have := Rps.cons (S := G.S) (F := H) (H := H) (d := .scr ns) (v := .ref a) (A1 := []) (by rw [Rp]; exact ⟨rfl, a, rfl, hq⟩) Rps.nil
    simpa using this
  · rw [hs ns hl]
    intro F' H' v aft
    obtain ⟨B, p, _⟩ := aft.cl
    rw [ioOf_false hio] at p
    have hv : v = .bl true := by
      have p' : Rps G.S F' H' [.bl true] [v] B := by
        simpa using p
      rw [Rps] at p'
      obtain ⟨v', ws, A1, A2, e1, _, p1, _⟩ := p'
      cases e1
      rw [Rp] at p1
      exact p1.1
    subst hv
    exact q H'
theorem walk {l : PySem.W.OpenLaw} {n k : Nat} {q : Program} {loose : List Str} {XP : (Str → Option Value) → Heap → Prop} {YP : World → Heap → Prop} {d : DefRec} {K : Params → PySem.W.Frag} (hn : l.most = some n) (hn2 : n ≤ sizeLine) (hdf : d.params.defaults = []) (hr : Room k callerA)
    (hY : ∀ (w : World) (h : Heap), YP w h → (K w.params).In h)
    (F : ∀ (w : World) (mg : Str → Option Value) (fa : Addr) (h : Heap), (K w.params).In h → h.Ns mainGlobals mg → mg d.name = some (.ref fa) →
      ∃ fd : FuncData, (∀ (s : Shared) (u : Value), BindsTo s fd ⟨[u], []⟩ [("script", u)]) ∧ ∀ base : Heap, (K w.params).In base → base.Ns mainGlobals mg → FnOk l.prog w (K w.params) mg base (L2N.CX l.prog w) k fa fd [("script" : Str)] (spLaw n (K w.params))) :
    PySem.W.WalkO q loose XP YP l.row.toRowW d [] (fun f vs => PySem.call f vs) :=
  L2.walk_of (n := n) (k := k) (x := "script") (CX := fun w => L2N.CX l.prog w) (sp := fun w => spLaw n (K w.params)) hn hn2 hdf hr hY F (fun _ _ a ns hl _ hS => ⟨a, ns, rfl, hS, hl, fun _ => rfl⟩) fun _ _ _ _ _ ⟨_, _, _, _, _, _, _, _, _, _, _, _, z⟩ => z
end VS

/-! ## Snd17 -/
set_option maxRecDepth 100000
set_option maxHeartbeats 4000000
namespace VS
open PySem PySem.Spec PyProof.Rows L2
abbrev Gb.at (G : Gb) (k : Nat) : Gb := { G with k := k }
theorem FnSem.mono {G : Gb} {fn : Fn} {k : Nat} (h : G.k ≤ k) (f : FnSem G fn) : FnSem (G.at k) fn := by
  unfold FnSem at f ⊢
  cases hw : fn.wh with
  | top =>
    rw [hw] at f
    obtain ⟨a, fd, m1, m2, m3, F⟩ := f
    exact ⟨a, fd, m1, m2, m3, F.mono h⟩
  | meth c =>
    rw [hw] at f
    obtain ⟨C, a, fd, m1, m2, m3, m4, F⟩ := f
    exact ⟨C, a, fd, m1, m2, m3, m4, F.mono h⟩
  | init c =>
    rw [hw] at f
    obtain ⟨k0, C, a, fd, hk, m1, m2, m3, m4, F⟩ := f
    refine ⟨k - 1, C, a, fd, ?_, m1, m2, m3, m4, F.mono (by omega)⟩
    show k = k - 1 + 1
    omega
  | static c => rw [hw] at f; exact f
  | cls c => rw [hw] at f; exact f
/-- what the module says of the names, once for all defs of a law -/
structure GL (G : Gb) (bl : List Str) (gl : List (Str × D)) (kt : KT) (fl : List (Str × Str)) (gc : Bool) : Prop where
  bl : ∀ x ∈ bl, G.S.mg x = none
  gl : ∀ p ∈ gl, ∃ u, G.S.mg p.1 = some u ∧ RelV (scV p.2) u
  kt : ∀ p ∈ kt, KtOk G p
  fl : ∀ p ∈ fl, ∃ C, G.S.mg p.1 = some (.ref C) ∧ NoAttr G.S.K C p.2
  gcd : gc = true → G.S.mg "gcd" = some (.builtin "math.gcd")
theorem GL.gf {G : Gb} {bl : List Str} {gl : List (Str × D)} {kt : KT} {fl : List (Str × Str)} {gc : Bool} (h : GL G bl gl kt fl gc) {N : List Str} {st : Stmt} {io : List Bool} {k : Nat} : GF (G.at k) (ccOf N st io bl gl kt fl gc) := ⟨h.bl, h.gl, h.kt, h.fl, h.gcd⟩
/-- a def of the module -/
def TopT (S : Sta) (fn : Fn) (st : Stmt) : Prop := ∃ f fd dV, S.mg fn.name = some (.ref f) ∧ PySem.W.keepIn S.K (.ref f) = true ∧ DefT S.K fn.name fn.name st f dV fd ∧ (fn.df.all isScal = true ∧ ∀ j, j ≤ fn.df.length → ∃ ds, Binds S.K fd fn.ps ds ∧ Vals ((fn.df.drop j).map scV) ds) ∧ Kwd fd fn
/-- a method -/
def MetT (S : Sta) (fn : Fn) (st : Stmt) (c qual : Str) : Prop := ∃ C f fd dV, S.mg c = some (.ref C) ∧ Cls S.K C ∧ Meth S.K C fn.name f ∧ DefT S.K fn.name qual st f dV fd ∧ (fn.df.all isScal = true ∧ ∀ j, j ≤ fn.df.length → ∃ ds, Binds S.K fd fn.ps ds ∧ Vals ((fn.df.drop j).map scV) ds)
/-- a class of values, its __init__ -/
def IniT (S : Sta) (fn : Fn) (st : Stmt) (c qual : Str) : Prop := ∃ C f fd dV, S.mg c = some (.ref C) ∧ InsOk S.K C [] ∧ Mk S.K C f ∧ DefT S.K fn.name qual st f dV fd ∧ (fn.df.all isScal = true ∧ ∀ j, j ≤ fn.df.length → ∃ ds, Binds S.K fd fn.ps ds ∧ Vals ((fn.df.drop j).map scV) ds)
section
variable {G : Gb} {fn : Fn} {st : Stmt} {c qual : Str} {N : List Str} {bl : List Str} {gl : List (Str × D)} {kt : KT} {fl : List (Str × Str)} {gc : Bool} {body : List VS.S} {k : Nat}
theorem top_ok (h : GL G bl gl kt fl gc) (T : TopT G.S fn st) (hw : fn.wh = .top) (hS : C8.scC N fn.ps (defScope st) = true) (hio : fn.io.length ≤ fn.ps.length) (hchk : chkSs (ccOf N st fn.io bl gl kt fl gc) body (defBody st) = true) (hok : oks (FnSem (G.at k)) body)
    (hsem : ∀ ds, fn.sem ds = .bad ∨ fn.sem ds = runF N.length fn.io body ds) : FnSem (G.at (k + 1)) fn := by
  obtain ⟨f, fd, dV, m1, m2, T, d1, d2⟩ := T
  unfold FnSem
  rw [hw]
  exact ⟨f, fd, m1, m2, ⟨d1, d2⟩, fn_run (G := G.at k) T (C8.fnScope_by hS) hio hchk hok h.gf hsem⟩
theorem met_ok (h : GL G bl gl kt fl gc) (T : MetT G.S fn st c qual) (hw : fn.wh = .meth c) (hS : C8.scC N fn.ps (defScope st) = true) (hio : fn.io.length ≤ fn.ps.length) (hchk : chkSs (ccOf N st fn.io bl gl kt fl gc) body (defBody st) = true) (hok : oks (FnSem (G.at k)) body)
    (hsem : ∀ ds, fn.sem ds = .bad ∨ fn.sem ds = runF N.length fn.io body ds) : FnSem (G.at (k + 1)) fn := by
  obtain ⟨C, f, fd, dV, m1, m2, m3, T, d1⟩ := T
  unfold FnSem
  rw [hw]
  exact ⟨C, f, fd, m1, m2, m3, d1, fn_run (G := G.at k) T (C8.fnScope_by hS) hio hchk hok h.gf hsem⟩
theorem ini_ok (h : GL G bl gl kt fl gc) (T : IniT G.S fn st c qual) (hw : fn.wh = .init c) (hS : C8.scC N fn.ps (defScope st) = true) (hio : fn.io.length ≤ fn.ps.length) (hchk : chkSs (ccOf N st fn.io bl gl kt fl gc) body (defBody st) = true) (hok : oks (FnSem (G.at k)) body)
    (hsem : ∀ ds, fn.sem ds = .bad ∨ fn.sem ds = runF N.length fn.io body ds) : FnSem (G.at (k + 2)) fn := by
  obtain ⟨C, f, fd, dV, m1, m2, m3, T, d1⟩ := T
  unfold FnSem
  rw [hw]
  exact ⟨k + 1, C, f, fd, rfl, m1, m2, m3, d1, fn_run (G := G.at k) T (C8.fnScope_by hS) hio hchk hok h.gf hsem⟩
theorem FnSem.up {j : Nat} (f : FnSem (G.at j) fn) (h : j ≤ k) : FnSem (G.at k) fn := FnSem.mono (G := G.at j) h f
end
theorem dfl_none {K : PySem.W.Frag} {fd : FuncData} {ps : List Str} {df : List D} (hd : df = []) (h : ∀ us : List Value, us.length = ps.length → bindArgs fd ⟨us, []⟩ = pure (ps.zip us)) :
    df.all isScal = true ∧ ∀ j, j ≤ df.length → ∃ ds, Binds K fd ps ds ∧ Vals ((df.drop j).map scV) ds := by
  subst hd
  exact ⟨rfl, fun j _ => ⟨[], .all h, by simp; exact .nil⟩⟩
theorem dfl_some {K : PySem.W.Frag} {fd : FuncData} {ps : List Str} {df : List D} {T : Addr} {o : Obj} {its : List Value} {n : Nat} (lT : K.lookup T = some o) (oT : o.data = .seq its.toArray n) (rT : Vals (df.map scV) its) (hs : df.all isScal = true)
    (h : ∀ j, j ≤ df.length → ∀ us : List Value, us.length + (df.length - j) = ps.length → ∃ k, bindArgs fd ⟨us, []⟩ = seqItems? (.ref T) >>= k ∧ k (some its.toArray) = pure (ps.zip (us ++ its.drop j))) :
    df.all isScal = true ∧ ∀ j, j ≤ df.length → ∃ ds, Binds K fd ps ds ∧ Vals ((df.drop j).map scV) ds := by
  refine ⟨hs, fun j hj => ⟨its.drop j, fun s us X hlen => ?_, by rw [List.map_drop]; exact rT.drop j⟩⟩
  have l1 : its.length = df.length := by rw [← rT.length, List.length_map]
  have l2 : us.length + (df.length - j) = ps.length := by
    rw [List.length_append, List.length_drop, l1] at hlen
    exact hlen
  obtain ⟨k, e1, e2⟩ := h j hj us l2
  refine BindsTo.of_looks fun M => ?_
  rw [e1]
  exact looks_items X lT oT (.of_pure e2)
/-! ### isinstance's answers from what k_is answers -/
theorem kit_own_ty {K : PySem.W.Frag} {C : Addr} {T : String} {b : Bool} (h : PySem.W.mroIn K C (.type T) = some b) (hm : PySem.W.kitMeta T = true) : PySem.W.kitOne K (.ref C) (.type T) = some b := by
  unfold PySem.W.kitOne
  rw [if_neg (by intro h; exact absurd h (by show ¬ (Value.ref C == Value.type T) = true; simp))]
  show (if PySem.W.kitMeta T = true then PySem.W.subIn K (.ref C) (.type T) else none) = some b
  rw [if_pos hm]
  exact h
theorem kit_to_own {K : PySem.W.Frag} {C : Addr} {t : Value} {b b0 : Bool} (hne : ¬ (t == .ref C) = true) (h0 : PySem.W.mroIn K C (.type "object") = some b0) (ht : PySem.W.typeIn K (.ref C) = some (.type "type")) (h : PySem.W.subIn K t (.ref C) = some b) : PySem.W.kitOne K t (.ref C) = some b := by
  unfold PySem.W.kitOne
  rw [if_neg hne]
  show (if ((PySem.W.clsIn K C).isSome && PySem.W.typeIn K (.ref C) == some (.type "type")) = true then PySem.W.subIn K t (.ref C) else none) = some b
  have h1 : (PySem.W.clsIn K C).isSome = true := by
    unfold PySem.W.mroIn at h0
    cases e : PySem.W.clsIn K C with
    | none => rw [e] at h0; cases h0
    | some _ => rfl
  rw [if_pos (by rw [h1, ht]; simp), h]
theorem kit_ty_own {K : PySem.W.Frag} {C : Addr} {T : String} {b b0 : Bool} (h0 : PySem.W.mroIn K C (.type "object") = some b0) (ht : PySem.W.typeIn K (.ref C) = some (.type "type")) (h : (PySem.fastBuiltinMro T).map (·.contains (.ref C)) = some b) : PySem.W.kitOne K (.type T) (.ref C) = some b :=
  kit_to_own (by simp) h0 ht h
theorem kit_self {K : PySem.W.Frag} {C : Addr} : PySem.W.kitOne K (.ref C) (.ref C) = some true := by
  unfold PySem.W.kitOne
  exact if_pos (beq_self_eq_true _)
end VS

/-! ## Plain -/
set_option maxRecDepth 100000
set_option maxHeartbeats 1000000
namespace VS
open PySem PySem.Spec PyProof.Rows L2

/-! ### answers that the kernel reckons -/
mutual
def D.beq : D → D → Bool
  | .hole, .hole => true
  | .non, .non => true
  | .bl a, .bl b => a == b
  | .int a, .int b => a == b
  | .str a, .str b => a == b
  | .scr a, .scr b => a == b
  | .tup m a, .tup n b => m == n && D.beqs a b
  | .lst m a, .lst n b => m == n && D.beqs a b
  | .ins m c k a, .ins n d l b => m == n && c == d && k == l && D.beqs a b
  | _, _ => false
def D.beqs : List D → List D → Bool
  | [], [] => true
  | a :: x, b :: y => D.beq a b && D.beqs x y
  | _, _ => false
end
mutual
theorem D.eq_of_beq : ∀ (a b : D), D.beq a b = true → a = b
  | .hole, .hole, _ => rfl
  | .non, .non, _ => rfl
  | .bl a, .bl b, h => by simp [D.beq] at h; rw [h]
  | .int a, .int b, h => by simp [D.beq] at h; rw [h]
  | .str a, .str b, h => by simp [D.beq] at h; rw [h]
  | .scr a, .scr b, h => by simp [D.beq] at h; rw [h]
  | .tup m a, .tup n b, h => by simp [D.beq] at h; rw [h.1, D.eq_of_beqs a b h.2]
  | .lst m a, .lst n b, h => by simp [D.beq] at h; rw [h.1, D.eq_of_beqs a b h.2]
  | .ins m c k a, .ins n d l b, h => by simp [D.beq] at h; rw [h.1.1.1, h.1.1.2, h.1.2, D.eq_of_beqs a b h.2]
  | .hole, .non, h => by simp [D.beq] at h
  | .hole, .bl _, h => by simp [D.beq] at h
  | .hole, .int _, h => by simp [D.beq] at h
  | .hole, .str _, h => by simp [D.beq] at h
  | .hole, .scr _, h => by simp [D.beq] at h
  | .hole, .tup _ _, h => by simp [D.beq] at h
  | .hole, .lst _ _, h => by simp [D.beq] at h
  | .hole, .ins _ _ _ _, h => by simp [D.beq] at h
  | .non, .hole, h => by simp [D.beq] at h
  | .non, .bl _, h => by simp [D.beq] at h
  | .non, .int _, h => by simp [D.beq] at h
  | .non, .str _, h => by simp [D.beq] at h
  | .non, .scr _, h => by simp [D.beq] at h
  | .non, .tup _ _, h => by simp [D.beq] at h
  | .non, .lst _ _, h => by simp [D.beq] at h
  | .non, .ins _ _ _ _, h => by simp [D.beq] at h
  | .bl _, .hole, h => by simp [D.beq] at h
  | .bl _, .non, h => by simp [D.beq] at h
  | .bl _, .int _, h => by simp [D.beq] at h
  | .bl _, .str _, h => by simp [D.beq] at h
  | .bl _, .scr _, h => by simp [D.beq] at h
  | .bl _, .tup _ _, h => by simp [D.beq] at h
  | .bl _, .lst _ _, h => by simp [D.beq] at h
  | .bl _, .ins _ _ _ _, h => by simp [D.beq] at h
  | .int _, .hole, h => by simp [D.beq] at h
  | .int _, .non, h => by simp [D.beq] at h
  | .int _, .bl _, h => by simp [D.beq] at h
  | .int _, .str _, h => by simp [D.beq] at h
  | .int _, .scr _, h => by simp [D.beq] at h
  | .int _, .tup _ _, h => by simp [D.beq] at h
  | .int _, .lst _ _, h => by simp [D.beq] at h
  | .int _, .ins _ _ _ _, h => by simp [D.beq] at h
  | .str _, .hole, h => by simp [D.beq] at h
  | .str _, .non, h => by simp [D.beq] at h
  | .str _, .bl _, h => by simp [D.beq] at h
  | .str _, .int _, h => by simp [D.beq] at h
  | .str _, .scr _, h => by simp [D.beq] at h
  | .str _, .tup _ _, h => by simp [D.beq] at h
  | .str _, .lst _ _, h => by simp [D.beq] at h
  | .str _, .ins _ _ _ _, h => by simp [D.beq] at h
  | .scr _, .hole, h => by simp [D.beq] at h
  | .scr _, .non, h => by simp [D.beq] at h
  | .scr _, .bl _, h => by simp [D.beq] at h
  | .scr _, .int _, h => by simp [D.beq] at h
  | .scr _, .str _, h => by simp [D.beq] at h
  | .scr _, .tup _ _, h => by simp [D.beq] at h
  | .scr _, .lst _ _, h => by simp [D.beq] at h
  | .scr _, .ins _ _ _ _, h => by simp [D.beq] at h
  | .tup _ _, .hole, h => by simp [D.beq] at h
  | .tup _ _, .non, h => by simp [D.beq] at h
  | .tup _ _, .bl _, h => by simp [D.beq] at h
  | .tup _ _, .int _, h => by simp [D.beq] at h
  | .tup _ _, .str _, h => by simp [D.beq] at h
  | .tup _ _, .scr _, h => by simp [D.beq] at h
  | .tup _ _, .lst _ _, h => by simp [D.beq] at h
  | .tup _ _, .ins _ _ _ _, h => by simp [D.beq] at h
  | .lst _ _, .hole, h => by simp [D.beq] at h
  | .lst _ _, .non, h => by simp [D.beq] at h
  | .lst _ _, .bl _, h => by simp [D.beq] at h
  | .lst _ _, .int _, h => by simp [D.beq] at h
  | .lst _ _, .str _, h => by simp [D.beq] at h
  | .lst _ _, .scr _, h => by simp [D.beq] at h
  | .lst _ _, .tup _ _, h => by simp [D.beq] at h
  | .lst _ _, .ins _ _ _ _, h => by simp [D.beq] at h
  | .ins _ _ _ _, .hole, h => by simp [D.beq] at h
  | .ins _ _ _ _, .non, h => by simp [D.beq] at h
  | .ins _ _ _ _, .bl _, h => by simp [D.beq] at h
  | .ins _ _ _ _, .int _, h => by simp [D.beq] at h
  | .ins _ _ _ _, .str _, h => by simp [D.beq] at h
  | .ins _ _ _ _, .scr _, h => by simp [D.beq] at h
  | .ins _ _ _ _, .tup _ _, h => by simp [D.beq] at h
  | .ins _ _ _ _, .lst _ _, h => by simp [D.beq] at h
theorem D.eq_of_beqs : ∀ (a b : List D), D.beqs a b = true → a = b
  | [], [], _ => rfl
  | a :: x, b :: y, h => by simp only [D.beqs, Bool.and_eq_true] at h; rw [D.eq_of_beq a b h.1, D.eq_of_beqs x y h.2]
  | [], _ :: _, h => by simp [D.beqs] at h
  | _ :: _, [], h => by simp [D.beqs] at h
end
def Out.beq : Out → Out → Bool
  | .ok d l, .ok e m => d.beq e && D.beqs l m
  | _, _ => false
theorem Out.eq_of_beq {a b : Out} (h : Out.beq a b = true) : a = b := by
  cases a with
  | ok d l => cases b with
    | ok e m =>
      simp only [Out.beq, Bool.and_eq_true] at h
      rw [D.eq_of_beq _ _ h.1, D.eq_of_beqs _ _ h.2]
    | _ => simp [Out.beq] at h
  | _ => simp [Out.beq] at h
/-- a def's answers at all numbers below n -/
theorem sem_all {n : Nat} {f : Nat → Out} {g : Nat → Out} (h : (List.range n).all (fun m => (f m).beq (g m)) = true) {m : Nat} (hm : m < n) : f m = g m :=
  Out.eq_of_beq (List.all_eq_true.mp h m (List.mem_range.mpr hm))

/-! ### comprehensions and loops -/
/-- a comprehension that leaves the slots as they are -/
theorem lcL_ok {g : D → En → Option En} {ts : En → Rs Bool} {el : En → Rs D} {own : List Nat} {p : D → Bool} {f : D → D} : ∀ {xs : List D} {env : En} {acc : List D},
    (∀ x ∈ xs, ∃ e1 e2, g x env = some e1 ∧ ts e1 = .ok (p x) e2 ∧ (p x = false → wipeE e2 own = env) ∧ (p x = true → ∃ e3, el e2 = .ok (f x) e3 ∧ wipeE e3 own = env)) →
    acc.length + xs.length ≤ lim → lcL g ts el own xs env acc = .ok (acc ++ (xs.filter p).map f) env
  | [], env, acc, _, _ => by simp [lcL]
  | x :: xs, env, acc, h, hl => by
    obtain ⟨e1, e2, h1, h2, h3, h4⟩ := h x (by simp)
    simp only [List.length_cons] at hl
    unfold lcL
    simp only [h1, h2]
    cases hp : p x with
    | false =>
      simp only [h3 hp]
      rw [lcL_ok (p := p) (f := f) (fun y hy => h y (by simp [hy])) (by omega)]
      simp [List.filter, hp]
    | true =>
      obtain ⟨e3, h5, h6⟩ := h4 hp
      simp only [h5]
      rw [if_pos (show acc.length < lim by omega)]
      simp only [h6]
      rw [lcL_ok (p := p) (f := f) (fun y hy => h y (by simp [hy])) (by simp only [List.length_append, List.length_cons, List.length_nil]; omega)]
      simp [List.filter, hp]
/-- without a test -/
theorem lcL_map {g : D → En → Option En} {el : En → Rs D} {own : List Nat} {f : D → D} {xs : List D} {env : En} 
    (h : ∀ x ∈ xs, ∃ e1 e3, g x env = some e1 ∧ el e1 = .ok (f x) e3 ∧ wipeE e3 own = env) (hl : xs.length ≤ lim) : lcL g (tsts .nil) el own xs env [] = .ok (xs.map f) env := by
  rw [lcL_ok (p := fun _ => true) (f := f) (fun x hx => ?_) (by simpa using hl)]
  · rw [List.filter_eq_self.mpr (by simp)]; simp
  · obtain ⟨e1, e3, h1, h2, h3⟩ := h x hx
    exact ⟨e1, e1, h1, by simp [tsts], fun h => (by cases h), fun _ => ⟨e3, h2, h3⟩⟩
/-- a comprehension that changes slots: I, of what is done -/
theorem lcL_inv {g : D → En → Option En} {ts : En → Rs Bool} {el : En → Rs D} {own : List Nat} {I : List D → En → List D → Prop} : ∀ {xs pre : List D} {env : En} {acc : List D},
    (∀ x env acc pre, x ∈ xs → I pre env acc → ∃ e1 e2 b, g x env = some e1 ∧ ts e1 = .ok b e2 ∧ (b = false → I (pre ++ [x]) (wipeE e2 own) acc) ∧ (b = true → ∃ d e3, el e2 = .ok d e3 ∧ I (pre ++ [x]) (wipeE e3 own) (acc ++ [d]))) →
    acc.length + xs.length ≤ lim → I pre env acc → ∃ ds e, lcL g ts el own xs env acc = .ok ds e ∧ I (pre ++ xs) e ds
  | [], pre, env, acc, _, _, i => ⟨acc, env, by simp [lcL], by simpa using i⟩
  | x :: xs, pre, env, acc, h, hl, i => by
    obtain ⟨e1, e2, b, h1, h2, h3, h4⟩ := h x env acc pre (by simp) i
    simp only [List.length_cons] at hl
    unfold lcL
    simp only [h1, h2]
    cases b with
    | false =>
      obtain ⟨ds, e, q1, q2⟩ := lcL_inv (I := I) (xs := xs) (fun y env acc pre hy => h y env acc pre (by simp [hy])) (by omega) (h3 rfl)
      exact ⟨ds, e, q1, by simpa using q2⟩
    | true =>
      obtain ⟨d, e3, h5, h6⟩ := h4 rfl
      obtain ⟨ds, e, q1, q2⟩ := lcL_inv (I := I) (xs := xs) (fun y env acc pre hy => h y env acc pre (by simp [hy])) (by simp only [List.length_append, List.length_cons, List.length_nil]; omega) h6
      refine ⟨ds, e, ?_, by simpa using q2⟩
      simp only [h5]
      rw [if_pos (show acc.length < lim by omega)]
      exact q1
/-- a loop that runs to its end -/
theorem frL_inv {g : D → En → Option En} {b : En → Rs Fl} {I : List D → En → Prop} : ∀ {xs pre : List D} {env : En},
    (∀ x env pre, x ∈ xs → I pre env → ∃ e1 e2, g x env = some e1 ∧ b e1 = .ok .nx e2 ∧ I (pre ++ [x]) e2) → I pre env → ∃ e, frL g b xs env = .ok .nx e ∧ I (pre ++ xs) e
  | [], pre, env, _, i => ⟨env, by simp [frL], by simpa using i⟩
  | x :: xs, pre, env, h, i => by
    obtain ⟨e1, e2, h1, h2, h3⟩ := h x env pre (by simp) i
    obtain ⟨e, q1, q2⟩ := frL_inv (I := I) (xs := xs) (fun y env pre hy => h y env pre (by simp [hy])) h3
    refine ⟨e, ?_, by simpa using q2⟩
    unfold frL
    simp only [h1, h2]
    exact q1
/-- a loop as a fold of a state -/
theorem frL_fold {α : Type} {g : D → En → Option En} {b : En → Rs Fl} {st : α → En} {f : α → D → α} : ∀ {xs : List D} {a : α},
    (∀ x a, x ∈ xs → ∃ e1, g x (st a) = some e1 ∧ b e1 = .ok .nx (st (f a x))) → frL g b xs (st a) = .ok .nx (st (xs.foldl f a))
  | [], a, _ => by simp [frL]
  | x :: xs, a, h => by
    obtain ⟨e1, h1, h2⟩ := h x a (by simp)
    unfold frL
    simp only [h1, h2]
    exact frL_fold (fun y a hy => h y a (by simp [hy]))
end VS

/-! ## Stp -/
set_option maxRecDepth 100000
set_option maxHeartbeats 1000000
namespace VS
open PySem PySem.Spec PyProof.Rows L2

/-! ### the steps, as rows for simp -/
abbrev I (n : Nat) : D := .int (n : Int)
abbrev nI (n : Nat) : E := .int (n : Int)
/-- the rest, kept shut for simp: what comes first is reckoned first -/
structure Wt {α β : Type} (k : α → En → Rs β) : Type where
structure Wo {α : Type} (k : D → Rs α) : Type where
def Rs.bd {α β : Type} (r : Rs α) (k : α → En → Rs β) (w : Wt k := ⟨⟩) : Rs β := r.bind k
theorem bind_ok {α β : Type} (a : α) (e : En) (k : α → En → Rs β) (w : Wt k) : (Rs.ok a e).bd k w = k a e := id rfl
theorem opt_some {α : Type} (a : α) (e : En) : Rs.opt (some a) e = .ok a e := id rfl
def rdO : Option D → Nat → En → Rs D
  | none, _, _ => .bad
  | some .hole, _, _ => .bad
  | some d, i, env => if d.own then .ok d.frz (env.set i d.frz) else .ok d env
theorem rdv_eq (i : Nat) (env : En) : rdv i env = rdO env[i]? i env := by
  unfold rdv rdO; cases env[i]? with
  | none => rfl
  | some d => cases d <;> rfl
section
variable {i : Nat} {env : En}
theorem rd_non : rdO (some .non) i env = .ok .non env := id rfl
theorem rd_bl {b : Bool} : rdO (some (.bl b)) i env = .ok (.bl b) env := id rfl
theorem rd_int {b : Int} : rdO (some (.int b)) i env = .ok (.int b) env := id rfl
theorem rd_str {b : Str} : rdO (some (.str b)) i env = .ok (.str b) env := id rfl
theorem rd_scr {b : List Int} : rdO (some (.scr b)) i env = .ok (.scr b) env := id rfl
theorem rd_tup {b : List D} : rdO (some (.tup false b)) i env = .ok (.tup false b) env := id rfl
theorem rd_lst {b : List D} : rdO (some (.lst false b)) i env = .ok (.lst false b) env := id rfl
theorem rd_ins {c : Str} {n : List Str} {b : List D} : rdO (some (.ins false c n b)) i env = .ok (.ins false c n b) env := id rfl
theorem rd_tupT {b : List D} : rdO (some (.tup true b)) i env = .ok (.tup false (D.frzs b)) (env.set i (.tup false (D.frzs b))) := id rfl
theorem rd_lstT {b : List D} : rdO (some (.lst true b)) i env = .ok (.lst false (D.frzs b)) (env.set i (.lst false (D.frzs b))) := id rfl
theorem rd_insT {c : Str} {n : List Str} {b : List D} : rdO (some (.ins true c n b)) i env = .ok (.ins false c n (D.frzs b)) (env.set i (.ins false c n (D.frzs b))) := id rfl
end
def pkO : Option D → Option D
  | some .hole => none
  | o => o
theorem peek_eq (i : Nat) (env : En) : peek i env = pkO env[i]? := by
  unfold peek pkO; cases env[i]? with
  | none => rfl
  | some d => cases d <;> rfl
section
theorem pk_non : pkO (some .non) = some .non := id rfl
theorem pk_bl {b : Bool} : pkO (some (.bl b)) = some (.bl b) := id rfl
theorem pk_int {b : Int} : pkO (some (.int b)) = some (.int b) := id rfl
theorem pk_str {b : Str} : pkO (some (.str b)) = some (.str b) := id rfl
theorem pk_scr {b : List Int} : pkO (some (.scr b)) = some (.scr b) := id rfl
theorem pk_tup {m : Bool} {b : List D} : pkO (some (.tup m b)) = some (.tup m b) := id rfl
theorem pk_lst {m : Bool} {b : List D} : pkO (some (.lst m b)) = some (.lst m b) := id rfl
theorem pk_ins {m : Bool} {c : Str} {n : List Str} {b : List D} : pkO (some (.ins m c n b)) = some (.ins m c n b) := id rfl
end
section
variable {env : En}
/-- a comprehension behind its source -/
def lcR (elt : E) (g : Tg) (ifs : Es) (own : List Nat) (xs : List D) (e1 : En) : Rs D :=
  (lcL (asgT g) (tsts ifs) (ev elt) own xs (wipeE e1 own) []).bd fun ds e2 => .ok (.lst true ds) (restore e2 own (saved e1 own))
def frR (g : Tg) (b : List S) (xs : List D) (e1 : En) : Rs Fl := frL (asgT g) (evSs b) xs e1
def whR (n : Nat) (c : E) (b : List S) (env : En) : Rs Fl := whL (tst c) (evSs b) n env
theorem x_var (i : Nat) : ev (.var i) env = rdO env[i]? i env := rdv_eq i env
theorem x_glo (x : Str) (d : D) : ev (.glo x d) env = .ok d env := id rfl
theorem x_int (i : Int) : ev (.int i) env = .ok (.int i) env := id rfl
theorem x_bl (b : Bool) : ev (.bl b) env = .ok (.bl b) env := id rfl
theorem x_non : ev .non env = .ok .non env := id rfl
theorem x_str (s : Str) : ev (.str s) env = .ok (.str s) env := id rfl
theorem x_bin (o : Operator) (a b : E) : ev (.bin o a b) env = (ev a env).bd fun x e1 => (ev b e1).bd fun y e2 => Rs.opt (binD o x.frz y.frz) e2 := id rfl
def negD : D → Option D
  | .int i => some (.int (-i))
  | _ => none
theorem ng_int (i : Int) : negD (.int i) = some (.int (-i)) := id rfl
theorem x_neg (a : E) : ev (.neg a) env = (ev a env).bd fun x e1 => Rs.opt (negD x) e1 := by
  show (ev a env).bind _ = (ev a env).bind _
  cases ev a env with
  | ok x e => cases x <;> rfl
  | _ => rfl
def notD : D → Option D
  | .bl b => some (.bl (!b))
  | _ => none
theorem nt_bl (b : Bool) : notD (.bl b) = some (.bl (!b)) := id rfl
theorem x_nt (a : E) : ev (.nt a) env = (ev a env).bd fun x e1 => Rs.opt (notD x) e1 := by
  show (ev a env).bind _ = (ev a env).bind _
  cases ev a env with
  | ok x e => cases x <;> rfl
  | _ => rfl
/-- a truth value decides -/
def onB {α : Type} (d : D) (a b : Rs α) : Rs α := match d with
  | .bl true => a
  | .bl false => b
  | _ => .bad
theorem onB_bl {α : Type} (t : Bool) (a b : Rs α) : onB (.bl t) a b = if t = true then a else b := by cases t <;> rfl
theorem x_an (a b : E) : ev (.an a b) env = (ev a env).bd fun x e1 => onB x (ev b e1) (.ok (.bl false) e1) := by
  show (ev a env).bind _ = (ev a env).bind _
  cases ev a env with
  | ok x e => cases x with
    | bl t => cases t <;> rfl
    | _ => rfl
  | _ => rfl
theorem x_or (a b : E) : ev (.or a b) env = (ev a env).bd fun x e1 => onB x (.ok (.bl true) e1) (ev b e1) := by
  show (ev a env).bind _ = (ev a env).bind _
  cases ev a env with
  | ok x e => cases x with
    | bl t => cases t <;> rfl
    | _ => rfl
  | _ => rfl
theorem x_cmp (o : CmpOp) (a b : E) : ev (.cmp o a b) env = (ev a env).bd fun x e1 => (ev b e1).bd fun y e2 => Rs.opt (cmpD o x.frz y.frz) e2 := id rfl
def onO {α : Type} (o : Option D) (a b : Rs α) : Rs α := match o with
  | some d => onB d a b
  | none => .bad
theorem onO_some {α : Type} (d : D) (a b : Rs α) : onO (some d) a b = onB d a b := id rfl
theorem x_chn (o p : CmpOp) (a b c : E) : ev (.chn o p a b c) env = (ev a env).bd fun x e1 => (ev b e1).bd fun y e2 => onO (cmpD o x.frz y.frz)
    ((ev c e2).bd fun z e3 => Rs.opt (cmpD p y.frz z.frz) e3) (.ok (.bl false) e2) := by
  show (ev a env).bind _ = (ev a env).bind _
  cases ev a env with
  | ok x e =>
    show (ev b e).bind _ = (ev b e).bind _
    cases ev b e with
    | ok y e =>
      show (match cmpD o x.frz y.frz with | some (.bl true) => _ | some (.bl false) => _ | _ => _) = onO (cmpD o x.frz y.frz) _ _
      cases cmpD o x.frz y.frz with
      | none => rfl
      | some d => cases d with
        | bl t => cases t <;> rfl
        | _ => rfl
    | _ => rfl
  | _ => rfl
theorem x_ite (c a b : E) : ev (.ite c a b) env = (tst c env).bd fun t e1 => if t then ev a e1 else ev b e1 := id rfl
theorem x_tup (es : Es) : ev (.tup es) env = (evs es env).bd fun ds e1 => if ds.length ≤ lim then .ok (.tup (ds.any D.own) ds) e1 else .bad := id rfl
theorem x_lst (es : Es) : ev (.lst es) env = (evs es env).bd fun ds e1 => if ds.length ≤ lim then .ok (.lst true ds) e1 else .bad := id rfl
theorem x_sub (a i : E) : ev (.sub a i) env = (ev a env).bd fun x e1 => (ev i e1).bd fun k e2 => Rs.opt (subD x.frz k) e2 := id rfl
def mayO {α : Type} (o : Option D) (k : D → Rs α) (w : Wo k := ⟨⟩) : Rs α := match o with
  | some d => k d
  | none => .bad
theorem mayO_some {α : Type} (d : D) (k : D → Rs α) (w : Wo k) : mayO (some d) k w = k d := id rfl
theorem x_subv (x : Nat) (i : E) : ev (.subv x i) env = mayO (pkO env[x]?) fun _ => (ev i env).bd fun k e1 => itemV x k e1 := by
  rw [← peek_eq]; show (match peek x env with | none => _ | some _ => _) = _
  cases peek x env <;> rfl
theorem x_att (a : E) (f : Str) : ev (.att a f) env = (ev a env).bd fun x e1 => fldR f x.frz e1 := id rfl
theorem x_attv (x : Nat) (f : Str) : ev (.attv x f) env = mayO (pkO env[x]?) fun d => fldR f d env := by
  rw [← peek_eq]; simp only [ev]
  cases peek x env <;> rfl
theorem x_call (fn : Fn) (es : As) : ev (.call fn es) env = (eva es env).bd fun ds e1 => callFn fn ds es.lends e1 := id rfl
theorem x_bi (b : Bi) (es : Es) : ev (.bi b es) env = (evs es env).bd fun ds e1 => Rs.opt (biD b (D.frzs ds)) e1 := id rfl
theorem x_biv (b : Bi) (x : Nat) : ev (.biv b x) env = mayO (pkO env[x]?) fun d => Rs.opt (biD b [d]) env := by
  rw [← peek_eq]; simp only [ev]
  cases peek x env <;> rfl
theorem x_lc (elt : E) (g : Tg) (src : Sr) (ifs : Es) (own : List Nat) : ev (.lc elt g src ifs own) env = (evr src env).bd fun xs e1 => lcR elt g ifs own xs e1 := id rfl
theorem x_mk (fn : Fn) (es : As) : ev (.mk fn es) env = (eva es env).bd fun ds e1 => mkFn fn ds es.lends e1 := id rfl
theorem x_met (fn : Fn) (a : E) (es : As) : ev (.met fn a es) env = (ev a env).bd fun x e1 => if metOk fn x.frz then (eva es e1).bd fun ds e2 => callFn fn (x.frz :: ds) (none :: es.lends) e2 else .bad := id rfl
theorem x_isi (tab : KT) (a : E) (cs : List Ct) (o : Bool) : ev (.isi tab a cs o) env = (ev a env).bd fun x e1 => Rs.opt (isD tab x cs) e1 := id rfl
theorem x_gcd (a b : E) : ev (.gcd a b) env = (ev a env).bd fun x e1 => (ev b e1).bd fun y e2 => Rs.opt (gcdD x y) e2 := id rfl
theorem x_bln (a : E) : ev (.bln a) env = (ev a env).bd fun x e1 => Rs.opt (blnD x) e1 := id rfl
theorem xs_nil : evs .nil env = .ok [] env := id rfl
theorem xs_cons (e : E) (es : Es) : evs (.cons e es) env = (ev e env).bd fun d e1 => (evs es e1).bd fun ds e2 => .ok (d :: ds) e2 := id rfl
theorem xa_nil : eva .nil env = .ok [] env := id rfl
theorem xa_cons (e : E) (es : As) : eva (.cons e es) env = (ev e env).bd fun d e1 => (eva es e1).bd fun ds e2 => .ok (d.frz :: ds) e2 := id rfl
theorem xa_lend (i : Nat) (es : As) : eva (.lend i es) env = mayO (pkO env[i]?) fun _ => (eva es env).bd fun ds e2 => mayO (pkO e2[i]?) fun d => .ok (d :: ds) (e2.set i .hole) := by
  simp only [← peek_eq]; simp only [eva]
  cases peek i env with
  | none => rfl
  | some d =>
    show (eva es env).bind _ = (eva es env).bind _
    cases eva es env with
    | ok ds e2 =>
      show (match peek i e2 with | some d => _ | none => _) = mayO (peek i e2) _
      cases peek i e2 <;> rfl
    | _ => rfl
theorem xr_seq (e : E) : evr (.seq e) env = (ev e env).bd fun d e1 => Rs.opt (itemsD d.frz) e1 := id rfl
def rgD : D → Option (List D)
  | .int j => if -(2 ^ 62) ≤ j ∧ j < 2 ^ 62 then some (range 0 j.toNat) else none
  | _ => none
def rg2 : D → D → Option (List D)
  | .int i, .int j => if -(2 ^ 62) ≤ i ∧ i < 2 ^ 62 ∧ -(2 ^ 62) ≤ j ∧ j < 2 ^ 62 then some (range i (j - i).toNat) else none
  | _, _ => none
theorem xr_rng1 (e : E) : evr (.rng1 e) env = (ev e env).bd fun d e1 => Rs.opt (rgD d) e1 := by
  show (ev e env).bind _ = _
  cases ev e env with
  | ok d e1 =>
    cases d with
    | int j => simp only [Rs.bd, Rs.bind, rgD]; split <;> rfl
    | _ => rfl
  | _ => rfl
theorem xr_rng2 (a b : E) : evr (.rng2 a b) env = (ev a env).bd fun c e1 => (ev b e1).bd fun d e2 => Rs.opt (rg2 c d) e2 := by
  show (ev a env).bind _ = (ev a env).bind _
  cases ev a env with
  | ok c e1 =>
    show (ev b e1).bind _ = (ev b e1).bind _
    cases ev b e1 with
    | ok d e2 =>
      cases c with
      | int i => cases d with
        | int j => simp only [Rs.bd, Rs.bind, rg2]; split <;> rfl
        | _ => rfl
      | _ => rfl
    | _ => rfl
  | _ => rfl
theorem rg_I {n : Nat} (hn : n < 2 ^ 62) : rgD (I n) = some ((List.range n).map I) := by
  simp only [rgD]
  rw [if_pos (by constructor <;> omega)]
  simp [range, I]
theorem rg2_I {a n : Nat} (ha : a < 2 ^ 62) (hn : n < 2 ^ 62) : rg2 (I a) (I n) = some ((List.range (n - a)).map fun k => I (a + k)) := by
  simp only [rg2]
  rw [if_pos (by refine ⟨?_, ?_, ?_, ?_⟩ <;> omega), show ((n : Int) - a).toNat = n - a by omega]
  simp [range, I]
theorem xr_enm (e : E) : evr (.enm e) env = (ev e env).bd fun d e1 => Rs.opt ((lstD d.frz).map (enumL 0)) e1 := id rfl
theorem xr_rev (e : E) : evr (.rev e) env = (ev e env).bd fun d e1 => Rs.opt ((lstD d.frz).map List.reverse) e1 := id rfl
theorem xt_an (a b : E) : tst (.an a b) env = (tst a env).bd fun x e1 => if x then tst b e1 else .ok false e1 := id rfl
theorem xt_or (a b : E) : tst (.or a b) env = (tst a env).bd fun x e1 => if x then .ok true e1 else tst b e1 := id rfl
theorem xt_nt (a : E) : tst (.nt a) env = (tst a env).bd fun x e1 => .ok (!x) e1 := id rfl
def blO : Option D → Option Bool
  | some (.bl b) => some b
  | _ => none
theorem blO_bl (b : Bool) : blO (some (.bl b)) = some b := id rfl
theorem xt_cmp (o : CmpOp) (a b : E) : tst (.cmp o a b) env = (ev a env).bd fun x e1 => (ev b e1).bd fun y e2 => Rs.opt (blO (cmpD o x.frz y.frz)) e2 := by
  show (ev a env).bind _ = (ev a env).bind _
  cases ev a env with
  | ok x e =>
    show (ev b e).bind _ = (ev b e).bind _
    cases ev b e with
    | ok y e =>
      show (match cmpD o x.frz y.frz with | some (.bl t) => _ | _ => _) = Rs.opt (blO (cmpD o x.frz y.frz)) e
      cases cmpD o x.frz y.frz with
      | none => rfl
      | some d => cases d <;> rfl
    | _ => rfl
  | _ => rfl
theorem xt_chn (o p : CmpOp) (a b c : E) : tst (.chn o p a b c) env = (ev a env).bd fun x e1 => (ev b e1).bd fun y e2 => onO (cmpD o x.frz y.frz)
    ((ev c e2).bd fun z e3 => Rs.opt (blO (cmpD p y.frz z.frz)) e3) (.ok false e2) := by
  show (ev a env).bind _ = (ev a env).bind _
  cases ev a env with
  | ok x e =>
    show (ev b e).bind _ = (ev b e).bind _
    cases ev b e with
    | ok y e =>
      show (match cmpD o x.frz y.frz with | some (.bl true) => _ | some (.bl false) => _ | _ => _) = onO (cmpD o x.frz y.frz) _ _
      cases cmpD o x.frz y.frz with
      | none => rfl
      | some d => cases d with
        | bl t =>
          cases t with
          | false => rfl
          | true =>
            show (ev c e).bind _ = (ev c e).bind _
            cases ev c e with
            | ok z e =>
              show (match cmpD p y.frz z.frz with | some (.bl t) => _ | _ => _) = Rs.opt (blO (cmpD p y.frz z.frz)) e
              cases cmpD p y.frz z.frz with
              | none => rfl
              | some d => cases d <;> rfl
            | _ => rfl
        | _ => rfl
    | _ => rfl
  | _ => rfl
theorem xt_tv (a : E) : tst (.tv a) env = (ev a env).bd fun x e1 => Rs.opt (truD x) e1 := id rfl
theorem xts_nil : tsts .nil env = .ok true env := id rfl
theorem xts_one (c : E) : tsts (.cons c .nil) env = tst c env := id rfl

theorem y_asg (i : Nat) (e : E) : evS (.asg i e) env = (ev e env).bd fun d e1 => if i < e1.length then .ok .nx (e1.set i d) else .bad := id rfl
theorem y_exp (e : E) : evS (.exp e) env = (ev e env).bd fun _ e1 => .ok .nx e1 := id rfl
theorem y_ret (e : E) : evS (.ret e) env = (ev e env).bd fun d e1 => .ok (.ret d) e1 := id rfl
theorem y_retN : evS .retN env = .ok (.ret .non) env := id rfl
theorem y_ite (c : E) (a b : List S) : evS (.ite c a b) env = (tst c env).bd fun t e1 => if t then evSs a e1 else evSs b e1 := id rfl
theorem y_fr (g : Tg) (src : Sr) (b : List S) : evS (.fr g src b) env = (evr src env).bd fun xs e1 => frR g b xs e1 := id rfl
theorem y_whl (n : Nat) (c : E) (b : List S) : evS (.whl n c b) env = whR n c b env := id rfl
theorem y_brk : evS .brk env = .ok .brk env := id rfl
theorem y_cnt : evS .cnt env = .ok .cnt env := id rfl
theorem y_pas : evS .pas env = .ok .nx env := id rfl
theorem y_par (i j : Nat) (a b : E) : evS (.par i j a b) env = (ev a env).bd fun x e1 => (ev b e1).bd fun y e2 => if i < e2.length ∧ j < e2.length then .ok .nx ((e2.set i x).set j y) else .bad := id rfl
/-- what a statement leaves goes on -/
def nxt (f : Fl) (k : Rs Fl) (e : En) : Rs Fl := match f with
  | .nx => k
  | f => .ok f e
theorem nxt_nx (k : Rs Fl) (e : En) : nxt .nx k e = k := id rfl
theorem nxt_ret (d : D) (k : Rs Fl) (e : En) : nxt (.ret d) k e = .ok (.ret d) e := id rfl
theorem nxt_brk (k : Rs Fl) (e : En) : nxt .brk k e = .ok .brk e := id rfl
theorem nxt_cnt (k : Rs Fl) (e : En) : nxt .cnt k e = .ok .cnt e := id rfl
theorem ys_nil : evSs [] env = .ok .nx env := id rfl
theorem ys_cons (s : S) (ss : List S) : evSs (s :: ss) env = (evS s env).bd fun f e1 => nxt f (evSs ss e1) e1 := by
  show (evS s env).bind _ = _
  cases evS s env with
  | ok f e => cases f <;> rfl
  | _ => rfl
theorem y_unp (g : Tg) (e : E) : evS (.unp g e) env = (ev e env).bd fun d e1 => match asgT g d.frz e1 with
    | some e2 => .ok .nx e2
    | none => .bad := rfl
/-- the list's item takes a value -/
def setL (o : Option D) (k d : D) (x : Nat) (e2 : En) : Rs Fl := match o, k with
  | some (.lst true xs), .int j => match idx xs j with
    | some n => .ok .nx (e2.set x (.lst true (xs.set n d)))
    | none => .bad
  | _, _ => .bad
theorem y_setv (x : Nat) (i e : E) : evS (.setv x i e) env = (ev e env).bd fun d e1 => mayO (pkO e1[x]?) fun _ => (ev i e1).bd fun k e2 => setL (pkO e2[x]?) k d x e2 := by
  show (ev e env).bind _ = (ev e env).bind _
  cases ev e env with
  | ok d e1 =>
    show (match peek x e1 with | none => _ | some _ => _) = mayO (pkO e1[x]?) _
    rw [← peek_eq]
    cases peek x e1 with
    | none => rfl
    | some d1 =>
      show (ev i e1).bind _ = (ev i e1).bind _
      cases ev i e1 with
      | ok k e2 =>
        show _ = setL (pkO e2[x]?) k d x e2
        rw [← peek_eq]; rfl
      | _ => rfl
  | _ => rfl
theorem setL_ok {xs : List D} {n : Nat} {d : D} {x : Nat} {e : En} (h : n < xs.length) : setL (some (.lst true xs)) (I n) d x e = .ok .nx (e.set x (.lst true (xs.set n d))) := by
  unfold setL
  have : idx xs ((n : Nat) : Int) = some n := by unfold idx; rw [if_pos (by omega), if_pos (by omega)]; simp
  simp only [this]
def appL (o : Option D) (d : D) (x : Nat) (e1 : En) : Rs Fl := match o with
  | some (.lst true xs) => if xs.length < lim then .ok .nx (e1.set x (.lst true (xs ++ [d]))) else .bad
  | _ => .bad
theorem appL_ok {xs : List D} {d : D} {x : Nat} {e : En} (h : xs.length < lim) : appL (some (.lst true xs)) d x e = .ok .nx (e.set x (.lst true (xs ++ [d]))) := if_pos h
def apG (o : Option D) (r : Rs Fl) : Rs Fl := match o with
  | some (.lst _ _) => r
  | _ => .bad
theorem y_apG {m : Bool} {xs : List D} {r : Rs Fl} : apG (some (.lst m xs)) r = r := id rfl
theorem y_app (x : Nat) (e : E) : evS (.app x e) env = apG (pkO env[x]?) ((ev e env).bd fun d e1 => appL (pkO e1[x]?) d x e1) := by
  simp only [← peek_eq]; rfl
def stfL (o : Option D) (c f : Str) (d : D) (x : Nat) (e1 : En) : Rs Fl := match o with
  | some (.ins true c' ns xs) => if c == c' && !ns.contains f && decide (ns.length < 1000) then .ok .nx (e1.set x (.ins true c' (ns ++ [f]) (xs ++ [d]))) else .bad
  | _ => .bad
theorem y_stf (x : Nat) (c f : Str) (e : E) : evS (.stf x c f e) env = (ev e env).bd fun d e1 => stfL (pkO e1[x]?) c f d x e1 := by
  show (ev e env).bind _ = (ev e env).bind _
  cases ev e env with
  | ok d e1 =>
    show _ = stfL (pkO e1[x]?) c f d x e1
    rw [← peek_eq]; rfl
  | _ => rfl
theorem stfL_ok {c f : Str} {ns : List Str} {xs : List D} {d : D} {x : Nat} {e : En} (h : (!ns.contains f && decide (ns.length < 1000)) = true) : stfL (some (.ins true c ns xs)) c f d x e = .ok .nx (e.set x (.ins true c (ns ++ [f]) (xs ++ [d]))) := by
  simp only [stfL]; rw [if_pos]; simpa using h
theorem y_tryN (b : List S) {f : Fl} {e : En} (h : evSs b env = .ok f e) : evS (.tryN b) env = .ok f e := by
  show (match evSs b env with | .exc _ _ => _ | r => r) = _
  rw [h]
end

/-! ### a def -/
def runE (io : List Bool) : Rs Fl → Out
  | .bad => .bad
  | .ok .nx env => .ok .non (ioOf io env)
  | .ok (.ret d) env => .ok d (ioOf io env)
  | .ok _ _ => .bad
  | .exc x env => .exc x (ioOf io env)
theorem runF_eq (n : Nat) (io : List Bool) (body : List S) (ds : List D) : runF n io body ds = runE io (evSs body (ds ++ List.replicate (n - ds.length) .hole)) := by
  unfold runF runE
  cases evSs body (ds ++ List.replicate (n - ds.length) .hole) with
  | ok f e => cases f <;> rfl
  | _ => rfl
theorem run_nx (io : List Bool) (env : En) : runE io (.ok .nx env) = .ok .non (ioOf io env) := id rfl
theorem run_ret (io : List Bool) (d : D) (env : En) : runE io (.ok (.ret d) env) = .ok d (ioOf io env) := id rfl
theorem io_t {α : Type} (io : List Bool) (x : α) (xs : List α) : ioOf (true :: io) (x :: xs) = x :: ioOf io xs := id rfl
theorem io_f {α : Type} (io : List Bool) (x : α) (xs : List α) : ioOf (false :: io) (x :: xs) = ioOf io xs := id rfl
theorem io_n {α : Type} (xs : List α) : ioOf [] xs = [] := by cases xs <;> rfl
theorem ln_nil : As.lends .nil = [] := id rfl
theorem ln_cons (e : E) (es : As) : As.lends (.cons e es) = none :: es.lends := id rfl
theorem ln_lend (i : Nat) (es : As) : As.lends (.lend i es) = some i :: es.lends := id rfl
theorem callFn_of {fn : Fn} {ds outs : List D} {l : List (Option Nat)} {env e : En} {d : D} (hd : fn.df = []) (h : fn.sem ds = .ok d outs) (hp : putBack l outs env = some e) : callFn fn ds l env = .ok d e := by
  unfold callFn
  rw [hd]
  simp [h, hp]
theorem call1 {fn : Fn} {a : D} {env : En} {d : D} (h : fn.sem [a] = .ok d []) (hd : fn.df = [] := by rfl) : callFn fn [a] [none] env = .ok d env := callFn_of hd h rfl
theorem call2 {fn : Fn} {a b : D} {env : En} {d : D} (h : fn.sem [a, b] = .ok d []) (hd : fn.df = [] := by rfl) : callFn fn [a, b] [none, none] env = .ok d env := callFn_of hd h rfl
theorem call3 {fn : Fn} {a b c : D} {env : En} {d : D} (h : fn.sem [a, b, c] = .ok d []) (hd : fn.df = [] := by rfl) : callFn fn [a, b, c] [none, none, none] env = .ok d env := callFn_of hd h rfl

/-! ### numbers from 0 on -/
theorem n_add (a b : Nat) : binD .Add (I a) (I b) = some (I (a + b)) := id rfl
theorem n_sub {a b : Nat} (h : b ≤ a) : binD .Sub (I a) (I b) = some (I (a - b)) := by
  show some (D.int ((a : Int) - b)) = some (D.int ((a - b : Nat) : Int))
  rw [Int.natCast_sub h]
theorem n_div {a b : Nat} (h : 0 < b) (h2 : b.log2 < 9000) : binD .FloorDiv (I a) (I b) = some (I (a / b)) := by
  show (if (0 : Int) < (b : Int) ∧ ((b : Int)).natAbs.log2 < 9000 then some (D.int ((a : Int) / b)) else none) = _
  rw [if_pos ⟨by omega, by simpa using h2⟩]; rfl
theorem n_mod {a b : Nat} (h : 0 < b) : binD .Mod (I a) (I b) = some (I (a % b)) := by
  show (if (0 : Int) < (b : Int) then some (D.int ((a : Int) % b)) else none) = _
  rw [if_pos (by omega)]; rfl
theorem n_mul {a b : Nat} (h : b < 2 ^ 63) : binD .Mult (I a) (I b) = some (I (a * b)) := by
  show (if (a : Int).natAbs < 2 ^ 63 ∨ (b : Int).natAbs < 2 ^ 63 ∨ _ then some (D.int ((a : Int) * b)) else none) = _
  rw [if_pos (.inr (.inl (by simpa using h)))]; rfl
theorem n_shl {b : Nat} (h : b ≤ 1000000) : binD .LShift (I 1) (I b) = some (I (2 ^ b)) := by
  show (if (0 : Int) ≤ (b : Int) ∧ (b : Int) ≤ 1000000 ∧ ((1 : Nat) : Int).natAbs < 2 ^ 64 then some (D.int (((1 : Nat) : Int) * 2 ^ (b : Int).toNat)) else none) = _
  rw [if_pos ⟨by omega, by omega, by decide⟩]; simp [I]
theorem n_shr (a b : Nat) : binD .RShift (I a) (I b) = some (I (a >>> b)) := by
  show (if (0 : Int) ≤ (b : Int) then some (D.int ((a : Int) / 2 ^ (b : Int).toNat)) else none) = _
  rw [if_pos (by omega), Nat.shiftRight_eq_div_pow]; simp [I]
theorem n_and (a b : Nat) : binD .BitAnd (I a) (I b) = some (I (a &&& b)) := by
  show some (D.int (Builtin.bitAnd a b)) = _
  simp [Builtin.bitAnd, I]
theorem n_eq (a b : Nat) : cmpD .Eq (I a) (I b) = some (.bl (decide (a = b))) := by
  show some (D.bl ((a : Int) == b)) = _
  congr 2
  by_cases h : a = b
  · subst h; simp
  · rw [decide_eq_false h]; exact beq_eq_false_iff_ne.mpr (by omega)
theorem n_ne (a b : Nat) : cmpD .NotEq (I a) (I b) = some (.bl (!decide (a = b))) := by
  show some (D.bl (!((a : Int) == b))) = _
  congr 3
  by_cases h : a = b
  · subst h; simp
  · rw [decide_eq_false h]; exact beq_eq_false_iff_ne.mpr (by omega)
theorem n_lt (a b : Nat) : cmpD .Lt (I a) (I b) = some (.bl (decide (a < b))) := by
  show some (D.bl (decide ((a : Int) < b))) = _
  congr 2; simp
theorem n_le (a b : Nat) : cmpD .LtE (I a) (I b) = some (.bl (decide (a ≤ b))) := by
  show some (D.bl (decide ((a : Int) ≤ b))) = _
  congr 2; simp
theorem n_gt (a b : Nat) : cmpD .Gt (I a) (I b) = some (.bl (decide (b < a))) := by
  show some (D.bl (decide ((b : Int) < a))) = _
  congr 2; simp
theorem n_ge (a b : Nat) : cmpD .GtE (I a) (I b) = some (.bl (decide (b ≤ a))) := by
  show some (D.bl (decide ((b : Int) ≤ a))) = _
  congr 2; simp
theorem c_isN_non : cmpD .Is .non .non = some (.bl true) := id rfl
theorem c_isN_tup (m : Bool) (xs : List D) : cmpD .Is (.tup m xs) .non = some (.bl false) := id rfl
theorem t_bl (b : Bool) : truD (.bl b) = some b := id rfl
theorem i_tup (xs : List D) : itemsD (.tup false xs) = some xs := id rfl
theorem i_lst (xs : List D) : itemsD (.lst false xs) = some xs := id rfl
theorem l_lst (xs : List D) : lstD (.lst false xs) = some xs := id rfl
theorem f_non : D.frz .non = .non := id rfl
theorem f_bl (b : Bool) : D.frz (.bl b) = .bl b := id rfl
theorem f_int (b : Int) : D.frz (.int b) = .int b := id rfl
theorem f_str (b : Str) : D.frz (.str b) = .str b := id rfl
theorem f_tup (xs : List D) : D.frz (.tup false xs) = .tup false xs := id rfl
theorem f_lst (xs : List D) : D.frz (.lst false xs) = .lst false xs := id rfl
theorem f_ins (c : Str) (n : List Str) (xs : List D) : D.frz (.ins false c n xs) = .ins false c n xs := id rfl
theorem f_tupT (xs : List D) : D.frz (.tup true xs) = .tup false (D.frzs xs) := id rfl
theorem f_lstT (xs : List D) : D.frz (.lst true xs) = .lst false (D.frzs xs) := id rfl
theorem f_insT (c : Str) (n : List Str) (xs : List D) : D.frz (.ins true c n xs) = .ins false c n (D.frzs xs) := id rfl
theorem fs_nil : D.frzs [] = [] := id rfl
theorem fs_cons (d : D) (ds : List D) : D.frzs (d :: ds) = d.frz :: D.frzs ds := id rfl
theorem frzs_own {ds : List D} (h : ∀ d ∈ ds, d.own = false) : D.frzs ds = ds := by
  rw [D.frzs_eq]
  exact (List.map_congr_left fun d hd => D.frz_of (h d hd)).trans (List.map_id ds)
theorem fs_I (l : List Nat) : D.frzs (l.map I) = l.map I := frzs_own fun d hd => by obtain ⟨x, _, rfl⟩ := List.mem_map.mp hd; rfl
theorem fs_bl (l : List Bool) : D.frzs (l.map D.bl) = l.map D.bl := frzs_own fun d hd => by obtain ⟨x, _, rfl⟩ := List.mem_map.mp hd; rfl
theorem fs_map {α : Type} {f : α → D} (hf : ∀ a, (f a).own = false) (l : List α) : D.frzs (l.map f) = l.map f := frzs_own fun d hd => by obtain ⟨x, _, rfl⟩ := List.mem_map.mp hd; exact hf x
theorem range0 (n : Nat) : range 0 n = (List.range n).map I := by unfold range; simp [I]
theorem intsOf_I : ∀ l : List Nat, intsOf (l.map I) = some (l.map fun (n : Nat) => (n : Int))
  | [] => rfl
  | a :: l => by simp [intsOf, I]; exact intsOf_I l
theorem blsOf_bl : ∀ l : List Bool, blsOf (l.map D.bl) = some l
  | [] => rfl
  | a :: l => by simp [blsOf]; exact blsOf_bl l
theorem sum_cast : ∀ l : List Nat, (l.map fun (n : Nat) => (n : Int)).sum = (l.sum : Nat)
  | [] => rfl
  | a :: l => by simp [sum_cast l]
theorem n_sum {m : Bool} (l : List Nat) : biD .sum [.lst m (l.map I)] = some (I l.sum) := by
  show (intsOf (l.map I)).map _ = _
  rw [intsOf_I]
  simp [sum_cast, I]
theorem n_all {m : Bool} (l : List Bool) : biD .all [.lst m (l.map D.bl)] = some (.bl (l.all id)) := by
  show (blsOf (l.map D.bl)).map _ = _
  rw [blsOf_bl]; rfl
theorem n_any {m : Bool} (l : List Bool) : biD .any [.lst m (l.map D.bl)] = some (.bl (l.any id)) := by
  show (blsOf (l.map D.bl)).map _ = _
  rw [blsOf_bl]; rfl
theorem n_listS (ns : List Int) : biD .list [.scr ns] = some (.lst true (ns.map .int)) := id rfl
theorem n_lenL {m : Bool} (xs : List D) : biD .len [.lst m xs] = some (I xs.length) := id rfl
theorem n_lenT {m : Bool} (xs : List D) : biD .len [.tup m xs] = some (I xs.length) := id rfl
theorem n_intI (i : Int) : biD .int [.int i] = some (.int i) := id rfl
theorem n_tupleT (xs : List D) : biD .tuple [.tup false xs] = some (.tup false xs) := id rfl
theorem n_tuple {m : Bool} {xs : List D} (h : nowns xs = true) : biD .tuple [.lst m xs] = some (.tup false xs) := if_pos h
theorem n_list {m : Bool} {xs : List D} (h : nowns xs = true) : biD .list [.lst m xs] = some (.lst true xs) := if_pos h
theorem n_listT (xs : List D) : biD .list [.tup false xs] = some (.lst true xs) := id rfl
theorem nowns_of {xs : List D} (h : ∀ d ∈ xs, d.own = false) : nowns xs = true := by
  unfold nowns; rw [List.all_eq_true]; intro d hd; rw [h d hd]; rfl
theorem nowns_I (l : List Nat) : nowns (l.map I) = true := nowns_of fun d hd => by obtain ⟨x, _, rfl⟩ := List.mem_map.mp hd; rfl
theorem idx_N {α : Type} {xs : List α} {n : Nat} (h : n < xs.length) : idx xs ((n : Nat) : Int) = some n := by
  unfold idx; rw [if_pos (by omega), if_pos (by omega)]; simp
/-- x[n] of a list -/
theorem item_l {x : Nat} {env : En} {m : Bool} {xs : List D} {n : Nat} {d : D} (h : pkO env[x]? = some (.lst m xs)) (hn : xs[n]? = some d) (hd : d.own = false) : itemV x (I n) env = .ok d env := by
  unfold itemV
  rw [peek_eq, h]
  simp only [idx_N (List.getElem?_eq_some_iff.mp hn).1, hn, hd]
  rfl
theorem item_t {x : Nat} {env : En} {m : Bool} {xs : List D} {n : Nat} {d : D} (h : pkO env[x]? = some (.tup m xs)) (hn : xs[n]? = some d) (hd : d.own = false) : itemV x (I n) env = .ok d env := by
  unfold itemV
  rw [peek_eq, h]
  simp only [idx_N (List.getElem?_eq_some_iff.mp hn).1, hn, hd]
  rfl
theorem sub_t {xs : List D} {n : Nat} {d : D} (hn : xs[n]? = some d) : subD (.tup false xs) (I n) = some d := by
  show (idx xs ((n : Nat) : Int)).bind _ = _
  rw [idx_N (List.getElem?_eq_some_iff.mp hn).1]; exact hn
theorem sub_l {xs : List D} {n : Nat} {d : D} (hn : xs[n]? = some d) : subD (.lst false xs) (I n) = some d := by
  show (idx xs ((n : Nat) : Int)).bind _ = _
  rw [idx_N (List.getElem?_eq_some_iff.mp hn).1]; exact hn
section
variable {α : Type} {m : Bool}
theorem fs_blf (g : α → Bool) (l : List α) : D.frzs (l.map fun k => D.bl (g k)) = l.map fun k => D.bl (g k) := fs_map (fun _ => rfl) l
theorem fs_If (g : α → Nat) (l : List α) : D.frzs (l.map fun k => I (g k)) = l.map fun k => I (g k) := fs_map (fun _ => rfl) l
theorem fs_tupf (g : α → List D) (l : List α) : D.frzs (l.map fun k => D.tup false (g k)) = l.map fun k => D.tup false (g k) := fs_map (fun _ => rfl) l
theorem fs_lstf (g : α → List D) (l : List α) : D.frzs (l.map fun k => D.lst false (g k)) = l.map fun k => D.lst false (g k) := fs_map (fun _ => rfl) l
theorem fs_lstT (g : α → List D) (l : List α) : D.frzs (l.map fun k => D.lst true (g k)) = l.map fun k => D.lst false (D.frzs (g k)) := by rw [D.frzs_eq, List.map_map]; rfl
theorem fs_app (xs ys : List D) : D.frzs (xs ++ ys) = D.frzs xs ++ D.frzs ys := by simp [D.frzs_eq]
theorem fs_rev (xs : List D) : D.frzs xs.reverse = (D.frzs xs).reverse := by simp [D.frzs_eq]
theorem n_allf (g : α → Bool) (l : List α) : biD .all [.lst m (l.map fun k => D.bl (g k))] = some (.bl (l.all g)) := by
  have := n_all (m := m) (l.map g)
  rw [List.map_map] at this
  rw [show (l.map fun k => D.bl (g k)) = l.map (D.bl ∘ g) from rfl, this, List.all_map]; rfl
theorem n_anyf (g : α → Bool) (l : List α) : biD .any [.lst m (l.map fun k => D.bl (g k))] = some (.bl (l.any g)) := by
  have := n_any (m := m) (l.map g)
  rw [List.map_map] at this
  rw [show (l.map fun k => D.bl (g k)) = l.map (D.bl ∘ g) from rfl, this, List.any_map]; rfl
theorem n_sumf (g : α → Nat) (l : List α) : biD .sum [.lst m (l.map fun k => I (g k))] = some (I (l.map g).sum) := by
  have := n_sum (m := m) (l.map g)
  rw [List.map_map] at this
  exact this
theorem nw_I (l : List Nat) : nowns (l.map I) = true := nowns_I l
theorem nw_If (g : α → Nat) (l : List α) : nowns (l.map fun k => I (g k)) = true := nowns_of fun d hd => by obtain ⟨x, _, rfl⟩ := List.mem_map.mp hd; rfl
theorem nw_bl (g : α → Bool) (l : List α) : nowns (l.map fun k => D.bl (g k)) = true := nowns_of fun d hd => by obtain ⟨x, _, rfl⟩ := List.mem_map.mp hd; rfl
theorem nw_tup (g : α → List D) (l : List α) : nowns (l.map fun k => D.tup false (g k)) = true := nowns_of fun d hd => by obtain ⟨x, _, rfl⟩ := List.mem_map.mp hd; rfl
theorem nw_lst (g : α → List D) (l : List α) : nowns (l.map fun k => D.lst false (g k)) = true := nowns_of fun d hd => by obtain ⟨x, _, rfl⟩ := List.mem_map.mp hd; rfl
end
section
variable {tab : KT}
theorem k_ii (i : Int) : isD tab (.int i) [.ty .int] = some (.bl true) := id rfl
theorem k_ib (i : Int) : isD tab (.int i) [.ty .bool] = some (.bl false) := id rfl
theorem k_is (i : Int) : isD tab (.int i) [.ty .str] = some (.bl false) := id rfl
theorem k_il (i : Int) : isD tab (.int i) [.ty .list] = some (.bl false) := id rfl
theorem k_it (i : Int) : isD tab (.int i) [.ty .tuple] = some (.bl false) := id rfl
theorem k_bb (i : Bool) : isD tab (.bl i) [.ty .bool] = some (.bl true) := id rfl
theorem k_bi (i : Bool) : isD tab (.bl i) [.ty .int] = some (.bl true) := id rfl
theorem k_tt (m : Bool) (i : List D) : isD tab (.tup m i) [.ty .tuple] = some (.bl true) := id rfl
theorem k_tl (m : Bool) (i : List D) : isD tab (.tup m i) [.ty .list] = some (.bl false) := id rfl
theorem k_ll (m : Bool) (i : List D) : isD tab (.lst m i) [.ty .list] = some (.bl true) := id rfl
theorem k_lt (m : Bool) (i : List D) : isD tab (.lst m i) [.ty .tuple] = some (.bl false) := id rfl
theorem k_llt (m : Bool) (i : List D) : isD tab (.lst m i) [.ty .list, .ty .tuple] = some (.bl true) := id rfl
theorem k_tlt (m : Bool) (i : List D) : isD tab (.tup m i) [.ty .list, .ty .tuple] = some (.bl true) := id rfl
end
/-- it gives d, the own names apart the slots are w -/
def Gd (r : Rs D) (d : D) (own : List Nat) (w : En) : Prop := ∃ e, r = .ok d e ∧ wipeE e own = w
theorem gd {d : D} {e w : En} {own : List Nat} (h : wipeE e own = w) : Gd (.ok d e) d own w := ⟨e, rfl, h⟩
def Gt (r : Rs Bool) (b : Bool) (k : En → Prop) : Prop := ∃ e, r = .ok b e ∧ k e
theorem gt {b : Bool} {e : En} {k : En → Prop} (h : k e) : Gt (.ok b e) b k := ⟨e, rfl, h⟩
def Gs (r : Rs Fl) (k : En → Prop) : Prop := ∃ e, r = .ok .nx e ∧ k e
theorem gs {e : En} {k : En → Prop} (h : k e) : Gs (.ok .nx e) k := ⟨e, rfl, h⟩
def Ge (r : Rs D) (k : D → En → Prop) : Prop := ∃ d e, r = .ok d e ∧ k d e
theorem ge {d : D} {e : En} {k : D → En → Prop} (h : k d e) : Ge (.ok d e) k := ⟨d, e, rfl, h⟩
/-- a comprehension over numbers, or anything that stands for α -/
theorem lcR_ok {α : Type} {elt : E} {g : Tg} {ifs : Es} {own : List Nat} {xs : List α} {x : α → D} {p : α → Bool} {f : α → D} {env : En}
    (h : ∀ a ∈ xs, ∃ e1, asgT g (x a) (wipeE env own) = some e1 ∧ Gt (tsts ifs e1) (p a) fun e2 => (p a = false → wipeE e2 own = wipeE env own) ∧ (p a = true → Gd (ev elt e2) (f a) own (wipeE env own)))
    (hl : xs.length ≤ lim) (hr : restore (wipeE env own) own (saved env own) = env) : lcR elt g ifs own (xs.map x) env = .ok (.lst true ((xs.filter p).map f)) env := by
  have key : ∀ (ys : List α) (acc : List D), (∀ a ∈ ys, a ∈ xs) → acc.length + ys.length ≤ lim → lcL (asgT g) (tsts ifs) (ev elt) own (ys.map x) (wipeE env own) acc = .ok (acc ++ (ys.filter p).map f) (wipeE env own) := by
    intro ys
    induction ys with
    | nil => intro acc _ _; simp [lcL]
    | cons a ys ih =>
      intro acc hy hl
      obtain ⟨e1, h1, e2, h2, h3, h4⟩ := h a (hy a (by simp))
      simp only [List.length_cons] at hl
      simp only [List.map_cons]
      unfold lcL
      simp only [h1, h2]
      cases hp : p a with
      | false =>
        simp only [h3 hp]
        rw [ih acc (fun b hb => hy b (by simp [hb])) (by omega)]
        simp [List.filter, hp]
      | true =>
        obtain ⟨e3, h5, h6⟩ := h4 hp
        simp only [h5]
        rw [if_pos (show acc.length < lim by omega)]
        simp only [h6]
        rw [ih _ (fun b hb => hy b (by simp [hb])) (by simp only [List.length_append, List.length_cons, List.length_nil]; omega)]
        simp [List.filter, hp]
  unfold lcR
  rw [key xs [] (fun _ h => h) (by simpa using hl)]
  simp only [Rs.bd, Rs.bind, hr, List.nil_append]
theorem lcR_map {α : Type} {elt : E} {g : Tg} {own : List Nat} {xs : List α} {x : α → D} {f : α → D} {env : En}
    (h : ∀ a ∈ xs, ∃ e1, asgT g (x a) (wipeE env own) = some e1 ∧ Gd (ev elt e1) (f a) own (wipeE env own))
    (hl : xs.length ≤ lim) (hr : restore (wipeE env own) own (saved env own) = env) : lcR elt g .nil own (xs.map x) env = .ok (.lst true (xs.map f)) env := by
  rw [lcR_ok (p := fun _ => true) (f := f) (fun a ha => ?_) hl hr]
  · rw [List.filter_eq_self.mpr (by simp)]
  · obtain ⟨e1, h1, h2⟩ := h a ha
    exact ⟨e1, h1, e1, rfl, fun h => (by cases h), fun _ => h2⟩

/-- a loop that keeps I -/
theorem frR_inv {α : Type} {g : Tg} {b : List S} {P : List α → En → Prop} {x : α → D} {xs : List α} {env : En}
    (h : ∀ a env pre, a ∈ xs → (pre ++ [a]) <+: xs → P pre env → ∃ e1, asgT g (x a) env = some e1 ∧ Gs (evSs b e1) (P (pre ++ [a]))) (i : P [] env) : ∃ e, frR g b (xs.map x) env = .ok .nx e ∧ P xs e := by
  have key : ∀ (ys pre : List α) (env : En), pre ++ ys = xs → P pre env → ∃ e, frL (asgT g) (evSs b) (ys.map x) env = .ok .nx e ∧ P (pre ++ ys) e := by
    intro ys
    induction ys with
    | nil => intro pre env _ i; exact ⟨env, by simp [frL], by simpa using i⟩
    | cons a ys ih =>
      intro pre env hy i
      obtain ⟨e1, h1, e2, h2, h3⟩ := h a env pre (by rw [← hy]; simp) ⟨ys, by simpa using hy⟩ i
      obtain ⟨e, q1, q2⟩ := ih (pre ++ [a]) e2 (by simpa using hy) h3
      refine ⟨e, ?_, by simpa using q2⟩
      simp only [List.map_cons]
      unfold frL
      simp only [h1, h2]
      exact q1
  exact key xs [] env rfl i
/-- a loop over a state: from st b a to st b (f a x) -/
theorem pre_len {α : Type} {pre xs : List α} {a : α} (h : (pre ++ [a]) <+: xs) : pre.length < xs.length := by
  have := h.length_le
  simp only [List.length_append, List.length_cons, List.length_nil] at this
  omega
theorem frR_fold {α β : Type} {g : Tg} {b : List S} {st : β → En → Prop} {f : β → α → β} {x : α → D} {xs : List α} {env : En} {s0 : β}
    (h : ∀ a env s, a ∈ xs → st s env → ∃ e1, asgT g (x a) env = some e1 ∧ Gs (evSs b e1) (st (f s a))) (i : st s0 env) : ∃ e, frR g b (xs.map x) env = .ok .nx e ∧ st (xs.foldl f s0) e := by
  obtain ⟨e, h1, h2⟩ := frR_inv (P := fun pre env => st (pre.foldl f s0) env) (xs := xs) (x := x) (g := g) (b := b) (env := env) (fun a env pre ha _ hp => by
    obtain ⟨e1, h1, e2, h2, h3⟩ := h a env _ ha hp
    exact ⟨e1, h1, e2, h2, by rw [List.foldl_append]; exact h3⟩) i
  exact ⟨e, h1, h2⟩
/-- a comprehension that changes slots -/
theorem lcR_inv {α : Type} {elt : E} {g : Tg} {own : List Nat} {P : List α → En → List D → Prop} {x : α → D} {xs : List α} {env : En}
    (h : ∀ a env acc pre, a ∈ xs → (pre ++ [a]) <+: xs → P pre env acc → ∃ e1, asgT g (x a) env = some e1 ∧ Ge (ev elt e1) fun d e3 => P (pre ++ [a]) (wipeE e3 own) (acc ++ [d])) (hl : xs.length ≤ lim) (i : P [] (wipeE env own) []) :
    ∃ ds e, lcR elt g .nil own (xs.map x) env = .ok (.lst true ds) (restore e own (saved env own)) ∧ P xs e ds := by
  have key : ∀ (ys pre : List α) (env : En) (acc : List D), pre ++ ys = xs → acc.length + ys.length ≤ lim → P pre env acc → ∃ ds e, lcL (asgT g) (tsts .nil) (ev elt) own (ys.map x) env acc = .ok ds e ∧ P (pre ++ ys) e ds := by
    intro ys
    induction ys with
    | nil => intro pre env acc _ _ i; exact ⟨acc, env, by simp [lcL], by simpa using i⟩
    | cons a ys ih =>
      intro pre env acc hy hl i
      obtain ⟨e1, h1, d, e3, h2, h3⟩ := h a env acc pre (by rw [← hy]; simp) ⟨ys, by simpa using hy⟩ i
      simp only [List.length_cons] at hl
      obtain ⟨ds, e, q1, q2⟩ := ih (pre ++ [a]) _ _ (by simpa using hy) (by simp only [List.length_append, List.length_cons, List.length_nil]; omega) h3
      refine ⟨ds, e, ?_, by simpa using q2⟩
      simp only [List.map_cons]
      unfold lcL
      simp only [h1, xts_nil, h2]
      rw [if_pos (show acc.length < lim by omega)]
      exact q1
  obtain ⟨ds, e, q1, q2⟩ := key xs [] _ [] rfl (by simpa using hl) i
  refine ⟨ds, e, ?_, q2⟩
  unfold lcR
  rw [q1]; rfl

/-- x[k] of what a slot holds -/
def itE (m : Bool) (o : Option D) (xs : List D) (n x : Nat) (env : En) : Rs D := match o with
  | some d => if d.own then (match m with | true => .ok d.frz (env.set x (.lst true (xs.set n d.frz))) | false => .bad) else .ok d env
  | none => .bad
def itF (o : Option D) (env : En) : Rs D := match o with
  | some d => if d.own then .bad else .ok d env
  | none => .bad
def itD (o : Option D) (x : Nat) (k : D) (env : En) : Rs D := match o with
  | some (.lst m xs) => match k with
    | .int i => match idx xs i with
      | some j => itE m xs[j]? xs j x env
      | none => .bad
    | _ => .bad
  | some (.tup m xs) => match k with
    | .int i => match idx xs i with
      | some j => itF xs[j]? env
      | none => .bad
    | _ => .bad
  | some (.str x) => Rs.opt (subD (.str x) k) env
  | _ => .bad
theorem it_eq (x : Nat) (k : D) (env : En) : itemV x k env = itD (pkO env[x]?) x k env := by
  unfold itemV itD
  rw [peek_eq]
  cases pkO env[x]? with
  | none => rfl
  | some d =>
    cases d with
    | lst m xs =>
      cases k with
      | int i =>
        simp only
        cases idx xs i with
        | none => rfl
        | some j => first | rfl | (simp only [itE]; done) | (simp only [itE]; cases xs[j]? <;> rfl)
      | _ => rfl
    | tup m xs =>
      cases k with
      | int i =>
        simp only
        cases idx xs i with
        | none => rfl
        | some j => first | rfl | (simp only [itF]; done) | (simp only [itF]; cases xs[j]? <;> rfl)
      | _ => rfl
    | _ => rfl
section
variable {m : Bool} {xs : List D} {n x : Nat} {env : En}
theorem it_l : itD (some (.lst m xs)) x (I n) env = itE m xs[n]? xs n x env := by
  by_cases h : n < xs.length
  · simp only [itD, idx_N h]
  · have : idx xs ((n : Nat) : Int) = none := by unfold idx; rw [if_pos (by omega), if_neg (by omega)]
    simp only [itD, this, List.getElem?_eq_none (Nat.le_of_not_lt h), itE]
theorem it_t : itD (some (.tup m xs)) x (I n) env = itF xs[n]? env := by
  by_cases h : n < xs.length
  · simp only [itD, idx_N h]
  · have : idx xs ((n : Nat) : Int) = none := by unfold idx; rw [if_pos (by omega), if_neg (by omega)]
    simp only [itD, this, List.getElem?_eq_none (Nat.le_of_not_lt h), itF]
theorem it_bl {b : Bool} : itE m (some (.bl b)) xs n x env = .ok (.bl b) env := id rfl
theorem it_int {b : Int} : itE m (some (.int b)) xs n x env = .ok (.int b) env := id rfl
theorem it_non : itE m (some .non) xs n x env = .ok .non env := id rfl
theorem it_str {b : Str} : itE m (some (.str b)) xs n x env = .ok (.str b) env := id rfl
theorem it_tup {b : List D} : itE m (some (.tup false b)) xs n x env = .ok (.tup false b) env := id rfl
theorem it_lst {b : List D} : itE m (some (.lst false b)) xs n x env = .ok (.lst false b) env := id rfl
theorem it_ins {c : Str} {k : List Str} {b : List D} : itE m (some (.ins false c k b)) xs n x env = .ok (.ins false c k b) env := id rfl
theorem it_lstT {b : List D} : itE true (some (.lst true b)) xs n x env = .ok (.lst false (D.frzs b)) (env.set x (.lst true (xs.set n (.lst false (D.frzs b))))) := id rfl
theorem iu_bl {b : Bool} : itF (some (.bl b)) env = .ok (.bl b) env := id rfl
theorem iu_int {b : Int} : itF (some (.int b)) env = .ok (.int b) env := id rfl
theorem iu_non : itF (some .non) env = .ok .non env := id rfl
theorem iu_str {b : Str} : itF (some (.str b)) env = .ok (.str b) env := id rfl
theorem iu_tup {b : List D} : itF (some (.tup false b)) env = .ok (.tup false b) env := id rfl
theorem iu_lst {b : List D} : itF (some (.lst false b)) env = .ok (.lst false b) env := id rfl
theorem iu_ins {c : Str} {k : List Str} {b : List D} : itF (some (.ins false c k b)) env = .ok (.ins false c k b) env := id rfl
theorem sb_t : subD (.tup false xs) (I n) = xs[n]? := by
  show (idx xs ((n : Nat) : Int)).bind _ = _
  by_cases h : n < xs.length
  · rw [idx_N h]; rfl
  · have : idx xs ((n : Nat) : Int) = none := by unfold idx; rw [if_pos (by omega), if_neg (by omega)]
    rw [this, List.getElem?_eq_none (Nat.le_of_not_lt h)]; rfl
theorem sb_l : subD (.lst false xs) (I n) = xs[n]? := by
  show (idx xs ((n : Nat) : Int)).bind _ = _
  by_cases h : n < xs.length
  · rw [idx_N h]; rfl
  · have : idx xs ((n : Nat) : Int) = none := by unfold idx; rw [if_pos (by omega), if_neg (by omega)]
    rw [this, List.getElem?_eq_none (Nat.le_of_not_lt h)]; rfl
end
theorem enumL_eq {α : Type} (f : α → D) : ∀ (i : Nat) (l : List α), enumL i (l.map f) = (l.zipIdx i).map fun p => D.tup false [I p.2, f p.1]
  | _, [] => rfl
  | i, a :: l => by simp only [List.map_cons, enumL, List.zipIdx_cons, enumL_eq f (i + 1) l]
theorem flat_rep (d : D) : ∀ n : Nat, (List.replicate n [d]).flatten = List.replicate n d
  | 0 => rfl
  | n + 1 => by rw [List.replicate_succ, List.flatten_cons, flat_rep d n]; rfl
theorem n_rep {d : D} {n : Nat} (h : n ≤ 1000) : binD .Mult (.lst false [d]) (I n) = some (.lst true (List.replicate n d)) := by
  have hc : -(2 ^ 63) ≤ (n : Int) ∧ (n : Int) < 2 ^ 63 ∧ [d].length * (n : Int).toNat ≤ lim := ⟨by omega, by omega, by simp only [List.length_cons, List.length_nil, lim, Int.toNat_natCast]; omega⟩
  have e : binD .Mult (.lst false [d]) (I n) = if -(2 ^ 63) ≤ (n : Int) ∧ (n : Int) < 2 ^ 63 ∧ [d].length * (n : Int).toNat ≤ lim then some (D.lst true ((List.replicate (n : Int).toNat [d]).flatten)) else none := by simp only [binD]
  rw [e, if_pos hc, Int.toNat_natCast, flat_rep]
/-- the greatest -/
def mx (l : List Nat) : Nat := l.foldl max 0
theorem n_maxf {α : Type} {m : Bool} (g : α → Nat) {l : List α} (h : l ≠ []) : biD .max1 [.lst m (l.map fun a => I (g a))] = some (I (mx (l.map g))) := by
  have e : (l.map fun a => I (g a)) = (l.map g).map I := by simp
  rw [e]
  show ((intsOf ((l.map g).map I)).bind fun l => (maxL l).map D.int) = _
  rw [intsOf_I]
  have key : ∀ (xs : List Nat) (a : Nat), (xs.map fun (n : Nat) => (n : Int)).foldl (fun a b => if b > a then b else a) (a : Int) = ((xs.foldl max a : Nat) : Int) := by
    intro xs
    induction xs with
    | nil => intro a; rfl
    | cons x xs ih =>
      intro a
      simp only [List.map_cons, List.foldl_cons]
      rw [show (if (x : Int) > (a : Int) then (x : Int) else (a : Int)) = ((max a x : Nat) : Int) by
        by_cases hx : x > a
        · rw [if_pos (by omega)]; omega
        · rw [if_neg (by omega)]; omega]
      exact ih _
  cases l with
  | nil => exact absurd rfl h
  | cons a l =>
    simp only [List.map_cons, Option.bind_some, maxL, Option.map_some, mx, List.foldl_cons, Nat.zero_max]
    rw [key]
theorem seq_I (a b : Nat) : seq (I a) (I b) = decide (a = b) := by
  show ((a : Int) == b) = _
  by_cases h : a = b
  · subst h; simp
  · rw [decide_eq_false h]; exact beq_eq_false_iff_ne.mpr (by omega)
theorem n_inT (a : Nat) (l : List Nat) (m : Bool) : cmpD .In (I a) (.tup m (l.map I)) = some (.bl (decide (a ∈ l))) := by
  show (if isScal (I a) && (l.map I).all isScal then some (D.bl ((l.map I).any fun x => seq x (I a))) else none) = _
  rw [if_pos (by simp [isScal])]
  congr 2
  induction l with
  | nil => rfl
  | cons b l ih =>
    rw [List.map_cons, List.any_cons, ih, seq_I]
    by_cases h : a = b
    · subst h; simp
    · have h' : ¬ b = a := fun e => h e.symm
      simp [h, h']
/-- a loop that is done goes on -/
theorem run_for {α : Type} {io : List Bool} {g : Tg} {b : List S} {P : List α → En → Prop} {x : α → D} {xs : List α} {env : En} {k : Fl → En → Rs Fl} {out : Out}
    (h : ∀ a env pre, a ∈ xs → (pre ++ [a]) <+: xs → P pre env → ∃ e1, asgT g (x a) env = some e1 ∧ Gs (evSs b e1) (P (pre ++ [a]))) (i : P [] env) (hk : ∀ e, P xs e → runE io (k .nx e) = out) : runE io ((frR g b (xs.map x) env).bd k) = out := by
  obtain ⟨e, h1, h2⟩ := frR_inv (P := P) h i
  rw [h1]; exact hk e h2
theorem run_fold {α β : Type} {io : List Bool} {g : Tg} {b : List S} {st : β → En → Prop} {f : β → α → β} {x : α → D} {xs : List α} {env : En} {k : Fl → En → Rs Fl} {out : Out} {s0 : β}
    (h : ∀ a env s, a ∈ xs → st s env → ∃ e1, asgT g (x a) env = some e1 ∧ Gs (evSs b e1) (st (f s a))) (i : st s0 env) (hk : ∀ e, st (xs.foldl f s0) e → runE io (k .nx e) = out) : runE io ((frR g b (xs.map x) env).bd k) = out := by
  obtain ⟨e, h1, h2⟩ := frR_fold (st := st) (f := f) h i
  rw [h1]; exact hk e h2
theorem gs_for {α : Type} {g : Tg} {b : List S} {P : List α → En → Prop} {x : α → D} {xs : List α} {env : En} {k : Fl → En → Rs Fl} {K : En → Prop}
    (h : ∀ a env pre, a ∈ xs → (pre ++ [a]) <+: xs → P pre env → ∃ e1, asgT g (x a) env = some e1 ∧ Gs (evSs b e1) (P (pre ++ [a]))) (i : P [] env) (hk : ∀ e, P xs e → Gs (k .nx e) K) : Gs ((frR g b (xs.map x) env).bd k) K := by
  obtain ⟨e, h1, h2⟩ := frR_inv (P := P) h i
  rw [h1]; exact hk e h2
theorem gs_fold {α β : Type} {g : Tg} {b : List S} {st : β → En → Prop} {f : β → α → β} {x : α → D} {xs : List α} {env : En} {k : Fl → En → Rs Fl} {K : En → Prop} {s0 : β}
    (h : ∀ a env s, a ∈ xs → st s env → ∃ e1, asgT g (x a) env = some e1 ∧ Gs (evSs b e1) (st (f s a))) (i : st s0 env) (hk : ∀ e, st (xs.foldl f s0) e → Gs (k .nx e) K) : Gs ((frR g b (xs.map x) env).bd k) K := by
  obtain ⟨e, h1, h2⟩ := frR_fold (st := st) (f := f) h i
  rw [h1]; exact hk e h2

theorem mk_of {fn : Fn} {c : Str} {ds : List D} {x : D} {l : List (Option Nat)} {env : En} (hw : fn.wh = .init c) (h : fn.sem (.ins true c [] [] :: ds ++ fn.df.drop (fn.df.length + (ds.length + 1) - fn.ps.length)) = .ok .non [x]) (hp : putBack l [] env = some env) : mkFn fn ds l env = .ok x env := by
  unfold mkFn
  rw [hw]
  simp only [h, hp]
theorem mk1 {fn : Fn} {c : Str} {a x : D} {env : En} (hw : fn.wh = .init c) (h : fn.sem (.ins true c [] [] :: [a] ++ fn.df.drop (fn.df.length + ([a].length + 1) - fn.ps.length)) = .ok .non [x]) : mkFn fn [a] [none] env = .ok x env := mk_of hw h rfl
theorem mk2 {fn : Fn} {c : Str} {a b x : D} {env : En} (hw : fn.wh = .init c) (h : fn.sem (.ins true c [] [] :: [a, b] ++ fn.df.drop (fn.df.length + ([a, b].length + 1) - fn.ps.length)) = .ok .non [x]) : mkFn fn [a, b] [none, none] env = .ok x env := mk_of hw h rfl
theorem map_head {α : Type} {f : α → D} {l : List α} (h : l ≠ []) (a : α) : (l.map f)[0]? = some (f (l.headD a)) := by
  cases l with
  | nil => exact absurd rfl h
  | cons x l => rfl
theorem map_last {α : Type} {f : α → D} {l : List α} (h : l ≠ []) (a : α) : (l.map f)[l.length - 1]? = some (f (l.getLastD a)) := by
  rw [List.getElem?_map, ← List.getLast?_eq_getElem?, List.getLast?_eq_some_getLast h, List.getLastD_eq_getLast?, List.getLast?_eq_some_getLast h]; rfl

/-- x[k].append(v) -/
def apiL (o : Option D) (k : D) (x v : Nat) (e1 : En) : Rs Fl := match o, k with
  | some (.lst true xs), .int j => match idx xs j with
    | some n => match xs[n]? with
      | some (.lst true ys) => if x ≠ v ∧ ys.length < lim then match pkO e1[v]? with
        | some d => .ok .nx ((e1.set v d.frz).set x (.lst true (xs.set n (.lst true (ys ++ [d.frz])))))
        | none => .bad
        else .bad
      | _ => .bad
    | none => .bad
  | _, _ => .bad
theorem y_appi {env : En} (x : Nat) (i : E) (v : Nat) : evS (.appi x i v) env = mayO (pkO env[x]?) fun _ => (ev i env).bd fun k e1 => apiL (pkO e1[x]?) k x v e1 := by
  simp only [← peek_eq, apiL]
  simp only [evS]
  cases peek x env <;> rfl
theorem apiL_ok {xs ys : List D} {n x v : Nat} {d : D} {e : En} (hn : xs[n]? = some (.lst true ys)) (hv : pkO e[v]? = some d) (hxv : x ≠ v) (hl : ys.length < lim) :
    apiL (some (.lst true xs)) (I n) x v e = .ok .nx ((e.set v d.frz).set x (.lst true (xs.set n (.lst true (ys ++ [d.frz]))))) := by
  simp only [apiL, idx_N (List.getElem?_eq_some_iff.mp hn).1, hn, hv]
  rw [if_pos ⟨hxv, hl⟩]
theorem n_addL {xs ys : List D} (h : xs.length + ys.length ≤ 1000) : binD .Add (.lst false xs) (.lst false ys) = some (.lst true (xs ++ ys)) := by
  show (if xs.length + ys.length ≤ lim then some (D.lst true (xs ++ ys)) else none) = _
  rw [if_pos (by simp only [lim]; omega)]
theorem n_or {a b : Nat} : binD .BitOr (I a) (I b) = some (I (a ||| b)) := by
  show some (D.int (Builtin.bitOr a b)) = some (D.int ((a ||| b : Nat) : Int))
  rw [bitOr_nn (by omega) (by omega)]
  simp
theorem map_getD {l : List Nat} : (List.range l.length).map (fun k => l.getD k 0) = l := by
  apply List.ext_getElem?
  intro j
  by_cases h : j < l.length
  · rw [List.getElem?_map, List.getElem?_range h]
    simp [List.getD_eq_getElem?_getD, h]
  · rw [List.getElem?_eq_none (by simp; omega), List.getElem?_eq_none (by omega)]

theorem it_m1 {xs : List D} {x : Nat} {env : En} {d : D} (h : xs.getLast? = some d) (hd : d.own = false) : itD (some (.lst false xs)) x (.int (-((1 : Nat) : Int))) env = .ok d env := by
  have hne : xs ≠ [] := fun e => by subst e; cases h
  have hl : 0 < xs.length := List.length_pos_iff.mpr hne
  have e : idx xs (-((1 : Nat) : Int)) = some (xs.length - 1) := by
    unfold idx
    rw [if_neg (by omega), if_pos (by omega)]
    congr 1; omega
  simp only [itD, e]
  rw [← List.getLast?_eq_getElem?, h]
  simp only [itE, hd]
  rfl
/-! ### whole numbers -/
theorem fs_int (l : List Int) : D.frzs (l.map D.int) = l.map D.int := frzs_own fun d hd => by obtain ⟨x, _, rfl⟩ := List.mem_map.mp hd; rfl
theorem j_add (a b : Int) : binD .Add (.int a) (.int b) = some (.int (a + b)) := id rfl
theorem j_sub (a b : Int) : binD .Sub (.int a) (.int b) = some (.int (a - b)) := id rfl
theorem j_mulR {a b : Int} (h : b.natAbs < 2 ^ 63) : binD .Mult (.int a) (.int b) = some (.int (a * b)) := by
  show (if a.natAbs < 2 ^ 63 ∨ b.natAbs < 2 ^ 63 ∨ _ then some (D.int (a * b)) else none) = _
  rw [if_pos (.inr (.inl h))]
theorem j_mod {a b : Int} (h : 0 < b) : binD .Mod (.int a) (.int b) = some (.int (a % b)) := if_pos h
theorem j_div {a b : Int} (h : 0 < b) (h2 : b.natAbs.log2 < 9000) : binD .FloorDiv (.int a) (.int b) = some (.int (a / b)) := if_pos ⟨h, h2⟩
theorem j_gt (a b : Int) : cmpD .Gt (.int a) (.int b) = some (.bl (decide (b < a))) := id rfl
theorem j_lt (a b : Int) : cmpD .Lt (.int a) (.int b) = some (.bl (decide (a < b))) := id rfl
theorem j_ge (a b : Int) : cmpD .GtE (.int a) (.int b) = some (.bl (decide (b ≤ a))) := id rfl
theorem j_le (a b : Int) : cmpD .LtE (.int a) (.int b) = some (.bl (decide (a ≤ b))) := id rfl
theorem j_eq (a b : Int) : cmpD .Eq (.int a) (.int b) = some (.bl (a == b)) := id rfl
theorem callL1 {fn : Fn} {d d' r : D} {i : Nat} {env : En} (h : fn.sem [d] = .ok r [d']) (hd : fn.df = [] := by rfl) : callFn fn [d] [some i] env = .ok r (env.set i d') := callFn_of hd h rfl
theorem callL2 {fn : Fn} {d d' r a : D} {i : Nat} {env : En} (h : fn.sem [d, a] = .ok r [d']) (hd : fn.df = [] := by rfl) : callFn fn [d, a] [some i, none] env = .ok r (env.set i d') := callFn_of hd h rfl

theorem run_forQ {α : Type} {Q : Out → Prop} {io : List Bool} {g : Tg} {b : List S} {P : List α → En → Prop} {x : α → D} {xs : List α} {env : En} {k : Fl → En → Rs Fl}
    (h : ∀ a env pre, a ∈ xs → (pre ++ [a]) <+: xs → P pre env → ∃ e1, asgT g (x a) env = some e1 ∧ Gs (evSs b e1) (P (pre ++ [a]))) (i : P [] env) (hk : ∀ e, P xs e → Q (runE io (k .nx e))) : Q (runE io ((frR g b (xs.map x) env).bd k)) := by
  obtain ⟨e, h1, h2⟩ := frR_inv (P := P) h i
  rw [h1]; exact hk e h2
theorem pre_range {N a : Nat} {pre : List Nat} (h : (pre ++ [a]) <+: List.range N) : a = pre.length ∧ a < N := by
  obtain ⟨post, e⟩ := h
  have h1 : (List.range N)[pre.length]? = some a := by rw [← e]; simp
  rw [List.getElem?_eq_some_iff] at h1
  obtain ⟨h2, h3⟩ := h1
  simp at h2 h3
  omega
theorem j_xor (a b : Int) : binD .BitXor (.int a) (.int b) = some (.int (Builtin.bitXor a b)) := id rfl
theorem j_ne (a b : Int) : cmpD .NotEq (.int a) (.int b) = some (.bl (!(a == b))) := id rfl
end VS

/-! ## K36p -/
set_option maxRecDepth 100000
set_option maxHeartbeats 0
namespace K36
open PySem PySem.Spec PyProof.Rows L2 VS
def ktab : KT := [((.own ("Family" : Str)), (.ty .bool), false), ((.own ("Family" : Str)), (.ty .int), false), ((.own ("Family" : Str)), (.ty .str), false), ((.own ("Family" : Str)), (.ty .list), false), ((.own ("Family" : Str)), (.ty .tuple), false), ((.own ("Frac" : Str)), (.ty .bool), false), ((.own ("Frac" : Str)), (.ty .int), false), ((.own ("Frac" : Str)), (.ty .str), false), ((.own ("Frac" : Str)), (.ty .list), false), ((.own ("Frac" : Str)), (.ty .tuple), false), ((.ty .bool), (.own ("Frac" : Str)), false), ((.ty .int), (.own ("Frac" : Str)), false), ((.ty .str), (.own ("Frac" : Str)), false), ((.ty .list), (.own ("Frac" : Str)), false), ((.ty .tuple), (.own ("Frac" : Str)), false), (.non, (.own ("Frac" : Str)), false), ((.own ("Family" : Str)), (.own ("Frac" : Str)), false), ((.own ("Frac" : Str)), (.own ("Frac" : Str)), true), (.non, (.ty .bool), false), (.non, (.ty .int), false), (.non, (.ty .str), false), (.non, (.ty .list), false), (.non, (.ty .tuple), false)]
def N__law_draw : List Str := [("feed" : Str), ("many" : Str), ("digit" : Str), ("cells" : Str), ("place" : Str), ("cell" : Str), ("mixed" : Str)]
def b__law_draw : List VS.S := [(.setv 0 (nI 3) (.bin .Add (.subv 0 (nI 3)) (nI 1))), (.ite (.cmp .Gt (.subv 0 (nI 2)) (nI 0)) [(.asg 2 (.bin .Mod (.bi .int (.cons (.subv 0 (nI 2)) .nil)) (.var 1))), (.setv 0 (nI 2) (.bin .FloorDiv (.subv 0 (nI 2)) (.var 1))), (.ret (.var 2))] []), (.asg 3 (.subv 0 (nI 0))), (.asg 4 (.subv 0 (nI 1))), (.setv 0 (nI 1) (.bin .Add (.var 4) (nI 1))), (.asg 5 (nI 0)), (.ite (.cmp .Gt (.biv .len 3) (nI 0)) [(.asg 5 (.bi .int (.cons (.subv 3 (.bin .Mod (.biv .int 4) (.biv .len 3))) .nil)))] []), (.ite (.an (.cmp .GtE (.var 5) (.bin .Pow (nI 10) (nI 18))) (.cmp .Lt (.var 4) (.biv .len 3))) [(.setv 0 (nI 2) (.bin .FloorDiv (.var 5) (.var 1))), (.ret (.bin .Mod (.biv .int 5) (.var 1)))] []), (.asg 6 (.bin .Mod (.bi .int (.cons (.bin .Add (.bin .Add (.bin .Mult (.var 5) (nI 48271)) (.bin .Mult (.subv 0 (nI 3)) (nI 69621))) (.bin .Mult (.var 4) (nI 7))) .nil)) (nI 2147483647))), (.asg 6 (.bin .Mod (.bi .int (.cons (.bin .Add (.bin .Add (.bin .Mult (.var 6) (nI 16807)) (.bin .Mult (.bin .Mult (.subv 0 (nI 3)) (.subv 0 (nI 3))) (nI 331))) (.bin .FloorDiv (.var 5) (nI 1009))) .nil)) (nI 998244353))), (.ret (.bin .Mod (.bi .int (.cons (.bin .FloorDiv (.var 6) (nI 8)) .nil)) (.var 1)))]
def c__law_draw : Fn := { wh := .top, name := ("_law_draw" : Str), ps := [("feed" : Str), ("many" : Str)], io := [true, false], df := [], kws := [], sem := runF N__law_draw.length [true, false] b__law_draw }
def N__law_by_tops : List Str := [("feed" : Str), ("size" : Str), ("inside" : Str), ("mask" : Str), ("turn" : Str), ("top" : Str)]
def b__law_by_tops : List VS.S := [(.asg 2 (.lc (.cmp .Eq (.var 3) (nI 0)) (.nm 3) (.rng1 (.bin .LShift (nI 1) (.var 1))) .nil [3])), (.fr (.nm 4) (.rng1 (.bin .Add (nI 1) (.call c__law_draw (.lend 0 (.cons (nI 3) .nil))))) [(.asg 5 (.call c__law_draw (.lend 0 (.cons (.bin .LShift (nI 1) (.var 1)) .nil)))), (.asg 2 (.lc (.or (.subv 2 (.var 3)) (.cmp .Eq (.bin .BitAnd (.var 3) (.var 5)) (.var 3))) (.nm 3) (.rng1 (.bin .LShift (nI 1) (.var 1))) .nil [3]))]), (.ret (.var 2))]
def c__law_by_tops : Fn := { wh := .top, name := ("_law_by_tops" : Str), ps := [("feed" : Str), ("size" : Str)], io := [true, false], df := [], kws := [], sem := runF N__law_by_tops.length [true, false] b__law_by_tops }
def N__law_odd : List Str := [("feed" : Str), ("size" : Str), ("owners" : Str), ("thing" : Str), ("start" : Str), ("one" : Str), ("k" : Str), ("two" : Str), ("mask" : Str)]
def b__law_odd : List VS.S := [(.asg 2 (.lc (.call c__law_draw (.lend 0 (.cons (nI 4) .nil))) (.nm 3) (.rng1 (.var 1)) .nil [3])), (.asg 4 (.call c__law_draw (.lend 0 (.cons (.var 1) .nil)))), (.setv 2 (.var 4) (nI 0)), (.setv 2 (.bin .Mod (.bi .int (.cons (.bin .Add (.var 4) (nI 1)) .nil)) (.var 1)) (nI 1)), (.setv 2 (.bin .Mod (.bi .int (.cons (.bin .Add (.var 4) (nI 2)) .nil)) (.var 1)) (nI 1)), (.asg 5 (.bi .sum (.cons (.lc (.bin .LShift (nI 1) (.var 6)) (.nm 6) (.rng1 (.var 1)) (.cons (.or (.cmp .Eq (.subv 2 (.var 6)) (nI 0)) (.cmp .Eq (.subv 2 (.var 6)) (nI 2))) .nil) [6]) .nil))), (.asg 7 (.bi .sum (.cons (.lc (.bin .LShift (nI 1) (.var 6)) (.nm 6) (.rng1 (.var 1)) (.cons (.or (.cmp .Eq (.subv 2 (.var 6)) (nI 1)) (.cmp .Eq (.subv 2 (.var 6)) (nI 2))) .nil) [6]) .nil))), (.ret (.lc (.or (.cmp .Eq (.bin .BitAnd (.var 8) (.var 5)) (.var 8)) (.cmp .Eq (.bin .BitAnd (.var 8) (.var 7)) (.var 8))) (.nm 8) (.rng1 (.bin .LShift (nI 1) (.var 1))) .nil [8]))]
def c__law_odd : Fn := { wh := .top, name := ("_law_odd" : Str), ps := [("feed" : Str), ("size" : Str)], io := [true, false], df := [], kws := [], sem := runF N__law_odd.length [true, false] b__law_odd }
def N__law_things : List Str := [("mask" : Str), ("k" : Str)]
def b__law_things : List VS.S := [(.ret (.bi .tuple (.cons (.lc (.var 1) (.nm 1) (.rng1 (nI 6)) (.cons (.cmp .Eq (.bin .BitAnd (.bin .RShift (.var 0) (.var 1)) (nI 1)) (nI 1)) .nil) [1]) .nil)))]
def c__law_things : Fn := { wh := .top, name := ("_law_things" : Str), ps := [("mask" : Str)], io := [false], df := [], kws := [], sem := runF N__law_things.length [false] b__law_things }
def N__law_by_classes : List Str := [("feed" : Str), ("size" : Str), ("owners" : Str), ("thing" : Str), ("limits" : Str), ("k" : Str), ("inside" : Str), ("mask" : Str), ("place" : Str), ("ours" : Str)]
def b__law_by_classes : List VS.S := [(.asg 2 (.lc (.call c__law_draw (.lend 0 (.cons (nI 3) .nil))) (.nm 3) (.rng1 (.var 1)) .nil [3])), (.asg 4 (.lc (.call c__law_draw (.lend 0 (.cons (nI 4) .nil))) (.nm 5) (.rng1 (nI 3)) .nil [5])), (.asg 6 (.lc (.bl true) (.nm 7) (.rng1 (.bin .LShift (nI 1) (.var 1))) .nil [7])), (.fr (.nm 8) (.rng1 (nI 3)) [(.asg 9 (.bi .sum (.cons (.lc (.bin .LShift (nI 1) (.var 5)) (.nm 5) (.rng1 (.var 1)) (.cons (.cmp .Eq (.subv 2 (.var 5)) (.var 8)) .nil) [5]) .nil))), (.fr (.nm 7) (.rng1 (.bin .LShift (nI 1) (.var 1))) [(.ite (.cmp .Gt (.bi .len (.cons (.call c__law_things (.cons (.bin .BitAnd (.var 7) (.var 9)) .nil)) .nil)) (.subv 4 (.var 8))) [(.setv 6 (.var 7) (.bl false))] [])])]), (.ret (.var 6))]
def c__law_by_classes : Fn := { wh := .top, name := ("_law_by_classes" : Str), ps := [("feed" : Str), ("size" : Str)], io := [true, false], df := [], kws := [], sem := runF N__law_by_classes.length [true, false] b__law_by_classes }
def N__law_by_words : List Str := [("feed" : Str), ("size" : Str), ("words" : Str), ("thing" : Str), ("mixed" : Str), ("mask" : Str), ("inside" : Str), ("things" : Str), ("k" : Str)]
def b__law_by_words : List VS.S := [(.asg 2 (.lc (.call c__law_draw (.lend 0 (.cons (nI 8) .nil))) (.nm 3) (.rng1 (.var 1)) .nil [3])), (.asg 4 (.lc (nI 0) (.nm 5) (.rng1 (.bin .LShift (nI 1) (.var 1))) .nil [5])), (.asg 6 (.lc (.bl true) (.nm 5) (.rng1 (.bin .LShift (nI 1) (.var 1))) .nil [5])), (.fr (.nm 5) (.rng2 (nI 1) (.bin .LShift (nI 1) (.var 1))) [(.asg 7 (.lc (.var 8) (.nm 8) (.rng1 (.var 1)) (.cons (.cmp .Eq (.bin .BitAnd (.bin .RShift (.var 5) (.var 8)) (nI 1)) (nI 1)) .nil) [8])), (.setv 4 (.var 5) (.bin .BitXor (.subv 4 (.bin .Sub (.var 5) (.bin .LShift (nI 1) (.subv 7 (nI 0))))) (.subv 2 (.subv 7 (nI 0))))), (.setv 6 (.var 5) (.an (.cmp .NotEq (.subv 4 (.var 5)) (nI 0)) (.bi .all (.cons (.lc (.subv 6 (.bin .Sub (.var 5) (.bin .LShift (nI 1) (.var 8)))) (.nm 8) (.seq (.var 7)) .nil [8]) .nil))))]), (.ret (.var 6))]
def c__law_by_words : Fn := { wh := .top, name := ("_law_by_words" : Str), ps := [("feed" : Str), ("size" : Str)], io := [true, false], df := [], kws := [], sem := runF N__law_by_words.length [true, false] b__law_by_words }
def N__law_order : List Str := [("size" : Str), ("inside" : Str), ("rows" : Str), ("k" : Str), ("back" : Str), ("number" : Str), ("things" : Str), ("mask" : Str), ("ordered" : Str), ("row" : Str)]
def b__law_order : List VS.S := [(.asg 2 (.lc (.lst .nil) (.nm 3) (.rng1 (.bin .Add (.var 0) (nI 1))) .nil [3])), (.fr (.nm 4) (.rng1 (.bin .LShift (nI 1) (.var 0))) [(.asg 5 (.bin .Sub (.bin .Sub (.bin .LShift (nI 1) (.var 0)) (nI 1)) (.var 4))), (.asg 6 (.lc (.var 3) (.nm 3) (.rng1 (.var 0)) (.cons (.cmp .Eq (.bin .BitAnd (.bin .RShift (.var 5) (.bin .Sub (.bin .Sub (.var 0) (nI 1)) (.var 3))) (nI 1)) (nI 1)) .nil) [3])), (.asg 7 (.bi .sum (.cons (.lc (.bin .LShift (nI 1) (.var 3)) (.nm 3) (.seq (.var 6)) .nil [3]) .nil))), (.ite (.tv (.subv 1 (.var 7))) [(.appi 2 (.biv .len 6) 7)] [])]), (.asg 8 (.lst .nil)), (.fr (.nm 9) (.seq (.var 2)) [(.asg 8 (.bin .Add (.var 8) (.var 9)))]), (.ret (.var 8))]
def c__law_order : Fn := { wh := .top, name := ("_law_order" : Str), ps := [("size" : Str), ("inside" : Str)], io := [false, false], df := [], kws := [], sem := runF N__law_order.length [false, false] b__law_order }
def N__law_family : List Str := [("feed" : Str), ("size" : Str), ("kind" : Str), ("inside" : Str), ("mask" : Str)]
def b__law_family : List VS.S := [(.asg 2 (.call c__law_draw (.lend 0 (.cons (nI 16) .nil)))), (.ite (.cmp .Eq (.var 2) (nI 0)) [(.asg 3 (.lc (.cmp .Eq (.var 4) (nI 0)) (.nm 4) (.rng1 (.bin .LShift (nI 1) (.var 1))) .nil [4]))] [(.ite (.or (.cmp .Lt (.var 2) (nI 4)) (.an (.cmp .Lt (.var 2) (nI 12)) (.cmp .Lt (.var 1) (nI 3)))) [(.asg 3 (.call c__law_by_tops (.lend 0 (.cons (.var 1) .nil))))] [(.ite (.cmp .Lt (.var 2) (nI 12)) [(.asg 3 (.call c__law_odd (.lend 0 (.cons (.var 1) .nil))))] [(.ite (.cmp .Lt (.var 2) (nI 14)) [(.asg 3 (.call c__law_by_classes (.lend 0 (.cons (.var 1) .nil))))] [(.asg 3 (.call c__law_by_words (.lend 0 (.cons (.var 1) .nil))))])])])]), (.ret (.lst (.cons (.var 1) (.cons (.var 3) (.cons (.call c__law_order (.cons (.var 1) (.cons (.var 3) .nil))) .nil)))))]
def c__law_family : Fn := { wh := .top, name := ("_law_family" : Str), ps := [("feed" : Str), ("size" : Str)], io := [true, false], df := [], kws := [], sem := runF N__law_family.length [true, false] b__law_family }
def N__law_size : List Str := [("feed" : Str), ("most" : Str), ("size" : Str)]
def b__law_size : List VS.S := [(.asg 2 (.bin .Add (nI 1) (.call c__law_draw (.lend 0 (.cons (.var 1) .nil))))), (.ite (.an (.cmp .Lt (.var 2) (nI 3)) (.an (.cmp .Gt (.var 1) (nI 2)) (.cmp .Eq (.call c__law_draw (.lend 0 (.cons (nI 2) .nil))) (nI 1)))) [(.asg 2 (nI 3))] []), (.ret (.var 2))]
def c__law_size : Fn := { wh := .top, name := ("_law_size" : Str), ps := [("feed" : Str), ("most" : Str)], io := [true, false], df := [], kws := [], sem := runF N__law_size.length [true, false] b__law_size }
def N_is_thing : List Str := [("size" : Str), ("value" : Str)]
def b_is_thing : List VS.S := [(.ret (.an (.isi ktab (.var 1) [(.ty .int)] true) (.an (.nt (.isi ktab (.var 1) [(.ty .bool)] true)) (.chn .LtE .Lt (nI 0) (.var 1) (.var 0)))))]
def c_is_thing : Fn := { wh := .top, name := ("is_thing" : Str), ps := [("size" : Str), ("value" : Str)], io := [false, false], df := [], kws := [], sem := runF N_is_thing.length [false, false] b_is_thing }
def N_check_size : List Str := [("size" : Str)]
def b_check_size : List VS.S := [(.ite (.or (.nt (.tv (.call c_is_thing (.cons (.bin .Add (.glo ("MOST_THINGS" : Str) (I 6)) (nI 1)) (.cons (.var 0) .nil))))) (.cmp .Eq (.var 0) (nI 0))) [.nev] [])]
def c_check_size : Fn := { wh := .top, name := ("check_size" : Str), ps := [("size" : Str)], io := [false], df := [], kws := [], sem := runF N_check_size.length [false] b_check_size }
def N_is_set : List Str := [("size" : Str), ("value" : Str), ("thing" : Str), ("k" : Str)]
def b_is_set : List VS.S := [(.ite (.or (.nt (.tv (.isi ktab (.var 1) [(.ty .list), (.ty .tuple)] false))) (.nt (.tv (.bi .all (.cons (.lc (.call c_is_thing (.cons (.var 0) (.cons (.var 2) .nil))) (.nm 2) (.seq (.var 1)) .nil [2]) .nil))))) [(.ret (.bl false))] []), (.ret (.bi .all (.cons (.lc (.cmp .Lt (.subv 1 (.bin .Sub (.var 3) (nI 1))) (.subv 1 (.var 3))) (.nm 3) (.rng2 (nI 1) (.biv .len 1)) .nil [3]) .nil)))]
def c_is_set : Fn := { wh := .top, name := ("is_set" : Str), ps := [("size" : Str), ("value" : Str)], io := [false, false], df := [], kws := [], sem := runF N_is_set.length [false, false] b_is_set }
def N_checked_sets : List Str := [("size" : Str), ("sets" : Str), ("at" : Str), ("things" : Str)]
def b_checked_sets : List VS.S := [(.fr (.tp [(.nm 2), (.nm 3)]) (.enm (.var 1)) [(.ite (.nt (.tv (.call c_is_set (.cons (.var 0) (.cons (.var 3) .nil))))) [.nev] [])]), (.ret (.lc (.biv .tuple 3) (.nm 3) (.seq (.var 1)) .nil [3]))]
def c_checked_sets : Fn := { wh := .top, name := ("checked_sets" : Str), ps := [("size" : Str), ("sets" : Str)], io := [false, false], df := [], kws := [], sem := runF N_checked_sets.length [false, false] b_checked_sets }
def N_mask_of : List Str := [("things" : Str), ("thing" : Str)]
def b_mask_of : List VS.S := [(.ret (.bi .sum (.cons (.lc (.bin .LShift (nI 1) (.var 1)) (.nm 1) (.seq (.var 0)) .nil [1]) .nil)))]
def c_mask_of : Fn := { wh := .top, name := ("mask_of" : Str), ps := [("things" : Str)], io := [false], df := [], kws := [], sem := runF N_mask_of.length [false] b_mask_of }
def N_things_of : List Str := [("mask" : Str), ("thing" : Str)]
def b_things_of : List VS.S := [(.ret (.bi .tuple (.cons (.lc (.var 1) (.nm 1) (.rng1 (.glo ("MOST_THINGS" : Str) (I 6))) (.cons (.cmp .Eq (.bin .Mod (.bin .FloorDiv (.var 0) (.bin .LShift (nI 1) (.var 1))) (nI 2)) (nI 1)) .nil) [1]) .nil)))]
def c_things_of : Fn := { wh := .top, name := ("things_of" : Str), ps := [("mask" : Str)], io := [false], df := [], kws := [], sem := runF N_things_of.length [false] b_things_of }
def N_all_sets : List Str := [("size" : Str), ("sets" : Str), ("mask" : Str), ("_" : Str), ("things" : Str)]
def b_all_sets : List VS.S := [(.asg 1 (.lc (.call c_things_of (.cons (.var 2) .nil)) (.nm 2) (.rng1 (.bin .LShift (nI 1) (.var 0))) .nil [2])), (.ret (.lc (.var 4) (.tp [(.nm 3), (.nm 4)]) (.seq (.bi .sorted (.cons (.lc (.tup (.cons (.biv .len 4) (.cons (.var 4) .nil))) (.nm 4) (.seq (.var 1)) .nil [4]) .nil))) .nil [3, 4]))]
def c_all_sets : Fn := { wh := .top, name := ("all_sets" : Str), ps := [("size" : Str)], io := [false], df := [], kws := [], sem := runF N_all_sets.length [false] b_all_sets }
def N__is_within : List Str := [("part" : Str), ("mask" : Str), ("thing" : Str)]
def b__is_within : List VS.S := [(.ret (.bi .all (.cons (.lc (.cmp .Eq (.bin .Mod (.bin .FloorDiv (.var 1) (.bin .LShift (nI 1) (.var 2))) (nI 2)) (nI 1)) (.nm 2) (.seq (.call c_things_of (.cons (.var 0) .nil))) .nil [2]) .nil)))]
def c__is_within : Fn := { wh := .top, name := ("_is_within" : Str), ps := [("part" : Str), ("mask" : Str)], io := [false, false], df := [], kws := [], sem := runF N__is_within.length [false, false] b__is_within }
def N_Family___init__ : List Str := [("self" : Str), ("size" : Str), ("sets" : Str), ("told" : Str), ("table" : Str), ("things" : Str), ("mask" : Str), ("other" : Str)]
def b_Family___init__ : List VS.S := [(.exp (.call c_check_size (.cons (.var 1) .nil))), (.asg 3 (.call c_checked_sets (.cons (.var 1) (.cons (.var 2) .nil)))), (.asg 4 (.bin .Mult (.lst (.cons (.bl false) .nil)) (.bin .LShift (nI 1) (.var 1)))), (.fr (.nm 5) (.seq (.var 3)) [(.setv 4 (.call c_mask_of (.cons (.var 5) .nil)) (.bl true))]), (.fr (.nm 5) (.seq (.call c_all_sets (.cons (.var 1) .nil))) [(.asg 6 (.call c_mask_of (.cons (.var 5) .nil))), (.ite (.an (.nt (.tv (.subv 4 (.var 6)))) (.or (.cmp .Eq (.var 6) (nI 0)) (.tv (.bi .any (.cons (.lc (.call c__is_within (.cons (.var 6) (.cons (.call c_mask_of (.cons (.var 7) .nil)) .nil))) (.nm 7) (.seq (.var 3)) .nil [7]) .nil))))) [.nev] [])]), (.stf 0 ("Family" : Str) ("size" : Str) (.var 1)), (.stf 0 ("Family" : Str) ("table" : Str) (.biv .tuple 4)), (.stf 0 ("Family" : Str) ("sets" : Str) (.bi .tuple (.cons (.lc (.var 5) (.nm 5) (.seq (.call c_all_sets (.cons (.var 1) .nil))) (.cons (.tv (.subv 4 (.call c_mask_of (.cons (.var 5) .nil)))) .nil) [5]) .nil)))]
def c_Family___init__ : Fn := { wh := .init ("Family" : Str), name := ("__init__" : Str), ps := [("self" : Str), ("size" : Str), ("sets" : Str)], io := [true, false, false], df := [], kws := [], sem := runF N_Family___init__.length [true, false, false] b_Family___init__ }
def N__law_told : List Str := [("family" : Str), ("form" : Str), ("sets" : Str), ("mask" : Str), ("one" : Str)]
def b__law_told : List VS.S := [(.asg 2 (.lc (.bi .list (.cons (.call c__law_things (.cons (.var 3) .nil)) .nil)) (.nm 3) (.seq (.subv 0 (nI 2))) .nil [3])), (.ite (.cmp .Eq (.var 1) (nI 1)) [(.asg 2 (.bin .Add (.lc (.biv .tuple 4) (.nm 4) (.rev (.var 2)) .nil [4]) (.lst (.cons (.bi .list (.cons (.subv 2 (.neg (nI 1))) .nil)) .nil))))] []), (.ret (.mk c_Family___init__ (.cons (.subv 0 (nI 0)) (.cons (.var 2) .nil))))]
def c__law_told : Fn := { wh := .top, name := ("_law_told" : Str), ps := [("family" : Str), ("form" : Str)], io := [false, false], df := [], kws := [], sem := runF N__law_told.length [false, false] b__law_told }
def N_Family_mask_rank : List Str := [("self" : Str), ("mask" : Str), ("things" : Str)]
def b_Family_mask_rank : List VS.S := [(.ret (.bi .max1 (.cons (.lc (.biv .len 2) (.nm 2) (.seq (.attv 0 ("sets" : Str))) (.cons (.tv (.call c__is_within (.cons (.call c_mask_of (.cons (.var 2) .nil)) (.cons (.var 1) .nil)))) .nil) [2]) .nil)))]
def c_Family_mask_rank : Fn := { wh := .meth ("Family" : Str), name := ("mask_rank" : Str), ps := [("self" : Str), ("mask" : Str)], io := [false, false], df := [], kws := [], sem := runF N_Family_mask_rank.length [false, false] b_Family_mask_rank }
def N_Family_addable : List Str := [("self" : Str), ("taken" : Str), ("mask" : Str), ("found" : Str), ("thing" : Str)]
def b_Family_addable : List VS.S := [(.asg 2 (.call c_mask_of (.cons (.var 1) .nil))), (.asg 3 (.lst .nil)), (.fr (.nm 4) (.rng1 (.attv 0 ("size" : Str))) [(.ite (.an (.cmp .Eq (.bin .Mod (.bin .FloorDiv (.var 2) (.bin .LShift (nI 1) (.var 4))) (nI 2)) (nI 0)) (.tv (.sub (.attv 0 ("table" : Str)) (.bin .Add (.var 2) (.bin .LShift (nI 1) (.var 4)))))) [(.app 3 (.var 4))] [])]), (.ret (.biv .tuple 3))]
def c_Family_addable : Fn := { wh := .meth ("Family" : Str), name := ("addable" : Str), ps := [("self" : Str), ("taken" : Str)], io := [false, false], df := [], kws := [], sem := runF N_Family_addable.length [false, false] b_Family_addable }
def N_is_integer : List Str := [("value" : Str)]
def b_is_integer : List VS.S := [(.ret (.an (.isi ktab (.var 0) [(.ty .int)] true) (.nt (.isi ktab (.var 0) [(.ty .bool)] true))))]
def c_is_integer : Fn := { wh := .top, name := ("is_integer" : Str), ps := [("value" : Str)], io := [false], df := [], kws := [], sem := runF N_is_integer.length [false] b_is_integer }
def N_Frac___init__ : List Str := [("self" : Str), ("num" : Str), ("den" : Str), ("divisor" : Str)]
def b_Frac___init__ : List VS.S := [(.ite (.or (.nt (.tv (.call c_is_integer (.cons (.var 1) .nil)))) (.or (.nt (.tv (.call c_is_integer (.cons (.var 2) .nil)))) (.cmp .Eq (.var 2) (nI 0)))) [.nev] []), (.asg 3 (.gcd (.var 1) (.var 2))), (.ite (.cmp .Lt (.var 2) (nI 0)) [(.asg 3 (.neg (.var 3)))] []), (.stf 0 ("Frac" : Str) ("num" : Str) (.bin .FloorDiv (.var 1) (.var 3))), (.stf 0 ("Frac" : Str) ("den" : Str) (.bin .FloorDiv (.var 2) (.var 3)))]
def c_Frac___init__ : Fn := { wh := .init ("Frac" : Str), name := ("__init__" : Str), ps := [("self" : Str), ("num" : Str), ("den" : Str)], io := [true, false, false], df := [(I 1)], kws := [], sem := runF N_Frac___init__.length [true, false, false] b_Frac___init__ }
def N_quotient : List Str := [("family" : Str), ("best" : Str), ("things" : Str), ("mask" : Str), ("inside" : Str), ("one" : Str), ("thing" : Str), ("full" : Str), ("small" : Str), ("large" : Str)]
def b_quotient : List VS.S := [(.asg 1 .non), (.fr (.nm 2) (.seq (.call c_all_sets (.cons (.attv 0 ("size" : Str)) .nil))) [(.asg 3 (.call c_mask_of (.cons (.var 2) .nil))), (.ite (.cmp .Gt (.met c_Family_mask_rank (.var 0) (.cons (.var 3) .nil)) (nI 0)) [(.asg 4 (.lc (.var 5) (.nm 5) (.seq (.attv 0 ("sets" : Str))) (.cons (.tv (.bi .all (.cons (.lc (.cmp .In (.var 6) (.var 2)) (.nm 6) (.seq (.var 5)) .nil [6]) .nil))) .nil) [5])), (.asg 7 (.lc (.var 5) (.nm 5) (.seq (.var 4)) (.cons (.nt (.tv (.bi .any (.cons (.lc (.cmp .In (.var 6) (.var 2)) (.nm 6) (.seq (.met c_Family_addable (.var 0) (.cons (.var 5) .nil))) .nil [6]) .nil)))) .nil) [5])), (.asg 8 (.subv 7 (nI 0))), (.asg 9 (.subv 7 (.bin .Sub (.biv .len 7) (nI 1)))), (.ite (.or (.cmp .Is (.var 1) .non) (.cmp .Lt (.bin .Mult (.biv .len 8) (.bi .len (.cons (.subv 1 (nI 2)) .nil))) (.bin .Mult (.bi .len (.cons (.subv 1 (nI 1)) .nil)) (.biv .len 9)))) [(.asg 1 (.tup (.cons (.var 2) (.cons (.var 8) (.cons (.var 9) .nil)))))] [])] [])]), (.ite (.cmp .Is (.var 1) .non) [(.ret (.tup (.cons (.mk c_Frac___init__ (.cons (nI 1) .nil)) (.cons (.tup .nil) (.cons (.tup .nil) (.cons (.tup .nil) .nil))))))] []), (.ret (.tup (.cons (.mk c_Frac___init__ (.cons (.bi .len (.cons (.subv 1 (nI 1)) .nil)) (.cons (.bi .len (.cons (.subv 1 (nI 2)) .nil)) .nil))) (.cons (.subv 1 (nI 0)) (.cons (.subv 1 (nI 1)) (.cons (.subv 1 (nI 2)) .nil))))))]
def c_quotient : Fn := { wh := .top, name := ("quotient" : Str), ps := [("family" : Str)], io := [false], df := [], kws := [[("family" : Str)]], sem := runF N_quotient.length [false] b_quotient }
def N__law_adds : List Str := [("family" : Str), ("mask" : Str), ("k" : Str)]
def b__law_adds : List VS.S := [(.ret (.bi .sum (.cons (.lc (.bin .LShift (nI 1) (.var 2)) (.nm 2) (.rng1 (.subv 0 (nI 0))) (.cons (.an (.cmp .Eq (.bin .BitAnd (.bin .RShift (.var 1) (.var 2)) (nI 1)) (nI 0)) (.tv (.sub (.subv 0 (nI 1)) (.bin .BitOr (.var 1) (.bin .LShift (nI 1) (.var 2)))))) .nil) [2]) .nil)))]
def c__law_adds : Fn := { wh := .top, name := ("_law_adds" : Str), ps := [("family" : Str), ("mask" : Str)], io := [false, false], df := [], kws := [], sem := runF N__law_adds.length [false, false] b__law_adds }
def N__law_quotient : List Str := [("family" : Str), ("counts" : Str), ("mask" : Str), ("adds" : Str), ("one" : Str), ("best" : Str), ("low" : Str), ("high" : Str), ("place" : Str)]
def b__law_quotient : List VS.S := [(.asg 1 (.lc (.bi .len (.cons (.call c__law_things (.cons (.var 2) .nil)) .nil)) (.nm 2) (.rng1 (.bin .LShift (nI 1) (.subv 0 (nI 0)))) .nil [2])), (.asg 3 (.lc (.call c__law_adds (.cons (.var 0) (.cons (.var 4) .nil))) (.nm 4) (.seq (.subv 0 (nI 2))) .nil [4])), (.asg 5 .non), (.fr (.nm 2) (.seq (.call c__law_order (.cons (.subv 0 (nI 0)) (.cons (.lc (.bl true) (.nm 4) (.seq (.var 1)) .nil [4]) .nil)))) [(.asg 6 (.neg (nI 1))), (.asg 7 (nI 0)), (.fr (.nm 8) (.rng1 (.biv .len 3)) [(.asg 4 (.sub (.subv 0 (nI 2)) (.var 8))), (.ite (.cmp .Eq (.bin .BitAnd (.var 4) (.var 2)) (.var 4)) [(.asg 7 (.subv 1 (.var 4))), (.ite (.an (.cmp .Lt (.var 6) (nI 0)) (.cmp .Eq (.bin .BitAnd (.subv 3 (.var 8)) (.var 2)) (nI 0))) [(.asg 6 (.subv 1 (.var 4)))] [])] [])]), (.ite (.an (.cmp .Gt (.var 7) (nI 0)) (.or (.cmp .Is (.var 5) .non) (.cmp .Lt (.bin .Mult (.var 6) (.subv 5 (nI 1))) (.bin .Mult (.subv 5 (nI 0)) (.var 7))))) [(.asg 5 (.tup (.cons (.var 6) (.cons (.var 7) (.cons (.var 2) .nil)))))] [])]), (.ret (.var 5))]
def c__law_quotient : Fn := { wh := .top, name := ("_law_quotient" : Str), ps := [("family" : Str)], io := [false], df := [], kws := [], sem := runF N__law_quotient.length [false] b__law_quotient }
def N__law_whole : List Str := [("found" : Str)]
def b__law_whole : List VS.S := [(.ret (.an (.isi ktab (.var 0) [(.ty .int)] true) (.nt (.isi ktab (.var 0) [(.ty .bool)] true))))]
def c__law_whole : Fn := { wh := .top, name := ("_law_whole" : Str), ps := [("found" : Str)], io := [false], df := [], kws := [], sem := runF N__law_whole.length [false] b__law_whole }
def N__law_low : List Str := [("num" : Str), ("den" : Str), ("big" : Str), ("small" : Str), ("turn" : Str)]
def b__law_low : List VS.S := [(.asg 2 (.biv .abs 0)), (.asg 3 (.var 1)), (.fr (.nm 4) (.rng1 (.bin .Add (.bin .Mult (nI 2) (.bln (.var 1))) (nI 4))) [(.ite (.cmp .Eq (.var 3) (nI 0)) [.brk] []), (.par 2 3 (.var 3) (.bin .Mod (.biv .int 2) (.var 3)))]), (.ret (.tup (.cons (.bin .FloorDiv (.var 0) (.var 2)) (.cons (.bin .FloorDiv (.var 1) (.var 2)) .nil))))]
def c__law_low : Fn := { wh := .top, name := ("_law_low" : Str), ps := [("num" : Str), ("den" : Str)], io := [false, false], df := [], kws := [], sem := runF N__law_low.length [false, false] b__law_low }
def N__law_is : List Str := [("found" : Str), ("num" : Str), ("den" : Str), ("low" : Str)]
def b__law_is : List VS.S := [(.ite (.or (.nt (.tv (.isi ktab (.var 0) [(.own ("Frac" : Str))] true))) (.or (.nt (.tv (.call c__law_whole (.cons (.attv 0 ("num" : Str)) .nil)))) (.nt (.tv (.call c__law_whole (.cons (.attv 0 ("den" : Str)) .nil)))))) [(.ret (.bl false))] []), (.asg 3 (.call c__law_low (.cons (.var 1) (.cons (.var 2) .nil)))), (.ret (.an (.cmp .Eq (.attv 0 ("num" : Str)) (.subv 3 (nI 0))) (.cmp .Eq (.attv 0 ("den" : Str)) (.subv 3 (nI 1)))))]
def c__law_is : Fn := { wh := .top, name := ("_law_is" : Str), ps := [("found" : Str), ("num" : Str), ("den" : Str)], io := [false, false, false], df := [], kws := [], sem := runF N__law_is.length [false, false, false] b__law_is }
def N__law_like : List Str := [("found" : Str), ("due" : Str), ("k" : Str)]
def b__law_like (c__law_like : Fn) : List VS.S := [(.ite (.tv (.isi ktab (.var 1) [(.ty .list)] true)) [(.ret (.call c__law_is (.cons (.var 0) (.cons (.subv 1 (nI 0)) (.cons (.subv 1 (nI 1)) .nil)))))] []), (.ite (.tv (.isi ktab (.var 1) [(.ty .tuple)] true)) [(.ite (.or (.nt (.tv (.isi ktab (.var 0) [(.ty .tuple)] true))) (.cmp .NotEq (.biv .len 0) (.biv .len 1))) [(.ret (.bl false))] []), (.ret (.bi .all (.cons (.lc (.call c__law_like (.cons (.subv 0 (.var 2)) (.cons (.subv 1 (.var 2)) .nil))) (.nm 2) (.rng1 (.biv .len 1)) .nil [2]) .nil)))] []), (.ite (.cmp .Is (.var 1) .non) [(.ret (.cmp .Is (.var 0) .non))] []), (.ite (.tv (.isi ktab (.var 1) [(.ty .bool)] true)) [(.ret (.an (.isi ktab (.var 0) [(.ty .bool)] true) (.cmp .Eq (.var 0) (.var 1))))] []), (.ite (.tv (.isi ktab (.var 1) [(.ty .int)] true)) [(.ret (.an (.call c__law_whole (.cons (.var 0) .nil)) (.cmp .Eq (.var 0) (.var 1))))] []), (.ret (.an (.isi ktab (.var 0) [(.ty .str)] true) (.cmp .Eq (.var 0) (.var 1))))]
def s__law_like : Nat → List D → Out
  | 0 => fun _ => .bad
  | i + 1 => runF N__law_like.length [false, false] (b__law_like { wh := .top, name := ("_law_like" : Str), ps := [("found" : Str), ("due" : Str)], io := [false, false], df := [], kws := [], sem := s__law_like i })
def c__law_like (i : Nat) : Fn := { wh := .top, name := ("_law_like" : Str), ps := [("found" : Str), ("due" : Str)], io := [false, false], df := [], kws := [], sem := s__law_like i }
def N__law_mask : List Str := [("found" : Str), ("size" : Str), ("k" : Str), ("mask" : Str), ("thing" : Str)]
def b__law_mask : List VS.S := [(.ite (.or (.nt (.tv (.isi ktab (.var 0) [(.ty .tuple)] true))) (.or (.cmp .Gt (.biv .len 0) (.var 1)) (.nt (.tv (.bi .all (.cons (.lc (.call c__law_whole (.cons (.var 2) .nil)) (.nm 2) (.seq (.var 0)) .nil [2]) .nil)))))) [(.ret (.neg (nI 1)))] []), (.asg 3 (nI 0)), (.fr (.nm 4) (.rng1 (.var 1)) [(.ite (.cmp .In (.var 4) (.var 0)) [(.asg 3 (.bin .Add (.var 3) (.bin .LShift (nI 1) (.var 4))))] [])]), (.ite (.cmp .NotEq (.call c__law_things (.cons (.var 3) .nil)) (.var 0)) [(.ret (.neg (nI 1)))] []), (.ret (.var 3))]
def c__law_mask : Fn := { wh := .top, name := ("_law_mask" : Str), ps := [("found" : Str), ("size" : Str)], io := [false, false], df := [], kws := [], sem := runF N__law_mask.length [false, false] b__law_mask }
def N__law_judged : List Str := [("found" : Str), ("family" : Str), ("best" : Str), ("small" : Str), ("large" : Str)]
def b__law_judged : List VS.S := [(.asg 2 (.call c__law_quotient (.cons (.var 1) .nil))), (.ite (.cmp .Is (.var 2) .non) [(.ret (.call (c__law_like 64) (.cons (.var 0) (.cons (.tup (.cons (.lst (.cons (nI 1) (.cons (nI 1) .nil))) (.cons (.tup .nil) (.cons (.tup .nil) (.cons (.tup .nil) .nil))))) .nil))))] []), (.ite (.or (.nt (.tv (.isi ktab (.var 0) [(.ty .tuple)] true))) (.or (.cmp .NotEq (.biv .len 0) (nI 4)) (.nt (.tv (.call c__law_is (.cons (.subv 0 (nI 0)) (.cons (.subv 2 (nI 0)) (.cons (.subv 2 (nI 1)) .nil)))))))) [(.ret (.bl false))] []), (.ite (.nt (.tv (.call (c__law_like 64) (.cons (.subv 0 (nI 1)) (.cons (.call c__law_things (.cons (.subv 2 (nI 2)) .nil)) .nil))))) [(.ret (.bl false))] []), (.asg 3 (.call c__law_mask (.cons (.subv 0 (nI 2)) (.cons (.subv 1 (nI 0)) .nil)))), (.asg 4 (.call c__law_mask (.cons (.subv 0 (nI 3)) (.cons (.subv 1 (nI 0)) .nil)))), (.ite (.or (.cmp .Lt (.var 3) (nI 0)) (.or (.cmp .Lt (.var 4) (nI 0)) (.or (.nt (.tv (.sub (.subv 1 (nI 1)) (.var 3)))) (.nt (.tv (.sub (.subv 1 (nI 1)) (.var 4))))))) [(.ret (.bl false))] []), (.ite (.or (.cmp .NotEq (.bin .BitAnd (.var 3) (.subv 2 (nI 2))) (.var 3)) (.or (.cmp .NotEq (.bin .BitAnd (.var 4) (.subv 2 (nI 2))) (.var 4)) (.cmp .NotEq (.bin .BitAnd (.call c__law_adds (.cons (.var 1) (.cons (.var 3) .nil))) (.subv 2 (nI 2))) (nI 0)))) [(.ret (.bl false))] []), (.ret (.an (.cmp .Eq (.bi .len (.cons (.call c__law_things (.cons (.var 3) .nil)) .nil)) (.subv 2 (nI 0))) (.cmp .Eq (.bi .len (.cons (.call c__law_things (.cons (.var 4) .nil)) .nil)) (.subv 2 (nI 1)))))]
def c__law_judged : Fn := { wh := .top, name := ("_law_judged" : Str), ps := [("found" : Str), ("family" : Str)], io := [false, false], df := [], kws := [], sem := runF N__law_judged.length [false, false] b__law_judged }
def N__law_asked : List Str := [("script" : Str), ("feed" : Str), ("family" : Str), ("other" : Str), ("form" : Str), ("program" : Str), ("first" : Str), ("again" : Str)]
def b__law_asked : List VS.S := [(.asg 1 (.lst (.cons (.biv .list 0) (.cons (nI 0) (.cons (nI 0) (.cons (nI 0) .nil)))))), (.asg 2 (.call c__law_family (.lend 1 (.cons (.call c__law_size (.lend 1 (.cons (nI 6) .nil))) .nil)))), (.asg 3 (.call c__law_family (.lend 1 (.cons (.call c__law_size (.lend 1 (.cons (nI 4) .nil))) .nil)))), (.asg 4 (.call c__law_draw (.lend 1 (.cons (nI 2) .nil)))), (.asg 5 (.call c__law_told (.cons (.var 2) (.cons (.var 4) .nil)))), (.asg 6 (.call c_quotient (.cons (.var 5) .nil))), (.ite (.or (.nt (.tv (.call c__law_judged (.cons (.var 6) (.cons (.var 2) .nil))))) (.nt (.tv (.call c__law_judged (.cons (.call c_quotient (.cons (.call c__law_told (.cons (.var 3) (.cons (.bin .Sub (nI 1) (.var 4)) .nil))) .nil)) (.cons (.var 3) .nil)))))) [(.ret (.bl false))] []), (.asg 7 (.callk c_quotient [("family" : Str)] (.cons (.call c__law_told (.cons (.var 2) (.cons (.bin .Sub (nI 1) (.var 4)) .nil))) .nil))), (.ret (.an (.call c__law_judged (.cons (.var 7) (.cons (.var 2) .nil))) (.an (.cmp .Eq (.subv 7 (nI 2)) (.subv 6 (nI 2))) (.cmp .Eq (.subv 7 (nI 3)) (.subv 6 (nI 3))))))]
def c__law_asked : Fn := { wh := .top, name := ("_law_asked" : Str), ps := [("script" : Str)], io := [false], df := [], kws := [], sem := runF N__law_asked.length [false] b__law_asked }
def N_law : List Str := [("script" : Str)]
def b_law : List VS.S := [(.tryN [(.ret (.call c__law_asked (.cons (.var 0) .nil)))])]
def c_law : Fn := { wh := .top, name := ("law" : Str), ps := [("script" : Str)], io := [false], df := [], kws := [], sem := runF N_law.length [false] b_law }
end K36

/-! ## P1 -/
set_option maxRecDepth 100000
set_option maxHeartbeats 4000000
namespace K36
open PySem PySem.Spec PyProof.Rows L2 VS

/-- the things of a mask -/
def thg (m : Nat) : List Nat := (List.range 6).filter fun k => m.testBit k
abbrev cnt (m : Nat) : Nat := (thg m).length
abbrev thI (m : Nat) : List D := (thg m).map I
abbrev thD (m : Nat) : D := .tup false (thI m)

theorem s_things {m : Nat} (h : m < 64) : c__law_things.sem [I m] = .ok (thD m) [] :=
  sem_all (n := 64) (f := fun m => c__law_things.sem [I m]) (g := fun m => .ok (thD m) []) (by decide +kernel) h
theorem s_things_of {m : Nat} (h : m < 64) : c_things_of.sem [I m] = .ok (thD m) [] :=
  sem_all (n := 64) (f := fun m => c_things_of.sem [I m]) (g := fun m => .ok (thD m) []) (by decide +kernel) h
theorem s_mask_of {m : Nat} (h : m < 64) : c_mask_of.sem [thD m] = .ok (I m) [] :=
  sem_all (n := 64) (f := fun m => c_mask_of.sem [thD m]) (g := fun m => .ok (I m) []) (by decide +kernel) h
theorem thg_lt {m k : Nat} (h : k ∈ thg m) : k < 6 := List.mem_range.mp (List.mem_filter.mp h).1
theorem thg_len (m : Nat) : (thg m).length ≤ 6 := by have := List.length_filter_le (fun k => m.testBit k) (List.range 6); simpa [thg] using this
/-- the part of -/
def sub (p m : Nat) : Bool := p &&& m == p
theorem all64 {f : Nat → Bool} (h : (List.range 64).all f = true) {m : Nat} (hm : m < 64) : f m = true := List.all_eq_true.mp h m (List.mem_range.mpr hm)
theorem all64x {f : Nat → Nat → Bool} (h : (List.range 64).all (fun a => (List.range 64).all (f a)) = true) {a b : Nat} (ha : a < 64) (hb : b < 64) : f a b = true := all64 (all64 (f := fun a => (List.range 64).all (f a)) h ha) hb
theorem sub_things {p m : Nat} (hp : p < 64) (hm : m < 64) : (thg p).all (fun k => decide (m / 2 ^ k % 2 = 1)) = sub p m :=
  beq_iff_eq.mp (all64x (f := fun p m => (thg p).all (fun k => decide (m / 2 ^ k % 2 = 1)) == sub p m) (by decide +kernel) hp hm)
theorem shl6 {k : Nat} (h : k ≤ 6) : binD .LShift (I 1) (I k) = some (I (2 ^ k)) := n_shl (by omega)
theorem div6 {m k : Nat} (h : k ≤ 6) : binD .FloorDiv (I m) (I (2 ^ k)) = some (I (m / 2 ^ k)) := n_div (Nat.pos_of_ne_zero (by simp)) (by rw [Nat.log2_two_pow]; omega)
theorem mod2 {m : Nat} : binD .Mod (I m) (I 2) = some (I (m % 2)) := n_mod (by decide)
theorem le_lim {n : Nat} (h : n ≤ 1000) : n ≤ lim := by simp only [lim]; omega
theorem s_within {p m : Nat} (hp : p < 64) (hm : m < 64) : c__is_within.sem [I p, I m] = .ok (.bl (sub p m)) [] := by
  simp only [c__is_within, b__is_within, N__is_within, rd_non, rd_bl, rd_int, rd_str, rd_scr, rd_tup, rd_lst, rd_ins, rd_tupT, rd_lstT, rd_insT, pk_non, pk_bl, pk_int, pk_str, pk_scr, pk_tup, pk_lst, pk_ins, x_var, x_glo, x_int, x_bl, x_non, x_str, x_bin, x_neg, x_nt, x_an, x_or, x_cmp, x_chn, x_ite, x_tup, x_lst, x_sub, x_subv, x_att, x_attv, x_call, x_bi, x_biv, x_lc, x_mk, x_met, x_isi, x_gcd, x_bln, xs_nil, xs_cons, xa_nil, xa_cons, xa_lend, xr_seq, xr_rng1, xr_rng2, xr_enm, xr_rev, xt_an, xt_or, xt_nt, xt_cmp, xt_chn, xt_tv, xts_nil, xts_one, y_asg, y_exp, y_ret, y_retN, y_ite, y_fr, y_brk, y_cnt, y_pas, y_par, ys_nil, ys_cons, y_unp, y_setv, y_apG, y_app, y_stf, run_nx, run_ret, io_t, io_f, io_n, ln_nil, ln_cons, ln_lend, f_non, f_bl, f_int, f_str, f_tup, f_lst, f_ins, f_tupT, f_lstT, f_insT, fs_nil, fs_cons, fs_I, fs_blf, fs_If, fs_tupf, fs_lstf, fs_lstT, fs_app, fs_rev, it_eq, it_l, it_t, it_bl, it_int, it_non, it_str, it_tup, it_lst, it_ins, it_lstT, iu_bl, iu_int, iu_non, iu_str, iu_tup, iu_lst, iu_ins, sb_t, sb_l, y_appi, it_m1, fs_int, runF_eq, bind_ok, opt_some, ↓nxt_nx, ↓nxt_ret, ↓nxt_brk, ↓nxt_cnt, mayO_some, ↓onB_bl, ↓onO_some, blO_bl, ng_int, nt_bl, i_tup, i_lst, l_lst, t_bl, range0, asgT, wipeE, saved, restore, putBack, List.getElem?_cons_zero, List.getElem?_cons_succ, List.set_cons_zero, List.set_cons_succ, List.length_cons, List.length_nil, List.cons_append, List.nil_append, List.replicate_succ, List.replicate_zero, List.getD_cons_zero, List.getD_cons_succ, List.map_nil, List.map_cons, List.any_cons, List.any_nil, Nat.reduceSub, Nat.reduceAdd, Nat.reduceLT, Nat.reduceLeDiff, Nat.zero_add, if_true, ite_true, ite_false, reduceIte, D.own, Bool.false_eq_true, Option.bind_some, Option.map_some, Bool.or_false, Bool.false_or, Bool.not_true, Bool.not_false, decide_true, decide_false, lim, n_add, n_shr, n_and, n_eq, n_ne, n_lt, n_le, n_gt, n_ge, c_isN_non, c_isN_tup, n_sum, n_all, n_any, n_listS, n_lenL, n_lenT, n_intI, n_tupleT, n_tuple, n_list, n_listT, n_allf, n_anyf, n_sumf, nw_I, nw_If, nw_bl, nw_tup, nw_lst, k_ii, k_ib, k_is, k_il, k_it, k_bb, k_bi, k_tt, k_tl, k_ll, k_lt, k_llt, k_tlt, n_inT, n_or, call1 (s_things_of hp)]
  rw [lcR_map (f := fun k => .bl (decide (m / 2 ^ k % 2 = 1)))]
  · simp only [rd_non, rd_bl, rd_int, rd_str, rd_scr, rd_tup, rd_lst, rd_ins, rd_tupT, rd_lstT, rd_insT, pk_non, pk_bl, pk_int, pk_str, pk_scr, pk_tup, pk_lst, pk_ins, x_var, x_glo, x_int, x_bl, x_non, x_str, x_bin, x_neg, x_nt, x_an, x_or, x_cmp, x_chn, x_ite, x_tup, x_lst, x_sub, x_subv, x_att, x_attv, x_call, x_bi, x_biv, x_lc, x_mk, x_met, x_isi, x_gcd, x_bln, xs_nil, xs_cons, xa_nil, xa_cons, xa_lend, xr_seq, xr_rng1, xr_rng2, xr_enm, xr_rev, xt_an, xt_or, xt_nt, xt_cmp, xt_chn, xt_tv, xts_nil, xts_one, y_asg, y_exp, y_ret, y_retN, y_ite, y_fr, y_brk, y_cnt, y_pas, y_par, ys_nil, ys_cons, y_unp, y_setv, y_apG, y_app, y_stf, run_nx, run_ret, io_t, io_f, io_n, ln_nil, ln_cons, ln_lend, f_non, f_bl, f_int, f_str, f_tup, f_lst, f_ins, f_tupT, f_lstT, f_insT, fs_nil, fs_cons, fs_I, fs_blf, fs_If, fs_tupf, fs_lstf, fs_lstT, fs_app, fs_rev, it_eq, it_l, it_t, it_bl, it_int, it_non, it_str, it_tup, it_lst, it_ins, it_lstT, iu_bl, iu_int, iu_non, iu_str, iu_tup, iu_lst, iu_ins, sb_t, sb_l, y_appi, it_m1, fs_int, runF_eq, bind_ok, opt_some, ↓nxt_nx, ↓nxt_ret, ↓nxt_brk, ↓nxt_cnt, mayO_some, ↓onB_bl, ↓onO_some, blO_bl, ng_int, nt_bl, i_tup, i_lst, l_lst, t_bl, range0, asgT, wipeE, saved, restore, putBack, List.getElem?_cons_zero, List.getElem?_cons_succ, List.set_cons_zero, List.set_cons_succ, List.length_cons, List.length_nil, List.cons_append, List.nil_append, List.replicate_succ, List.replicate_zero, List.getD_cons_zero, List.getD_cons_succ, List.map_nil, List.map_cons, List.any_cons, List.any_nil, Nat.reduceSub, Nat.reduceAdd, Nat.reduceLT, Nat.reduceLeDiff, Nat.zero_add, if_true, ite_true, ite_false, reduceIte, D.own, Bool.false_eq_true, Option.bind_some, Option.map_some, Bool.or_false, Bool.false_or, Bool.not_true, Bool.not_false, decide_true, decide_false, lim, n_add, n_shr, n_and, n_eq, n_ne, n_lt, n_le, n_gt, n_ge, c_isN_non, c_isN_tup, n_sum, n_all, n_any, n_listS, n_lenL, n_lenT, n_intI, n_tupleT, n_tuple, n_list, n_listT, n_allf, n_anyf, n_sumf, nw_I, nw_If, nw_bl, nw_tup, nw_lst, k_ii, k_ib, k_is, k_il, k_it, k_bb, k_bi, k_tt, k_tl, k_ll, k_lt, k_llt, k_tlt, n_inT, n_or, sub_things hp hm]
  · intro k hk
    have := thg_lt hk
    refine ⟨_, rfl, ?_⟩
    simp only [rd_non, rd_bl, rd_int, rd_str, rd_scr, rd_tup, rd_lst, rd_ins, rd_tupT, rd_lstT, rd_insT, pk_non, pk_bl, pk_int, pk_str, pk_scr, pk_tup, pk_lst, pk_ins, x_var, x_glo, x_int, x_bl, x_non, x_str, x_bin, x_neg, x_nt, x_an, x_or, x_cmp, x_chn, x_ite, x_tup, x_lst, x_sub, x_subv, x_att, x_attv, x_call, x_bi, x_biv, x_lc, x_mk, x_met, x_isi, x_gcd, x_bln, xs_nil, xs_cons, xa_nil, xa_cons, xa_lend, xr_seq, xr_rng1, xr_rng2, xr_enm, xr_rev, xt_an, xt_or, xt_nt, xt_cmp, xt_chn, xt_tv, xts_nil, xts_one, y_asg, y_exp, y_ret, y_retN, y_ite, y_fr, y_brk, y_cnt, y_pas, y_par, ys_nil, ys_cons, y_unp, y_setv, y_apG, y_app, y_stf, run_nx, run_ret, io_t, io_f, io_n, ln_nil, ln_cons, ln_lend, f_non, f_bl, f_int, f_str, f_tup, f_lst, f_ins, f_tupT, f_lstT, f_insT, fs_nil, fs_cons, fs_I, fs_blf, fs_If, fs_tupf, fs_lstf, fs_lstT, fs_app, fs_rev, it_eq, it_l, it_t, it_bl, it_int, it_non, it_str, it_tup, it_lst, it_ins, it_lstT, iu_bl, iu_int, iu_non, iu_str, iu_tup, iu_lst, iu_ins, sb_t, sb_l, y_appi, it_m1, fs_int, runF_eq, bind_ok, opt_some, ↓nxt_nx, ↓nxt_ret, ↓nxt_brk, ↓nxt_cnt, mayO_some, ↓onB_bl, ↓onO_some, blO_bl, ng_int, nt_bl, i_tup, i_lst, l_lst, t_bl, range0, asgT, wipeE, saved, restore, putBack, List.getElem?_cons_zero, List.getElem?_cons_succ, List.set_cons_zero, List.set_cons_succ, List.length_cons, List.length_nil, List.cons_append, List.nil_append, List.replicate_succ, List.replicate_zero, List.getD_cons_zero, List.getD_cons_succ, List.map_nil, List.map_cons, List.any_cons, List.any_nil, Nat.reduceSub, Nat.reduceAdd, Nat.reduceLT, Nat.reduceLeDiff, Nat.zero_add, if_true, ite_true, ite_false, reduceIte, D.own, Bool.false_eq_true, Option.bind_some, Option.map_some, Bool.or_false, Bool.false_or, Bool.not_true, Bool.not_false, decide_true, decide_false, lim, n_add, n_shr, n_and, n_eq, n_ne, n_lt, n_le, n_gt, n_ge, c_isN_non, c_isN_tup, n_sum, n_all, n_any, n_listS, n_lenL, n_lenT, n_intI, n_tupleT, n_tuple, n_list, n_listT, n_allf, n_anyf, n_sumf, nw_I, nw_If, nw_bl, nw_tup, nw_lst, k_ii, k_ib, k_is, k_il, k_it, k_bb, k_bi, k_tt, k_tl, k_ll, k_lt, k_llt, k_tlt, n_inT, n_or, shl6 (show k ≤ 6 by omega), div6 (show k ≤ 6 by omega), mod2]
    exact gd rfl
  · exact le_lim (by have := thg_len p; omega)
  · rfl
theorem s_is_thing (s k : Nat) : c_is_thing.sem [I s, I k] = .ok (.bl (decide (k < s))) [] := by
  simp only [c_is_thing, b_is_thing, N_is_thing, rd_non, rd_bl, rd_int, rd_str, rd_scr, rd_tup, rd_lst, rd_ins, rd_tupT, rd_lstT, rd_insT, pk_non, pk_bl, pk_int, pk_str, pk_scr, pk_tup, pk_lst, pk_ins, x_var, x_glo, x_int, x_bl, x_non, x_str, x_bin, x_neg, x_nt, x_an, x_or, x_cmp, x_chn, x_ite, x_tup, x_lst, x_sub, x_subv, x_att, x_attv, x_call, x_bi, x_biv, x_lc, x_mk, x_met, x_isi, x_gcd, x_bln, xs_nil, xs_cons, xa_nil, xa_cons, xa_lend, xr_seq, xr_rng1, xr_rng2, xr_enm, xr_rev, xt_an, xt_or, xt_nt, xt_cmp, xt_chn, xt_tv, xts_nil, xts_one, y_asg, y_exp, y_ret, y_retN, y_ite, y_fr, y_brk, y_cnt, y_pas, y_par, ys_nil, ys_cons, y_unp, y_setv, y_apG, y_app, y_stf, run_nx, run_ret, io_t, io_f, io_n, ln_nil, ln_cons, ln_lend, f_non, f_bl, f_int, f_str, f_tup, f_lst, f_ins, f_tupT, f_lstT, f_insT, fs_nil, fs_cons, fs_I, fs_blf, fs_If, fs_tupf, fs_lstf, fs_lstT, fs_app, fs_rev, it_eq, it_l, it_t, it_bl, it_int, it_non, it_str, it_tup, it_lst, it_ins, it_lstT, iu_bl, iu_int, iu_non, iu_str, iu_tup, iu_lst, iu_ins, sb_t, sb_l, y_appi, it_m1, fs_int, runF_eq, bind_ok, opt_some, ↓nxt_nx, ↓nxt_ret, ↓nxt_brk, ↓nxt_cnt, mayO_some, ↓onB_bl, ↓onO_some, blO_bl, ng_int, nt_bl, i_tup, i_lst, l_lst, t_bl, range0, asgT, wipeE, saved, restore, putBack, List.getElem?_cons_zero, List.getElem?_cons_succ, List.set_cons_zero, List.set_cons_succ, List.length_cons, List.length_nil, List.cons_append, List.nil_append, List.replicate_succ, List.replicate_zero, List.getD_cons_zero, List.getD_cons_succ, List.map_nil, List.map_cons, List.any_cons, List.any_nil, Nat.reduceSub, Nat.reduceAdd, Nat.reduceLT, Nat.reduceLeDiff, Nat.zero_add, if_true, ite_true, ite_false, reduceIte, D.own, Bool.false_eq_true, Option.bind_some, Option.map_some, Bool.or_false, Bool.false_or, Bool.not_true, Bool.not_false, decide_true, decide_false, lim, n_add, n_shr, n_and, n_eq, n_ne, n_lt, n_le, n_gt, n_ge, c_isN_non, c_isN_tup, n_sum, n_all, n_any, n_listS, n_lenL, n_lenT, n_intI, n_tupleT, n_tuple, n_list, n_listT, n_allf, n_anyf, n_sumf, nw_I, nw_If, nw_bl, nw_tup, nw_lst, k_ii, k_ib, k_is, k_il, k_it, k_bb, k_bi, k_tt, k_tl, k_ll, k_lt, k_llt, k_tlt, n_inT, n_or, Nat.zero_le]
theorem s_check_size {s : Nat} (h1 : 1 ≤ s) (h : s ≤ 6) : c_check_size.sem [I s] = .ok .non [] := by
  have := sem_all (n := 6) (f := fun k => c_check_size.sem [I (k + 1)]) (g := fun k => .ok .non []) (by decide +kernel) (m := s - 1) (by omega)
  simpa only [show s - 1 + 1 = s by omega] using this
/-- a set as it is told: a tuple or a list -/
def setD (q : Bool × Nat) : D := if q.1 then thD q.2 else .lst false (thI q.2)
theorem s_is_set {s : Nat} {q : Bool × Nat} (h : s ≤ 6) (hm : q.2 < 2 ^ s) : c_is_set.sem [I s, setD q] = .ok (.bl true) [] := by
  have key : (List.range 7).all (fun s => (List.range (2 ^ s)).all fun m => (c_is_set.sem [I s, setD (true, m)]).beq (.ok (.bl true) []) && (c_is_set.sem [I s, setD (false, m)]).beq (.ok (.bl true) [])) = true := by decide +kernel
  have h2 := List.all_eq_true.mp (List.all_eq_true.mp key s (List.mem_range.mpr (by omega))) q.2 (List.mem_range.mpr hm)
  rw [Bool.and_eq_true] at h2
  obtain ⟨b, m⟩ := q
  cases b with
  | true => exact Out.eq_of_beq h2.1
  | false => exact Out.eq_of_beq h2.2
/-- the masks in the order of size, then of their things -/
def mk (s back : Nat) : Nat := ((List.range s).map fun k => if (2 ^ s - 1 - back).testBit (s - 1 - k) then 2 ^ k else 0).sum
def ordm (s : Nat) : List Nat := (List.range (s + 1)).flatMap fun c => ((List.range (2 ^ s)).map (mk s)).filter fun m => cnt m == c
theorem s_all_sets {s : Nat} (h1 : 1 ≤ s) (h : s ≤ 6) : c_all_sets.sem [I s] = .ok (.lst true ((ordm s).map thD)) [] := by
  have := sem_all (n := 6) (f := fun k => c_all_sets.sem [I (k + 1)]) (g := fun k => .ok (.lst true ((ordm (k + 1)).map thD)) []) (by decide +kernel) (m := s - 1) (by omega)
  simpa only [show s - 1 + 1 = s by omega] using this
end K36

/-! ## P2 -/
set_option maxRecDepth 100000
set_option maxHeartbeats 4000000
namespace K36
open PySem PySem.Spec PyProof.Rows L2 VS

def tabL (s : Nat) (T : Nat → Bool) : List D := (List.range (2 ^ s)).map fun m => D.bl (T m)
theorem tab_get {s m : Nat} {T : Nat → Bool} (h : m < 2 ^ s) : (tabL s T)[m]? = some (.bl (T m)) := by
  unfold tabL; rw [List.getElem?_map, List.getElem?_range h]; rfl
theorem tab_len (s : Nat) (T : Nat → Bool) : (tabL s T).length = 2 ^ s := by unfold tabL; simp
theorem tab_frz (s : Nat) (T : Nat → Bool) : D.frzs (tabL s T) = tabL s T := fs_blf _ _
theorem tab_nown (s : Nat) (T : Nat → Bool) : nowns (tabL s T) = true := nw_bl _ _
theorem pow64 {s : Nat} (h : s ≤ 6) : 2 ^ s ≤ 64 := Nat.pow_le_pow_right (by decide) h
theorem ord_facts {s : Nat} (h : s ≤ 6) : (ordm s).all (fun m => decide (m < 2 ^ s)) = true ∧ (List.range (2 ^ s)).all (fun m => (ordm s).contains m) = true ∧ (ordm s).length ≤ 64 ∧ decide ((ordm s).Pairwise fun a b => cnt a ≤ cnt b) = true := by
  have key : (List.range 7).all (fun s => (ordm s).all (fun m => decide (m < 2 ^ s)) && ((List.range (2 ^ s)).all (fun m => (ordm s).contains m) && (decide ((ordm s).length ≤ 64) && decide ((ordm s).Pairwise fun a b => cnt a ≤ cnt b)))) = true := by decide +kernel
  have := List.all_eq_true.mp key s (List.mem_range.mpr (by omega))
  simp only [Bool.and_eq_true, decide_eq_true_eq] at this ⊢
  exact ⟨this.1, this.2.1, this.2.2.1, this.2.2.2⟩
theorem ord_lt {s m : Nat} (h : s ≤ 6) (hm : m ∈ ordm s) : m < 2 ^ s := by
  have := List.all_eq_true.mp (ord_facts h).1 m hm; simpa using this
theorem ord_mem {s m : Nat} (h : s ≤ 6) (hm : m < 2 ^ s) : m ∈ ordm s := by
  have := List.all_eq_true.mp (ord_facts h).2.1 m (List.mem_range.mpr hm); simpa using this
theorem ord_len {s : Nat} (h : s ≤ 6) : (ordm s).length ≤ 64 := (ord_facts h).2.2.1
theorem ord_up {s : Nat} (h : s ≤ 6) : (ordm s).Pairwise fun a b => cnt a ≤ cnt b := of_decide_eq_true (ord_facts h).2.2.2
theorem lt64 {s m : Nat} (h : s ≤ 6) (hm : m < 2 ^ s) : m < 64 := Nat.lt_of_lt_of_le hm (pow64 h)

/-- the sets as they are told -/
theorem setD_own (q : Bool × Nat) : (setD q).own = false := by unfold setD; cases q.1 <;> rfl
theorem tuple_set (q : Bool × Nat) : biD .tuple [setD q] = some (thD q.2) := by
  unfold setD
  cases q.1 with
  | true => exact n_tupleT _
  | false => exact n_tuple (nowns_I _)
theorem pk_set (q : Bool × Nat) : pkO (some (setD q)) = some (setD q) := by unfold setD; cases q.1 <;> rfl
theorem rd_set (q : Bool × Nat) (i : Nat) (env : En) : rdO (some (setD q)) i env = .ok (setD q) env := by unfold setD; cases q.1 <;> rfl
theorem f_set (q : Bool × Nat) : (setD q).frz = setD q := D.frz_of (setD_own q)
theorem s_checked {s : Nat} {qs : List (Bool × Nat)} (h : s ≤ 6) (hq : ∀ q ∈ qs, q.2 < 2 ^ s) (hl : qs.length ≤ 1000) : c_checked_sets.sem [I s, .lst false (qs.map setD)] = .ok (.lst true (qs.map fun q => thD q.2)) [] := by
  simp only [c_checked_sets, b_checked_sets, N_checked_sets, rd_non, rd_bl, rd_int, rd_str, rd_scr, rd_tup, rd_lst, rd_ins, rd_tupT, rd_lstT, rd_insT, pk_non, pk_bl, pk_int, pk_str, pk_scr, pk_tup, pk_lst, pk_ins, x_var, x_glo, x_int, x_bl, x_non, x_str, x_bin, x_neg, x_nt, x_an, x_or, x_cmp, x_chn, x_ite, x_tup, x_lst, x_sub, x_subv, x_att, x_attv, x_call, x_bi, x_biv, x_lc, x_mk, x_met, x_isi, x_gcd, x_bln, xs_nil, xs_cons, xa_nil, xa_cons, xa_lend, xr_seq, xr_rng1, xr_rng2, xr_enm, xr_rev, xt_an, xt_or, xt_nt, xt_cmp, xt_chn, xt_tv, xts_nil, xts_one, y_asg, y_exp, y_ret, y_retN, y_ite, y_fr, y_brk, y_cnt, y_pas, y_par, ys_nil, ys_cons, y_unp, y_setv, y_apG, y_app, y_stf, run_nx, run_ret, io_t, io_f, io_n, ln_nil, ln_cons, ln_lend, f_non, f_bl, f_int, f_str, f_tup, f_lst, f_ins, f_tupT, f_lstT, f_insT, fs_nil, fs_cons, fs_I, fs_blf, fs_If, fs_tupf, fs_lstf, fs_lstT, fs_app, fs_rev, it_eq, it_l, it_t, it_bl, it_int, it_non, it_str, it_tup, it_lst, it_ins, it_lstT, iu_bl, iu_int, iu_non, iu_str, iu_tup, iu_lst, iu_ins, sb_t, sb_l, y_appi, it_m1, fs_int, runF_eq, bind_ok, opt_some, ↓nxt_nx, ↓nxt_ret, ↓nxt_brk, ↓nxt_cnt, mayO_some, ↓onB_bl, ↓onO_some, blO_bl, ng_int, nt_bl, i_tup, i_lst, l_lst, t_bl, range0, asgT, wipeE, saved, restore, putBack, List.getElem?_cons_zero, List.getElem?_cons_succ, List.set_cons_zero, List.set_cons_succ, List.length_cons, List.length_nil, List.cons_append, List.nil_append, List.replicate_succ, List.replicate_zero, List.getD_cons_zero, List.getD_cons_succ, List.map_nil, List.map_cons, List.any_cons, List.any_nil, Nat.reduceSub, Nat.reduceAdd, Nat.reduceLT, Nat.reduceLeDiff, Nat.zero_add, if_true, ite_true, ite_false, reduceIte, D.own, Bool.false_eq_true, Option.bind_some, Option.map_some, Bool.or_false, Bool.false_or, Bool.not_true, Bool.not_false, decide_true, decide_false, lim, n_add, n_shr, n_and, n_eq, n_ne, n_lt, n_le, n_gt, n_ge, c_isN_non, c_isN_tup, n_sum, n_all, n_any, n_listS, n_lenL, n_lenT, n_intI, n_tupleT, n_tuple, n_list, n_listT, n_allf, n_anyf, n_sumf, nw_I, nw_If, nw_bl, nw_tup, nw_lst, k_ii, k_ib, k_is, k_il, k_it, k_bb, k_bi, k_tt, k_tl, k_ll, k_lt, k_llt, k_tlt, n_inT, n_or, enumL_eq]
  refine run_for (P := fun _ e => ∃ a b, e = [I s, .lst false (qs.map setD), a, b]) (fun p env pre hp _ he => ?_) ⟨_, _, rfl⟩ fun e he => ?_
  · obtain ⟨a, b, rfl⟩ := he
    refine ⟨_, rfl, ?_⟩
    have hp1 : p.1 ∈ qs := by
      have := List.fst_mem_of_mem_zipIdx hp
      simpa using this
    simp only [rd_non, rd_bl, rd_int, rd_str, rd_scr, rd_tup, rd_lst, rd_ins, rd_tupT, rd_lstT, rd_insT, pk_non, pk_bl, pk_int, pk_str, pk_scr, pk_tup, pk_lst, pk_ins, x_var, x_glo, x_int, x_bl, x_non, x_str, x_bin, x_neg, x_nt, x_an, x_or, x_cmp, x_chn, x_ite, x_tup, x_lst, x_sub, x_subv, x_att, x_attv, x_call, x_bi, x_biv, x_lc, x_mk, x_met, x_isi, x_gcd, x_bln, xs_nil, xs_cons, xa_nil, xa_cons, xa_lend, xr_seq, xr_rng1, xr_rng2, xr_enm, xr_rev, xt_an, xt_or, xt_nt, xt_cmp, xt_chn, xt_tv, xts_nil, xts_one, y_asg, y_exp, y_ret, y_retN, y_ite, y_fr, y_brk, y_cnt, y_pas, y_par, ys_nil, ys_cons, y_unp, y_setv, y_apG, y_app, y_stf, run_nx, run_ret, io_t, io_f, io_n, ln_nil, ln_cons, ln_lend, f_non, f_bl, f_int, f_str, f_tup, f_lst, f_ins, f_tupT, f_lstT, f_insT, fs_nil, fs_cons, fs_I, fs_blf, fs_If, fs_tupf, fs_lstf, fs_lstT, fs_app, fs_rev, it_eq, it_l, it_t, it_bl, it_int, it_non, it_str, it_tup, it_lst, it_ins, it_lstT, iu_bl, iu_int, iu_non, iu_str, iu_tup, iu_lst, iu_ins, sb_t, sb_l, y_appi, it_m1, fs_int, runF_eq, bind_ok, opt_some, ↓nxt_nx, ↓nxt_ret, ↓nxt_brk, ↓nxt_cnt, mayO_some, ↓onB_bl, ↓onO_some, blO_bl, ng_int, nt_bl, i_tup, i_lst, l_lst, t_bl, range0, asgT, wipeE, saved, restore, putBack, List.getElem?_cons_zero, List.getElem?_cons_succ, List.set_cons_zero, List.set_cons_succ, List.length_cons, List.length_nil, List.cons_append, List.nil_append, List.replicate_succ, List.replicate_zero, List.getD_cons_zero, List.getD_cons_succ, List.map_nil, List.map_cons, List.any_cons, List.any_nil, Nat.reduceSub, Nat.reduceAdd, Nat.reduceLT, Nat.reduceLeDiff, Nat.zero_add, if_true, ite_true, ite_false, reduceIte, D.own, Bool.false_eq_true, Option.bind_some, Option.map_some, Bool.or_false, Bool.false_or, Bool.not_true, Bool.not_false, decide_true, decide_false, lim, n_add, n_shr, n_and, n_eq, n_ne, n_lt, n_le, n_gt, n_ge, c_isN_non, c_isN_tup, n_sum, n_all, n_any, n_listS, n_lenL, n_lenT, n_intI, n_tupleT, n_tuple, n_list, n_listT, n_allf, n_anyf, n_sumf, nw_I, nw_If, nw_bl, nw_tup, nw_lst, k_ii, k_ib, k_is, k_il, k_it, k_bb, k_bi, k_tt, k_tl, k_ll, k_lt, k_llt, k_tlt, n_inT, n_or, rd_set, f_set, call2 (s_is_set h (hq _ hp1))]
    exact gs ⟨_, _, rfl⟩
  · obtain ⟨a, b, rfl⟩ := he
    simp only [rd_non, rd_bl, rd_int, rd_str, rd_scr, rd_tup, rd_lst, rd_ins, rd_tupT, rd_lstT, rd_insT, pk_non, pk_bl, pk_int, pk_str, pk_scr, pk_tup, pk_lst, pk_ins, x_var, x_glo, x_int, x_bl, x_non, x_str, x_bin, x_neg, x_nt, x_an, x_or, x_cmp, x_chn, x_ite, x_tup, x_lst, x_sub, x_subv, x_att, x_attv, x_call, x_bi, x_biv, x_lc, x_mk, x_met, x_isi, x_gcd, x_bln, xs_nil, xs_cons, xa_nil, xa_cons, xa_lend, xr_seq, xr_rng1, xr_rng2, xr_enm, xr_rev, xt_an, xt_or, xt_nt, xt_cmp, xt_chn, xt_tv, xts_nil, xts_one, y_asg, y_exp, y_ret, y_retN, y_ite, y_fr, y_brk, y_cnt, y_pas, y_par, ys_nil, ys_cons, y_unp, y_setv, y_apG, y_app, y_stf, run_nx, run_ret, io_t, io_f, io_n, ln_nil, ln_cons, ln_lend, f_non, f_bl, f_int, f_str, f_tup, f_lst, f_ins, f_tupT, f_lstT, f_insT, fs_nil, fs_cons, fs_I, fs_blf, fs_If, fs_tupf, fs_lstf, fs_lstT, fs_app, fs_rev, it_eq, it_l, it_t, it_bl, it_int, it_non, it_str, it_tup, it_lst, it_ins, it_lstT, iu_bl, iu_int, iu_non, iu_str, iu_tup, iu_lst, iu_ins, sb_t, sb_l, y_appi, it_m1, fs_int, runF_eq, bind_ok, opt_some, ↓nxt_nx, ↓nxt_ret, ↓nxt_brk, ↓nxt_cnt, mayO_some, ↓onB_bl, ↓onO_some, blO_bl, ng_int, nt_bl, i_tup, i_lst, l_lst, t_bl, range0, asgT, wipeE, saved, restore, putBack, List.getElem?_cons_zero, List.getElem?_cons_succ, List.set_cons_zero, List.set_cons_succ, List.length_cons, List.length_nil, List.cons_append, List.nil_append, List.replicate_succ, List.replicate_zero, List.getD_cons_zero, List.getD_cons_succ, List.map_nil, List.map_cons, List.any_cons, List.any_nil, Nat.reduceSub, Nat.reduceAdd, Nat.reduceLT, Nat.reduceLeDiff, Nat.zero_add, if_true, ite_true, ite_false, reduceIte, D.own, Bool.false_eq_true, Option.bind_some, Option.map_some, Bool.or_false, Bool.false_or, Bool.not_true, Bool.not_false, decide_true, decide_false, lim, n_add, n_shr, n_and, n_eq, n_ne, n_lt, n_le, n_gt, n_ge, c_isN_non, c_isN_tup, n_sum, n_all, n_any, n_listS, n_lenL, n_lenT, n_intI, n_tupleT, n_tuple, n_list, n_listT, n_allf, n_anyf, n_sumf, nw_I, nw_If, nw_bl, nw_tup, nw_lst, k_ii, k_ib, k_is, k_il, k_it, k_bb, k_bi, k_tt, k_tl, k_ll, k_lt, k_llt, k_tlt, n_inT, n_or]
    rw [lcR_map (f := fun q => thD q.2)]
    · simp only [rd_non, rd_bl, rd_int, rd_str, rd_scr, rd_tup, rd_lst, rd_ins, rd_tupT, rd_lstT, rd_insT, pk_non, pk_bl, pk_int, pk_str, pk_scr, pk_tup, pk_lst, pk_ins, x_var, x_glo, x_int, x_bl, x_non, x_str, x_bin, x_neg, x_nt, x_an, x_or, x_cmp, x_chn, x_ite, x_tup, x_lst, x_sub, x_subv, x_att, x_attv, x_call, x_bi, x_biv, x_lc, x_mk, x_met, x_isi, x_gcd, x_bln, xs_nil, xs_cons, xa_nil, xa_cons, xa_lend, xr_seq, xr_rng1, xr_rng2, xr_enm, xr_rev, xt_an, xt_or, xt_nt, xt_cmp, xt_chn, xt_tv, xts_nil, xts_one, y_asg, y_exp, y_ret, y_retN, y_ite, y_fr, y_brk, y_cnt, y_pas, y_par, ys_nil, ys_cons, y_unp, y_setv, y_apG, y_app, y_stf, run_nx, run_ret, io_t, io_f, io_n, ln_nil, ln_cons, ln_lend, f_non, f_bl, f_int, f_str, f_tup, f_lst, f_ins, f_tupT, f_lstT, f_insT, fs_nil, fs_cons, fs_I, fs_blf, fs_If, fs_tupf, fs_lstf, fs_lstT, fs_app, fs_rev, it_eq, it_l, it_t, it_bl, it_int, it_non, it_str, it_tup, it_lst, it_ins, it_lstT, iu_bl, iu_int, iu_non, iu_str, iu_tup, iu_lst, iu_ins, sb_t, sb_l, y_appi, it_m1, fs_int, runF_eq, bind_ok, opt_some, ↓nxt_nx, ↓nxt_ret, ↓nxt_brk, ↓nxt_cnt, mayO_some, ↓onB_bl, ↓onO_some, blO_bl, ng_int, nt_bl, i_tup, i_lst, l_lst, t_bl, range0, asgT, wipeE, saved, restore, putBack, List.getElem?_cons_zero, List.getElem?_cons_succ, List.set_cons_zero, List.set_cons_succ, List.length_cons, List.length_nil, List.cons_append, List.nil_append, List.replicate_succ, List.replicate_zero, List.getD_cons_zero, List.getD_cons_succ, List.map_nil, List.map_cons, List.any_cons, List.any_nil, Nat.reduceSub, Nat.reduceAdd, Nat.reduceLT, Nat.reduceLeDiff, Nat.zero_add, if_true, ite_true, ite_false, reduceIte, D.own, Bool.false_eq_true, Option.bind_some, Option.map_some, Bool.or_false, Bool.false_or, Bool.not_true, Bool.not_false, decide_true, decide_false, lim, n_add, n_shr, n_and, n_eq, n_ne, n_lt, n_le, n_gt, n_ge, c_isN_non, c_isN_tup, n_sum, n_all, n_any, n_listS, n_lenL, n_lenT, n_intI, n_tupleT, n_tuple, n_list, n_listT, n_allf, n_anyf, n_sumf, nw_I, nw_If, nw_bl, nw_tup, nw_lst, k_ii, k_ib, k_is, k_il, k_it, k_bb, k_bi, k_tt, k_tl, k_ll, k_lt, k_llt, k_tlt, n_inT, n_or]
    · intro q hq
      refine ⟨_, rfl, ?_⟩
      simp only [rd_non, rd_bl, rd_int, rd_str, rd_scr, rd_tup, rd_lst, rd_ins, rd_tupT, rd_lstT, rd_insT, pk_non, pk_bl, pk_int, pk_str, pk_scr, pk_tup, pk_lst, pk_ins, x_var, x_glo, x_int, x_bl, x_non, x_str, x_bin, x_neg, x_nt, x_an, x_or, x_cmp, x_chn, x_ite, x_tup, x_lst, x_sub, x_subv, x_att, x_attv, x_call, x_bi, x_biv, x_lc, x_mk, x_met, x_isi, x_gcd, x_bln, xs_nil, xs_cons, xa_nil, xa_cons, xa_lend, xr_seq, xr_rng1, xr_rng2, xr_enm, xr_rev, xt_an, xt_or, xt_nt, xt_cmp, xt_chn, xt_tv, xts_nil, xts_one, y_asg, y_exp, y_ret, y_retN, y_ite, y_fr, y_brk, y_cnt, y_pas, y_par, ys_nil, ys_cons, y_unp, y_setv, y_apG, y_app, y_stf, run_nx, run_ret, io_t, io_f, io_n, ln_nil, ln_cons, ln_lend, f_non, f_bl, f_int, f_str, f_tup, f_lst, f_ins, f_tupT, f_lstT, f_insT, fs_nil, fs_cons, fs_I, fs_blf, fs_If, fs_tupf, fs_lstf, fs_lstT, fs_app, fs_rev, it_eq, it_l, it_t, it_bl, it_int, it_non, it_str, it_tup, it_lst, it_ins, it_lstT, iu_bl, iu_int, iu_non, iu_str, iu_tup, iu_lst, iu_ins, sb_t, sb_l, y_appi, it_m1, fs_int, runF_eq, bind_ok, opt_some, ↓nxt_nx, ↓nxt_ret, ↓nxt_brk, ↓nxt_cnt, mayO_some, ↓onB_bl, ↓onO_some, blO_bl, ng_int, nt_bl, i_tup, i_lst, l_lst, t_bl, range0, asgT, wipeE, saved, restore, putBack, List.getElem?_cons_zero, List.getElem?_cons_succ, List.set_cons_zero, List.set_cons_succ, List.length_cons, List.length_nil, List.cons_append, List.nil_append, List.replicate_succ, List.replicate_zero, List.getD_cons_zero, List.getD_cons_succ, List.map_nil, List.map_cons, List.any_cons, List.any_nil, Nat.reduceSub, Nat.reduceAdd, Nat.reduceLT, Nat.reduceLeDiff, Nat.zero_add, if_true, ite_true, ite_false, reduceIte, D.own, Bool.false_eq_true, Option.bind_some, Option.map_some, Bool.or_false, Bool.false_or, Bool.not_true, Bool.not_false, decide_true, decide_false, lim, n_add, n_shr, n_and, n_eq, n_ne, n_lt, n_le, n_gt, n_ge, c_isN_non, c_isN_tup, n_sum, n_all, n_any, n_listS, n_lenL, n_lenT, n_intI, n_tupleT, n_tuple, n_list, n_listT, n_allf, n_anyf, n_sumf, nw_I, nw_If, nw_bl, nw_tup, nw_lst, k_ii, k_ib, k_is, k_il, k_it, k_bb, k_bi, k_tt, k_tl, k_ll, k_lt, k_llt, k_tlt, n_inT, n_or, pk_set, tuple_set]
      exact gd rfl
    · exact le_lim hl
    · rfl
/-- closed downward -/
structure Fam (s : Nat) (T : Nat → Bool) : Prop where
  h1 : 1 ≤ s
  h6 : s ≤ 6
  zero : T 0 = true
  down : ∀ p m, m < 2 ^ s → T m = true → sub p m = true → T p = true
def setsL (s : Nat) (T : Nat → Bool) : List Nat := (ordm s).filter T
def fNames : List Str := [("size" : Str), ("table" : Str), ("sets" : Str)]
def famD (m : Bool) (s : Nat) (T : Nat → Bool) : D := .ins m ("Family" : Str) fNames [I s, .tup false (tabL s T), .tup false ((setsL s T).map thD)]
theorem foldl_len (l : List Nat) : ∀ tb : List D, (l.foldl (fun tb m => tb.set m (.bl true)) tb).length = tb.length := by
  induction l with
  | nil => intro tb; rfl
  | cons a l ih => intro tb; rw [List.foldl_cons, ih]; simp
theorem fold_tab (s : Nat) (T : Nat → Bool) (ms : List Nat) (hT : ∀ m, m < 2 ^ s → T m = decide (m ∈ ms)) (hm : ∀ m ∈ ms, m < 2 ^ s) : ms.foldl (fun tb m => tb.set m (.bl true)) (List.replicate (2 ^ s) (D.bl false)) = tabL s T := by
  have key : ∀ (l : List Nat) (tb : List D) (j : Nat), j < tb.length → (l.foldl (fun tb m => tb.set m (.bl true)) tb)[j]? = if j ∈ l then some (.bl true) else tb[j]? := by
    intro l
    induction l with
    | nil => intro tb j _; simp
    | cons a l ih =>
      intro tb j hj
      rw [List.foldl_cons, ih _ _ (by simpa using hj)]
      by_cases h1 : j ∈ l
      · simp [h1]
      · by_cases h2 : a = j
        · subst h2; simp [hj]
        · have : ¬ j = a := fun e => h2 e.symm
          simp [h1, this, List.getElem?_set_ne h2]
  apply List.ext_getElem?
  intro j
  by_cases hj : j < 2 ^ s
  · rw [key _ _ _ (by simpa using hj), tab_get hj, hT j hj, List.getElem?_replicate, if_pos hj]
    by_cases h : j ∈ ms <;> simp [h]
  · rw [List.getElem?_eq_none (by rw [foldl_len]; simp; omega), List.getElem?_eq_none (by rw [tab_len]; omega)]
theorem s_init {s : Nat} {T : Nat → Bool} {qs : List (Bool × Nat)} (F : Fam s T) (hq : ∀ q ∈ qs, q.2 < 2 ^ s) (hl : qs.length ≤ 1000) (hT : ∀ m, m < 2 ^ s → T m = decide (m ∈ qs.map (·.2))) :
    c_Family___init__.sem [.ins true ("Family" : Str) [] [], I s, .lst false (qs.map setD)] = .ok .non [famD true s T] := by
  have p64 := pow64 F.h6
  simp only [c_Family___init__, b_Family___init__, N_Family___init__, rd_non, rd_bl, rd_int, rd_str, rd_scr, rd_tup, rd_lst, rd_ins, rd_tupT, rd_lstT, rd_insT, pk_non, pk_bl, pk_int, pk_str, pk_scr, pk_tup, pk_lst, pk_ins, x_var, x_glo, x_int, x_bl, x_non, x_str, x_bin, x_neg, x_nt, x_an, x_or, x_cmp, x_chn, x_ite, x_tup, x_lst, x_sub, x_subv, x_att, x_attv, x_call, x_bi, x_biv, x_lc, x_mk, x_met, x_isi, x_gcd, x_bln, xs_nil, xs_cons, xa_nil, xa_cons, xa_lend, xr_seq, xr_rng1, xr_rng2, xr_enm, xr_rev, xt_an, xt_or, xt_nt, xt_cmp, xt_chn, xt_tv, xts_nil, xts_one, y_asg, y_exp, y_ret, y_retN, y_ite, y_fr, y_brk, y_cnt, y_pas, y_par, ys_nil, ys_cons, y_unp, y_setv, y_apG, y_app, y_stf, run_nx, run_ret, io_t, io_f, io_n, ln_nil, ln_cons, ln_lend, f_non, f_bl, f_int, f_str, f_tup, f_lst, f_ins, f_tupT, f_lstT, f_insT, fs_nil, fs_cons, fs_I, fs_blf, fs_If, fs_tupf, fs_lstf, fs_lstT, fs_app, fs_rev, it_eq, it_l, it_t, it_bl, it_int, it_non, it_str, it_tup, it_lst, it_ins, it_lstT, iu_bl, iu_int, iu_non, iu_str, iu_tup, iu_lst, iu_ins, sb_t, sb_l, y_appi, it_m1, fs_int, runF_eq, bind_ok, opt_some, ↓nxt_nx, ↓nxt_ret, ↓nxt_brk, ↓nxt_cnt, mayO_some, ↓onB_bl, ↓onO_some, blO_bl, ng_int, nt_bl, i_tup, i_lst, l_lst, t_bl, range0, asgT, wipeE, saved, restore, putBack, List.getElem?_cons_zero, List.getElem?_cons_succ, List.set_cons_zero, List.set_cons_succ, List.length_cons, List.length_nil, List.cons_append, List.nil_append, List.replicate_succ, List.replicate_zero, List.getD_cons_zero, List.getD_cons_succ, List.map_nil, List.map_cons, List.any_cons, List.any_nil, Nat.reduceSub, Nat.reduceAdd, Nat.reduceLT, Nat.reduceLeDiff, Nat.zero_add, if_true, ite_true, ite_false, reduceIte, D.own, Bool.false_eq_true, Option.bind_some, Option.map_some, Bool.or_false, Bool.false_or, Bool.not_true, Bool.not_false, decide_true, decide_false, lim, n_add, n_shr, n_and, n_eq, n_ne, n_lt, n_le, n_gt, n_ge, c_isN_non, c_isN_tup, n_sum, n_all, n_any, n_listS, n_lenL, n_lenT, n_intI, n_tupleT, n_tuple, n_list, n_listT, n_allf, n_anyf, n_sumf, nw_I, nw_If, nw_bl, nw_tup, nw_lst, k_ii, k_ib, k_is, k_il, k_it, k_bb, k_bi, k_tt, k_tl, k_ll, k_lt, k_llt, k_tlt, n_inT, n_or, call1 (s_check_size F.h1 F.h6), call2 (s_checked F.h6 hq hl), shl6 F.h6, n_rep (show 2 ^ s ≤ 1000 by omega)]
  refine run_fold (st := fun tb e => tb.length = 2 ^ s ∧ ∃ a, e = [.ins true ("Family" : Str) [] [], I s, .lst false (qs.map setD), .lst false (qs.map fun q => thD q.2), .lst true tb, a, .hole, .hole]) (f := fun tb q => tb.set q.2 (.bl true)) (s0 := List.replicate (2 ^ s) (D.bl false)) (fun q env tb hq1 he => ?_) ⟨by simp, _, rfl⟩ fun e he => ?_
  · obtain ⟨h1, a, rfl⟩ := he
    refine ⟨_, rfl, ?_⟩
    have := hq q hq1
    simp only [rd_non, rd_bl, rd_int, rd_str, rd_scr, rd_tup, rd_lst, rd_ins, rd_tupT, rd_lstT, rd_insT, pk_non, pk_bl, pk_int, pk_str, pk_scr, pk_tup, pk_lst, pk_ins, x_var, x_glo, x_int, x_bl, x_non, x_str, x_bin, x_neg, x_nt, x_an, x_or, x_cmp, x_chn, x_ite, x_tup, x_lst, x_sub, x_subv, x_att, x_attv, x_call, x_bi, x_biv, x_lc, x_mk, x_met, x_isi, x_gcd, x_bln, xs_nil, xs_cons, xa_nil, xa_cons, xa_lend, xr_seq, xr_rng1, xr_rng2, xr_enm, xr_rev, xt_an, xt_or, xt_nt, xt_cmp, xt_chn, xt_tv, xts_nil, xts_one, y_asg, y_exp, y_ret, y_retN, y_ite, y_fr, y_brk, y_cnt, y_pas, y_par, ys_nil, ys_cons, y_unp, y_setv, y_apG, y_app, y_stf, run_nx, run_ret, io_t, io_f, io_n, ln_nil, ln_cons, ln_lend, f_non, f_bl, f_int, f_str, f_tup, f_lst, f_ins, f_tupT, f_lstT, f_insT, fs_nil, fs_cons, fs_I, fs_blf, fs_If, fs_tupf, fs_lstf, fs_lstT, fs_app, fs_rev, it_eq, it_l, it_t, it_bl, it_int, it_non, it_str, it_tup, it_lst, it_ins, it_lstT, iu_bl, iu_int, iu_non, iu_str, iu_tup, iu_lst, iu_ins, sb_t, sb_l, y_appi, it_m1, fs_int, runF_eq, bind_ok, opt_some, ↓nxt_nx, ↓nxt_ret, ↓nxt_brk, ↓nxt_cnt, mayO_some, ↓onB_bl, ↓onO_some, blO_bl, ng_int, nt_bl, i_tup, i_lst, l_lst, t_bl, range0, asgT, wipeE, saved, restore, putBack, List.getElem?_cons_zero, List.getElem?_cons_succ, List.set_cons_zero, List.set_cons_succ, List.length_cons, List.length_nil, List.cons_append, List.nil_append, List.replicate_succ, List.replicate_zero, List.getD_cons_zero, List.getD_cons_succ, List.map_nil, List.map_cons, List.any_cons, List.any_nil, Nat.reduceSub, Nat.reduceAdd, Nat.reduceLT, Nat.reduceLeDiff, Nat.zero_add, if_true, ite_true, ite_false, reduceIte, D.own, Bool.false_eq_true, Option.bind_some, Option.map_some, Bool.or_false, Bool.false_or, Bool.not_true, Bool.not_false, decide_true, decide_false, lim, n_add, n_shr, n_and, n_eq, n_ne, n_lt, n_le, n_gt, n_ge, c_isN_non, c_isN_tup, n_sum, n_all, n_any, n_listS, n_lenL, n_lenT, n_intI, n_tupleT, n_tuple, n_list, n_listT, n_allf, n_anyf, n_sumf, nw_I, nw_If, nw_bl, nw_tup, nw_lst, k_ii, k_ib, k_is, k_il, k_it, k_bb, k_bi, k_tt, k_tl, k_ll, k_lt, k_llt, k_tlt, n_inT, n_or, call1 (s_mask_of (lt64 F.h6 this)), setL_ok (show q.2 < tb.length by omega)]
    exact gs ⟨by simpa using h1, _, rfl⟩
  · obtain ⟨h1, a, rfl⟩ := he
    rw [show qs.foldl (fun tb q => tb.set q.2 (.bl true)) (List.replicate (2 ^ s) (D.bl false)) = tabL s T by
      have := fold_tab s T (qs.map (·.2)) hT (fun m hm => by obtain ⟨q, h, rfl⟩ := List.mem_map.mp hm; exact hq q h)
      rw [List.foldl_map] at this; exact this]
    simp only [rd_non, rd_bl, rd_int, rd_str, rd_scr, rd_tup, rd_lst, rd_ins, rd_tupT, rd_lstT, rd_insT, pk_non, pk_bl, pk_int, pk_str, pk_scr, pk_tup, pk_lst, pk_ins, x_var, x_glo, x_int, x_bl, x_non, x_str, x_bin, x_neg, x_nt, x_an, x_or, x_cmp, x_chn, x_ite, x_tup, x_lst, x_sub, x_subv, x_att, x_attv, x_call, x_bi, x_biv, x_lc, x_mk, x_met, x_isi, x_gcd, x_bln, xs_nil, xs_cons, xa_nil, xa_cons, xa_lend, xr_seq, xr_rng1, xr_rng2, xr_enm, xr_rev, xt_an, xt_or, xt_nt, xt_cmp, xt_chn, xt_tv, xts_nil, xts_one, y_asg, y_exp, y_ret, y_retN, y_ite, y_fr, y_brk, y_cnt, y_pas, y_par, ys_nil, ys_cons, y_unp, y_setv, y_apG, y_app, y_stf, run_nx, run_ret, io_t, io_f, io_n, ln_nil, ln_cons, ln_lend, f_non, f_bl, f_int, f_str, f_tup, f_lst, f_ins, f_tupT, f_lstT, f_insT, fs_nil, fs_cons, fs_I, fs_blf, fs_If, fs_tupf, fs_lstf, fs_lstT, fs_app, fs_rev, it_eq, it_l, it_t, it_bl, it_int, it_non, it_str, it_tup, it_lst, it_ins, it_lstT, iu_bl, iu_int, iu_non, iu_str, iu_tup, iu_lst, iu_ins, sb_t, sb_l, y_appi, it_m1, fs_int, runF_eq, bind_ok, opt_some, ↓nxt_nx, ↓nxt_ret, ↓nxt_brk, ↓nxt_cnt, mayO_some, ↓onB_bl, ↓onO_some, blO_bl, ng_int, nt_bl, i_tup, i_lst, l_lst, t_bl, range0, asgT, wipeE, saved, restore, putBack, List.getElem?_cons_zero, List.getElem?_cons_succ, List.set_cons_zero, List.set_cons_succ, List.length_cons, List.length_nil, List.cons_append, List.nil_append, List.replicate_succ, List.replicate_zero, List.getD_cons_zero, List.getD_cons_succ, List.map_nil, List.map_cons, List.any_cons, List.any_nil, Nat.reduceSub, Nat.reduceAdd, Nat.reduceLT, Nat.reduceLeDiff, Nat.zero_add, if_true, ite_true, ite_false, reduceIte, D.own, Bool.false_eq_true, Option.bind_some, Option.map_some, Bool.or_false, Bool.false_or, Bool.not_true, Bool.not_false, decide_true, decide_false, lim, n_add, n_shr, n_and, n_eq, n_ne, n_lt, n_le, n_gt, n_ge, c_isN_non, c_isN_tup, n_sum, n_all, n_any, n_listS, n_lenL, n_lenT, n_intI, n_tupleT, n_tuple, n_list, n_listT, n_allf, n_anyf, n_sumf, nw_I, nw_If, nw_bl, nw_tup, nw_lst, k_ii, k_ib, k_is, k_il, k_it, k_bb, k_bi, k_tt, k_tl, k_ll, k_lt, k_llt, k_tlt, n_inT, n_or, call1 (s_all_sets F.h1 F.h6)]
    refine run_for (P := fun _ e => ∃ a b, e = [.ins true ("Family" : Str) [] [], I s, .lst false (qs.map setD), .lst false (qs.map fun q => thD q.2), .lst true (tabL s T), a, b, .hole]) (fun m env pre hm _ he => ?_) ⟨_, _, rfl⟩ fun e he => ?_
    · obtain ⟨a, b, rfl⟩ := he
      refine ⟨_, rfl, ?_⟩
      have hm2 := ord_lt F.h6 hm
      cases hTm : T m with
      | true =>
        simp only [rd_non, rd_bl, rd_int, rd_str, rd_scr, rd_tup, rd_lst, rd_ins, rd_tupT, rd_lstT, rd_insT, pk_non, pk_bl, pk_int, pk_str, pk_scr, pk_tup, pk_lst, pk_ins, x_var, x_glo, x_int, x_bl, x_non, x_str, x_bin, x_neg, x_nt, x_an, x_or, x_cmp, x_chn, x_ite, x_tup, x_lst, x_sub, x_subv, x_att, x_attv, x_call, x_bi, x_biv, x_lc, x_mk, x_met, x_isi, x_gcd, x_bln, xs_nil, xs_cons, xa_nil, xa_cons, xa_lend, xr_seq, xr_rng1, xr_rng2, xr_enm, xr_rev, xt_an, xt_or, xt_nt, xt_cmp, xt_chn, xt_tv, xts_nil, xts_one, y_asg, y_exp, y_ret, y_retN, y_ite, y_fr, y_brk, y_cnt, y_pas, y_par, ys_nil, ys_cons, y_unp, y_setv, y_apG, y_app, y_stf, run_nx, run_ret, io_t, io_f, io_n, ln_nil, ln_cons, ln_lend, f_non, f_bl, f_int, f_str, f_tup, f_lst, f_ins, f_tupT, f_lstT, f_insT, fs_nil, fs_cons, fs_I, fs_blf, fs_If, fs_tupf, fs_lstf, fs_lstT, fs_app, fs_rev, it_eq, it_l, it_t, it_bl, it_int, it_non, it_str, it_tup, it_lst, it_ins, it_lstT, iu_bl, iu_int, iu_non, iu_str, iu_tup, iu_lst, iu_ins, sb_t, sb_l, y_appi, it_m1, fs_int, runF_eq, bind_ok, opt_some, ↓nxt_nx, ↓nxt_ret, ↓nxt_brk, ↓nxt_cnt, mayO_some, ↓onB_bl, ↓onO_some, blO_bl, ng_int, nt_bl, i_tup, i_lst, l_lst, t_bl, range0, asgT, wipeE, saved, restore, putBack, List.getElem?_cons_zero, List.getElem?_cons_succ, List.set_cons_zero, List.set_cons_succ, List.length_cons, List.length_nil, List.cons_append, List.nil_append, List.replicate_succ, List.replicate_zero, List.getD_cons_zero, List.getD_cons_succ, List.map_nil, List.map_cons, List.any_cons, List.any_nil, Nat.reduceSub, Nat.reduceAdd, Nat.reduceLT, Nat.reduceLeDiff, Nat.zero_add, if_true, ite_true, ite_false, reduceIte, D.own, Bool.false_eq_true, Option.bind_some, Option.map_some, Bool.or_false, Bool.false_or, Bool.not_true, Bool.not_false, decide_true, decide_false, lim, n_add, n_shr, n_and, n_eq, n_ne, n_lt, n_le, n_gt, n_ge, c_isN_non, c_isN_tup, n_sum, n_all, n_any, n_listS, n_lenL, n_lenT, n_intI, n_tupleT, n_tuple, n_list, n_listT, n_allf, n_anyf, n_sumf, nw_I, nw_If, nw_bl, nw_tup, nw_lst, k_ii, k_ib, k_is, k_il, k_it, k_bb, k_bi, k_tt, k_tl, k_ll, k_lt, k_llt, k_tlt, n_inT, n_or, call1 (s_mask_of (lt64 F.h6 hm2)), it_eq, tab_get hm2, hTm]
        exact gs ⟨_, _, rfl⟩
      | false =>
        have h0 : m ≠ 0 := fun e => by subst e; rw [F.zero] at hTm; cases hTm
        simp only [rd_non, rd_bl, rd_int, rd_str, rd_scr, rd_tup, rd_lst, rd_ins, rd_tupT, rd_lstT, rd_insT, pk_non, pk_bl, pk_int, pk_str, pk_scr, pk_tup, pk_lst, pk_ins, x_var, x_glo, x_int, x_bl, x_non, x_str, x_bin, x_neg, x_nt, x_an, x_or, x_cmp, x_chn, x_ite, x_tup, x_lst, x_sub, x_subv, x_att, x_attv, x_call, x_bi, x_biv, x_lc, x_mk, x_met, x_isi, x_gcd, x_bln, xs_nil, xs_cons, xa_nil, xa_cons, xa_lend, xr_seq, xr_rng1, xr_rng2, xr_enm, xr_rev, xt_an, xt_or, xt_nt, xt_cmp, xt_chn, xt_tv, xts_nil, xts_one, y_asg, y_exp, y_ret, y_retN, y_ite, y_fr, y_brk, y_cnt, y_pas, y_par, ys_nil, ys_cons, y_unp, y_setv, y_apG, y_app, y_stf, run_nx, run_ret, io_t, io_f, io_n, ln_nil, ln_cons, ln_lend, f_non, f_bl, f_int, f_str, f_tup, f_lst, f_ins, f_tupT, f_lstT, f_insT, fs_nil, fs_cons, fs_I, fs_blf, fs_If, fs_tupf, fs_lstf, fs_lstT, fs_app, fs_rev, it_eq, it_l, it_t, it_bl, it_int, it_non, it_str, it_tup, it_lst, it_ins, it_lstT, iu_bl, iu_int, iu_non, iu_str, iu_tup, iu_lst, iu_ins, sb_t, sb_l, y_appi, it_m1, fs_int, runF_eq, bind_ok, opt_some, ↓nxt_nx, ↓nxt_ret, ↓nxt_brk, ↓nxt_cnt, mayO_some, ↓onB_bl, ↓onO_some, blO_bl, ng_int, nt_bl, i_tup, i_lst, l_lst, t_bl, range0, asgT, wipeE, saved, restore, putBack, List.getElem?_cons_zero, List.getElem?_cons_succ, List.set_cons_zero, List.set_cons_succ, List.length_cons, List.length_nil, List.cons_append, List.nil_append, List.replicate_succ, List.replicate_zero, List.getD_cons_zero, List.getD_cons_succ, List.map_nil, List.map_cons, List.any_cons, List.any_nil, Nat.reduceSub, Nat.reduceAdd, Nat.reduceLT, Nat.reduceLeDiff, Nat.zero_add, if_true, ite_true, ite_false, reduceIte, D.own, Bool.false_eq_true, Option.bind_some, Option.map_some, Bool.or_false, Bool.false_or, Bool.not_true, Bool.not_false, decide_true, decide_false, lim, n_add, n_shr, n_and, n_eq, n_ne, n_lt, n_le, n_gt, n_ge, c_isN_non, c_isN_tup, n_sum, n_all, n_any, n_listS, n_lenL, n_lenT, n_intI, n_tupleT, n_tuple, n_list, n_listT, n_allf, n_anyf, n_sumf, nw_I, nw_If, nw_bl, nw_tup, nw_lst, k_ii, k_ib, k_is, k_il, k_it, k_bb, k_bi, k_tt, k_tl, k_ll, k_lt, k_llt, k_tlt, n_inT, n_or, call1 (s_mask_of (lt64 F.h6 hm2)), it_eq, tab_get hm2, hTm, h0]
        rw [lcR_map (f := fun q => .bl (sub m q.2))]
        · simp only [rd_non, rd_bl, rd_int, rd_str, rd_scr, rd_tup, rd_lst, rd_ins, rd_tupT, rd_lstT, rd_insT, pk_non, pk_bl, pk_int, pk_str, pk_scr, pk_tup, pk_lst, pk_ins, x_var, x_glo, x_int, x_bl, x_non, x_str, x_bin, x_neg, x_nt, x_an, x_or, x_cmp, x_chn, x_ite, x_tup, x_lst, x_sub, x_subv, x_att, x_attv, x_call, x_bi, x_biv, x_lc, x_mk, x_met, x_isi, x_gcd, x_bln, xs_nil, xs_cons, xa_nil, xa_cons, xa_lend, xr_seq, xr_rng1, xr_rng2, xr_enm, xr_rev, xt_an, xt_or, xt_nt, xt_cmp, xt_chn, xt_tv, xts_nil, xts_one, y_asg, y_exp, y_ret, y_retN, y_ite, y_fr, y_brk, y_cnt, y_pas, y_par, ys_nil, ys_cons, y_unp, y_setv, y_apG, y_app, y_stf, run_nx, run_ret, io_t, io_f, io_n, ln_nil, ln_cons, ln_lend, f_non, f_bl, f_int, f_str, f_tup, f_lst, f_ins, f_tupT, f_lstT, f_insT, fs_nil, fs_cons, fs_I, fs_blf, fs_If, fs_tupf, fs_lstf, fs_lstT, fs_app, fs_rev, it_eq, it_l, it_t, it_bl, it_int, it_non, it_str, it_tup, it_lst, it_ins, it_lstT, iu_bl, iu_int, iu_non, iu_str, iu_tup, iu_lst, iu_ins, sb_t, sb_l, y_appi, it_m1, fs_int, runF_eq, bind_ok, opt_some, ↓nxt_nx, ↓nxt_ret, ↓nxt_brk, ↓nxt_cnt, mayO_some, ↓onB_bl, ↓onO_some, blO_bl, ng_int, nt_bl, i_tup, i_lst, l_lst, t_bl, range0, asgT, wipeE, saved, restore, putBack, List.getElem?_cons_zero, List.getElem?_cons_succ, List.set_cons_zero, List.set_cons_succ, List.length_cons, List.length_nil, List.cons_append, List.nil_append, List.replicate_succ, List.replicate_zero, List.getD_cons_zero, List.getD_cons_succ, List.map_nil, List.map_cons, List.any_cons, List.any_nil, Nat.reduceSub, Nat.reduceAdd, Nat.reduceLT, Nat.reduceLeDiff, Nat.zero_add, if_true, ite_true, ite_false, reduceIte, D.own, Bool.false_eq_true, Option.bind_some, Option.map_some, Bool.or_false, Bool.false_or, Bool.not_true, Bool.not_false, decide_true, decide_false, lim, n_add, n_shr, n_and, n_eq, n_ne, n_lt, n_le, n_gt, n_ge, c_isN_non, c_isN_tup, n_sum, n_all, n_any, n_listS, n_lenL, n_lenT, n_intI, n_tupleT, n_tuple, n_list, n_listT, n_allf, n_anyf, n_sumf, nw_I, nw_If, nw_bl, nw_tup, nw_lst, k_ii, k_ib, k_is, k_il, k_it, k_bb, k_bi, k_tt, k_tl, k_ll, k_lt, k_llt, k_tlt, n_inT, n_or]
          rw [show (qs.any fun q => sub m q.2) = false by
            rw [List.any_eq_false]; intro q hq2 hs
            have h4 := F.down m q.2 (hq q hq2) (by rw [hT _ (hq q hq2)]; exact decide_eq_true (List.mem_map.mpr ⟨q, hq2, rfl⟩)) hs
            rw [hTm] at h4; cases h4]
          simp only [rd_non, rd_bl, rd_int, rd_str, rd_scr, rd_tup, rd_lst, rd_ins, rd_tupT, rd_lstT, rd_insT, pk_non, pk_bl, pk_int, pk_str, pk_scr, pk_tup, pk_lst, pk_ins, x_var, x_glo, x_int, x_bl, x_non, x_str, x_bin, x_neg, x_nt, x_an, x_or, x_cmp, x_chn, x_ite, x_tup, x_lst, x_sub, x_subv, x_att, x_attv, x_call, x_bi, x_biv, x_lc, x_mk, x_met, x_isi, x_gcd, x_bln, xs_nil, xs_cons, xa_nil, xa_cons, xa_lend, xr_seq, xr_rng1, xr_rng2, xr_enm, xr_rev, xt_an, xt_or, xt_nt, xt_cmp, xt_chn, xt_tv, xts_nil, xts_one, y_asg, y_exp, y_ret, y_retN, y_ite, y_fr, y_brk, y_cnt, y_pas, y_par, ys_nil, ys_cons, y_unp, y_setv, y_apG, y_app, y_stf, run_nx, run_ret, io_t, io_f, io_n, ln_nil, ln_cons, ln_lend, f_non, f_bl, f_int, f_str, f_tup, f_lst, f_ins, f_tupT, f_lstT, f_insT, fs_nil, fs_cons, fs_I, fs_blf, fs_If, fs_tupf, fs_lstf, fs_lstT, fs_app, fs_rev, it_eq, it_l, it_t, it_bl, it_int, it_non, it_str, it_tup, it_lst, it_ins, it_lstT, iu_bl, iu_int, iu_non, iu_str, iu_tup, iu_lst, iu_ins, sb_t, sb_l, y_appi, it_m1, fs_int, runF_eq, bind_ok, opt_some, ↓nxt_nx, ↓nxt_ret, ↓nxt_brk, ↓nxt_cnt, mayO_some, ↓onB_bl, ↓onO_some, blO_bl, ng_int, nt_bl, i_tup, i_lst, l_lst, t_bl, range0, asgT, wipeE, saved, restore, putBack, List.getElem?_cons_zero, List.getElem?_cons_succ, List.set_cons_zero, List.set_cons_succ, List.length_cons, List.length_nil, List.cons_append, List.nil_append, List.replicate_succ, List.replicate_zero, List.getD_cons_zero, List.getD_cons_succ, List.map_nil, List.map_cons, List.any_cons, List.any_nil, Nat.reduceSub, Nat.reduceAdd, Nat.reduceLT, Nat.reduceLeDiff, Nat.zero_add, if_true, ite_true, ite_false, reduceIte, D.own, Bool.false_eq_true, Option.bind_some, Option.map_some, Bool.or_false, Bool.false_or, Bool.not_true, Bool.not_false, decide_true, decide_false, lim]
          exact gs ⟨_, _, rfl⟩
        · intro q hq2
          refine ⟨_, rfl, ?_⟩
          simp only [rd_non, rd_bl, rd_int, rd_str, rd_scr, rd_tup, rd_lst, rd_ins, rd_tupT, rd_lstT, rd_insT, pk_non, pk_bl, pk_int, pk_str, pk_scr, pk_tup, pk_lst, pk_ins, x_var, x_glo, x_int, x_bl, x_non, x_str, x_bin, x_neg, x_nt, x_an, x_or, x_cmp, x_chn, x_ite, x_tup, x_lst, x_sub, x_subv, x_att, x_attv, x_call, x_bi, x_biv, x_lc, x_mk, x_met, x_isi, x_gcd, x_bln, xs_nil, xs_cons, xa_nil, xa_cons, xa_lend, xr_seq, xr_rng1, xr_rng2, xr_enm, xr_rev, xt_an, xt_or, xt_nt, xt_cmp, xt_chn, xt_tv, xts_nil, xts_one, y_asg, y_exp, y_ret, y_retN, y_ite, y_fr, y_brk, y_cnt, y_pas, y_par, ys_nil, ys_cons, y_unp, y_setv, y_apG, y_app, y_stf, run_nx, run_ret, io_t, io_f, io_n, ln_nil, ln_cons, ln_lend, f_non, f_bl, f_int, f_str, f_tup, f_lst, f_ins, f_tupT, f_lstT, f_insT, fs_nil, fs_cons, fs_I, fs_blf, fs_If, fs_tupf, fs_lstf, fs_lstT, fs_app, fs_rev, it_eq, it_l, it_t, it_bl, it_int, it_non, it_str, it_tup, it_lst, it_ins, it_lstT, iu_bl, iu_int, iu_non, iu_str, iu_tup, iu_lst, iu_ins, sb_t, sb_l, y_appi, it_m1, fs_int, runF_eq, bind_ok, opt_some, ↓nxt_nx, ↓nxt_ret, ↓nxt_brk, ↓nxt_cnt, mayO_some, ↓onB_bl, ↓onO_some, blO_bl, ng_int, nt_bl, i_tup, i_lst, l_lst, t_bl, range0, asgT, wipeE, saved, restore, putBack, List.getElem?_cons_zero, List.getElem?_cons_succ, List.set_cons_zero, List.set_cons_succ, List.length_cons, List.length_nil, List.cons_append, List.nil_append, List.replicate_succ, List.replicate_zero, List.getD_cons_zero, List.getD_cons_succ, List.map_nil, List.map_cons, List.any_cons, List.any_nil, Nat.reduceSub, Nat.reduceAdd, Nat.reduceLT, Nat.reduceLeDiff, Nat.zero_add, if_true, ite_true, ite_false, reduceIte, D.own, Bool.false_eq_true, Option.bind_some, Option.map_some, Bool.or_false, Bool.false_or, Bool.not_true, Bool.not_false, decide_true, decide_false, lim, n_add, n_shr, n_and, n_eq, n_ne, n_lt, n_le, n_gt, n_ge, c_isN_non, c_isN_tup, n_sum, n_all, n_any, n_listS, n_lenL, n_lenT, n_intI, n_tupleT, n_tuple, n_list, n_listT, n_allf, n_anyf, n_sumf, nw_I, nw_If, nw_bl, nw_tup, nw_lst, k_ii, k_ib, k_is, k_il, k_it, k_bb, k_bi, k_tt, k_tl, k_ll, k_lt, k_llt, k_tlt, n_inT, n_or, call1 (s_mask_of (lt64 F.h6 (hq q hq2))), call2 (s_within (lt64 F.h6 hm2) (lt64 F.h6 (hq q hq2)))]
          exact gd rfl
        · exact le_lim hl
        · rfl
    · obtain ⟨a, b, rfl⟩ := he
      simp only [rd_non, rd_bl, rd_int, rd_str, rd_scr, rd_tup, rd_lst, rd_ins, rd_tupT, rd_lstT, rd_insT, pk_non, pk_bl, pk_int, pk_str, pk_scr, pk_tup, pk_lst, pk_ins, x_var, x_glo, x_int, x_bl, x_non, x_str, x_bin, x_neg, x_nt, x_an, x_or, x_cmp, x_chn, x_ite, x_tup, x_lst, x_sub, x_subv, x_att, x_attv, x_call, x_bi, x_biv, x_lc, x_mk, x_met, x_isi, x_gcd, x_bln, xs_nil, xs_cons, xa_nil, xa_cons, xa_lend, xr_seq, xr_rng1, xr_rng2, xr_enm, xr_rev, xt_an, xt_or, xt_nt, xt_cmp, xt_chn, xt_tv, xts_nil, xts_one, y_asg, y_exp, y_ret, y_retN, y_ite, y_fr, y_brk, y_cnt, y_pas, y_par, ys_nil, ys_cons, y_unp, y_setv, y_apG, y_app, y_stf, run_nx, run_ret, io_t, io_f, io_n, ln_nil, ln_cons, ln_lend, f_non, f_bl, f_int, f_str, f_tup, f_lst, f_ins, f_tupT, f_lstT, f_insT, fs_nil, fs_cons, fs_I, fs_blf, fs_If, fs_tupf, fs_lstf, fs_lstT, fs_app, fs_rev, it_eq, it_l, it_t, it_bl, it_int, it_non, it_str, it_tup, it_lst, it_ins, it_lstT, iu_bl, iu_int, iu_non, iu_str, iu_tup, iu_lst, iu_ins, sb_t, sb_l, y_appi, it_m1, fs_int, runF_eq, bind_ok, opt_some, ↓nxt_nx, ↓nxt_ret, ↓nxt_brk, ↓nxt_cnt, mayO_some, ↓onB_bl, ↓onO_some, blO_bl, ng_int, nt_bl, i_tup, i_lst, l_lst, t_bl, range0, asgT, wipeE, saved, restore, putBack, List.getElem?_cons_zero, List.getElem?_cons_succ, List.set_cons_zero, List.set_cons_succ, List.length_cons, List.length_nil, List.cons_append, List.nil_append, List.replicate_succ, List.replicate_zero, List.getD_cons_zero, List.getD_cons_succ, List.map_nil, List.map_cons, List.any_cons, List.any_nil, Nat.reduceSub, Nat.reduceAdd, Nat.reduceLT, Nat.reduceLeDiff, Nat.zero_add, if_true, ite_true, ite_false, reduceIte, D.own, Bool.false_eq_true, Option.bind_some, Option.map_some, Bool.or_false, Bool.false_or, Bool.not_true, Bool.not_false, decide_true, decide_false, lim, n_add, n_shr, n_and, n_eq, n_ne, n_lt, n_le, n_gt, n_ge, c_isN_non, c_isN_tup, n_sum, n_all, n_any, n_listS, n_lenL, n_lenT, n_intI, n_tupleT, n_tuple, n_list, n_listT, n_allf, n_anyf, n_sumf, nw_I, nw_If, nw_bl, nw_tup, nw_lst, k_ii, k_ib, k_is, k_il, k_it, k_bb, k_bi, k_tt, k_tl, k_ll, k_lt, k_llt, k_tlt, n_inT, n_or, call1 (s_all_sets F.h1 F.h6), stfL_ok (ns := []) (f := ("size" : Str)) (by decide +kernel), stfL_ok (ns := [("size" : Str)]) (f := ("table" : Str)) (by decide +kernel), tab_nown]
      rw [lcR_ok (p := T) (f := thD)]
      · simp only [rd_non, rd_bl, rd_int, rd_str, rd_scr, rd_tup, rd_lst, rd_ins, rd_tupT, rd_lstT, rd_insT, pk_non, pk_bl, pk_int, pk_str, pk_scr, pk_tup, pk_lst, pk_ins, x_var, x_glo, x_int, x_bl, x_non, x_str, x_bin, x_neg, x_nt, x_an, x_or, x_cmp, x_chn, x_ite, x_tup, x_lst, x_sub, x_subv, x_att, x_attv, x_call, x_bi, x_biv, x_lc, x_mk, x_met, x_isi, x_gcd, x_bln, xs_nil, xs_cons, xa_nil, xa_cons, xa_lend, xr_seq, xr_rng1, xr_rng2, xr_enm, xr_rev, xt_an, xt_or, xt_nt, xt_cmp, xt_chn, xt_tv, xts_nil, xts_one, y_asg, y_exp, y_ret, y_retN, y_ite, y_fr, y_brk, y_cnt, y_pas, y_par, ys_nil, ys_cons, y_unp, y_setv, y_apG, y_app, y_stf, run_nx, run_ret, io_t, io_f, io_n, ln_nil, ln_cons, ln_lend, f_non, f_bl, f_int, f_str, f_tup, f_lst, f_ins, f_tupT, f_lstT, f_insT, fs_nil, fs_cons, fs_I, fs_blf, fs_If, fs_tupf, fs_lstf, fs_lstT, fs_app, fs_rev, it_eq, it_l, it_t, it_bl, it_int, it_non, it_str, it_tup, it_lst, it_ins, it_lstT, iu_bl, iu_int, iu_non, iu_str, iu_tup, iu_lst, iu_ins, sb_t, sb_l, y_appi, it_m1, fs_int, runF_eq, bind_ok, opt_some, ↓nxt_nx, ↓nxt_ret, ↓nxt_brk, ↓nxt_cnt, mayO_some, ↓onB_bl, ↓onO_some, blO_bl, ng_int, nt_bl, i_tup, i_lst, l_lst, t_bl, range0, asgT, wipeE, saved, restore, putBack, List.getElem?_cons_zero, List.getElem?_cons_succ, List.set_cons_zero, List.set_cons_succ, List.length_cons, List.length_nil, List.cons_append, List.nil_append, List.replicate_succ, List.replicate_zero, List.getD_cons_zero, List.getD_cons_succ, List.map_nil, List.map_cons, List.any_cons, List.any_nil, Nat.reduceSub, Nat.reduceAdd, Nat.reduceLT, Nat.reduceLeDiff, Nat.zero_add, if_true, ite_true, ite_false, reduceIte, D.own, Bool.false_eq_true, Option.bind_some, Option.map_some, Bool.or_false, Bool.false_or, Bool.not_true, Bool.not_false, decide_true, decide_false, lim, n_add, n_shr, n_and, n_eq, n_ne, n_lt, n_le, n_gt, n_ge, c_isN_non, c_isN_tup, n_sum, n_all, n_any, n_listS, n_lenL, n_lenT, n_intI, n_tupleT, n_tuple, n_list, n_listT, n_allf, n_anyf, n_sumf, nw_I, nw_If, nw_bl, nw_tup, nw_lst, k_ii, k_ib, k_is, k_il, k_it, k_bb, k_bi, k_tt, k_tl, k_ll, k_lt, k_llt, k_tlt, n_inT, n_or, stfL_ok (ns := [("size" : Str), ("table" : Str)]) (f := ("sets" : Str)) (by decide +kernel)]
        rfl
      · intro m hm
        have hm2 := ord_lt F.h6 hm
        refine ⟨_, rfl, ?_⟩
        simp only [rd_non, rd_bl, rd_int, rd_str, rd_scr, rd_tup, rd_lst, rd_ins, rd_tupT, rd_lstT, rd_insT, pk_non, pk_bl, pk_int, pk_str, pk_scr, pk_tup, pk_lst, pk_ins, x_var, x_glo, x_int, x_bl, x_non, x_str, x_bin, x_neg, x_nt, x_an, x_or, x_cmp, x_chn, x_ite, x_tup, x_lst, x_sub, x_subv, x_att, x_attv, x_call, x_bi, x_biv, x_lc, x_mk, x_met, x_isi, x_gcd, x_bln, xs_nil, xs_cons, xa_nil, xa_cons, xa_lend, xr_seq, xr_rng1, xr_rng2, xr_enm, xr_rev, xt_an, xt_or, xt_nt, xt_cmp, xt_chn, xt_tv, xts_nil, xts_one, y_asg, y_exp, y_ret, y_retN, y_ite, y_fr, y_brk, y_cnt, y_pas, y_par, ys_nil, ys_cons, y_unp, y_setv, y_apG, y_app, y_stf, run_nx, run_ret, io_t, io_f, io_n, ln_nil, ln_cons, ln_lend, f_non, f_bl, f_int, f_str, f_tup, f_lst, f_ins, f_tupT, f_lstT, f_insT, fs_nil, fs_cons, fs_I, fs_blf, fs_If, fs_tupf, fs_lstf, fs_lstT, fs_app, fs_rev, it_eq, it_l, it_t, it_bl, it_int, it_non, it_str, it_tup, it_lst, it_ins, it_lstT, iu_bl, iu_int, iu_non, iu_str, iu_tup, iu_lst, iu_ins, sb_t, sb_l, y_appi, it_m1, fs_int, runF_eq, bind_ok, opt_some, ↓nxt_nx, ↓nxt_ret, ↓nxt_brk, ↓nxt_cnt, mayO_some, ↓onB_bl, ↓onO_some, blO_bl, ng_int, nt_bl, i_tup, i_lst, l_lst, t_bl, range0, asgT, wipeE, saved, restore, putBack, List.getElem?_cons_zero, List.getElem?_cons_succ, List.set_cons_zero, List.set_cons_succ, List.length_cons, List.length_nil, List.cons_append, List.nil_append, List.replicate_succ, List.replicate_zero, List.getD_cons_zero, List.getD_cons_succ, List.map_nil, List.map_cons, List.any_cons, List.any_nil, Nat.reduceSub, Nat.reduceAdd, Nat.reduceLT, Nat.reduceLeDiff, Nat.zero_add, if_true, ite_true, ite_false, reduceIte, D.own, Bool.false_eq_true, Option.bind_some, Option.map_some, Bool.or_false, Bool.false_or, Bool.not_true, Bool.not_false, decide_true, decide_false, lim, n_add, n_shr, n_and, n_eq, n_ne, n_lt, n_le, n_gt, n_ge, c_isN_non, c_isN_tup, n_sum, n_all, n_any, n_listS, n_lenL, n_lenT, n_intI, n_tupleT, n_tuple, n_list, n_listT, n_allf, n_anyf, n_sumf, nw_I, nw_If, nw_bl, nw_tup, nw_lst, k_ii, k_ib, k_is, k_il, k_it, k_bb, k_bi, k_tt, k_tl, k_ll, k_lt, k_llt, k_tlt, n_inT, n_or, call1 (s_mask_of (lt64 F.h6 hm2)), it_eq, tab_get hm2]
        refine gt ⟨fun _ => rfl, fun _ => ?_⟩
        simp only [rd_non, rd_bl, rd_int, rd_str, rd_scr, rd_tup, rd_lst, rd_ins, rd_tupT, rd_lstT, rd_insT, pk_non, pk_bl, pk_int, pk_str, pk_scr, pk_tup, pk_lst, pk_ins, x_var, x_glo, x_int, x_bl, x_non, x_str, x_bin, x_neg, x_nt, x_an, x_or, x_cmp, x_chn, x_ite, x_tup, x_lst, x_sub, x_subv, x_att, x_attv, x_call, x_bi, x_biv, x_lc, x_mk, x_met, x_isi, x_gcd, x_bln, xs_nil, xs_cons, xa_nil, xa_cons, xa_lend, xr_seq, xr_rng1, xr_rng2, xr_enm, xr_rev, xt_an, xt_or, xt_nt, xt_cmp, xt_chn, xt_tv, xts_nil, xts_one, y_asg, y_exp, y_ret, y_retN, y_ite, y_fr, y_brk, y_cnt, y_pas, y_par, ys_nil, ys_cons, y_unp, y_setv, y_apG, y_app, y_stf, run_nx, run_ret, io_t, io_f, io_n, ln_nil, ln_cons, ln_lend, f_non, f_bl, f_int, f_str, f_tup, f_lst, f_ins, f_tupT, f_lstT, f_insT, fs_nil, fs_cons, fs_I, fs_blf, fs_If, fs_tupf, fs_lstf, fs_lstT, fs_app, fs_rev, it_eq, it_l, it_t, it_bl, it_int, it_non, it_str, it_tup, it_lst, it_ins, it_lstT, iu_bl, iu_int, iu_non, iu_str, iu_tup, iu_lst, iu_ins, sb_t, sb_l, y_appi, it_m1, fs_int, runF_eq, bind_ok, opt_some, ↓nxt_nx, ↓nxt_ret, ↓nxt_brk, ↓nxt_cnt, mayO_some, ↓onB_bl, ↓onO_some, blO_bl, ng_int, nt_bl, i_tup, i_lst, l_lst, t_bl, range0, asgT, wipeE, saved, restore, putBack, List.getElem?_cons_zero, List.getElem?_cons_succ, List.set_cons_zero, List.set_cons_succ, List.length_cons, List.length_nil, List.cons_append, List.nil_append, List.replicate_succ, List.replicate_zero, List.getD_cons_zero, List.getD_cons_succ, List.map_nil, List.map_cons, List.any_cons, List.any_nil, Nat.reduceSub, Nat.reduceAdd, Nat.reduceLT, Nat.reduceLeDiff, Nat.zero_add, if_true, ite_true, ite_false, reduceIte, D.own, Bool.false_eq_true, Option.bind_some, Option.map_some, Bool.or_false, Bool.false_or, Bool.not_true, Bool.not_false, decide_true, decide_false, lim]
        exact gd rfl
      · exact le_lim (by have := ord_len F.h6; omega)
      · rfl

section
variable {s : Nat} {T : Nat → Bool} {env : En} {m : Bool} {i : Nat}
theorem pk_fam : pkO (some (famD m s T)) = some (famD m s T) := id rfl
theorem rd_fam : rdO (some (famD false s T)) i env = .ok (famD false s T) env := id rfl
theorem f_fam : (famD false s T).frz = famD false s T := id rfl
theorem f_famT : (famD true s T).frz = famD false s T := id rfl
theorem fl_size : fldR ("size" : Str) (famD m s T) env = .ok (I s) env := id rfl
theorem fl_table : fldR ("table" : Str) (famD m s T) env = .ok (.tup false (tabL s T)) env := id rfl
theorem fl_sets : fldR ("sets" : Str) (famD m s T) env = .ok (.tup false ((setsL s T).map thD)) env := id rfl
theorem sets_mem (F : Fam s T) {m : Nat} : m ∈ setsL s T ↔ m < 2 ^ s ∧ T m = true := by
  unfold setsL; rw [List.mem_filter]
  exact ⟨fun h => ⟨ord_lt F.h6 h.1, h.2⟩, fun h => ⟨ord_mem F.h6 h.1, h.2⟩⟩
/-- the sets of the family within a mask -/
def insL (s : Nat) (T : Nat → Bool) (S : Nat) : List Nat := (setsL s T).filter fun o => sub o S
theorem ins_zero (F : Fam s T) (S : Nat) : 0 ∈ insL s T S := by
  unfold insL; rw [List.mem_filter]
  exact ⟨(sets_mem F).mpr ⟨Nat.two_pow_pos s, F.zero⟩, by simp [sub]⟩
theorem ins_ne (F : Fam s T) (S : Nat) : insL s T S ≠ [] := fun e => by have := ins_zero F S; rw [e] at this; cases this
theorem s_mask_rank (F : Fam s T) {S : Nat} (hS : S < 64) : c_Family_mask_rank.sem [famD false s T, I S] = .ok (I (mx ((insL s T S).map cnt))) [] := by
  simp only [c_Family_mask_rank, b_Family_mask_rank, N_Family_mask_rank, rd_non, rd_bl, rd_int, rd_str, rd_scr, rd_tup, rd_lst, rd_ins, rd_tupT, rd_lstT, rd_insT, pk_non, pk_bl, pk_int, pk_str, pk_scr, pk_tup, pk_lst, pk_ins, x_var, x_glo, x_int, x_bl, x_non, x_str, x_bin, x_neg, x_nt, x_an, x_or, x_cmp, x_chn, x_ite, x_tup, x_lst, x_sub, x_subv, x_att, x_attv, x_call, x_bi, x_biv, x_lc, x_mk, x_met, x_isi, x_gcd, x_bln, xs_nil, xs_cons, xa_nil, xa_cons, xa_lend, xr_seq, xr_rng1, xr_rng2, xr_enm, xr_rev, xt_an, xt_or, xt_nt, xt_cmp, xt_chn, xt_tv, xts_nil, xts_one, y_asg, y_exp, y_ret, y_retN, y_ite, y_fr, y_brk, y_cnt, y_pas, y_par, ys_nil, ys_cons, y_unp, y_setv, y_apG, y_app, y_stf, run_nx, run_ret, io_t, io_f, io_n, ln_nil, ln_cons, ln_lend, f_non, f_bl, f_int, f_str, f_tup, f_lst, f_ins, f_tupT, f_lstT, f_insT, fs_nil, fs_cons, fs_I, fs_blf, fs_If, fs_tupf, fs_lstf, fs_lstT, fs_app, fs_rev, it_eq, it_l, it_t, it_bl, it_int, it_non, it_str, it_tup, it_lst, it_ins, it_lstT, iu_bl, iu_int, iu_non, iu_str, iu_tup, iu_lst, iu_ins, sb_t, sb_l, y_appi, it_m1, fs_int, runF_eq, bind_ok, opt_some, ↓nxt_nx, ↓nxt_ret, ↓nxt_brk, ↓nxt_cnt, mayO_some, ↓onB_bl, ↓onO_some, blO_bl, ng_int, nt_bl, i_tup, i_lst, l_lst, t_bl, range0, asgT, wipeE, saved, restore, putBack, List.getElem?_cons_zero, List.getElem?_cons_succ, List.set_cons_zero, List.set_cons_succ, List.length_cons, List.length_nil, List.cons_append, List.nil_append, List.replicate_succ, List.replicate_zero, List.getD_cons_zero, List.getD_cons_succ, List.map_nil, List.map_cons, List.any_cons, List.any_nil, Nat.reduceSub, Nat.reduceAdd, Nat.reduceLT, Nat.reduceLeDiff, Nat.zero_add, if_true, ite_true, ite_false, reduceIte, D.own, Bool.false_eq_true, Option.bind_some, Option.map_some, Bool.or_false, Bool.false_or, Bool.not_true, Bool.not_false, decide_true, decide_false, lim, n_add, n_shr, n_and, n_eq, n_ne, n_lt, n_le, n_gt, n_ge, c_isN_non, c_isN_tup, n_sum, n_all, n_any, n_listS, n_lenL, n_lenT, n_intI, n_tupleT, n_tuple, n_list, n_listT, n_allf, n_anyf, n_sumf, nw_I, nw_If, nw_bl, nw_tup, nw_lst, k_ii, k_ib, k_is, k_il, k_it, k_bb, k_bi, k_tt, k_tl, k_ll, k_lt, k_llt, k_tlt, n_inT, n_or, pk_fam, fl_sets]
  rw [lcR_ok (p := fun o => sub o S) (f := fun o => I (cnt o))]
  · simp only [rd_non, rd_bl, rd_int, rd_str, rd_scr, rd_tup, rd_lst, rd_ins, rd_tupT, rd_lstT, rd_insT, pk_non, pk_bl, pk_int, pk_str, pk_scr, pk_tup, pk_lst, pk_ins, x_var, x_glo, x_int, x_bl, x_non, x_str, x_bin, x_neg, x_nt, x_an, x_or, x_cmp, x_chn, x_ite, x_tup, x_lst, x_sub, x_subv, x_att, x_attv, x_call, x_bi, x_biv, x_lc, x_mk, x_met, x_isi, x_gcd, x_bln, xs_nil, xs_cons, xa_nil, xa_cons, xa_lend, xr_seq, xr_rng1, xr_rng2, xr_enm, xr_rev, xt_an, xt_or, xt_nt, xt_cmp, xt_chn, xt_tv, xts_nil, xts_one, y_asg, y_exp, y_ret, y_retN, y_ite, y_fr, y_brk, y_cnt, y_pas, y_par, ys_nil, ys_cons, y_unp, y_setv, y_apG, y_app, y_stf, run_nx, run_ret, io_t, io_f, io_n, ln_nil, ln_cons, ln_lend, f_non, f_bl, f_int, f_str, f_tup, f_lst, f_ins, f_tupT, f_lstT, f_insT, fs_nil, fs_cons, fs_I, fs_blf, fs_If, fs_tupf, fs_lstf, fs_lstT, fs_app, fs_rev, it_eq, it_l, it_t, it_bl, it_int, it_non, it_str, it_tup, it_lst, it_ins, it_lstT, iu_bl, iu_int, iu_non, iu_str, iu_tup, iu_lst, iu_ins, sb_t, sb_l, y_appi, it_m1, fs_int, runF_eq, bind_ok, opt_some, ↓nxt_nx, ↓nxt_ret, ↓nxt_brk, ↓nxt_cnt, mayO_some, ↓onB_bl, ↓onO_some, blO_bl, ng_int, nt_bl, i_tup, i_lst, l_lst, t_bl, range0, asgT, wipeE, saved, restore, putBack, List.getElem?_cons_zero, List.getElem?_cons_succ, List.set_cons_zero, List.set_cons_succ, List.length_cons, List.length_nil, List.cons_append, List.nil_append, List.replicate_succ, List.replicate_zero, List.getD_cons_zero, List.getD_cons_succ, List.map_nil, List.map_cons, List.any_cons, List.any_nil, Nat.reduceSub, Nat.reduceAdd, Nat.reduceLT, Nat.reduceLeDiff, Nat.zero_add, if_true, ite_true, ite_false, reduceIte, D.own, Bool.false_eq_true, Option.bind_some, Option.map_some, Bool.or_false, Bool.false_or, Bool.not_true, Bool.not_false, decide_true, decide_false, lim, n_add, n_shr, n_and, n_eq, n_ne, n_lt, n_le, n_gt, n_ge, c_isN_non, c_isN_tup, n_sum, n_all, n_any, n_listS, n_lenL, n_lenT, n_intI, n_tupleT, n_tuple, n_list, n_listT, n_allf, n_anyf, n_sumf, nw_I, nw_If, nw_bl, nw_tup, nw_lst, k_ii, k_ib, k_is, k_il, k_it, k_bb, k_bi, k_tt, k_tl, k_ll, k_lt, k_llt, k_tlt, n_inT, n_or]
    have e : ((setsL s T).filter fun o => sub o S) = insL s T S := rfl
    rw [e, n_maxf _ (ins_ne F S)]
    simp only [rd_non, rd_bl, rd_int, rd_str, rd_scr, rd_tup, rd_lst, rd_ins, rd_tupT, rd_lstT, rd_insT, pk_non, pk_bl, pk_int, pk_str, pk_scr, pk_tup, pk_lst, pk_ins, x_var, x_glo, x_int, x_bl, x_non, x_str, x_bin, x_neg, x_nt, x_an, x_or, x_cmp, x_chn, x_ite, x_tup, x_lst, x_sub, x_subv, x_att, x_attv, x_call, x_bi, x_biv, x_lc, x_mk, x_met, x_isi, x_gcd, x_bln, xs_nil, xs_cons, xa_nil, xa_cons, xa_lend, xr_seq, xr_rng1, xr_rng2, xr_enm, xr_rev, xt_an, xt_or, xt_nt, xt_cmp, xt_chn, xt_tv, xts_nil, xts_one, y_asg, y_exp, y_ret, y_retN, y_ite, y_fr, y_brk, y_cnt, y_pas, y_par, ys_nil, ys_cons, y_unp, y_setv, y_apG, y_app, y_stf, run_nx, run_ret, io_t, io_f, io_n, ln_nil, ln_cons, ln_lend, f_non, f_bl, f_int, f_str, f_tup, f_lst, f_ins, f_tupT, f_lstT, f_insT, fs_nil, fs_cons, fs_I, fs_blf, fs_If, fs_tupf, fs_lstf, fs_lstT, fs_app, fs_rev, it_eq, it_l, it_t, it_bl, it_int, it_non, it_str, it_tup, it_lst, it_ins, it_lstT, iu_bl, iu_int, iu_non, iu_str, iu_tup, iu_lst, iu_ins, sb_t, sb_l, y_appi, it_m1, fs_int, runF_eq, bind_ok, opt_some, ↓nxt_nx, ↓nxt_ret, ↓nxt_brk, ↓nxt_cnt, mayO_some, ↓onB_bl, ↓onO_some, blO_bl, ng_int, nt_bl, i_tup, i_lst, l_lst, t_bl, range0, asgT, wipeE, saved, restore, putBack, List.getElem?_cons_zero, List.getElem?_cons_succ, List.set_cons_zero, List.set_cons_succ, List.length_cons, List.length_nil, List.cons_append, List.nil_append, List.replicate_succ, List.replicate_zero, List.getD_cons_zero, List.getD_cons_succ, List.map_nil, List.map_cons, List.any_cons, List.any_nil, Nat.reduceSub, Nat.reduceAdd, Nat.reduceLT, Nat.reduceLeDiff, Nat.zero_add, if_true, ite_true, ite_false, reduceIte, D.own, Bool.false_eq_true, Option.bind_some, Option.map_some, Bool.or_false, Bool.false_or, Bool.not_true, Bool.not_false, decide_true, decide_false, lim]
  · intro o ho
    have ho2 := ((sets_mem F).mp ho).1
    refine ⟨_, rfl, ?_⟩
    simp only [rd_non, rd_bl, rd_int, rd_str, rd_scr, rd_tup, rd_lst, rd_ins, rd_tupT, rd_lstT, rd_insT, pk_non, pk_bl, pk_int, pk_str, pk_scr, pk_tup, pk_lst, pk_ins, x_var, x_glo, x_int, x_bl, x_non, x_str, x_bin, x_neg, x_nt, x_an, x_or, x_cmp, x_chn, x_ite, x_tup, x_lst, x_sub, x_subv, x_att, x_attv, x_call, x_bi, x_biv, x_lc, x_mk, x_met, x_isi, x_gcd, x_bln, xs_nil, xs_cons, xa_nil, xa_cons, xa_lend, xr_seq, xr_rng1, xr_rng2, xr_enm, xr_rev, xt_an, xt_or, xt_nt, xt_cmp, xt_chn, xt_tv, xts_nil, xts_one, y_asg, y_exp, y_ret, y_retN, y_ite, y_fr, y_brk, y_cnt, y_pas, y_par, ys_nil, ys_cons, y_unp, y_setv, y_apG, y_app, y_stf, run_nx, run_ret, io_t, io_f, io_n, ln_nil, ln_cons, ln_lend, f_non, f_bl, f_int, f_str, f_tup, f_lst, f_ins, f_tupT, f_lstT, f_insT, fs_nil, fs_cons, fs_I, fs_blf, fs_If, fs_tupf, fs_lstf, fs_lstT, fs_app, fs_rev, it_eq, it_l, it_t, it_bl, it_int, it_non, it_str, it_tup, it_lst, it_ins, it_lstT, iu_bl, iu_int, iu_non, iu_str, iu_tup, iu_lst, iu_ins, sb_t, sb_l, y_appi, it_m1, fs_int, runF_eq, bind_ok, opt_some, ↓nxt_nx, ↓nxt_ret, ↓nxt_brk, ↓nxt_cnt, mayO_some, ↓onB_bl, ↓onO_some, blO_bl, ng_int, nt_bl, i_tup, i_lst, l_lst, t_bl, range0, asgT, wipeE, saved, restore, putBack, List.getElem?_cons_zero, List.getElem?_cons_succ, List.set_cons_zero, List.set_cons_succ, List.length_cons, List.length_nil, List.cons_append, List.nil_append, List.replicate_succ, List.replicate_zero, List.getD_cons_zero, List.getD_cons_succ, List.map_nil, List.map_cons, List.any_cons, List.any_nil, Nat.reduceSub, Nat.reduceAdd, Nat.reduceLT, Nat.reduceLeDiff, Nat.zero_add, if_true, ite_true, ite_false, reduceIte, D.own, Bool.false_eq_true, Option.bind_some, Option.map_some, Bool.or_false, Bool.false_or, Bool.not_true, Bool.not_false, decide_true, decide_false, lim, n_add, n_shr, n_and, n_eq, n_ne, n_lt, n_le, n_gt, n_ge, c_isN_non, c_isN_tup, n_sum, n_all, n_any, n_listS, n_lenL, n_lenT, n_intI, n_tupleT, n_tuple, n_list, n_listT, n_allf, n_anyf, n_sumf, nw_I, nw_If, nw_bl, nw_tup, nw_lst, k_ii, k_ib, k_is, k_il, k_it, k_bb, k_bi, k_tt, k_tl, k_ll, k_lt, k_llt, k_tlt, n_inT, n_or, call1 (s_mask_of (lt64 F.h6 ho2)), call2 (s_within (lt64 F.h6 ho2) hS)]
    refine gt ⟨fun _ => rfl, fun _ => ?_⟩
    simp only [rd_non, rd_bl, rd_int, rd_str, rd_scr, rd_tup, rd_lst, rd_ins, rd_tupT, rd_lstT, rd_insT, pk_non, pk_bl, pk_int, pk_str, pk_scr, pk_tup, pk_lst, pk_ins, x_var, x_glo, x_int, x_bl, x_non, x_str, x_bin, x_neg, x_nt, x_an, x_or, x_cmp, x_chn, x_ite, x_tup, x_lst, x_sub, x_subv, x_att, x_attv, x_call, x_bi, x_biv, x_lc, x_mk, x_met, x_isi, x_gcd, x_bln, xs_nil, xs_cons, xa_nil, xa_cons, xa_lend, xr_seq, xr_rng1, xr_rng2, xr_enm, xr_rev, xt_an, xt_or, xt_nt, xt_cmp, xt_chn, xt_tv, xts_nil, xts_one, y_asg, y_exp, y_ret, y_retN, y_ite, y_fr, y_brk, y_cnt, y_pas, y_par, ys_nil, ys_cons, y_unp, y_setv, y_apG, y_app, y_stf, run_nx, run_ret, io_t, io_f, io_n, ln_nil, ln_cons, ln_lend, f_non, f_bl, f_int, f_str, f_tup, f_lst, f_ins, f_tupT, f_lstT, f_insT, fs_nil, fs_cons, fs_I, fs_blf, fs_If, fs_tupf, fs_lstf, fs_lstT, fs_app, fs_rev, it_eq, it_l, it_t, it_bl, it_int, it_non, it_str, it_tup, it_lst, it_ins, it_lstT, iu_bl, iu_int, iu_non, iu_str, iu_tup, iu_lst, iu_ins, sb_t, sb_l, y_appi, it_m1, fs_int, runF_eq, bind_ok, opt_some, ↓nxt_nx, ↓nxt_ret, ↓nxt_brk, ↓nxt_cnt, mayO_some, ↓onB_bl, ↓onO_some, blO_bl, ng_int, nt_bl, i_tup, i_lst, l_lst, t_bl, range0, asgT, wipeE, saved, restore, putBack, List.getElem?_cons_zero, List.getElem?_cons_succ, List.set_cons_zero, List.set_cons_succ, List.length_cons, List.length_nil, List.cons_append, List.nil_append, List.replicate_succ, List.replicate_zero, List.getD_cons_zero, List.getD_cons_succ, List.map_nil, List.map_cons, List.any_cons, List.any_nil, Nat.reduceSub, Nat.reduceAdd, Nat.reduceLT, Nat.reduceLeDiff, Nat.zero_add, if_true, ite_true, ite_false, reduceIte, D.own, Bool.false_eq_true, Option.bind_some, Option.map_some, Bool.or_false, Bool.false_or, Bool.not_true, Bool.not_false, decide_true, decide_false, lim, n_add, n_shr, n_and, n_eq, n_ne, n_lt, n_le, n_gt, n_ge, c_isN_non, c_isN_tup, n_sum, n_all, n_any, n_listS, n_lenL, n_lenT, n_intI, n_tupleT, n_tuple, n_list, n_listT, n_allf, n_anyf, n_sumf, nw_I, nw_If, nw_bl, nw_tup, nw_lst, k_ii, k_ib, k_is, k_il, k_it, k_bb, k_bi, k_tt, k_tl, k_ll, k_lt, k_llt, k_tlt, n_inT, n_or, List.length_map]
    exact gd rfl
  · exact le_lim (by have := ord_len F.h6; have := List.length_filter_le T (ordm s); unfold setsL; omega)
  · rfl
/-- the things that can be added -/
def addL (s : Nat) (T : Nat → Bool) (o : Nat) : List Nat := (List.range s).filter fun k => decide (o / 2 ^ k % 2 = 0) && T (o + 2 ^ k)
theorem add_lt {s o k : Nat} (h : s ≤ 6) (ho : o < 2 ^ s) (hk : k < s) (hb : o / 2 ^ k % 2 = 0) : o + 2 ^ k < 2 ^ s := by
  have key : (List.range 7).all (fun s => (List.range (2 ^ s)).all fun o => (List.range s).all fun k => !decide (o / 2 ^ k % 2 = 0) || decide (o + 2 ^ k < 2 ^ s)) = true := by decide +kernel
  have := List.all_eq_true.mp (List.all_eq_true.mp (List.all_eq_true.mp key s (List.mem_range.mpr (by omega))) o (List.mem_range.mpr ho)) k (List.mem_range.mpr hk)
  simpa [hb] using this
theorem s_addable (F : Fam s T) {o : Nat} (ho : o < 2 ^ s) : c_Family_addable.sem [famD false s T, thD o] = .ok (.tup false ((addL s T o).map I)) [] := by
  have h6 := F.h6
  simp only [c_Family_addable, b_Family_addable, N_Family_addable, rd_non, rd_bl, rd_int, rd_str, rd_scr, rd_tup, rd_lst, rd_ins, rd_tupT, rd_lstT, rd_insT, pk_non, pk_bl, pk_int, pk_str, pk_scr, pk_tup, pk_lst, pk_ins, x_var, x_glo, x_int, x_bl, x_non, x_str, x_bin, x_neg, x_nt, x_an, x_or, x_cmp, x_chn, x_ite, x_tup, x_lst, x_sub, x_subv, x_att, x_attv, x_call, x_bi, x_biv, x_lc, x_mk, x_met, x_isi, x_gcd, x_bln, xs_nil, xs_cons, xa_nil, xa_cons, xa_lend, xr_seq, xr_rng1, xr_rng2, xr_enm, xr_rev, xt_an, xt_or, xt_nt, xt_cmp, xt_chn, xt_tv, xts_nil, xts_one, y_asg, y_exp, y_ret, y_retN, y_ite, y_fr, y_brk, y_cnt, y_pas, y_par, ys_nil, ys_cons, y_unp, y_setv, y_apG, y_app, y_stf, run_nx, run_ret, io_t, io_f, io_n, ln_nil, ln_cons, ln_lend, f_non, f_bl, f_int, f_str, f_tup, f_lst, f_ins, f_tupT, f_lstT, f_insT, fs_nil, fs_cons, fs_I, fs_blf, fs_If, fs_tupf, fs_lstf, fs_lstT, fs_app, fs_rev, it_eq, it_l, it_t, it_bl, it_int, it_non, it_str, it_tup, it_lst, it_ins, it_lstT, iu_bl, iu_int, iu_non, iu_str, iu_tup, iu_lst, iu_ins, sb_t, sb_l, y_appi, it_m1, fs_int, runF_eq, bind_ok, opt_some, ↓nxt_nx, ↓nxt_ret, ↓nxt_brk, ↓nxt_cnt, mayO_some, ↓onB_bl, ↓onO_some, blO_bl, ng_int, nt_bl, i_tup, i_lst, l_lst, t_bl, range0, asgT, wipeE, saved, restore, putBack, List.getElem?_cons_zero, List.getElem?_cons_succ, List.set_cons_zero, List.set_cons_succ, List.length_cons, List.length_nil, List.cons_append, List.nil_append, List.replicate_succ, List.replicate_zero, List.getD_cons_zero, List.getD_cons_succ, List.map_nil, List.map_cons, List.any_cons, List.any_nil, Nat.reduceSub, Nat.reduceAdd, Nat.reduceLT, Nat.reduceLeDiff, Nat.zero_add, if_true, ite_true, ite_false, reduceIte, D.own, Bool.false_eq_true, Option.bind_some, Option.map_some, Bool.or_false, Bool.false_or, Bool.not_true, Bool.not_false, decide_true, decide_false, lim, n_add, n_shr, n_and, n_eq, n_ne, n_lt, n_le, n_gt, n_ge, c_isN_non, c_isN_tup, n_sum, n_all, n_any, n_listS, n_lenL, n_lenT, n_intI, n_tupleT, n_tuple, n_list, n_listT, n_allf, n_anyf, n_sumf, nw_I, nw_If, nw_bl, nw_tup, nw_lst, k_ii, k_ib, k_is, k_il, k_it, k_bb, k_bi, k_tt, k_tl, k_ll, k_lt, k_llt, k_tlt, n_inT, n_or, pk_fam, fl_size, call1 (s_mask_of (lt64 F.h6 ho)), rg_I (show s < 2 ^ 62 by omega)]
  refine run_for (P := fun pre e => ∃ a, e = [famD false s T, thD o, I o, .lst true ((pre.filter fun k => decide (o / 2 ^ k % 2 = 0) && T (o + 2 ^ k)).map I), a]) (fun k env pre hk hp he => ?_) ⟨_, rfl⟩ fun e he => ?_
  · obtain ⟨a, rfl⟩ := he
    have hk6 := List.mem_range.mp hk
    have hlen : ((pre.filter fun k => decide (o / 2 ^ k % 2 = 0) && T (o + 2 ^ k)).map I).length < lim := by
      have h1 := pre_len hp
      have h2 := List.length_filter_le (fun k => decide (o / 2 ^ k % 2 = 0) && T (o + 2 ^ k)) pre
      simp only [List.length_map, List.length_range, lim] at h1 ⊢
      omega
    refine ⟨_, rfl, ?_⟩
    rw [List.filter_append, List.map_append]
    by_cases hb : o / 2 ^ k % 2 = 0
    · have hlt := add_lt h6 ho hk6 hb
      cases hT : T (o + 2 ^ k) with
      | true =>
        simp only [rd_non, rd_bl, rd_int, rd_str, rd_scr, rd_tup, rd_lst, rd_ins, rd_tupT, rd_lstT, rd_insT, pk_non, pk_bl, pk_int, pk_str, pk_scr, pk_tup, pk_lst, pk_ins, x_var, x_glo, x_int, x_bl, x_non, x_str, x_bin, x_neg, x_nt, x_an, x_or, x_cmp, x_chn, x_ite, x_tup, x_lst, x_sub, x_subv, x_att, x_attv, x_call, x_bi, x_biv, x_lc, x_mk, x_met, x_isi, x_gcd, x_bln, xs_nil, xs_cons, xa_nil, xa_cons, xa_lend, xr_seq, xr_rng1, xr_rng2, xr_enm, xr_rev, xt_an, xt_or, xt_nt, xt_cmp, xt_chn, xt_tv, xts_nil, xts_one, y_asg, y_exp, y_ret, y_retN, y_ite, y_fr, y_brk, y_cnt, y_pas, y_par, ys_nil, ys_cons, y_unp, y_setv, y_apG, y_app, y_stf, run_nx, run_ret, io_t, io_f, io_n, ln_nil, ln_cons, ln_lend, f_non, f_bl, f_int, f_str, f_tup, f_lst, f_ins, f_tupT, f_lstT, f_insT, fs_nil, fs_cons, fs_I, fs_blf, fs_If, fs_tupf, fs_lstf, fs_lstT, fs_app, fs_rev, it_eq, it_l, it_t, it_bl, it_int, it_non, it_str, it_tup, it_lst, it_ins, it_lstT, iu_bl, iu_int, iu_non, iu_str, iu_tup, iu_lst, iu_ins, sb_t, sb_l, y_appi, it_m1, fs_int, runF_eq, bind_ok, opt_some, ↓nxt_nx, ↓nxt_ret, ↓nxt_brk, ↓nxt_cnt, mayO_some, ↓onB_bl, ↓onO_some, blO_bl, ng_int, nt_bl, i_tup, i_lst, l_lst, t_bl, range0, asgT, wipeE, saved, restore, putBack, List.getElem?_cons_zero, List.getElem?_cons_succ, List.set_cons_zero, List.set_cons_succ, List.length_cons, List.length_nil, List.cons_append, List.nil_append, List.replicate_succ, List.replicate_zero, List.getD_cons_zero, List.getD_cons_succ, List.map_nil, List.map_cons, List.any_cons, List.any_nil, Nat.reduceSub, Nat.reduceAdd, Nat.reduceLT, Nat.reduceLeDiff, Nat.zero_add, if_true, ite_true, ite_false, reduceIte, D.own, Bool.false_eq_true, Option.bind_some, Option.map_some, Bool.or_false, Bool.false_or, Bool.not_true, Bool.not_false, decide_true, decide_false, lim, n_add, n_shr, n_and, n_eq, n_ne, n_lt, n_le, n_gt, n_ge, c_isN_non, c_isN_tup, n_sum, n_all, n_any, n_listS, n_lenL, n_lenT, n_intI, n_tupleT, n_tuple, n_list, n_listT, n_allf, n_anyf, n_sumf, nw_I, nw_If, nw_bl, nw_tup, nw_lst, k_ii, k_ib, k_is, k_il, k_it, k_bb, k_bi, k_tt, k_tl, k_ll, k_lt, k_llt, k_tlt, n_inT, n_or, shl6 (show k ≤ 6 by omega), div6 (show k ≤ 6 by omega), mod2, pk_fam, fl_table, tab_get hlt, hb, hT, appL_ok hlen, List.filter_cons, List.filter_nil, Bool.and_true]
        exact gs ⟨_, rfl⟩
      | false =>
        simp only [rd_non, rd_bl, rd_int, rd_str, rd_scr, rd_tup, rd_lst, rd_ins, rd_tupT, rd_lstT, rd_insT, pk_non, pk_bl, pk_int, pk_str, pk_scr, pk_tup, pk_lst, pk_ins, x_var, x_glo, x_int, x_bl, x_non, x_str, x_bin, x_neg, x_nt, x_an, x_or, x_cmp, x_chn, x_ite, x_tup, x_lst, x_sub, x_subv, x_att, x_attv, x_call, x_bi, x_biv, x_lc, x_mk, x_met, x_isi, x_gcd, x_bln, xs_nil, xs_cons, xa_nil, xa_cons, xa_lend, xr_seq, xr_rng1, xr_rng2, xr_enm, xr_rev, xt_an, xt_or, xt_nt, xt_cmp, xt_chn, xt_tv, xts_nil, xts_one, y_asg, y_exp, y_ret, y_retN, y_ite, y_fr, y_brk, y_cnt, y_pas, y_par, ys_nil, ys_cons, y_unp, y_setv, y_apG, y_app, y_stf, run_nx, run_ret, io_t, io_f, io_n, ln_nil, ln_cons, ln_lend, f_non, f_bl, f_int, f_str, f_tup, f_lst, f_ins, f_tupT, f_lstT, f_insT, fs_nil, fs_cons, fs_I, fs_blf, fs_If, fs_tupf, fs_lstf, fs_lstT, fs_app, fs_rev, it_eq, it_l, it_t, it_bl, it_int, it_non, it_str, it_tup, it_lst, it_ins, it_lstT, iu_bl, iu_int, iu_non, iu_str, iu_tup, iu_lst, iu_ins, sb_t, sb_l, y_appi, it_m1, fs_int, runF_eq, bind_ok, opt_some, ↓nxt_nx, ↓nxt_ret, ↓nxt_brk, ↓nxt_cnt, mayO_some, ↓onB_bl, ↓onO_some, blO_bl, ng_int, nt_bl, i_tup, i_lst, l_lst, t_bl, range0, asgT, wipeE, saved, restore, putBack, List.getElem?_cons_zero, List.getElem?_cons_succ, List.set_cons_zero, List.set_cons_succ, List.length_cons, List.length_nil, List.cons_append, List.nil_append, List.replicate_succ, List.replicate_zero, List.getD_cons_zero, List.getD_cons_succ, List.map_nil, List.map_cons, List.any_cons, List.any_nil, Nat.reduceSub, Nat.reduceAdd, Nat.reduceLT, Nat.reduceLeDiff, Nat.zero_add, if_true, ite_true, ite_false, reduceIte, D.own, Bool.false_eq_true, Option.bind_some, Option.map_some, Bool.or_false, Bool.false_or, Bool.not_true, Bool.not_false, decide_true, decide_false, lim, n_add, n_shr, n_and, n_eq, n_ne, n_lt, n_le, n_gt, n_ge, c_isN_non, c_isN_tup, n_sum, n_all, n_any, n_listS, n_lenL, n_lenT, n_intI, n_tupleT, n_tuple, n_list, n_listT, n_allf, n_anyf, n_sumf, nw_I, nw_If, nw_bl, nw_tup, nw_lst, k_ii, k_ib, k_is, k_il, k_it, k_bb, k_bi, k_tt, k_tl, k_ll, k_lt, k_llt, k_tlt, n_inT, n_or, shl6 (show k ≤ 6 by omega), div6 (show k ≤ 6 by omega), mod2, pk_fam, fl_table, tab_get hlt, hb, hT, List.filter_cons, List.filter_nil, Bool.and_false, List.append_nil]
        exact gs ⟨_, rfl⟩
    · simp only [rd_non, rd_bl, rd_int, rd_str, rd_scr, rd_tup, rd_lst, rd_ins, rd_tupT, rd_lstT, rd_insT, pk_non, pk_bl, pk_int, pk_str, pk_scr, pk_tup, pk_lst, pk_ins, x_var, x_glo, x_int, x_bl, x_non, x_str, x_bin, x_neg, x_nt, x_an, x_or, x_cmp, x_chn, x_ite, x_tup, x_lst, x_sub, x_subv, x_att, x_attv, x_call, x_bi, x_biv, x_lc, x_mk, x_met, x_isi, x_gcd, x_bln, xs_nil, xs_cons, xa_nil, xa_cons, xa_lend, xr_seq, xr_rng1, xr_rng2, xr_enm, xr_rev, xt_an, xt_or, xt_nt, xt_cmp, xt_chn, xt_tv, xts_nil, xts_one, y_asg, y_exp, y_ret, y_retN, y_ite, y_fr, y_brk, y_cnt, y_pas, y_par, ys_nil, ys_cons, y_unp, y_setv, y_apG, y_app, y_stf, run_nx, run_ret, io_t, io_f, io_n, ln_nil, ln_cons, ln_lend, f_non, f_bl, f_int, f_str, f_tup, f_lst, f_ins, f_tupT, f_lstT, f_insT, fs_nil, fs_cons, fs_I, fs_blf, fs_If, fs_tupf, fs_lstf, fs_lstT, fs_app, fs_rev, it_eq, it_l, it_t, it_bl, it_int, it_non, it_str, it_tup, it_lst, it_ins, it_lstT, iu_bl, iu_int, iu_non, iu_str, iu_tup, iu_lst, iu_ins, sb_t, sb_l, y_appi, it_m1, fs_int, runF_eq, bind_ok, opt_some, ↓nxt_nx, ↓nxt_ret, ↓nxt_brk, ↓nxt_cnt, mayO_some, ↓onB_bl, ↓onO_some, blO_bl, ng_int, nt_bl, i_tup, i_lst, l_lst, t_bl, range0, asgT, wipeE, saved, restore, putBack, List.getElem?_cons_zero, List.getElem?_cons_succ, List.set_cons_zero, List.set_cons_succ, List.length_cons, List.length_nil, List.cons_append, List.nil_append, List.replicate_succ, List.replicate_zero, List.getD_cons_zero, List.getD_cons_succ, List.map_nil, List.map_cons, List.any_cons, List.any_nil, Nat.reduceSub, Nat.reduceAdd, Nat.reduceLT, Nat.reduceLeDiff, Nat.zero_add, if_true, ite_true, ite_false, reduceIte, D.own, Bool.false_eq_true, Option.bind_some, Option.map_some, Bool.or_false, Bool.false_or, Bool.not_true, Bool.not_false, decide_true, decide_false, lim, n_add, n_shr, n_and, n_eq, n_ne, n_lt, n_le, n_gt, n_ge, c_isN_non, c_isN_tup, n_sum, n_all, n_any, n_listS, n_lenL, n_lenT, n_intI, n_tupleT, n_tuple, n_list, n_listT, n_allf, n_anyf, n_sumf, nw_I, nw_If, nw_bl, nw_tup, nw_lst, k_ii, k_ib, k_is, k_il, k_it, k_bb, k_bi, k_tt, k_tl, k_ll, k_lt, k_llt, k_tlt, n_inT, n_or, shl6 (show k ≤ 6 by omega), div6 (show k ≤ 6 by omega), mod2, hb, List.filter_cons, List.filter_nil, Bool.false_and, List.append_nil]
      exact gs ⟨_, rfl⟩
  · obtain ⟨a, rfl⟩ := he
    simp only [rd_non, rd_bl, rd_int, rd_str, rd_scr, rd_tup, rd_lst, rd_ins, rd_tupT, rd_lstT, rd_insT, pk_non, pk_bl, pk_int, pk_str, pk_scr, pk_tup, pk_lst, pk_ins, x_var, x_glo, x_int, x_bl, x_non, x_str, x_bin, x_neg, x_nt, x_an, x_or, x_cmp, x_chn, x_ite, x_tup, x_lst, x_sub, x_subv, x_att, x_attv, x_call, x_bi, x_biv, x_lc, x_mk, x_met, x_isi, x_gcd, x_bln, xs_nil, xs_cons, xa_nil, xa_cons, xa_lend, xr_seq, xr_rng1, xr_rng2, xr_enm, xr_rev, xt_an, xt_or, xt_nt, xt_cmp, xt_chn, xt_tv, xts_nil, xts_one, y_asg, y_exp, y_ret, y_retN, y_ite, y_fr, y_brk, y_cnt, y_pas, y_par, ys_nil, ys_cons, y_unp, y_setv, y_apG, y_app, y_stf, run_nx, run_ret, io_t, io_f, io_n, ln_nil, ln_cons, ln_lend, f_non, f_bl, f_int, f_str, f_tup, f_lst, f_ins, f_tupT, f_lstT, f_insT, fs_nil, fs_cons, fs_I, fs_blf, fs_If, fs_tupf, fs_lstf, fs_lstT, fs_app, fs_rev, it_eq, it_l, it_t, it_bl, it_int, it_non, it_str, it_tup, it_lst, it_ins, it_lstT, iu_bl, iu_int, iu_non, iu_str, iu_tup, iu_lst, iu_ins, sb_t, sb_l, y_appi, it_m1, fs_int, runF_eq, bind_ok, opt_some, ↓nxt_nx, ↓nxt_ret, ↓nxt_brk, ↓nxt_cnt, mayO_some, ↓onB_bl, ↓onO_some, blO_bl, ng_int, nt_bl, i_tup, i_lst, l_lst, t_bl, range0, asgT, wipeE, saved, restore, putBack, List.getElem?_cons_zero, List.getElem?_cons_succ, List.set_cons_zero, List.set_cons_succ, List.length_cons, List.length_nil, List.cons_append, List.nil_append, List.replicate_succ, List.replicate_zero, List.getD_cons_zero, List.getD_cons_succ, List.map_nil, List.map_cons, List.any_cons, List.any_nil, Nat.reduceSub, Nat.reduceAdd, Nat.reduceLT, Nat.reduceLeDiff, Nat.zero_add, if_true, ite_true, ite_false, reduceIte, D.own, Bool.false_eq_true, Option.bind_some, Option.map_some, Bool.or_false, Bool.false_or, Bool.not_true, Bool.not_false, decide_true, decide_false, lim, n_add, n_shr, n_and, n_eq, n_ne, n_lt, n_le, n_gt, n_ge, c_isN_non, c_isN_tup, n_sum, n_all, n_any, n_listS, n_lenL, n_lenT, n_intI, n_tupleT, n_tuple, n_list, n_listT, n_allf, n_anyf, n_sumf, nw_I, nw_If, nw_bl, nw_tup, nw_lst, k_ii, k_ib, k_is, k_il, k_it, k_bb, k_bi, k_tt, k_tl, k_ll, k_lt, k_llt, k_tlt, n_inT, n_or]
    rfl
end
end K36

/-! ## P3 -/
set_option maxRecDepth 100000
set_option maxHeartbeats 4000000
namespace K36
open PySem PySem.Spec PyProof.Rows L2 VS
section
variable {s : Nat} {T : Nat → Bool} {env : En} {m : Bool} {i : Nat}
/-- those to which nothing of S can be added -/
def fulL (s : Nat) (T : Nat → Bool) (S : Nat) : List Nat := (insL s T S).filter fun o => !(addL s T o).any fun k => decide (k ∈ thg S)
theorem sub_mem {p m : Nat} (hp : p < 64) (hm : m < 64) : (thg p).all (fun k => decide (k ∈ thg m)) = sub p m :=
  beq_iff_eq.mp (all64x (f := fun p m => (thg p).all (fun k => decide (k ∈ thg m)) == sub p m) (by decide +kernel) hp hm)
theorem add_one {l S k : Nat} (hl : l < 64) (hS : S < 64) (hk : k < 6) (h1 : sub l S = true) (h2 : l / 2 ^ k % 2 = 0) (h3 : k ∈ thg S) : sub (l + 2 ^ k) S = true ∧ cnt (l + 2 ^ k) = cnt l + 1 := by
  have := all64x (f := fun l S => (List.range 6).all fun k => !sub l S || (!decide (l / 2 ^ k % 2 = 0) || (!decide (k ∈ thg S) || (sub (l + 2 ^ k) S && decide (cnt (l + 2 ^ k) = cnt l + 1))))) (by decide +kernel) hl hS
  have := List.all_eq_true.mp this k (List.mem_range.mpr hk)
  simpa [h1, h2, h3] using this
theorem ins_mem (F : Fam s T) {o S : Nat} : o ∈ insL s T S ↔ o < 2 ^ s ∧ T o = true ∧ sub o S = true := by
  unfold insL; rw [List.mem_filter, sets_mem F, and_assoc]
theorem ins_up (F : Fam s T) (S : Nat) : (insL s T S).Pairwise fun a b => cnt a ≤ cnt b := ((ord_up F.h6).filter _).filter _
theorem ins_last (F : Fam s T) (S : Nat) : ∃ r l, insL s T S = r ++ [l] ∧ l ∈ insL s T S ∧ ∀ o ∈ insL s T S, cnt o ≤ cnt l := by
  have hne := ins_ne F S
  have hp := ins_up F S
  have e := (List.dropLast_concat_getLast hne).symm
  refine ⟨_, _, e, List.getLast_mem hne, fun o ho => ?_⟩
  rw [e] at ho hp
  rw [List.pairwise_append] at hp
  rcases List.mem_append.mp ho with h | h
  · exact hp.2.2 o h _ (by simp)
  · simp at h; rw [h]; exact Nat.le_refl _
theorem ful_last (F : Fam s T) {S : Nat} (hS : S < 64) : ∃ r l, insL s T S = r ++ [l] ∧ (∀ o ∈ insL s T S, cnt o ≤ cnt l) ∧ (!(addL s T l).any fun k => decide (k ∈ thg S)) = true := by
  obtain ⟨r, l, e, hl, hm⟩ := ins_last F S
  refine ⟨r, l, e, hm, ?_⟩
  rw [Bool.not_eq_true', List.any_eq_false]
  intro k hk hd
  unfold addL at hk
  rw [List.mem_filter, Bool.and_eq_true, decide_eq_true_eq] at hk
  obtain ⟨h1, h2, h3⟩ := hk
  have hk6 := List.mem_range.mp h1
  obtain ⟨g1, g2, g3⟩ := (ins_mem F).mp hl
  have h6 := F.h6
  obtain ⟨q1, q2⟩ := add_one (lt64 F.h6 g1) hS (by omega) g3 h2 (of_decide_eq_true hd)
  have := hm (l + 2 ^ k) ((ins_mem F).mpr ⟨add_lt F.h6 g1 hk6 h2, h3, q1⟩)
  omega
theorem mx_last {l : List Nat} {f : Nat → Nat} {r : List Nat} {a : Nat} (e : l = r ++ [a]) (h : ∀ o ∈ l, f o ≤ f a) : mx (l.map f) = f a := by
  subst e
  unfold mx
  rw [List.map_append, List.foldl_append]
  simp only [List.map_cons, List.map_nil, List.foldl_cons, List.foldl_nil]
  have : ∀ (l : List Nat) (b : Nat), b ≤ f a → (∀ o ∈ l, f o ≤ f a) → (l.map f).foldl max b ≤ f a := by
    intro l
    induction l with
    | nil => intro b hb _; exact hb
    | cons x l ih => intro b hb hl; exact ih _ (by have := hl x (by simp); omega) fun o ho => hl o (by simp [ho])
  have := this r 0 (Nat.zero_le _) fun o ho => h o (by simp [ho])
  omega
theorem ful_facts (F : Fam s T) {S : Nat} (hS : S < 64) : fulL s T S ≠ [] ∧ (fulL s T S).getLastD 0 = (insL s T S).getLastD 0 ∧ mx ((insL s T S).map cnt) = cnt ((fulL s T S).getLastD 0) ∧ (fulL s T S).length ≤ 64 := by
  obtain ⟨r, l, e, hm, hf⟩ := ful_last F hS
  have e2 : fulL s T S = (r.filter fun o => !(addL s T o).any fun k => decide (k ∈ thg S)) ++ [l] := by
    unfold fulL; rw [e, List.filter_append, List.filter_cons, if_pos hf]; rfl
  have h4 : (fulL s T S).length ≤ 64 := by
    have h1 := List.length_filter_le (fun o => !(addL s T o).any fun k => decide (k ∈ thg S)) (insL s T S)
    have h2 := List.length_filter_le (fun o => sub o S) (setsL s T)
    have h3 := List.length_filter_le T (ordm s)
    have h4 := ord_len F.h6
    unfold fulL; unfold insL at h1 ⊢; unfold setsL at h1 h2 ⊢; omega
  refine ⟨by rw [e2]; simp, by rw [e2, e]; simp, ?_, h4⟩
  rw [mx_last e hm, e2]; simp
/-- the best so far: things, small, large -/
abbrev Bst := Option (Nat × Nat × Nat)
def bstD : Bst → D
  | none => .non
  | some (S, a, b) => .tup false [thD S, thD a, thD b]
def qnew (S a b : Nat) : Bst → Bst
  | none => some (S, a, b)
  | some (S0, a0, b0) => if cnt a * cnt b0 < cnt a0 * cnt b then some (S, a, b) else some (S0, a0, b0)
def qstep (s : Nat) (T : Nat → Bool) (best : Bst) (S : Nat) : Bst :=
  if 0 < mx ((insL s T S).map cnt) then qnew S ((fulL s T S).headD 0) ((fulL s T S).getLastD 0) best else best
def qall (s : Nat) (T : Nat → Bool) : Bst := (ordm s).foldl (qstep s T) none
def frD (m : Bool) (a b : Nat) : D := .ins m ("Frac" : Str) [("num" : Str), ("den" : Str)] [I (a / Nat.gcd a b), I (b / Nat.gcd a b)]
theorem s_frac {a b : Nat} (ha : a ≤ 6) (hb : b ≤ 6) (h0 : 0 < b) : c_Frac___init__.sem [.ins true ("Frac" : Str) [] [], I a, I b] = .ok .non [frD true a b] := by
  have key : (List.range 7).all (fun a => (List.range 6).all fun b => (c_Frac___init__.sem [.ins true ("Frac" : Str) [] [], I a, I (b + 1)]).beq (.ok .non [frD true a (b + 1)])) = true := by decide +kernel
  have := List.all_eq_true.mp (List.all_eq_true.mp key a (List.mem_range.mpr (by omega))) (b - 1) (List.mem_range.mpr (by omega))
  rw [show b - 1 + 1 = b by omega] at this
  exact Out.eq_of_beq this
def qres : Bst → D
  | none => .tup true [frD true 1 1, .tup false [], .tup false [], .tup false []]
  | some (S, a, b) => .tup true [frD true (cnt a) (cnt b), thD S, thD a, thD b]
theorem mo_rank : metOk c_Family_mask_rank (famD false s T) = true := id rfl
theorem mo_add : metOk c_Family_addable (famD false s T) = true := id rfl
theorem mul6 {a b : Nat} (h : b ≤ 6) : binD .Mult (I a) (I b) = some (I (a * b)) := n_mul (by omega)
/-- how it stands: what a best one is -/
def Bok (s : Nat) (T : Nat → Bool) : Bst → Prop
  | none => True
  | some (S, a, b) => S < 2 ^ s ∧ 0 < cnt b
theorem qstep_ok (F : Fam s T) {S : Nat} (hS : S < 2 ^ s) {best : Bst} (h : Bok s T best) : Bok s T (qstep s T best S) := by
  unfold qstep
  by_cases hr : 0 < mx ((insL s T S).map cnt)
  · rw [if_pos hr]
    have hb : 0 < cnt ((fulL s T S).getLastD 0) := by rw [← (ful_facts F (lt64 F.h6 hS)).2.2.1]; exact hr
    cases best with
    | none => exact ⟨hS, hb⟩
    | some p =>
      obtain ⟨S0, a0, b0⟩ := p
      unfold qnew
      simp only
      split
      · exact ⟨hS, hb⟩
      · exact h
  · rw [if_neg hr]; exact h
theorem s_quotient (F : Fam s T) : c_quotient.sem [famD false s T] = .ok (qres (qall s T)) [] := by
  have h6 := F.h6
  simp only [c_quotient, b_quotient, N_quotient, rd_non, rd_bl, rd_int, rd_str, rd_scr, rd_tup, rd_lst, rd_ins, rd_tupT, rd_lstT, rd_insT, pk_non, pk_bl, pk_int, pk_str, pk_scr, pk_tup, pk_lst, pk_ins, x_var, x_glo, x_int, x_bl, x_non, x_str, x_bin, x_neg, x_nt, x_an, x_or, x_cmp, x_chn, x_ite, x_tup, x_lst, x_sub, x_subv, x_att, x_attv, x_call, x_bi, x_biv, x_lc, x_mk, x_met, x_isi, x_gcd, x_bln, xs_nil, xs_cons, xa_nil, xa_cons, xa_lend, xr_seq, xr_rng1, xr_rng2, xr_enm, xr_rev, xt_an, xt_or, xt_nt, xt_cmp, xt_chn, xt_tv, xts_nil, xts_one, y_asg, y_exp, y_ret, y_retN, y_ite, y_fr, y_brk, y_cnt, y_pas, y_par, ys_nil, ys_cons, y_unp, y_setv, y_apG, y_app, y_stf, run_nx, run_ret, io_t, io_f, io_n, ln_nil, ln_cons, ln_lend, f_non, f_bl, f_int, f_str, f_tup, f_lst, f_ins, f_tupT, f_lstT, f_insT, fs_nil, fs_cons, fs_I, fs_blf, fs_If, fs_tupf, fs_lstf, fs_lstT, fs_app, fs_rev, it_eq, it_l, it_t, it_bl, it_int, it_non, it_str, it_tup, it_lst, it_ins, it_lstT, iu_bl, iu_int, iu_non, iu_str, iu_tup, iu_lst, iu_ins, sb_t, sb_l, y_appi, it_m1, fs_int, runF_eq, bind_ok, opt_some, ↓nxt_nx, ↓nxt_ret, ↓nxt_brk, ↓nxt_cnt, mayO_some, ↓onB_bl, ↓onO_some, blO_bl, ng_int, nt_bl, i_tup, i_lst, l_lst, t_bl, range0, asgT, wipeE, saved, restore, putBack, List.getElem?_cons_zero, List.getElem?_cons_succ, List.set_cons_zero, List.set_cons_succ, List.length_cons, List.length_nil, List.cons_append, List.nil_append, List.replicate_succ, List.replicate_zero, List.getD_cons_zero, List.getD_cons_succ, List.map_nil, List.map_cons, List.any_cons, List.any_nil, Nat.reduceSub, Nat.reduceAdd, Nat.reduceLT, Nat.reduceLeDiff, Nat.zero_add, if_true, ite_true, ite_false, reduceIte, D.own, Bool.false_eq_true, Option.bind_some, Option.map_some, Bool.or_false, Bool.false_or, Bool.not_true, Bool.not_false, decide_true, decide_false, lim, n_add, n_shr, n_and, n_eq, n_ne, n_lt, n_le, n_gt, n_ge, c_isN_non, c_isN_tup, n_sum, n_all, n_any, n_listS, n_lenL, n_lenT, n_intI, n_tupleT, n_tuple, n_list, n_listT, n_allf, n_anyf, n_sumf, nw_I, nw_If, nw_bl, nw_tup, nw_lst, k_ii, k_ib, k_is, k_il, k_it, k_bb, k_bi, k_tt, k_tl, k_ll, k_lt, k_llt, k_tlt, n_inT, n_or, pk_fam, fl_size, call1 (s_all_sets F.h1 F.h6)]
  refine run_fold (st := fun best e => Bok s T best ∧ ∃ x2 x3 x4 x5 x6 x7 x8 x9, e = [famD false s T, bstD best, x2, x3, x4, x5, x6, x7, x8, x9]) (f := qstep s T) (s0 := none) (fun S env best hS1 he => ?_) ⟨trivial, _, _, _, _, _, _, _, _, rfl⟩ fun e he => ?_
  · obtain ⟨hB, x2, x3, x4, x5, x6, x7, x8, x9, rfl⟩ := he
    refine ⟨_, rfl, ?_⟩
    have hS := ord_lt F.h6 hS1
    have hS64 := lt64 F.h6 hS
    have hB2 := qstep_ok F hS hB
    by_cases hr : 0 < mx ((insL s T S).map cnt)
    · simp only [rd_non, rd_bl, rd_int, rd_str, rd_scr, rd_tup, rd_lst, rd_ins, rd_tupT, rd_lstT, rd_insT, pk_non, pk_bl, pk_int, pk_str, pk_scr, pk_tup, pk_lst, pk_ins, x_var, x_glo, x_int, x_bl, x_non, x_str, x_bin, x_neg, x_nt, x_an, x_or, x_cmp, x_chn, x_ite, x_tup, x_lst, x_sub, x_subv, x_att, x_attv, x_call, x_bi, x_biv, x_lc, x_mk, x_met, x_isi, x_gcd, x_bln, xs_nil, xs_cons, xa_nil, xa_cons, xa_lend, xr_seq, xr_rng1, xr_rng2, xr_enm, xr_rev, xt_an, xt_or, xt_nt, xt_cmp, xt_chn, xt_tv, xts_nil, xts_one, y_asg, y_exp, y_ret, y_retN, y_ite, y_fr, y_brk, y_cnt, y_pas, y_par, ys_nil, ys_cons, y_unp, y_setv, y_apG, y_app, y_stf, run_nx, run_ret, io_t, io_f, io_n, ln_nil, ln_cons, ln_lend, f_non, f_bl, f_int, f_str, f_tup, f_lst, f_ins, f_tupT, f_lstT, f_insT, fs_nil, fs_cons, fs_I, fs_blf, fs_If, fs_tupf, fs_lstf, fs_lstT, fs_app, fs_rev, it_eq, it_l, it_t, it_bl, it_int, it_non, it_str, it_tup, it_lst, it_ins, it_lstT, iu_bl, iu_int, iu_non, iu_str, iu_tup, iu_lst, iu_ins, sb_t, sb_l, y_appi, it_m1, fs_int, runF_eq, bind_ok, opt_some, ↓nxt_nx, ↓nxt_ret, ↓nxt_brk, ↓nxt_cnt, mayO_some, ↓onB_bl, ↓onO_some, blO_bl, ng_int, nt_bl, i_tup, i_lst, l_lst, t_bl, range0, asgT, wipeE, saved, restore, putBack, List.getElem?_cons_zero, List.getElem?_cons_succ, List.set_cons_zero, List.set_cons_succ, List.length_cons, List.length_nil, List.cons_append, List.nil_append, List.replicate_succ, List.replicate_zero, List.getD_cons_zero, List.getD_cons_succ, List.map_nil, List.map_cons, List.any_cons, List.any_nil, Nat.reduceSub, Nat.reduceAdd, Nat.reduceLT, Nat.reduceLeDiff, Nat.zero_add, if_true, ite_true, ite_false, reduceIte, D.own, Bool.false_eq_true, Option.bind_some, Option.map_some, Bool.or_false, Bool.false_or, Bool.not_true, Bool.not_false, decide_true, decide_false, lim, n_add, n_shr, n_and, n_eq, n_ne, n_lt, n_le, n_gt, n_ge, c_isN_non, c_isN_tup, n_sum, n_all, n_any, n_listS, n_lenL, n_lenT, n_intI, n_tupleT, n_tuple, n_list, n_listT, n_allf, n_anyf, n_sumf, nw_I, nw_If, nw_bl, nw_tup, nw_lst, k_ii, k_ib, k_is, k_il, k_it, k_bb, k_bi, k_tt, k_tl, k_ll, k_lt, k_llt, k_tlt, n_inT, n_or, call1 (s_mask_of hS64), rd_fam, f_fam, mo_rank, call2 (s_mask_rank F hS64), hr, pk_fam, fl_sets]
      rw [lcR_ok (p := fun o => sub o S) (f := thD)]
      · simp only [rd_non, rd_bl, rd_int, rd_str, rd_scr, rd_tup, rd_lst, rd_ins, rd_tupT, rd_lstT, rd_insT, pk_non, pk_bl, pk_int, pk_str, pk_scr, pk_tup, pk_lst, pk_ins, x_var, x_glo, x_int, x_bl, x_non, x_str, x_bin, x_neg, x_nt, x_an, x_or, x_cmp, x_chn, x_ite, x_tup, x_lst, x_sub, x_subv, x_att, x_attv, x_call, x_bi, x_biv, x_lc, x_mk, x_met, x_isi, x_gcd, x_bln, xs_nil, xs_cons, xa_nil, xa_cons, xa_lend, xr_seq, xr_rng1, xr_rng2, xr_enm, xr_rev, xt_an, xt_or, xt_nt, xt_cmp, xt_chn, xt_tv, xts_nil, xts_one, y_asg, y_exp, y_ret, y_retN, y_ite, y_fr, y_brk, y_cnt, y_pas, y_par, ys_nil, ys_cons, y_unp, y_setv, y_apG, y_app, y_stf, run_nx, run_ret, io_t, io_f, io_n, ln_nil, ln_cons, ln_lend, f_non, f_bl, f_int, f_str, f_tup, f_lst, f_ins, f_tupT, f_lstT, f_insT, fs_nil, fs_cons, fs_I, fs_blf, fs_If, fs_tupf, fs_lstf, fs_lstT, fs_app, fs_rev, it_eq, it_l, it_t, it_bl, it_int, it_non, it_str, it_tup, it_lst, it_ins, it_lstT, iu_bl, iu_int, iu_non, iu_str, iu_tup, iu_lst, iu_ins, sb_t, sb_l, y_appi, it_m1, fs_int, runF_eq, bind_ok, opt_some, ↓nxt_nx, ↓nxt_ret, ↓nxt_brk, ↓nxt_cnt, mayO_some, ↓onB_bl, ↓onO_some, blO_bl, ng_int, nt_bl, i_tup, i_lst, l_lst, t_bl, range0, asgT, wipeE, saved, restore, putBack, List.getElem?_cons_zero, List.getElem?_cons_succ, List.set_cons_zero, List.set_cons_succ, List.length_cons, List.length_nil, List.cons_append, List.nil_append, List.replicate_succ, List.replicate_zero, List.getD_cons_zero, List.getD_cons_succ, List.map_nil, List.map_cons, List.any_cons, List.any_nil, Nat.reduceSub, Nat.reduceAdd, Nat.reduceLT, Nat.reduceLeDiff, Nat.zero_add, if_true, ite_true, ite_false, reduceIte, D.own, Bool.false_eq_true, Option.bind_some, Option.map_some, Bool.or_false, Bool.false_or, Bool.not_true, Bool.not_false, decide_true, decide_false, lim, n_add, n_shr, n_and, n_eq, n_ne, n_lt, n_le, n_gt, n_ge, c_isN_non, c_isN_tup, n_sum, n_all, n_any, n_listS, n_lenL, n_lenT, n_intI, n_tupleT, n_tuple, n_list, n_listT, n_allf, n_anyf, n_sumf, nw_I, nw_If, nw_bl, nw_tup, nw_lst, k_ii, k_ib, k_is, k_il, k_it, k_bb, k_bi, k_tt, k_tl, k_ll, k_lt, k_llt, k_tlt, n_inT, n_or]
        rw [show List.filter (fun o => sub o S) (setsL s T) = insL s T S from rfl]
        rw [lcR_ok (p := fun o => !(addL s T o).any fun k => decide (k ∈ thg S)) (f := thD)]
        · rw [show List.filter (fun o => !(addL s T o).any fun k => decide (k ∈ thg S)) (insL s T S) = fulL s T S from rfl]
          obtain ⟨g1, g2, g3, g4⟩ := ful_facts F hS64
          have hh : (List.map (fun k => D.tup false (thI k)) (fulL s T S))[0]? = some (thD ((fulL s T S).headD 0)) := map_head g1 0
          have hl : (List.map (fun k => D.tup false (thI k)) (fulL s T S))[(fulL s T S).length - 1]? = some (thD ((fulL s T S).getLastD 0)) := map_last g1 0
          have h1 : 1 ≤ (fulL s T S).length := List.length_pos_iff.mpr g1
          have hq : qstep s T best S = qnew S ((fulL s T S).headD 0) ((fulL s T S).getLastD 0) best := if_pos hr
          cases best with
          | none =>
            simp only [rd_non, rd_bl, rd_int, rd_str, rd_scr, rd_tup, rd_lst, rd_ins, rd_tupT, rd_lstT, rd_insT, pk_non, pk_bl, pk_int, pk_str, pk_scr, pk_tup, pk_lst, pk_ins, x_var, x_glo, x_int, x_bl, x_non, x_str, x_bin, x_neg, x_nt, x_an, x_or, x_cmp, x_chn, x_ite, x_tup, x_lst, x_sub, x_subv, x_att, x_attv, x_call, x_bi, x_biv, x_lc, x_mk, x_met, x_isi, x_gcd, x_bln, xs_nil, xs_cons, xa_nil, xa_cons, xa_lend, xr_seq, xr_rng1, xr_rng2, xr_enm, xr_rev, xt_an, xt_or, xt_nt, xt_cmp, xt_chn, xt_tv, xts_nil, xts_one, y_asg, y_exp, y_ret, y_retN, y_ite, y_fr, y_brk, y_cnt, y_pas, y_par, ys_nil, ys_cons, y_unp, y_setv, y_apG, y_app, y_stf, run_nx, run_ret, io_t, io_f, io_n, ln_nil, ln_cons, ln_lend, f_non, f_bl, f_int, f_str, f_tup, f_lst, f_ins, f_tupT, f_lstT, f_insT, fs_nil, fs_cons, fs_I, fs_blf, fs_If, fs_tupf, fs_lstf, fs_lstT, fs_app, fs_rev, it_eq, it_l, it_t, it_bl, it_int, it_non, it_str, it_tup, it_lst, it_ins, it_lstT, iu_bl, iu_int, iu_non, iu_str, iu_tup, iu_lst, iu_ins, sb_t, sb_l, y_appi, it_m1, fs_int, runF_eq, bind_ok, opt_some, ↓nxt_nx, ↓nxt_ret, ↓nxt_brk, ↓nxt_cnt, mayO_some, ↓onB_bl, ↓onO_some, blO_bl, ng_int, nt_bl, i_tup, i_lst, l_lst, t_bl, range0, asgT, wipeE, saved, restore, putBack, List.getElem?_cons_zero, List.getElem?_cons_succ, List.set_cons_zero, List.set_cons_succ, List.length_cons, List.length_nil, List.cons_append, List.nil_append, List.replicate_succ, List.replicate_zero, List.getD_cons_zero, List.getD_cons_succ, List.map_nil, List.map_cons, List.any_cons, List.any_nil, Nat.reduceSub, Nat.reduceAdd, Nat.reduceLT, Nat.reduceLeDiff, Nat.zero_add, if_true, ite_true, ite_false, reduceIte, D.own, Bool.false_eq_true, Option.bind_some, Option.map_some, Bool.or_false, Bool.false_or, Bool.not_true, Bool.not_false, decide_true, decide_false, lim, n_add, n_shr, n_and, n_eq, n_ne, n_lt, n_le, n_gt, n_ge, c_isN_non, c_isN_tup, n_sum, n_all, n_any, n_listS, n_lenL, n_lenT, n_intI, n_tupleT, n_tuple, n_list, n_listT, n_allf, n_anyf, n_sumf, nw_I, nw_If, nw_bl, nw_tup, nw_lst, k_ii, k_ib, k_is, k_il, k_it, k_bb, k_bi, k_tt, k_tl, k_ll, k_lt, k_llt, k_tlt, n_inT, n_or, hh, hl, bstD, List.length_map, n_sub h1]
            refine gs ⟨hB2, ?_⟩
            rw [hq]
            exact ⟨_, _, _, _, _, _, _, _, rfl⟩
          | some q =>
            obtain ⟨S0, a0, b0⟩ := q
            have c0 := thg_len b0
            have c1 := thg_len ((fulL s T S).getLastD 0)
            by_cases hc : cnt ((fulL s T S).headD 0) * cnt b0 < cnt a0 * cnt ((fulL s T S).getLastD 0)
            · simp only [rd_non, rd_bl, rd_int, rd_str, rd_scr, rd_tup, rd_lst, rd_ins, rd_tupT, rd_lstT, rd_insT, pk_non, pk_bl, pk_int, pk_str, pk_scr, pk_tup, pk_lst, pk_ins, x_var, x_glo, x_int, x_bl, x_non, x_str, x_bin, x_neg, x_nt, x_an, x_or, x_cmp, x_chn, x_ite, x_tup, x_lst, x_sub, x_subv, x_att, x_attv, x_call, x_bi, x_biv, x_lc, x_mk, x_met, x_isi, x_gcd, x_bln, xs_nil, xs_cons, xa_nil, xa_cons, xa_lend, xr_seq, xr_rng1, xr_rng2, xr_enm, xr_rev, xt_an, xt_or, xt_nt, xt_cmp, xt_chn, xt_tv, xts_nil, xts_one, y_asg, y_exp, y_ret, y_retN, y_ite, y_fr, y_brk, y_cnt, y_pas, y_par, ys_nil, ys_cons, y_unp, y_setv, y_apG, y_app, y_stf, run_nx, run_ret, io_t, io_f, io_n, ln_nil, ln_cons, ln_lend, f_non, f_bl, f_int, f_str, f_tup, f_lst, f_ins, f_tupT, f_lstT, f_insT, fs_nil, fs_cons, fs_I, fs_blf, fs_If, fs_tupf, fs_lstf, fs_lstT, fs_app, fs_rev, it_eq, it_l, it_t, it_bl, it_int, it_non, it_str, it_tup, it_lst, it_ins, it_lstT, iu_bl, iu_int, iu_non, iu_str, iu_tup, iu_lst, iu_ins, sb_t, sb_l, y_appi, it_m1, fs_int, runF_eq, bind_ok, opt_some, ↓nxt_nx, ↓nxt_ret, ↓nxt_brk, ↓nxt_cnt, mayO_some, ↓onB_bl, ↓onO_some, blO_bl, ng_int, nt_bl, i_tup, i_lst, l_lst, t_bl, range0, asgT, wipeE, saved, restore, putBack, List.getElem?_cons_zero, List.getElem?_cons_succ, List.set_cons_zero, List.set_cons_succ, List.length_cons, List.length_nil, List.cons_append, List.nil_append, List.replicate_succ, List.replicate_zero, List.getD_cons_zero, List.getD_cons_succ, List.map_nil, List.map_cons, List.any_cons, List.any_nil, Nat.reduceSub, Nat.reduceAdd, Nat.reduceLT, Nat.reduceLeDiff, Nat.zero_add, if_true, ite_true, ite_false, reduceIte, D.own, Bool.false_eq_true, Option.bind_some, Option.map_some, Bool.or_false, Bool.false_or, Bool.not_true, Bool.not_false, decide_true, decide_false, lim, n_add, n_shr, n_and, n_eq, n_ne, n_lt, n_le, n_gt, n_ge, c_isN_non, c_isN_tup, n_sum, n_all, n_any, n_listS, n_lenL, n_lenT, n_intI, n_tupleT, n_tuple, n_list, n_listT, n_allf, n_anyf, n_sumf, nw_I, nw_If, nw_bl, nw_tup, nw_lst, k_ii, k_ib, k_is, k_il, k_it, k_bb, k_bi, k_tt, k_tl, k_ll, k_lt, k_llt, k_tlt, n_inT, n_or, hh, hl, bstD, List.length_map, n_sub h1, mul6 c0, mul6 c1, hc]
              refine gs ⟨hB2, ?_⟩
              rw [hq, show qnew S ((fulL s T S).headD 0) ((fulL s T S).getLastD 0) (some (S0, a0, b0)) = some (S, (fulL s T S).headD 0, (fulL s T S).getLastD 0) from if_pos hc]
              exact ⟨_, _, _, _, _, _, _, _, rfl⟩
            · simp only [rd_non, rd_bl, rd_int, rd_str, rd_scr, rd_tup, rd_lst, rd_ins, rd_tupT, rd_lstT, rd_insT, pk_non, pk_bl, pk_int, pk_str, pk_scr, pk_tup, pk_lst, pk_ins, x_var, x_glo, x_int, x_bl, x_non, x_str, x_bin, x_neg, x_nt, x_an, x_or, x_cmp, x_chn, x_ite, x_tup, x_lst, x_sub, x_subv, x_att, x_attv, x_call, x_bi, x_biv, x_lc, x_mk, x_met, x_isi, x_gcd, x_bln, xs_nil, xs_cons, xa_nil, xa_cons, xa_lend, xr_seq, xr_rng1, xr_rng2, xr_enm, xr_rev, xt_an, xt_or, xt_nt, xt_cmp, xt_chn, xt_tv, xts_nil, xts_one, y_asg, y_exp, y_ret, y_retN, y_ite, y_fr, y_brk, y_cnt, y_pas, y_par, ys_nil, ys_cons, y_unp, y_setv, y_apG, y_app, y_stf, run_nx, run_ret, io_t, io_f, io_n, ln_nil, ln_cons, ln_lend, f_non, f_bl, f_int, f_str, f_tup, f_lst, f_ins, f_tupT, f_lstT, f_insT, fs_nil, fs_cons, fs_I, fs_blf, fs_If, fs_tupf, fs_lstf, fs_lstT, fs_app, fs_rev, it_eq, it_l, it_t, it_bl, it_int, it_non, it_str, it_tup, it_lst, it_ins, it_lstT, iu_bl, iu_int, iu_non, iu_str, iu_tup, iu_lst, iu_ins, sb_t, sb_l, y_appi, it_m1, fs_int, runF_eq, bind_ok, opt_some, ↓nxt_nx, ↓nxt_ret, ↓nxt_brk, ↓nxt_cnt, mayO_some, ↓onB_bl, ↓onO_some, blO_bl, ng_int, nt_bl, i_tup, i_lst, l_lst, t_bl, range0, asgT, wipeE, saved, restore, putBack, List.getElem?_cons_zero, List.getElem?_cons_succ, List.set_cons_zero, List.set_cons_succ, List.length_cons, List.length_nil, List.cons_append, List.nil_append, List.replicate_succ, List.replicate_zero, List.getD_cons_zero, List.getD_cons_succ, List.map_nil, List.map_cons, List.any_cons, List.any_nil, Nat.reduceSub, Nat.reduceAdd, Nat.reduceLT, Nat.reduceLeDiff, Nat.zero_add, if_true, ite_true, ite_false, reduceIte, D.own, Bool.false_eq_true, Option.bind_some, Option.map_some, Bool.or_false, Bool.false_or, Bool.not_true, Bool.not_false, decide_true, decide_false, lim, n_add, n_shr, n_and, n_eq, n_ne, n_lt, n_le, n_gt, n_ge, c_isN_non, c_isN_tup, n_sum, n_all, n_any, n_listS, n_lenL, n_lenT, n_intI, n_tupleT, n_tuple, n_list, n_listT, n_allf, n_anyf, n_sumf, nw_I, nw_If, nw_bl, nw_tup, nw_lst, k_ii, k_ib, k_is, k_il, k_it, k_bb, k_bi, k_tt, k_tl, k_ll, k_lt, k_llt, k_tlt, n_inT, n_or, hh, hl, bstD, List.length_map, n_sub h1, mul6 c0, mul6 c1, hc]
              refine gs ⟨hB2, ?_⟩
              rw [hq, show qnew S ((fulL s T S).headD 0) ((fulL s T S).getLastD 0) (some (S0, a0, b0)) = some (S0, a0, b0) from if_neg hc]
              exact ⟨_, _, _, _, _, _, _, _, rfl⟩
        · intro o ho
          have ho2 := ((ins_mem F).mp ho).1
          refine ⟨_, rfl, ?_⟩
          simp only [rd_non, rd_bl, rd_int, rd_str, rd_scr, rd_tup, rd_lst, rd_ins, rd_tupT, rd_lstT, rd_insT, pk_non, pk_bl, pk_int, pk_str, pk_scr, pk_tup, pk_lst, pk_ins, x_var, x_glo, x_int, x_bl, x_non, x_str, x_bin, x_neg, x_nt, x_an, x_or, x_cmp, x_chn, x_ite, x_tup, x_lst, x_sub, x_subv, x_att, x_attv, x_call, x_bi, x_biv, x_lc, x_mk, x_met, x_isi, x_gcd, x_bln, xs_nil, xs_cons, xa_nil, xa_cons, xa_lend, xr_seq, xr_rng1, xr_rng2, xr_enm, xr_rev, xt_an, xt_or, xt_nt, xt_cmp, xt_chn, xt_tv, xts_nil, xts_one, y_asg, y_exp, y_ret, y_retN, y_ite, y_fr, y_brk, y_cnt, y_pas, y_par, ys_nil, ys_cons, y_unp, y_setv, y_apG, y_app, y_stf, run_nx, run_ret, io_t, io_f, io_n, ln_nil, ln_cons, ln_lend, f_non, f_bl, f_int, f_str, f_tup, f_lst, f_ins, f_tupT, f_lstT, f_insT, fs_nil, fs_cons, fs_I, fs_blf, fs_If, fs_tupf, fs_lstf, fs_lstT, fs_app, fs_rev, it_eq, it_l, it_t, it_bl, it_int, it_non, it_str, it_tup, it_lst, it_ins, it_lstT, iu_bl, iu_int, iu_non, iu_str, iu_tup, iu_lst, iu_ins, sb_t, sb_l, y_appi, it_m1, fs_int, runF_eq, bind_ok, opt_some, ↓nxt_nx, ↓nxt_ret, ↓nxt_brk, ↓nxt_cnt, mayO_some, ↓onB_bl, ↓onO_some, blO_bl, ng_int, nt_bl, i_tup, i_lst, l_lst, t_bl, range0, asgT, wipeE, saved, restore, putBack, List.getElem?_cons_zero, List.getElem?_cons_succ, List.set_cons_zero, List.set_cons_succ, List.length_cons, List.length_nil, List.cons_append, List.nil_append, List.replicate_succ, List.replicate_zero, List.getD_cons_zero, List.getD_cons_succ, List.map_nil, List.map_cons, List.any_cons, List.any_nil, Nat.reduceSub, Nat.reduceAdd, Nat.reduceLT, Nat.reduceLeDiff, Nat.zero_add, if_true, ite_true, ite_false, reduceIte, D.own, Bool.false_eq_true, Option.bind_some, Option.map_some, Bool.or_false, Bool.false_or, Bool.not_true, Bool.not_false, decide_true, decide_false, lim, n_add, n_shr, n_and, n_eq, n_ne, n_lt, n_le, n_gt, n_ge, c_isN_non, c_isN_tup, n_sum, n_all, n_any, n_listS, n_lenL, n_lenT, n_intI, n_tupleT, n_tuple, n_list, n_listT, n_allf, n_anyf, n_sumf, nw_I, nw_If, nw_bl, nw_tup, nw_lst, k_ii, k_ib, k_is, k_il, k_it, k_bb, k_bi, k_tt, k_tl, k_ll, k_lt, k_llt, k_tlt, n_inT, n_or, rd_fam, f_fam, mo_add, call2 (s_addable F ho2)]
          rw [lcR_map (f := fun k => .bl (decide (k ∈ thg S)))]
          · simp only [rd_non, rd_bl, rd_int, rd_str, rd_scr, rd_tup, rd_lst, rd_ins, rd_tupT, rd_lstT, rd_insT, pk_non, pk_bl, pk_int, pk_str, pk_scr, pk_tup, pk_lst, pk_ins, x_var, x_glo, x_int, x_bl, x_non, x_str, x_bin, x_neg, x_nt, x_an, x_or, x_cmp, x_chn, x_ite, x_tup, x_lst, x_sub, x_subv, x_att, x_attv, x_call, x_bi, x_biv, x_lc, x_mk, x_met, x_isi, x_gcd, x_bln, xs_nil, xs_cons, xa_nil, xa_cons, xa_lend, xr_seq, xr_rng1, xr_rng2, xr_enm, xr_rev, xt_an, xt_or, xt_nt, xt_cmp, xt_chn, xt_tv, xts_nil, xts_one, y_asg, y_exp, y_ret, y_retN, y_ite, y_fr, y_brk, y_cnt, y_pas, y_par, ys_nil, ys_cons, y_unp, y_setv, y_apG, y_app, y_stf, run_nx, run_ret, io_t, io_f, io_n, ln_nil, ln_cons, ln_lend, f_non, f_bl, f_int, f_str, f_tup, f_lst, f_ins, f_tupT, f_lstT, f_insT, fs_nil, fs_cons, fs_I, fs_blf, fs_If, fs_tupf, fs_lstf, fs_lstT, fs_app, fs_rev, it_eq, it_l, it_t, it_bl, it_int, it_non, it_str, it_tup, it_lst, it_ins, it_lstT, iu_bl, iu_int, iu_non, iu_str, iu_tup, iu_lst, iu_ins, sb_t, sb_l, y_appi, it_m1, fs_int, runF_eq, bind_ok, opt_some, ↓nxt_nx, ↓nxt_ret, ↓nxt_brk, ↓nxt_cnt, mayO_some, ↓onB_bl, ↓onO_some, blO_bl, ng_int, nt_bl, i_tup, i_lst, l_lst, t_bl, range0, asgT, wipeE, saved, restore, putBack, List.getElem?_cons_zero, List.getElem?_cons_succ, List.set_cons_zero, List.set_cons_succ, List.length_cons, List.length_nil, List.cons_append, List.nil_append, List.replicate_succ, List.replicate_zero, List.getD_cons_zero, List.getD_cons_succ, List.map_nil, List.map_cons, List.any_cons, List.any_nil, Nat.reduceSub, Nat.reduceAdd, Nat.reduceLT, Nat.reduceLeDiff, Nat.zero_add, if_true, ite_true, ite_false, reduceIte, D.own, Bool.false_eq_true, Option.bind_some, Option.map_some, Bool.or_false, Bool.false_or, Bool.not_true, Bool.not_false, decide_true, decide_false, lim, n_add, n_shr, n_and, n_eq, n_ne, n_lt, n_le, n_gt, n_ge, c_isN_non, c_isN_tup, n_sum, n_all, n_any, n_listS, n_lenL, n_lenT, n_intI, n_tupleT, n_tuple, n_list, n_listT, n_allf, n_anyf, n_sumf, nw_I, nw_If, nw_bl, nw_tup, nw_lst, k_ii, k_ib, k_is, k_il, k_it, k_bb, k_bi, k_tt, k_tl, k_ll, k_lt, k_llt, k_tlt, n_inT, n_or]
            refine gt ⟨fun _ => rfl, fun _ => ?_⟩
            simp only [rd_non, rd_bl, rd_int, rd_str, rd_scr, rd_tup, rd_lst, rd_ins, rd_tupT, rd_lstT, rd_insT, pk_non, pk_bl, pk_int, pk_str, pk_scr, pk_tup, pk_lst, pk_ins, x_var, x_glo, x_int, x_bl, x_non, x_str, x_bin, x_neg, x_nt, x_an, x_or, x_cmp, x_chn, x_ite, x_tup, x_lst, x_sub, x_subv, x_att, x_attv, x_call, x_bi, x_biv, x_lc, x_mk, x_met, x_isi, x_gcd, x_bln, xs_nil, xs_cons, xa_nil, xa_cons, xa_lend, xr_seq, xr_rng1, xr_rng2, xr_enm, xr_rev, xt_an, xt_or, xt_nt, xt_cmp, xt_chn, xt_tv, xts_nil, xts_one, y_asg, y_exp, y_ret, y_retN, y_ite, y_fr, y_brk, y_cnt, y_pas, y_par, ys_nil, ys_cons, y_unp, y_setv, y_apG, y_app, y_stf, run_nx, run_ret, io_t, io_f, io_n, ln_nil, ln_cons, ln_lend, f_non, f_bl, f_int, f_str, f_tup, f_lst, f_ins, f_tupT, f_lstT, f_insT, fs_nil, fs_cons, fs_I, fs_blf, fs_If, fs_tupf, fs_lstf, fs_lstT, fs_app, fs_rev, it_eq, it_l, it_t, it_bl, it_int, it_non, it_str, it_tup, it_lst, it_ins, it_lstT, iu_bl, iu_int, iu_non, iu_str, iu_tup, iu_lst, iu_ins, sb_t, sb_l, y_appi, it_m1, fs_int, runF_eq, bind_ok, opt_some, ↓nxt_nx, ↓nxt_ret, ↓nxt_brk, ↓nxt_cnt, mayO_some, ↓onB_bl, ↓onO_some, blO_bl, ng_int, nt_bl, i_tup, i_lst, l_lst, t_bl, range0, asgT, wipeE, saved, restore, putBack, List.getElem?_cons_zero, List.getElem?_cons_succ, List.set_cons_zero, List.set_cons_succ, List.length_cons, List.length_nil, List.cons_append, List.nil_append, List.replicate_succ, List.replicate_zero, List.getD_cons_zero, List.getD_cons_succ, List.map_nil, List.map_cons, List.any_cons, List.any_nil, Nat.reduceSub, Nat.reduceAdd, Nat.reduceLT, Nat.reduceLeDiff, Nat.zero_add, if_true, ite_true, ite_false, reduceIte, D.own, Bool.false_eq_true, Option.bind_some, Option.map_some, Bool.or_false, Bool.false_or, Bool.not_true, Bool.not_false, decide_true, decide_false, lim]
            exact gd rfl
          · intro k hk
            refine ⟨_, rfl, ?_⟩
            simp only [rd_non, rd_bl, rd_int, rd_str, rd_scr, rd_tup, rd_lst, rd_ins, rd_tupT, rd_lstT, rd_insT, pk_non, pk_bl, pk_int, pk_str, pk_scr, pk_tup, pk_lst, pk_ins, x_var, x_glo, x_int, x_bl, x_non, x_str, x_bin, x_neg, x_nt, x_an, x_or, x_cmp, x_chn, x_ite, x_tup, x_lst, x_sub, x_subv, x_att, x_attv, x_call, x_bi, x_biv, x_lc, x_mk, x_met, x_isi, x_gcd, x_bln, xs_nil, xs_cons, xa_nil, xa_cons, xa_lend, xr_seq, xr_rng1, xr_rng2, xr_enm, xr_rev, xt_an, xt_or, xt_nt, xt_cmp, xt_chn, xt_tv, xts_nil, xts_one, y_asg, y_exp, y_ret, y_retN, y_ite, y_fr, y_brk, y_cnt, y_pas, y_par, ys_nil, ys_cons, y_unp, y_setv, y_apG, y_app, y_stf, run_nx, run_ret, io_t, io_f, io_n, ln_nil, ln_cons, ln_lend, f_non, f_bl, f_int, f_str, f_tup, f_lst, f_ins, f_tupT, f_lstT, f_insT, fs_nil, fs_cons, fs_I, fs_blf, fs_If, fs_tupf, fs_lstf, fs_lstT, fs_app, fs_rev, it_eq, it_l, it_t, it_bl, it_int, it_non, it_str, it_tup, it_lst, it_ins, it_lstT, iu_bl, iu_int, iu_non, iu_str, iu_tup, iu_lst, iu_ins, sb_t, sb_l, y_appi, it_m1, fs_int, runF_eq, bind_ok, opt_some, ↓nxt_nx, ↓nxt_ret, ↓nxt_brk, ↓nxt_cnt, mayO_some, ↓onB_bl, ↓onO_some, blO_bl, ng_int, nt_bl, i_tup, i_lst, l_lst, t_bl, range0, asgT, wipeE, saved, restore, putBack, List.getElem?_cons_zero, List.getElem?_cons_succ, List.set_cons_zero, List.set_cons_succ, List.length_cons, List.length_nil, List.cons_append, List.nil_append, List.replicate_succ, List.replicate_zero, List.getD_cons_zero, List.getD_cons_succ, List.map_nil, List.map_cons, List.any_cons, List.any_nil, Nat.reduceSub, Nat.reduceAdd, Nat.reduceLT, Nat.reduceLeDiff, Nat.zero_add, if_true, ite_true, ite_false, reduceIte, D.own, Bool.false_eq_true, Option.bind_some, Option.map_some, Bool.or_false, Bool.false_or, Bool.not_true, Bool.not_false, decide_true, decide_false, lim, n_add, n_shr, n_and, n_eq, n_ne, n_lt, n_le, n_gt, n_ge, c_isN_non, c_isN_tup, n_sum, n_all, n_any, n_listS, n_lenL, n_lenT, n_intI, n_tupleT, n_tuple, n_list, n_listT, n_allf, n_anyf, n_sumf, nw_I, nw_If, nw_bl, nw_tup, nw_lst, k_ii, k_ib, k_is, k_il, k_it, k_bb, k_bi, k_tt, k_tl, k_ll, k_lt, k_llt, k_tlt, n_inT, n_or]
            exact gd rfl
          · exact le_lim (by have := List.length_filter_le (fun k => decide (o / 2 ^ k % 2 = 0) && T (o + 2 ^ k)) (List.range s); rw [List.length_range] at this; unfold addL; omega)
          · rfl
        · exact le_lim (by have h1 := List.length_filter_le (fun o => sub o S) (setsL s T); have := ord_len F.h6; have := List.length_filter_le T (ordm s); unfold insL; unfold setsL at h1 ⊢; omega)
        · rfl
      · intro o ho
        have ho2 := lt64 F.h6 ((sets_mem F).mp ho).1
        refine ⟨_, rfl, ?_⟩
        simp only [rd_non, rd_bl, rd_int, rd_str, rd_scr, rd_tup, rd_lst, rd_ins, rd_tupT, rd_lstT, rd_insT, pk_non, pk_bl, pk_int, pk_str, pk_scr, pk_tup, pk_lst, pk_ins, x_var, x_glo, x_int, x_bl, x_non, x_str, x_bin, x_neg, x_nt, x_an, x_or, x_cmp, x_chn, x_ite, x_tup, x_lst, x_sub, x_subv, x_att, x_attv, x_call, x_bi, x_biv, x_lc, x_mk, x_met, x_isi, x_gcd, x_bln, xs_nil, xs_cons, xa_nil, xa_cons, xa_lend, xr_seq, xr_rng1, xr_rng2, xr_enm, xr_rev, xt_an, xt_or, xt_nt, xt_cmp, xt_chn, xt_tv, xts_nil, xts_one, y_asg, y_exp, y_ret, y_retN, y_ite, y_fr, y_brk, y_cnt, y_pas, y_par, ys_nil, ys_cons, y_unp, y_setv, y_apG, y_app, y_stf, run_nx, run_ret, io_t, io_f, io_n, ln_nil, ln_cons, ln_lend, f_non, f_bl, f_int, f_str, f_tup, f_lst, f_ins, f_tupT, f_lstT, f_insT, fs_nil, fs_cons, fs_I, fs_blf, fs_If, fs_tupf, fs_lstf, fs_lstT, fs_app, fs_rev, it_eq, it_l, it_t, it_bl, it_int, it_non, it_str, it_tup, it_lst, it_ins, it_lstT, iu_bl, iu_int, iu_non, iu_str, iu_tup, iu_lst, iu_ins, sb_t, sb_l, y_appi, it_m1, fs_int, runF_eq, bind_ok, opt_some, ↓nxt_nx, ↓nxt_ret, ↓nxt_brk, ↓nxt_cnt, mayO_some, ↓onB_bl, ↓onO_some, blO_bl, ng_int, nt_bl, i_tup, i_lst, l_lst, t_bl, range0, asgT, wipeE, saved, restore, putBack, List.getElem?_cons_zero, List.getElem?_cons_succ, List.set_cons_zero, List.set_cons_succ, List.length_cons, List.length_nil, List.cons_append, List.nil_append, List.replicate_succ, List.replicate_zero, List.getD_cons_zero, List.getD_cons_succ, List.map_nil, List.map_cons, List.any_cons, List.any_nil, Nat.reduceSub, Nat.reduceAdd, Nat.reduceLT, Nat.reduceLeDiff, Nat.zero_add, if_true, ite_true, ite_false, reduceIte, D.own, Bool.false_eq_true, Option.bind_some, Option.map_some, Bool.or_false, Bool.false_or, Bool.not_true, Bool.not_false, decide_true, decide_false, lim, n_add, n_shr, n_and, n_eq, n_ne, n_lt, n_le, n_gt, n_ge, c_isN_non, c_isN_tup, n_sum, n_all, n_any, n_listS, n_lenL, n_lenT, n_intI, n_tupleT, n_tuple, n_list, n_listT, n_allf, n_anyf, n_sumf, nw_I, nw_If, nw_bl, nw_tup, nw_lst, k_ii, k_ib, k_is, k_il, k_it, k_bb, k_bi, k_tt, k_tl, k_ll, k_lt, k_llt, k_tlt, n_inT, n_or]
        rw [lcR_map (f := fun k => .bl (decide (k ∈ thg S)))]
        · simp only [rd_non, rd_bl, rd_int, rd_str, rd_scr, rd_tup, rd_lst, rd_ins, rd_tupT, rd_lstT, rd_insT, pk_non, pk_bl, pk_int, pk_str, pk_scr, pk_tup, pk_lst, pk_ins, x_var, x_glo, x_int, x_bl, x_non, x_str, x_bin, x_neg, x_nt, x_an, x_or, x_cmp, x_chn, x_ite, x_tup, x_lst, x_sub, x_subv, x_att, x_attv, x_call, x_bi, x_biv, x_lc, x_mk, x_met, x_isi, x_gcd, x_bln, xs_nil, xs_cons, xa_nil, xa_cons, xa_lend, xr_seq, xr_rng1, xr_rng2, xr_enm, xr_rev, xt_an, xt_or, xt_nt, xt_cmp, xt_chn, xt_tv, xts_nil, xts_one, y_asg, y_exp, y_ret, y_retN, y_ite, y_fr, y_brk, y_cnt, y_pas, y_par, ys_nil, ys_cons, y_unp, y_setv, y_apG, y_app, y_stf, run_nx, run_ret, io_t, io_f, io_n, ln_nil, ln_cons, ln_lend, f_non, f_bl, f_int, f_str, f_tup, f_lst, f_ins, f_tupT, f_lstT, f_insT, fs_nil, fs_cons, fs_I, fs_blf, fs_If, fs_tupf, fs_lstf, fs_lstT, fs_app, fs_rev, it_eq, it_l, it_t, it_bl, it_int, it_non, it_str, it_tup, it_lst, it_ins, it_lstT, iu_bl, iu_int, iu_non, iu_str, iu_tup, iu_lst, iu_ins, sb_t, sb_l, y_appi, it_m1, fs_int, runF_eq, bind_ok, opt_some, ↓nxt_nx, ↓nxt_ret, ↓nxt_brk, ↓nxt_cnt, mayO_some, ↓onB_bl, ↓onO_some, blO_bl, ng_int, nt_bl, i_tup, i_lst, l_lst, t_bl, range0, asgT, wipeE, saved, restore, putBack, List.getElem?_cons_zero, List.getElem?_cons_succ, List.set_cons_zero, List.set_cons_succ, List.length_cons, List.length_nil, List.cons_append, List.nil_append, List.replicate_succ, List.replicate_zero, List.getD_cons_zero, List.getD_cons_succ, List.map_nil, List.map_cons, List.any_cons, List.any_nil, Nat.reduceSub, Nat.reduceAdd, Nat.reduceLT, Nat.reduceLeDiff, Nat.zero_add, if_true, ite_true, ite_false, reduceIte, D.own, Bool.false_eq_true, Option.bind_some, Option.map_some, Bool.or_false, Bool.false_or, Bool.not_true, Bool.not_false, decide_true, decide_false, lim, n_add, n_shr, n_and, n_eq, n_ne, n_lt, n_le, n_gt, n_ge, c_isN_non, c_isN_tup, n_sum, n_all, n_any, n_listS, n_lenL, n_lenT, n_intI, n_tupleT, n_tuple, n_list, n_listT, n_allf, n_anyf, n_sumf, nw_I, nw_If, nw_bl, nw_tup, nw_lst, k_ii, k_ib, k_is, k_il, k_it, k_bb, k_bi, k_tt, k_tl, k_ll, k_lt, k_llt, k_tlt, n_inT, n_or, sub_mem ho2 hS64]
          refine gt ⟨fun _ => rfl, fun _ => ?_⟩
          simp only [rd_non, rd_bl, rd_int, rd_str, rd_scr, rd_tup, rd_lst, rd_ins, rd_tupT, rd_lstT, rd_insT, pk_non, pk_bl, pk_int, pk_str, pk_scr, pk_tup, pk_lst, pk_ins, x_var, x_glo, x_int, x_bl, x_non, x_str, x_bin, x_neg, x_nt, x_an, x_or, x_cmp, x_chn, x_ite, x_tup, x_lst, x_sub, x_subv, x_att, x_attv, x_call, x_bi, x_biv, x_lc, x_mk, x_met, x_isi, x_gcd, x_bln, xs_nil, xs_cons, xa_nil, xa_cons, xa_lend, xr_seq, xr_rng1, xr_rng2, xr_enm, xr_rev, xt_an, xt_or, xt_nt, xt_cmp, xt_chn, xt_tv, xts_nil, xts_one, y_asg, y_exp, y_ret, y_retN, y_ite, y_fr, y_brk, y_cnt, y_pas, y_par, ys_nil, ys_cons, y_unp, y_setv, y_apG, y_app, y_stf, run_nx, run_ret, io_t, io_f, io_n, ln_nil, ln_cons, ln_lend, f_non, f_bl, f_int, f_str, f_tup, f_lst, f_ins, f_tupT, f_lstT, f_insT, fs_nil, fs_cons, fs_I, fs_blf, fs_If, fs_tupf, fs_lstf, fs_lstT, fs_app, fs_rev, it_eq, it_l, it_t, it_bl, it_int, it_non, it_str, it_tup, it_lst, it_ins, it_lstT, iu_bl, iu_int, iu_non, iu_str, iu_tup, iu_lst, iu_ins, sb_t, sb_l, y_appi, it_m1, fs_int, runF_eq, bind_ok, opt_some, ↓nxt_nx, ↓nxt_ret, ↓nxt_brk, ↓nxt_cnt, mayO_some, ↓onB_bl, ↓onO_some, blO_bl, ng_int, nt_bl, i_tup, i_lst, l_lst, t_bl, range0, asgT, wipeE, saved, restore, putBack, List.getElem?_cons_zero, List.getElem?_cons_succ, List.set_cons_zero, List.set_cons_succ, List.length_cons, List.length_nil, List.cons_append, List.nil_append, List.replicate_succ, List.replicate_zero, List.getD_cons_zero, List.getD_cons_succ, List.map_nil, List.map_cons, List.any_cons, List.any_nil, Nat.reduceSub, Nat.reduceAdd, Nat.reduceLT, Nat.reduceLeDiff, Nat.zero_add, if_true, ite_true, ite_false, reduceIte, D.own, Bool.false_eq_true, Option.bind_some, Option.map_some, Bool.or_false, Bool.false_or, Bool.not_true, Bool.not_false, decide_true, decide_false, lim]
          exact gd rfl
        · intro k hk
          refine ⟨_, rfl, ?_⟩
          simp only [rd_non, rd_bl, rd_int, rd_str, rd_scr, rd_tup, rd_lst, rd_ins, rd_tupT, rd_lstT, rd_insT, pk_non, pk_bl, pk_int, pk_str, pk_scr, pk_tup, pk_lst, pk_ins, x_var, x_glo, x_int, x_bl, x_non, x_str, x_bin, x_neg, x_nt, x_an, x_or, x_cmp, x_chn, x_ite, x_tup, x_lst, x_sub, x_subv, x_att, x_attv, x_call, x_bi, x_biv, x_lc, x_mk, x_met, x_isi, x_gcd, x_bln, xs_nil, xs_cons, xa_nil, xa_cons, xa_lend, xr_seq, xr_rng1, xr_rng2, xr_enm, xr_rev, xt_an, xt_or, xt_nt, xt_cmp, xt_chn, xt_tv, xts_nil, xts_one, y_asg, y_exp, y_ret, y_retN, y_ite, y_fr, y_brk, y_cnt, y_pas, y_par, ys_nil, ys_cons, y_unp, y_setv, y_apG, y_app, y_stf, run_nx, run_ret, io_t, io_f, io_n, ln_nil, ln_cons, ln_lend, f_non, f_bl, f_int, f_str, f_tup, f_lst, f_ins, f_tupT, f_lstT, f_insT, fs_nil, fs_cons, fs_I, fs_blf, fs_If, fs_tupf, fs_lstf, fs_lstT, fs_app, fs_rev, it_eq, it_l, it_t, it_bl, it_int, it_non, it_str, it_tup, it_lst, it_ins, it_lstT, iu_bl, iu_int, iu_non, iu_str, iu_tup, iu_lst, iu_ins, sb_t, sb_l, y_appi, it_m1, fs_int, runF_eq, bind_ok, opt_some, ↓nxt_nx, ↓nxt_ret, ↓nxt_brk, ↓nxt_cnt, mayO_some, ↓onB_bl, ↓onO_some, blO_bl, ng_int, nt_bl, i_tup, i_lst, l_lst, t_bl, range0, asgT, wipeE, saved, restore, putBack, List.getElem?_cons_zero, List.getElem?_cons_succ, List.set_cons_zero, List.set_cons_succ, List.length_cons, List.length_nil, List.cons_append, List.nil_append, List.replicate_succ, List.replicate_zero, List.getD_cons_zero, List.getD_cons_succ, List.map_nil, List.map_cons, List.any_cons, List.any_nil, Nat.reduceSub, Nat.reduceAdd, Nat.reduceLT, Nat.reduceLeDiff, Nat.zero_add, if_true, ite_true, ite_false, reduceIte, D.own, Bool.false_eq_true, Option.bind_some, Option.map_some, Bool.or_false, Bool.false_or, Bool.not_true, Bool.not_false, decide_true, decide_false, lim, n_add, n_shr, n_and, n_eq, n_ne, n_lt, n_le, n_gt, n_ge, c_isN_non, c_isN_tup, n_sum, n_all, n_any, n_listS, n_lenL, n_lenT, n_intI, n_tupleT, n_tuple, n_list, n_listT, n_allf, n_anyf, n_sumf, nw_I, nw_If, nw_bl, nw_tup, nw_lst, k_ii, k_ib, k_is, k_il, k_it, k_bb, k_bi, k_tt, k_tl, k_ll, k_lt, k_llt, k_tlt, n_inT, n_or]
          exact gd rfl
        · exact le_lim (by have := thg_len o; omega)
        · rfl
      · exact le_lim (by have := ord_len F.h6; have := List.length_filter_le T (ordm s); unfold setsL; omega)
      · rfl
    · simp only [rd_non, rd_bl, rd_int, rd_str, rd_scr, rd_tup, rd_lst, rd_ins, rd_tupT, rd_lstT, rd_insT, pk_non, pk_bl, pk_int, pk_str, pk_scr, pk_tup, pk_lst, pk_ins, x_var, x_glo, x_int, x_bl, x_non, x_str, x_bin, x_neg, x_nt, x_an, x_or, x_cmp, x_chn, x_ite, x_tup, x_lst, x_sub, x_subv, x_att, x_attv, x_call, x_bi, x_biv, x_lc, x_mk, x_met, x_isi, x_gcd, x_bln, xs_nil, xs_cons, xa_nil, xa_cons, xa_lend, xr_seq, xr_rng1, xr_rng2, xr_enm, xr_rev, xt_an, xt_or, xt_nt, xt_cmp, xt_chn, xt_tv, xts_nil, xts_one, y_asg, y_exp, y_ret, y_retN, y_ite, y_fr, y_brk, y_cnt, y_pas, y_par, ys_nil, ys_cons, y_unp, y_setv, y_apG, y_app, y_stf, run_nx, run_ret, io_t, io_f, io_n, ln_nil, ln_cons, ln_lend, f_non, f_bl, f_int, f_str, f_tup, f_lst, f_ins, f_tupT, f_lstT, f_insT, fs_nil, fs_cons, fs_I, fs_blf, fs_If, fs_tupf, fs_lstf, fs_lstT, fs_app, fs_rev, it_eq, it_l, it_t, it_bl, it_int, it_non, it_str, it_tup, it_lst, it_ins, it_lstT, iu_bl, iu_int, iu_non, iu_str, iu_tup, iu_lst, iu_ins, sb_t, sb_l, y_appi, it_m1, fs_int, runF_eq, bind_ok, opt_some, ↓nxt_nx, ↓nxt_ret, ↓nxt_brk, ↓nxt_cnt, mayO_some, ↓onB_bl, ↓onO_some, blO_bl, ng_int, nt_bl, i_tup, i_lst, l_lst, t_bl, range0, asgT, wipeE, saved, restore, putBack, List.getElem?_cons_zero, List.getElem?_cons_succ, List.set_cons_zero, List.set_cons_succ, List.length_cons, List.length_nil, List.cons_append, List.nil_append, List.replicate_succ, List.replicate_zero, List.getD_cons_zero, List.getD_cons_succ, List.map_nil, List.map_cons, List.any_cons, List.any_nil, Nat.reduceSub, Nat.reduceAdd, Nat.reduceLT, Nat.reduceLeDiff, Nat.zero_add, if_true, ite_true, ite_false, reduceIte, D.own, Bool.false_eq_true, Option.bind_some, Option.map_some, Bool.or_false, Bool.false_or, Bool.not_true, Bool.not_false, decide_true, decide_false, lim, n_add, n_shr, n_and, n_eq, n_ne, n_lt, n_le, n_gt, n_ge, c_isN_non, c_isN_tup, n_sum, n_all, n_any, n_listS, n_lenL, n_lenT, n_intI, n_tupleT, n_tuple, n_list, n_listT, n_allf, n_anyf, n_sumf, nw_I, nw_If, nw_bl, nw_tup, nw_lst, k_ii, k_ib, k_is, k_il, k_it, k_bb, k_bi, k_tt, k_tl, k_ll, k_lt, k_llt, k_tlt, n_inT, n_or, call1 (s_mask_of hS64), rd_fam, f_fam, mo_rank, call2 (s_mask_rank F hS64), hr]
      refine gs ⟨hB2, ?_⟩
      rw [show qstep s T best S = best from if_neg hr]
      exact ⟨_, _, _, _, _, _, _, _, rfl⟩
  · obtain ⟨hB, x2, x3, x4, x5, x6, x7, x8, x9, rfl⟩ := he
    rw [show (ordm s).foldl (qstep s T) none = qall s T from rfl] at hB ⊢
    cases hq : qall s T with
    | none =>
      simp only [bstD, rd_non, rd_bl, rd_int, rd_str, rd_scr, rd_tup, rd_lst, rd_ins, rd_tupT, rd_lstT, rd_insT, pk_non, pk_bl, pk_int, pk_str, pk_scr, pk_tup, pk_lst, pk_ins, x_var, x_glo, x_int, x_bl, x_non, x_str, x_bin, x_neg, x_nt, x_an, x_or, x_cmp, x_chn, x_ite, x_tup, x_lst, x_sub, x_subv, x_att, x_attv, x_call, x_bi, x_biv, x_lc, x_mk, x_met, x_isi, x_gcd, x_bln, xs_nil, xs_cons, xa_nil, xa_cons, xa_lend, xr_seq, xr_rng1, xr_rng2, xr_enm, xr_rev, xt_an, xt_or, xt_nt, xt_cmp, xt_chn, xt_tv, xts_nil, xts_one, y_asg, y_exp, y_ret, y_retN, y_ite, y_fr, y_brk, y_cnt, y_pas, y_par, ys_nil, ys_cons, y_unp, y_setv, y_apG, y_app, y_stf, run_nx, run_ret, io_t, io_f, io_n, ln_nil, ln_cons, ln_lend, f_non, f_bl, f_int, f_str, f_tup, f_lst, f_ins, f_tupT, f_lstT, f_insT, fs_nil, fs_cons, fs_I, fs_blf, fs_If, fs_tupf, fs_lstf, fs_lstT, fs_app, fs_rev, it_eq, it_l, it_t, it_bl, it_int, it_non, it_str, it_tup, it_lst, it_ins, it_lstT, iu_bl, iu_int, iu_non, iu_str, iu_tup, iu_lst, iu_ins, sb_t, sb_l, y_appi, it_m1, fs_int, runF_eq, bind_ok, opt_some, ↓nxt_nx, ↓nxt_ret, ↓nxt_brk, ↓nxt_cnt, mayO_some, ↓onB_bl, ↓onO_some, blO_bl, ng_int, nt_bl, i_tup, i_lst, l_lst, t_bl, range0, asgT, wipeE, saved, restore, putBack, List.getElem?_cons_zero, List.getElem?_cons_succ, List.set_cons_zero, List.set_cons_succ, List.length_cons, List.length_nil, List.cons_append, List.nil_append, List.replicate_succ, List.replicate_zero, List.getD_cons_zero, List.getD_cons_succ, List.map_nil, List.map_cons, List.any_cons, List.any_nil, Nat.reduceSub, Nat.reduceAdd, Nat.reduceLT, Nat.reduceLeDiff, Nat.zero_add, if_true, ite_true, ite_false, reduceIte, D.own, Bool.false_eq_true, Option.bind_some, Option.map_some, Bool.or_false, Bool.false_or, Bool.not_true, Bool.not_false, decide_true, decide_false, lim, n_add, n_shr, n_and, n_eq, n_ne, n_lt, n_le, n_gt, n_ge, c_isN_non, c_isN_tup, n_sum, n_all, n_any, n_listS, n_lenL, n_lenT, n_intI, n_tupleT, n_tuple, n_list, n_listT, n_allf, n_anyf, n_sumf, nw_I, nw_If, nw_bl, nw_tup, nw_lst, k_ii, k_ib, k_is, k_il, k_it, k_bb, k_bi, k_tt, k_tl, k_ll, k_lt, k_llt, k_tlt, n_inT, n_or, mk1 (c := ("Frac" : Str)) (x := frD true 1 1) rfl (s_frac (a := 1) (b := 1) (by decide) (by decide) (by decide)), qres]
      rfl
    | some p =>
      obtain ⟨S, a, b⟩ := p
      rw [hq] at hB
      have ca := thg_len a
      have cb := thg_len b
      simp only [bstD, rd_non, rd_bl, rd_int, rd_str, rd_scr, rd_tup, rd_lst, rd_ins, rd_tupT, rd_lstT, rd_insT, pk_non, pk_bl, pk_int, pk_str, pk_scr, pk_tup, pk_lst, pk_ins, x_var, x_glo, x_int, x_bl, x_non, x_str, x_bin, x_neg, x_nt, x_an, x_or, x_cmp, x_chn, x_ite, x_tup, x_lst, x_sub, x_subv, x_att, x_attv, x_call, x_bi, x_biv, x_lc, x_mk, x_met, x_isi, x_gcd, x_bln, xs_nil, xs_cons, xa_nil, xa_cons, xa_lend, xr_seq, xr_rng1, xr_rng2, xr_enm, xr_rev, xt_an, xt_or, xt_nt, xt_cmp, xt_chn, xt_tv, xts_nil, xts_one, y_asg, y_exp, y_ret, y_retN, y_ite, y_fr, y_brk, y_cnt, y_pas, y_par, ys_nil, ys_cons, y_unp, y_setv, y_apG, y_app, y_stf, run_nx, run_ret, io_t, io_f, io_n, ln_nil, ln_cons, ln_lend, f_non, f_bl, f_int, f_str, f_tup, f_lst, f_ins, f_tupT, f_lstT, f_insT, fs_nil, fs_cons, fs_I, fs_blf, fs_If, fs_tupf, fs_lstf, fs_lstT, fs_app, fs_rev, it_eq, it_l, it_t, it_bl, it_int, it_non, it_str, it_tup, it_lst, it_ins, it_lstT, iu_bl, iu_int, iu_non, iu_str, iu_tup, iu_lst, iu_ins, sb_t, sb_l, y_appi, it_m1, fs_int, runF_eq, bind_ok, opt_some, ↓nxt_nx, ↓nxt_ret, ↓nxt_brk, ↓nxt_cnt, mayO_some, ↓onB_bl, ↓onO_some, blO_bl, ng_int, nt_bl, i_tup, i_lst, l_lst, t_bl, range0, asgT, wipeE, saved, restore, putBack, List.getElem?_cons_zero, List.getElem?_cons_succ, List.set_cons_zero, List.set_cons_succ, List.length_cons, List.length_nil, List.cons_append, List.nil_append, List.replicate_succ, List.replicate_zero, List.getD_cons_zero, List.getD_cons_succ, List.map_nil, List.map_cons, List.any_cons, List.any_nil, Nat.reduceSub, Nat.reduceAdd, Nat.reduceLT, Nat.reduceLeDiff, Nat.zero_add, if_true, ite_true, ite_false, reduceIte, D.own, Bool.false_eq_true, Option.bind_some, Option.map_some, Bool.or_false, Bool.false_or, Bool.not_true, Bool.not_false, decide_true, decide_false, lim, n_add, n_shr, n_and, n_eq, n_ne, n_lt, n_le, n_gt, n_ge, c_isN_non, c_isN_tup, n_sum, n_all, n_any, n_listS, n_lenL, n_lenT, n_intI, n_tupleT, n_tuple, n_list, n_listT, n_allf, n_anyf, n_sumf, nw_I, nw_If, nw_bl, nw_tup, nw_lst, k_ii, k_ib, k_is, k_il, k_it, k_bb, k_bi, k_tt, k_tl, k_ll, k_lt, k_llt, k_tlt, n_inT, n_or, List.length_map, mk2 (c := ("Frac" : Str)) (x := frD true (cnt a) (cnt b)) rfl (s_frac (a := cnt a) (b := cnt b) ca cb hB.2), qres]
      rfl
end
end K36

/-! ## P4 -/
set_option maxRecDepth 100000
set_option maxHeartbeats 4000000
namespace K36
open PySem PySem.Spec PyProof.Rows L2 VS
section
variable {s : Nat} {T : Nat → Bool} {env : En} {m : Bool} {i : Nat}
/-! ### the order -/
def bt (s back : Nat) : List Nat := (List.range s).filter fun k => decide ((2 ^ s - 1 - back) >>> (s - 1 - k) &&& 1 = 1)
theorem bt_facts {s back : Nat} (h : s ≤ 6) (hb : back < 2 ^ s) : ((bt s back).map (2 ^ ·)).sum = mk s back ∧ (bt s back).length = cnt (mk s back) ∧ mk s back < 2 ^ s ∧ cnt (mk s back) < s + 1 := by
  have key : (List.range 7).all (fun s => (List.range (2 ^ s)).all fun back => decide (((bt s back).map (2 ^ ·)).sum = mk s back) && (decide ((bt s back).length = cnt (mk s back)) && (decide (mk s back < 2 ^ s) && decide (cnt (mk s back) < s + 1)))) = true := by decide +kernel
  have := List.all_eq_true.mp (List.all_eq_true.mp key s (List.mem_range.mpr (by omega))) back (List.mem_range.mpr hb)
  simpa only [Bool.and_eq_true, decide_eq_true_eq] using this
def rowL (s : Nat) (T : Nat → Bool) (pre : List Nat) (c : Nat) : List Nat := (pre.map (mk s)).filter fun m => (cnt m == c) && T m
def rowsL (s : Nat) (T : Nat → Bool) (pre : List Nat) : List D := (List.range (s + 1)).map fun c => D.lst true ((rowL s T pre c).map I)
theorem rows_get {pre : List Nat} {c : Nat} (h : c < s + 1) : (rowsL s T pre)[c]? = some (.lst true ((rowL s T pre c).map I)) := by
  unfold rowsL; rw [List.getElem?_map, List.getElem?_range h]; rfl
theorem rows_set {pre : List Nat} {b : Nat} (h : cnt (mk s b) < s + 1) (hT : T (mk s b) = true) : (rowsL s T pre).set (cnt (mk s b)) (.lst true ((rowL s T pre (cnt (mk s b))).map I ++ [I (mk s b)])) = rowsL s T (pre ++ [b]) := by
  apply List.ext_getElem?
  intro j
  by_cases hj : j < s + 1
  · rw [rows_get hj]
    by_cases e : cnt (mk s b) = j
    · subst e
      rw [List.getElem?_set_self (by unfold rowsL; simp; omega)]
      simp [rowL, hT]
    · rw [List.getElem?_set_ne e, rows_get hj]
      simp [rowL, e]
  · rw [List.getElem?_eq_none (by simp [rowsL]; omega), List.getElem?_eq_none (by simp [rowsL]; omega)]
theorem rows_skip {pre : List Nat} {b : Nat} (hT : T (mk s b) = false) : rowsL s T (pre ++ [b]) = rowsL s T pre := by
  unfold rowsL
  congr 1
  funext c
  simp [rowL, hT]
theorem rows_all : (List.range (s + 1)).flatMap (rowL s T (List.range (2 ^ s))) = setsL s T := by
  unfold setsL ordm rowL
  rw [List.filter_flatMap]
  congr 1
  funext c
  rw [List.filter_filter]
  congr 1
  funext m
  rw [Bool.and_comm]
theorem sets_len (h : s ≤ 6) : (setsL s T).length ≤ 64 := by have := List.length_filter_le T (ordm s); have := ord_len h; unfold setsL; omega
theorem flat_pre {pre : List Nat} (h : s ≤ 6) (hp : pre <+: List.range (s + 1)) : (pre.flatMap (rowL s T (List.range (2 ^ s)))).length ≤ 64 := by
  obtain ⟨post, e⟩ := hp
  have := sets_len (s := s) (T := T) h
  rw [← rows_all, ← e, List.flatMap_append, List.length_append] at this
  omega
theorem s_order (h1 : 1 ≤ s) (h6 : s ≤ 6) : c__law_order.sem [I s, .lst false (tabL s T)] = .ok (.lst false ((setsL s T).map I)) [] := by
  have p64 := pow64 h6
  have pp := Nat.two_pow_pos s
  simp only [c__law_order, b__law_order, N__law_order, rd_non, rd_bl, rd_int, rd_str, rd_scr, rd_tup, rd_lst, rd_ins, rd_tupT, rd_lstT, rd_insT, pk_non, pk_bl, pk_int, pk_str, pk_scr, pk_tup, pk_lst, pk_ins, x_var, x_glo, x_int, x_bl, x_non, x_str, x_bin, x_neg, x_nt, x_an, x_or, x_cmp, x_chn, x_ite, x_tup, x_lst, x_sub, x_subv, x_att, x_attv, x_call, x_bi, x_biv, x_lc, x_mk, x_met, x_isi, x_gcd, x_bln, xs_nil, xs_cons, xa_nil, xa_cons, xa_lend, xr_seq, xr_rng1, xr_rng2, xr_enm, xr_rev, xt_an, xt_or, xt_nt, xt_cmp, xt_chn, xt_tv, xts_nil, xts_one, y_asg, y_exp, y_ret, y_retN, y_ite, y_fr, y_brk, y_cnt, y_pas, y_par, ys_nil, ys_cons, y_unp, y_setv, y_apG, y_app, y_stf, run_nx, run_ret, io_t, io_f, io_n, ln_nil, ln_cons, ln_lend, f_non, f_bl, f_int, f_str, f_tup, f_lst, f_ins, f_tupT, f_lstT, f_insT, fs_nil, fs_cons, fs_I, fs_blf, fs_If, fs_tupf, fs_lstf, fs_lstT, fs_app, fs_rev, it_eq, it_l, it_t, it_bl, it_int, it_non, it_str, it_tup, it_lst, it_ins, it_lstT, iu_bl, iu_int, iu_non, iu_str, iu_tup, iu_lst, iu_ins, sb_t, sb_l, y_appi, it_m1, fs_int, runF_eq, bind_ok, opt_some, ↓nxt_nx, ↓nxt_ret, ↓nxt_brk, ↓nxt_cnt, mayO_some, ↓onB_bl, ↓onO_some, blO_bl, ng_int, nt_bl, i_tup, i_lst, l_lst, t_bl, range0, asgT, wipeE, saved, restore, putBack, List.getElem?_cons_zero, List.getElem?_cons_succ, List.set_cons_zero, List.set_cons_succ, List.length_cons, List.length_nil, List.cons_append, List.nil_append, List.replicate_succ, List.replicate_zero, List.getD_cons_zero, List.getD_cons_succ, List.map_nil, List.map_cons, List.any_cons, List.any_nil, Nat.reduceSub, Nat.reduceAdd, Nat.reduceLT, Nat.reduceLeDiff, Nat.zero_add, if_true, ite_true, ite_false, reduceIte, D.own, Bool.false_eq_true, Option.bind_some, Option.map_some, Bool.or_false, Bool.false_or, Bool.not_true, Bool.not_false, decide_true, decide_false, lim, n_add, n_shr, n_and, n_eq, n_ne, n_lt, n_le, n_gt, n_ge, c_isN_non, c_isN_tup, n_sum, n_all, n_any, n_listS, n_lenL, n_lenT, n_intI, n_tupleT, n_tuple, n_list, n_listT, n_allf, n_anyf, n_sumf, nw_I, nw_If, nw_bl, nw_tup, nw_lst, k_ii, k_ib, k_is, k_il, k_it, k_bb, k_bi, k_tt, k_tl, k_ll, k_lt, k_llt, k_tlt, n_inT, n_or, shl6 h6, rg_I (show 2 ^ s < 2 ^ 62 by omega), rg_I (show s + 1 < 2 ^ 62 by omega)]
  rw [lcR_map (f := fun _ => .lst true [])]
  · simp only [rd_non, rd_bl, rd_int, rd_str, rd_scr, rd_tup, rd_lst, rd_ins, rd_tupT, rd_lstT, rd_insT, pk_non, pk_bl, pk_int, pk_str, pk_scr, pk_tup, pk_lst, pk_ins, x_var, x_glo, x_int, x_bl, x_non, x_str, x_bin, x_neg, x_nt, x_an, x_or, x_cmp, x_chn, x_ite, x_tup, x_lst, x_sub, x_subv, x_att, x_attv, x_call, x_bi, x_biv, x_lc, x_mk, x_met, x_isi, x_gcd, x_bln, xs_nil, xs_cons, xa_nil, xa_cons, xa_lend, xr_seq, xr_rng1, xr_rng2, xr_enm, xr_rev, xt_an, xt_or, xt_nt, xt_cmp, xt_chn, xt_tv, xts_nil, xts_one, y_asg, y_exp, y_ret, y_retN, y_ite, y_fr, y_brk, y_cnt, y_pas, y_par, ys_nil, ys_cons, y_unp, y_setv, y_apG, y_app, y_stf, run_nx, run_ret, io_t, io_f, io_n, ln_nil, ln_cons, ln_lend, f_non, f_bl, f_int, f_str, f_tup, f_lst, f_ins, f_tupT, f_lstT, f_insT, fs_nil, fs_cons, fs_I, fs_blf, fs_If, fs_tupf, fs_lstf, fs_lstT, fs_app, fs_rev, it_eq, it_l, it_t, it_bl, it_int, it_non, it_str, it_tup, it_lst, it_ins, it_lstT, iu_bl, iu_int, iu_non, iu_str, iu_tup, iu_lst, iu_ins, sb_t, sb_l, y_appi, it_m1, fs_int, runF_eq, bind_ok, opt_some, ↓nxt_nx, ↓nxt_ret, ↓nxt_brk, ↓nxt_cnt, mayO_some, ↓onB_bl, ↓onO_some, blO_bl, ng_int, nt_bl, i_tup, i_lst, l_lst, t_bl, range0, asgT, wipeE, saved, restore, putBack, List.getElem?_cons_zero, List.getElem?_cons_succ, List.set_cons_zero, List.set_cons_succ, List.length_cons, List.length_nil, List.cons_append, List.nil_append, List.replicate_succ, List.replicate_zero, List.getD_cons_zero, List.getD_cons_succ, List.map_nil, List.map_cons, List.any_cons, List.any_nil, Nat.reduceSub, Nat.reduceAdd, Nat.reduceLT, Nat.reduceLeDiff, Nat.zero_add, if_true, ite_true, ite_false, reduceIte, D.own, Bool.false_eq_true, Option.bind_some, Option.map_some, Bool.or_false, Bool.false_or, Bool.not_true, Bool.not_false, decide_true, decide_false, lim, n_add, n_shr, n_and, n_eq, n_ne, n_lt, n_le, n_gt, n_ge, c_isN_non, c_isN_tup, n_sum, n_all, n_any, n_listS, n_lenL, n_lenT, n_intI, n_tupleT, n_tuple, n_list, n_listT, n_allf, n_anyf, n_sumf, nw_I, nw_If, nw_bl, nw_tup, nw_lst, k_ii, k_ib, k_is, k_il, k_it, k_bb, k_bi, k_tt, k_tl, k_ll, k_lt, k_llt, k_tlt, n_inT, n_or, shl6 h6, rg_I (show 2 ^ s < 2 ^ 62 by omega)]
    refine run_for (P := fun pre e => ∃ x4 x5 x6 x7, e = [I s, .lst false (tabL s T), .lst true (rowsL s T pre), .hole, x4, x5, x6, x7, .hole, .hole]) (fun b env pre hb hpr he => ?_) ⟨.hole, .hole, .hole, .hole, by simp [rowsL, rowL]⟩ fun e he => ?_
    · obtain ⟨x4, x5, x6, x7, rfl⟩ := he
      have hb := List.mem_range.mp hb
      obtain ⟨f1, f2, f3, f4⟩ := bt_facts h6 hb
      refine ⟨_, rfl, ?_⟩
      simp only [rd_non, rd_bl, rd_int, rd_str, rd_scr, rd_tup, rd_lst, rd_ins, rd_tupT, rd_lstT, rd_insT, pk_non, pk_bl, pk_int, pk_str, pk_scr, pk_tup, pk_lst, pk_ins, x_var, x_glo, x_int, x_bl, x_non, x_str, x_bin, x_neg, x_nt, x_an, x_or, x_cmp, x_chn, x_ite, x_tup, x_lst, x_sub, x_subv, x_att, x_attv, x_call, x_bi, x_biv, x_lc, x_mk, x_met, x_isi, x_gcd, x_bln, xs_nil, xs_cons, xa_nil, xa_cons, xa_lend, xr_seq, xr_rng1, xr_rng2, xr_enm, xr_rev, xt_an, xt_or, xt_nt, xt_cmp, xt_chn, xt_tv, xts_nil, xts_one, y_asg, y_exp, y_ret, y_retN, y_ite, y_fr, y_brk, y_cnt, y_pas, y_par, ys_nil, ys_cons, y_unp, y_setv, y_apG, y_app, y_stf, run_nx, run_ret, io_t, io_f, io_n, ln_nil, ln_cons, ln_lend, f_non, f_bl, f_int, f_str, f_tup, f_lst, f_ins, f_tupT, f_lstT, f_insT, fs_nil, fs_cons, fs_I, fs_blf, fs_If, fs_tupf, fs_lstf, fs_lstT, fs_app, fs_rev, it_eq, it_l, it_t, it_bl, it_int, it_non, it_str, it_tup, it_lst, it_ins, it_lstT, iu_bl, iu_int, iu_non, iu_str, iu_tup, iu_lst, iu_ins, sb_t, sb_l, y_appi, it_m1, fs_int, runF_eq, bind_ok, opt_some, ↓nxt_nx, ↓nxt_ret, ↓nxt_brk, ↓nxt_cnt, mayO_some, ↓onB_bl, ↓onO_some, blO_bl, ng_int, nt_bl, i_tup, i_lst, l_lst, t_bl, range0, asgT, wipeE, saved, restore, putBack, List.getElem?_cons_zero, List.getElem?_cons_succ, List.set_cons_zero, List.set_cons_succ, List.length_cons, List.length_nil, List.cons_append, List.nil_append, List.replicate_succ, List.replicate_zero, List.getD_cons_zero, List.getD_cons_succ, List.map_nil, List.map_cons, List.any_cons, List.any_nil, Nat.reduceSub, Nat.reduceAdd, Nat.reduceLT, Nat.reduceLeDiff, Nat.zero_add, if_true, ite_true, ite_false, reduceIte, D.own, Bool.false_eq_true, Option.bind_some, Option.map_some, Bool.or_false, Bool.false_or, Bool.not_true, Bool.not_false, decide_true, decide_false, lim, n_add, n_shr, n_and, n_eq, n_ne, n_lt, n_le, n_gt, n_ge, c_isN_non, c_isN_tup, n_sum, n_all, n_any, n_listS, n_lenL, n_lenT, n_intI, n_tupleT, n_tuple, n_list, n_listT, n_allf, n_anyf, n_sumf, nw_I, nw_If, nw_bl, nw_tup, nw_lst, k_ii, k_ib, k_is, k_il, k_it, k_bb, k_bi, k_tt, k_tl, k_ll, k_lt, k_llt, k_tlt, n_inT, n_or, shl6 h6, n_sub (show 1 ≤ 2 ^ s by omega), n_sub (show b ≤ 2 ^ s - 1 by omega), rg_I (show s < 2 ^ 62 by omega)]
      rw [lcR_ok (p := fun k => decide ((2 ^ s - 1 - b) >>> (s - 1 - k) &&& 1 = 1)) (f := I)]
      · rw [show List.filter (fun k => decide ((2 ^ s - 1 - b) >>> (s - 1 - k) &&& 1 = 1)) (List.range s) = bt s b from rfl]
        simp only [rd_non, rd_bl, rd_int, rd_str, rd_scr, rd_tup, rd_lst, rd_ins, rd_tupT, rd_lstT, rd_insT, pk_non, pk_bl, pk_int, pk_str, pk_scr, pk_tup, pk_lst, pk_ins, x_var, x_glo, x_int, x_bl, x_non, x_str, x_bin, x_neg, x_nt, x_an, x_or, x_cmp, x_chn, x_ite, x_tup, x_lst, x_sub, x_subv, x_att, x_attv, x_call, x_bi, x_biv, x_lc, x_mk, x_met, x_isi, x_gcd, x_bln, xs_nil, xs_cons, xa_nil, xa_cons, xa_lend, xr_seq, xr_rng1, xr_rng2, xr_enm, xr_rev, xt_an, xt_or, xt_nt, xt_cmp, xt_chn, xt_tv, xts_nil, xts_one, y_asg, y_exp, y_ret, y_retN, y_ite, y_fr, y_brk, y_cnt, y_pas, y_par, ys_nil, ys_cons, y_unp, y_setv, y_apG, y_app, y_stf, run_nx, run_ret, io_t, io_f, io_n, ln_nil, ln_cons, ln_lend, f_non, f_bl, f_int, f_str, f_tup, f_lst, f_ins, f_tupT, f_lstT, f_insT, fs_nil, fs_cons, fs_I, fs_blf, fs_If, fs_tupf, fs_lstf, fs_lstT, fs_app, fs_rev, it_eq, it_l, it_t, it_bl, it_int, it_non, it_str, it_tup, it_lst, it_ins, it_lstT, iu_bl, iu_int, iu_non, iu_str, iu_tup, iu_lst, iu_ins, sb_t, sb_l, y_appi, it_m1, fs_int, runF_eq, bind_ok, opt_some, ↓nxt_nx, ↓nxt_ret, ↓nxt_brk, ↓nxt_cnt, mayO_some, ↓onB_bl, ↓onO_some, blO_bl, ng_int, nt_bl, i_tup, i_lst, l_lst, t_bl, range0, asgT, wipeE, saved, restore, putBack, List.getElem?_cons_zero, List.getElem?_cons_succ, List.set_cons_zero, List.set_cons_succ, List.length_cons, List.length_nil, List.cons_append, List.nil_append, List.replicate_succ, List.replicate_zero, List.getD_cons_zero, List.getD_cons_succ, List.map_nil, List.map_cons, List.any_cons, List.any_nil, Nat.reduceSub, Nat.reduceAdd, Nat.reduceLT, Nat.reduceLeDiff, Nat.zero_add, if_true, ite_true, ite_false, reduceIte, D.own, Bool.false_eq_true, Option.bind_some, Option.map_some, Bool.or_false, Bool.false_or, Bool.not_true, Bool.not_false, decide_true, decide_false, lim, n_add, n_shr, n_and, n_eq, n_ne, n_lt, n_le, n_gt, n_ge, c_isN_non, c_isN_tup, n_sum, n_all, n_any, n_listS, n_lenL, n_lenT, n_intI, n_tupleT, n_tuple, n_list, n_listT, n_allf, n_anyf, n_sumf, nw_I, nw_If, nw_bl, nw_tup, nw_lst, k_ii, k_ib, k_is, k_il, k_it, k_bb, k_bi, k_tt, k_tl, k_ll, k_lt, k_llt, k_tlt, n_inT, n_or]
        rw [lcR_map (f := fun k => I (2 ^ k))]
        · simp only [rd_non, rd_bl, rd_int, rd_str, rd_scr, rd_tup, rd_lst, rd_ins, rd_tupT, rd_lstT, rd_insT, pk_non, pk_bl, pk_int, pk_str, pk_scr, pk_tup, pk_lst, pk_ins, x_var, x_glo, x_int, x_bl, x_non, x_str, x_bin, x_neg, x_nt, x_an, x_or, x_cmp, x_chn, x_ite, x_tup, x_lst, x_sub, x_subv, x_att, x_attv, x_call, x_bi, x_biv, x_lc, x_mk, x_met, x_isi, x_gcd, x_bln, xs_nil, xs_cons, xa_nil, xa_cons, xa_lend, xr_seq, xr_rng1, xr_rng2, xr_enm, xr_rev, xt_an, xt_or, xt_nt, xt_cmp, xt_chn, xt_tv, xts_nil, xts_one, y_asg, y_exp, y_ret, y_retN, y_ite, y_fr, y_brk, y_cnt, y_pas, y_par, ys_nil, ys_cons, y_unp, y_setv, y_apG, y_app, y_stf, run_nx, run_ret, io_t, io_f, io_n, ln_nil, ln_cons, ln_lend, f_non, f_bl, f_int, f_str, f_tup, f_lst, f_ins, f_tupT, f_lstT, f_insT, fs_nil, fs_cons, fs_I, fs_blf, fs_If, fs_tupf, fs_lstf, fs_lstT, fs_app, fs_rev, it_eq, it_l, it_t, it_bl, it_int, it_non, it_str, it_tup, it_lst, it_ins, it_lstT, iu_bl, iu_int, iu_non, iu_str, iu_tup, iu_lst, iu_ins, sb_t, sb_l, y_appi, it_m1, fs_int, runF_eq, bind_ok, opt_some, ↓nxt_nx, ↓nxt_ret, ↓nxt_brk, ↓nxt_cnt, mayO_some, ↓onB_bl, ↓onO_some, blO_bl, ng_int, nt_bl, i_tup, i_lst, l_lst, t_bl, range0, asgT, wipeE, saved, restore, putBack, List.getElem?_cons_zero, List.getElem?_cons_succ, List.set_cons_zero, List.set_cons_succ, List.length_cons, List.length_nil, List.cons_append, List.nil_append, List.replicate_succ, List.replicate_zero, List.getD_cons_zero, List.getD_cons_succ, List.map_nil, List.map_cons, List.any_cons, List.any_nil, Nat.reduceSub, Nat.reduceAdd, Nat.reduceLT, Nat.reduceLeDiff, Nat.zero_add, if_true, ite_true, ite_false, reduceIte, D.own, Bool.false_eq_true, Option.bind_some, Option.map_some, Bool.or_false, Bool.false_or, Bool.not_true, Bool.not_false, decide_true, decide_false, lim, n_add, n_shr, n_and, n_eq, n_ne, n_lt, n_le, n_gt, n_ge, c_isN_non, c_isN_tup, n_sum, n_all, n_any, n_listS, n_lenL, n_lenT, n_intI, n_tupleT, n_tuple, n_list, n_listT, n_allf, n_anyf, n_sumf, nw_I, nw_If, nw_bl, nw_tup, nw_lst, k_ii, k_ib, k_is, k_il, k_it, k_bb, k_bi, k_tt, k_tl, k_ll, k_lt, k_llt, k_tlt, n_inT, n_or, f1]
          cases hT : T (mk s b) with
          | true =>
            simp only [rd_non, rd_bl, rd_int, rd_str, rd_scr, rd_tup, rd_lst, rd_ins, rd_tupT, rd_lstT, rd_insT, pk_non, pk_bl, pk_int, pk_str, pk_scr, pk_tup, pk_lst, pk_ins, x_var, x_glo, x_int, x_bl, x_non, x_str, x_bin, x_neg, x_nt, x_an, x_or, x_cmp, x_chn, x_ite, x_tup, x_lst, x_sub, x_subv, x_att, x_attv, x_call, x_bi, x_biv, x_lc, x_mk, x_met, x_isi, x_gcd, x_bln, xs_nil, xs_cons, xa_nil, xa_cons, xa_lend, xr_seq, xr_rng1, xr_rng2, xr_enm, xr_rev, xt_an, xt_or, xt_nt, xt_cmp, xt_chn, xt_tv, xts_nil, xts_one, y_asg, y_exp, y_ret, y_retN, y_ite, y_fr, y_brk, y_cnt, y_pas, y_par, ys_nil, ys_cons, y_unp, y_setv, y_apG, y_app, y_stf, run_nx, run_ret, io_t, io_f, io_n, ln_nil, ln_cons, ln_lend, f_non, f_bl, f_int, f_str, f_tup, f_lst, f_ins, f_tupT, f_lstT, f_insT, fs_nil, fs_cons, fs_I, fs_blf, fs_If, fs_tupf, fs_lstf, fs_lstT, fs_app, fs_rev, it_eq, it_l, it_t, it_bl, it_int, it_non, it_str, it_tup, it_lst, it_ins, it_lstT, iu_bl, iu_int, iu_non, iu_str, iu_tup, iu_lst, iu_ins, sb_t, sb_l, y_appi, it_m1, fs_int, runF_eq, bind_ok, opt_some, ↓nxt_nx, ↓nxt_ret, ↓nxt_brk, ↓nxt_cnt, mayO_some, ↓onB_bl, ↓onO_some, blO_bl, ng_int, nt_bl, i_tup, i_lst, l_lst, t_bl, range0, asgT, wipeE, saved, restore, putBack, List.getElem?_cons_zero, List.getElem?_cons_succ, List.set_cons_zero, List.set_cons_succ, List.length_cons, List.length_nil, List.cons_append, List.nil_append, List.replicate_succ, List.replicate_zero, List.getD_cons_zero, List.getD_cons_succ, List.map_nil, List.map_cons, List.any_cons, List.any_nil, Nat.reduceSub, Nat.reduceAdd, Nat.reduceLT, Nat.reduceLeDiff, Nat.zero_add, if_true, ite_true, ite_false, reduceIte, D.own, Bool.false_eq_true, Option.bind_some, Option.map_some, Bool.or_false, Bool.false_or, Bool.not_true, Bool.not_false, decide_true, decide_false, lim, n_add, n_shr, n_and, n_eq, n_ne, n_lt, n_le, n_gt, n_ge, c_isN_non, c_isN_tup, n_sum, n_all, n_any, n_listS, n_lenL, n_lenT, n_intI, n_tupleT, n_tuple, n_list, n_listT, n_allf, n_anyf, n_sumf, nw_I, nw_If, nw_bl, nw_tup, nw_lst, k_ii, k_ib, k_is, k_il, k_it, k_bb, k_bi, k_tt, k_tl, k_ll, k_lt, k_llt, k_tlt, n_inT, n_or, it_eq, tab_get f3, hT, List.length_map, f2]
            have hl : ((rowL s T pre (cnt (mk s b))).map I).length < lim := by
              have g1 := pre_len hpr
              have g2 := List.length_filter_le (fun m => (cnt m == cnt (mk s b)) && T m) (pre.map (mk s))
              simp only [List.length_map, List.length_range] at g1 g2 ⊢
              unfold rowL lim; omega
            rw [apiL_ok (rows_get f4) (d := I (mk s b)) rfl (by decide) hl]
            simp only [rd_non, rd_bl, rd_int, rd_str, rd_scr, rd_tup, rd_lst, rd_ins, rd_tupT, rd_lstT, rd_insT, pk_non, pk_bl, pk_int, pk_str, pk_scr, pk_tup, pk_lst, pk_ins, x_var, x_glo, x_int, x_bl, x_non, x_str, x_bin, x_neg, x_nt, x_an, x_or, x_cmp, x_chn, x_ite, x_tup, x_lst, x_sub, x_subv, x_att, x_attv, x_call, x_bi, x_biv, x_lc, x_mk, x_met, x_isi, x_gcd, x_bln, xs_nil, xs_cons, xa_nil, xa_cons, xa_lend, xr_seq, xr_rng1, xr_rng2, xr_enm, xr_rev, xt_an, xt_or, xt_nt, xt_cmp, xt_chn, xt_tv, xts_nil, xts_one, y_asg, y_exp, y_ret, y_retN, y_ite, y_fr, y_brk, y_cnt, y_pas, y_par, ys_nil, ys_cons, y_unp, y_setv, y_apG, y_app, y_stf, run_nx, run_ret, io_t, io_f, io_n, ln_nil, ln_cons, ln_lend, f_non, f_bl, f_int, f_str, f_tup, f_lst, f_ins, f_tupT, f_lstT, f_insT, fs_nil, fs_cons, fs_I, fs_blf, fs_If, fs_tupf, fs_lstf, fs_lstT, fs_app, fs_rev, it_eq, it_l, it_t, it_bl, it_int, it_non, it_str, it_tup, it_lst, it_ins, it_lstT, iu_bl, iu_int, iu_non, iu_str, iu_tup, iu_lst, iu_ins, sb_t, sb_l, y_appi, it_m1, fs_int, runF_eq, bind_ok, opt_some, ↓nxt_nx, ↓nxt_ret, ↓nxt_brk, ↓nxt_cnt, mayO_some, ↓onB_bl, ↓onO_some, blO_bl, ng_int, nt_bl, i_tup, i_lst, l_lst, t_bl, range0, asgT, wipeE, saved, restore, putBack, List.getElem?_cons_zero, List.getElem?_cons_succ, List.set_cons_zero, List.set_cons_succ, List.length_cons, List.length_nil, List.cons_append, List.nil_append, List.replicate_succ, List.replicate_zero, List.getD_cons_zero, List.getD_cons_succ, List.map_nil, List.map_cons, List.any_cons, List.any_nil, Nat.reduceSub, Nat.reduceAdd, Nat.reduceLT, Nat.reduceLeDiff, Nat.zero_add, if_true, ite_true, ite_false, reduceIte, D.own, Bool.false_eq_true, Option.bind_some, Option.map_some, Bool.or_false, Bool.false_or, Bool.not_true, Bool.not_false, decide_true, decide_false, lim, rows_set f4 hT]
            exact gs ⟨_, _, _, _, rfl⟩
          | false =>
            simp only [rd_non, rd_bl, rd_int, rd_str, rd_scr, rd_tup, rd_lst, rd_ins, rd_tupT, rd_lstT, rd_insT, pk_non, pk_bl, pk_int, pk_str, pk_scr, pk_tup, pk_lst, pk_ins, x_var, x_glo, x_int, x_bl, x_non, x_str, x_bin, x_neg, x_nt, x_an, x_or, x_cmp, x_chn, x_ite, x_tup, x_lst, x_sub, x_subv, x_att, x_attv, x_call, x_bi, x_biv, x_lc, x_mk, x_met, x_isi, x_gcd, x_bln, xs_nil, xs_cons, xa_nil, xa_cons, xa_lend, xr_seq, xr_rng1, xr_rng2, xr_enm, xr_rev, xt_an, xt_or, xt_nt, xt_cmp, xt_chn, xt_tv, xts_nil, xts_one, y_asg, y_exp, y_ret, y_retN, y_ite, y_fr, y_brk, y_cnt, y_pas, y_par, ys_nil, ys_cons, y_unp, y_setv, y_apG, y_app, y_stf, run_nx, run_ret, io_t, io_f, io_n, ln_nil, ln_cons, ln_lend, f_non, f_bl, f_int, f_str, f_tup, f_lst, f_ins, f_tupT, f_lstT, f_insT, fs_nil, fs_cons, fs_I, fs_blf, fs_If, fs_tupf, fs_lstf, fs_lstT, fs_app, fs_rev, it_eq, it_l, it_t, it_bl, it_int, it_non, it_str, it_tup, it_lst, it_ins, it_lstT, iu_bl, iu_int, iu_non, iu_str, iu_tup, iu_lst, iu_ins, sb_t, sb_l, y_appi, it_m1, fs_int, runF_eq, bind_ok, opt_some, ↓nxt_nx, ↓nxt_ret, ↓nxt_brk, ↓nxt_cnt, mayO_some, ↓onB_bl, ↓onO_some, blO_bl, ng_int, nt_bl, i_tup, i_lst, l_lst, t_bl, range0, asgT, wipeE, saved, restore, putBack, List.getElem?_cons_zero, List.getElem?_cons_succ, List.set_cons_zero, List.set_cons_succ, List.length_cons, List.length_nil, List.cons_append, List.nil_append, List.replicate_succ, List.replicate_zero, List.getD_cons_zero, List.getD_cons_succ, List.map_nil, List.map_cons, List.any_cons, List.any_nil, Nat.reduceSub, Nat.reduceAdd, Nat.reduceLT, Nat.reduceLeDiff, Nat.zero_add, if_true, ite_true, ite_false, reduceIte, D.own, Bool.false_eq_true, Option.bind_some, Option.map_some, Bool.or_false, Bool.false_or, Bool.not_true, Bool.not_false, decide_true, decide_false, lim, n_add, n_shr, n_and, n_eq, n_ne, n_lt, n_le, n_gt, n_ge, c_isN_non, c_isN_tup, n_sum, n_all, n_any, n_listS, n_lenL, n_lenT, n_intI, n_tupleT, n_tuple, n_list, n_listT, n_allf, n_anyf, n_sumf, nw_I, nw_If, nw_bl, nw_tup, nw_lst, k_ii, k_ib, k_is, k_il, k_it, k_bb, k_bi, k_tt, k_tl, k_ll, k_lt, k_llt, k_tlt, n_inT, n_or, it_eq, tab_get f3, hT]
            refine gs ?_
            rw [rows_skip hT]
            exact ⟨_, _, _, _, rfl⟩
        · intro k hk
          have hk6 : k < s := List.mem_range.mp (List.mem_filter.mp hk).1
          refine ⟨_, rfl, ?_⟩
          simp only [rd_non, rd_bl, rd_int, rd_str, rd_scr, rd_tup, rd_lst, rd_ins, rd_tupT, rd_lstT, rd_insT, pk_non, pk_bl, pk_int, pk_str, pk_scr, pk_tup, pk_lst, pk_ins, x_var, x_glo, x_int, x_bl, x_non, x_str, x_bin, x_neg, x_nt, x_an, x_or, x_cmp, x_chn, x_ite, x_tup, x_lst, x_sub, x_subv, x_att, x_attv, x_call, x_bi, x_biv, x_lc, x_mk, x_met, x_isi, x_gcd, x_bln, xs_nil, xs_cons, xa_nil, xa_cons, xa_lend, xr_seq, xr_rng1, xr_rng2, xr_enm, xr_rev, xt_an, xt_or, xt_nt, xt_cmp, xt_chn, xt_tv, xts_nil, xts_one, y_asg, y_exp, y_ret, y_retN, y_ite, y_fr, y_brk, y_cnt, y_pas, y_par, ys_nil, ys_cons, y_unp, y_setv, y_apG, y_app, y_stf, run_nx, run_ret, io_t, io_f, io_n, ln_nil, ln_cons, ln_lend, f_non, f_bl, f_int, f_str, f_tup, f_lst, f_ins, f_tupT, f_lstT, f_insT, fs_nil, fs_cons, fs_I, fs_blf, fs_If, fs_tupf, fs_lstf, fs_lstT, fs_app, fs_rev, it_eq, it_l, it_t, it_bl, it_int, it_non, it_str, it_tup, it_lst, it_ins, it_lstT, iu_bl, iu_int, iu_non, iu_str, iu_tup, iu_lst, iu_ins, sb_t, sb_l, y_appi, it_m1, fs_int, runF_eq, bind_ok, opt_some, ↓nxt_nx, ↓nxt_ret, ↓nxt_brk, ↓nxt_cnt, mayO_some, ↓onB_bl, ↓onO_some, blO_bl, ng_int, nt_bl, i_tup, i_lst, l_lst, t_bl, range0, asgT, wipeE, saved, restore, putBack, List.getElem?_cons_zero, List.getElem?_cons_succ, List.set_cons_zero, List.set_cons_succ, List.length_cons, List.length_nil, List.cons_append, List.nil_append, List.replicate_succ, List.replicate_zero, List.getD_cons_zero, List.getD_cons_succ, List.map_nil, List.map_cons, List.any_cons, List.any_nil, Nat.reduceSub, Nat.reduceAdd, Nat.reduceLT, Nat.reduceLeDiff, Nat.zero_add, if_true, ite_true, ite_false, reduceIte, D.own, Bool.false_eq_true, Option.bind_some, Option.map_some, Bool.or_false, Bool.false_or, Bool.not_true, Bool.not_false, decide_true, decide_false, lim, n_add, n_shr, n_and, n_eq, n_ne, n_lt, n_le, n_gt, n_ge, c_isN_non, c_isN_tup, n_sum, n_all, n_any, n_listS, n_lenL, n_lenT, n_intI, n_tupleT, n_tuple, n_list, n_listT, n_allf, n_anyf, n_sumf, nw_I, nw_If, nw_bl, nw_tup, nw_lst, k_ii, k_ib, k_is, k_il, k_it, k_bb, k_bi, k_tt, k_tl, k_ll, k_lt, k_llt, k_tlt, n_inT, n_or, shl6 (show k ≤ 6 by omega)]
          exact gd rfl
        · exact le_lim (by have := List.length_filter_le (fun k => decide ((2 ^ s - 1 - b) >>> (s - 1 - k) &&& 1 = 1)) (List.range s); rw [List.length_range] at this; unfold bt; omega)
        · rfl
      · intro k hk
        have hk6 := List.mem_range.mp hk
        refine ⟨_, rfl, ?_⟩
        simp only [rd_non, rd_bl, rd_int, rd_str, rd_scr, rd_tup, rd_lst, rd_ins, rd_tupT, rd_lstT, rd_insT, pk_non, pk_bl, pk_int, pk_str, pk_scr, pk_tup, pk_lst, pk_ins, x_var, x_glo, x_int, x_bl, x_non, x_str, x_bin, x_neg, x_nt, x_an, x_or, x_cmp, x_chn, x_ite, x_tup, x_lst, x_sub, x_subv, x_att, x_attv, x_call, x_bi, x_biv, x_lc, x_mk, x_met, x_isi, x_gcd, x_bln, xs_nil, xs_cons, xa_nil, xa_cons, xa_lend, xr_seq, xr_rng1, xr_rng2, xr_enm, xr_rev, xt_an, xt_or, xt_nt, xt_cmp, xt_chn, xt_tv, xts_nil, xts_one, y_asg, y_exp, y_ret, y_retN, y_ite, y_fr, y_brk, y_cnt, y_pas, y_par, ys_nil, ys_cons, y_unp, y_setv, y_apG, y_app, y_stf, run_nx, run_ret, io_t, io_f, io_n, ln_nil, ln_cons, ln_lend, f_non, f_bl, f_int, f_str, f_tup, f_lst, f_ins, f_tupT, f_lstT, f_insT, fs_nil, fs_cons, fs_I, fs_blf, fs_If, fs_tupf, fs_lstf, fs_lstT, fs_app, fs_rev, it_eq, it_l, it_t, it_bl, it_int, it_non, it_str, it_tup, it_lst, it_ins, it_lstT, iu_bl, iu_int, iu_non, iu_str, iu_tup, iu_lst, iu_ins, sb_t, sb_l, y_appi, it_m1, fs_int, runF_eq, bind_ok, opt_some, ↓nxt_nx, ↓nxt_ret, ↓nxt_brk, ↓nxt_cnt, mayO_some, ↓onB_bl, ↓onO_some, blO_bl, ng_int, nt_bl, i_tup, i_lst, l_lst, t_bl, range0, asgT, wipeE, saved, restore, putBack, List.getElem?_cons_zero, List.getElem?_cons_succ, List.set_cons_zero, List.set_cons_succ, List.length_cons, List.length_nil, List.cons_append, List.nil_append, List.replicate_succ, List.replicate_zero, List.getD_cons_zero, List.getD_cons_succ, List.map_nil, List.map_cons, List.any_cons, List.any_nil, Nat.reduceSub, Nat.reduceAdd, Nat.reduceLT, Nat.reduceLeDiff, Nat.zero_add, if_true, ite_true, ite_false, reduceIte, D.own, Bool.false_eq_true, Option.bind_some, Option.map_some, Bool.or_false, Bool.false_or, Bool.not_true, Bool.not_false, decide_true, decide_false, lim, n_add, n_shr, n_and, n_eq, n_ne, n_lt, n_le, n_gt, n_ge, c_isN_non, c_isN_tup, n_sum, n_all, n_any, n_listS, n_lenL, n_lenT, n_intI, n_tupleT, n_tuple, n_list, n_listT, n_allf, n_anyf, n_sumf, nw_I, nw_If, nw_bl, nw_tup, nw_lst, k_ii, k_ib, k_is, k_il, k_it, k_bb, k_bi, k_tt, k_tl, k_ll, k_lt, k_llt, k_tlt, n_inT, n_or, n_sub (show 1 ≤ s by omega), n_sub (show k ≤ s - 1 by omega)]
        refine gt ⟨fun _ => rfl, fun _ => ?_⟩
        simp only [rd_non, rd_bl, rd_int, rd_str, rd_scr, rd_tup, rd_lst, rd_ins, rd_tupT, rd_lstT, rd_insT, pk_non, pk_bl, pk_int, pk_str, pk_scr, pk_tup, pk_lst, pk_ins, x_var, x_glo, x_int, x_bl, x_non, x_str, x_bin, x_neg, x_nt, x_an, x_or, x_cmp, x_chn, x_ite, x_tup, x_lst, x_sub, x_subv, x_att, x_attv, x_call, x_bi, x_biv, x_lc, x_mk, x_met, x_isi, x_gcd, x_bln, xs_nil, xs_cons, xa_nil, xa_cons, xa_lend, xr_seq, xr_rng1, xr_rng2, xr_enm, xr_rev, xt_an, xt_or, xt_nt, xt_cmp, xt_chn, xt_tv, xts_nil, xts_one, y_asg, y_exp, y_ret, y_retN, y_ite, y_fr, y_brk, y_cnt, y_pas, y_par, ys_nil, ys_cons, y_unp, y_setv, y_apG, y_app, y_stf, run_nx, run_ret, io_t, io_f, io_n, ln_nil, ln_cons, ln_lend, f_non, f_bl, f_int, f_str, f_tup, f_lst, f_ins, f_tupT, f_lstT, f_insT, fs_nil, fs_cons, fs_I, fs_blf, fs_If, fs_tupf, fs_lstf, fs_lstT, fs_app, fs_rev, it_eq, it_l, it_t, it_bl, it_int, it_non, it_str, it_tup, it_lst, it_ins, it_lstT, iu_bl, iu_int, iu_non, iu_str, iu_tup, iu_lst, iu_ins, sb_t, sb_l, y_appi, it_m1, fs_int, runF_eq, bind_ok, opt_some, ↓nxt_nx, ↓nxt_ret, ↓nxt_brk, ↓nxt_cnt, mayO_some, ↓onB_bl, ↓onO_some, blO_bl, ng_int, nt_bl, i_tup, i_lst, l_lst, t_bl, range0, asgT, wipeE, saved, restore, putBack, List.getElem?_cons_zero, List.getElem?_cons_succ, List.set_cons_zero, List.set_cons_succ, List.length_cons, List.length_nil, List.cons_append, List.nil_append, List.replicate_succ, List.replicate_zero, List.getD_cons_zero, List.getD_cons_succ, List.map_nil, List.map_cons, List.any_cons, List.any_nil, Nat.reduceSub, Nat.reduceAdd, Nat.reduceLT, Nat.reduceLeDiff, Nat.zero_add, if_true, ite_true, ite_false, reduceIte, D.own, Bool.false_eq_true, Option.bind_some, Option.map_some, Bool.or_false, Bool.false_or, Bool.not_true, Bool.not_false, decide_true, decide_false, lim]
        exact gd rfl
      · exact le_lim (by simp; omega)
      · rfl
    · obtain ⟨x4, x5, x6, x7, rfl⟩ := he
      simp only [rd_non, rd_bl, rd_int, rd_str, rd_scr, rd_tup, rd_lst, rd_ins, rd_tupT, rd_lstT, rd_insT, pk_non, pk_bl, pk_int, pk_str, pk_scr, pk_tup, pk_lst, pk_ins, x_var, x_glo, x_int, x_bl, x_non, x_str, x_bin, x_neg, x_nt, x_an, x_or, x_cmp, x_chn, x_ite, x_tup, x_lst, x_sub, x_subv, x_att, x_attv, x_call, x_bi, x_biv, x_lc, x_mk, x_met, x_isi, x_gcd, x_bln, xs_nil, xs_cons, xa_nil, xa_cons, xa_lend, xr_seq, xr_rng1, xr_rng2, xr_enm, xr_rev, xt_an, xt_or, xt_nt, xt_cmp, xt_chn, xt_tv, xts_nil, xts_one, y_asg, y_exp, y_ret, y_retN, y_ite, y_fr, y_brk, y_cnt, y_pas, y_par, ys_nil, ys_cons, y_unp, y_setv, y_apG, y_app, y_stf, run_nx, run_ret, io_t, io_f, io_n, ln_nil, ln_cons, ln_lend, f_non, f_bl, f_int, f_str, f_tup, f_lst, f_ins, f_tupT, f_lstT, f_insT, fs_nil, fs_cons, fs_I, fs_blf, fs_If, fs_tupf, fs_lstf, fs_lstT, fs_app, fs_rev, it_eq, it_l, it_t, it_bl, it_int, it_non, it_str, it_tup, it_lst, it_ins, it_lstT, iu_bl, iu_int, iu_non, iu_str, iu_tup, iu_lst, iu_ins, sb_t, sb_l, y_appi, it_m1, fs_int, runF_eq, bind_ok, opt_some, ↓nxt_nx, ↓nxt_ret, ↓nxt_brk, ↓nxt_cnt, mayO_some, ↓onB_bl, ↓onO_some, blO_bl, ng_int, nt_bl, i_tup, i_lst, l_lst, t_bl, range0, asgT, wipeE, saved, restore, putBack, List.getElem?_cons_zero, List.getElem?_cons_succ, List.set_cons_zero, List.set_cons_succ, List.length_cons, List.length_nil, List.cons_append, List.nil_append, List.replicate_succ, List.replicate_zero, List.getD_cons_zero, List.getD_cons_succ, List.map_nil, List.map_cons, List.any_cons, List.any_nil, Nat.reduceSub, Nat.reduceAdd, Nat.reduceLT, Nat.reduceLeDiff, Nat.zero_add, if_true, ite_true, ite_false, reduceIte, D.own, Bool.false_eq_true, Option.bind_some, Option.map_some, Bool.or_false, Bool.false_or, Bool.not_true, Bool.not_false, decide_true, decide_false, lim, n_add, n_shr, n_and, n_eq, n_ne, n_lt, n_le, n_gt, n_ge, c_isN_non, c_isN_tup, n_sum, n_all, n_any, n_listS, n_lenL, n_lenT, n_intI, n_tupleT, n_tuple, n_list, n_listT, n_allf, n_anyf, n_sumf, nw_I, nw_If, nw_bl, nw_tup, nw_lst, k_ii, k_ib, k_is, k_il, k_it, k_bb, k_bi, k_tt, k_tl, k_ll, k_lt, k_llt, k_tlt, n_inT, n_or, rowsL]
      refine run_for (P := fun pre e => ∃ x9, e = [I s, .lst false (tabL s T), .lst false ((List.range (s + 1)).map fun c => D.lst false ((rowL s T (List.range (2 ^ s)) c).map I)), .hole, x4, x5, x6, x7, .lst true ((pre.flatMap (rowL s T (List.range (2 ^ s)))).map I), x9]) (fun c env pre hc hp he => ?_) ⟨_, rfl⟩ fun e he => ?_
      · obtain ⟨x9, rfl⟩ := he
        have hl := flat_pre (T := T) h6 hp
        rw [List.flatMap_append, List.length_append, show [c].flatMap (rowL s T (List.range (2 ^ s))) = rowL s T (List.range (2 ^ s)) c by simp] at hl
        refine ⟨_, rfl, ?_⟩
        simp only [rd_non, rd_bl, rd_int, rd_str, rd_scr, rd_tup, rd_lst, rd_ins, rd_tupT, rd_lstT, rd_insT, pk_non, pk_bl, pk_int, pk_str, pk_scr, pk_tup, pk_lst, pk_ins, x_var, x_glo, x_int, x_bl, x_non, x_str, x_bin, x_neg, x_nt, x_an, x_or, x_cmp, x_chn, x_ite, x_tup, x_lst, x_sub, x_subv, x_att, x_attv, x_call, x_bi, x_biv, x_lc, x_mk, x_met, x_isi, x_gcd, x_bln, xs_nil, xs_cons, xa_nil, xa_cons, xa_lend, xr_seq, xr_rng1, xr_rng2, xr_enm, xr_rev, xt_an, xt_or, xt_nt, xt_cmp, xt_chn, xt_tv, xts_nil, xts_one, y_asg, y_exp, y_ret, y_retN, y_ite, y_fr, y_brk, y_cnt, y_pas, y_par, ys_nil, ys_cons, y_unp, y_setv, y_apG, y_app, y_stf, run_nx, run_ret, io_t, io_f, io_n, ln_nil, ln_cons, ln_lend, f_non, f_bl, f_int, f_str, f_tup, f_lst, f_ins, f_tupT, f_lstT, f_insT, fs_nil, fs_cons, fs_I, fs_blf, fs_If, fs_tupf, fs_lstf, fs_lstT, fs_app, fs_rev, it_eq, it_l, it_t, it_bl, it_int, it_non, it_str, it_tup, it_lst, it_ins, it_lstT, iu_bl, iu_int, iu_non, iu_str, iu_tup, iu_lst, iu_ins, sb_t, sb_l, y_appi, it_m1, fs_int, runF_eq, bind_ok, opt_some, ↓nxt_nx, ↓nxt_ret, ↓nxt_brk, ↓nxt_cnt, mayO_some, ↓onB_bl, ↓onO_some, blO_bl, ng_int, nt_bl, i_tup, i_lst, l_lst, t_bl, range0, asgT, wipeE, saved, restore, putBack, List.getElem?_cons_zero, List.getElem?_cons_succ, List.set_cons_zero, List.set_cons_succ, List.length_cons, List.length_nil, List.cons_append, List.nil_append, List.replicate_succ, List.replicate_zero, List.getD_cons_zero, List.getD_cons_succ, List.map_nil, List.map_cons, List.any_cons, List.any_nil, Nat.reduceSub, Nat.reduceAdd, Nat.reduceLT, Nat.reduceLeDiff, Nat.zero_add, if_true, ite_true, ite_false, reduceIte, D.own, Bool.false_eq_true, Option.bind_some, Option.map_some, Bool.or_false, Bool.false_or, Bool.not_true, Bool.not_false, decide_true, decide_false, lim, n_add, n_shr, n_and, n_eq, n_ne, n_lt, n_le, n_gt, n_ge, c_isN_non, c_isN_tup, n_sum, n_all, n_any, n_listS, n_lenL, n_lenT, n_intI, n_tupleT, n_tuple, n_list, n_listT, n_allf, n_anyf, n_sumf, nw_I, nw_If, nw_bl, nw_tup, nw_lst, k_ii, k_ib, k_is, k_il, k_it, k_bb, k_bi, k_tt, k_tl, k_ll, k_lt, k_llt, k_tlt, n_inT, n_or]
        rw [n_addL (by simp only [List.length_map]; omega)]
        simp only [rd_non, rd_bl, rd_int, rd_str, rd_scr, rd_tup, rd_lst, rd_ins, rd_tupT, rd_lstT, rd_insT, pk_non, pk_bl, pk_int, pk_str, pk_scr, pk_tup, pk_lst, pk_ins, x_var, x_glo, x_int, x_bl, x_non, x_str, x_bin, x_neg, x_nt, x_an, x_or, x_cmp, x_chn, x_ite, x_tup, x_lst, x_sub, x_subv, x_att, x_attv, x_call, x_bi, x_biv, x_lc, x_mk, x_met, x_isi, x_gcd, x_bln, xs_nil, xs_cons, xa_nil, xa_cons, xa_lend, xr_seq, xr_rng1, xr_rng2, xr_enm, xr_rev, xt_an, xt_or, xt_nt, xt_cmp, xt_chn, xt_tv, xts_nil, xts_one, y_asg, y_exp, y_ret, y_retN, y_ite, y_fr, y_brk, y_cnt, y_pas, y_par, ys_nil, ys_cons, y_unp, y_setv, y_apG, y_app, y_stf, run_nx, run_ret, io_t, io_f, io_n, ln_nil, ln_cons, ln_lend, f_non, f_bl, f_int, f_str, f_tup, f_lst, f_ins, f_tupT, f_lstT, f_insT, fs_nil, fs_cons, fs_I, fs_blf, fs_If, fs_tupf, fs_lstf, fs_lstT, fs_app, fs_rev, it_eq, it_l, it_t, it_bl, it_int, it_non, it_str, it_tup, it_lst, it_ins, it_lstT, iu_bl, iu_int, iu_non, iu_str, iu_tup, iu_lst, iu_ins, sb_t, sb_l, y_appi, it_m1, fs_int, runF_eq, bind_ok, opt_some, ↓nxt_nx, ↓nxt_ret, ↓nxt_brk, ↓nxt_cnt, mayO_some, ↓onB_bl, ↓onO_some, blO_bl, ng_int, nt_bl, i_tup, i_lst, l_lst, t_bl, range0, asgT, wipeE, saved, restore, putBack, List.getElem?_cons_zero, List.getElem?_cons_succ, List.set_cons_zero, List.set_cons_succ, List.length_cons, List.length_nil, List.cons_append, List.nil_append, List.replicate_succ, List.replicate_zero, List.getD_cons_zero, List.getD_cons_succ, List.map_nil, List.map_cons, List.any_cons, List.any_nil, Nat.reduceSub, Nat.reduceAdd, Nat.reduceLT, Nat.reduceLeDiff, Nat.zero_add, if_true, ite_true, ite_false, reduceIte, D.own, Bool.false_eq_true, Option.bind_some, Option.map_some, Bool.or_false, Bool.false_or, Bool.not_true, Bool.not_false, decide_true, decide_false, lim]
        refine gs ?_
        rw [List.flatMap_append, List.map_append, show [c].flatMap (rowL s T (List.range (2 ^ s))) = rowL s T (List.range (2 ^ s)) c by simp]
        exact ⟨_, rfl⟩
      · obtain ⟨x9, rfl⟩ := he
        rw [rows_all]
        simp only [rd_non, rd_bl, rd_int, rd_str, rd_scr, rd_tup, rd_lst, rd_ins, rd_tupT, rd_lstT, rd_insT, pk_non, pk_bl, pk_int, pk_str, pk_scr, pk_tup, pk_lst, pk_ins, x_var, x_glo, x_int, x_bl, x_non, x_str, x_bin, x_neg, x_nt, x_an, x_or, x_cmp, x_chn, x_ite, x_tup, x_lst, x_sub, x_subv, x_att, x_attv, x_call, x_bi, x_biv, x_lc, x_mk, x_met, x_isi, x_gcd, x_bln, xs_nil, xs_cons, xa_nil, xa_cons, xa_lend, xr_seq, xr_rng1, xr_rng2, xr_enm, xr_rev, xt_an, xt_or, xt_nt, xt_cmp, xt_chn, xt_tv, xts_nil, xts_one, y_asg, y_exp, y_ret, y_retN, y_ite, y_fr, y_brk, y_cnt, y_pas, y_par, ys_nil, ys_cons, y_unp, y_setv, y_apG, y_app, y_stf, run_nx, run_ret, io_t, io_f, io_n, ln_nil, ln_cons, ln_lend, f_non, f_bl, f_int, f_str, f_tup, f_lst, f_ins, f_tupT, f_lstT, f_insT, fs_nil, fs_cons, fs_I, fs_blf, fs_If, fs_tupf, fs_lstf, fs_lstT, fs_app, fs_rev, it_eq, it_l, it_t, it_bl, it_int, it_non, it_str, it_tup, it_lst, it_ins, it_lstT, iu_bl, iu_int, iu_non, iu_str, iu_tup, iu_lst, iu_ins, sb_t, sb_l, y_appi, it_m1, fs_int, runF_eq, bind_ok, opt_some, ↓nxt_nx, ↓nxt_ret, ↓nxt_brk, ↓nxt_cnt, mayO_some, ↓onB_bl, ↓onO_some, blO_bl, ng_int, nt_bl, i_tup, i_lst, l_lst, t_bl, range0, asgT, wipeE, saved, restore, putBack, List.getElem?_cons_zero, List.getElem?_cons_succ, List.set_cons_zero, List.set_cons_succ, List.length_cons, List.length_nil, List.cons_append, List.nil_append, List.replicate_succ, List.replicate_zero, List.getD_cons_zero, List.getD_cons_succ, List.map_nil, List.map_cons, List.any_cons, List.any_nil, Nat.reduceSub, Nat.reduceAdd, Nat.reduceLT, Nat.reduceLeDiff, Nat.zero_add, if_true, ite_true, ite_false, reduceIte, D.own, Bool.false_eq_true, Option.bind_some, Option.map_some, Bool.or_false, Bool.false_or, Bool.not_true, Bool.not_false, decide_true, decide_false, lim, n_add, n_shr, n_and, n_eq, n_ne, n_lt, n_le, n_gt, n_ge, c_isN_non, c_isN_tup, n_sum, n_all, n_any, n_listS, n_lenL, n_lenT, n_intI, n_tupleT, n_tuple, n_list, n_listT, n_allf, n_anyf, n_sumf, nw_I, nw_If, nw_bl, nw_tup, nw_lst, k_ii, k_ib, k_is, k_il, k_it, k_bb, k_bi, k_tt, k_tl, k_ll, k_lt, k_llt, k_tlt, n_inT, n_or]
  · intro c hc
    refine ⟨_, rfl, ?_⟩
    simp only [rd_non, rd_bl, rd_int, rd_str, rd_scr, rd_tup, rd_lst, rd_ins, rd_tupT, rd_lstT, rd_insT, pk_non, pk_bl, pk_int, pk_str, pk_scr, pk_tup, pk_lst, pk_ins, x_var, x_glo, x_int, x_bl, x_non, x_str, x_bin, x_neg, x_nt, x_an, x_or, x_cmp, x_chn, x_ite, x_tup, x_lst, x_sub, x_subv, x_att, x_attv, x_call, x_bi, x_biv, x_lc, x_mk, x_met, x_isi, x_gcd, x_bln, xs_nil, xs_cons, xa_nil, xa_cons, xa_lend, xr_seq, xr_rng1, xr_rng2, xr_enm, xr_rev, xt_an, xt_or, xt_nt, xt_cmp, xt_chn, xt_tv, xts_nil, xts_one, y_asg, y_exp, y_ret, y_retN, y_ite, y_fr, y_brk, y_cnt, y_pas, y_par, ys_nil, ys_cons, y_unp, y_setv, y_apG, y_app, y_stf, run_nx, run_ret, io_t, io_f, io_n, ln_nil, ln_cons, ln_lend, f_non, f_bl, f_int, f_str, f_tup, f_lst, f_ins, f_tupT, f_lstT, f_insT, fs_nil, fs_cons, fs_I, fs_blf, fs_If, fs_tupf, fs_lstf, fs_lstT, fs_app, fs_rev, it_eq, it_l, it_t, it_bl, it_int, it_non, it_str, it_tup, it_lst, it_ins, it_lstT, iu_bl, iu_int, iu_non, iu_str, iu_tup, iu_lst, iu_ins, sb_t, sb_l, y_appi, it_m1, fs_int, runF_eq, bind_ok, opt_some, ↓nxt_nx, ↓nxt_ret, ↓nxt_brk, ↓nxt_cnt, mayO_some, ↓onB_bl, ↓onO_some, blO_bl, ng_int, nt_bl, i_tup, i_lst, l_lst, t_bl, range0, asgT, wipeE, saved, restore, putBack, List.getElem?_cons_zero, List.getElem?_cons_succ, List.set_cons_zero, List.set_cons_succ, List.length_cons, List.length_nil, List.cons_append, List.nil_append, List.replicate_succ, List.replicate_zero, List.getD_cons_zero, List.getD_cons_succ, List.map_nil, List.map_cons, List.any_cons, List.any_nil, Nat.reduceSub, Nat.reduceAdd, Nat.reduceLT, Nat.reduceLeDiff, Nat.zero_add, if_true, ite_true, ite_false, reduceIte, D.own, Bool.false_eq_true, Option.bind_some, Option.map_some, Bool.or_false, Bool.false_or, Bool.not_true, Bool.not_false, decide_true, decide_false, lim]
    exact gd rfl
  · exact le_lim (by simp; omega)
  · rfl

/-! ### what can be added, by masks -/
def lfD (s : Nat) (T : Nat → Bool) : D := .lst false [I s, .lst false (tabL s T), .lst false ((setsL s T).map I)]
def admL (s : Nat) (T : Nat → Bool) (o : Nat) : Nat := ((addL s T o).map (2 ^ ·)).sum
theorem sum_thg (p : Nat → Bool) : thg (((List.range 6).filter p).map (2 ^ ·)).sum = (List.range 6).filter p ∧ (((List.range 6).filter p).map (2 ^ ·)).sum < 64 := by
  have e : List.range 6 = [0, 1, 2, 3, 4, 5] := rfl
  rw [e]
  simp only [List.filter_cons, List.filter_nil]
  cases p 0 <;> cases p 1 <;> cases p 2 <;> cases p 3 <;> cases p 4 <;> cases p 5 <;> decide
theorem range_six (h : s ≤ 6) (p : Nat → Bool) : (List.range s).filter p = (List.range 6).filter fun k => decide (k < s) && p k := by
  have e : List.range 6 = [0, 1, 2, 3, 4, 5] := rfl
  rw [e]
  have : s = 0 ∨ s = 1 ∨ s = 2 ∨ s = 3 ∨ s = 4 ∨ s = 5 ∨ s = 6 := by omega
  rcases this with rfl | rfl | rfl | rfl | rfl | rfl | rfl <;> simp [List.range, List.range.loop, List.filter]
theorem adm_thg (h : s ≤ 6) (o : Nat) : thg (admL s T o) = addL s T o ∧ admL s T o < 64 := by
  unfold admL addL
  rw [range_six h]
  exact sum_thg _
theorem any_and {a S : Nat} (ha : a < 64) (hS : S < 64) : ((thg a).any fun k => decide (k ∈ thg S)) = !decide (a &&& S = 0) :=
  beq_iff_eq.mp (all64x (f := fun a S => ((thg a).any fun k => decide (k ∈ thg S)) == !decide (a &&& S = 0)) (by decide +kernel) ha hS)
theorem adm_and (h : s ≤ 6) (o : Nat) {S : Nat} (hS : S < 64) : decide (admL s T o &&& S = 0) = !(addL s T o).any fun k => decide (k ∈ thg S) := by
  obtain ⟨h1, h2⟩ := adm_thg (T := T) h o
  rw [← h1, any_and h2 hS, Bool.not_not]
theorem bit_off {o k : Nat} (ho : o < 64) (hk : k < 6) : (decide (o >>> k &&& 1 = 0) = decide (o / 2 ^ k % 2 = 0)) ∧ (o / 2 ^ k % 2 = 0 → o ||| 2 ^ k = o + 2 ^ k) := by
  have := all64 (f := fun o => (List.range 6).all fun k => (decide (o >>> k &&& 1 = 0) == decide (o / 2 ^ k % 2 = 0)) && (!decide (o / 2 ^ k % 2 = 0) || decide (o ||| 2 ^ k = o + 2 ^ k))) (by decide +kernel) ho
  have := List.all_eq_true.mp this k (List.mem_range.mpr hk)
  rw [Bool.and_eq_true] at this
  refine ⟨beq_iff_eq.mp this.1, fun h => ?_⟩
  simpa [h] using this.2
theorem f_lf : (lfD s T).frz = lfD s T := id rfl
theorem pk_lf : pkO (some (lfD s T)) = some (lfD s T) := id rfl
theorem rd_lf : rdO (some (lfD s T)) i env = .ok (lfD s T) env := id rfl
theorem it_lf0 : itD (some (lfD s T)) i (I 0) env = .ok (I s) env := id rfl
theorem it_lf1 : itD (some (lfD s T)) i (I 1) env = .ok (.lst false (tabL s T)) env := id rfl
theorem it_lf2 : itD (some (lfD s T)) i (I 2) env = .ok (.lst false ((setsL s T).map I)) env := id rfl
theorem s_adds (h1 : 1 ≤ s) (h6 : s ≤ 6) {o : Nat} (ho : o < 2 ^ s) : c__law_adds.sem [lfD s T, I o] = .ok (I (admL s T o)) [] := by
  simp only [c__law_adds, b__law_adds, N__law_adds, rd_non, rd_bl, rd_int, rd_str, rd_scr, rd_tup, rd_lst, rd_ins, rd_tupT, rd_lstT, rd_insT, pk_non, pk_bl, pk_int, pk_str, pk_scr, pk_tup, pk_lst, pk_ins, x_var, x_glo, x_int, x_bl, x_non, x_str, x_bin, x_neg, x_nt, x_an, x_or, x_cmp, x_chn, x_ite, x_tup, x_lst, x_sub, x_subv, x_att, x_attv, x_call, x_bi, x_biv, x_lc, x_mk, x_met, x_isi, x_gcd, x_bln, xs_nil, xs_cons, xa_nil, xa_cons, xa_lend, xr_seq, xr_rng1, xr_rng2, xr_enm, xr_rev, xt_an, xt_or, xt_nt, xt_cmp, xt_chn, xt_tv, xts_nil, xts_one, y_asg, y_exp, y_ret, y_retN, y_ite, y_fr, y_brk, y_cnt, y_pas, y_par, ys_nil, ys_cons, y_unp, y_setv, y_apG, y_app, y_stf, run_nx, run_ret, io_t, io_f, io_n, ln_nil, ln_cons, ln_lend, f_non, f_bl, f_int, f_str, f_tup, f_lst, f_ins, f_tupT, f_lstT, f_insT, fs_nil, fs_cons, fs_I, fs_blf, fs_If, fs_tupf, fs_lstf, fs_lstT, fs_app, fs_rev, it_eq, it_l, it_t, it_bl, it_int, it_non, it_str, it_tup, it_lst, it_ins, it_lstT, iu_bl, iu_int, iu_non, iu_str, iu_tup, iu_lst, iu_ins, sb_t, sb_l, y_appi, it_m1, fs_int, runF_eq, bind_ok, opt_some, ↓nxt_nx, ↓nxt_ret, ↓nxt_brk, ↓nxt_cnt, mayO_some, ↓onB_bl, ↓onO_some, blO_bl, ng_int, nt_bl, i_tup, i_lst, l_lst, t_bl, range0, asgT, wipeE, saved, restore, putBack, List.getElem?_cons_zero, List.getElem?_cons_succ, List.set_cons_zero, List.set_cons_succ, List.length_cons, List.length_nil, List.cons_append, List.nil_append, List.replicate_succ, List.replicate_zero, List.getD_cons_zero, List.getD_cons_succ, List.map_nil, List.map_cons, List.any_cons, List.any_nil, Nat.reduceSub, Nat.reduceAdd, Nat.reduceLT, Nat.reduceLeDiff, Nat.zero_add, if_true, ite_true, ite_false, reduceIte, D.own, Bool.false_eq_true, Option.bind_some, Option.map_some, Bool.or_false, Bool.false_or, Bool.not_true, Bool.not_false, decide_true, decide_false, lim, n_add, n_shr, n_and, n_eq, n_ne, n_lt, n_le, n_gt, n_ge, c_isN_non, c_isN_tup, n_sum, n_all, n_any, n_listS, n_lenL, n_lenT, n_intI, n_tupleT, n_tuple, n_list, n_listT, n_allf, n_anyf, n_sumf, nw_I, nw_If, nw_bl, nw_tup, nw_lst, k_ii, k_ib, k_is, k_il, k_it, k_bb, k_bi, k_tt, k_tl, k_ll, k_lt, k_llt, k_tlt, n_inT, n_or, it_eq, pk_lf, it_lf0, rg_I (show s < 2 ^ 62 by omega)]
  rw [lcR_ok (p := fun k => decide (o / 2 ^ k % 2 = 0) && T (o + 2 ^ k)) (f := fun k => I (2 ^ k))]
  · rw [show List.filter (fun k => decide (o / 2 ^ k % 2 = 0) && T (o + 2 ^ k)) (List.range s) = addL s T o from rfl]
    simp only [rd_non, rd_bl, rd_int, rd_str, rd_scr, rd_tup, rd_lst, rd_ins, rd_tupT, rd_lstT, rd_insT, pk_non, pk_bl, pk_int, pk_str, pk_scr, pk_tup, pk_lst, pk_ins, x_var, x_glo, x_int, x_bl, x_non, x_str, x_bin, x_neg, x_nt, x_an, x_or, x_cmp, x_chn, x_ite, x_tup, x_lst, x_sub, x_subv, x_att, x_attv, x_call, x_bi, x_biv, x_lc, x_mk, x_met, x_isi, x_gcd, x_bln, xs_nil, xs_cons, xa_nil, xa_cons, xa_lend, xr_seq, xr_rng1, xr_rng2, xr_enm, xr_rev, xt_an, xt_or, xt_nt, xt_cmp, xt_chn, xt_tv, xts_nil, xts_one, y_asg, y_exp, y_ret, y_retN, y_ite, y_fr, y_brk, y_cnt, y_pas, y_par, ys_nil, ys_cons, y_unp, y_setv, y_apG, y_app, y_stf, run_nx, run_ret, io_t, io_f, io_n, ln_nil, ln_cons, ln_lend, f_non, f_bl, f_int, f_str, f_tup, f_lst, f_ins, f_tupT, f_lstT, f_insT, fs_nil, fs_cons, fs_I, fs_blf, fs_If, fs_tupf, fs_lstf, fs_lstT, fs_app, fs_rev, it_eq, it_l, it_t, it_bl, it_int, it_non, it_str, it_tup, it_lst, it_ins, it_lstT, iu_bl, iu_int, iu_non, iu_str, iu_tup, iu_lst, iu_ins, sb_t, sb_l, y_appi, it_m1, fs_int, runF_eq, bind_ok, opt_some, ↓nxt_nx, ↓nxt_ret, ↓nxt_brk, ↓nxt_cnt, mayO_some, ↓onB_bl, ↓onO_some, blO_bl, ng_int, nt_bl, i_tup, i_lst, l_lst, t_bl, range0, asgT, wipeE, saved, restore, putBack, List.getElem?_cons_zero, List.getElem?_cons_succ, List.set_cons_zero, List.set_cons_succ, List.length_cons, List.length_nil, List.cons_append, List.nil_append, List.replicate_succ, List.replicate_zero, List.getD_cons_zero, List.getD_cons_succ, List.map_nil, List.map_cons, List.any_cons, List.any_nil, Nat.reduceSub, Nat.reduceAdd, Nat.reduceLT, Nat.reduceLeDiff, Nat.zero_add, if_true, ite_true, ite_false, reduceIte, D.own, Bool.false_eq_true, Option.bind_some, Option.map_some, Bool.or_false, Bool.false_or, Bool.not_true, Bool.not_false, decide_true, decide_false, lim, n_add, n_shr, n_and, n_eq, n_ne, n_lt, n_le, n_gt, n_ge, c_isN_non, c_isN_tup, n_sum, n_all, n_any, n_listS, n_lenL, n_lenT, n_intI, n_tupleT, n_tuple, n_list, n_listT, n_allf, n_anyf, n_sumf, nw_I, nw_If, nw_bl, nw_tup, nw_lst, k_ii, k_ib, k_is, k_il, k_it, k_bb, k_bi, k_tt, k_tl, k_ll, k_lt, k_llt, k_tlt, n_inT, n_or]
    rfl
  · intro k hk
    have hk6 := List.mem_range.mp hk
    obtain ⟨g1, g2⟩ := bit_off (lt64 h6 ho) (show k < 6 by omega)
    refine ⟨_, rfl, ?_⟩
    by_cases hb : o / 2 ^ k % 2 = 0
    · have hlt := add_lt h6 ho hk6 hb
      simp only [rd_non, rd_bl, rd_int, rd_str, rd_scr, rd_tup, rd_lst, rd_ins, rd_tupT, rd_lstT, rd_insT, pk_non, pk_bl, pk_int, pk_str, pk_scr, pk_tup, pk_lst, pk_ins, x_var, x_glo, x_int, x_bl, x_non, x_str, x_bin, x_neg, x_nt, x_an, x_or, x_cmp, x_chn, x_ite, x_tup, x_lst, x_sub, x_subv, x_att, x_attv, x_call, x_bi, x_biv, x_lc, x_mk, x_met, x_isi, x_gcd, x_bln, xs_nil, xs_cons, xa_nil, xa_cons, xa_lend, xr_seq, xr_rng1, xr_rng2, xr_enm, xr_rev, xt_an, xt_or, xt_nt, xt_cmp, xt_chn, xt_tv, xts_nil, xts_one, y_asg, y_exp, y_ret, y_retN, y_ite, y_fr, y_brk, y_cnt, y_pas, y_par, ys_nil, ys_cons, y_unp, y_setv, y_apG, y_app, y_stf, run_nx, run_ret, io_t, io_f, io_n, ln_nil, ln_cons, ln_lend, f_non, f_bl, f_int, f_str, f_tup, f_lst, f_ins, f_tupT, f_lstT, f_insT, fs_nil, fs_cons, fs_I, fs_blf, fs_If, fs_tupf, fs_lstf, fs_lstT, fs_app, fs_rev, it_eq, it_l, it_t, it_bl, it_int, it_non, it_str, it_tup, it_lst, it_ins, it_lstT, iu_bl, iu_int, iu_non, iu_str, iu_tup, iu_lst, iu_ins, sb_t, sb_l, y_appi, it_m1, fs_int, runF_eq, bind_ok, opt_some, ↓nxt_nx, ↓nxt_ret, ↓nxt_brk, ↓nxt_cnt, mayO_some, ↓onB_bl, ↓onO_some, blO_bl, ng_int, nt_bl, i_tup, i_lst, l_lst, t_bl, range0, asgT, wipeE, saved, restore, putBack, List.getElem?_cons_zero, List.getElem?_cons_succ, List.set_cons_zero, List.set_cons_succ, List.length_cons, List.length_nil, List.cons_append, List.nil_append, List.replicate_succ, List.replicate_zero, List.getD_cons_zero, List.getD_cons_succ, List.map_nil, List.map_cons, List.any_cons, List.any_nil, Nat.reduceSub, Nat.reduceAdd, Nat.reduceLT, Nat.reduceLeDiff, Nat.zero_add, if_true, ite_true, ite_false, reduceIte, D.own, Bool.false_eq_true, Option.bind_some, Option.map_some, Bool.or_false, Bool.false_or, Bool.not_true, Bool.not_false, decide_true, decide_false, lim, n_add, n_shr, n_and, n_eq, n_ne, n_lt, n_le, n_gt, n_ge, c_isN_non, c_isN_tup, n_sum, n_all, n_any, n_listS, n_lenL, n_lenT, n_intI, n_tupleT, n_tuple, n_list, n_listT, n_allf, n_anyf, n_sumf, nw_I, nw_If, nw_bl, nw_tup, nw_lst, k_ii, k_ib, k_is, k_il, k_it, k_bb, k_bi, k_tt, k_tl, k_ll, k_lt, k_llt, k_tlt, n_inT, n_or, shl6 (show k ≤ 6 by omega), it_eq, pk_lf, it_lf1, g1, hb, g2 hb, tab_get hlt, Bool.true_and]
      refine gt ⟨fun _ => rfl, fun _ => ?_⟩
      simp only [rd_non, rd_bl, rd_int, rd_str, rd_scr, rd_tup, rd_lst, rd_ins, rd_tupT, rd_lstT, rd_insT, pk_non, pk_bl, pk_int, pk_str, pk_scr, pk_tup, pk_lst, pk_ins, x_var, x_glo, x_int, x_bl, x_non, x_str, x_bin, x_neg, x_nt, x_an, x_or, x_cmp, x_chn, x_ite, x_tup, x_lst, x_sub, x_subv, x_att, x_attv, x_call, x_bi, x_biv, x_lc, x_mk, x_met, x_isi, x_gcd, x_bln, xs_nil, xs_cons, xa_nil, xa_cons, xa_lend, xr_seq, xr_rng1, xr_rng2, xr_enm, xr_rev, xt_an, xt_or, xt_nt, xt_cmp, xt_chn, xt_tv, xts_nil, xts_one, y_asg, y_exp, y_ret, y_retN, y_ite, y_fr, y_brk, y_cnt, y_pas, y_par, ys_nil, ys_cons, y_unp, y_setv, y_apG, y_app, y_stf, run_nx, run_ret, io_t, io_f, io_n, ln_nil, ln_cons, ln_lend, f_non, f_bl, f_int, f_str, f_tup, f_lst, f_ins, f_tupT, f_lstT, f_insT, fs_nil, fs_cons, fs_I, fs_blf, fs_If, fs_tupf, fs_lstf, fs_lstT, fs_app, fs_rev, it_eq, it_l, it_t, it_bl, it_int, it_non, it_str, it_tup, it_lst, it_ins, it_lstT, iu_bl, iu_int, iu_non, iu_str, iu_tup, iu_lst, iu_ins, sb_t, sb_l, y_appi, it_m1, fs_int, runF_eq, bind_ok, opt_some, ↓nxt_nx, ↓nxt_ret, ↓nxt_brk, ↓nxt_cnt, mayO_some, ↓onB_bl, ↓onO_some, blO_bl, ng_int, nt_bl, i_tup, i_lst, l_lst, t_bl, range0, asgT, wipeE, saved, restore, putBack, List.getElem?_cons_zero, List.getElem?_cons_succ, List.set_cons_zero, List.set_cons_succ, List.length_cons, List.length_nil, List.cons_append, List.nil_append, List.replicate_succ, List.replicate_zero, List.getD_cons_zero, List.getD_cons_succ, List.map_nil, List.map_cons, List.any_cons, List.any_nil, Nat.reduceSub, Nat.reduceAdd, Nat.reduceLT, Nat.reduceLeDiff, Nat.zero_add, if_true, ite_true, ite_false, reduceIte, D.own, Bool.false_eq_true, Option.bind_some, Option.map_some, Bool.or_false, Bool.false_or, Bool.not_true, Bool.not_false, decide_true, decide_false, lim, n_add, n_shr, n_and, n_eq, n_ne, n_lt, n_le, n_gt, n_ge, c_isN_non, c_isN_tup, n_sum, n_all, n_any, n_listS, n_lenL, n_lenT, n_intI, n_tupleT, n_tuple, n_list, n_listT, n_allf, n_anyf, n_sumf, nw_I, nw_If, nw_bl, nw_tup, nw_lst, k_ii, k_ib, k_is, k_il, k_it, k_bb, k_bi, k_tt, k_tl, k_ll, k_lt, k_llt, k_tlt, n_inT, n_or, shl6 (show k ≤ 6 by omega)]
      exact gd rfl
    · simp only [rd_non, rd_bl, rd_int, rd_str, rd_scr, rd_tup, rd_lst, rd_ins, rd_tupT, rd_lstT, rd_insT, pk_non, pk_bl, pk_int, pk_str, pk_scr, pk_tup, pk_lst, pk_ins, x_var, x_glo, x_int, x_bl, x_non, x_str, x_bin, x_neg, x_nt, x_an, x_or, x_cmp, x_chn, x_ite, x_tup, x_lst, x_sub, x_subv, x_att, x_attv, x_call, x_bi, x_biv, x_lc, x_mk, x_met, x_isi, x_gcd, x_bln, xs_nil, xs_cons, xa_nil, xa_cons, xa_lend, xr_seq, xr_rng1, xr_rng2, xr_enm, xr_rev, xt_an, xt_or, xt_nt, xt_cmp, xt_chn, xt_tv, xts_nil, xts_one, y_asg, y_exp, y_ret, y_retN, y_ite, y_fr, y_brk, y_cnt, y_pas, y_par, ys_nil, ys_cons, y_unp, y_setv, y_apG, y_app, y_stf, run_nx, run_ret, io_t, io_f, io_n, ln_nil, ln_cons, ln_lend, f_non, f_bl, f_int, f_str, f_tup, f_lst, f_ins, f_tupT, f_lstT, f_insT, fs_nil, fs_cons, fs_I, fs_blf, fs_If, fs_tupf, fs_lstf, fs_lstT, fs_app, fs_rev, it_eq, it_l, it_t, it_bl, it_int, it_non, it_str, it_tup, it_lst, it_ins, it_lstT, iu_bl, iu_int, iu_non, iu_str, iu_tup, iu_lst, iu_ins, sb_t, sb_l, y_appi, it_m1, fs_int, runF_eq, bind_ok, opt_some, ↓nxt_nx, ↓nxt_ret, ↓nxt_brk, ↓nxt_cnt, mayO_some, ↓onB_bl, ↓onO_some, blO_bl, ng_int, nt_bl, i_tup, i_lst, l_lst, t_bl, range0, asgT, wipeE, saved, restore, putBack, List.getElem?_cons_zero, List.getElem?_cons_succ, List.set_cons_zero, List.set_cons_succ, List.length_cons, List.length_nil, List.cons_append, List.nil_append, List.replicate_succ, List.replicate_zero, List.getD_cons_zero, List.getD_cons_succ, List.map_nil, List.map_cons, List.any_cons, List.any_nil, Nat.reduceSub, Nat.reduceAdd, Nat.reduceLT, Nat.reduceLeDiff, Nat.zero_add, if_true, ite_true, ite_false, reduceIte, D.own, Bool.false_eq_true, Option.bind_some, Option.map_some, Bool.or_false, Bool.false_or, Bool.not_true, Bool.not_false, decide_true, decide_false, lim, n_add, n_shr, n_and, n_eq, n_ne, n_lt, n_le, n_gt, n_ge, c_isN_non, c_isN_tup, n_sum, n_all, n_any, n_listS, n_lenL, n_lenT, n_intI, n_tupleT, n_tuple, n_list, n_listT, n_allf, n_anyf, n_sumf, nw_I, nw_If, nw_bl, nw_tup, nw_lst, k_ii, k_ib, k_is, k_il, k_it, k_bb, k_bi, k_tt, k_tl, k_ll, k_lt, k_llt, k_tlt, n_inT, n_or, shl6 (show k ≤ 6 by omega), it_eq, pk_lf, it_lf1, g1, hb, Bool.false_and]
      exact gt ⟨fun _ => rfl, fun h => (by cases h)⟩
  · exact le_lim (by simp; omega)
  · rfl
end
end K36

/-! ## P5 -/
set_option maxRecDepth 100000
set_option maxHeartbeats 4000000
namespace K36
open PySem PySem.Spec PyProof.Rows L2 VS
section
variable {s : Nat} {T : Nat → Bool} {env : En} {m : Bool} {i : Nat}
def full (s : Nat) (T : Nat → Bool) (S o : Nat) : Bool := !(addL s T o).any fun k => decide (k ∈ thg S)
def inst (s : Nat) (T : Nat → Bool) (S : Nat) (st : Option Nat × Nat) (o : Nat) : Option Nat × Nat :=
  if sub o S = true then (if st.1.isNone && full s T S o then some (cnt o) else st.1, cnt o) else st
theorem inst_fold (S : Nat) : ∀ (l : List Nat) (lo : Option Nat) (hi : Nat), l.foldl (inst s T S) (lo, hi) = (lo.or ((((l.filter fun o => sub o S).filter (full s T S)).head?).map cnt), ((l.filter fun o => sub o S).getLast?.map cnt).getD hi)
  | [], lo, hi => by simp
  | a :: l, lo, hi => by
    rw [List.foldl_cons, show inst s T S (lo, hi) a = if sub a S = true then (if lo.isNone && full s T S a then some (cnt a) else lo, cnt a) else (lo, hi) from rfl]
    cases hs : sub a S with
    | false =>
      simp only [Bool.false_eq_true, if_false]
      rw [inst_fold S l]
      simp [List.filter_cons, hs]
    | true =>
      simp only [if_true]
      rw [inst_fold S l]
      cases hf : full s T S a with
      | false => simp [List.filter_cons, hs, hf, List.getLast?_cons]
      | true =>
        cases lo with
        | none => simp [List.filter_cons, hs, hf, List.getLast?_cons]
        | some x => simp [List.filter_cons, hs, hf, List.getLast?_cons]
theorem inst_all (F : Fam s T) {S : Nat} (hS : S < 64) : (setsL s T).foldl (inst s T S) (none, 0) = (some (cnt ((fulL s T S).headD 0)), mx ((insL s T S).map cnt)) := by
  obtain ⟨g1, g2, g3, g4⟩ := ful_facts F hS
  rw [inst_fold, g3, g2]
  have e1 : ((setsL s T).filter fun o => sub o S) = insL s T S := rfl
  have e2 : (insL s T S).filter (full s T S) = fulL s T S := rfl
  rw [e1, e2]
  have h1 : (fulL s T S).head? = some ((fulL s T S).headD 0) := by cases h : fulL s T S with | nil => exact absurd h g1 | cons a l => rfl
  have h2 : (insL s T S).getLast? = some ((insL s T S).getLastD 0) := by rw [List.getLastD_eq_getLast?, List.getLast?_eq_some_getLast (ins_ne F S)]; rfl
  rw [h1, h2]
  rfl
def lowD : Option Nat → D
  | none => .int (-((1 : Nat) : Int))
  | some n => I n
theorem pk_low {o : Option Nat} : pkO (some (lowD o)) = some (lowD o) := by cases o <;> rfl
theorem rd_low {o : Option Nat} : rdO (some (lowD o)) i env = .ok (lowD o) env := by cases o <;> rfl
theorem f_low {o : Option Nat} : (lowD o).frz = lowD o := by cases o <;> rfl
theorem low_neg {o : Option Nat} : cmpD .Lt (lowD o) (I 0) = some (.bl o.isNone) := by
  cases o with
  | none => rfl
  | some n => rw [show lowD (some n) = I n from rfl, n_lt]; rfl
def lbD : Option (Nat × Nat × Nat) → D
  | none => .non
  | some (a, b, S) => .tup false [I a, I b, I S]
def phi (b : Bst) : Option (Nat × Nat × Nat) := b.map fun p => (cnt p.2.1, cnt p.2.2, p.1)
theorem sub_dec (o S : Nat) : decide (o &&& S = o) = sub o S := by
  unfold sub
  by_cases h : o &&& S = o
  · rw [decide_eq_true h]; exact (beq_iff_eq.mpr h).symm
  · rw [decide_eq_false h]; exact (beq_eq_false_iff_ne.mpr h).symm
theorem cnt_get {m : Nat} (h : m < 2 ^ s) : ((List.range (2 ^ s)).map fun m => I (thg m).length)[m]? = some (I (cnt m)) := by
  rw [List.getElem?_map, List.getElem?_range h]; rfl
theorem get_D {l : List Nat} {k : Nat} (h : k < l.length) {f : Nat → D} : (l.map f)[k]? = some (f (l.getD k 0)) := by
  rw [List.getElem?_map, List.getD_eq_getElem?_getD, List.getElem?_eq_getElem h]; rfl
theorem getD_mem {l : List Nat} {k : Nat} (h : k < l.length) : l.getD k 0 ∈ l := by
  rw [List.getD_eq_getElem?_getD, List.getElem?_eq_getElem h]; exact List.getElem_mem h
theorem s_lquot (F : Fam s T) : c__law_quotient.sem [lfD s T] = .ok (lbD (phi (qall s T))) [] := by
  have h6 := F.h6
  have h1 := F.h1
  have p64 := pow64 h6
  have sl := sets_len (s := s) (T := T) h6
  simp only [c__law_quotient, b__law_quotient, N__law_quotient, rd_non, rd_bl, rd_int, rd_str, rd_scr, rd_tup, rd_lst, rd_ins, rd_tupT, rd_lstT, rd_insT, pk_non, pk_bl, pk_int, pk_str, pk_scr, pk_tup, pk_lst, pk_ins, x_var, x_glo, x_int, x_bl, x_non, x_str, x_bin, x_neg, x_nt, x_an, x_or, x_cmp, x_chn, x_ite, x_tup, x_lst, x_sub, x_subv, x_att, x_attv, x_call, x_bi, x_biv, x_lc, x_mk, x_met, x_isi, x_gcd, x_bln, xs_nil, xs_cons, xa_nil, xa_cons, xa_lend, xr_seq, xr_rng1, xr_rng2, xr_enm, xr_rev, xt_an, xt_or, xt_nt, xt_cmp, xt_chn, xt_tv, xts_nil, xts_one, y_asg, y_exp, y_ret, y_retN, y_ite, y_fr, y_brk, y_cnt, y_pas, y_par, ys_nil, ys_cons, y_unp, y_setv, y_apG, y_app, y_stf, run_nx, run_ret, io_t, io_f, io_n, ln_nil, ln_cons, ln_lend, f_non, f_bl, f_int, f_str, f_tup, f_lst, f_ins, f_tupT, f_lstT, f_insT, fs_nil, fs_cons, fs_I, fs_blf, fs_If, fs_tupf, fs_lstf, fs_lstT, fs_app, fs_rev, it_eq, it_l, it_t, it_bl, it_int, it_non, it_str, it_tup, it_lst, it_ins, it_lstT, iu_bl, iu_int, iu_non, iu_str, iu_tup, iu_lst, iu_ins, sb_t, sb_l, y_appi, it_m1, fs_int, runF_eq, bind_ok, opt_some, ↓nxt_nx, ↓nxt_ret, ↓nxt_brk, ↓nxt_cnt, mayO_some, ↓onB_bl, ↓onO_some, blO_bl, ng_int, nt_bl, i_tup, i_lst, l_lst, t_bl, range0, asgT, wipeE, saved, restore, putBack, List.getElem?_cons_zero, List.getElem?_cons_succ, List.set_cons_zero, List.set_cons_succ, List.length_cons, List.length_nil, List.cons_append, List.nil_append, List.replicate_succ, List.replicate_zero, List.getD_cons_zero, List.getD_cons_succ, List.map_nil, List.map_cons, List.any_cons, List.any_nil, Nat.reduceSub, Nat.reduceAdd, Nat.reduceLT, Nat.reduceLeDiff, Nat.zero_add, if_true, ite_true, ite_false, reduceIte, D.own, Bool.false_eq_true, Option.bind_some, Option.map_some, Bool.or_false, Bool.false_or, Bool.not_true, Bool.not_false, decide_true, decide_false, lim, n_add, n_shr, n_and, n_eq, n_ne, n_lt, n_le, n_gt, n_ge, c_isN_non, c_isN_tup, n_sum, n_all, n_any, n_listS, n_lenL, n_lenT, n_intI, n_tupleT, n_tuple, n_list, n_listT, n_allf, n_anyf, n_sumf, nw_I, nw_If, nw_bl, nw_tup, nw_lst, k_ii, k_ib, k_is, k_il, k_it, k_bb, k_bi, k_tt, k_tl, k_ll, k_lt, k_llt, k_tlt, n_inT, n_or, it_eq, pk_lf, it_lf0, shl6 h6, rg_I (show 2 ^ s < 2 ^ 62 by omega)]
  rw [lcR_map (f := fun m => I (thg m).length)]
  · simp only [rd_non, rd_bl, rd_int, rd_str, rd_scr, rd_tup, rd_lst, rd_ins, rd_tupT, rd_lstT, rd_insT, pk_non, pk_bl, pk_int, pk_str, pk_scr, pk_tup, pk_lst, pk_ins, x_var, x_glo, x_int, x_bl, x_non, x_str, x_bin, x_neg, x_nt, x_an, x_or, x_cmp, x_chn, x_ite, x_tup, x_lst, x_sub, x_subv, x_att, x_attv, x_call, x_bi, x_biv, x_lc, x_mk, x_met, x_isi, x_gcd, x_bln, xs_nil, xs_cons, xa_nil, xa_cons, xa_lend, xr_seq, xr_rng1, xr_rng2, xr_enm, xr_rev, xt_an, xt_or, xt_nt, xt_cmp, xt_chn, xt_tv, xts_nil, xts_one, y_asg, y_exp, y_ret, y_retN, y_ite, y_fr, y_brk, y_cnt, y_pas, y_par, ys_nil, ys_cons, y_unp, y_setv, y_apG, y_app, y_stf, run_nx, run_ret, io_t, io_f, io_n, ln_nil, ln_cons, ln_lend, f_non, f_bl, f_int, f_str, f_tup, f_lst, f_ins, f_tupT, f_lstT, f_insT, fs_nil, fs_cons, fs_I, fs_blf, fs_If, fs_tupf, fs_lstf, fs_lstT, fs_app, fs_rev, it_eq, it_l, it_t, it_bl, it_int, it_non, it_str, it_tup, it_lst, it_ins, it_lstT, iu_bl, iu_int, iu_non, iu_str, iu_tup, iu_lst, iu_ins, sb_t, sb_l, y_appi, it_m1, fs_int, runF_eq, bind_ok, opt_some, ↓nxt_nx, ↓nxt_ret, ↓nxt_brk, ↓nxt_cnt, mayO_some, ↓onB_bl, ↓onO_some, blO_bl, ng_int, nt_bl, i_tup, i_lst, l_lst, t_bl, range0, asgT, wipeE, saved, restore, putBack, List.getElem?_cons_zero, List.getElem?_cons_succ, List.set_cons_zero, List.set_cons_succ, List.length_cons, List.length_nil, List.cons_append, List.nil_append, List.replicate_succ, List.replicate_zero, List.getD_cons_zero, List.getD_cons_succ, List.map_nil, List.map_cons, List.any_cons, List.any_nil, Nat.reduceSub, Nat.reduceAdd, Nat.reduceLT, Nat.reduceLeDiff, Nat.zero_add, if_true, ite_true, ite_false, reduceIte, D.own, Bool.false_eq_true, Option.bind_some, Option.map_some, Bool.or_false, Bool.false_or, Bool.not_true, Bool.not_false, decide_true, decide_false, lim, n_add, n_shr, n_and, n_eq, n_ne, n_lt, n_le, n_gt, n_ge, c_isN_non, c_isN_tup, n_sum, n_all, n_any, n_listS, n_lenL, n_lenT, n_intI, n_tupleT, n_tuple, n_list, n_listT, n_allf, n_anyf, n_sumf, nw_I, nw_If, nw_bl, nw_tup, nw_lst, k_ii, k_ib, k_is, k_il, k_it, k_bb, k_bi, k_tt, k_tl, k_ll, k_lt, k_llt, k_tlt, n_inT, n_or, it_eq, pk_lf, it_lf2]
    rw [lcR_map (f := fun o => I (admL s T o))]
    · simp only [rd_non, rd_bl, rd_int, rd_str, rd_scr, rd_tup, rd_lst, rd_ins, rd_tupT, rd_lstT, rd_insT, pk_non, pk_bl, pk_int, pk_str, pk_scr, pk_tup, pk_lst, pk_ins, x_var, x_glo, x_int, x_bl, x_non, x_str, x_bin, x_neg, x_nt, x_an, x_or, x_cmp, x_chn, x_ite, x_tup, x_lst, x_sub, x_subv, x_att, x_attv, x_call, x_bi, x_biv, x_lc, x_mk, x_met, x_isi, x_gcd, x_bln, xs_nil, xs_cons, xa_nil, xa_cons, xa_lend, xr_seq, xr_rng1, xr_rng2, xr_enm, xr_rev, xt_an, xt_or, xt_nt, xt_cmp, xt_chn, xt_tv, xts_nil, xts_one, y_asg, y_exp, y_ret, y_retN, y_ite, y_fr, y_brk, y_cnt, y_pas, y_par, ys_nil, ys_cons, y_unp, y_setv, y_apG, y_app, y_stf, run_nx, run_ret, io_t, io_f, io_n, ln_nil, ln_cons, ln_lend, f_non, f_bl, f_int, f_str, f_tup, f_lst, f_ins, f_tupT, f_lstT, f_insT, fs_nil, fs_cons, fs_I, fs_blf, fs_If, fs_tupf, fs_lstf, fs_lstT, fs_app, fs_rev, it_eq, it_l, it_t, it_bl, it_int, it_non, it_str, it_tup, it_lst, it_ins, it_lstT, iu_bl, iu_int, iu_non, iu_str, iu_tup, iu_lst, iu_ins, sb_t, sb_l, y_appi, it_m1, fs_int, runF_eq, bind_ok, opt_some, ↓nxt_nx, ↓nxt_ret, ↓nxt_brk, ↓nxt_cnt, mayO_some, ↓onB_bl, ↓onO_some, blO_bl, ng_int, nt_bl, i_tup, i_lst, l_lst, t_bl, range0, asgT, wipeE, saved, restore, putBack, List.getElem?_cons_zero, List.getElem?_cons_succ, List.set_cons_zero, List.set_cons_succ, List.length_cons, List.length_nil, List.cons_append, List.nil_append, List.replicate_succ, List.replicate_zero, List.getD_cons_zero, List.getD_cons_succ, List.map_nil, List.map_cons, List.any_cons, List.any_nil, Nat.reduceSub, Nat.reduceAdd, Nat.reduceLT, Nat.reduceLeDiff, Nat.zero_add, if_true, ite_true, ite_false, reduceIte, D.own, Bool.false_eq_true, Option.bind_some, Option.map_some, Bool.or_false, Bool.false_or, Bool.not_true, Bool.not_false, decide_true, decide_false, lim, n_add, n_shr, n_and, n_eq, n_ne, n_lt, n_le, n_gt, n_ge, c_isN_non, c_isN_tup, n_sum, n_all, n_any, n_listS, n_lenL, n_lenT, n_intI, n_tupleT, n_tuple, n_list, n_listT, n_allf, n_anyf, n_sumf, nw_I, nw_If, nw_bl, nw_tup, nw_lst, k_ii, k_ib, k_is, k_il, k_it, k_bb, k_bi, k_tt, k_tl, k_ll, k_lt, k_llt, k_tlt, n_inT, n_or, it_eq, pk_lf, it_lf0]
      rw [lcR_map (f := fun _ => .bl true)]
      · rw [show (List.range (2 ^ s)).map (fun _ => D.bl true) = tabL s (fun _ => true) from rfl]
        simp only [rd_non, rd_bl, rd_int, rd_str, rd_scr, rd_tup, rd_lst, rd_ins, rd_tupT, rd_lstT, rd_insT, pk_non, pk_bl, pk_int, pk_str, pk_scr, pk_tup, pk_lst, pk_ins, x_var, x_glo, x_int, x_bl, x_non, x_str, x_bin, x_neg, x_nt, x_an, x_or, x_cmp, x_chn, x_ite, x_tup, x_lst, x_sub, x_subv, x_att, x_attv, x_call, x_bi, x_biv, x_lc, x_mk, x_met, x_isi, x_gcd, x_bln, xs_nil, xs_cons, xa_nil, xa_cons, xa_lend, xr_seq, xr_rng1, xr_rng2, xr_enm, xr_rev, xt_an, xt_or, xt_nt, xt_cmp, xt_chn, xt_tv, xts_nil, xts_one, y_asg, y_exp, y_ret, y_retN, y_ite, y_fr, y_brk, y_cnt, y_pas, y_par, ys_nil, ys_cons, y_unp, y_setv, y_apG, y_app, y_stf, run_nx, run_ret, io_t, io_f, io_n, ln_nil, ln_cons, ln_lend, f_non, f_bl, f_int, f_str, f_tup, f_lst, f_ins, f_tupT, f_lstT, f_insT, fs_nil, fs_cons, fs_I, fs_blf, fs_If, fs_tupf, fs_lstf, fs_lstT, fs_app, fs_rev, it_eq, it_l, it_t, it_bl, it_int, it_non, it_str, it_tup, it_lst, it_ins, it_lstT, iu_bl, iu_int, iu_non, iu_str, iu_tup, iu_lst, iu_ins, sb_t, sb_l, y_appi, it_m1, fs_int, runF_eq, bind_ok, opt_some, ↓nxt_nx, ↓nxt_ret, ↓nxt_brk, ↓nxt_cnt, mayO_some, ↓onB_bl, ↓onO_some, blO_bl, ng_int, nt_bl, i_tup, i_lst, l_lst, t_bl, range0, asgT, wipeE, saved, restore, putBack, List.getElem?_cons_zero, List.getElem?_cons_succ, List.set_cons_zero, List.set_cons_succ, List.length_cons, List.length_nil, List.cons_append, List.nil_append, List.replicate_succ, List.replicate_zero, List.getD_cons_zero, List.getD_cons_succ, List.map_nil, List.map_cons, List.any_cons, List.any_nil, Nat.reduceSub, Nat.reduceAdd, Nat.reduceLT, Nat.reduceLeDiff, Nat.zero_add, if_true, ite_true, ite_false, reduceIte, D.own, Bool.false_eq_true, Option.bind_some, Option.map_some, Bool.or_false, Bool.false_or, Bool.not_true, Bool.not_false, decide_true, decide_false, lim, n_add, n_shr, n_and, n_eq, n_ne, n_lt, n_le, n_gt, n_ge, c_isN_non, c_isN_tup, n_sum, n_all, n_any, n_listS, n_lenL, n_lenT, n_intI, n_tupleT, n_tuple, n_list, n_listT, n_allf, n_anyf, n_sumf, nw_I, nw_If, nw_bl, nw_tup, nw_lst, k_ii, k_ib, k_is, k_il, k_it, k_bb, k_bi, k_tt, k_tl, k_ll, k_lt, k_llt, k_tlt, n_inT, n_or, tab_frz, call2 (s_order (T := fun _ => true) h1 h6)]
        rw [show setsL s (fun _ => true) = ordm s from List.filter_eq_self.mpr (by simp)]
        refine run_fold (st := fun best e => ∃ x2 x4 x6 x7 x8, e = [lfD s T, .lst false ((List.range (2 ^ s)).map fun m => I (thg m).length), x2, .lst true ((setsL s T).map fun o => I (admL s T o)), x4, lbD (phi best), x6, x7, x8]) (f := qstep s T) (s0 := none) (fun S env best hS1 he => ?_) ⟨_, _, _, _, _, rfl⟩ fun e he => ?_
        · obtain ⟨x2, x4, x6, x7, x8, rfl⟩ := he
          refine ⟨_, rfl, ?_⟩
          have hS := ord_lt h6 hS1
          have hS64 := lt64 h6 hS
          simp only [rd_non, rd_bl, rd_int, rd_str, rd_scr, rd_tup, rd_lst, rd_ins, rd_tupT, rd_lstT, rd_insT, pk_non, pk_bl, pk_int, pk_str, pk_scr, pk_tup, pk_lst, pk_ins, x_var, x_glo, x_int, x_bl, x_non, x_str, x_bin, x_neg, x_nt, x_an, x_or, x_cmp, x_chn, x_ite, x_tup, x_lst, x_sub, x_subv, x_att, x_attv, x_call, x_bi, x_biv, x_lc, x_mk, x_met, x_isi, x_gcd, x_bln, xs_nil, xs_cons, xa_nil, xa_cons, xa_lend, xr_seq, xr_rng1, xr_rng2, xr_enm, xr_rev, xt_an, xt_or, xt_nt, xt_cmp, xt_chn, xt_tv, xts_nil, xts_one, y_asg, y_exp, y_ret, y_retN, y_ite, y_fr, y_brk, y_cnt, y_pas, y_par, ys_nil, ys_cons, y_unp, y_setv, y_apG, y_app, y_stf, run_nx, run_ret, io_t, io_f, io_n, ln_nil, ln_cons, ln_lend, f_non, f_bl, f_int, f_str, f_tup, f_lst, f_ins, f_tupT, f_lstT, f_insT, fs_nil, fs_cons, fs_I, fs_blf, fs_If, fs_tupf, fs_lstf, fs_lstT, fs_app, fs_rev, it_eq, it_l, it_t, it_bl, it_int, it_non, it_str, it_tup, it_lst, it_ins, it_lstT, iu_bl, iu_int, iu_non, iu_str, iu_tup, iu_lst, iu_ins, sb_t, sb_l, y_appi, it_m1, fs_int, runF_eq, bind_ok, opt_some, ↓nxt_nx, ↓nxt_ret, ↓nxt_brk, ↓nxt_cnt, mayO_some, ↓onB_bl, ↓onO_some, blO_bl, ng_int, nt_bl, i_tup, i_lst, l_lst, t_bl, range0, asgT, wipeE, saved, restore, putBack, List.getElem?_cons_zero, List.getElem?_cons_succ, List.set_cons_zero, List.set_cons_succ, List.length_cons, List.length_nil, List.cons_append, List.nil_append, List.replicate_succ, List.replicate_zero, List.getD_cons_zero, List.getD_cons_succ, List.map_nil, List.map_cons, List.any_cons, List.any_nil, Nat.reduceSub, Nat.reduceAdd, Nat.reduceLT, Nat.reduceLeDiff, Nat.zero_add, if_true, ite_true, ite_false, reduceIte, D.own, Bool.false_eq_true, Option.bind_some, Option.map_some, Bool.or_false, Bool.false_or, Bool.not_true, Bool.not_false, decide_true, decide_false, lim, n_add, n_shr, n_and, n_eq, n_ne, n_lt, n_le, n_gt, n_ge, c_isN_non, c_isN_tup, n_sum, n_all, n_any, n_listS, n_lenL, n_lenT, n_intI, n_tupleT, n_tuple, n_list, n_listT, n_allf, n_anyf, n_sumf, nw_I, nw_If, nw_bl, nw_tup, nw_lst, k_ii, k_ib, k_is, k_il, k_it, k_bb, k_bi, k_tt, k_tl, k_ll, k_lt, k_llt, k_tlt, n_inT, n_or, List.length_map, rg_I (show (setsL s T).length < 2 ^ 62 by omega)]
          refine gs_fold (st := fun st e => ∃ x4 x8, e = [lfD s T, .lst false ((List.range (2 ^ s)).map fun m => I (thg m).length), I S, .lst true ((setsL s T).map fun o => I (admL s T o)), x4, lbD (phi best), lowD st.1, I st.2, x8]) (f := fun st k => inst s T S st ((setsL s T).getD k 0)) (s0 := (none, 0)) (fun k env st hk he => ?_) ⟨_, _, rfl⟩ fun e he => ?_
          · obtain ⟨x4, x8, rfl⟩ := he
            have hk := List.mem_range.mp hk
            have ho := ((sets_mem F).mp (getD_mem hk)).1
            refine ⟨_, rfl, ?_⟩
            cases hs : sub ((setsL s T).getD k 0) S with
            | false =>
              simp only [rd_non, rd_bl, rd_int, rd_str, rd_scr, rd_tup, rd_lst, rd_ins, rd_tupT, rd_lstT, rd_insT, pk_non, pk_bl, pk_int, pk_str, pk_scr, pk_tup, pk_lst, pk_ins, x_var, x_glo, x_int, x_bl, x_non, x_str, x_bin, x_neg, x_nt, x_an, x_or, x_cmp, x_chn, x_ite, x_tup, x_lst, x_sub, x_subv, x_att, x_attv, x_call, x_bi, x_biv, x_lc, x_mk, x_met, x_isi, x_gcd, x_bln, xs_nil, xs_cons, xa_nil, xa_cons, xa_lend, xr_seq, xr_rng1, xr_rng2, xr_enm, xr_rev, xt_an, xt_or, xt_nt, xt_cmp, xt_chn, xt_tv, xts_nil, xts_one, y_asg, y_exp, y_ret, y_retN, y_ite, y_fr, y_brk, y_cnt, y_pas, y_par, ys_nil, ys_cons, y_unp, y_setv, y_apG, y_app, y_stf, run_nx, run_ret, io_t, io_f, io_n, ln_nil, ln_cons, ln_lend, f_non, f_bl, f_int, f_str, f_tup, f_lst, f_ins, f_tupT, f_lstT, f_insT, fs_nil, fs_cons, fs_I, fs_blf, fs_If, fs_tupf, fs_lstf, fs_lstT, fs_app, fs_rev, it_eq, it_l, it_t, it_bl, it_int, it_non, it_str, it_tup, it_lst, it_ins, it_lstT, iu_bl, iu_int, iu_non, iu_str, iu_tup, iu_lst, iu_ins, sb_t, sb_l, y_appi, it_m1, fs_int, runF_eq, bind_ok, opt_some, ↓nxt_nx, ↓nxt_ret, ↓nxt_brk, ↓nxt_cnt, mayO_some, ↓onB_bl, ↓onO_some, blO_bl, ng_int, nt_bl, i_tup, i_lst, l_lst, t_bl, range0, asgT, wipeE, saved, restore, putBack, List.getElem?_cons_zero, List.getElem?_cons_succ, List.set_cons_zero, List.set_cons_succ, List.length_cons, List.length_nil, List.cons_append, List.nil_append, List.replicate_succ, List.replicate_zero, List.getD_cons_zero, List.getD_cons_succ, List.map_nil, List.map_cons, List.any_cons, List.any_nil, Nat.reduceSub, Nat.reduceAdd, Nat.reduceLT, Nat.reduceLeDiff, Nat.zero_add, if_true, ite_true, ite_false, reduceIte, D.own, Bool.false_eq_true, Option.bind_some, Option.map_some, Bool.or_false, Bool.false_or, Bool.not_true, Bool.not_false, decide_true, decide_false, lim, n_add, n_shr, n_and, n_eq, n_ne, n_lt, n_le, n_gt, n_ge, c_isN_non, c_isN_tup, n_sum, n_all, n_any, n_listS, n_lenL, n_lenT, n_intI, n_tupleT, n_tuple, n_list, n_listT, n_allf, n_anyf, n_sumf, nw_I, nw_If, nw_bl, nw_tup, nw_lst, k_ii, k_ib, k_is, k_il, k_it, k_bb, k_bi, k_tt, k_tl, k_ll, k_lt, k_llt, k_tlt, n_inT, n_or, it_eq, pk_lf, it_lf2, get_D hk, sub_dec, hs]
              refine gs ?_
              rw [show inst s T S st ((setsL s T).getD k 0) = st by unfold inst; rw [hs]; rfl]
              exact ⟨_, _, rfl⟩
            | true =>
              obtain ⟨lo, hi⟩ := st
              cases lo with
              | some n =>
                simp only [rd_non, rd_bl, rd_int, rd_str, rd_scr, rd_tup, rd_lst, rd_ins, rd_tupT, rd_lstT, rd_insT, pk_non, pk_bl, pk_int, pk_str, pk_scr, pk_tup, pk_lst, pk_ins, x_var, x_glo, x_int, x_bl, x_non, x_str, x_bin, x_neg, x_nt, x_an, x_or, x_cmp, x_chn, x_ite, x_tup, x_lst, x_sub, x_subv, x_att, x_attv, x_call, x_bi, x_biv, x_lc, x_mk, x_met, x_isi, x_gcd, x_bln, xs_nil, xs_cons, xa_nil, xa_cons, xa_lend, xr_seq, xr_rng1, xr_rng2, xr_enm, xr_rev, xt_an, xt_or, xt_nt, xt_cmp, xt_chn, xt_tv, xts_nil, xts_one, y_asg, y_exp, y_ret, y_retN, y_ite, y_fr, y_brk, y_cnt, y_pas, y_par, ys_nil, ys_cons, y_unp, y_setv, y_apG, y_app, y_stf, run_nx, run_ret, io_t, io_f, io_n, ln_nil, ln_cons, ln_lend, f_non, f_bl, f_int, f_str, f_tup, f_lst, f_ins, f_tupT, f_lstT, f_insT, fs_nil, fs_cons, fs_I, fs_blf, fs_If, fs_tupf, fs_lstf, fs_lstT, fs_app, fs_rev, it_eq, it_l, it_t, it_bl, it_int, it_non, it_str, it_tup, it_lst, it_ins, it_lstT, iu_bl, iu_int, iu_non, iu_str, iu_tup, iu_lst, iu_ins, sb_t, sb_l, y_appi, it_m1, fs_int, runF_eq, bind_ok, opt_some, ↓nxt_nx, ↓nxt_ret, ↓nxt_brk, ↓nxt_cnt, mayO_some, ↓onB_bl, ↓onO_some, blO_bl, ng_int, nt_bl, i_tup, i_lst, l_lst, t_bl, range0, asgT, wipeE, saved, restore, putBack, List.getElem?_cons_zero, List.getElem?_cons_succ, List.set_cons_zero, List.set_cons_succ, List.length_cons, List.length_nil, List.cons_append, List.nil_append, List.replicate_succ, List.replicate_zero, List.getD_cons_zero, List.getD_cons_succ, List.map_nil, List.map_cons, List.any_cons, List.any_nil, Nat.reduceSub, Nat.reduceAdd, Nat.reduceLT, Nat.reduceLeDiff, Nat.zero_add, if_true, ite_true, ite_false, reduceIte, D.own, Bool.false_eq_true, Option.bind_some, Option.map_some, Bool.or_false, Bool.false_or, Bool.not_true, Bool.not_false, decide_true, decide_false, lim, n_add, n_shr, n_and, n_eq, n_ne, n_lt, n_le, n_gt, n_ge, c_isN_non, c_isN_tup, n_sum, n_all, n_any, n_listS, n_lenL, n_lenT, n_intI, n_tupleT, n_tuple, n_list, n_listT, n_allf, n_anyf, n_sumf, nw_I, nw_If, nw_bl, nw_tup, nw_lst, k_ii, k_ib, k_is, k_il, k_it, k_bb, k_bi, k_tt, k_tl, k_ll, k_lt, k_llt, k_tlt, n_inT, n_or, it_eq, pk_lf, it_lf2, get_D hk, sub_dec, hs, cnt_get ho, rd_low, f_low, low_neg, Option.isNone_some]
                refine gs ?_
                rw [show inst s T S (some n, hi) ((setsL s T).getD k 0) = (some n, cnt ((setsL s T).getD k 0)) by unfold inst; rw [hs]; rfl]
                exact ⟨_, _, rfl⟩
              | none =>
                have ha := adm_and (T := T) h6 ((setsL s T).getD k 0) hS64
                rw [show (!(addL s T ((setsL s T).getD k 0)).any fun k => decide (k ∈ thg S)) = full s T S ((setsL s T).getD k 0) from rfl] at ha
                cases hf : full s T S ((setsL s T).getD k 0) with
                | false =>
                  simp only [rd_non, rd_bl, rd_int, rd_str, rd_scr, rd_tup, rd_lst, rd_ins, rd_tupT, rd_lstT, rd_insT, pk_non, pk_bl, pk_int, pk_str, pk_scr, pk_tup, pk_lst, pk_ins, x_var, x_glo, x_int, x_bl, x_non, x_str, x_bin, x_neg, x_nt, x_an, x_or, x_cmp, x_chn, x_ite, x_tup, x_lst, x_sub, x_subv, x_att, x_attv, x_call, x_bi, x_biv, x_lc, x_mk, x_met, x_isi, x_gcd, x_bln, xs_nil, xs_cons, xa_nil, xa_cons, xa_lend, xr_seq, xr_rng1, xr_rng2, xr_enm, xr_rev, xt_an, xt_or, xt_nt, xt_cmp, xt_chn, xt_tv, xts_nil, xts_one, y_asg, y_exp, y_ret, y_retN, y_ite, y_fr, y_brk, y_cnt, y_pas, y_par, ys_nil, ys_cons, y_unp, y_setv, y_apG, y_app, y_stf, run_nx, run_ret, io_t, io_f, io_n, ln_nil, ln_cons, ln_lend, f_non, f_bl, f_int, f_str, f_tup, f_lst, f_ins, f_tupT, f_lstT, f_insT, fs_nil, fs_cons, fs_I, fs_blf, fs_If, fs_tupf, fs_lstf, fs_lstT, fs_app, fs_rev, it_eq, it_l, it_t, it_bl, it_int, it_non, it_str, it_tup, it_lst, it_ins, it_lstT, iu_bl, iu_int, iu_non, iu_str, iu_tup, iu_lst, iu_ins, sb_t, sb_l, y_appi, it_m1, fs_int, runF_eq, bind_ok, opt_some, ↓nxt_nx, ↓nxt_ret, ↓nxt_brk, ↓nxt_cnt, mayO_some, ↓onB_bl, ↓onO_some, blO_bl, ng_int, nt_bl, i_tup, i_lst, l_lst, t_bl, range0, asgT, wipeE, saved, restore, putBack, List.getElem?_cons_zero, List.getElem?_cons_succ, List.set_cons_zero, List.set_cons_succ, List.length_cons, List.length_nil, List.cons_append, List.nil_append, List.replicate_succ, List.replicate_zero, List.getD_cons_zero, List.getD_cons_succ, List.map_nil, List.map_cons, List.any_cons, List.any_nil, Nat.reduceSub, Nat.reduceAdd, Nat.reduceLT, Nat.reduceLeDiff, Nat.zero_add, if_true, ite_true, ite_false, reduceIte, D.own, Bool.false_eq_true, Option.bind_some, Option.map_some, Bool.or_false, Bool.false_or, Bool.not_true, Bool.not_false, decide_true, decide_false, lim, n_add, n_shr, n_and, n_eq, n_ne, n_lt, n_le, n_gt, n_ge, c_isN_non, c_isN_tup, n_sum, n_all, n_any, n_listS, n_lenL, n_lenT, n_intI, n_tupleT, n_tuple, n_list, n_listT, n_allf, n_anyf, n_sumf, nw_I, nw_If, nw_bl, nw_tup, nw_lst, k_ii, k_ib, k_is, k_il, k_it, k_bb, k_bi, k_tt, k_tl, k_ll, k_lt, k_llt, k_tlt, n_inT, n_or, it_eq, pk_lf, it_lf2, get_D hk, sub_dec, hs, cnt_get ho, rd_low, f_low, low_neg, Option.isNone_none, ha, hf]
                  refine gs ?_
                  rw [show inst s T S (none, hi) ((setsL s T).getD k 0) = (none, cnt ((setsL s T).getD k 0)) by unfold inst; rw [hs, hf]; rfl]
                  exact ⟨_, _, rfl⟩
                | true =>
                  simp only [rd_non, rd_bl, rd_int, rd_str, rd_scr, rd_tup, rd_lst, rd_ins, rd_tupT, rd_lstT, rd_insT, pk_non, pk_bl, pk_int, pk_str, pk_scr, pk_tup, pk_lst, pk_ins, x_var, x_glo, x_int, x_bl, x_non, x_str, x_bin, x_neg, x_nt, x_an, x_or, x_cmp, x_chn, x_ite, x_tup, x_lst, x_sub, x_subv, x_att, x_attv, x_call, x_bi, x_biv, x_lc, x_mk, x_met, x_isi, x_gcd, x_bln, xs_nil, xs_cons, xa_nil, xa_cons, xa_lend, xr_seq, xr_rng1, xr_rng2, xr_enm, xr_rev, xt_an, xt_or, xt_nt, xt_cmp, xt_chn, xt_tv, xts_nil, xts_one, y_asg, y_exp, y_ret, y_retN, y_ite, y_fr, y_brk, y_cnt, y_pas, y_par, ys_nil, ys_cons, y_unp, y_setv, y_apG, y_app, y_stf, run_nx, run_ret, io_t, io_f, io_n, ln_nil, ln_cons, ln_lend, f_non, f_bl, f_int, f_str, f_tup, f_lst, f_ins, f_tupT, f_lstT, f_insT, fs_nil, fs_cons, fs_I, fs_blf, fs_If, fs_tupf, fs_lstf, fs_lstT, fs_app, fs_rev, it_eq, it_l, it_t, it_bl, it_int, it_non, it_str, it_tup, it_lst, it_ins, it_lstT, iu_bl, iu_int, iu_non, iu_str, iu_tup, iu_lst, iu_ins, sb_t, sb_l, y_appi, it_m1, fs_int, runF_eq, bind_ok, opt_some, ↓nxt_nx, ↓nxt_ret, ↓nxt_brk, ↓nxt_cnt, mayO_some, ↓onB_bl, ↓onO_some, blO_bl, ng_int, nt_bl, i_tup, i_lst, l_lst, t_bl, range0, asgT, wipeE, saved, restore, putBack, List.getElem?_cons_zero, List.getElem?_cons_succ, List.set_cons_zero, List.set_cons_succ, List.length_cons, List.length_nil, List.cons_append, List.nil_append, List.replicate_succ, List.replicate_zero, List.getD_cons_zero, List.getD_cons_succ, List.map_nil, List.map_cons, List.any_cons, List.any_nil, Nat.reduceSub, Nat.reduceAdd, Nat.reduceLT, Nat.reduceLeDiff, Nat.zero_add, if_true, ite_true, ite_false, reduceIte, D.own, Bool.false_eq_true, Option.bind_some, Option.map_some, Bool.or_false, Bool.false_or, Bool.not_true, Bool.not_false, decide_true, decide_false, lim, n_add, n_shr, n_and, n_eq, n_ne, n_lt, n_le, n_gt, n_ge, c_isN_non, c_isN_tup, n_sum, n_all, n_any, n_listS, n_lenL, n_lenT, n_intI, n_tupleT, n_tuple, n_list, n_listT, n_allf, n_anyf, n_sumf, nw_I, nw_If, nw_bl, nw_tup, nw_lst, k_ii, k_ib, k_is, k_il, k_it, k_bb, k_bi, k_tt, k_tl, k_ll, k_lt, k_llt, k_tlt, n_inT, n_or, it_eq, pk_lf, it_lf2, get_D hk, sub_dec, hs, cnt_get ho, rd_low, f_low, low_neg, Option.isNone_none, ha, hf]
                  refine gs ?_
                  rw [show inst s T S (none, hi) ((setsL s T).getD k 0) = (some (cnt ((setsL s T).getD k 0)), cnt ((setsL s T).getD k 0)) by unfold inst; rw [hs, hf]; rfl]
                  exact ⟨_, _, rfl⟩
          · have e3 : (List.range (setsL s T).length).foldl (fun st k => inst s T S st ((setsL s T).getD k 0)) (none, 0) = (some (cnt ((fulL s T S).headD 0)), mx ((insL s T S).map cnt)) := by
              rw [← inst_all F hS64]
              conv => rhs; rw [← map_getD (l := setsL s T)]
              rw [List.foldl_map]
            rw [e3] at he
            obtain ⟨x4, x8, rfl⟩ := he
            by_cases hr : 0 < mx ((insL s T S).map cnt)
            · have hq : qstep s T best S = qnew S ((fulL s T S).headD 0) ((fulL s T S).getLastD 0) best := if_pos hr
              have g3 := (ful_facts F hS64).2.2.1
              rw [g3] at hr
              rw [hq, g3]
              cases best with
              | none =>
                simp only [rd_non, rd_bl, rd_int, rd_str, rd_scr, rd_tup, rd_lst, rd_ins, rd_tupT, rd_lstT, rd_insT, pk_non, pk_bl, pk_int, pk_str, pk_scr, pk_tup, pk_lst, pk_ins, x_var, x_glo, x_int, x_bl, x_non, x_str, x_bin, x_neg, x_nt, x_an, x_or, x_cmp, x_chn, x_ite, x_tup, x_lst, x_sub, x_subv, x_att, x_attv, x_call, x_bi, x_biv, x_lc, x_mk, x_met, x_isi, x_gcd, x_bln, xs_nil, xs_cons, xa_nil, xa_cons, xa_lend, xr_seq, xr_rng1, xr_rng2, xr_enm, xr_rev, xt_an, xt_or, xt_nt, xt_cmp, xt_chn, xt_tv, xts_nil, xts_one, y_asg, y_exp, y_ret, y_retN, y_ite, y_fr, y_brk, y_cnt, y_pas, y_par, ys_nil, ys_cons, y_unp, y_setv, y_apG, y_app, y_stf, run_nx, run_ret, io_t, io_f, io_n, ln_nil, ln_cons, ln_lend, f_non, f_bl, f_int, f_str, f_tup, f_lst, f_ins, f_tupT, f_lstT, f_insT, fs_nil, fs_cons, fs_I, fs_blf, fs_If, fs_tupf, fs_lstf, fs_lstT, fs_app, fs_rev, it_eq, it_l, it_t, it_bl, it_int, it_non, it_str, it_tup, it_lst, it_ins, it_lstT, iu_bl, iu_int, iu_non, iu_str, iu_tup, iu_lst, iu_ins, sb_t, sb_l, y_appi, it_m1, fs_int, runF_eq, bind_ok, opt_some, ↓nxt_nx, ↓nxt_ret, ↓nxt_brk, ↓nxt_cnt, mayO_some, ↓onB_bl, ↓onO_some, blO_bl, ng_int, nt_bl, i_tup, i_lst, l_lst, t_bl, range0, asgT, wipeE, saved, restore, putBack, List.getElem?_cons_zero, List.getElem?_cons_succ, List.set_cons_zero, List.set_cons_succ, List.length_cons, List.length_nil, List.cons_append, List.nil_append, List.replicate_succ, List.replicate_zero, List.getD_cons_zero, List.getD_cons_succ, List.map_nil, List.map_cons, List.any_cons, List.any_nil, Nat.reduceSub, Nat.reduceAdd, Nat.reduceLT, Nat.reduceLeDiff, Nat.zero_add, if_true, ite_true, ite_false, reduceIte, D.own, Bool.false_eq_true, Option.bind_some, Option.map_some, Bool.or_false, Bool.false_or, Bool.not_true, Bool.not_false, decide_true, decide_false, lim, n_add, n_shr, n_and, n_eq, n_ne, n_lt, n_le, n_gt, n_ge, c_isN_non, c_isN_tup, n_sum, n_all, n_any, n_listS, n_lenL, n_lenT, n_intI, n_tupleT, n_tuple, n_list, n_listT, n_allf, n_anyf, n_sumf, nw_I, nw_If, nw_bl, nw_tup, nw_lst, k_ii, k_ib, k_is, k_il, k_it, k_bb, k_bi, k_tt, k_tl, k_ll, k_lt, k_llt, k_tlt, n_inT, n_or, hr, phi, Option.map_none, lbD, lowD]
                exact gs ⟨_, _, _, _, _, rfl⟩
              | some q =>
                obtain ⟨S0, a0, b0⟩ := q
                have c0 := thg_len b0
                have c1 := thg_len ((fulL s T S).getLastD 0)
                by_cases hc : cnt ((fulL s T S).headD 0) * cnt b0 < cnt a0 * cnt ((fulL s T S).getLastD 0)
                · rw [show qnew S ((fulL s T S).headD 0) ((fulL s T S).getLastD 0) (some (S0, a0, b0)) = some (S, (fulL s T S).headD 0, (fulL s T S).getLastD 0) from if_pos hc]
                  simp only [rd_non, rd_bl, rd_int, rd_str, rd_scr, rd_tup, rd_lst, rd_ins, rd_tupT, rd_lstT, rd_insT, pk_non, pk_bl, pk_int, pk_str, pk_scr, pk_tup, pk_lst, pk_ins, x_var, x_glo, x_int, x_bl, x_non, x_str, x_bin, x_neg, x_nt, x_an, x_or, x_cmp, x_chn, x_ite, x_tup, x_lst, x_sub, x_subv, x_att, x_attv, x_call, x_bi, x_biv, x_lc, x_mk, x_met, x_isi, x_gcd, x_bln, xs_nil, xs_cons, xa_nil, xa_cons, xa_lend, xr_seq, xr_rng1, xr_rng2, xr_enm, xr_rev, xt_an, xt_or, xt_nt, xt_cmp, xt_chn, xt_tv, xts_nil, xts_one, y_asg, y_exp, y_ret, y_retN, y_ite, y_fr, y_brk, y_cnt, y_pas, y_par, ys_nil, ys_cons, y_unp, y_setv, y_apG, y_app, y_stf, run_nx, run_ret, io_t, io_f, io_n, ln_nil, ln_cons, ln_lend, f_non, f_bl, f_int, f_str, f_tup, f_lst, f_ins, f_tupT, f_lstT, f_insT, fs_nil, fs_cons, fs_I, fs_blf, fs_If, fs_tupf, fs_lstf, fs_lstT, fs_app, fs_rev, it_eq, it_l, it_t, it_bl, it_int, it_non, it_str, it_tup, it_lst, it_ins, it_lstT, iu_bl, iu_int, iu_non, iu_str, iu_tup, iu_lst, iu_ins, sb_t, sb_l, y_appi, it_m1, fs_int, runF_eq, bind_ok, opt_some, ↓nxt_nx, ↓nxt_ret, ↓nxt_brk, ↓nxt_cnt, mayO_some, ↓onB_bl, ↓onO_some, blO_bl, ng_int, nt_bl, i_tup, i_lst, l_lst, t_bl, range0, asgT, wipeE, saved, restore, putBack, List.getElem?_cons_zero, List.getElem?_cons_succ, List.set_cons_zero, List.set_cons_succ, List.length_cons, List.length_nil, List.cons_append, List.nil_append, List.replicate_succ, List.replicate_zero, List.getD_cons_zero, List.getD_cons_succ, List.map_nil, List.map_cons, List.any_cons, List.any_nil, Nat.reduceSub, Nat.reduceAdd, Nat.reduceLT, Nat.reduceLeDiff, Nat.zero_add, if_true, ite_true, ite_false, reduceIte, D.own, Bool.false_eq_true, Option.bind_some, Option.map_some, Bool.or_false, Bool.false_or, Bool.not_true, Bool.not_false, decide_true, decide_false, lim, n_add, n_shr, n_and, n_eq, n_ne, n_lt, n_le, n_gt, n_ge, c_isN_non, c_isN_tup, n_sum, n_all, n_any, n_listS, n_lenL, n_lenT, n_intI, n_tupleT, n_tuple, n_list, n_listT, n_allf, n_anyf, n_sumf, nw_I, nw_If, nw_bl, nw_tup, nw_lst, k_ii, k_ib, k_is, k_il, k_it, k_bb, k_bi, k_tt, k_tl, k_ll, k_lt, k_llt, k_tlt, n_inT, n_or, hr, phi, Option.map_some, lbD, lowD, it_eq, mul6 c0, mul6 c1, hc]
                  exact gs ⟨_, _, _, _, _, rfl⟩
                · rw [show qnew S ((fulL s T S).headD 0) ((fulL s T S).getLastD 0) (some (S0, a0, b0)) = some (S0, a0, b0) from if_neg hc]
                  simp only [rd_non, rd_bl, rd_int, rd_str, rd_scr, rd_tup, rd_lst, rd_ins, rd_tupT, rd_lstT, rd_insT, pk_non, pk_bl, pk_int, pk_str, pk_scr, pk_tup, pk_lst, pk_ins, x_var, x_glo, x_int, x_bl, x_non, x_str, x_bin, x_neg, x_nt, x_an, x_or, x_cmp, x_chn, x_ite, x_tup, x_lst, x_sub, x_subv, x_att, x_attv, x_call, x_bi, x_biv, x_lc, x_mk, x_met, x_isi, x_gcd, x_bln, xs_nil, xs_cons, xa_nil, xa_cons, xa_lend, xr_seq, xr_rng1, xr_rng2, xr_enm, xr_rev, xt_an, xt_or, xt_nt, xt_cmp, xt_chn, xt_tv, xts_nil, xts_one, y_asg, y_exp, y_ret, y_retN, y_ite, y_fr, y_brk, y_cnt, y_pas, y_par, ys_nil, ys_cons, y_unp, y_setv, y_apG, y_app, y_stf, run_nx, run_ret, io_t, io_f, io_n, ln_nil, ln_cons, ln_lend, f_non, f_bl, f_int, f_str, f_tup, f_lst, f_ins, f_tupT, f_lstT, f_insT, fs_nil, fs_cons, fs_I, fs_blf, fs_If, fs_tupf, fs_lstf, fs_lstT, fs_app, fs_rev, it_eq, it_l, it_t, it_bl, it_int, it_non, it_str, it_tup, it_lst, it_ins, it_lstT, iu_bl, iu_int, iu_non, iu_str, iu_tup, iu_lst, iu_ins, sb_t, sb_l, y_appi, it_m1, fs_int, runF_eq, bind_ok, opt_some, ↓nxt_nx, ↓nxt_ret, ↓nxt_brk, ↓nxt_cnt, mayO_some, ↓onB_bl, ↓onO_some, blO_bl, ng_int, nt_bl, i_tup, i_lst, l_lst, t_bl, range0, asgT, wipeE, saved, restore, putBack, List.getElem?_cons_zero, List.getElem?_cons_succ, List.set_cons_zero, List.set_cons_succ, List.length_cons, List.length_nil, List.cons_append, List.nil_append, List.replicate_succ, List.replicate_zero, List.getD_cons_zero, List.getD_cons_succ, List.map_nil, List.map_cons, List.any_cons, List.any_nil, Nat.reduceSub, Nat.reduceAdd, Nat.reduceLT, Nat.reduceLeDiff, Nat.zero_add, if_true, ite_true, ite_false, reduceIte, D.own, Bool.false_eq_true, Option.bind_some, Option.map_some, Bool.or_false, Bool.false_or, Bool.not_true, Bool.not_false, decide_true, decide_false, lim, n_add, n_shr, n_and, n_eq, n_ne, n_lt, n_le, n_gt, n_ge, c_isN_non, c_isN_tup, n_sum, n_all, n_any, n_listS, n_lenL, n_lenT, n_intI, n_tupleT, n_tuple, n_list, n_listT, n_allf, n_anyf, n_sumf, nw_I, nw_If, nw_bl, nw_tup, nw_lst, k_ii, k_ib, k_is, k_il, k_it, k_bb, k_bi, k_tt, k_tl, k_ll, k_lt, k_llt, k_tlt, n_inT, n_or, hr, phi, Option.map_some, lbD, lowD, it_eq, mul6 c0, mul6 c1, hc]
                  exact gs ⟨_, _, _, _, _, rfl⟩
            · rw [show qstep s T best S = best from if_neg hr]
              simp only [rd_non, rd_bl, rd_int, rd_str, rd_scr, rd_tup, rd_lst, rd_ins, rd_tupT, rd_lstT, rd_insT, pk_non, pk_bl, pk_int, pk_str, pk_scr, pk_tup, pk_lst, pk_ins, x_var, x_glo, x_int, x_bl, x_non, x_str, x_bin, x_neg, x_nt, x_an, x_or, x_cmp, x_chn, x_ite, x_tup, x_lst, x_sub, x_subv, x_att, x_attv, x_call, x_bi, x_biv, x_lc, x_mk, x_met, x_isi, x_gcd, x_bln, xs_nil, xs_cons, xa_nil, xa_cons, xa_lend, xr_seq, xr_rng1, xr_rng2, xr_enm, xr_rev, xt_an, xt_or, xt_nt, xt_cmp, xt_chn, xt_tv, xts_nil, xts_one, y_asg, y_exp, y_ret, y_retN, y_ite, y_fr, y_brk, y_cnt, y_pas, y_par, ys_nil, ys_cons, y_unp, y_setv, y_apG, y_app, y_stf, run_nx, run_ret, io_t, io_f, io_n, ln_nil, ln_cons, ln_lend, f_non, f_bl, f_int, f_str, f_tup, f_lst, f_ins, f_tupT, f_lstT, f_insT, fs_nil, fs_cons, fs_I, fs_blf, fs_If, fs_tupf, fs_lstf, fs_lstT, fs_app, fs_rev, it_eq, it_l, it_t, it_bl, it_int, it_non, it_str, it_tup, it_lst, it_ins, it_lstT, iu_bl, iu_int, iu_non, iu_str, iu_tup, iu_lst, iu_ins, sb_t, sb_l, y_appi, it_m1, fs_int, runF_eq, bind_ok, opt_some, ↓nxt_nx, ↓nxt_ret, ↓nxt_brk, ↓nxt_cnt, mayO_some, ↓onB_bl, ↓onO_some, blO_bl, ng_int, nt_bl, i_tup, i_lst, l_lst, t_bl, range0, asgT, wipeE, saved, restore, putBack, List.getElem?_cons_zero, List.getElem?_cons_succ, List.set_cons_zero, List.set_cons_succ, List.length_cons, List.length_nil, List.cons_append, List.nil_append, List.replicate_succ, List.replicate_zero, List.getD_cons_zero, List.getD_cons_succ, List.map_nil, List.map_cons, List.any_cons, List.any_nil, Nat.reduceSub, Nat.reduceAdd, Nat.reduceLT, Nat.reduceLeDiff, Nat.zero_add, if_true, ite_true, ite_false, reduceIte, D.own, Bool.false_eq_true, Option.bind_some, Option.map_some, Bool.or_false, Bool.false_or, Bool.not_true, Bool.not_false, decide_true, decide_false, lim, n_add, n_shr, n_and, n_eq, n_ne, n_lt, n_le, n_gt, n_ge, c_isN_non, c_isN_tup, n_sum, n_all, n_any, n_listS, n_lenL, n_lenT, n_intI, n_tupleT, n_tuple, n_list, n_listT, n_allf, n_anyf, n_sumf, nw_I, nw_If, nw_bl, nw_tup, nw_lst, k_ii, k_ib, k_is, k_il, k_it, k_bb, k_bi, k_tt, k_tl, k_ll, k_lt, k_llt, k_tlt, n_inT, n_or, hr]
              exact gs ⟨_, _, _, _, _, rfl⟩
        · obtain ⟨x2, x4, x6, x7, x8, rfl⟩ := he
          rw [show (ordm s).foldl (qstep s T) none = qall s T from rfl]
          cases hq : qall s T with
          | none =>
            simp only [rd_non, rd_bl, rd_int, rd_str, rd_scr, rd_tup, rd_lst, rd_ins, rd_tupT, rd_lstT, rd_insT, pk_non, pk_bl, pk_int, pk_str, pk_scr, pk_tup, pk_lst, pk_ins, x_var, x_glo, x_int, x_bl, x_non, x_str, x_bin, x_neg, x_nt, x_an, x_or, x_cmp, x_chn, x_ite, x_tup, x_lst, x_sub, x_subv, x_att, x_attv, x_call, x_bi, x_biv, x_lc, x_mk, x_met, x_isi, x_gcd, x_bln, xs_nil, xs_cons, xa_nil, xa_cons, xa_lend, xr_seq, xr_rng1, xr_rng2, xr_enm, xr_rev, xt_an, xt_or, xt_nt, xt_cmp, xt_chn, xt_tv, xts_nil, xts_one, y_asg, y_exp, y_ret, y_retN, y_ite, y_fr, y_brk, y_cnt, y_pas, y_par, ys_nil, ys_cons, y_unp, y_setv, y_apG, y_app, y_stf, run_nx, run_ret, io_t, io_f, io_n, ln_nil, ln_cons, ln_lend, f_non, f_bl, f_int, f_str, f_tup, f_lst, f_ins, f_tupT, f_lstT, f_insT, fs_nil, fs_cons, fs_I, fs_blf, fs_If, fs_tupf, fs_lstf, fs_lstT, fs_app, fs_rev, it_eq, it_l, it_t, it_bl, it_int, it_non, it_str, it_tup, it_lst, it_ins, it_lstT, iu_bl, iu_int, iu_non, iu_str, iu_tup, iu_lst, iu_ins, sb_t, sb_l, y_appi, it_m1, fs_int, runF_eq, bind_ok, opt_some, ↓nxt_nx, ↓nxt_ret, ↓nxt_brk, ↓nxt_cnt, mayO_some, ↓onB_bl, ↓onO_some, blO_bl, ng_int, nt_bl, i_tup, i_lst, l_lst, t_bl, range0, asgT, wipeE, saved, restore, putBack, List.getElem?_cons_zero, List.getElem?_cons_succ, List.set_cons_zero, List.set_cons_succ, List.length_cons, List.length_nil, List.cons_append, List.nil_append, List.replicate_succ, List.replicate_zero, List.getD_cons_zero, List.getD_cons_succ, List.map_nil, List.map_cons, List.any_cons, List.any_nil, Nat.reduceSub, Nat.reduceAdd, Nat.reduceLT, Nat.reduceLeDiff, Nat.zero_add, if_true, ite_true, ite_false, reduceIte, D.own, Bool.false_eq_true, Option.bind_some, Option.map_some, Bool.or_false, Bool.false_or, Bool.not_true, Bool.not_false, decide_true, decide_false, lim, n_add, n_shr, n_and, n_eq, n_ne, n_lt, n_le, n_gt, n_ge, c_isN_non, c_isN_tup, n_sum, n_all, n_any, n_listS, n_lenL, n_lenT, n_intI, n_tupleT, n_tuple, n_list, n_listT, n_allf, n_anyf, n_sumf, nw_I, nw_If, nw_bl, nw_tup, nw_lst, k_ii, k_ib, k_is, k_il, k_it, k_bb, k_bi, k_tt, k_tl, k_ll, k_lt, k_llt, k_tlt, n_inT, n_or, phi, Option.map_none, lbD]
          | some p =>
            simp only [rd_non, rd_bl, rd_int, rd_str, rd_scr, rd_tup, rd_lst, rd_ins, rd_tupT, rd_lstT, rd_insT, pk_non, pk_bl, pk_int, pk_str, pk_scr, pk_tup, pk_lst, pk_ins, x_var, x_glo, x_int, x_bl, x_non, x_str, x_bin, x_neg, x_nt, x_an, x_or, x_cmp, x_chn, x_ite, x_tup, x_lst, x_sub, x_subv, x_att, x_attv, x_call, x_bi, x_biv, x_lc, x_mk, x_met, x_isi, x_gcd, x_bln, xs_nil, xs_cons, xa_nil, xa_cons, xa_lend, xr_seq, xr_rng1, xr_rng2, xr_enm, xr_rev, xt_an, xt_or, xt_nt, xt_cmp, xt_chn, xt_tv, xts_nil, xts_one, y_asg, y_exp, y_ret, y_retN, y_ite, y_fr, y_brk, y_cnt, y_pas, y_par, ys_nil, ys_cons, y_unp, y_setv, y_apG, y_app, y_stf, run_nx, run_ret, io_t, io_f, io_n, ln_nil, ln_cons, ln_lend, f_non, f_bl, f_int, f_str, f_tup, f_lst, f_ins, f_tupT, f_lstT, f_insT, fs_nil, fs_cons, fs_I, fs_blf, fs_If, fs_tupf, fs_lstf, fs_lstT, fs_app, fs_rev, it_eq, it_l, it_t, it_bl, it_int, it_non, it_str, it_tup, it_lst, it_ins, it_lstT, iu_bl, iu_int, iu_non, iu_str, iu_tup, iu_lst, iu_ins, sb_t, sb_l, y_appi, it_m1, fs_int, runF_eq, bind_ok, opt_some, ↓nxt_nx, ↓nxt_ret, ↓nxt_brk, ↓nxt_cnt, mayO_some, ↓onB_bl, ↓onO_some, blO_bl, ng_int, nt_bl, i_tup, i_lst, l_lst, t_bl, range0, asgT, wipeE, saved, restore, putBack, List.getElem?_cons_zero, List.getElem?_cons_succ, List.set_cons_zero, List.set_cons_succ, List.length_cons, List.length_nil, List.cons_append, List.nil_append, List.replicate_succ, List.replicate_zero, List.getD_cons_zero, List.getD_cons_succ, List.map_nil, List.map_cons, List.any_cons, List.any_nil, Nat.reduceSub, Nat.reduceAdd, Nat.reduceLT, Nat.reduceLeDiff, Nat.zero_add, if_true, ite_true, ite_false, reduceIte, D.own, Bool.false_eq_true, Option.bind_some, Option.map_some, Bool.or_false, Bool.false_or, Bool.not_true, Bool.not_false, decide_true, decide_false, lim, n_add, n_shr, n_and, n_eq, n_ne, n_lt, n_le, n_gt, n_ge, c_isN_non, c_isN_tup, n_sum, n_all, n_any, n_listS, n_lenL, n_lenT, n_intI, n_tupleT, n_tuple, n_list, n_listT, n_allf, n_anyf, n_sumf, nw_I, nw_If, nw_bl, nw_tup, nw_lst, k_ii, k_ib, k_is, k_il, k_it, k_bb, k_bi, k_tt, k_tl, k_ll, k_lt, k_llt, k_tlt, n_inT, n_or, phi, Option.map_some, lbD]
      · intro a ha
        refine ⟨_, rfl, ?_⟩
        simp only [rd_non, rd_bl, rd_int, rd_str, rd_scr, rd_tup, rd_lst, rd_ins, rd_tupT, rd_lstT, rd_insT, pk_non, pk_bl, pk_int, pk_str, pk_scr, pk_tup, pk_lst, pk_ins, x_var, x_glo, x_int, x_bl, x_non, x_str, x_bin, x_neg, x_nt, x_an, x_or, x_cmp, x_chn, x_ite, x_tup, x_lst, x_sub, x_subv, x_att, x_attv, x_call, x_bi, x_biv, x_lc, x_mk, x_met, x_isi, x_gcd, x_bln, xs_nil, xs_cons, xa_nil, xa_cons, xa_lend, xr_seq, xr_rng1, xr_rng2, xr_enm, xr_rev, xt_an, xt_or, xt_nt, xt_cmp, xt_chn, xt_tv, xts_nil, xts_one, y_asg, y_exp, y_ret, y_retN, y_ite, y_fr, y_brk, y_cnt, y_pas, y_par, ys_nil, ys_cons, y_unp, y_setv, y_apG, y_app, y_stf, run_nx, run_ret, io_t, io_f, io_n, ln_nil, ln_cons, ln_lend, f_non, f_bl, f_int, f_str, f_tup, f_lst, f_ins, f_tupT, f_lstT, f_insT, fs_nil, fs_cons, fs_I, fs_blf, fs_If, fs_tupf, fs_lstf, fs_lstT, fs_app, fs_rev, it_eq, it_l, it_t, it_bl, it_int, it_non, it_str, it_tup, it_lst, it_ins, it_lstT, iu_bl, iu_int, iu_non, iu_str, iu_tup, iu_lst, iu_ins, sb_t, sb_l, y_appi, it_m1, fs_int, runF_eq, bind_ok, opt_some, ↓nxt_nx, ↓nxt_ret, ↓nxt_brk, ↓nxt_cnt, mayO_some, ↓onB_bl, ↓onO_some, blO_bl, ng_int, nt_bl, i_tup, i_lst, l_lst, t_bl, range0, asgT, wipeE, saved, restore, putBack, List.getElem?_cons_zero, List.getElem?_cons_succ, List.set_cons_zero, List.set_cons_succ, List.length_cons, List.length_nil, List.cons_append, List.nil_append, List.replicate_succ, List.replicate_zero, List.getD_cons_zero, List.getD_cons_succ, List.map_nil, List.map_cons, List.any_cons, List.any_nil, Nat.reduceSub, Nat.reduceAdd, Nat.reduceLT, Nat.reduceLeDiff, Nat.zero_add, if_true, ite_true, ite_false, reduceIte, D.own, Bool.false_eq_true, Option.bind_some, Option.map_some, Bool.or_false, Bool.false_or, Bool.not_true, Bool.not_false, decide_true, decide_false, lim]
        exact gd rfl
      · exact le_lim (by simp; omega)
      · rfl
    · intro o ho
      have ho2 := ((sets_mem F).mp ho).1
      refine ⟨_, rfl, ?_⟩
      simp only [rd_non, rd_bl, rd_int, rd_str, rd_scr, rd_tup, rd_lst, rd_ins, rd_tupT, rd_lstT, rd_insT, pk_non, pk_bl, pk_int, pk_str, pk_scr, pk_tup, pk_lst, pk_ins, x_var, x_glo, x_int, x_bl, x_non, x_str, x_bin, x_neg, x_nt, x_an, x_or, x_cmp, x_chn, x_ite, x_tup, x_lst, x_sub, x_subv, x_att, x_attv, x_call, x_bi, x_biv, x_lc, x_mk, x_met, x_isi, x_gcd, x_bln, xs_nil, xs_cons, xa_nil, xa_cons, xa_lend, xr_seq, xr_rng1, xr_rng2, xr_enm, xr_rev, xt_an, xt_or, xt_nt, xt_cmp, xt_chn, xt_tv, xts_nil, xts_one, y_asg, y_exp, y_ret, y_retN, y_ite, y_fr, y_brk, y_cnt, y_pas, y_par, ys_nil, ys_cons, y_unp, y_setv, y_apG, y_app, y_stf, run_nx, run_ret, io_t, io_f, io_n, ln_nil, ln_cons, ln_lend, f_non, f_bl, f_int, f_str, f_tup, f_lst, f_ins, f_tupT, f_lstT, f_insT, fs_nil, fs_cons, fs_I, fs_blf, fs_If, fs_tupf, fs_lstf, fs_lstT, fs_app, fs_rev, it_eq, it_l, it_t, it_bl, it_int, it_non, it_str, it_tup, it_lst, it_ins, it_lstT, iu_bl, iu_int, iu_non, iu_str, iu_tup, iu_lst, iu_ins, sb_t, sb_l, y_appi, it_m1, fs_int, runF_eq, bind_ok, opt_some, ↓nxt_nx, ↓nxt_ret, ↓nxt_brk, ↓nxt_cnt, mayO_some, ↓onB_bl, ↓onO_some, blO_bl, ng_int, nt_bl, i_tup, i_lst, l_lst, t_bl, range0, asgT, wipeE, saved, restore, putBack, List.getElem?_cons_zero, List.getElem?_cons_succ, List.set_cons_zero, List.set_cons_succ, List.length_cons, List.length_nil, List.cons_append, List.nil_append, List.replicate_succ, List.replicate_zero, List.getD_cons_zero, List.getD_cons_succ, List.map_nil, List.map_cons, List.any_cons, List.any_nil, Nat.reduceSub, Nat.reduceAdd, Nat.reduceLT, Nat.reduceLeDiff, Nat.zero_add, if_true, ite_true, ite_false, reduceIte, D.own, Bool.false_eq_true, Option.bind_some, Option.map_some, Bool.or_false, Bool.false_or, Bool.not_true, Bool.not_false, decide_true, decide_false, lim, n_add, n_shr, n_and, n_eq, n_ne, n_lt, n_le, n_gt, n_ge, c_isN_non, c_isN_tup, n_sum, n_all, n_any, n_listS, n_lenL, n_lenT, n_intI, n_tupleT, n_tuple, n_list, n_listT, n_allf, n_anyf, n_sumf, nw_I, nw_If, nw_bl, nw_tup, nw_lst, k_ii, k_ib, k_is, k_il, k_it, k_bb, k_bi, k_tt, k_tl, k_ll, k_lt, k_llt, k_tlt, n_inT, n_or, rd_lf, f_lf, call2 (s_adds h1 h6 ho2)]
      exact gd rfl
    · exact le_lim (by omega)
    · rfl
  · intro m hm
    have hm2 := lt64 h6 (List.mem_range.mp hm)
    refine ⟨_, rfl, ?_⟩
    simp only [rd_non, rd_bl, rd_int, rd_str, rd_scr, rd_tup, rd_lst, rd_ins, rd_tupT, rd_lstT, rd_insT, pk_non, pk_bl, pk_int, pk_str, pk_scr, pk_tup, pk_lst, pk_ins, x_var, x_glo, x_int, x_bl, x_non, x_str, x_bin, x_neg, x_nt, x_an, x_or, x_cmp, x_chn, x_ite, x_tup, x_lst, x_sub, x_subv, x_att, x_attv, x_call, x_bi, x_biv, x_lc, x_mk, x_met, x_isi, x_gcd, x_bln, xs_nil, xs_cons, xa_nil, xa_cons, xa_lend, xr_seq, xr_rng1, xr_rng2, xr_enm, xr_rev, xt_an, xt_or, xt_nt, xt_cmp, xt_chn, xt_tv, xts_nil, xts_one, y_asg, y_exp, y_ret, y_retN, y_ite, y_fr, y_brk, y_cnt, y_pas, y_par, ys_nil, ys_cons, y_unp, y_setv, y_apG, y_app, y_stf, run_nx, run_ret, io_t, io_f, io_n, ln_nil, ln_cons, ln_lend, f_non, f_bl, f_int, f_str, f_tup, f_lst, f_ins, f_tupT, f_lstT, f_insT, fs_nil, fs_cons, fs_I, fs_blf, fs_If, fs_tupf, fs_lstf, fs_lstT, fs_app, fs_rev, it_eq, it_l, it_t, it_bl, it_int, it_non, it_str, it_tup, it_lst, it_ins, it_lstT, iu_bl, iu_int, iu_non, iu_str, iu_tup, iu_lst, iu_ins, sb_t, sb_l, y_appi, it_m1, fs_int, runF_eq, bind_ok, opt_some, ↓nxt_nx, ↓nxt_ret, ↓nxt_brk, ↓nxt_cnt, mayO_some, ↓onB_bl, ↓onO_some, blO_bl, ng_int, nt_bl, i_tup, i_lst, l_lst, t_bl, range0, asgT, wipeE, saved, restore, putBack, List.getElem?_cons_zero, List.getElem?_cons_succ, List.set_cons_zero, List.set_cons_succ, List.length_cons, List.length_nil, List.cons_append, List.nil_append, List.replicate_succ, List.replicate_zero, List.getD_cons_zero, List.getD_cons_succ, List.map_nil, List.map_cons, List.any_cons, List.any_nil, Nat.reduceSub, Nat.reduceAdd, Nat.reduceLT, Nat.reduceLeDiff, Nat.zero_add, if_true, ite_true, ite_false, reduceIte, D.own, Bool.false_eq_true, Option.bind_some, Option.map_some, Bool.or_false, Bool.false_or, Bool.not_true, Bool.not_false, decide_true, decide_false, lim, n_add, n_shr, n_and, n_eq, n_ne, n_lt, n_le, n_gt, n_ge, c_isN_non, c_isN_tup, n_sum, n_all, n_any, n_listS, n_lenL, n_lenT, n_intI, n_tupleT, n_tuple, n_list, n_listT, n_allf, n_anyf, n_sumf, nw_I, nw_If, nw_bl, nw_tup, nw_lst, k_ii, k_ib, k_is, k_il, k_it, k_bb, k_bi, k_tt, k_tl, k_ll, k_lt, k_llt, k_tlt, n_inT, n_or, call1 (s_things hm2), List.length_map]
    exact gd rfl
  · exact le_lim (by simp; omega)
  · rfl
end
end K36

/-! ## P6 -/
set_option maxRecDepth 100000
set_option maxHeartbeats 4000000
namespace K36
open PySem PySem.Spec PyProof.Rows L2 VS
section
variable {s : Nat} {T : Nat → Bool} {env : En} {m : Bool} {i : Nat}
theorem s_is {a b : Nat} (ha : a ≤ 6) (hb : b ≤ 6) (h0 : 0 < b) : c__law_is.sem [frD false a b, I a, I b] = .ok (.bl true) [] := by
  have key : (List.range 7).all (fun a => (List.range 6).all fun b => (c__law_is.sem [frD false a (b + 1), I a, I (b + 1)]).beq (.ok (.bl true) [])) = true := by decide +kernel
  have := List.all_eq_true.mp (List.all_eq_true.mp key a (List.mem_range.mpr (by omega))) (b - 1) (List.mem_range.mpr (by omega))
  rw [show b - 1 + 1 = b by omega] at this
  exact Out.eq_of_beq this
theorem s_like0 : (c__law_like 64).sem [.tup false [frD false 1 1, .tup false [], .tup false [], .tup false []], .tup false [.lst false [I 1, I 1], .tup false [], .tup false [], .tup false []]] = .ok (.bl true) [] :=
  Out.eq_of_beq (by decide +kernel)
theorem s_like {m : Nat} (h : m < 64) : (c__law_like 64).sem [thD m, thD m] = .ok (.bl true) [] :=
  sem_all (n := 64) (f := fun m => (c__law_like 64).sem [thD m, thD m]) (g := fun m => .ok (.bl true) []) (by decide +kernel) h
theorem s_mask (h : s ≤ 6) {m : Nat} (hm : m < 2 ^ s) : c__law_mask.sem [thD m, I s] = .ok (I m) [] := by
  have key : (List.range 7).all (fun s => (List.range (2 ^ s)).all fun m => (c__law_mask.sem [thD m, I s]).beq (.ok (I m) [])) = true := by decide +kernel
  exact Out.eq_of_beq (List.all_eq_true.mp (List.all_eq_true.mp key s (List.mem_range.mpr (by omega))) m (List.mem_range.mpr hm))
/-- a best one: its sets are full ones within the things -/
def Bfu (s : Nat) (T : Nat → Bool) : Bst → Prop
  | none => True
  | some (S, a, b) => S < 2 ^ s ∧ 0 < cnt b ∧ a ∈ fulL s T S ∧ b ∈ fulL s T S
theorem qstep_fu (F : Fam s T) {S : Nat} (hS : S < 2 ^ s) {best : Bst} (h : Bfu s T best) : Bfu s T (qstep s T best S) := by
  obtain ⟨g1, g2, g3, g4⟩ := ful_facts F (lt64 F.h6 hS)
  have ha : (fulL s T S).headD 0 ∈ fulL s T S := by cases h : fulL s T S with | nil => exact absurd h g1 | cons a l => simp
  have hb : (fulL s T S).getLastD 0 ∈ fulL s T S := by rw [List.getLastD_eq_getLast?, List.getLast?_eq_some_getLast g1]; exact List.getLast_mem g1
  unfold qstep
  by_cases hr : 0 < mx ((insL s T S).map cnt)
  · rw [if_pos hr]
    rw [g3] at hr
    cases best with
    | none => exact ⟨hS, hr, ha, hb⟩
    | some p =>
      obtain ⟨S0, a0, b0⟩ := p
      unfold qnew
      simp only
      split
      · exact ⟨hS, hr, ha, hb⟩
      · exact h
  · rw [if_neg hr]; exact h
theorem qall_fu (F : Fam s T) : Bfu s T (qall s T) := by
  have : ∀ (l : List Nat) (b : Bst), (∀ S ∈ l, S < 2 ^ s) → Bfu s T b → Bfu s T (l.foldl (qstep s T) b) := by
    intro l
    induction l with
    | nil => intro b _ h; exact h
    | cons S l ih => intro b hl h; exact ih _ (fun x hx => hl x (by simp [hx])) (qstep_fu F (hl S (by simp)) h)
  exact this _ _ (fun S hS => ord_lt F.h6 hS) trivial
/-- what quotient gave, frozen -/
def qfz : Bst → D
  | none => .tup false [frD false 1 1, .tup false [], .tup false [], .tup false []]
  | some (S, a, b) => .tup false [frD false (cnt a) (cnt b), thD S, thD a, thD b]
theorem f_qres {b : Bst} : (qres b).frz = qfz b := by cases b <;> rfl
theorem pk_qfz {b : Bst} : pkO (some (qfz b)) = some (qfz b) := by cases b <;> rfl
theorem rd_qfz {b : Bst} : rdO (some (qfz b)) i env = .ok (qfz b) env := by cases b <;> rfl
theorem rd_qres {b : Bst} : rdO (some (qres b)) i env = .ok (qfz b) (env.set i (qfz b)) := by cases b <;> rfl
theorem f_qfz {b : Bst} : (qfz b).frz = qfz b := by cases b <;> rfl
theorem f_fr {a b : Nat} : (frD false a b).frz = frD false a b := id rfl
theorem rd_fr {a b : Nat} : rdO (some (frD false a b)) i env = .ok (frD false a b) env := id rfl
theorem iu_fr {a b : Nat} : itF (some (frD false a b)) env = .ok (frD false a b) env := id rfl
theorem s_judged (F : Fam s T) : c__law_judged.sem [qfz (qall s T), lfD s T] = .ok (.bl true) [] := by
  have h6 := F.h6
  have h1 := F.h1
  simp only [c__law_judged, b__law_judged, N__law_judged, rd_non, rd_bl, rd_int, rd_str, rd_scr, rd_tup, rd_lst, rd_ins, rd_tupT, rd_lstT, rd_insT, pk_non, pk_bl, pk_int, pk_str, pk_scr, pk_tup, pk_lst, pk_ins, x_var, x_glo, x_int, x_bl, x_non, x_str, x_bin, x_neg, x_nt, x_an, x_or, x_cmp, x_chn, x_ite, x_tup, x_lst, x_sub, x_subv, x_att, x_attv, x_call, x_bi, x_biv, x_lc, x_mk, x_met, x_isi, x_gcd, x_bln, xs_nil, xs_cons, xa_nil, xa_cons, xa_lend, xr_seq, xr_rng1, xr_rng2, xr_enm, xr_rev, xt_an, xt_or, xt_nt, xt_cmp, xt_chn, xt_tv, xts_nil, xts_one, y_asg, y_exp, y_ret, y_retN, y_ite, y_fr, y_brk, y_cnt, y_pas, y_par, ys_nil, ys_cons, y_unp, y_setv, y_apG, y_app, y_stf, run_nx, run_ret, io_t, io_f, io_n, ln_nil, ln_cons, ln_lend, f_non, f_bl, f_int, f_str, f_tup, f_lst, f_ins, f_tupT, f_lstT, f_insT, fs_nil, fs_cons, fs_I, fs_blf, fs_If, fs_tupf, fs_lstf, fs_lstT, fs_app, fs_rev, it_eq, it_l, it_t, it_bl, it_int, it_non, it_str, it_tup, it_lst, it_ins, it_lstT, iu_bl, iu_int, iu_non, iu_str, iu_tup, iu_lst, iu_ins, sb_t, sb_l, y_appi, it_m1, fs_int, runF_eq, bind_ok, opt_some, ↓nxt_nx, ↓nxt_ret, ↓nxt_brk, ↓nxt_cnt, mayO_some, ↓onB_bl, ↓onO_some, blO_bl, ng_int, nt_bl, i_tup, i_lst, l_lst, t_bl, range0, asgT, wipeE, saved, restore, putBack, List.getElem?_cons_zero, List.getElem?_cons_succ, List.set_cons_zero, List.set_cons_succ, List.length_cons, List.length_nil, List.cons_append, List.nil_append, List.replicate_succ, List.replicate_zero, List.getD_cons_zero, List.getD_cons_succ, List.map_nil, List.map_cons, List.any_cons, List.any_nil, Nat.reduceSub, Nat.reduceAdd, Nat.reduceLT, Nat.reduceLeDiff, Nat.zero_add, if_true, ite_true, ite_false, reduceIte, D.own, Bool.false_eq_true, Option.bind_some, Option.map_some, Bool.or_false, Bool.false_or, Bool.not_true, Bool.not_false, decide_true, decide_false, lim, n_add, n_shr, n_and, n_eq, n_ne, n_lt, n_le, n_gt, n_ge, c_isN_non, c_isN_tup, n_sum, n_all, n_any, n_listS, n_lenL, n_lenT, n_intI, n_tupleT, n_tuple, n_list, n_listT, n_allf, n_anyf, n_sumf, nw_I, nw_If, nw_bl, nw_tup, nw_lst, k_ii, k_ib, k_is, k_il, k_it, k_bb, k_bi, k_tt, k_tl, k_ll, k_lt, k_llt, k_tlt, n_inT, n_or, rd_lf, f_lf, call1 (s_lquot F)]
  have hfu := qall_fu F
  cases hq : qall s T with
  | none =>
    simp only [rd_non, rd_bl, rd_int, rd_str, rd_scr, rd_tup, rd_lst, rd_ins, rd_tupT, rd_lstT, rd_insT, pk_non, pk_bl, pk_int, pk_str, pk_scr, pk_tup, pk_lst, pk_ins, x_var, x_glo, x_int, x_bl, x_non, x_str, x_bin, x_neg, x_nt, x_an, x_or, x_cmp, x_chn, x_ite, x_tup, x_lst, x_sub, x_subv, x_att, x_attv, x_call, x_bi, x_biv, x_lc, x_mk, x_met, x_isi, x_gcd, x_bln, xs_nil, xs_cons, xa_nil, xa_cons, xa_lend, xr_seq, xr_rng1, xr_rng2, xr_enm, xr_rev, xt_an, xt_or, xt_nt, xt_cmp, xt_chn, xt_tv, xts_nil, xts_one, y_asg, y_exp, y_ret, y_retN, y_ite, y_fr, y_brk, y_cnt, y_pas, y_par, ys_nil, ys_cons, y_unp, y_setv, y_apG, y_app, y_stf, run_nx, run_ret, io_t, io_f, io_n, ln_nil, ln_cons, ln_lend, f_non, f_bl, f_int, f_str, f_tup, f_lst, f_ins, f_tupT, f_lstT, f_insT, fs_nil, fs_cons, fs_I, fs_blf, fs_If, fs_tupf, fs_lstf, fs_lstT, fs_app, fs_rev, it_eq, it_l, it_t, it_bl, it_int, it_non, it_str, it_tup, it_lst, it_ins, it_lstT, iu_bl, iu_int, iu_non, iu_str, iu_tup, iu_lst, iu_ins, sb_t, sb_l, y_appi, it_m1, fs_int, runF_eq, bind_ok, opt_some, ↓nxt_nx, ↓nxt_ret, ↓nxt_brk, ↓nxt_cnt, mayO_some, ↓onB_bl, ↓onO_some, blO_bl, ng_int, nt_bl, i_tup, i_lst, l_lst, t_bl, range0, asgT, wipeE, saved, restore, putBack, List.getElem?_cons_zero, List.getElem?_cons_succ, List.set_cons_zero, List.set_cons_succ, List.length_cons, List.length_nil, List.cons_append, List.nil_append, List.replicate_succ, List.replicate_zero, List.getD_cons_zero, List.getD_cons_succ, List.map_nil, List.map_cons, List.any_cons, List.any_nil, Nat.reduceSub, Nat.reduceAdd, Nat.reduceLT, Nat.reduceLeDiff, Nat.zero_add, if_true, ite_true, ite_false, reduceIte, D.own, Bool.false_eq_true, Option.bind_some, Option.map_some, Bool.or_false, Bool.false_or, Bool.not_true, Bool.not_false, decide_true, decide_false, lim, n_add, n_shr, n_and, n_eq, n_ne, n_lt, n_le, n_gt, n_ge, c_isN_non, c_isN_tup, n_sum, n_all, n_any, n_listS, n_lenL, n_lenT, n_intI, n_tupleT, n_tuple, n_list, n_listT, n_allf, n_anyf, n_sumf, nw_I, nw_If, nw_bl, nw_tup, nw_lst, k_ii, k_ib, k_is, k_il, k_it, k_bb, k_bi, k_tt, k_tl, k_ll, k_lt, k_llt, k_tlt, n_inT, n_or, phi, Option.map_none, lbD, qfz, f_fr, call2 s_like0]
  | some p =>
    obtain ⟨S, a, b⟩ := p
    rw [hq] at hfu
    obtain ⟨hS, hb0, ha, hb⟩ := hfu
    have ca := thg_len a
    have cb := thg_len b
    unfold fulL at ha hb
    rw [List.mem_filter, ins_mem F] at ha hb
    obtain ⟨⟨a1, a2, a3⟩, a4⟩ := ha
    obtain ⟨⟨b1, b2, b3⟩, b4⟩ := hb
    have hS64 := lt64 h6 hS
    have adm := adm_and (T := T) h6 a hS64
    rw [a4] at adm
    have adm := of_decide_eq_true adm
    have a3' := of_decide_eq_true ((sub_dec a S).trans a3)
    have b3' := of_decide_eq_true ((sub_dec b S).trans b3)
    have e0 : ¬ (I a : D) = I 0 → True := fun _ => trivial
    simp only [rd_non, rd_bl, rd_int, rd_str, rd_scr, rd_tup, rd_lst, rd_ins, rd_tupT, rd_lstT, rd_insT, pk_non, pk_bl, pk_int, pk_str, pk_scr, pk_tup, pk_lst, pk_ins, x_var, x_glo, x_int, x_bl, x_non, x_str, x_bin, x_neg, x_nt, x_an, x_or, x_cmp, x_chn, x_ite, x_tup, x_lst, x_sub, x_subv, x_att, x_attv, x_call, x_bi, x_biv, x_lc, x_mk, x_met, x_isi, x_gcd, x_bln, xs_nil, xs_cons, xa_nil, xa_cons, xa_lend, xr_seq, xr_rng1, xr_rng2, xr_enm, xr_rev, xt_an, xt_or, xt_nt, xt_cmp, xt_chn, xt_tv, xts_nil, xts_one, y_asg, y_exp, y_ret, y_retN, y_ite, y_fr, y_brk, y_cnt, y_pas, y_par, ys_nil, ys_cons, y_unp, y_setv, y_apG, y_app, y_stf, run_nx, run_ret, io_t, io_f, io_n, ln_nil, ln_cons, ln_lend, f_non, f_bl, f_int, f_str, f_tup, f_lst, f_ins, f_tupT, f_lstT, f_insT, fs_nil, fs_cons, fs_I, fs_blf, fs_If, fs_tupf, fs_lstf, fs_lstT, fs_app, fs_rev, it_eq, it_l, it_t, it_bl, it_int, it_non, it_str, it_tup, it_lst, it_ins, it_lstT, iu_bl, iu_int, iu_non, iu_str, iu_tup, iu_lst, iu_ins, sb_t, sb_l, y_appi, it_m1, fs_int, runF_eq, bind_ok, opt_some, ↓nxt_nx, ↓nxt_ret, ↓nxt_brk, ↓nxt_cnt, mayO_some, ↓onB_bl, ↓onO_some, blO_bl, ng_int, nt_bl, i_tup, i_lst, l_lst, t_bl, range0, asgT, wipeE, saved, restore, putBack, List.getElem?_cons_zero, List.getElem?_cons_succ, List.set_cons_zero, List.set_cons_succ, List.length_cons, List.length_nil, List.cons_append, List.nil_append, List.replicate_succ, List.replicate_zero, List.getD_cons_zero, List.getD_cons_succ, List.map_nil, List.map_cons, List.any_cons, List.any_nil, Nat.reduceSub, Nat.reduceAdd, Nat.reduceLT, Nat.reduceLeDiff, Nat.zero_add, if_true, ite_true, ite_false, reduceIte, D.own, Bool.false_eq_true, Option.bind_some, Option.map_some, Bool.or_false, Bool.false_or, Bool.not_true, Bool.not_false, decide_true, decide_false, lim, n_add, n_shr, n_and, n_eq, n_ne, n_lt, n_le, n_gt, n_ge, c_isN_non, c_isN_tup, n_sum, n_all, n_any, n_listS, n_lenL, n_lenT, n_intI, n_tupleT, n_tuple, n_list, n_listT, n_allf, n_anyf, n_sumf, nw_I, nw_If, nw_bl, nw_tup, nw_lst, k_ii, k_ib, k_is, k_il, k_it, k_bb, k_bi, k_tt, k_tl, k_ll, k_lt, k_llt, k_tlt, n_inT, n_or, phi, Option.map_some, lbD, qfz, f_fr, iu_fr, it_eq, rd_fr, call3 (s_is ca cb hb0), call1 (s_things hS64), call2 (s_like hS64), pk_lf, it_lf0, it_lf1, rd_lf, f_lf, call2 (s_mask h6 a1), call2 (s_mask h6 b1),
      tab_get a1, tab_get b1, a2, b2, a3', b3', call2 (s_adds (T := T) h1 h6 a1), adm, call1 (s_things (lt64 h6 a1)), call1 (s_things (lt64 h6 b1)), List.length_map, Nat.not_lt_zero]
    done
end
end K36

/-! ## P7 -/
set_option maxRecDepth 100000
set_option maxHeartbeats 4000000
namespace K36
open PySem PySem.Spec PyProof.Rows L2 VS
section
variable {s : Nat} {T : Nat → Bool} {env : En} {m : Bool} {i : Nat}
theorem s_make {qs : List (Bool × Nat)} (F : Fam s T) (hq : ∀ m, m ∈ qs.map (·.2) ↔ m ∈ setsL s T) (hl : qs.length ≤ 1000) : mkFn c_Family___init__ [I s, .lst false (qs.map setD)] [none, none] env = .ok (famD true s T) env := by
  refine mk2 (c := ("Family" : Str)) rfl (s_init F (fun q hq2 => ?_) hl fun m hm => ?_)
  · exact ((sets_mem F).mp ((hq q.2).mp (List.mem_map.mpr ⟨q, hq2, rfl⟩))).1
  · have h1 : (m ∈ qs.map (·.2)) ↔ T m = true := by rw [hq, sets_mem F]; exact ⟨fun h => h.2, fun h => ⟨hm, h⟩⟩
    cases hT : T m with
    | true => exact (decide_eq_true (h1.mpr hT)).symm
    | false => exact (decide_eq_false fun h => by rw [h1.mp h] at hT; cases hT).symm
theorem sets_ne (F : Fam s T) : setsL s T ≠ [] := fun e => by have := (sets_mem F).mpr ⟨Nat.two_pow_pos s, F.zero⟩; rw [e] at this; cases this
theorem s_told {form : Nat} (F : Fam s T) : c__law_told.sem [lfD s T, I form] = .ok (famD true s T) [] := by
  have h6 := F.h6
  have sl := sets_len (s := s) (T := T) h6
  simp only [c__law_told, b__law_told, N__law_told, rd_non, rd_bl, rd_int, rd_str, rd_scr, rd_tup, rd_lst, rd_ins, rd_tupT, rd_lstT, rd_insT, pk_non, pk_bl, pk_int, pk_str, pk_scr, pk_tup, pk_lst, pk_ins, x_var, x_glo, x_int, x_bl, x_non, x_str, x_bin, x_neg, x_nt, x_an, x_or, x_cmp, x_chn, x_ite, x_tup, x_lst, x_sub, x_subv, x_att, x_attv, x_call, x_bi, x_biv, x_lc, x_mk, x_met, x_isi, x_gcd, x_bln, xs_nil, xs_cons, xa_nil, xa_cons, xa_lend, xr_seq, xr_rng1, xr_rng2, xr_enm, xr_rev, xt_an, xt_or, xt_nt, xt_cmp, xt_chn, xt_tv, xts_nil, xts_one, y_asg, y_exp, y_ret, y_retN, y_ite, y_fr, y_brk, y_cnt, y_pas, y_par, ys_nil, ys_cons, y_unp, y_setv, y_apG, y_app, y_stf, run_nx, run_ret, io_t, io_f, io_n, ln_nil, ln_cons, ln_lend, f_non, f_bl, f_int, f_str, f_tup, f_lst, f_ins, f_tupT, f_lstT, f_insT, fs_nil, fs_cons, fs_I, fs_blf, fs_If, fs_tupf, fs_lstf, fs_lstT, fs_app, fs_rev, it_eq, it_l, it_t, it_bl, it_int, it_non, it_str, it_tup, it_lst, it_ins, it_lstT, iu_bl, iu_int, iu_non, iu_str, iu_tup, iu_lst, iu_ins, sb_t, sb_l, y_appi, it_m1, fs_int, runF_eq, bind_ok, opt_some, ↓nxt_nx, ↓nxt_ret, ↓nxt_brk, ↓nxt_cnt, mayO_some, ↓onB_bl, ↓onO_some, blO_bl, ng_int, nt_bl, i_tup, i_lst, l_lst, t_bl, range0, asgT, wipeE, saved, restore, putBack, List.getElem?_cons_zero, List.getElem?_cons_succ, List.set_cons_zero, List.set_cons_succ, List.length_cons, List.length_nil, List.cons_append, List.nil_append, List.replicate_succ, List.replicate_zero, List.getD_cons_zero, List.getD_cons_succ, List.map_nil, List.map_cons, List.any_cons, List.any_nil, Nat.reduceSub, Nat.reduceAdd, Nat.reduceLT, Nat.reduceLeDiff, Nat.zero_add, if_true, ite_true, ite_false, reduceIte, D.own, Bool.false_eq_true, Option.bind_some, Option.map_some, Bool.or_false, Bool.false_or, Bool.not_true, Bool.not_false, decide_true, decide_false, lim, n_add, n_shr, n_and, n_eq, n_ne, n_lt, n_le, n_gt, n_ge, c_isN_non, c_isN_tup, n_sum, n_all, n_any, n_listS, n_lenL, n_lenT, n_intI, n_tupleT, n_tuple, n_list, n_listT, n_allf, n_anyf, n_sumf, nw_I, nw_If, nw_bl, nw_tup, nw_lst, k_ii, k_ib, k_is, k_il, k_it, k_bb, k_bi, k_tt, k_tl, k_ll, k_lt, k_llt, k_tlt, n_inT, n_or, it_eq, pk_lf, it_lf2]
  rw [lcR_map (f := fun m => .lst true (thI m))]
  · by_cases hf : form = 1
    · simp only [rd_non, rd_bl, rd_int, rd_str, rd_scr, rd_tup, rd_lst, rd_ins, rd_tupT, rd_lstT, rd_insT, pk_non, pk_bl, pk_int, pk_str, pk_scr, pk_tup, pk_lst, pk_ins, x_var, x_glo, x_int, x_bl, x_non, x_str, x_bin, x_neg, x_nt, x_an, x_or, x_cmp, x_chn, x_ite, x_tup, x_lst, x_sub, x_subv, x_att, x_attv, x_call, x_bi, x_biv, x_lc, x_mk, x_met, x_isi, x_gcd, x_bln, xs_nil, xs_cons, xa_nil, xa_cons, xa_lend, xr_seq, xr_rng1, xr_rng2, xr_enm, xr_rev, xt_an, xt_or, xt_nt, xt_cmp, xt_chn, xt_tv, xts_nil, xts_one, y_asg, y_exp, y_ret, y_retN, y_ite, y_fr, y_brk, y_cnt, y_pas, y_par, ys_nil, ys_cons, y_unp, y_setv, y_apG, y_app, y_stf, run_nx, run_ret, io_t, io_f, io_n, ln_nil, ln_cons, ln_lend, f_non, f_bl, f_int, f_str, f_tup, f_lst, f_ins, f_tupT, f_lstT, f_insT, fs_nil, fs_cons, fs_I, fs_blf, fs_If, fs_tupf, fs_lstf, fs_lstT, fs_app, fs_rev, it_eq, it_l, it_t, it_bl, it_int, it_non, it_str, it_tup, it_lst, it_ins, it_lstT, iu_bl, iu_int, iu_non, iu_str, iu_tup, iu_lst, iu_ins, sb_t, sb_l, y_appi, it_m1, fs_int, runF_eq, bind_ok, opt_some, ↓nxt_nx, ↓nxt_ret, ↓nxt_brk, ↓nxt_cnt, mayO_some, ↓onB_bl, ↓onO_some, blO_bl, ng_int, nt_bl, i_tup, i_lst, l_lst, t_bl, range0, asgT, wipeE, saved, restore, putBack, List.getElem?_cons_zero, List.getElem?_cons_succ, List.set_cons_zero, List.set_cons_succ, List.length_cons, List.length_nil, List.cons_append, List.nil_append, List.replicate_succ, List.replicate_zero, List.getD_cons_zero, List.getD_cons_succ, List.map_nil, List.map_cons, List.any_cons, List.any_nil, Nat.reduceSub, Nat.reduceAdd, Nat.reduceLT, Nat.reduceLeDiff, Nat.zero_add, if_true, ite_true, ite_false, reduceIte, D.own, Bool.false_eq_true, Option.bind_some, Option.map_some, Bool.or_false, Bool.false_or, Bool.not_true, Bool.not_false, decide_true, decide_false, lim, n_add, n_shr, n_and, n_eq, n_ne, n_lt, n_le, n_gt, n_ge, c_isN_non, c_isN_tup, n_sum, n_all, n_any, n_listS, n_lenL, n_lenT, n_intI, n_tupleT, n_tuple, n_list, n_listT, n_allf, n_anyf, n_sumf, nw_I, nw_If, nw_bl, nw_tup, nw_lst, k_ii, k_ib, k_is, k_il, k_it, k_bb, k_bi, k_tt, k_tl, k_ll, k_lt, k_llt, k_tlt, n_inT, n_or, hf]
      rw [← List.map_reverse, lcR_map (f := thD)]
      · have hlast : (List.map (fun k => D.lst false (thI k)) (setsL s T)).getLast? = some (.lst false (thI ((setsL s T).getLastD 0))) := by
          rw [List.getLast?_map, List.getLastD_eq_getLast?, List.getLast?_eq_some_getLast (sets_ne F)]; rfl
        simp only [rd_non, rd_bl, rd_int, rd_str, rd_scr, rd_tup, rd_lst, rd_ins, rd_tupT, rd_lstT, rd_insT, pk_non, pk_bl, pk_int, pk_str, pk_scr, pk_tup, pk_lst, pk_ins, x_var, x_glo, x_int, x_bl, x_non, x_str, x_bin, x_neg, x_nt, x_an, x_or, x_cmp, x_chn, x_ite, x_tup, x_lst, x_sub, x_subv, x_att, x_attv, x_call, x_bi, x_biv, x_lc, x_mk, x_met, x_isi, x_gcd, x_bln, xs_nil, xs_cons, xa_nil, xa_cons, xa_lend, xr_seq, xr_rng1, xr_rng2, xr_enm, xr_rev, xt_an, xt_or, xt_nt, xt_cmp, xt_chn, xt_tv, xts_nil, xts_one, y_asg, y_exp, y_ret, y_retN, y_ite, y_fr, y_brk, y_cnt, y_pas, y_par, ys_nil, ys_cons, y_unp, y_setv, y_apG, y_app, y_stf, run_nx, run_ret, io_t, io_f, io_n, ln_nil, ln_cons, ln_lend, f_non, f_bl, f_int, f_str, f_tup, f_lst, f_ins, f_tupT, f_lstT, f_insT, fs_nil, fs_cons, fs_I, fs_blf, fs_If, fs_tupf, fs_lstf, fs_lstT, fs_app, fs_rev, it_eq, it_l, it_t, it_bl, it_int, it_non, it_str, it_tup, it_lst, it_ins, it_lstT, iu_bl, iu_int, iu_non, iu_str, iu_tup, iu_lst, iu_ins, sb_t, sb_l, y_appi, it_m1, fs_int, runF_eq, bind_ok, opt_some, ↓nxt_nx, ↓nxt_ret, ↓nxt_brk, ↓nxt_cnt, mayO_some, ↓onB_bl, ↓onO_some, blO_bl, ng_int, nt_bl, i_tup, i_lst, l_lst, t_bl, range0, asgT, wipeE, saved, restore, putBack, List.getElem?_cons_zero, List.getElem?_cons_succ, List.set_cons_zero, List.set_cons_succ, List.length_cons, List.length_nil, List.cons_append, List.nil_append, List.replicate_succ, List.replicate_zero, List.getD_cons_zero, List.getD_cons_succ, List.map_nil, List.map_cons, List.any_cons, List.any_nil, Nat.reduceSub, Nat.reduceAdd, Nat.reduceLT, Nat.reduceLeDiff, Nat.zero_add, if_true, ite_true, ite_false, reduceIte, D.own, Bool.false_eq_true, Option.bind_some, Option.map_some, Bool.or_false, Bool.false_or, Bool.not_true, Bool.not_false, decide_true, decide_false, lim, n_add, n_shr, n_and, n_eq, n_ne, n_lt, n_le, n_gt, n_ge, c_isN_non, c_isN_tup, n_sum, n_all, n_any, n_listS, n_lenL, n_lenT, n_intI, n_tupleT, n_tuple, n_list, n_listT, n_allf, n_anyf, n_sumf, nw_I, nw_If, nw_bl, nw_tup, nw_lst, k_ii, k_ib, k_is, k_il, k_it, k_bb, k_bi, k_tt, k_tl, k_ll, k_lt, k_llt, k_tlt, n_inT, n_or, it_eq, it_m1 hlast rfl]
        rw [n_addL (by simp; omega)]
        simp only [rd_non, rd_bl, rd_int, rd_str, rd_scr, rd_tup, rd_lst, rd_ins, rd_tupT, rd_lstT, rd_insT, pk_non, pk_bl, pk_int, pk_str, pk_scr, pk_tup, pk_lst, pk_ins, x_var, x_glo, x_int, x_bl, x_non, x_str, x_bin, x_neg, x_nt, x_an, x_or, x_cmp, x_chn, x_ite, x_tup, x_lst, x_sub, x_subv, x_att, x_attv, x_call, x_bi, x_biv, x_lc, x_mk, x_met, x_isi, x_gcd, x_bln, xs_nil, xs_cons, xa_nil, xa_cons, xa_lend, xr_seq, xr_rng1, xr_rng2, xr_enm, xr_rev, xt_an, xt_or, xt_nt, xt_cmp, xt_chn, xt_tv, xts_nil, xts_one, y_asg, y_exp, y_ret, y_retN, y_ite, y_fr, y_brk, y_cnt, y_pas, y_par, ys_nil, ys_cons, y_unp, y_setv, y_apG, y_app, y_stf, run_nx, run_ret, io_t, io_f, io_n, ln_nil, ln_cons, ln_lend, f_non, f_bl, f_int, f_str, f_tup, f_lst, f_ins, f_tupT, f_lstT, f_insT, fs_nil, fs_cons, fs_I, fs_blf, fs_If, fs_tupf, fs_lstf, fs_lstT, fs_app, fs_rev, it_eq, it_l, it_t, it_bl, it_int, it_non, it_str, it_tup, it_lst, it_ins, it_lstT, iu_bl, iu_int, iu_non, iu_str, iu_tup, iu_lst, iu_ins, sb_t, sb_l, y_appi, it_m1, fs_int, runF_eq, bind_ok, opt_some, ↓nxt_nx, ↓nxt_ret, ↓nxt_brk, ↓nxt_cnt, mayO_some, ↓onB_bl, ↓onO_some, blO_bl, ng_int, nt_bl, i_tup, i_lst, l_lst, t_bl, range0, asgT, wipeE, saved, restore, putBack, List.getElem?_cons_zero, List.getElem?_cons_succ, List.set_cons_zero, List.set_cons_succ, List.length_cons, List.length_nil, List.cons_append, List.nil_append, List.replicate_succ, List.replicate_zero, List.getD_cons_zero, List.getD_cons_succ, List.map_nil, List.map_cons, List.any_cons, List.any_nil, Nat.reduceSub, Nat.reduceAdd, Nat.reduceLT, Nat.reduceLeDiff, Nat.zero_add, if_true, ite_true, ite_false, reduceIte, D.own, Bool.false_eq_true, Option.bind_some, Option.map_some, Bool.or_false, Bool.false_or, Bool.not_true, Bool.not_false, decide_true, decide_false, lim, n_add, n_shr, n_and, n_eq, n_ne, n_lt, n_le, n_gt, n_ge, c_isN_non, c_isN_tup, n_sum, n_all, n_any, n_listS, n_lenL, n_lenT, n_intI, n_tupleT, n_tuple, n_list, n_listT, n_allf, n_anyf, n_sumf, nw_I, nw_If, nw_bl, nw_tup, nw_lst, k_ii, k_ib, k_is, k_il, k_it, k_bb, k_bi, k_tt, k_tl, k_ll, k_lt, k_llt, k_tlt, n_inT, n_or, it_eq, pk_lf, it_lf0]
        rw [show (List.map (fun k => D.tup false (thI k)) (setsL s T).reverse ++ [D.lst false (thI ((setsL s T).getLastD 0))]) = (((setsL s T).reverse.map fun m => (true, m)) ++ [(false, (setsL s T).getLastD 0)]).map setD by
          rw [List.map_append, List.map_map]; rfl]
        rw [s_make F]
        · simp only [rd_non, rd_bl, rd_int, rd_str, rd_scr, rd_tup, rd_lst, rd_ins, rd_tupT, rd_lstT, rd_insT, pk_non, pk_bl, pk_int, pk_str, pk_scr, pk_tup, pk_lst, pk_ins, x_var, x_glo, x_int, x_bl, x_non, x_str, x_bin, x_neg, x_nt, x_an, x_or, x_cmp, x_chn, x_ite, x_tup, x_lst, x_sub, x_subv, x_att, x_attv, x_call, x_bi, x_biv, x_lc, x_mk, x_met, x_isi, x_gcd, x_bln, xs_nil, xs_cons, xa_nil, xa_cons, xa_lend, xr_seq, xr_rng1, xr_rng2, xr_enm, xr_rev, xt_an, xt_or, xt_nt, xt_cmp, xt_chn, xt_tv, xts_nil, xts_one, y_asg, y_exp, y_ret, y_retN, y_ite, y_fr, y_brk, y_cnt, y_pas, y_par, ys_nil, ys_cons, y_unp, y_setv, y_apG, y_app, y_stf, run_nx, run_ret, io_t, io_f, io_n, ln_nil, ln_cons, ln_lend, f_non, f_bl, f_int, f_str, f_tup, f_lst, f_ins, f_tupT, f_lstT, f_insT, fs_nil, fs_cons, fs_I, fs_blf, fs_If, fs_tupf, fs_lstf, fs_lstT, fs_app, fs_rev, it_eq, it_l, it_t, it_bl, it_int, it_non, it_str, it_tup, it_lst, it_ins, it_lstT, iu_bl, iu_int, iu_non, iu_str, iu_tup, iu_lst, iu_ins, sb_t, sb_l, y_appi, it_m1, fs_int, runF_eq, bind_ok, opt_some, ↓nxt_nx, ↓nxt_ret, ↓nxt_brk, ↓nxt_cnt, mayO_some, ↓onB_bl, ↓onO_some, blO_bl, ng_int, nt_bl, i_tup, i_lst, l_lst, t_bl, range0, asgT, wipeE, saved, restore, putBack, List.getElem?_cons_zero, List.getElem?_cons_succ, List.set_cons_zero, List.set_cons_succ, List.length_cons, List.length_nil, List.cons_append, List.nil_append, List.replicate_succ, List.replicate_zero, List.getD_cons_zero, List.getD_cons_succ, List.map_nil, List.map_cons, List.any_cons, List.any_nil, Nat.reduceSub, Nat.reduceAdd, Nat.reduceLT, Nat.reduceLeDiff, Nat.zero_add, if_true, ite_true, ite_false, reduceIte, D.own, Bool.false_eq_true, Option.bind_some, Option.map_some, Bool.or_false, Bool.false_or, Bool.not_true, Bool.not_false, decide_true, decide_false, lim]
        · intro m
          simp only [List.map_append, List.map_map, List.mem_append, List.map_cons, List.map_nil, List.mem_singleton]
          have hid : (List.map ((fun x : Bool × Nat => x.2) ∘ fun m => (true, m)) (setsL s T).reverse) = (setsL s T).reverse := List.map_id _
          rw [hid, List.mem_reverse]
          constructor
          · rintro (h | rfl)
            · exact h
            · rw [List.getLastD_eq_getLast?, List.getLast?_eq_some_getLast (sets_ne F)]; exact List.getLast_mem _
          · exact .inl
        · simp; omega
      · intro m hm
        refine ⟨_, rfl, ?_⟩
        simp only [rd_non, rd_bl, rd_int, rd_str, rd_scr, rd_tup, rd_lst, rd_ins, rd_tupT, rd_lstT, rd_insT, pk_non, pk_bl, pk_int, pk_str, pk_scr, pk_tup, pk_lst, pk_ins, x_var, x_glo, x_int, x_bl, x_non, x_str, x_bin, x_neg, x_nt, x_an, x_or, x_cmp, x_chn, x_ite, x_tup, x_lst, x_sub, x_subv, x_att, x_attv, x_call, x_bi, x_biv, x_lc, x_mk, x_met, x_isi, x_gcd, x_bln, xs_nil, xs_cons, xa_nil, xa_cons, xa_lend, xr_seq, xr_rng1, xr_rng2, xr_enm, xr_rev, xt_an, xt_or, xt_nt, xt_cmp, xt_chn, xt_tv, xts_nil, xts_one, y_asg, y_exp, y_ret, y_retN, y_ite, y_fr, y_brk, y_cnt, y_pas, y_par, ys_nil, ys_cons, y_unp, y_setv, y_apG, y_app, y_stf, run_nx, run_ret, io_t, io_f, io_n, ln_nil, ln_cons, ln_lend, f_non, f_bl, f_int, f_str, f_tup, f_lst, f_ins, f_tupT, f_lstT, f_insT, fs_nil, fs_cons, fs_I, fs_blf, fs_If, fs_tupf, fs_lstf, fs_lstT, fs_app, fs_rev, it_eq, it_l, it_t, it_bl, it_int, it_non, it_str, it_tup, it_lst, it_ins, it_lstT, iu_bl, iu_int, iu_non, iu_str, iu_tup, iu_lst, iu_ins, sb_t, sb_l, y_appi, it_m1, fs_int, runF_eq, bind_ok, opt_some, ↓nxt_nx, ↓nxt_ret, ↓nxt_brk, ↓nxt_cnt, mayO_some, ↓onB_bl, ↓onO_some, blO_bl, ng_int, nt_bl, i_tup, i_lst, l_lst, t_bl, range0, asgT, wipeE, saved, restore, putBack, List.getElem?_cons_zero, List.getElem?_cons_succ, List.set_cons_zero, List.set_cons_succ, List.length_cons, List.length_nil, List.cons_append, List.nil_append, List.replicate_succ, List.replicate_zero, List.getD_cons_zero, List.getD_cons_succ, List.map_nil, List.map_cons, List.any_cons, List.any_nil, Nat.reduceSub, Nat.reduceAdd, Nat.reduceLT, Nat.reduceLeDiff, Nat.zero_add, if_true, ite_true, ite_false, reduceIte, D.own, Bool.false_eq_true, Option.bind_some, Option.map_some, Bool.or_false, Bool.false_or, Bool.not_true, Bool.not_false, decide_true, decide_false, lim, n_add, n_shr, n_and, n_eq, n_ne, n_lt, n_le, n_gt, n_ge, c_isN_non, c_isN_tup, n_sum, n_all, n_any, n_listS, n_lenL, n_lenT, n_intI, n_tupleT, n_tuple, n_list, n_listT, n_allf, n_anyf, n_sumf, nw_I, nw_If, nw_bl, nw_tup, nw_lst, k_ii, k_ib, k_is, k_il, k_it, k_bb, k_bi, k_tt, k_tl, k_ll, k_lt, k_llt, k_tlt, n_inT, n_or]
        exact gd rfl
      · exact le_lim (by simp; omega)
      · rfl
    · simp only [rd_non, rd_bl, rd_int, rd_str, rd_scr, rd_tup, rd_lst, rd_ins, rd_tupT, rd_lstT, rd_insT, pk_non, pk_bl, pk_int, pk_str, pk_scr, pk_tup, pk_lst, pk_ins, x_var, x_glo, x_int, x_bl, x_non, x_str, x_bin, x_neg, x_nt, x_an, x_or, x_cmp, x_chn, x_ite, x_tup, x_lst, x_sub, x_subv, x_att, x_attv, x_call, x_bi, x_biv, x_lc, x_mk, x_met, x_isi, x_gcd, x_bln, xs_nil, xs_cons, xa_nil, xa_cons, xa_lend, xr_seq, xr_rng1, xr_rng2, xr_enm, xr_rev, xt_an, xt_or, xt_nt, xt_cmp, xt_chn, xt_tv, xts_nil, xts_one, y_asg, y_exp, y_ret, y_retN, y_ite, y_fr, y_brk, y_cnt, y_pas, y_par, ys_nil, ys_cons, y_unp, y_setv, y_apG, y_app, y_stf, run_nx, run_ret, io_t, io_f, io_n, ln_nil, ln_cons, ln_lend, f_non, f_bl, f_int, f_str, f_tup, f_lst, f_ins, f_tupT, f_lstT, f_insT, fs_nil, fs_cons, fs_I, fs_blf, fs_If, fs_tupf, fs_lstf, fs_lstT, fs_app, fs_rev, it_eq, it_l, it_t, it_bl, it_int, it_non, it_str, it_tup, it_lst, it_ins, it_lstT, iu_bl, iu_int, iu_non, iu_str, iu_tup, iu_lst, iu_ins, sb_t, sb_l, y_appi, it_m1, fs_int, runF_eq, bind_ok, opt_some, ↓nxt_nx, ↓nxt_ret, ↓nxt_brk, ↓nxt_cnt, mayO_some, ↓onB_bl, ↓onO_some, blO_bl, ng_int, nt_bl, i_tup, i_lst, l_lst, t_bl, range0, asgT, wipeE, saved, restore, putBack, List.getElem?_cons_zero, List.getElem?_cons_succ, List.set_cons_zero, List.set_cons_succ, List.length_cons, List.length_nil, List.cons_append, List.nil_append, List.replicate_succ, List.replicate_zero, List.getD_cons_zero, List.getD_cons_succ, List.map_nil, List.map_cons, List.any_cons, List.any_nil, Nat.reduceSub, Nat.reduceAdd, Nat.reduceLT, Nat.reduceLeDiff, Nat.zero_add, if_true, ite_true, ite_false, reduceIte, D.own, Bool.false_eq_true, Option.bind_some, Option.map_some, Bool.or_false, Bool.false_or, Bool.not_true, Bool.not_false, decide_true, decide_false, lim, n_add, n_shr, n_and, n_eq, n_ne, n_lt, n_le, n_gt, n_ge, c_isN_non, c_isN_tup, n_sum, n_all, n_any, n_listS, n_lenL, n_lenT, n_intI, n_tupleT, n_tuple, n_list, n_listT, n_allf, n_anyf, n_sumf, nw_I, nw_If, nw_bl, nw_tup, nw_lst, k_ii, k_ib, k_is, k_il, k_it, k_bb, k_bi, k_tt, k_tl, k_ll, k_lt, k_llt, k_tlt, n_inT, n_or, hf, it_eq, pk_lf, it_lf0]
      rw [show List.map (fun k => D.lst false (thI k)) (setsL s T) = ((setsL s T).map fun m => (false, m)).map setD by rw [List.map_map]; rfl]
      rw [s_make F]
      · simp only [rd_non, rd_bl, rd_int, rd_str, rd_scr, rd_tup, rd_lst, rd_ins, rd_tupT, rd_lstT, rd_insT, pk_non, pk_bl, pk_int, pk_str, pk_scr, pk_tup, pk_lst, pk_ins, x_var, x_glo, x_int, x_bl, x_non, x_str, x_bin, x_neg, x_nt, x_an, x_or, x_cmp, x_chn, x_ite, x_tup, x_lst, x_sub, x_subv, x_att, x_attv, x_call, x_bi, x_biv, x_lc, x_mk, x_met, x_isi, x_gcd, x_bln, xs_nil, xs_cons, xa_nil, xa_cons, xa_lend, xr_seq, xr_rng1, xr_rng2, xr_enm, xr_rev, xt_an, xt_or, xt_nt, xt_cmp, xt_chn, xt_tv, xts_nil, xts_one, y_asg, y_exp, y_ret, y_retN, y_ite, y_fr, y_brk, y_cnt, y_pas, y_par, ys_nil, ys_cons, y_unp, y_setv, y_apG, y_app, y_stf, run_nx, run_ret, io_t, io_f, io_n, ln_nil, ln_cons, ln_lend, f_non, f_bl, f_int, f_str, f_tup, f_lst, f_ins, f_tupT, f_lstT, f_insT, fs_nil, fs_cons, fs_I, fs_blf, fs_If, fs_tupf, fs_lstf, fs_lstT, fs_app, fs_rev, it_eq, it_l, it_t, it_bl, it_int, it_non, it_str, it_tup, it_lst, it_ins, it_lstT, iu_bl, iu_int, iu_non, iu_str, iu_tup, iu_lst, iu_ins, sb_t, sb_l, y_appi, it_m1, fs_int, runF_eq, bind_ok, opt_some, ↓nxt_nx, ↓nxt_ret, ↓nxt_brk, ↓nxt_cnt, mayO_some, ↓onB_bl, ↓onO_some, blO_bl, ng_int, nt_bl, i_tup, i_lst, l_lst, t_bl, range0, asgT, wipeE, saved, restore, putBack, List.getElem?_cons_zero, List.getElem?_cons_succ, List.set_cons_zero, List.set_cons_succ, List.length_cons, List.length_nil, List.cons_append, List.nil_append, List.replicate_succ, List.replicate_zero, List.getD_cons_zero, List.getD_cons_succ, List.map_nil, List.map_cons, List.any_cons, List.any_nil, Nat.reduceSub, Nat.reduceAdd, Nat.reduceLT, Nat.reduceLeDiff, Nat.zero_add, if_true, ite_true, ite_false, reduceIte, D.own, Bool.false_eq_true, Option.bind_some, Option.map_some, Bool.or_false, Bool.false_or, Bool.not_true, Bool.not_false, decide_true, decide_false, lim]
      · intro m
        rw [List.map_map, show (List.map ((fun x : Bool × Nat => x.2) ∘ fun m => (false, m)) (setsL s T)) = setsL s T from List.map_id _]
      · simp; omega
  · intro m hm
    have hm2 := lt64 h6 ((sets_mem F).mp hm).1
    refine ⟨_, rfl, ?_⟩
    simp only [rd_non, rd_bl, rd_int, rd_str, rd_scr, rd_tup, rd_lst, rd_ins, rd_tupT, rd_lstT, rd_insT, pk_non, pk_bl, pk_int, pk_str, pk_scr, pk_tup, pk_lst, pk_ins, x_var, x_glo, x_int, x_bl, x_non, x_str, x_bin, x_neg, x_nt, x_an, x_or, x_cmp, x_chn, x_ite, x_tup, x_lst, x_sub, x_subv, x_att, x_attv, x_call, x_bi, x_biv, x_lc, x_mk, x_met, x_isi, x_gcd, x_bln, xs_nil, xs_cons, xa_nil, xa_cons, xa_lend, xr_seq, xr_rng1, xr_rng2, xr_enm, xr_rev, xt_an, xt_or, xt_nt, xt_cmp, xt_chn, xt_tv, xts_nil, xts_one, y_asg, y_exp, y_ret, y_retN, y_ite, y_fr, y_brk, y_cnt, y_pas, y_par, ys_nil, ys_cons, y_unp, y_setv, y_apG, y_app, y_stf, run_nx, run_ret, io_t, io_f, io_n, ln_nil, ln_cons, ln_lend, f_non, f_bl, f_int, f_str, f_tup, f_lst, f_ins, f_tupT, f_lstT, f_insT, fs_nil, fs_cons, fs_I, fs_blf, fs_If, fs_tupf, fs_lstf, fs_lstT, fs_app, fs_rev, it_eq, it_l, it_t, it_bl, it_int, it_non, it_str, it_tup, it_lst, it_ins, it_lstT, iu_bl, iu_int, iu_non, iu_str, iu_tup, iu_lst, iu_ins, sb_t, sb_l, y_appi, it_m1, fs_int, runF_eq, bind_ok, opt_some, ↓nxt_nx, ↓nxt_ret, ↓nxt_brk, ↓nxt_cnt, mayO_some, ↓onB_bl, ↓onO_some, blO_bl, ng_int, nt_bl, i_tup, i_lst, l_lst, t_bl, range0, asgT, wipeE, saved, restore, putBack, List.getElem?_cons_zero, List.getElem?_cons_succ, List.set_cons_zero, List.set_cons_succ, List.length_cons, List.length_nil, List.cons_append, List.nil_append, List.replicate_succ, List.replicate_zero, List.getD_cons_zero, List.getD_cons_succ, List.map_nil, List.map_cons, List.any_cons, List.any_nil, Nat.reduceSub, Nat.reduceAdd, Nat.reduceLT, Nat.reduceLeDiff, Nat.zero_add, if_true, ite_true, ite_false, reduceIte, D.own, Bool.false_eq_true, Option.bind_some, Option.map_some, Bool.or_false, Bool.false_or, Bool.not_true, Bool.not_false, decide_true, decide_false, lim, n_add, n_shr, n_and, n_eq, n_ne, n_lt, n_le, n_gt, n_ge, c_isN_non, c_isN_tup, n_sum, n_all, n_any, n_listS, n_lenL, n_lenT, n_intI, n_tupleT, n_tuple, n_list, n_listT, n_allf, n_anyf, n_sumf, nw_I, nw_If, nw_bl, nw_tup, nw_lst, k_ii, k_ib, k_is, k_il, k_it, k_bb, k_bi, k_tt, k_tl, k_ll, k_lt, k_llt, k_tlt, n_inT, n_or, call1 (s_things hm2)]
    exact gd rfl
  · exact le_lim (by omega)
  · rfl

/-! ### the draws -/
def Feed (n : Nat) (d : D) : Prop := ∃ (m : Bool) (ns : List Int) (a b c : Nat), d = .lst true [.lst m (ns.map D.int), I a, I b, I c] ∧ a ≤ n ∧ c ≤ n
theorem Feed.up {n k : Nat} {d : D} (h : Feed n d) (hk : n ≤ k) : Feed k d := by
  obtain ⟨m, ns, a, b, c, h1, h2, h3⟩ := h
  exact ⟨m, ns, a, b, c, h1, by omega, by omega⟩
theorem pow18 : binD .Pow (I 10) (I 18) = some (.int 1000000000000000000) := by
  simp only [binD]; rw [if_pos (by decide)]; rfl
theorem s_draw {n many : Nat} {d : D} (h : Feed n d) (hn : n ≤ 1000000) (h1 : 1 ≤ many) (h2 : many ≤ 64) : ∃ k d', c__law_draw.sem [d, I many] = .ok (I k) [d'] ∧ k < many ∧ Feed (n + 1) d' := by
  obtain ⟨m, ns, a, b, c, rfl, ha, hc⟩ := h
  have hm0 : 0 < many := by omega
  have hlog : many.log2 < 9000 := by
    have : many.log2 ≤ many := Nat.log2_le_self many
    omega
  by_cases hb : 0 < b
  · refine ⟨b % many, .lst true [.lst m (ns.map D.int), I a, I (b / many), I (c + 1)], ?_, Nat.mod_lt _ hm0, ⟨m, ns, a, b / many, c + 1, rfl, by omega, by omega⟩⟩
    simp only [c__law_draw, b__law_draw, N__law_draw, rd_non, rd_bl, rd_int, rd_str, rd_scr, rd_tup, rd_lst, rd_ins, rd_tupT, rd_lstT, rd_insT, pk_non, pk_bl, pk_int, pk_str, pk_scr, pk_tup, pk_lst, pk_ins, x_var, x_glo, x_int, x_bl, x_non, x_str, x_bin, x_neg, x_nt, x_an, x_or, x_cmp, x_chn, x_ite, x_tup, x_lst, x_sub, x_subv, x_att, x_attv, x_call, x_bi, x_biv, x_lc, x_mk, x_met, x_isi, x_gcd, x_bln, xs_nil, xs_cons, xa_nil, xa_cons, xa_lend, xr_seq, xr_rng1, xr_rng2, xr_enm, xr_rev, xt_an, xt_or, xt_nt, xt_cmp, xt_chn, xt_tv, xts_nil, xts_one, y_asg, y_exp, y_ret, y_retN, y_ite, y_fr, y_brk, y_cnt, y_pas, y_par, ys_nil, ys_cons, y_unp, y_setv, y_apG, y_app, y_stf, run_nx, run_ret, io_t, io_f, io_n, ln_nil, ln_cons, ln_lend, f_non, f_bl, f_int, f_str, f_tup, f_lst, f_ins, f_tupT, f_lstT, f_insT, fs_nil, fs_cons, fs_I, fs_blf, fs_If, fs_tupf, fs_lstf, fs_lstT, fs_app, fs_rev, it_eq, it_l, it_t, it_bl, it_int, it_non, it_str, it_tup, it_lst, it_ins, it_lstT, iu_bl, iu_int, iu_non, iu_str, iu_tup, iu_lst, iu_ins, sb_t, sb_l, y_appi, it_m1, fs_int, runF_eq, bind_ok, opt_some, ↓nxt_nx, ↓nxt_ret, ↓nxt_brk, ↓nxt_cnt, mayO_some, ↓onB_bl, ↓onO_some, blO_bl, ng_int, nt_bl, i_tup, i_lst, l_lst, t_bl, range0, asgT, wipeE, saved, restore, putBack, List.getElem?_cons_zero, List.getElem?_cons_succ, List.set_cons_zero, List.set_cons_succ, List.length_cons, List.length_nil, List.cons_append, List.nil_append, List.replicate_succ, List.replicate_zero, List.getD_cons_zero, List.getD_cons_succ, List.map_nil, List.map_cons, List.any_cons, List.any_nil, Nat.reduceSub, Nat.reduceAdd, Nat.reduceLT, Nat.reduceLeDiff, Nat.zero_add, if_true, ite_true, ite_false, reduceIte, D.own, Bool.false_eq_true, Option.bind_some, Option.map_some, Bool.or_false, Bool.false_or, Bool.not_true, Bool.not_false, decide_true, decide_false, lim, n_add, n_shr, n_and, n_eq, n_ne, n_lt, n_le, n_gt, n_ge, c_isN_non, c_isN_tup, n_sum, n_all, n_any, n_listS, n_lenL, n_lenT, n_intI, n_tupleT, n_tuple, n_list, n_listT, n_allf, n_anyf, n_sumf, nw_I, nw_If, nw_bl, nw_tup, nw_lst, k_ii, k_ib, k_is, k_il, k_it, k_bb, k_bi, k_tt, k_tl, k_ll, k_lt, k_llt, k_tlt, n_inT, n_or, it_eq, setL_ok, hb, n_mod hm0, n_div hm0 hlog]
  · have hb0 : b = 0 := by omega
    subst hb0
    have hmk : ∀ (x : Int) (d' : D), c__law_draw.sem [.lst true [.lst m (ns.map D.int), I a, I 0, I c], I many] = .ok (.int (x % (many : Int))) [d'] → Feed (n + 1) d' → ∃ k d', c__law_draw.sem [.lst true [.lst m (ns.map D.int), I a, I 0, I c], I many] = .ok (I k) [d'] ∧ k < many ∧ Feed (n + 1) d' := fun x d' h hf => by
      have hpos : (0 : Int) < many := by omega
      have q1 := Int.emod_nonneg x (show (many : Int) ≠ 0 by omega)
      have q2 := Int.emod_lt_of_pos x hpos
      refine ⟨(x % (many : Int)).toNat, d', ?_, by omega, hf⟩
      rw [h]; congr 1; show D.int _ = D.int _; congr 1; omega
    have hfeed : ∀ (b : Nat), Feed (n + 1) (.lst true [.lst false (ns.map D.int), I (a + 1), I b, I (c + 1)]) := fun b => ⟨false, ns, a + 1, b, c + 1, rfl, by omega, by omega⟩
    have hmz : (0 : Int) < (many : Int) := by omega
    have hlz : (many : Int).natAbs.log2 < 9000 := by simpa using hlog
    have m1 : ∀ x : Int, binD .Mult (.int x) (I 48271) = some (.int (x * 48271)) := fun x => j_mulR (by decide)
    have m2 : ∀ x : Int, binD .Mult (.int x) (I 69621) = some (.int (x * 69621)) := fun x => j_mulR (by decide)
    have m3 : ∀ x : Int, binD .Mult (.int x) (I 7) = some (.int (x * 7)) := fun x => j_mulR (by decide)
    have m4 : ∀ x : Int, binD .Mult (.int x) (I 16807) = some (.int (x * 16807)) := fun x => j_mulR (by decide)
    have m5 : ∀ x : Int, binD .Mult (.int x) (I 331) = some (.int (x * 331)) := fun x => j_mulR (by decide)
    have m6 : binD .Mult (.int ((c : Int) + ((1 : Nat) : Int))) (.int ((c : Int) + ((1 : Nat) : Int))) = some (.int (((c : Int) + ((1 : Nat) : Int)) * ((c : Int) + ((1 : Nat) : Int)))) := j_mulR (by omega)
    have d1 : ∀ x : Int, binD .Mod (.int x) (I 2147483647) = some (.int (x % 2147483647)) := fun x => j_mod (by decide)
    have d2 : ∀ x : Int, binD .Mod (.int x) (I 998244353) = some (.int (x % 998244353)) := fun x => j_mod (by decide)
    have d3 : ∀ x : Int, binD .FloorDiv (.int x) (I 1009) = some (.int (x / 1009)) := fun x => j_div (by decide) (by decide)
    have d4 : ∀ x : Int, binD .FloorDiv (.int x) (I 8) = some (.int (x / 8)) := fun x => j_div (by decide) (by decide)
    have d5 : ∀ x : Int, binD .Mod (.int x) (I many) = some (.int (x % (many : Int))) := fun x => j_mod hmz
    by_cases hl : 0 < ns.length
    · obtain ⟨z, hz⟩ : ∃ z : Int, (List.map D.int ns)[a % ns.length]? = some (D.int z) := by
        have := Nat.mod_lt a hl
        exact ⟨ns[a % ns.length], by rw [List.getElem?_map, List.getElem?_eq_getElem this]; rfl⟩
      by_cases hbig : (1000000000000000000 : Int) ≤ z ∧ a < ns.length
      · obtain ⟨w, rfl⟩ : ∃ w : Nat, z = (w : Int) := ⟨z.toNat, by omega⟩
        cases m <;> refine ⟨w % many, _, ?_, Nat.mod_lt _ hm0, hfeed (w / many)⟩ <;> simp only [c__law_draw, b__law_draw, N__law_draw, rd_non, rd_bl, rd_int, rd_str, rd_scr, rd_tup, rd_lst, rd_ins, rd_tupT, rd_lstT, rd_insT, pk_non, pk_bl, pk_int, pk_str, pk_scr, pk_tup, pk_lst, pk_ins, x_var, x_glo, x_int, x_bl, x_non, x_str, x_bin, x_neg, x_nt, x_an, x_or, x_cmp, x_chn, x_ite, x_tup, x_lst, x_sub, x_subv, x_att, x_attv, x_call, x_bi, x_biv, x_lc, x_mk, x_met, x_isi, x_gcd, x_bln, xs_nil, xs_cons, xa_nil, xa_cons, xa_lend, xr_seq, xr_rng1, xr_rng2, xr_enm, xr_rev, xt_an, xt_or, xt_nt, xt_cmp, xt_chn, xt_tv, xts_nil, xts_one, y_asg, y_exp, y_ret, y_retN, y_ite, y_fr, y_brk, y_cnt, y_pas, y_par, ys_nil, ys_cons, y_unp, y_setv, y_apG, y_app, y_stf, run_nx, run_ret, io_t, io_f, io_n, ln_nil, ln_cons, ln_lend, f_non, f_bl, f_int, f_str, f_tup, f_lst, f_ins, f_tupT, f_lstT, f_insT, fs_nil, fs_cons, fs_I, fs_blf, fs_If, fs_tupf, fs_lstf, fs_lstT, fs_app, fs_rev, it_eq, it_l, it_t, it_bl, it_int, it_non, it_str, it_tup, it_lst, it_ins, it_lstT, iu_bl, iu_int, iu_non, iu_str, iu_tup, iu_lst, iu_ins, sb_t, sb_l, y_appi, it_m1, fs_int, runF_eq, bind_ok, opt_some, ↓nxt_nx, ↓nxt_ret, ↓nxt_brk, ↓nxt_cnt, mayO_some, ↓onB_bl, ↓onO_some, blO_bl, ng_int, nt_bl, i_tup, i_lst, l_lst, t_bl, range0, asgT, wipeE, saved, restore, putBack, List.getElem?_cons_zero, List.getElem?_cons_succ, List.set_cons_zero, List.set_cons_succ, List.length_cons, List.length_nil, List.cons_append, List.nil_append, List.replicate_succ, List.replicate_zero, List.getD_cons_zero, List.getD_cons_succ, List.map_nil, List.map_cons, List.any_cons, List.any_nil, Nat.reduceSub, Nat.reduceAdd, Nat.reduceLT, Nat.reduceLeDiff, Nat.zero_add, if_true, ite_true, ite_false, reduceIte, D.own, Bool.false_eq_true, Option.bind_some, Option.map_some, Bool.or_false, Bool.false_or, Bool.not_true, Bool.not_false, decide_true, decide_false, lim, n_add, n_shr, n_and, n_eq, n_ne, n_lt, n_le, n_gt, n_ge, c_isN_non, c_isN_tup, n_sum, n_all, n_any, n_listS, n_lenL, n_lenT, n_intI, n_tupleT, n_tuple, n_list, n_listT, n_allf, n_anyf, n_sumf, nw_I, nw_If, nw_bl, nw_tup, nw_lst, k_ii, k_ib, k_is, k_il, k_it, k_bb, k_bi, k_tt, k_tl, k_ll, k_lt, k_llt, k_tlt, n_inT, n_or, it_eq, setL_ok, Nat.lt_irrefl, List.length_map, hl, n_mod hl, hz, pow18, j_ge, hbig.1, hbig.2, n_mod hm0, n_div hm0 hlog]
      · by_cases hbz : (1000000000000000000 : Int) ≤ z
        · have hal : ¬ a < ns.length := fun h => hbig ⟨hbz, h⟩
          cases m <;> exact hmk _ _ (by simp only [c__law_draw, b__law_draw, N__law_draw, rd_non, rd_bl, rd_int, rd_str, rd_scr, rd_tup, rd_lst, rd_ins, rd_tupT, rd_lstT, rd_insT, pk_non, pk_bl, pk_int, pk_str, pk_scr, pk_tup, pk_lst, pk_ins, x_var, x_glo, x_int, x_bl, x_non, x_str, x_bin, x_neg, x_nt, x_an, x_or, x_cmp, x_chn, x_ite, x_tup, x_lst, x_sub, x_subv, x_att, x_attv, x_call, x_bi, x_biv, x_lc, x_mk, x_met, x_isi, x_gcd, x_bln, xs_nil, xs_cons, xa_nil, xa_cons, xa_lend, xr_seq, xr_rng1, xr_rng2, xr_enm, xr_rev, xt_an, xt_or, xt_nt, xt_cmp, xt_chn, xt_tv, xts_nil, xts_one, y_asg, y_exp, y_ret, y_retN, y_ite, y_fr, y_brk, y_cnt, y_pas, y_par, ys_nil, ys_cons, y_unp, y_setv, y_apG, y_app, y_stf, run_nx, run_ret, io_t, io_f, io_n, ln_nil, ln_cons, ln_lend, f_non, f_bl, f_int, f_str, f_tup, f_lst, f_ins, f_tupT, f_lstT, f_insT, fs_nil, fs_cons, fs_I, fs_blf, fs_If, fs_tupf, fs_lstf, fs_lstT, fs_app, fs_rev, it_eq, it_l, it_t, it_bl, it_int, it_non, it_str, it_tup, it_lst, it_ins, it_lstT, iu_bl, iu_int, iu_non, iu_str, iu_tup, iu_lst, iu_ins, sb_t, sb_l, y_appi, it_m1, fs_int, runF_eq, bind_ok, opt_some, ↓nxt_nx, ↓nxt_ret, ↓nxt_brk, ↓nxt_cnt, mayO_some, ↓onB_bl, ↓onO_some, blO_bl, ng_int, nt_bl, i_tup, i_lst, l_lst, t_bl, range0, asgT, wipeE, saved, restore, putBack, List.getElem?_cons_zero, List.getElem?_cons_succ, List.set_cons_zero, List.set_cons_succ, List.length_cons, List.length_nil, List.cons_append, List.nil_append, List.replicate_succ, List.replicate_zero, List.getD_cons_zero, List.getD_cons_succ, List.map_nil, List.map_cons, List.any_cons, List.any_nil, Nat.reduceSub, Nat.reduceAdd, Nat.reduceLT, Nat.reduceLeDiff, Nat.zero_add, if_true, ite_true, ite_false, reduceIte, D.own, Bool.false_eq_true, Option.bind_some, Option.map_some, Bool.or_false, Bool.false_or, Bool.not_true, Bool.not_false, decide_true, decide_false, lim, n_add, n_shr, n_and, n_eq, n_ne, n_lt, n_le, n_gt, n_ge, c_isN_non, c_isN_tup, n_sum, n_all, n_any, n_listS, n_lenL, n_lenT, n_intI, n_tupleT, n_tuple, n_list, n_listT, n_allf, n_anyf, n_sumf, nw_I, nw_If, nw_bl, nw_tup, nw_lst, k_ii, k_ib, k_is, k_il, k_it, k_bb, k_bi, k_tt, k_tl, k_ll, k_lt, k_llt, k_tlt, n_inT, n_or, it_eq, setL_ok, Nat.lt_irrefl, List.length_map, hl, n_mod hl, hz, pow18, j_ge, hbz, hal, m1, m2, m3, m4, m5, m6, d1, d2, d3, d4, d5, j_add]; rfl) (hfeed 0)
        · cases m <;> exact hmk _ _ (by simp only [c__law_draw, b__law_draw, N__law_draw, rd_non, rd_bl, rd_int, rd_str, rd_scr, rd_tup, rd_lst, rd_ins, rd_tupT, rd_lstT, rd_insT, pk_non, pk_bl, pk_int, pk_str, pk_scr, pk_tup, pk_lst, pk_ins, x_var, x_glo, x_int, x_bl, x_non, x_str, x_bin, x_neg, x_nt, x_an, x_or, x_cmp, x_chn, x_ite, x_tup, x_lst, x_sub, x_subv, x_att, x_attv, x_call, x_bi, x_biv, x_lc, x_mk, x_met, x_isi, x_gcd, x_bln, xs_nil, xs_cons, xa_nil, xa_cons, xa_lend, xr_seq, xr_rng1, xr_rng2, xr_enm, xr_rev, xt_an, xt_or, xt_nt, xt_cmp, xt_chn, xt_tv, xts_nil, xts_one, y_asg, y_exp, y_ret, y_retN, y_ite, y_fr, y_brk, y_cnt, y_pas, y_par, ys_nil, ys_cons, y_unp, y_setv, y_apG, y_app, y_stf, run_nx, run_ret, io_t, io_f, io_n, ln_nil, ln_cons, ln_lend, f_non, f_bl, f_int, f_str, f_tup, f_lst, f_ins, f_tupT, f_lstT, f_insT, fs_nil, fs_cons, fs_I, fs_blf, fs_If, fs_tupf, fs_lstf, fs_lstT, fs_app, fs_rev, it_eq, it_l, it_t, it_bl, it_int, it_non, it_str, it_tup, it_lst, it_ins, it_lstT, iu_bl, iu_int, iu_non, iu_str, iu_tup, iu_lst, iu_ins, sb_t, sb_l, y_appi, it_m1, fs_int, runF_eq, bind_ok, opt_some, ↓nxt_nx, ↓nxt_ret, ↓nxt_brk, ↓nxt_cnt, mayO_some, ↓onB_bl, ↓onO_some, blO_bl, ng_int, nt_bl, i_tup, i_lst, l_lst, t_bl, range0, asgT, wipeE, saved, restore, putBack, List.getElem?_cons_zero, List.getElem?_cons_succ, List.set_cons_zero, List.set_cons_succ, List.length_cons, List.length_nil, List.cons_append, List.nil_append, List.replicate_succ, List.replicate_zero, List.getD_cons_zero, List.getD_cons_succ, List.map_nil, List.map_cons, List.any_cons, List.any_nil, Nat.reduceSub, Nat.reduceAdd, Nat.reduceLT, Nat.reduceLeDiff, Nat.zero_add, if_true, ite_true, ite_false, reduceIte, D.own, Bool.false_eq_true, Option.bind_some, Option.map_some, Bool.or_false, Bool.false_or, Bool.not_true, Bool.not_false, decide_true, decide_false, lim, n_add, n_shr, n_and, n_eq, n_ne, n_lt, n_le, n_gt, n_ge, c_isN_non, c_isN_tup, n_sum, n_all, n_any, n_listS, n_lenL, n_lenT, n_intI, n_tupleT, n_tuple, n_list, n_listT, n_allf, n_anyf, n_sumf, nw_I, nw_If, nw_bl, nw_tup, nw_lst, k_ii, k_ib, k_is, k_il, k_it, k_bb, k_bi, k_tt, k_tl, k_ll, k_lt, k_llt, k_tlt, n_inT, n_or, it_eq, setL_ok, Nat.lt_irrefl, List.length_map, hl, n_mod hl, hz, pow18, j_ge, hbz, m1, m2, m3, m4, m5, m6, d1, d2, d3, d4, d5, j_add]; rfl) (hfeed 0)
    · have hz : ¬ (1000000000000000000 : Int) ≤ ((0 : Nat) : Int) := by omega
      cases m <;> exact hmk _ _ (by simp only [c__law_draw, b__law_draw, N__law_draw, rd_non, rd_bl, rd_int, rd_str, rd_scr, rd_tup, rd_lst, rd_ins, rd_tupT, rd_lstT, rd_insT, pk_non, pk_bl, pk_int, pk_str, pk_scr, pk_tup, pk_lst, pk_ins, x_var, x_glo, x_int, x_bl, x_non, x_str, x_bin, x_neg, x_nt, x_an, x_or, x_cmp, x_chn, x_ite, x_tup, x_lst, x_sub, x_subv, x_att, x_attv, x_call, x_bi, x_biv, x_lc, x_mk, x_met, x_isi, x_gcd, x_bln, xs_nil, xs_cons, xa_nil, xa_cons, xa_lend, xr_seq, xr_rng1, xr_rng2, xr_enm, xr_rev, xt_an, xt_or, xt_nt, xt_cmp, xt_chn, xt_tv, xts_nil, xts_one, y_asg, y_exp, y_ret, y_retN, y_ite, y_fr, y_brk, y_cnt, y_pas, y_par, ys_nil, ys_cons, y_unp, y_setv, y_apG, y_app, y_stf, run_nx, run_ret, io_t, io_f, io_n, ln_nil, ln_cons, ln_lend, f_non, f_bl, f_int, f_str, f_tup, f_lst, f_ins, f_tupT, f_lstT, f_insT, fs_nil, fs_cons, fs_I, fs_blf, fs_If, fs_tupf, fs_lstf, fs_lstT, fs_app, fs_rev, it_eq, it_l, it_t, it_bl, it_int, it_non, it_str, it_tup, it_lst, it_ins, it_lstT, iu_bl, iu_int, iu_non, iu_str, iu_tup, iu_lst, iu_ins, sb_t, sb_l, y_appi, it_m1, fs_int, runF_eq, bind_ok, opt_some, ↓nxt_nx, ↓nxt_ret, ↓nxt_brk, ↓nxt_cnt, mayO_some, ↓onB_bl, ↓onO_some, blO_bl, ng_int, nt_bl, i_tup, i_lst, l_lst, t_bl, range0, asgT, wipeE, saved, restore, putBack, List.getElem?_cons_zero, List.getElem?_cons_succ, List.set_cons_zero, List.set_cons_succ, List.length_cons, List.length_nil, List.cons_append, List.nil_append, List.replicate_succ, List.replicate_zero, List.getD_cons_zero, List.getD_cons_succ, List.map_nil, List.map_cons, List.any_cons, List.any_nil, Nat.reduceSub, Nat.reduceAdd, Nat.reduceLT, Nat.reduceLeDiff, Nat.zero_add, if_true, ite_true, ite_false, reduceIte, D.own, Bool.false_eq_true, Option.bind_some, Option.map_some, Bool.or_false, Bool.false_or, Bool.not_true, Bool.not_false, decide_true, decide_false, lim, n_add, n_shr, n_and, n_eq, n_ne, n_lt, n_le, n_gt, n_ge, c_isN_non, c_isN_tup, n_sum, n_all, n_any, n_listS, n_lenL, n_lenT, n_intI, n_tupleT, n_tuple, n_list, n_listT, n_allf, n_anyf, n_sumf, nw_I, nw_If, nw_bl, nw_tup, nw_lst, k_ii, k_ib, k_is, k_il, k_it, k_bb, k_bi, k_tt, k_tl, k_ll, k_lt, k_llt, k_tlt, n_inT, n_or, it_eq, setL_ok, Nat.lt_irrefl, List.length_map, hl, pow18, j_ge, hz, m1, m2, m3, m4, m5, m6, d1, d2, d3, d4, d5, j_add]; rfl) (hfeed 0)
end
end K36

/-! ## P8 -/
set_option maxRecDepth 100000
set_option maxHeartbeats 4000000
namespace K36
open PySem PySem.Spec PyProof.Rows L2 VS
section
variable {s : Nat} {T : Nat → Bool} {env : En} {m : Bool} {i : Nat}
theorem Feed.pk {n : Nat} {d : D} (h : Feed n d) : pkO (some d) = some d := by obtain ⟨_, _, _, _, _, rfl, _⟩ := h; rfl
def Qsz (n most : Nat) (o : Out) : Prop := ∃ s d', o = .ok (I s) [d'] ∧ 1 ≤ s ∧ s ≤ most ∧ Feed n d'
theorem s_size {n most : Nat} {d : D} (hF : Feed n d) (hn : n ≤ 1000) (h1 : 3 ≤ most) (h6 : most ≤ 6) : Qsz (n + 2) most (c__law_size.sem [d, I most]) := by
  obtain ⟨k, d1, e1, hk, F1⟩ := s_draw hF (by omega) (show 1 ≤ most by omega) (by omega)
  obtain ⟨k2, d2, e2, hk2, F2⟩ := s_draw F1 (by omega) (show 1 ≤ 2 by omega) (by omega)
  have hm2 : 2 < most := by omega
  simp only [c__law_size, b__law_size, N__law_size, rd_non, rd_bl, rd_int, rd_str, rd_scr, rd_tup, rd_lst, rd_ins, rd_tupT, rd_lstT, rd_insT, pk_non, pk_bl, pk_int, pk_str, pk_scr, pk_tup, pk_lst, pk_ins, x_var, x_glo, x_int, x_bl, x_non, x_str, x_bin, x_neg, x_nt, x_an, x_or, x_cmp, x_chn, x_ite, x_tup, x_lst, x_sub, x_subv, x_att, x_attv, x_call, x_bi, x_biv, x_lc, x_mk, x_met, x_isi, x_gcd, x_bln, xs_nil, xs_cons, xa_nil, xa_cons, xa_lend, xr_seq, xr_rng1, xr_rng2, xr_enm, xr_rev, xt_an, xt_or, xt_nt, xt_cmp, xt_chn, xt_tv, xts_nil, xts_one, y_asg, y_exp, y_ret, y_retN, y_ite, y_fr, y_brk, y_cnt, y_pas, y_par, ys_nil, ys_cons, y_unp, y_setv, y_apG, y_app, y_stf, run_nx, run_ret, io_t, io_f, io_n, ln_nil, ln_cons, ln_lend, f_non, f_bl, f_int, f_str, f_tup, f_lst, f_ins, f_tupT, f_lstT, f_insT, fs_nil, fs_cons, fs_I, fs_blf, fs_If, fs_tupf, fs_lstf, fs_lstT, fs_app, fs_rev, it_eq, it_l, it_t, it_bl, it_int, it_non, it_str, it_tup, it_lst, it_ins, it_lstT, iu_bl, iu_int, iu_non, iu_str, iu_tup, iu_lst, iu_ins, sb_t, sb_l, y_appi, it_m1, fs_int, runF_eq, bind_ok, opt_some, ↓nxt_nx, ↓nxt_ret, ↓nxt_brk, ↓nxt_cnt, mayO_some, ↓onB_bl, ↓onO_some, blO_bl, ng_int, nt_bl, i_tup, i_lst, l_lst, t_bl, range0, asgT, wipeE, saved, restore, putBack, List.getElem?_cons_zero, List.getElem?_cons_succ, List.set_cons_zero, List.set_cons_succ, List.length_cons, List.length_nil, List.cons_append, List.nil_append, List.replicate_succ, List.replicate_zero, List.getD_cons_zero, List.getD_cons_succ, List.map_nil, List.map_cons, List.any_cons, List.any_nil, Nat.reduceSub, Nat.reduceAdd, Nat.reduceLT, Nat.reduceLeDiff, Nat.zero_add, if_true, ite_true, ite_false, reduceIte, D.own, Bool.false_eq_true, Option.bind_some, Option.map_some, Bool.or_false, Bool.false_or, Bool.not_true, Bool.not_false, decide_true, decide_false, lim, n_add, n_shr, n_and, n_eq, n_ne, n_lt, n_le, n_gt, n_ge, c_isN_non, c_isN_tup, n_sum, n_all, n_any, n_listS, n_lenL, n_lenT, n_intI, n_tupleT, n_tuple, n_list, n_listT, n_allf, n_anyf, n_sumf, nw_I, nw_If, nw_bl, nw_tup, nw_lst, k_ii, k_ib, k_is, k_il, k_it, k_bb, k_bi, k_tt, k_tl, k_ll, k_lt, k_llt, k_tlt, n_inT, n_or, hF.pk, callL2 e1]
  by_cases hs : 1 + k < 3
  · by_cases hz : k2 = 1
    · simp only [rd_non, rd_bl, rd_int, rd_str, rd_scr, rd_tup, rd_lst, rd_ins, rd_tupT, rd_lstT, rd_insT, pk_non, pk_bl, pk_int, pk_str, pk_scr, pk_tup, pk_lst, pk_ins, x_var, x_glo, x_int, x_bl, x_non, x_str, x_bin, x_neg, x_nt, x_an, x_or, x_cmp, x_chn, x_ite, x_tup, x_lst, x_sub, x_subv, x_att, x_attv, x_call, x_bi, x_biv, x_lc, x_mk, x_met, x_isi, x_gcd, x_bln, xs_nil, xs_cons, xa_nil, xa_cons, xa_lend, xr_seq, xr_rng1, xr_rng2, xr_enm, xr_rev, xt_an, xt_or, xt_nt, xt_cmp, xt_chn, xt_tv, xts_nil, xts_one, y_asg, y_exp, y_ret, y_retN, y_ite, y_fr, y_brk, y_cnt, y_pas, y_par, ys_nil, ys_cons, y_unp, y_setv, y_apG, y_app, y_stf, run_nx, run_ret, io_t, io_f, io_n, ln_nil, ln_cons, ln_lend, f_non, f_bl, f_int, f_str, f_tup, f_lst, f_ins, f_tupT, f_lstT, f_insT, fs_nil, fs_cons, fs_I, fs_blf, fs_If, fs_tupf, fs_lstf, fs_lstT, fs_app, fs_rev, it_eq, it_l, it_t, it_bl, it_int, it_non, it_str, it_tup, it_lst, it_ins, it_lstT, iu_bl, iu_int, iu_non, iu_str, iu_tup, iu_lst, iu_ins, sb_t, sb_l, y_appi, it_m1, fs_int, runF_eq, bind_ok, opt_some, ↓nxt_nx, ↓nxt_ret, ↓nxt_brk, ↓nxt_cnt, mayO_some, ↓onB_bl, ↓onO_some, blO_bl, ng_int, nt_bl, i_tup, i_lst, l_lst, t_bl, range0, asgT, wipeE, saved, restore, putBack, List.getElem?_cons_zero, List.getElem?_cons_succ, List.set_cons_zero, List.set_cons_succ, List.length_cons, List.length_nil, List.cons_append, List.nil_append, List.replicate_succ, List.replicate_zero, List.getD_cons_zero, List.getD_cons_succ, List.map_nil, List.map_cons, List.any_cons, List.any_nil, Nat.reduceSub, Nat.reduceAdd, Nat.reduceLT, Nat.reduceLeDiff, Nat.zero_add, if_true, ite_true, ite_false, reduceIte, D.own, Bool.false_eq_true, Option.bind_some, Option.map_some, Bool.or_false, Bool.false_or, Bool.not_true, Bool.not_false, decide_true, decide_false, lim, n_add, n_shr, n_and, n_eq, n_ne, n_lt, n_le, n_gt, n_ge, c_isN_non, c_isN_tup, n_sum, n_all, n_any, n_listS, n_lenL, n_lenT, n_intI, n_tupleT, n_tuple, n_list, n_listT, n_allf, n_anyf, n_sumf, nw_I, nw_If, nw_bl, nw_tup, nw_lst, k_ii, k_ib, k_is, k_il, k_it, k_bb, k_bi, k_tt, k_tl, k_ll, k_lt, k_llt, k_tlt, n_inT, n_or, F1.pk, callL2 e2, hs, hz, hm2]
      exact ⟨3, d2, rfl, by omega, by omega, F2⟩
    · simp only [rd_non, rd_bl, rd_int, rd_str, rd_scr, rd_tup, rd_lst, rd_ins, rd_tupT, rd_lstT, rd_insT, pk_non, pk_bl, pk_int, pk_str, pk_scr, pk_tup, pk_lst, pk_ins, x_var, x_glo, x_int, x_bl, x_non, x_str, x_bin, x_neg, x_nt, x_an, x_or, x_cmp, x_chn, x_ite, x_tup, x_lst, x_sub, x_subv, x_att, x_attv, x_call, x_bi, x_biv, x_lc, x_mk, x_met, x_isi, x_gcd, x_bln, xs_nil, xs_cons, xa_nil, xa_cons, xa_lend, xr_seq, xr_rng1, xr_rng2, xr_enm, xr_rev, xt_an, xt_or, xt_nt, xt_cmp, xt_chn, xt_tv, xts_nil, xts_one, y_asg, y_exp, y_ret, y_retN, y_ite, y_fr, y_brk, y_cnt, y_pas, y_par, ys_nil, ys_cons, y_unp, y_setv, y_apG, y_app, y_stf, run_nx, run_ret, io_t, io_f, io_n, ln_nil, ln_cons, ln_lend, f_non, f_bl, f_int, f_str, f_tup, f_lst, f_ins, f_tupT, f_lstT, f_insT, fs_nil, fs_cons, fs_I, fs_blf, fs_If, fs_tupf, fs_lstf, fs_lstT, fs_app, fs_rev, it_eq, it_l, it_t, it_bl, it_int, it_non, it_str, it_tup, it_lst, it_ins, it_lstT, iu_bl, iu_int, iu_non, iu_str, iu_tup, iu_lst, iu_ins, sb_t, sb_l, y_appi, it_m1, fs_int, runF_eq, bind_ok, opt_some, ↓nxt_nx, ↓nxt_ret, ↓nxt_brk, ↓nxt_cnt, mayO_some, ↓onB_bl, ↓onO_some, blO_bl, ng_int, nt_bl, i_tup, i_lst, l_lst, t_bl, range0, asgT, wipeE, saved, restore, putBack, List.getElem?_cons_zero, List.getElem?_cons_succ, List.set_cons_zero, List.set_cons_succ, List.length_cons, List.length_nil, List.cons_append, List.nil_append, List.replicate_succ, List.replicate_zero, List.getD_cons_zero, List.getD_cons_succ, List.map_nil, List.map_cons, List.any_cons, List.any_nil, Nat.reduceSub, Nat.reduceAdd, Nat.reduceLT, Nat.reduceLeDiff, Nat.zero_add, if_true, ite_true, ite_false, reduceIte, D.own, Bool.false_eq_true, Option.bind_some, Option.map_some, Bool.or_false, Bool.false_or, Bool.not_true, Bool.not_false, decide_true, decide_false, lim, n_add, n_shr, n_and, n_eq, n_ne, n_lt, n_le, n_gt, n_ge, c_isN_non, c_isN_tup, n_sum, n_all, n_any, n_listS, n_lenL, n_lenT, n_intI, n_tupleT, n_tuple, n_list, n_listT, n_allf, n_anyf, n_sumf, nw_I, nw_If, nw_bl, nw_tup, nw_lst, k_ii, k_ib, k_is, k_il, k_it, k_bb, k_bi, k_tt, k_tl, k_ll, k_lt, k_llt, k_tlt, n_inT, n_or, F1.pk, callL2 e2, hs, hz, hm2]
      exact ⟨1 + k, d2, rfl, by omega, by omega, F2⟩
  · simp only [rd_non, rd_bl, rd_int, rd_str, rd_scr, rd_tup, rd_lst, rd_ins, rd_tupT, rd_lstT, rd_insT, pk_non, pk_bl, pk_int, pk_str, pk_scr, pk_tup, pk_lst, pk_ins, x_var, x_glo, x_int, x_bl, x_non, x_str, x_bin, x_neg, x_nt, x_an, x_or, x_cmp, x_chn, x_ite, x_tup, x_lst, x_sub, x_subv, x_att, x_attv, x_call, x_bi, x_biv, x_lc, x_mk, x_met, x_isi, x_gcd, x_bln, xs_nil, xs_cons, xa_nil, xa_cons, xa_lend, xr_seq, xr_rng1, xr_rng2, xr_enm, xr_rev, xt_an, xt_or, xt_nt, xt_cmp, xt_chn, xt_tv, xts_nil, xts_one, y_asg, y_exp, y_ret, y_retN, y_ite, y_fr, y_brk, y_cnt, y_pas, y_par, ys_nil, ys_cons, y_unp, y_setv, y_apG, y_app, y_stf, run_nx, run_ret, io_t, io_f, io_n, ln_nil, ln_cons, ln_lend, f_non, f_bl, f_int, f_str, f_tup, f_lst, f_ins, f_tupT, f_lstT, f_insT, fs_nil, fs_cons, fs_I, fs_blf, fs_If, fs_tupf, fs_lstf, fs_lstT, fs_app, fs_rev, it_eq, it_l, it_t, it_bl, it_int, it_non, it_str, it_tup, it_lst, it_ins, it_lstT, iu_bl, iu_int, iu_non, iu_str, iu_tup, iu_lst, iu_ins, sb_t, sb_l, y_appi, it_m1, fs_int, runF_eq, bind_ok, opt_some, ↓nxt_nx, ↓nxt_ret, ↓nxt_brk, ↓nxt_cnt, mayO_some, ↓onB_bl, ↓onO_some, blO_bl, ng_int, nt_bl, i_tup, i_lst, l_lst, t_bl, range0, asgT, wipeE, saved, restore, putBack, List.getElem?_cons_zero, List.getElem?_cons_succ, List.set_cons_zero, List.set_cons_succ, List.length_cons, List.length_nil, List.cons_append, List.nil_append, List.replicate_succ, List.replicate_zero, List.getD_cons_zero, List.getD_cons_succ, List.map_nil, List.map_cons, List.any_cons, List.any_nil, Nat.reduceSub, Nat.reduceAdd, Nat.reduceLT, Nat.reduceLeDiff, Nat.zero_add, if_true, ite_true, ite_false, reduceIte, D.own, Bool.false_eq_true, Option.bind_some, Option.map_some, Bool.or_false, Bool.false_or, Bool.not_true, Bool.not_false, decide_true, decide_false, lim, n_add, n_shr, n_and, n_eq, n_ne, n_lt, n_le, n_gt, n_ge, c_isN_non, c_isN_tup, n_sum, n_all, n_any, n_listS, n_lenL, n_lenT, n_intI, n_tupleT, n_tuple, n_list, n_listT, n_allf, n_anyf, n_sumf, nw_I, nw_If, nw_bl, nw_tup, nw_lst, k_ii, k_ib, k_is, k_il, k_it, k_bb, k_bi, k_tt, k_tl, k_ll, k_lt, k_llt, k_tlt, n_inT, n_or, hs]
    exact ⟨1 + k, d1, rfl, by omega, by omega, F1.up (by omega)⟩
theorem tab_congr {T T' : Nat → Bool} (h : ∀ m, m < 2 ^ s → T m = T' m) : tabL s T = tabL s T' := by
  unfold tabL
  exact List.map_congr_left fun m hm => by rw [h m (List.mem_range.mp hm)]
theorem tab_set {m : Nat} {b : Bool} (h : m < 2 ^ s) : (tabL s T).set m (.bl b) = tabL s (fun j => if j = m then b else T j) := by
  apply List.ext_getElem?
  intro j
  by_cases hj : j < 2 ^ s
  · rw [tab_get hj]
    by_cases e : m = j
    · subst e
      rw [List.getElem?_set_self (by rw [tab_len]; exact h)]; simp
    · have e' : ¬ j = m := fun z => e z.symm
      rw [List.getElem?_set_ne e, tab_get hj]; simp [e']
  · rw [List.getElem?_eq_none (by rw [List.length_set, tab_len]; omega), List.getElem?_eq_none (by rw [tab_len]; omega)]
theorem tab_setL {m x : Nat} {d : D} {e : En} (h : m < 2 ^ s) : setL (some (.lst true (tabL s T))) (I m) d x e = .ok .nx (e.set x (.lst true ((tabL s T).set m d))) := setL_ok (by rw [tab_len]; exact h)
/-- a family's table, the feed behind it -/
def Qtab (s n : Nat) (o : Out) : Prop := ∃ f T d', o = .ok (.lst f (tabL s T)) [d'] ∧ Fam s T ∧ Feed n d'
theorem sub_trans {p m t : Nat} (h1 : sub p m = true) (h2 : sub m t = true) : sub p t = true := by
  unfold sub at *
  have h1 := beq_iff_eq.mp h1
  have h2 := beq_iff_eq.mp h2
  apply beq_iff_eq.mpr
  rw [← h1, Nat.and_assoc, h2]
theorem sub_zero {p : Nat} (h : sub p 0 = true) : p = 0 := by
  unfold sub at h
  have := beq_iff_eq.mp h
  simpa using this.symm
theorem Fam.eq0 (h1 : 1 ≤ s) (h6 : s ≤ 6) : Fam s (fun m => decide (m = 0)) :=
  ⟨h1, h6, rfl, fun p m _ h hs => by have := of_decide_eq_true h; subst this; exact decide_eq_true (sub_zero hs)⟩
theorem Fam.sub (h1 : 1 ≤ s) (h6 : s ≤ 6) (t : Nat) : Fam s (fun m => K36.sub m t) := ⟨h1, h6, by simp [K36.sub], fun p m _ h hs => sub_trans hs h⟩
theorem Fam.or {T T' : Nat → Bool} (F : Fam s T) (F' : Fam s T') : Fam s (fun m => T m || T' m) :=
  ⟨F.h1, F.h6, by simp [F.zero], fun p m hm h hs => by
    rcases Bool.or_eq_true _ _ ▸ h with h | h
    · simp [F.down p m hm h hs]
    · simp [F'.down p m hm h hs]⟩
theorem and64 {a b : Nat} (h : a < 64) : a &&& b < 64 := Nat.lt_of_le_of_lt Nat.and_le_left h
theorem s_tops {n : Nat} {d : D} (hF : Feed n d) (hn : n ≤ 1000) (h1 : 1 ≤ s) (h6 : s ≤ 6) : Qtab s (n + 4) (c__law_by_tops.sem [d, I s]) := by
  have p64 := pow64 h6
  obtain ⟨k, d1, e1, hk, F1⟩ := s_draw hF (by omega) (show 1 ≤ 3 by omega) (by omega)
  simp only [c__law_by_tops, b__law_by_tops, N__law_by_tops, rd_non, rd_bl, rd_int, rd_str, rd_scr, rd_tup, rd_lst, rd_ins, rd_tupT, rd_lstT, rd_insT, pk_non, pk_bl, pk_int, pk_str, pk_scr, pk_tup, pk_lst, pk_ins, x_var, x_glo, x_int, x_bl, x_non, x_str, x_bin, x_neg, x_nt, x_an, x_or, x_cmp, x_chn, x_ite, x_tup, x_lst, x_sub, x_subv, x_att, x_attv, x_call, x_bi, x_biv, x_lc, x_mk, x_met, x_isi, x_gcd, x_bln, xs_nil, xs_cons, xa_nil, xa_cons, xa_lend, xr_seq, xr_rng1, xr_rng2, xr_enm, xr_rev, xt_an, xt_or, xt_nt, xt_cmp, xt_chn, xt_tv, xts_nil, xts_one, y_asg, y_exp, y_ret, y_retN, y_ite, y_fr, y_brk, y_cnt, y_pas, y_par, ys_nil, ys_cons, y_unp, y_setv, y_apG, y_app, y_stf, run_nx, run_ret, io_t, io_f, io_n, ln_nil, ln_cons, ln_lend, f_non, f_bl, f_int, f_str, f_tup, f_lst, f_ins, f_tupT, f_lstT, f_insT, fs_nil, fs_cons, fs_I, fs_blf, fs_If, fs_tupf, fs_lstf, fs_lstT, fs_app, fs_rev, it_eq, it_l, it_t, it_bl, it_int, it_non, it_str, it_tup, it_lst, it_ins, it_lstT, iu_bl, iu_int, iu_non, iu_str, iu_tup, iu_lst, iu_ins, sb_t, sb_l, y_appi, it_m1, fs_int, runF_eq, bind_ok, opt_some, ↓nxt_nx, ↓nxt_ret, ↓nxt_brk, ↓nxt_cnt, mayO_some, ↓onB_bl, ↓onO_some, blO_bl, ng_int, nt_bl, i_tup, i_lst, l_lst, t_bl, range0, asgT, wipeE, saved, restore, putBack, List.getElem?_cons_zero, List.getElem?_cons_succ, List.set_cons_zero, List.set_cons_succ, List.length_cons, List.length_nil, List.cons_append, List.nil_append, List.replicate_succ, List.replicate_zero, List.getD_cons_zero, List.getD_cons_succ, List.map_nil, List.map_cons, List.any_cons, List.any_nil, Nat.reduceSub, Nat.reduceAdd, Nat.reduceLT, Nat.reduceLeDiff, Nat.zero_add, if_true, ite_true, ite_false, reduceIte, D.own, Bool.false_eq_true, Option.bind_some, Option.map_some, Bool.or_false, Bool.false_or, Bool.not_true, Bool.not_false, decide_true, decide_false, lim, n_add, n_shr, n_and, n_eq, n_ne, n_lt, n_le, n_gt, n_ge, c_isN_non, c_isN_tup, n_sum, n_all, n_any, n_listS, n_lenL, n_lenT, n_intI, n_tupleT, n_tuple, n_list, n_listT, n_allf, n_anyf, n_sumf, nw_I, nw_If, nw_bl, nw_tup, nw_lst, k_ii, k_ib, k_is, k_il, k_it, k_bb, k_bi, k_tt, k_tl, k_ll, k_lt, k_llt, k_tlt, n_inT, n_or, shl6 h6, rg_I (show 2 ^ s < 2 ^ 62 by omega)]
  rw [lcR_map (f := fun m => .bl (decide (m = 0)))]
  · rw [show (List.range (2 ^ s)).map (fun m => D.bl (decide (m = 0))) = tabL s (fun m => decide (m = 0)) from rfl]
    simp only [rd_non, rd_bl, rd_int, rd_str, rd_scr, rd_tup, rd_lst, rd_ins, rd_tupT, rd_lstT, rd_insT, pk_non, pk_bl, pk_int, pk_str, pk_scr, pk_tup, pk_lst, pk_ins, x_var, x_glo, x_int, x_bl, x_non, x_str, x_bin, x_neg, x_nt, x_an, x_or, x_cmp, x_chn, x_ite, x_tup, x_lst, x_sub, x_subv, x_att, x_attv, x_call, x_bi, x_biv, x_lc, x_mk, x_met, x_isi, x_gcd, x_bln, xs_nil, xs_cons, xa_nil, xa_cons, xa_lend, xr_seq, xr_rng1, xr_rng2, xr_enm, xr_rev, xt_an, xt_or, xt_nt, xt_cmp, xt_chn, xt_tv, xts_nil, xts_one, y_asg, y_exp, y_ret, y_retN, y_ite, y_fr, y_brk, y_cnt, y_pas, y_par, ys_nil, ys_cons, y_unp, y_setv, y_apG, y_app, y_stf, run_nx, run_ret, io_t, io_f, io_n, ln_nil, ln_cons, ln_lend, f_non, f_bl, f_int, f_str, f_tup, f_lst, f_ins, f_tupT, f_lstT, f_insT, fs_nil, fs_cons, fs_I, fs_blf, fs_If, fs_tupf, fs_lstf, fs_lstT, fs_app, fs_rev, it_eq, it_l, it_t, it_bl, it_int, it_non, it_str, it_tup, it_lst, it_ins, it_lstT, iu_bl, iu_int, iu_non, iu_str, iu_tup, iu_lst, iu_ins, sb_t, sb_l, y_appi, it_m1, fs_int, runF_eq, bind_ok, opt_some, ↓nxt_nx, ↓nxt_ret, ↓nxt_brk, ↓nxt_cnt, mayO_some, ↓onB_bl, ↓onO_some, blO_bl, ng_int, nt_bl, i_tup, i_lst, l_lst, t_bl, range0, asgT, wipeE, saved, restore, putBack, List.getElem?_cons_zero, List.getElem?_cons_succ, List.set_cons_zero, List.set_cons_succ, List.length_cons, List.length_nil, List.cons_append, List.nil_append, List.replicate_succ, List.replicate_zero, List.getD_cons_zero, List.getD_cons_succ, List.map_nil, List.map_cons, List.any_cons, List.any_nil, Nat.reduceSub, Nat.reduceAdd, Nat.reduceLT, Nat.reduceLeDiff, Nat.zero_add, if_true, ite_true, ite_false, reduceIte, D.own, Bool.false_eq_true, Option.bind_some, Option.map_some, Bool.or_false, Bool.false_or, Bool.not_true, Bool.not_false, decide_true, decide_false, lim, n_add, n_shr, n_and, n_eq, n_ne, n_lt, n_le, n_gt, n_ge, c_isN_non, c_isN_tup, n_sum, n_all, n_any, n_listS, n_lenL, n_lenT, n_intI, n_tupleT, n_tuple, n_list, n_listT, n_allf, n_anyf, n_sumf, nw_I, nw_If, nw_bl, nw_tup, nw_lst, k_ii, k_ib, k_is, k_il, k_it, k_bb, k_bi, k_tt, k_tl, k_ll, k_lt, k_llt, k_tlt, n_inT, n_or, hF.pk, callL2 e1, rg_I (show 1 + k < 2 ^ 62 by omega)]
    refine run_forQ (Q := Qtab s (n + 4)) (P := fun pre e => ∃ T d x4 x5, Feed (n + 1 + pre.length) d ∧ Fam s T ∧ e = [d, I s, .lst true (tabL s T), .hole, x4, x5]) (fun t env pre ht hp he => ?_) ⟨_, _, _, _, F1, Fam.eq0 h1 h6, rfl⟩ fun e he => ?_
    · obtain ⟨T, d2, x4, x5, F2, FT, rfl⟩ := he
      have hl := pre_len hp
      rw [List.length_range] at hl
      obtain ⟨top, d3, e3, htop, F3⟩ := s_draw F2 (by omega) (show 1 ≤ 2 ^ s from Nat.two_pow_pos s) (by omega)
      refine ⟨_, rfl, ?_⟩
      simp only [rd_non, rd_bl, rd_int, rd_str, rd_scr, rd_tup, rd_lst, rd_ins, rd_tupT, rd_lstT, rd_insT, pk_non, pk_bl, pk_int, pk_str, pk_scr, pk_tup, pk_lst, pk_ins, x_var, x_glo, x_int, x_bl, x_non, x_str, x_bin, x_neg, x_nt, x_an, x_or, x_cmp, x_chn, x_ite, x_tup, x_lst, x_sub, x_subv, x_att, x_attv, x_call, x_bi, x_biv, x_lc, x_mk, x_met, x_isi, x_gcd, x_bln, xs_nil, xs_cons, xa_nil, xa_cons, xa_lend, xr_seq, xr_rng1, xr_rng2, xr_enm, xr_rev, xt_an, xt_or, xt_nt, xt_cmp, xt_chn, xt_tv, xts_nil, xts_one, y_asg, y_exp, y_ret, y_retN, y_ite, y_fr, y_brk, y_cnt, y_pas, y_par, ys_nil, ys_cons, y_unp, y_setv, y_apG, y_app, y_stf, run_nx, run_ret, io_t, io_f, io_n, ln_nil, ln_cons, ln_lend, f_non, f_bl, f_int, f_str, f_tup, f_lst, f_ins, f_tupT, f_lstT, f_insT, fs_nil, fs_cons, fs_I, fs_blf, fs_If, fs_tupf, fs_lstf, fs_lstT, fs_app, fs_rev, it_eq, it_l, it_t, it_bl, it_int, it_non, it_str, it_tup, it_lst, it_ins, it_lstT, iu_bl, iu_int, iu_non, iu_str, iu_tup, iu_lst, iu_ins, sb_t, sb_l, y_appi, it_m1, fs_int, runF_eq, bind_ok, opt_some, ↓nxt_nx, ↓nxt_ret, ↓nxt_brk, ↓nxt_cnt, mayO_some, ↓onB_bl, ↓onO_some, blO_bl, ng_int, nt_bl, i_tup, i_lst, l_lst, t_bl, range0, asgT, wipeE, saved, restore, putBack, List.getElem?_cons_zero, List.getElem?_cons_succ, List.set_cons_zero, List.set_cons_succ, List.length_cons, List.length_nil, List.cons_append, List.nil_append, List.replicate_succ, List.replicate_zero, List.getD_cons_zero, List.getD_cons_succ, List.map_nil, List.map_cons, List.any_cons, List.any_nil, Nat.reduceSub, Nat.reduceAdd, Nat.reduceLT, Nat.reduceLeDiff, Nat.zero_add, if_true, ite_true, ite_false, reduceIte, D.own, Bool.false_eq_true, Option.bind_some, Option.map_some, Bool.or_false, Bool.false_or, Bool.not_true, Bool.not_false, decide_true, decide_false, lim, n_add, n_shr, n_and, n_eq, n_ne, n_lt, n_le, n_gt, n_ge, c_isN_non, c_isN_tup, n_sum, n_all, n_any, n_listS, n_lenL, n_lenT, n_intI, n_tupleT, n_tuple, n_list, n_listT, n_allf, n_anyf, n_sumf, nw_I, nw_If, nw_bl, nw_tup, nw_lst, k_ii, k_ib, k_is, k_il, k_it, k_bb, k_bi, k_tt, k_tl, k_ll, k_lt, k_llt, k_tlt, n_inT, n_or, F2.pk, shl6 h6, callL2 e3, rg_I (show 2 ^ s < 2 ^ 62 by omega)]
      rw [lcR_map (f := fun m => .bl (T m || K36.sub m top))]
      · simp only [rd_non, rd_bl, rd_int, rd_str, rd_scr, rd_tup, rd_lst, rd_ins, rd_tupT, rd_lstT, rd_insT, pk_non, pk_bl, pk_int, pk_str, pk_scr, pk_tup, pk_lst, pk_ins, x_var, x_glo, x_int, x_bl, x_non, x_str, x_bin, x_neg, x_nt, x_an, x_or, x_cmp, x_chn, x_ite, x_tup, x_lst, x_sub, x_subv, x_att, x_attv, x_call, x_bi, x_biv, x_lc, x_mk, x_met, x_isi, x_gcd, x_bln, xs_nil, xs_cons, xa_nil, xa_cons, xa_lend, xr_seq, xr_rng1, xr_rng2, xr_enm, xr_rev, xt_an, xt_or, xt_nt, xt_cmp, xt_chn, xt_tv, xts_nil, xts_one, y_asg, y_exp, y_ret, y_retN, y_ite, y_fr, y_brk, y_cnt, y_pas, y_par, ys_nil, ys_cons, y_unp, y_setv, y_apG, y_app, y_stf, run_nx, run_ret, io_t, io_f, io_n, ln_nil, ln_cons, ln_lend, f_non, f_bl, f_int, f_str, f_tup, f_lst, f_ins, f_tupT, f_lstT, f_insT, fs_nil, fs_cons, fs_I, fs_blf, fs_If, fs_tupf, fs_lstf, fs_lstT, fs_app, fs_rev, it_eq, it_l, it_t, it_bl, it_int, it_non, it_str, it_tup, it_lst, it_ins, it_lstT, iu_bl, iu_int, iu_non, iu_str, iu_tup, iu_lst, iu_ins, sb_t, sb_l, y_appi, it_m1, fs_int, runF_eq, bind_ok, opt_some, ↓nxt_nx, ↓nxt_ret, ↓nxt_brk, ↓nxt_cnt, mayO_some, ↓onB_bl, ↓onO_some, blO_bl, ng_int, nt_bl, i_tup, i_lst, l_lst, t_bl, range0, asgT, wipeE, saved, restore, putBack, List.getElem?_cons_zero, List.getElem?_cons_succ, List.set_cons_zero, List.set_cons_succ, List.length_cons, List.length_nil, List.cons_append, List.nil_append, List.replicate_succ, List.replicate_zero, List.getD_cons_zero, List.getD_cons_succ, List.map_nil, List.map_cons, List.any_cons, List.any_nil, Nat.reduceSub, Nat.reduceAdd, Nat.reduceLT, Nat.reduceLeDiff, Nat.zero_add, if_true, ite_true, ite_false, reduceIte, D.own, Bool.false_eq_true, Option.bind_some, Option.map_some, Bool.or_false, Bool.false_or, Bool.not_true, Bool.not_false, decide_true, decide_false, lim, n_add, n_shr, n_and, n_eq, n_ne, n_lt, n_le, n_gt, n_ge, c_isN_non, c_isN_tup, n_sum, n_all, n_any, n_listS, n_lenL, n_lenT, n_intI, n_tupleT, n_tuple, n_list, n_listT, n_allf, n_anyf, n_sumf, nw_I, nw_If, nw_bl, nw_tup, nw_lst, k_ii, k_ib, k_is, k_il, k_it, k_bb, k_bi, k_tt, k_tl, k_ll, k_lt, k_llt, k_tlt, n_inT, n_or]
        exact gs ⟨_, _, _, _, by rw [List.length_append]; exact F3, FT.or (Fam.sub h1 h6 top), rfl⟩
      · intro m hm
        have hm2 := List.mem_range.mp hm
        refine ⟨_, rfl, ?_⟩
        cases hT : T m with
        | true =>
          simp only [rd_non, rd_bl, rd_int, rd_str, rd_scr, rd_tup, rd_lst, rd_ins, rd_tupT, rd_lstT, rd_insT, pk_non, pk_bl, pk_int, pk_str, pk_scr, pk_tup, pk_lst, pk_ins, x_var, x_glo, x_int, x_bl, x_non, x_str, x_bin, x_neg, x_nt, x_an, x_or, x_cmp, x_chn, x_ite, x_tup, x_lst, x_sub, x_subv, x_att, x_attv, x_call, x_bi, x_biv, x_lc, x_mk, x_met, x_isi, x_gcd, x_bln, xs_nil, xs_cons, xa_nil, xa_cons, xa_lend, xr_seq, xr_rng1, xr_rng2, xr_enm, xr_rev, xt_an, xt_or, xt_nt, xt_cmp, xt_chn, xt_tv, xts_nil, xts_one, y_asg, y_exp, y_ret, y_retN, y_ite, y_fr, y_brk, y_cnt, y_pas, y_par, ys_nil, ys_cons, y_unp, y_setv, y_apG, y_app, y_stf, run_nx, run_ret, io_t, io_f, io_n, ln_nil, ln_cons, ln_lend, f_non, f_bl, f_int, f_str, f_tup, f_lst, f_ins, f_tupT, f_lstT, f_insT, fs_nil, fs_cons, fs_I, fs_blf, fs_If, fs_tupf, fs_lstf, fs_lstT, fs_app, fs_rev, it_eq, it_l, it_t, it_bl, it_int, it_non, it_str, it_tup, it_lst, it_ins, it_lstT, iu_bl, iu_int, iu_non, iu_str, iu_tup, iu_lst, iu_ins, sb_t, sb_l, y_appi, it_m1, fs_int, runF_eq, bind_ok, opt_some, ↓nxt_nx, ↓nxt_ret, ↓nxt_brk, ↓nxt_cnt, mayO_some, ↓onB_bl, ↓onO_some, blO_bl, ng_int, nt_bl, i_tup, i_lst, l_lst, t_bl, range0, asgT, wipeE, saved, restore, putBack, List.getElem?_cons_zero, List.getElem?_cons_succ, List.set_cons_zero, List.set_cons_succ, List.length_cons, List.length_nil, List.cons_append, List.nil_append, List.replicate_succ, List.replicate_zero, List.getD_cons_zero, List.getD_cons_succ, List.map_nil, List.map_cons, List.any_cons, List.any_nil, Nat.reduceSub, Nat.reduceAdd, Nat.reduceLT, Nat.reduceLeDiff, Nat.zero_add, if_true, ite_true, ite_false, reduceIte, D.own, Bool.false_eq_true, Option.bind_some, Option.map_some, Bool.or_false, Bool.false_or, Bool.not_true, Bool.not_false, decide_true, decide_false, lim, n_add, n_shr, n_and, n_eq, n_ne, n_lt, n_le, n_gt, n_ge, c_isN_non, c_isN_tup, n_sum, n_all, n_any, n_listS, n_lenL, n_lenT, n_intI, n_tupleT, n_tuple, n_list, n_listT, n_allf, n_anyf, n_sumf, nw_I, nw_If, nw_bl, nw_tup, nw_lst, k_ii, k_ib, k_is, k_il, k_it, k_bb, k_bi, k_tt, k_tl, k_ll, k_lt, k_llt, k_tlt, n_inT, n_or, it_eq, tab_get hm2, hT, Bool.true_or]
          exact gd rfl
        | false =>
          simp only [rd_non, rd_bl, rd_int, rd_str, rd_scr, rd_tup, rd_lst, rd_ins, rd_tupT, rd_lstT, rd_insT, pk_non, pk_bl, pk_int, pk_str, pk_scr, pk_tup, pk_lst, pk_ins, x_var, x_glo, x_int, x_bl, x_non, x_str, x_bin, x_neg, x_nt, x_an, x_or, x_cmp, x_chn, x_ite, x_tup, x_lst, x_sub, x_subv, x_att, x_attv, x_call, x_bi, x_biv, x_lc, x_mk, x_met, x_isi, x_gcd, x_bln, xs_nil, xs_cons, xa_nil, xa_cons, xa_lend, xr_seq, xr_rng1, xr_rng2, xr_enm, xr_rev, xt_an, xt_or, xt_nt, xt_cmp, xt_chn, xt_tv, xts_nil, xts_one, y_asg, y_exp, y_ret, y_retN, y_ite, y_fr, y_brk, y_cnt, y_pas, y_par, ys_nil, ys_cons, y_unp, y_setv, y_apG, y_app, y_stf, run_nx, run_ret, io_t, io_f, io_n, ln_nil, ln_cons, ln_lend, f_non, f_bl, f_int, f_str, f_tup, f_lst, f_ins, f_tupT, f_lstT, f_insT, fs_nil, fs_cons, fs_I, fs_blf, fs_If, fs_tupf, fs_lstf, fs_lstT, fs_app, fs_rev, it_eq, it_l, it_t, it_bl, it_int, it_non, it_str, it_tup, it_lst, it_ins, it_lstT, iu_bl, iu_int, iu_non, iu_str, iu_tup, iu_lst, iu_ins, sb_t, sb_l, y_appi, it_m1, fs_int, runF_eq, bind_ok, opt_some, ↓nxt_nx, ↓nxt_ret, ↓nxt_brk, ↓nxt_cnt, mayO_some, ↓onB_bl, ↓onO_some, blO_bl, ng_int, nt_bl, i_tup, i_lst, l_lst, t_bl, range0, asgT, wipeE, saved, restore, putBack, List.getElem?_cons_zero, List.getElem?_cons_succ, List.set_cons_zero, List.set_cons_succ, List.length_cons, List.length_nil, List.cons_append, List.nil_append, List.replicate_succ, List.replicate_zero, List.getD_cons_zero, List.getD_cons_succ, List.map_nil, List.map_cons, List.any_cons, List.any_nil, Nat.reduceSub, Nat.reduceAdd, Nat.reduceLT, Nat.reduceLeDiff, Nat.zero_add, if_true, ite_true, ite_false, reduceIte, D.own, Bool.false_eq_true, Option.bind_some, Option.map_some, Bool.or_false, Bool.false_or, Bool.not_true, Bool.not_false, decide_true, decide_false, lim, n_add, n_shr, n_and, n_eq, n_ne, n_lt, n_le, n_gt, n_ge, c_isN_non, c_isN_tup, n_sum, n_all, n_any, n_listS, n_lenL, n_lenT, n_intI, n_tupleT, n_tuple, n_list, n_listT, n_allf, n_anyf, n_sumf, nw_I, nw_If, nw_bl, nw_tup, nw_lst, k_ii, k_ib, k_is, k_il, k_it, k_bb, k_bi, k_tt, k_tl, k_ll, k_lt, k_llt, k_tlt, n_inT, n_or, it_eq, tab_get hm2, hT, sub_dec]
          exact gd rfl
      · exact le_lim (by simp; omega)
      · rfl
    · obtain ⟨T, d2, x4, x5, F2, FT, rfl⟩ := he
      simp only [rd_non, rd_bl, rd_int, rd_str, rd_scr, rd_tup, rd_lst, rd_ins, rd_tupT, rd_lstT, rd_insT, pk_non, pk_bl, pk_int, pk_str, pk_scr, pk_tup, pk_lst, pk_ins, x_var, x_glo, x_int, x_bl, x_non, x_str, x_bin, x_neg, x_nt, x_an, x_or, x_cmp, x_chn, x_ite, x_tup, x_lst, x_sub, x_subv, x_att, x_attv, x_call, x_bi, x_biv, x_lc, x_mk, x_met, x_isi, x_gcd, x_bln, xs_nil, xs_cons, xa_nil, xa_cons, xa_lend, xr_seq, xr_rng1, xr_rng2, xr_enm, xr_rev, xt_an, xt_or, xt_nt, xt_cmp, xt_chn, xt_tv, xts_nil, xts_one, y_asg, y_exp, y_ret, y_retN, y_ite, y_fr, y_brk, y_cnt, y_pas, y_par, ys_nil, ys_cons, y_unp, y_setv, y_apG, y_app, y_stf, run_nx, run_ret, io_t, io_f, io_n, ln_nil, ln_cons, ln_lend, f_non, f_bl, f_int, f_str, f_tup, f_lst, f_ins, f_tupT, f_lstT, f_insT, fs_nil, fs_cons, fs_I, fs_blf, fs_If, fs_tupf, fs_lstf, fs_lstT, fs_app, fs_rev, it_eq, it_l, it_t, it_bl, it_int, it_non, it_str, it_tup, it_lst, it_ins, it_lstT, iu_bl, iu_int, iu_non, iu_str, iu_tup, iu_lst, iu_ins, sb_t, sb_l, y_appi, it_m1, fs_int, runF_eq, bind_ok, opt_some, ↓nxt_nx, ↓nxt_ret, ↓nxt_brk, ↓nxt_cnt, mayO_some, ↓onB_bl, ↓onO_some, blO_bl, ng_int, nt_bl, i_tup, i_lst, l_lst, t_bl, range0, asgT, wipeE, saved, restore, putBack, List.getElem?_cons_zero, List.getElem?_cons_succ, List.set_cons_zero, List.set_cons_succ, List.length_cons, List.length_nil, List.cons_append, List.nil_append, List.replicate_succ, List.replicate_zero, List.getD_cons_zero, List.getD_cons_succ, List.map_nil, List.map_cons, List.any_cons, List.any_nil, Nat.reduceSub, Nat.reduceAdd, Nat.reduceLT, Nat.reduceLeDiff, Nat.zero_add, if_true, ite_true, ite_false, reduceIte, D.own, Bool.false_eq_true, Option.bind_some, Option.map_some, Bool.or_false, Bool.false_or, Bool.not_true, Bool.not_false, decide_true, decide_false, lim, n_add, n_shr, n_and, n_eq, n_ne, n_lt, n_le, n_gt, n_ge, c_isN_non, c_isN_tup, n_sum, n_all, n_any, n_listS, n_lenL, n_lenT, n_intI, n_tupleT, n_tuple, n_list, n_listT, n_allf, n_anyf, n_sumf, nw_I, nw_If, nw_bl, nw_tup, nw_lst, k_ii, k_ib, k_is, k_il, k_it, k_bb, k_bi, k_tt, k_tl, k_ll, k_lt, k_llt, k_tlt, n_inT, n_or]
      rw [List.length_range] at F2
      exact ⟨_, T, d2, by rw [tab_frz], FT, F2.up (by omega)⟩
  · intro m hm
    refine ⟨_, rfl, ?_⟩
    simp only [rd_non, rd_bl, rd_int, rd_str, rd_scr, rd_tup, rd_lst, rd_ins, rd_tupT, rd_lstT, rd_insT, pk_non, pk_bl, pk_int, pk_str, pk_scr, pk_tup, pk_lst, pk_ins, x_var, x_glo, x_int, x_bl, x_non, x_str, x_bin, x_neg, x_nt, x_an, x_or, x_cmp, x_chn, x_ite, x_tup, x_lst, x_sub, x_subv, x_att, x_attv, x_call, x_bi, x_biv, x_lc, x_mk, x_met, x_isi, x_gcd, x_bln, xs_nil, xs_cons, xa_nil, xa_cons, xa_lend, xr_seq, xr_rng1, xr_rng2, xr_enm, xr_rev, xt_an, xt_or, xt_nt, xt_cmp, xt_chn, xt_tv, xts_nil, xts_one, y_asg, y_exp, y_ret, y_retN, y_ite, y_fr, y_brk, y_cnt, y_pas, y_par, ys_nil, ys_cons, y_unp, y_setv, y_apG, y_app, y_stf, run_nx, run_ret, io_t, io_f, io_n, ln_nil, ln_cons, ln_lend, f_non, f_bl, f_int, f_str, f_tup, f_lst, f_ins, f_tupT, f_lstT, f_insT, fs_nil, fs_cons, fs_I, fs_blf, fs_If, fs_tupf, fs_lstf, fs_lstT, fs_app, fs_rev, it_eq, it_l, it_t, it_bl, it_int, it_non, it_str, it_tup, it_lst, it_ins, it_lstT, iu_bl, iu_int, iu_non, iu_str, iu_tup, iu_lst, iu_ins, sb_t, sb_l, y_appi, it_m1, fs_int, runF_eq, bind_ok, opt_some, ↓nxt_nx, ↓nxt_ret, ↓nxt_brk, ↓nxt_cnt, mayO_some, ↓onB_bl, ↓onO_some, blO_bl, ng_int, nt_bl, i_tup, i_lst, l_lst, t_bl, range0, asgT, wipeE, saved, restore, putBack, List.getElem?_cons_zero, List.getElem?_cons_succ, List.set_cons_zero, List.set_cons_succ, List.length_cons, List.length_nil, List.cons_append, List.nil_append, List.replicate_succ, List.replicate_zero, List.getD_cons_zero, List.getD_cons_succ, List.map_nil, List.map_cons, List.any_cons, List.any_nil, Nat.reduceSub, Nat.reduceAdd, Nat.reduceLT, Nat.reduceLeDiff, Nat.zero_add, if_true, ite_true, ite_false, reduceIte, D.own, Bool.false_eq_true, Option.bind_some, Option.map_some, Bool.or_false, Bool.false_or, Bool.not_true, Bool.not_false, decide_true, decide_false, lim, n_add, n_shr, n_and, n_eq, n_ne, n_lt, n_le, n_gt, n_ge, c_isN_non, c_isN_tup, n_sum, n_all, n_any, n_listS, n_lenL, n_lenT, n_intI, n_tupleT, n_tuple, n_list, n_listT, n_allf, n_anyf, n_sumf, nw_I, nw_If, nw_bl, nw_tup, nw_lst, k_ii, k_ib, k_is, k_il, k_it, k_bb, k_bi, k_tt, k_tl, k_ll, k_lt, k_llt, k_tlt, n_inT, n_or]
    exact gd rfl
  · exact le_lim (by simp; omega)
  · rfl
/-- numbers drawn into a list -/
theorem lc_draws {n many j c : Nat} {d : D} {rest : List D} (hF : Feed n d) (hn : n + c ≤ 1000) (h1 : 1 ≤ many) (h2 : many ≤ 64) (hj : j < rest.length) :
    ∃ (l : List Nat) (d' : D), lcR (.call c__law_draw (.lend 0 (.cons (nI many) .nil))) (.nm (j + 1)) .nil [j + 1] ((List.range c).map I) (d :: rest) = .ok (.lst true (l.map I)) (d' :: rest) ∧ l.length = c ∧ (∀ x ∈ l, x < many) ∧ Feed (n + c) d' := by
  have hset : (rest.set j .hole).set j (rest.getD j .hole) = rest := by
    rw [List.set_set, List.getD_eq_getElem?_getD, List.getElem?_eq_getElem hj]
    simp
  obtain ⟨ds, e, q1, l, d', rfl, rfl, q2, q3, q4⟩ := lcR_inv (elt := .call c__law_draw (.lend 0 (.cons (nI many) .nil))) (g := .nm (j + 1)) (own := [j + 1]) (x := I) (xs := List.range c) (env := d :: rest)
    (P := fun pre e ds => ∃ (l : List Nat) (d' : D), e = d' :: rest.set j .hole ∧ ds = l.map I ∧ l.length = pre.length ∧ (∀ x ∈ l, x < many) ∧ Feed (n + pre.length) d') (fun a env acc pre ha hpr hp => by
      obtain ⟨l, d', rfl, rfl, q2, q3, q4⟩ := hp
      have hl := pre_len hpr
      rw [List.length_range] at hl
      obtain ⟨k, d2, e2, hk, F2⟩ := s_draw q4 (by omega) h1 h2
      refine ⟨d' :: (rest.set j .hole).set j (I a), ?_, ?_⟩
      · show (if _ then _ else _) = _
        rw [if_pos (by simp; omega)]; rfl
      · simp only [rd_non, rd_bl, rd_int, rd_str, rd_scr, rd_tup, rd_lst, rd_ins, rd_tupT, rd_lstT, rd_insT, pk_non, pk_bl, pk_int, pk_str, pk_scr, pk_tup, pk_lst, pk_ins, x_var, x_glo, x_int, x_bl, x_non, x_str, x_bin, x_neg, x_nt, x_an, x_or, x_cmp, x_chn, x_ite, x_tup, x_lst, x_sub, x_subv, x_att, x_attv, x_call, x_bi, x_biv, x_lc, x_mk, x_met, x_isi, x_gcd, x_bln, xs_nil, xs_cons, xa_nil, xa_cons, xa_lend, xr_seq, xr_rng1, xr_rng2, xr_enm, xr_rev, xt_an, xt_or, xt_nt, xt_cmp, xt_chn, xt_tv, xts_nil, xts_one, y_asg, y_exp, y_ret, y_retN, y_ite, y_fr, y_brk, y_cnt, y_pas, y_par, ys_nil, ys_cons, y_unp, y_setv, y_apG, y_app, y_stf, run_nx, run_ret, io_t, io_f, io_n, ln_nil, ln_cons, ln_lend, f_non, f_bl, f_int, f_str, f_tup, f_lst, f_ins, f_tupT, f_lstT, f_insT, fs_nil, fs_cons, fs_I, fs_blf, fs_If, fs_tupf, fs_lstf, fs_lstT, fs_app, fs_rev, it_eq, it_l, it_t, it_bl, it_int, it_non, it_str, it_tup, it_lst, it_ins, it_lstT, iu_bl, iu_int, iu_non, iu_str, iu_tup, iu_lst, iu_ins, sb_t, sb_l, y_appi, it_m1, fs_int, runF_eq, bind_ok, opt_some, ↓nxt_nx, ↓nxt_ret, ↓nxt_brk, ↓nxt_cnt, mayO_some, ↓onB_bl, ↓onO_some, blO_bl, ng_int, nt_bl, i_tup, i_lst, l_lst, t_bl, range0, asgT, wipeE, saved, restore, putBack, List.getElem?_cons_zero, List.getElem?_cons_succ, List.set_cons_zero, List.set_cons_succ, List.length_cons, List.length_nil, List.cons_append, List.nil_append, List.replicate_succ, List.replicate_zero, List.getD_cons_zero, List.getD_cons_succ, List.map_nil, List.map_cons, List.any_cons, List.any_nil, Nat.reduceSub, Nat.reduceAdd, Nat.reduceLT, Nat.reduceLeDiff, Nat.zero_add, if_true, ite_true, ite_false, reduceIte, D.own, Bool.false_eq_true, Option.bind_some, Option.map_some, Bool.or_false, Bool.false_or, Bool.not_true, Bool.not_false, decide_true, decide_false, lim, n_add, n_shr, n_and, n_eq, n_ne, n_lt, n_le, n_gt, n_ge, c_isN_non, c_isN_tup, n_sum, n_all, n_any, n_listS, n_lenL, n_lenT, n_intI, n_tupleT, n_tuple, n_list, n_listT, n_allf, n_anyf, n_sumf, nw_I, nw_If, nw_bl, nw_tup, nw_lst, k_ii, k_ib, k_is, k_il, k_it, k_bb, k_bi, k_tt, k_tl, k_ll, k_lt, k_llt, k_tlt, n_inT, n_or, q4.pk, callL2 e2]
        refine ge ⟨l ++ [k], d2, ?_, by simp, by simp [q2], fun x hx => ?_, by rw [List.length_append]; exact F2⟩
        · simp only [List.set_cons_succ, List.set_set]
        · rcases List.mem_append.mp hx with h | h
          · exact q3 x h
          · simp at h; omega) (le_lim (by simp; omega)) ⟨[], d, by simp, rfl, rfl, by simp, hF⟩
  rw [List.length_range] at q2 q4
  refine ⟨l, d', ?_, q2, q3, q4⟩
  rw [q1]
  simp only [saved, restore, List.getD_cons_succ, List.set_cons_succ, hset]

theorem popc_mono {p m o : Nat} (hp : p < 64) (hm : m < 64) (h : K36.sub p m = true) : cnt (p &&& o) ≤ cnt (m &&& o) := by
  have h2 : K36.sub (p &&& o) (m &&& o) = true := by
    unfold K36.sub at *
    have := beq_iff_eq.mp h
    apply beq_iff_eq.mpr
    rw [show p &&& o &&& (m &&& o) = (p &&& m) &&& (o &&& o) by rw [Nat.and_assoc, Nat.and_assoc, ← Nat.and_assoc o m o, Nat.and_comm o m, Nat.and_assoc m o o], this, Nat.and_self]
  have := all64x (f := fun p m => !K36.sub p m || decide (cnt p ≤ cnt m)) (by decide +kernel) (and64 (b := o) hp) (and64 (b := o) hm)
  simpa [h2] using this
theorem Fam.cls (h1 : 1 ≤ s) (h6 : s ≤ 6) {T : Nat → Bool} (F : Fam s T) (o l : Nat) : Fam s (fun m => T m && decide (cnt (m &&& o) ≤ l)) :=
  ⟨h1, h6, by rw [F.zero, Nat.zero_and, show cnt 0 = 0 from by decide]; simp, fun p m hm h hs => by
    rw [Bool.and_eq_true] at h
    have hp : T p = true := F.down p m hm h.1 hs
    have hp64 : p < 64 := by
      have e := beq_iff_eq.mp (show (p &&& m == p) = true from hs)
      have := Nat.and_le_right (n := p) (m := m)
      have := lt64 h6 hm
      omega
    have := popc_mono (o := o) hp64 (lt64 h6 hm) hs
    have h3 := of_decide_eq_true h.2
    rw [hp, Bool.true_and]
    exact decide_eq_true (by omega)⟩
/-- the things whose owner is as asked -/
def own (s : Nat) (p : Nat → Bool) : Nat := (((List.range s).filter p).map (2 ^ ·)).sum
theorem own_lt (h : s ≤ 6) (p : Nat → Bool) : own s p < 64 := by unfold own; rw [range_six h]; exact (sum_thg _).2
theorem get_I {l : List Nat} {k : Nat} (h : k < l.length) : (l.map I)[k]? = some (I (l.getD k 0)) := get_D h
theorem s_classes {n : Nat} {d : D} (hF : Feed n d) (hn : n ≤ 900) (h1 : 1 ≤ s) (h6 : s ≤ 6) : Qtab s (n + 9) (c__law_by_classes.sem [d, I s]) := by
  have p64 := pow64 h6
  obtain ⟨ow, d1, e1, w1, w2, F1⟩ := lc_draws (c := s) (many := 3) (j := 2) (rest := [I s, .hole, .hole, .hole, .hole, .hole, .hole, .hole, .hole]) hF (by omega) (by decide) (by decide) (by simp)
  obtain ⟨li, d2, e2, v1, v2, F2⟩ := lc_draws (c := 3) (many := 4) (j := 4) (rest := [I s, .lst true (ow.map I), .hole, .hole, .hole, .hole, .hole, .hole, .hole]) F1 (by omega) (by decide) (by decide) (by simp)
  simp only [c__law_by_classes, b__law_by_classes, N__law_by_classes, rd_non, rd_bl, rd_int, rd_str, rd_scr, rd_tup, rd_lst, rd_ins, rd_tupT, rd_lstT, rd_insT, pk_non, pk_bl, pk_int, pk_str, pk_scr, pk_tup, pk_lst, pk_ins, x_var, x_glo, x_int, x_bl, x_non, x_str, x_bin, x_neg, x_nt, x_an, x_or, x_cmp, x_chn, x_ite, x_tup, x_lst, x_sub, x_subv, x_att, x_attv, x_call, x_bi, x_biv, x_lc, x_mk, x_met, x_isi, x_gcd, x_bln, xs_nil, xs_cons, xa_nil, xa_cons, xa_lend, xr_seq, xr_rng1, xr_rng2, xr_enm, xr_rev, xt_an, xt_or, xt_nt, xt_cmp, xt_chn, xt_tv, xts_nil, xts_one, y_asg, y_exp, y_ret, y_retN, y_ite, y_fr, y_brk, y_cnt, y_pas, y_par, ys_nil, ys_cons, y_unp, y_setv, y_apG, y_app, y_stf, run_nx, run_ret, io_t, io_f, io_n, ln_nil, ln_cons, ln_lend, f_non, f_bl, f_int, f_str, f_tup, f_lst, f_ins, f_tupT, f_lstT, f_insT, fs_nil, fs_cons, fs_I, fs_blf, fs_If, fs_tupf, fs_lstf, fs_lstT, fs_app, fs_rev, it_eq, it_l, it_t, it_bl, it_int, it_non, it_str, it_tup, it_lst, it_ins, it_lstT, iu_bl, iu_int, iu_non, iu_str, iu_tup, iu_lst, iu_ins, sb_t, sb_l, y_appi, it_m1, fs_int, runF_eq, bind_ok, opt_some, ↓nxt_nx, ↓nxt_ret, ↓nxt_brk, ↓nxt_cnt, mayO_some, ↓onB_bl, ↓onO_some, blO_bl, ng_int, nt_bl, i_tup, i_lst, l_lst, t_bl, range0, asgT, wipeE, saved, restore, putBack, List.getElem?_cons_zero, List.getElem?_cons_succ, List.set_cons_zero, List.set_cons_succ, List.length_cons, List.length_nil, List.cons_append, List.nil_append, List.replicate_succ, List.replicate_zero, List.getD_cons_zero, List.getD_cons_succ, List.map_nil, List.map_cons, List.any_cons, List.any_nil, Nat.reduceSub, Nat.reduceAdd, Nat.reduceLT, Nat.reduceLeDiff, Nat.zero_add, if_true, ite_true, ite_false, reduceIte, D.own, Bool.false_eq_true, Option.bind_some, Option.map_some, Bool.or_false, Bool.false_or, Bool.not_true, Bool.not_false, decide_true, decide_false, lim, n_add, n_shr, n_and, n_eq, n_ne, n_lt, n_le, n_gt, n_ge, c_isN_non, c_isN_tup, n_sum, n_all, n_any, n_listS, n_lenL, n_lenT, n_intI, n_tupleT, n_tuple, n_list, n_listT, n_allf, n_anyf, n_sumf, nw_I, nw_If, nw_bl, nw_tup, nw_lst, k_ii, k_ib, k_is, k_il, k_it, k_bb, k_bi, k_tt, k_tl, k_ll, k_lt, k_llt, k_tlt, n_inT, n_or, shl6 h6, rg_I (show s < 2 ^ 62 by omega)]
  rw [e1]
  simp only [rd_non, rd_bl, rd_int, rd_str, rd_scr, rd_tup, rd_lst, rd_ins, rd_tupT, rd_lstT, rd_insT, pk_non, pk_bl, pk_int, pk_str, pk_scr, pk_tup, pk_lst, pk_ins, x_var, x_glo, x_int, x_bl, x_non, x_str, x_bin, x_neg, x_nt, x_an, x_or, x_cmp, x_chn, x_ite, x_tup, x_lst, x_sub, x_subv, x_att, x_attv, x_call, x_bi, x_biv, x_lc, x_mk, x_met, x_isi, x_gcd, x_bln, xs_nil, xs_cons, xa_nil, xa_cons, xa_lend, xr_seq, xr_rng1, xr_rng2, xr_enm, xr_rev, xt_an, xt_or, xt_nt, xt_cmp, xt_chn, xt_tv, xts_nil, xts_one, y_asg, y_exp, y_ret, y_retN, y_ite, y_fr, y_brk, y_cnt, y_pas, y_par, ys_nil, ys_cons, y_unp, y_setv, y_apG, y_app, y_stf, run_nx, run_ret, io_t, io_f, io_n, ln_nil, ln_cons, ln_lend, f_non, f_bl, f_int, f_str, f_tup, f_lst, f_ins, f_tupT, f_lstT, f_insT, fs_nil, fs_cons, fs_I, fs_blf, fs_If, fs_tupf, fs_lstf, fs_lstT, fs_app, fs_rev, it_eq, it_l, it_t, it_bl, it_int, it_non, it_str, it_tup, it_lst, it_ins, it_lstT, iu_bl, iu_int, iu_non, iu_str, iu_tup, iu_lst, iu_ins, sb_t, sb_l, y_appi, it_m1, fs_int, runF_eq, bind_ok, opt_some, ↓nxt_nx, ↓nxt_ret, ↓nxt_brk, ↓nxt_cnt, mayO_some, ↓onB_bl, ↓onO_some, blO_bl, ng_int, nt_bl, i_tup, i_lst, l_lst, t_bl, range0, asgT, wipeE, saved, restore, putBack, List.getElem?_cons_zero, List.getElem?_cons_succ, List.set_cons_zero, List.set_cons_succ, List.length_cons, List.length_nil, List.cons_append, List.nil_append, List.replicate_succ, List.replicate_zero, List.getD_cons_zero, List.getD_cons_succ, List.map_nil, List.map_cons, List.any_cons, List.any_nil, Nat.reduceSub, Nat.reduceAdd, Nat.reduceLT, Nat.reduceLeDiff, Nat.zero_add, if_true, ite_true, ite_false, reduceIte, D.own, Bool.false_eq_true, Option.bind_some, Option.map_some, Bool.or_false, Bool.false_or, Bool.not_true, Bool.not_false, decide_true, decide_false, lim, n_add, n_shr, n_and, n_eq, n_ne, n_lt, n_le, n_gt, n_ge, c_isN_non, c_isN_tup, n_sum, n_all, n_any, n_listS, n_lenL, n_lenT, n_intI, n_tupleT, n_tuple, n_list, n_listT, n_allf, n_anyf, n_sumf, nw_I, nw_If, nw_bl, nw_tup, nw_lst, k_ii, k_ib, k_is, k_il, k_it, k_bb, k_bi, k_tt, k_tl, k_ll, k_lt, k_llt, k_tlt, n_inT, n_or, rg_I (show 3 < 2 ^ 62 by omega)]
  rw [e2]
  simp only [rd_non, rd_bl, rd_int, rd_str, rd_scr, rd_tup, rd_lst, rd_ins, rd_tupT, rd_lstT, rd_insT, pk_non, pk_bl, pk_int, pk_str, pk_scr, pk_tup, pk_lst, pk_ins, x_var, x_glo, x_int, x_bl, x_non, x_str, x_bin, x_neg, x_nt, x_an, x_or, x_cmp, x_chn, x_ite, x_tup, x_lst, x_sub, x_subv, x_att, x_attv, x_call, x_bi, x_biv, x_lc, x_mk, x_met, x_isi, x_gcd, x_bln, xs_nil, xs_cons, xa_nil, xa_cons, xa_lend, xr_seq, xr_rng1, xr_rng2, xr_enm, xr_rev, xt_an, xt_or, xt_nt, xt_cmp, xt_chn, xt_tv, xts_nil, xts_one, y_asg, y_exp, y_ret, y_retN, y_ite, y_fr, y_brk, y_cnt, y_pas, y_par, ys_nil, ys_cons, y_unp, y_setv, y_apG, y_app, y_stf, run_nx, run_ret, io_t, io_f, io_n, ln_nil, ln_cons, ln_lend, f_non, f_bl, f_int, f_str, f_tup, f_lst, f_ins, f_tupT, f_lstT, f_insT, fs_nil, fs_cons, fs_I, fs_blf, fs_If, fs_tupf, fs_lstf, fs_lstT, fs_app, fs_rev, it_eq, it_l, it_t, it_bl, it_int, it_non, it_str, it_tup, it_lst, it_ins, it_lstT, iu_bl, iu_int, iu_non, iu_str, iu_tup, iu_lst, iu_ins, sb_t, sb_l, y_appi, it_m1, fs_int, runF_eq, bind_ok, opt_some, ↓nxt_nx, ↓nxt_ret, ↓nxt_brk, ↓nxt_cnt, mayO_some, ↓onB_bl, ↓onO_some, blO_bl, ng_int, nt_bl, i_tup, i_lst, l_lst, t_bl, range0, asgT, wipeE, saved, restore, putBack, List.getElem?_cons_zero, List.getElem?_cons_succ, List.set_cons_zero, List.set_cons_succ, List.length_cons, List.length_nil, List.cons_append, List.nil_append, List.replicate_succ, List.replicate_zero, List.getD_cons_zero, List.getD_cons_succ, List.map_nil, List.map_cons, List.any_cons, List.any_nil, Nat.reduceSub, Nat.reduceAdd, Nat.reduceLT, Nat.reduceLeDiff, Nat.zero_add, if_true, ite_true, ite_false, reduceIte, D.own, Bool.false_eq_true, Option.bind_some, Option.map_some, Bool.or_false, Bool.false_or, Bool.not_true, Bool.not_false, decide_true, decide_false, lim, n_add, n_shr, n_and, n_eq, n_ne, n_lt, n_le, n_gt, n_ge, c_isN_non, c_isN_tup, n_sum, n_all, n_any, n_listS, n_lenL, n_lenT, n_intI, n_tupleT, n_tuple, n_list, n_listT, n_allf, n_anyf, n_sumf, nw_I, nw_If, nw_bl, nw_tup, nw_lst, k_ii, k_ib, k_is, k_il, k_it, k_bb, k_bi, k_tt, k_tl, k_ll, k_lt, k_llt, k_tlt, n_inT, n_or, shl6 h6, rg_I (show 2 ^ s < 2 ^ 62 by omega)]
  rw [lcR_map (f := fun _ => .bl true)]
  · rw [show (List.range (2 ^ s)).map (fun _ => D.bl true) = tabL s (fun _ => true) from rfl]
    simp only [rd_non, rd_bl, rd_int, rd_str, rd_scr, rd_tup, rd_lst, rd_ins, rd_tupT, rd_lstT, rd_insT, pk_non, pk_bl, pk_int, pk_str, pk_scr, pk_tup, pk_lst, pk_ins, x_var, x_glo, x_int, x_bl, x_non, x_str, x_bin, x_neg, x_nt, x_an, x_or, x_cmp, x_chn, x_ite, x_tup, x_lst, x_sub, x_subv, x_att, x_attv, x_call, x_bi, x_biv, x_lc, x_mk, x_met, x_isi, x_gcd, x_bln, xs_nil, xs_cons, xa_nil, xa_cons, xa_lend, xr_seq, xr_rng1, xr_rng2, xr_enm, xr_rev, xt_an, xt_or, xt_nt, xt_cmp, xt_chn, xt_tv, xts_nil, xts_one, y_asg, y_exp, y_ret, y_retN, y_ite, y_fr, y_brk, y_cnt, y_pas, y_par, ys_nil, ys_cons, y_unp, y_setv, y_apG, y_app, y_stf, run_nx, run_ret, io_t, io_f, io_n, ln_nil, ln_cons, ln_lend, f_non, f_bl, f_int, f_str, f_tup, f_lst, f_ins, f_tupT, f_lstT, f_insT, fs_nil, fs_cons, fs_I, fs_blf, fs_If, fs_tupf, fs_lstf, fs_lstT, fs_app, fs_rev, it_eq, it_l, it_t, it_bl, it_int, it_non, it_str, it_tup, it_lst, it_ins, it_lstT, iu_bl, iu_int, iu_non, iu_str, iu_tup, iu_lst, iu_ins, sb_t, sb_l, y_appi, it_m1, fs_int, runF_eq, bind_ok, opt_some, ↓nxt_nx, ↓nxt_ret, ↓nxt_brk, ↓nxt_cnt, mayO_some, ↓onB_bl, ↓onO_some, blO_bl, ng_int, nt_bl, i_tup, i_lst, l_lst, t_bl, range0, asgT, wipeE, saved, restore, putBack, List.getElem?_cons_zero, List.getElem?_cons_succ, List.set_cons_zero, List.set_cons_succ, List.length_cons, List.length_nil, List.cons_append, List.nil_append, List.replicate_succ, List.replicate_zero, List.getD_cons_zero, List.getD_cons_succ, List.map_nil, List.map_cons, List.any_cons, List.any_nil, Nat.reduceSub, Nat.reduceAdd, Nat.reduceLT, Nat.reduceLeDiff, Nat.zero_add, if_true, ite_true, ite_false, reduceIte, D.own, Bool.false_eq_true, Option.bind_some, Option.map_some, Bool.or_false, Bool.false_or, Bool.not_true, Bool.not_false, decide_true, decide_false, lim, n_add, n_shr, n_and, n_eq, n_ne, n_lt, n_le, n_gt, n_ge, c_isN_non, c_isN_tup, n_sum, n_all, n_any, n_listS, n_lenL, n_lenT, n_intI, n_tupleT, n_tuple, n_list, n_listT, n_allf, n_anyf, n_sumf, nw_I, nw_If, nw_bl, nw_tup, nw_lst, k_ii, k_ib, k_is, k_il, k_it, k_bb, k_bi, k_tt, k_tl, k_ll, k_lt, k_llt, k_tlt, n_inT, n_or, rg_I (show 3 < 2 ^ 62 by omega)]
    refine run_forQ (Q := Qtab s (n + 9)) (P := fun _ e => ∃ T x7 x8 x9, Fam s T ∧ e = [d2, I s, .lst true (ow.map I), .hole, .lst true (li.map I), .hole, .lst true (tabL s T), x7, x8, x9]) (fun t env pre ht hp he => ?_) ⟨_, _, _, _, ⟨h1, h6, rfl, fun _ _ _ _ _ => rfl⟩, rfl⟩ fun e he => ?_
    · obtain ⟨T, x7, x8, x9, FT, rfl⟩ := he
      have ht := List.mem_range.mp ht
      refine ⟨_, rfl, ?_⟩
      simp only [rd_non, rd_bl, rd_int, rd_str, rd_scr, rd_tup, rd_lst, rd_ins, rd_tupT, rd_lstT, rd_insT, pk_non, pk_bl, pk_int, pk_str, pk_scr, pk_tup, pk_lst, pk_ins, x_var, x_glo, x_int, x_bl, x_non, x_str, x_bin, x_neg, x_nt, x_an, x_or, x_cmp, x_chn, x_ite, x_tup, x_lst, x_sub, x_subv, x_att, x_attv, x_call, x_bi, x_biv, x_lc, x_mk, x_met, x_isi, x_gcd, x_bln, xs_nil, xs_cons, xa_nil, xa_cons, xa_lend, xr_seq, xr_rng1, xr_rng2, xr_enm, xr_rev, xt_an, xt_or, xt_nt, xt_cmp, xt_chn, xt_tv, xts_nil, xts_one, y_asg, y_exp, y_ret, y_retN, y_ite, y_fr, y_brk, y_cnt, y_pas, y_par, ys_nil, ys_cons, y_unp, y_setv, y_apG, y_app, y_stf, run_nx, run_ret, io_t, io_f, io_n, ln_nil, ln_cons, ln_lend, f_non, f_bl, f_int, f_str, f_tup, f_lst, f_ins, f_tupT, f_lstT, f_insT, fs_nil, fs_cons, fs_I, fs_blf, fs_If, fs_tupf, fs_lstf, fs_lstT, fs_app, fs_rev, it_eq, it_l, it_t, it_bl, it_int, it_non, it_str, it_tup, it_lst, it_ins, it_lstT, iu_bl, iu_int, iu_non, iu_str, iu_tup, iu_lst, iu_ins, sb_t, sb_l, y_appi, it_m1, fs_int, runF_eq, bind_ok, opt_some, ↓nxt_nx, ↓nxt_ret, ↓nxt_brk, ↓nxt_cnt, mayO_some, ↓onB_bl, ↓onO_some, blO_bl, ng_int, nt_bl, i_tup, i_lst, l_lst, t_bl, range0, asgT, wipeE, saved, restore, putBack, List.getElem?_cons_zero, List.getElem?_cons_succ, List.set_cons_zero, List.set_cons_succ, List.length_cons, List.length_nil, List.cons_append, List.nil_append, List.replicate_succ, List.replicate_zero, List.getD_cons_zero, List.getD_cons_succ, List.map_nil, List.map_cons, List.any_cons, List.any_nil, Nat.reduceSub, Nat.reduceAdd, Nat.reduceLT, Nat.reduceLeDiff, Nat.zero_add, if_true, ite_true, ite_false, reduceIte, D.own, Bool.false_eq_true, Option.bind_some, Option.map_some, Bool.or_false, Bool.false_or, Bool.not_true, Bool.not_false, decide_true, decide_false, lim, n_add, n_shr, n_and, n_eq, n_ne, n_lt, n_le, n_gt, n_ge, c_isN_non, c_isN_tup, n_sum, n_all, n_any, n_listS, n_lenL, n_lenT, n_intI, n_tupleT, n_tuple, n_list, n_listT, n_allf, n_anyf, n_sumf, nw_I, nw_If, nw_bl, nw_tup, nw_lst, k_ii, k_ib, k_is, k_il, k_it, k_bb, k_bi, k_tt, k_tl, k_ll, k_lt, k_llt, k_tlt, n_inT, n_or, rg_I (show s < 2 ^ 62 by omega)]
      rw [lcR_ok (p := fun k => decide (ow.getD k 0 = t)) (f := fun k => I (2 ^ k))]
      · simp only [rd_non, rd_bl, rd_int, rd_str, rd_scr, rd_tup, rd_lst, rd_ins, rd_tupT, rd_lstT, rd_insT, pk_non, pk_bl, pk_int, pk_str, pk_scr, pk_tup, pk_lst, pk_ins, x_var, x_glo, x_int, x_bl, x_non, x_str, x_bin, x_neg, x_nt, x_an, x_or, x_cmp, x_chn, x_ite, x_tup, x_lst, x_sub, x_subv, x_att, x_attv, x_call, x_bi, x_biv, x_lc, x_mk, x_met, x_isi, x_gcd, x_bln, xs_nil, xs_cons, xa_nil, xa_cons, xa_lend, xr_seq, xr_rng1, xr_rng2, xr_enm, xr_rev, xt_an, xt_or, xt_nt, xt_cmp, xt_chn, xt_tv, xts_nil, xts_one, y_asg, y_exp, y_ret, y_retN, y_ite, y_fr, y_brk, y_cnt, y_pas, y_par, ys_nil, ys_cons, y_unp, y_setv, y_apG, y_app, y_stf, run_nx, run_ret, io_t, io_f, io_n, ln_nil, ln_cons, ln_lend, f_non, f_bl, f_int, f_str, f_tup, f_lst, f_ins, f_tupT, f_lstT, f_insT, fs_nil, fs_cons, fs_I, fs_blf, fs_If, fs_tupf, fs_lstf, fs_lstT, fs_app, fs_rev, it_eq, it_l, it_t, it_bl, it_int, it_non, it_str, it_tup, it_lst, it_ins, it_lstT, iu_bl, iu_int, iu_non, iu_str, iu_tup, iu_lst, iu_ins, sb_t, sb_l, y_appi, it_m1, fs_int, runF_eq, bind_ok, opt_some, ↓nxt_nx, ↓nxt_ret, ↓nxt_brk, ↓nxt_cnt, mayO_some, ↓onB_bl, ↓onO_some, blO_bl, ng_int, nt_bl, i_tup, i_lst, l_lst, t_bl, range0, asgT, wipeE, saved, restore, putBack, List.getElem?_cons_zero, List.getElem?_cons_succ, List.set_cons_zero, List.set_cons_succ, List.length_cons, List.length_nil, List.cons_append, List.nil_append, List.replicate_succ, List.replicate_zero, List.getD_cons_zero, List.getD_cons_succ, List.map_nil, List.map_cons, List.any_cons, List.any_nil, Nat.reduceSub, Nat.reduceAdd, Nat.reduceLT, Nat.reduceLeDiff, Nat.zero_add, if_true, ite_true, ite_false, reduceIte, D.own, Bool.false_eq_true, Option.bind_some, Option.map_some, Bool.or_false, Bool.false_or, Bool.not_true, Bool.not_false, decide_true, decide_false, lim, n_add, n_shr, n_and, n_eq, n_ne, n_lt, n_le, n_gt, n_ge, c_isN_non, c_isN_tup, n_sum, n_all, n_any, n_listS, n_lenL, n_lenT, n_intI, n_tupleT, n_tuple, n_list, n_listT, n_allf, n_anyf, n_sumf, nw_I, nw_If, nw_bl, nw_tup, nw_lst, k_ii, k_ib, k_is, k_il, k_it, k_bb, k_bi, k_tt, k_tl, k_ll, k_lt, k_llt, k_tlt, n_inT, n_or]
        rw [show (List.map (fun k => 2 ^ k) (List.filter (fun k => decide (ow.getD k 0 = t)) (List.range s))).sum = own s (fun k => decide (ow.getD k 0 = t)) from rfl]
        have ho64 := own_lt h6 (fun k => decide (ow.getD k 0 = t))
        generalize own s (fun k => decide (ow.getD k 0 = t)) = o at ho64
        have e0 : tabL s (fun m => T m && !(decide (m ∈ ([] : List Nat)) && decide (li.getD t 0 < cnt (m &&& o)))) = tabL s T := tab_congr fun m _ => by simp
        simp only [rd_non, rd_bl, rd_int, rd_str, rd_scr, rd_tup, rd_lst, rd_ins, rd_tupT, rd_lstT, rd_insT, pk_non, pk_bl, pk_int, pk_str, pk_scr, pk_tup, pk_lst, pk_ins, x_var, x_glo, x_int, x_bl, x_non, x_str, x_bin, x_neg, x_nt, x_an, x_or, x_cmp, x_chn, x_ite, x_tup, x_lst, x_sub, x_subv, x_att, x_attv, x_call, x_bi, x_biv, x_lc, x_mk, x_met, x_isi, x_gcd, x_bln, xs_nil, xs_cons, xa_nil, xa_cons, xa_lend, xr_seq, xr_rng1, xr_rng2, xr_enm, xr_rev, xt_an, xt_or, xt_nt, xt_cmp, xt_chn, xt_tv, xts_nil, xts_one, y_asg, y_exp, y_ret, y_retN, y_ite, y_fr, y_brk, y_cnt, y_pas, y_par, ys_nil, ys_cons, y_unp, y_setv, y_apG, y_app, y_stf, run_nx, run_ret, io_t, io_f, io_n, ln_nil, ln_cons, ln_lend, f_non, f_bl, f_int, f_str, f_tup, f_lst, f_ins, f_tupT, f_lstT, f_insT, fs_nil, fs_cons, fs_I, fs_blf, fs_If, fs_tupf, fs_lstf, fs_lstT, fs_app, fs_rev, it_eq, it_l, it_t, it_bl, it_int, it_non, it_str, it_tup, it_lst, it_ins, it_lstT, iu_bl, iu_int, iu_non, iu_str, iu_tup, iu_lst, iu_ins, sb_t, sb_l, y_appi, it_m1, fs_int, runF_eq, bind_ok, opt_some, ↓nxt_nx, ↓nxt_ret, ↓nxt_brk, ↓nxt_cnt, mayO_some, ↓onB_bl, ↓onO_some, blO_bl, ng_int, nt_bl, i_tup, i_lst, l_lst, t_bl, range0, asgT, wipeE, saved, restore, putBack, List.getElem?_cons_zero, List.getElem?_cons_succ, List.set_cons_zero, List.set_cons_succ, List.length_cons, List.length_nil, List.cons_append, List.nil_append, List.replicate_succ, List.replicate_zero, List.getD_cons_zero, List.getD_cons_succ, List.map_nil, List.map_cons, List.any_cons, List.any_nil, Nat.reduceSub, Nat.reduceAdd, Nat.reduceLT, Nat.reduceLeDiff, Nat.zero_add, if_true, ite_true, ite_false, reduceIte, D.own, Bool.false_eq_true, Option.bind_some, Option.map_some, Bool.or_false, Bool.false_or, Bool.not_true, Bool.not_false, decide_true, decide_false, lim, n_add, n_shr, n_and, n_eq, n_ne, n_lt, n_le, n_gt, n_ge, c_isN_non, c_isN_tup, n_sum, n_all, n_any, n_listS, n_lenL, n_lenT, n_intI, n_tupleT, n_tuple, n_list, n_listT, n_allf, n_anyf, n_sumf, nw_I, nw_If, nw_bl, nw_tup, nw_lst, k_ii, k_ib, k_is, k_il, k_it, k_bb, k_bi, k_tt, k_tl, k_ll, k_lt, k_llt, k_tlt, n_inT, n_or, shl6 h6, rg_I (show 2 ^ s < 2 ^ 62 by omega)]
        refine gs_for (P := fun pre e => ∃ x7, e = [d2, I s, .lst true (ow.map I), .hole, .lst true (li.map I), .hole, .lst true (tabL s fun m => T m && !(decide (m ∈ pre) && decide (li.getD t 0 < cnt (m &&& o)))), x7, I t, I o]) (fun m env pre hm hpr he => ?_) ⟨x7, by rw [e0]⟩ fun e he => ?_
        · obtain ⟨x7, rfl⟩ := he
          have hm2 := List.mem_range.mp hm
          have hm64 := lt64 h6 hm2
          refine ⟨_, rfl, ?_⟩
          by_cases hc : li.getD t 0 < cnt (m &&& o)
          · have hc2 : li.getD t 0 < (thg (m &&& o)).length := hc
            simp only [rd_non, rd_bl, rd_int, rd_str, rd_scr, rd_tup, rd_lst, rd_ins, rd_tupT, rd_lstT, rd_insT, pk_non, pk_bl, pk_int, pk_str, pk_scr, pk_tup, pk_lst, pk_ins, x_var, x_glo, x_int, x_bl, x_non, x_str, x_bin, x_neg, x_nt, x_an, x_or, x_cmp, x_chn, x_ite, x_tup, x_lst, x_sub, x_subv, x_att, x_attv, x_call, x_bi, x_biv, x_lc, x_mk, x_met, x_isi, x_gcd, x_bln, xs_nil, xs_cons, xa_nil, xa_cons, xa_lend, xr_seq, xr_rng1, xr_rng2, xr_enm, xr_rev, xt_an, xt_or, xt_nt, xt_cmp, xt_chn, xt_tv, xts_nil, xts_one, y_asg, y_exp, y_ret, y_retN, y_ite, y_fr, y_brk, y_cnt, y_pas, y_par, ys_nil, ys_cons, y_unp, y_setv, y_apG, y_app, y_stf, run_nx, run_ret, io_t, io_f, io_n, ln_nil, ln_cons, ln_lend, f_non, f_bl, f_int, f_str, f_tup, f_lst, f_ins, f_tupT, f_lstT, f_insT, fs_nil, fs_cons, fs_I, fs_blf, fs_If, fs_tupf, fs_lstf, fs_lstT, fs_app, fs_rev, it_eq, it_l, it_t, it_bl, it_int, it_non, it_str, it_tup, it_lst, it_ins, it_lstT, iu_bl, iu_int, iu_non, iu_str, iu_tup, iu_lst, iu_ins, sb_t, sb_l, y_appi, it_m1, fs_int, runF_eq, bind_ok, opt_some, ↓nxt_nx, ↓nxt_ret, ↓nxt_brk, ↓nxt_cnt, mayO_some, ↓onB_bl, ↓onO_some, blO_bl, ng_int, nt_bl, i_tup, i_lst, l_lst, t_bl, range0, asgT, wipeE, saved, restore, putBack, List.getElem?_cons_zero, List.getElem?_cons_succ, List.set_cons_zero, List.set_cons_succ, List.length_cons, List.length_nil, List.cons_append, List.nil_append, List.replicate_succ, List.replicate_zero, List.getD_cons_zero, List.getD_cons_succ, List.map_nil, List.map_cons, List.any_cons, List.any_nil, Nat.reduceSub, Nat.reduceAdd, Nat.reduceLT, Nat.reduceLeDiff, Nat.zero_add, if_true, ite_true, ite_false, reduceIte, D.own, Bool.false_eq_true, Option.bind_some, Option.map_some, Bool.or_false, Bool.false_or, Bool.not_true, Bool.not_false, decide_true, decide_false, lim, n_add, n_shr, n_and, n_eq, n_ne, n_lt, n_le, n_gt, n_ge, c_isN_non, c_isN_tup, n_sum, n_all, n_any, n_listS, n_lenL, n_lenT, n_intI, n_tupleT, n_tuple, n_list, n_listT, n_allf, n_anyf, n_sumf, nw_I, nw_If, nw_bl, nw_tup, nw_lst, k_ii, k_ib, k_is, k_il, k_it, k_bb, k_bi, k_tt, k_tl, k_ll, k_lt, k_llt, k_tlt, n_inT, n_or, call1 (s_things (and64 (b := o) hm64)), it_eq, get_I (show t < li.length by omega), List.length_map, hc2, tab_setL hm2]
            rw [tab_set hm2]
            refine gs ⟨I m, ?_⟩
            have e1 : tabL s (fun j => if j = m then false else (T j && !(decide (j ∈ pre) && decide (li.getD t 0 < cnt (j &&& o))))) = tabL s (fun j => T j && !(decide (j ∈ pre ++ [m]) && decide (li.getD t 0 < cnt (j &&& o)))) := tab_congr fun j _ => by
              by_cases e : j = m
              · subst e; rw [if_pos rfl, decide_eq_true (show j ∈ pre ++ [j] by simp), decide_eq_true hc]; simp
              · simp [e]
            rw [e1]
          · have hc2 : ¬ li.getD t 0 < (thg (m &&& o)).length := hc
            simp only [rd_non, rd_bl, rd_int, rd_str, rd_scr, rd_tup, rd_lst, rd_ins, rd_tupT, rd_lstT, rd_insT, pk_non, pk_bl, pk_int, pk_str, pk_scr, pk_tup, pk_lst, pk_ins, x_var, x_glo, x_int, x_bl, x_non, x_str, x_bin, x_neg, x_nt, x_an, x_or, x_cmp, x_chn, x_ite, x_tup, x_lst, x_sub, x_subv, x_att, x_attv, x_call, x_bi, x_biv, x_lc, x_mk, x_met, x_isi, x_gcd, x_bln, xs_nil, xs_cons, xa_nil, xa_cons, xa_lend, xr_seq, xr_rng1, xr_rng2, xr_enm, xr_rev, xt_an, xt_or, xt_nt, xt_cmp, xt_chn, xt_tv, xts_nil, xts_one, y_asg, y_exp, y_ret, y_retN, y_ite, y_fr, y_brk, y_cnt, y_pas, y_par, ys_nil, ys_cons, y_unp, y_setv, y_apG, y_app, y_stf, run_nx, run_ret, io_t, io_f, io_n, ln_nil, ln_cons, ln_lend, f_non, f_bl, f_int, f_str, f_tup, f_lst, f_ins, f_tupT, f_lstT, f_insT, fs_nil, fs_cons, fs_I, fs_blf, fs_If, fs_tupf, fs_lstf, fs_lstT, fs_app, fs_rev, it_eq, it_l, it_t, it_bl, it_int, it_non, it_str, it_tup, it_lst, it_ins, it_lstT, iu_bl, iu_int, iu_non, iu_str, iu_tup, iu_lst, iu_ins, sb_t, sb_l, y_appi, it_m1, fs_int, runF_eq, bind_ok, opt_some, ↓nxt_nx, ↓nxt_ret, ↓nxt_brk, ↓nxt_cnt, mayO_some, ↓onB_bl, ↓onO_some, blO_bl, ng_int, nt_bl, i_tup, i_lst, l_lst, t_bl, range0, asgT, wipeE, saved, restore, putBack, List.getElem?_cons_zero, List.getElem?_cons_succ, List.set_cons_zero, List.set_cons_succ, List.length_cons, List.length_nil, List.cons_append, List.nil_append, List.replicate_succ, List.replicate_zero, List.getD_cons_zero, List.getD_cons_succ, List.map_nil, List.map_cons, List.any_cons, List.any_nil, Nat.reduceSub, Nat.reduceAdd, Nat.reduceLT, Nat.reduceLeDiff, Nat.zero_add, if_true, ite_true, ite_false, reduceIte, D.own, Bool.false_eq_true, Option.bind_some, Option.map_some, Bool.or_false, Bool.false_or, Bool.not_true, Bool.not_false, decide_true, decide_false, lim, n_add, n_shr, n_and, n_eq, n_ne, n_lt, n_le, n_gt, n_ge, c_isN_non, c_isN_tup, n_sum, n_all, n_any, n_listS, n_lenL, n_lenT, n_intI, n_tupleT, n_tuple, n_list, n_listT, n_allf, n_anyf, n_sumf, nw_I, nw_If, nw_bl, nw_tup, nw_lst, k_ii, k_ib, k_is, k_il, k_it, k_bb, k_bi, k_tt, k_tl, k_ll, k_lt, k_llt, k_tlt, n_inT, n_or, call1 (s_things (and64 (b := o) hm64)), it_eq, get_I (show t < li.length by omega), List.length_map, hc2]
            refine gs ⟨I m, ?_⟩
            have e1 : tabL s (fun j => T j && !(decide (j ∈ pre) && decide (li.getD t 0 < cnt (j &&& o)))) = tabL s (fun j => T j && !(decide (j ∈ pre ++ [m]) && decide (li.getD t 0 < cnt (j &&& o)))) := tab_congr fun j _ => by
              by_cases e : j = m
              · subst e; rw [decide_eq_false hc]; simp
              · simp [e]
            rw [e1]
        · obtain ⟨x7, rfl⟩ := he
          simp only [rd_non, rd_bl, rd_int, rd_str, rd_scr, rd_tup, rd_lst, rd_ins, rd_tupT, rd_lstT, rd_insT, pk_non, pk_bl, pk_int, pk_str, pk_scr, pk_tup, pk_lst, pk_ins, x_var, x_glo, x_int, x_bl, x_non, x_str, x_bin, x_neg, x_nt, x_an, x_or, x_cmp, x_chn, x_ite, x_tup, x_lst, x_sub, x_subv, x_att, x_attv, x_call, x_bi, x_biv, x_lc, x_mk, x_met, x_isi, x_gcd, x_bln, xs_nil, xs_cons, xa_nil, xa_cons, xa_lend, xr_seq, xr_rng1, xr_rng2, xr_enm, xr_rev, xt_an, xt_or, xt_nt, xt_cmp, xt_chn, xt_tv, xts_nil, xts_one, y_asg, y_exp, y_ret, y_retN, y_ite, y_fr, y_brk, y_cnt, y_pas, y_par, ys_nil, ys_cons, y_unp, y_setv, y_apG, y_app, y_stf, run_nx, run_ret, io_t, io_f, io_n, ln_nil, ln_cons, ln_lend, f_non, f_bl, f_int, f_str, f_tup, f_lst, f_ins, f_tupT, f_lstT, f_insT, fs_nil, fs_cons, fs_I, fs_blf, fs_If, fs_tupf, fs_lstf, fs_lstT, fs_app, fs_rev, it_eq, it_l, it_t, it_bl, it_int, it_non, it_str, it_tup, it_lst, it_ins, it_lstT, iu_bl, iu_int, iu_non, iu_str, iu_tup, iu_lst, iu_ins, sb_t, sb_l, y_appi, it_m1, fs_int, runF_eq, bind_ok, opt_some, ↓nxt_nx, ↓nxt_ret, ↓nxt_brk, ↓nxt_cnt, mayO_some, ↓onB_bl, ↓onO_some, blO_bl, ng_int, nt_bl, i_tup, i_lst, l_lst, t_bl, range0, asgT, wipeE, saved, restore, putBack, List.getElem?_cons_zero, List.getElem?_cons_succ, List.set_cons_zero, List.set_cons_succ, List.length_cons, List.length_nil, List.cons_append, List.nil_append, List.replicate_succ, List.replicate_zero, List.getD_cons_zero, List.getD_cons_succ, List.map_nil, List.map_cons, List.any_cons, List.any_nil, Nat.reduceSub, Nat.reduceAdd, Nat.reduceLT, Nat.reduceLeDiff, Nat.zero_add, if_true, ite_true, ite_false, reduceIte, D.own, Bool.false_eq_true, Option.bind_some, Option.map_some, Bool.or_false, Bool.false_or, Bool.not_true, Bool.not_false, decide_true, decide_false, lim]
          refine gs ⟨fun m => T m && decide (cnt (m &&& o) ≤ li.getD t 0), x7, I t, I o, FT.cls h1 h6 o _, ?_⟩
          have e1 : tabL s (fun m => T m && !(decide (m ∈ List.range (2 ^ s)) && decide (li.getD t 0 < cnt (m &&& o)))) = tabL s (fun m => T m && decide (cnt (m &&& o) ≤ li.getD t 0)) := tab_congr fun m hm => by
            by_cases hc : li.getD t 0 < cnt (m &&& o)
            · have : ¬ cnt (m &&& o) ≤ li.getD t 0 := by omega
              rw [decide_eq_true hc, decide_eq_false this, decide_eq_true (List.mem_range.mpr hm)]; rfl
            · have : cnt (m &&& o) ≤ li.getD t 0 := by omega
              rw [decide_eq_false hc, decide_eq_true this]; simp
          rw [e1]
      · intro k hk
        have hk6 := List.mem_range.mp hk
        refine ⟨_, rfl, ?_⟩
        simp only [rd_non, rd_bl, rd_int, rd_str, rd_scr, rd_tup, rd_lst, rd_ins, rd_tupT, rd_lstT, rd_insT, pk_non, pk_bl, pk_int, pk_str, pk_scr, pk_tup, pk_lst, pk_ins, x_var, x_glo, x_int, x_bl, x_non, x_str, x_bin, x_neg, x_nt, x_an, x_or, x_cmp, x_chn, x_ite, x_tup, x_lst, x_sub, x_subv, x_att, x_attv, x_call, x_bi, x_biv, x_lc, x_mk, x_met, x_isi, x_gcd, x_bln, xs_nil, xs_cons, xa_nil, xa_cons, xa_lend, xr_seq, xr_rng1, xr_rng2, xr_enm, xr_rev, xt_an, xt_or, xt_nt, xt_cmp, xt_chn, xt_tv, xts_nil, xts_one, y_asg, y_exp, y_ret, y_retN, y_ite, y_fr, y_brk, y_cnt, y_pas, y_par, ys_nil, ys_cons, y_unp, y_setv, y_apG, y_app, y_stf, run_nx, run_ret, io_t, io_f, io_n, ln_nil, ln_cons, ln_lend, f_non, f_bl, f_int, f_str, f_tup, f_lst, f_ins, f_tupT, f_lstT, f_insT, fs_nil, fs_cons, fs_I, fs_blf, fs_If, fs_tupf, fs_lstf, fs_lstT, fs_app, fs_rev, it_eq, it_l, it_t, it_bl, it_int, it_non, it_str, it_tup, it_lst, it_ins, it_lstT, iu_bl, iu_int, iu_non, iu_str, iu_tup, iu_lst, iu_ins, sb_t, sb_l, y_appi, it_m1, fs_int, runF_eq, bind_ok, opt_some, ↓nxt_nx, ↓nxt_ret, ↓nxt_brk, ↓nxt_cnt, mayO_some, ↓onB_bl, ↓onO_some, blO_bl, ng_int, nt_bl, i_tup, i_lst, l_lst, t_bl, range0, asgT, wipeE, saved, restore, putBack, List.getElem?_cons_zero, List.getElem?_cons_succ, List.set_cons_zero, List.set_cons_succ, List.length_cons, List.length_nil, List.cons_append, List.nil_append, List.replicate_succ, List.replicate_zero, List.getD_cons_zero, List.getD_cons_succ, List.map_nil, List.map_cons, List.any_cons, List.any_nil, Nat.reduceSub, Nat.reduceAdd, Nat.reduceLT, Nat.reduceLeDiff, Nat.zero_add, if_true, ite_true, ite_false, reduceIte, D.own, Bool.false_eq_true, Option.bind_some, Option.map_some, Bool.or_false, Bool.false_or, Bool.not_true, Bool.not_false, decide_true, decide_false, lim, n_add, n_shr, n_and, n_eq, n_ne, n_lt, n_le, n_gt, n_ge, c_isN_non, c_isN_tup, n_sum, n_all, n_any, n_listS, n_lenL, n_lenT, n_intI, n_tupleT, n_tuple, n_list, n_listT, n_allf, n_anyf, n_sumf, nw_I, nw_If, nw_bl, nw_tup, nw_lst, k_ii, k_ib, k_is, k_il, k_it, k_bb, k_bi, k_tt, k_tl, k_ll, k_lt, k_llt, k_tlt, n_inT, n_or, it_eq, get_I (show k < ow.length by omega)]
        refine gt ⟨fun _ => rfl, fun _ => ?_⟩
        simp only [rd_non, rd_bl, rd_int, rd_str, rd_scr, rd_tup, rd_lst, rd_ins, rd_tupT, rd_lstT, rd_insT, pk_non, pk_bl, pk_int, pk_str, pk_scr, pk_tup, pk_lst, pk_ins, x_var, x_glo, x_int, x_bl, x_non, x_str, x_bin, x_neg, x_nt, x_an, x_or, x_cmp, x_chn, x_ite, x_tup, x_lst, x_sub, x_subv, x_att, x_attv, x_call, x_bi, x_biv, x_lc, x_mk, x_met, x_isi, x_gcd, x_bln, xs_nil, xs_cons, xa_nil, xa_cons, xa_lend, xr_seq, xr_rng1, xr_rng2, xr_enm, xr_rev, xt_an, xt_or, xt_nt, xt_cmp, xt_chn, xt_tv, xts_nil, xts_one, y_asg, y_exp, y_ret, y_retN, y_ite, y_fr, y_brk, y_cnt, y_pas, y_par, ys_nil, ys_cons, y_unp, y_setv, y_apG, y_app, y_stf, run_nx, run_ret, io_t, io_f, io_n, ln_nil, ln_cons, ln_lend, f_non, f_bl, f_int, f_str, f_tup, f_lst, f_ins, f_tupT, f_lstT, f_insT, fs_nil, fs_cons, fs_I, fs_blf, fs_If, fs_tupf, fs_lstf, fs_lstT, fs_app, fs_rev, it_eq, it_l, it_t, it_bl, it_int, it_non, it_str, it_tup, it_lst, it_ins, it_lstT, iu_bl, iu_int, iu_non, iu_str, iu_tup, iu_lst, iu_ins, sb_t, sb_l, y_appi, it_m1, fs_int, runF_eq, bind_ok, opt_some, ↓nxt_nx, ↓nxt_ret, ↓nxt_brk, ↓nxt_cnt, mayO_some, ↓onB_bl, ↓onO_some, blO_bl, ng_int, nt_bl, i_tup, i_lst, l_lst, t_bl, range0, asgT, wipeE, saved, restore, putBack, List.getElem?_cons_zero, List.getElem?_cons_succ, List.set_cons_zero, List.set_cons_succ, List.length_cons, List.length_nil, List.cons_append, List.nil_append, List.replicate_succ, List.replicate_zero, List.getD_cons_zero, List.getD_cons_succ, List.map_nil, List.map_cons, List.any_cons, List.any_nil, Nat.reduceSub, Nat.reduceAdd, Nat.reduceLT, Nat.reduceLeDiff, Nat.zero_add, if_true, ite_true, ite_false, reduceIte, D.own, Bool.false_eq_true, Option.bind_some, Option.map_some, Bool.or_false, Bool.false_or, Bool.not_true, Bool.not_false, decide_true, decide_false, lim, n_add, n_shr, n_and, n_eq, n_ne, n_lt, n_le, n_gt, n_ge, c_isN_non, c_isN_tup, n_sum, n_all, n_any, n_listS, n_lenL, n_lenT, n_intI, n_tupleT, n_tuple, n_list, n_listT, n_allf, n_anyf, n_sumf, nw_I, nw_If, nw_bl, nw_tup, nw_lst, k_ii, k_ib, k_is, k_il, k_it, k_bb, k_bi, k_tt, k_tl, k_ll, k_lt, k_llt, k_tlt, n_inT, n_or, shl6 (show k ≤ 6 by omega)]
        exact gd rfl
      · exact le_lim (by simp; omega)
      · rfl
    · obtain ⟨T, x7, x8, x9, FT, rfl⟩ := he
      simp only [rd_non, rd_bl, rd_int, rd_str, rd_scr, rd_tup, rd_lst, rd_ins, rd_tupT, rd_lstT, rd_insT, pk_non, pk_bl, pk_int, pk_str, pk_scr, pk_tup, pk_lst, pk_ins, x_var, x_glo, x_int, x_bl, x_non, x_str, x_bin, x_neg, x_nt, x_an, x_or, x_cmp, x_chn, x_ite, x_tup, x_lst, x_sub, x_subv, x_att, x_attv, x_call, x_bi, x_biv, x_lc, x_mk, x_met, x_isi, x_gcd, x_bln, xs_nil, xs_cons, xa_nil, xa_cons, xa_lend, xr_seq, xr_rng1, xr_rng2, xr_enm, xr_rev, xt_an, xt_or, xt_nt, xt_cmp, xt_chn, xt_tv, xts_nil, xts_one, y_asg, y_exp, y_ret, y_retN, y_ite, y_fr, y_brk, y_cnt, y_pas, y_par, ys_nil, ys_cons, y_unp, y_setv, y_apG, y_app, y_stf, run_nx, run_ret, io_t, io_f, io_n, ln_nil, ln_cons, ln_lend, f_non, f_bl, f_int, f_str, f_tup, f_lst, f_ins, f_tupT, f_lstT, f_insT, fs_nil, fs_cons, fs_I, fs_blf, fs_If, fs_tupf, fs_lstf, fs_lstT, fs_app, fs_rev, it_eq, it_l, it_t, it_bl, it_int, it_non, it_str, it_tup, it_lst, it_ins, it_lstT, iu_bl, iu_int, iu_non, iu_str, iu_tup, iu_lst, iu_ins, sb_t, sb_l, y_appi, it_m1, fs_int, runF_eq, bind_ok, opt_some, ↓nxt_nx, ↓nxt_ret, ↓nxt_brk, ↓nxt_cnt, mayO_some, ↓onB_bl, ↓onO_some, blO_bl, ng_int, nt_bl, i_tup, i_lst, l_lst, t_bl, range0, asgT, wipeE, saved, restore, putBack, List.getElem?_cons_zero, List.getElem?_cons_succ, List.set_cons_zero, List.set_cons_succ, List.length_cons, List.length_nil, List.cons_append, List.nil_append, List.replicate_succ, List.replicate_zero, List.getD_cons_zero, List.getD_cons_succ, List.map_nil, List.map_cons, List.any_cons, List.any_nil, Nat.reduceSub, Nat.reduceAdd, Nat.reduceLT, Nat.reduceLeDiff, Nat.zero_add, if_true, ite_true, ite_false, reduceIte, D.own, Bool.false_eq_true, Option.bind_some, Option.map_some, Bool.or_false, Bool.false_or, Bool.not_true, Bool.not_false, decide_true, decide_false, lim, n_add, n_shr, n_and, n_eq, n_ne, n_lt, n_le, n_gt, n_ge, c_isN_non, c_isN_tup, n_sum, n_all, n_any, n_listS, n_lenL, n_lenT, n_intI, n_tupleT, n_tuple, n_list, n_listT, n_allf, n_anyf, n_sumf, nw_I, nw_If, nw_bl, nw_tup, nw_lst, k_ii, k_ib, k_is, k_il, k_it, k_bb, k_bi, k_tt, k_tl, k_ll, k_lt, k_llt, k_tlt, n_inT, n_or]
      exact ⟨_, T, d2, by rw [tab_frz], FT, F2.up (by omega)⟩
  · intro m hm
    refine ⟨_, rfl, ?_⟩
    simp only [rd_non, rd_bl, rd_int, rd_str, rd_scr, rd_tup, rd_lst, rd_ins, rd_tupT, rd_lstT, rd_insT, pk_non, pk_bl, pk_int, pk_str, pk_scr, pk_tup, pk_lst, pk_ins, x_var, x_glo, x_int, x_bl, x_non, x_str, x_bin, x_neg, x_nt, x_an, x_or, x_cmp, x_chn, x_ite, x_tup, x_lst, x_sub, x_subv, x_att, x_attv, x_call, x_bi, x_biv, x_lc, x_mk, x_met, x_isi, x_gcd, x_bln, xs_nil, xs_cons, xa_nil, xa_cons, xa_lend, xr_seq, xr_rng1, xr_rng2, xr_enm, xr_rev, xt_an, xt_or, xt_nt, xt_cmp, xt_chn, xt_tv, xts_nil, xts_one, y_asg, y_exp, y_ret, y_retN, y_ite, y_fr, y_brk, y_cnt, y_pas, y_par, ys_nil, ys_cons, y_unp, y_setv, y_apG, y_app, y_stf, run_nx, run_ret, io_t, io_f, io_n, ln_nil, ln_cons, ln_lend, f_non, f_bl, f_int, f_str, f_tup, f_lst, f_ins, f_tupT, f_lstT, f_insT, fs_nil, fs_cons, fs_I, fs_blf, fs_If, fs_tupf, fs_lstf, fs_lstT, fs_app, fs_rev, it_eq, it_l, it_t, it_bl, it_int, it_non, it_str, it_tup, it_lst, it_ins, it_lstT, iu_bl, iu_int, iu_non, iu_str, iu_tup, iu_lst, iu_ins, sb_t, sb_l, y_appi, it_m1, fs_int, runF_eq, bind_ok, opt_some, ↓nxt_nx, ↓nxt_ret, ↓nxt_brk, ↓nxt_cnt, mayO_some, ↓onB_bl, ↓onO_some, blO_bl, ng_int, nt_bl, i_tup, i_lst, l_lst, t_bl, range0, asgT, wipeE, saved, restore, putBack, List.getElem?_cons_zero, List.getElem?_cons_succ, List.set_cons_zero, List.set_cons_succ, List.length_cons, List.length_nil, List.cons_append, List.nil_append, List.replicate_succ, List.replicate_zero, List.getD_cons_zero, List.getD_cons_succ, List.map_nil, List.map_cons, List.any_cons, List.any_nil, Nat.reduceSub, Nat.reduceAdd, Nat.reduceLT, Nat.reduceLeDiff, Nat.zero_add, if_true, ite_true, ite_false, reduceIte, D.own, Bool.false_eq_true, Option.bind_some, Option.map_some, Bool.or_false, Bool.false_or, Bool.not_true, Bool.not_false, decide_true, decide_false, lim]
    exact gd rfl
  · exact le_lim (by simp; omega)
  · rfl

theorem map_setI {l : List Nat} {k v : Nat} : (l.map I).set k (I v) = (l.set k v).map I := by rw [List.map_set]
theorem setL_I {l : List Nat} {k v x : Nat} {e : En} (h : k < l.length) : setL (some (.lst true (l.map I))) (I k) (I v) x e = .ok .nx (e.set x (.lst true ((l.set k v).map I))) := by
  rw [setL_ok (by simpa using h), map_setI]
theorem s_odd {n : Nat} {d : D} (hF : Feed n d) (hn : n ≤ 900) (h1 : 1 ≤ s) (h6 : s ≤ 6) : Qtab s (n + 7) (c__law_odd.sem [d, I s]) := by
  have p64 := pow64 h6
  obtain ⟨ow, d1, e1, w1, w2, F1⟩ := lc_draws (c := s) (many := 4) (j := 2) (rest := [I s, .hole, .hole, .hole, .hole, .hole, .hole, .hole]) hF (by omega) (by decide) (by decide) (by simp)
  obtain ⟨st, d2, e2, hst, F2⟩ := s_draw F1 (by omega) h1 (by omega)
  have hs0 : 0 < s := by omega
  simp only [c__law_odd, b__law_odd, N__law_odd, rd_non, rd_bl, rd_int, rd_str, rd_scr, rd_tup, rd_lst, rd_ins, rd_tupT, rd_lstT, rd_insT, pk_non, pk_bl, pk_int, pk_str, pk_scr, pk_tup, pk_lst, pk_ins, x_var, x_glo, x_int, x_bl, x_non, x_str, x_bin, x_neg, x_nt, x_an, x_or, x_cmp, x_chn, x_ite, x_tup, x_lst, x_sub, x_subv, x_att, x_attv, x_call, x_bi, x_biv, x_lc, x_mk, x_met, x_isi, x_gcd, x_bln, xs_nil, xs_cons, xa_nil, xa_cons, xa_lend, xr_seq, xr_rng1, xr_rng2, xr_enm, xr_rev, xt_an, xt_or, xt_nt, xt_cmp, xt_chn, xt_tv, xts_nil, xts_one, y_asg, y_exp, y_ret, y_retN, y_ite, y_fr, y_brk, y_cnt, y_pas, y_par, ys_nil, ys_cons, y_unp, y_setv, y_apG, y_app, y_stf, run_nx, run_ret, io_t, io_f, io_n, ln_nil, ln_cons, ln_lend, f_non, f_bl, f_int, f_str, f_tup, f_lst, f_ins, f_tupT, f_lstT, f_insT, fs_nil, fs_cons, fs_I, fs_blf, fs_If, fs_tupf, fs_lstf, fs_lstT, fs_app, fs_rev, it_eq, it_l, it_t, it_bl, it_int, it_non, it_str, it_tup, it_lst, it_ins, it_lstT, iu_bl, iu_int, iu_non, iu_str, iu_tup, iu_lst, iu_ins, sb_t, sb_l, y_appi, it_m1, fs_int, runF_eq, bind_ok, opt_some, ↓nxt_nx, ↓nxt_ret, ↓nxt_brk, ↓nxt_cnt, mayO_some, ↓onB_bl, ↓onO_some, blO_bl, ng_int, nt_bl, i_tup, i_lst, l_lst, t_bl, range0, asgT, wipeE, saved, restore, putBack, List.getElem?_cons_zero, List.getElem?_cons_succ, List.set_cons_zero, List.set_cons_succ, List.length_cons, List.length_nil, List.cons_append, List.nil_append, List.replicate_succ, List.replicate_zero, List.getD_cons_zero, List.getD_cons_succ, List.map_nil, List.map_cons, List.any_cons, List.any_nil, Nat.reduceSub, Nat.reduceAdd, Nat.reduceLT, Nat.reduceLeDiff, Nat.zero_add, if_true, ite_true, ite_false, reduceIte, D.own, Bool.false_eq_true, Option.bind_some, Option.map_some, Bool.or_false, Bool.false_or, Bool.not_true, Bool.not_false, decide_true, decide_false, lim, n_add, n_shr, n_and, n_eq, n_ne, n_lt, n_le, n_gt, n_ge, c_isN_non, c_isN_tup, n_sum, n_all, n_any, n_listS, n_lenL, n_lenT, n_intI, n_tupleT, n_tuple, n_list, n_listT, n_allf, n_anyf, n_sumf, nw_I, nw_If, nw_bl, nw_tup, nw_lst, k_ii, k_ib, k_is, k_il, k_it, k_bb, k_bi, k_tt, k_tl, k_ll, k_lt, k_llt, k_tlt, n_inT, n_or, shl6 h6, rg_I (show s < 2 ^ 62 by omega)]
  rw [e1]
  simp only [rd_non, rd_bl, rd_int, rd_str, rd_scr, rd_tup, rd_lst, rd_ins, rd_tupT, rd_lstT, rd_insT, pk_non, pk_bl, pk_int, pk_str, pk_scr, pk_tup, pk_lst, pk_ins, x_var, x_glo, x_int, x_bl, x_non, x_str, x_bin, x_neg, x_nt, x_an, x_or, x_cmp, x_chn, x_ite, x_tup, x_lst, x_sub, x_subv, x_att, x_attv, x_call, x_bi, x_biv, x_lc, x_mk, x_met, x_isi, x_gcd, x_bln, xs_nil, xs_cons, xa_nil, xa_cons, xa_lend, xr_seq, xr_rng1, xr_rng2, xr_enm, xr_rev, xt_an, xt_or, xt_nt, xt_cmp, xt_chn, xt_tv, xts_nil, xts_one, y_asg, y_exp, y_ret, y_retN, y_ite, y_fr, y_brk, y_cnt, y_pas, y_par, ys_nil, ys_cons, y_unp, y_setv, y_apG, y_app, y_stf, run_nx, run_ret, io_t, io_f, io_n, ln_nil, ln_cons, ln_lend, f_non, f_bl, f_int, f_str, f_tup, f_lst, f_ins, f_tupT, f_lstT, f_insT, fs_nil, fs_cons, fs_I, fs_blf, fs_If, fs_tupf, fs_lstf, fs_lstT, fs_app, fs_rev, it_eq, it_l, it_t, it_bl, it_int, it_non, it_str, it_tup, it_lst, it_ins, it_lstT, iu_bl, iu_int, iu_non, iu_str, iu_tup, iu_lst, iu_ins, sb_t, sb_l, y_appi, it_m1, fs_int, runF_eq, bind_ok, opt_some, ↓nxt_nx, ↓nxt_ret, ↓nxt_brk, ↓nxt_cnt, mayO_some, ↓onB_bl, ↓onO_some, blO_bl, ng_int, nt_bl, i_tup, i_lst, l_lst, t_bl, range0, asgT, wipeE, saved, restore, putBack, List.getElem?_cons_zero, List.getElem?_cons_succ, List.set_cons_zero, List.set_cons_succ, List.length_cons, List.length_nil, List.cons_append, List.nil_append, List.replicate_succ, List.replicate_zero, List.getD_cons_zero, List.getD_cons_succ, List.map_nil, List.map_cons, List.any_cons, List.any_nil, Nat.reduceSub, Nat.reduceAdd, Nat.reduceLT, Nat.reduceLeDiff, Nat.zero_add, if_true, ite_true, ite_false, reduceIte, D.own, Bool.false_eq_true, Option.bind_some, Option.map_some, Bool.or_false, Bool.false_or, Bool.not_true, Bool.not_false, decide_true, decide_false, lim, n_add, n_shr, n_and, n_eq, n_ne, n_lt, n_le, n_gt, n_ge, c_isN_non, c_isN_tup, n_sum, n_all, n_any, n_listS, n_lenL, n_lenT, n_intI, n_tupleT, n_tuple, n_list, n_listT, n_allf, n_anyf, n_sumf, nw_I, nw_If, nw_bl, nw_tup, nw_lst, k_ii, k_ib, k_is, k_il, k_it, k_bb, k_bi, k_tt, k_tl, k_ll, k_lt, k_llt, k_tlt, n_inT, n_or, F1.pk, callL2 e2, n_mod hs0, setL_I (show st < ow.length by omega)]
  rw [setL_I (by rw [List.length_set, w1]; exact Nat.mod_lt _ hs0)]
  simp only [rd_non, rd_bl, rd_int, rd_str, rd_scr, rd_tup, rd_lst, rd_ins, rd_tupT, rd_lstT, rd_insT, pk_non, pk_bl, pk_int, pk_str, pk_scr, pk_tup, pk_lst, pk_ins, x_var, x_glo, x_int, x_bl, x_non, x_str, x_bin, x_neg, x_nt, x_an, x_or, x_cmp, x_chn, x_ite, x_tup, x_lst, x_sub, x_subv, x_att, x_attv, x_call, x_bi, x_biv, x_lc, x_mk, x_met, x_isi, x_gcd, x_bln, xs_nil, xs_cons, xa_nil, xa_cons, xa_lend, xr_seq, xr_rng1, xr_rng2, xr_enm, xr_rev, xt_an, xt_or, xt_nt, xt_cmp, xt_chn, xt_tv, xts_nil, xts_one, y_asg, y_exp, y_ret, y_retN, y_ite, y_fr, y_brk, y_cnt, y_pas, y_par, ys_nil, ys_cons, y_unp, y_setv, y_apG, y_app, y_stf, run_nx, run_ret, io_t, io_f, io_n, ln_nil, ln_cons, ln_lend, f_non, f_bl, f_int, f_str, f_tup, f_lst, f_ins, f_tupT, f_lstT, f_insT, fs_nil, fs_cons, fs_I, fs_blf, fs_If, fs_tupf, fs_lstf, fs_lstT, fs_app, fs_rev, it_eq, it_l, it_t, it_bl, it_int, it_non, it_str, it_tup, it_lst, it_ins, it_lstT, iu_bl, iu_int, iu_non, iu_str, iu_tup, iu_lst, iu_ins, sb_t, sb_l, y_appi, it_m1, fs_int, runF_eq, bind_ok, opt_some, ↓nxt_nx, ↓nxt_ret, ↓nxt_brk, ↓nxt_cnt, mayO_some, ↓onB_bl, ↓onO_some, blO_bl, ng_int, nt_bl, i_tup, i_lst, l_lst, t_bl, range0, asgT, wipeE, saved, restore, putBack, List.getElem?_cons_zero, List.getElem?_cons_succ, List.set_cons_zero, List.set_cons_succ, List.length_cons, List.length_nil, List.cons_append, List.nil_append, List.replicate_succ, List.replicate_zero, List.getD_cons_zero, List.getD_cons_succ, List.map_nil, List.map_cons, List.any_cons, List.any_nil, Nat.reduceSub, Nat.reduceAdd, Nat.reduceLT, Nat.reduceLeDiff, Nat.zero_add, if_true, ite_true, ite_false, reduceIte, D.own, Bool.false_eq_true, Option.bind_some, Option.map_some, Bool.or_false, Bool.false_or, Bool.not_true, Bool.not_false, decide_true, decide_false, lim, n_add, n_shr, n_and, n_eq, n_ne, n_lt, n_le, n_gt, n_ge, c_isN_non, c_isN_tup, n_sum, n_all, n_any, n_listS, n_lenL, n_lenT, n_intI, n_tupleT, n_tuple, n_list, n_listT, n_allf, n_anyf, n_sumf, nw_I, nw_If, nw_bl, nw_tup, nw_lst, k_ii, k_ib, k_is, k_il, k_it, k_bb, k_bi, k_tt, k_tl, k_ll, k_lt, k_llt, k_tlt, n_inT, n_or, n_mod hs0]
  rw [setL_I (by rw [List.length_set, List.length_set, w1]; exact Nat.mod_lt _ hs0)]
  have hl3 : (((ow.set st 0).set ((st + 1) % s) 1).set ((st + 2) % s) 1).length = s := by rw [List.length_set, List.length_set, List.length_set, w1]
  generalize ((ow.set st 0).set ((st + 1) % s) 1).set ((st + 2) % s) 1 = ol at hl3
  simp only [rd_non, rd_bl, rd_int, rd_str, rd_scr, rd_tup, rd_lst, rd_ins, rd_tupT, rd_lstT, rd_insT, pk_non, pk_bl, pk_int, pk_str, pk_scr, pk_tup, pk_lst, pk_ins, x_var, x_glo, x_int, x_bl, x_non, x_str, x_bin, x_neg, x_nt, x_an, x_or, x_cmp, x_chn, x_ite, x_tup, x_lst, x_sub, x_subv, x_att, x_attv, x_call, x_bi, x_biv, x_lc, x_mk, x_met, x_isi, x_gcd, x_bln, xs_nil, xs_cons, xa_nil, xa_cons, xa_lend, xr_seq, xr_rng1, xr_rng2, xr_enm, xr_rev, xt_an, xt_or, xt_nt, xt_cmp, xt_chn, xt_tv, xts_nil, xts_one, y_asg, y_exp, y_ret, y_retN, y_ite, y_fr, y_brk, y_cnt, y_pas, y_par, ys_nil, ys_cons, y_unp, y_setv, y_apG, y_app, y_stf, run_nx, run_ret, io_t, io_f, io_n, ln_nil, ln_cons, ln_lend, f_non, f_bl, f_int, f_str, f_tup, f_lst, f_ins, f_tupT, f_lstT, f_insT, fs_nil, fs_cons, fs_I, fs_blf, fs_If, fs_tupf, fs_lstf, fs_lstT, fs_app, fs_rev, it_eq, it_l, it_t, it_bl, it_int, it_non, it_str, it_tup, it_lst, it_ins, it_lstT, iu_bl, iu_int, iu_non, iu_str, iu_tup, iu_lst, iu_ins, sb_t, sb_l, y_appi, it_m1, fs_int, runF_eq, bind_ok, opt_some, ↓nxt_nx, ↓nxt_ret, ↓nxt_brk, ↓nxt_cnt, mayO_some, ↓onB_bl, ↓onO_some, blO_bl, ng_int, nt_bl, i_tup, i_lst, l_lst, t_bl, range0, asgT, wipeE, saved, restore, putBack, List.getElem?_cons_zero, List.getElem?_cons_succ, List.set_cons_zero, List.set_cons_succ, List.length_cons, List.length_nil, List.cons_append, List.nil_append, List.replicate_succ, List.replicate_zero, List.getD_cons_zero, List.getD_cons_succ, List.map_nil, List.map_cons, List.any_cons, List.any_nil, Nat.reduceSub, Nat.reduceAdd, Nat.reduceLT, Nat.reduceLeDiff, Nat.zero_add, if_true, ite_true, ite_false, reduceIte, D.own, Bool.false_eq_true, Option.bind_some, Option.map_some, Bool.or_false, Bool.false_or, Bool.not_true, Bool.not_false, decide_true, decide_false, lim, n_add, n_shr, n_and, n_eq, n_ne, n_lt, n_le, n_gt, n_ge, c_isN_non, c_isN_tup, n_sum, n_all, n_any, n_listS, n_lenL, n_lenT, n_intI, n_tupleT, n_tuple, n_list, n_listT, n_allf, n_anyf, n_sumf, nw_I, nw_If, nw_bl, nw_tup, nw_lst, k_ii, k_ib, k_is, k_il, k_it, k_bb, k_bi, k_tt, k_tl, k_ll, k_lt, k_llt, k_tlt, n_inT, n_or, rg_I (show s < 2 ^ 62 by omega)]
  rw [lcR_ok (p := fun k => decide (ol.getD k 0 = 0) || decide (ol.getD k 0 = 2)) (f := fun k => I (2 ^ k))]
  · simp only [rd_non, rd_bl, rd_int, rd_str, rd_scr, rd_tup, rd_lst, rd_ins, rd_tupT, rd_lstT, rd_insT, pk_non, pk_bl, pk_int, pk_str, pk_scr, pk_tup, pk_lst, pk_ins, x_var, x_glo, x_int, x_bl, x_non, x_str, x_bin, x_neg, x_nt, x_an, x_or, x_cmp, x_chn, x_ite, x_tup, x_lst, x_sub, x_subv, x_att, x_attv, x_call, x_bi, x_biv, x_lc, x_mk, x_met, x_isi, x_gcd, x_bln, xs_nil, xs_cons, xa_nil, xa_cons, xa_lend, xr_seq, xr_rng1, xr_rng2, xr_enm, xr_rev, xt_an, xt_or, xt_nt, xt_cmp, xt_chn, xt_tv, xts_nil, xts_one, y_asg, y_exp, y_ret, y_retN, y_ite, y_fr, y_brk, y_cnt, y_pas, y_par, ys_nil, ys_cons, y_unp, y_setv, y_apG, y_app, y_stf, run_nx, run_ret, io_t, io_f, io_n, ln_nil, ln_cons, ln_lend, f_non, f_bl, f_int, f_str, f_tup, f_lst, f_ins, f_tupT, f_lstT, f_insT, fs_nil, fs_cons, fs_I, fs_blf, fs_If, fs_tupf, fs_lstf, fs_lstT, fs_app, fs_rev, it_eq, it_l, it_t, it_bl, it_int, it_non, it_str, it_tup, it_lst, it_ins, it_lstT, iu_bl, iu_int, iu_non, iu_str, iu_tup, iu_lst, iu_ins, sb_t, sb_l, y_appi, it_m1, fs_int, runF_eq, bind_ok, opt_some, ↓nxt_nx, ↓nxt_ret, ↓nxt_brk, ↓nxt_cnt, mayO_some, ↓onB_bl, ↓onO_some, blO_bl, ng_int, nt_bl, i_tup, i_lst, l_lst, t_bl, range0, asgT, wipeE, saved, restore, putBack, List.getElem?_cons_zero, List.getElem?_cons_succ, List.set_cons_zero, List.set_cons_succ, List.length_cons, List.length_nil, List.cons_append, List.nil_append, List.replicate_succ, List.replicate_zero, List.getD_cons_zero, List.getD_cons_succ, List.map_nil, List.map_cons, List.any_cons, List.any_nil, Nat.reduceSub, Nat.reduceAdd, Nat.reduceLT, Nat.reduceLeDiff, Nat.zero_add, if_true, ite_true, ite_false, reduceIte, D.own, Bool.false_eq_true, Option.bind_some, Option.map_some, Bool.or_false, Bool.false_or, Bool.not_true, Bool.not_false, decide_true, decide_false, lim, n_add, n_shr, n_and, n_eq, n_ne, n_lt, n_le, n_gt, n_ge, c_isN_non, c_isN_tup, n_sum, n_all, n_any, n_listS, n_lenL, n_lenT, n_intI, n_tupleT, n_tuple, n_list, n_listT, n_allf, n_anyf, n_sumf, nw_I, nw_If, nw_bl, nw_tup, nw_lst, k_ii, k_ib, k_is, k_il, k_it, k_bb, k_bi, k_tt, k_tl, k_ll, k_lt, k_llt, k_tlt, n_inT, n_or, rg_I (show s < 2 ^ 62 by omega)]
    rw [show (List.map (fun k => 2 ^ k) (List.filter (fun k => decide (ol.getD k 0 = 0) || decide (ol.getD k 0 = 2)) (List.range s))).sum = own s (fun k => decide (ol.getD k 0 = 0) || decide (ol.getD k 0 = 2)) from rfl]
    generalize own s (fun k => decide (ol.getD k 0 = 0) || decide (ol.getD k 0 = 2)) = o1
    rw [lcR_ok (p := fun k => decide (ol.getD k 0 = 1) || decide (ol.getD k 0 = 2)) (f := fun k => I (2 ^ k))]
    · simp only [rd_non, rd_bl, rd_int, rd_str, rd_scr, rd_tup, rd_lst, rd_ins, rd_tupT, rd_lstT, rd_insT, pk_non, pk_bl, pk_int, pk_str, pk_scr, pk_tup, pk_lst, pk_ins, x_var, x_glo, x_int, x_bl, x_non, x_str, x_bin, x_neg, x_nt, x_an, x_or, x_cmp, x_chn, x_ite, x_tup, x_lst, x_sub, x_subv, x_att, x_attv, x_call, x_bi, x_biv, x_lc, x_mk, x_met, x_isi, x_gcd, x_bln, xs_nil, xs_cons, xa_nil, xa_cons, xa_lend, xr_seq, xr_rng1, xr_rng2, xr_enm, xr_rev, xt_an, xt_or, xt_nt, xt_cmp, xt_chn, xt_tv, xts_nil, xts_one, y_asg, y_exp, y_ret, y_retN, y_ite, y_fr, y_brk, y_cnt, y_pas, y_par, ys_nil, ys_cons, y_unp, y_setv, y_apG, y_app, y_stf, run_nx, run_ret, io_t, io_f, io_n, ln_nil, ln_cons, ln_lend, f_non, f_bl, f_int, f_str, f_tup, f_lst, f_ins, f_tupT, f_lstT, f_insT, fs_nil, fs_cons, fs_I, fs_blf, fs_If, fs_tupf, fs_lstf, fs_lstT, fs_app, fs_rev, it_eq, it_l, it_t, it_bl, it_int, it_non, it_str, it_tup, it_lst, it_ins, it_lstT, iu_bl, iu_int, iu_non, iu_str, iu_tup, iu_lst, iu_ins, sb_t, sb_l, y_appi, it_m1, fs_int, runF_eq, bind_ok, opt_some, ↓nxt_nx, ↓nxt_ret, ↓nxt_brk, ↓nxt_cnt, mayO_some, ↓onB_bl, ↓onO_some, blO_bl, ng_int, nt_bl, i_tup, i_lst, l_lst, t_bl, range0, asgT, wipeE, saved, restore, putBack, List.getElem?_cons_zero, List.getElem?_cons_succ, List.set_cons_zero, List.set_cons_succ, List.length_cons, List.length_nil, List.cons_append, List.nil_append, List.replicate_succ, List.replicate_zero, List.getD_cons_zero, List.getD_cons_succ, List.map_nil, List.map_cons, List.any_cons, List.any_nil, Nat.reduceSub, Nat.reduceAdd, Nat.reduceLT, Nat.reduceLeDiff, Nat.zero_add, if_true, ite_true, ite_false, reduceIte, D.own, Bool.false_eq_true, Option.bind_some, Option.map_some, Bool.or_false, Bool.false_or, Bool.not_true, Bool.not_false, decide_true, decide_false, lim, n_add, n_shr, n_and, n_eq, n_ne, n_lt, n_le, n_gt, n_ge, c_isN_non, c_isN_tup, n_sum, n_all, n_any, n_listS, n_lenL, n_lenT, n_intI, n_tupleT, n_tuple, n_list, n_listT, n_allf, n_anyf, n_sumf, nw_I, nw_If, nw_bl, nw_tup, nw_lst, k_ii, k_ib, k_is, k_il, k_it, k_bb, k_bi, k_tt, k_tl, k_ll, k_lt, k_llt, k_tlt, n_inT, n_or, shl6 h6, rg_I (show 2 ^ s < 2 ^ 62 by omega)]
      generalize (List.map (fun k => 2 ^ k) (List.filter (fun k => decide (ol.getD k 0 = 1) || decide (ol.getD k 0 = 2)) (List.range s))).sum = o2
      rw [lcR_map (f := fun m => .bl (K36.sub m o1 || K36.sub m o2))]
      · simp only [rd_non, rd_bl, rd_int, rd_str, rd_scr, rd_tup, rd_lst, rd_ins, rd_tupT, rd_lstT, rd_insT, pk_non, pk_bl, pk_int, pk_str, pk_scr, pk_tup, pk_lst, pk_ins, x_var, x_glo, x_int, x_bl, x_non, x_str, x_bin, x_neg, x_nt, x_an, x_or, x_cmp, x_chn, x_ite, x_tup, x_lst, x_sub, x_subv, x_att, x_attv, x_call, x_bi, x_biv, x_lc, x_mk, x_met, x_isi, x_gcd, x_bln, xs_nil, xs_cons, xa_nil, xa_cons, xa_lend, xr_seq, xr_rng1, xr_rng2, xr_enm, xr_rev, xt_an, xt_or, xt_nt, xt_cmp, xt_chn, xt_tv, xts_nil, xts_one, y_asg, y_exp, y_ret, y_retN, y_ite, y_fr, y_brk, y_cnt, y_pas, y_par, ys_nil, ys_cons, y_unp, y_setv, y_apG, y_app, y_stf, run_nx, run_ret, io_t, io_f, io_n, ln_nil, ln_cons, ln_lend, f_non, f_bl, f_int, f_str, f_tup, f_lst, f_ins, f_tupT, f_lstT, f_insT, fs_nil, fs_cons, fs_I, fs_blf, fs_If, fs_tupf, fs_lstf, fs_lstT, fs_app, fs_rev, it_eq, it_l, it_t, it_bl, it_int, it_non, it_str, it_tup, it_lst, it_ins, it_lstT, iu_bl, iu_int, iu_non, iu_str, iu_tup, iu_lst, iu_ins, sb_t, sb_l, y_appi, it_m1, fs_int, runF_eq, bind_ok, opt_some, ↓nxt_nx, ↓nxt_ret, ↓nxt_brk, ↓nxt_cnt, mayO_some, ↓onB_bl, ↓onO_some, blO_bl, ng_int, nt_bl, i_tup, i_lst, l_lst, t_bl, range0, asgT, wipeE, saved, restore, putBack, List.getElem?_cons_zero, List.getElem?_cons_succ, List.set_cons_zero, List.set_cons_succ, List.length_cons, List.length_nil, List.cons_append, List.nil_append, List.replicate_succ, List.replicate_zero, List.getD_cons_zero, List.getD_cons_succ, List.map_nil, List.map_cons, List.any_cons, List.any_nil, Nat.reduceSub, Nat.reduceAdd, Nat.reduceLT, Nat.reduceLeDiff, Nat.zero_add, if_true, ite_true, ite_false, reduceIte, D.own, Bool.false_eq_true, Option.bind_some, Option.map_some, Bool.or_false, Bool.false_or, Bool.not_true, Bool.not_false, decide_true, decide_false, lim, n_add, n_shr, n_and, n_eq, n_ne, n_lt, n_le, n_gt, n_ge, c_isN_non, c_isN_tup, n_sum, n_all, n_any, n_listS, n_lenL, n_lenT, n_intI, n_tupleT, n_tuple, n_list, n_listT, n_allf, n_anyf, n_sumf, nw_I, nw_If, nw_bl, nw_tup, nw_lst, k_ii, k_ib, k_is, k_il, k_it, k_bb, k_bi, k_tt, k_tl, k_ll, k_lt, k_llt, k_tlt, n_inT, n_or]
        exact ⟨true, _, d2, rfl, (Fam.sub h1 h6 o1).or (Fam.sub h1 h6 o2), F2.up (by omega)⟩
      · intro m hm
        refine ⟨_, rfl, ?_⟩
        cases h : K36.sub m o1 with
        | true =>
          simp only [rd_non, rd_bl, rd_int, rd_str, rd_scr, rd_tup, rd_lst, rd_ins, rd_tupT, rd_lstT, rd_insT, pk_non, pk_bl, pk_int, pk_str, pk_scr, pk_tup, pk_lst, pk_ins, x_var, x_glo, x_int, x_bl, x_non, x_str, x_bin, x_neg, x_nt, x_an, x_or, x_cmp, x_chn, x_ite, x_tup, x_lst, x_sub, x_subv, x_att, x_attv, x_call, x_bi, x_biv, x_lc, x_mk, x_met, x_isi, x_gcd, x_bln, xs_nil, xs_cons, xa_nil, xa_cons, xa_lend, xr_seq, xr_rng1, xr_rng2, xr_enm, xr_rev, xt_an, xt_or, xt_nt, xt_cmp, xt_chn, xt_tv, xts_nil, xts_one, y_asg, y_exp, y_ret, y_retN, y_ite, y_fr, y_brk, y_cnt, y_pas, y_par, ys_nil, ys_cons, y_unp, y_setv, y_apG, y_app, y_stf, run_nx, run_ret, io_t, io_f, io_n, ln_nil, ln_cons, ln_lend, f_non, f_bl, f_int, f_str, f_tup, f_lst, f_ins, f_tupT, f_lstT, f_insT, fs_nil, fs_cons, fs_I, fs_blf, fs_If, fs_tupf, fs_lstf, fs_lstT, fs_app, fs_rev, it_eq, it_l, it_t, it_bl, it_int, it_non, it_str, it_tup, it_lst, it_ins, it_lstT, iu_bl, iu_int, iu_non, iu_str, iu_tup, iu_lst, iu_ins, sb_t, sb_l, y_appi, it_m1, fs_int, runF_eq, bind_ok, opt_some, ↓nxt_nx, ↓nxt_ret, ↓nxt_brk, ↓nxt_cnt, mayO_some, ↓onB_bl, ↓onO_some, blO_bl, ng_int, nt_bl, i_tup, i_lst, l_lst, t_bl, range0, asgT, wipeE, saved, restore, putBack, List.getElem?_cons_zero, List.getElem?_cons_succ, List.set_cons_zero, List.set_cons_succ, List.length_cons, List.length_nil, List.cons_append, List.nil_append, List.replicate_succ, List.replicate_zero, List.getD_cons_zero, List.getD_cons_succ, List.map_nil, List.map_cons, List.any_cons, List.any_nil, Nat.reduceSub, Nat.reduceAdd, Nat.reduceLT, Nat.reduceLeDiff, Nat.zero_add, if_true, ite_true, ite_false, reduceIte, D.own, Bool.false_eq_true, Option.bind_some, Option.map_some, Bool.or_false, Bool.false_or, Bool.not_true, Bool.not_false, decide_true, decide_false, lim, n_add, n_shr, n_and, n_eq, n_ne, n_lt, n_le, n_gt, n_ge, c_isN_non, c_isN_tup, n_sum, n_all, n_any, n_listS, n_lenL, n_lenT, n_intI, n_tupleT, n_tuple, n_list, n_listT, n_allf, n_anyf, n_sumf, nw_I, nw_If, nw_bl, nw_tup, nw_lst, k_ii, k_ib, k_is, k_il, k_it, k_bb, k_bi, k_tt, k_tl, k_ll, k_lt, k_llt, k_tlt, n_inT, n_or, sub_dec, h, Bool.true_or]
          exact gd rfl
        | false =>
          simp only [rd_non, rd_bl, rd_int, rd_str, rd_scr, rd_tup, rd_lst, rd_ins, rd_tupT, rd_lstT, rd_insT, pk_non, pk_bl, pk_int, pk_str, pk_scr, pk_tup, pk_lst, pk_ins, x_var, x_glo, x_int, x_bl, x_non, x_str, x_bin, x_neg, x_nt, x_an, x_or, x_cmp, x_chn, x_ite, x_tup, x_lst, x_sub, x_subv, x_att, x_attv, x_call, x_bi, x_biv, x_lc, x_mk, x_met, x_isi, x_gcd, x_bln, xs_nil, xs_cons, xa_nil, xa_cons, xa_lend, xr_seq, xr_rng1, xr_rng2, xr_enm, xr_rev, xt_an, xt_or, xt_nt, xt_cmp, xt_chn, xt_tv, xts_nil, xts_one, y_asg, y_exp, y_ret, y_retN, y_ite, y_fr, y_brk, y_cnt, y_pas, y_par, ys_nil, ys_cons, y_unp, y_setv, y_apG, y_app, y_stf, run_nx, run_ret, io_t, io_f, io_n, ln_nil, ln_cons, ln_lend, f_non, f_bl, f_int, f_str, f_tup, f_lst, f_ins, f_tupT, f_lstT, f_insT, fs_nil, fs_cons, fs_I, fs_blf, fs_If, fs_tupf, fs_lstf, fs_lstT, fs_app, fs_rev, it_eq, it_l, it_t, it_bl, it_int, it_non, it_str, it_tup, it_lst, it_ins, it_lstT, iu_bl, iu_int, iu_non, iu_str, iu_tup, iu_lst, iu_ins, sb_t, sb_l, y_appi, it_m1, fs_int, runF_eq, bind_ok, opt_some, ↓nxt_nx, ↓nxt_ret, ↓nxt_brk, ↓nxt_cnt, mayO_some, ↓onB_bl, ↓onO_some, blO_bl, ng_int, nt_bl, i_tup, i_lst, l_lst, t_bl, range0, asgT, wipeE, saved, restore, putBack, List.getElem?_cons_zero, List.getElem?_cons_succ, List.set_cons_zero, List.set_cons_succ, List.length_cons, List.length_nil, List.cons_append, List.nil_append, List.replicate_succ, List.replicate_zero, List.getD_cons_zero, List.getD_cons_succ, List.map_nil, List.map_cons, List.any_cons, List.any_nil, Nat.reduceSub, Nat.reduceAdd, Nat.reduceLT, Nat.reduceLeDiff, Nat.zero_add, if_true, ite_true, ite_false, reduceIte, D.own, Bool.false_eq_true, Option.bind_some, Option.map_some, Bool.or_false, Bool.false_or, Bool.not_true, Bool.not_false, decide_true, decide_false, lim, n_add, n_shr, n_and, n_eq, n_ne, n_lt, n_le, n_gt, n_ge, c_isN_non, c_isN_tup, n_sum, n_all, n_any, n_listS, n_lenL, n_lenT, n_intI, n_tupleT, n_tuple, n_list, n_listT, n_allf, n_anyf, n_sumf, nw_I, nw_If, nw_bl, nw_tup, nw_lst, k_ii, k_ib, k_is, k_il, k_it, k_bb, k_bi, k_tt, k_tl, k_ll, k_lt, k_llt, k_tlt, n_inT, n_or, sub_dec, h]
          exact gd rfl
      · exact le_lim (by simp; omega)
      · rfl
    · intro k hk
      have hk6 := List.mem_range.mp hk
      refine ⟨_, rfl, ?_⟩
      cases h : decide (ol.getD k 0 = 1) with
      | true =>
        simp only [rd_non, rd_bl, rd_int, rd_str, rd_scr, rd_tup, rd_lst, rd_ins, rd_tupT, rd_lstT, rd_insT, pk_non, pk_bl, pk_int, pk_str, pk_scr, pk_tup, pk_lst, pk_ins, x_var, x_glo, x_int, x_bl, x_non, x_str, x_bin, x_neg, x_nt, x_an, x_or, x_cmp, x_chn, x_ite, x_tup, x_lst, x_sub, x_subv, x_att, x_attv, x_call, x_bi, x_biv, x_lc, x_mk, x_met, x_isi, x_gcd, x_bln, xs_nil, xs_cons, xa_nil, xa_cons, xa_lend, xr_seq, xr_rng1, xr_rng2, xr_enm, xr_rev, xt_an, xt_or, xt_nt, xt_cmp, xt_chn, xt_tv, xts_nil, xts_one, y_asg, y_exp, y_ret, y_retN, y_ite, y_fr, y_brk, y_cnt, y_pas, y_par, ys_nil, ys_cons, y_unp, y_setv, y_apG, y_app, y_stf, run_nx, run_ret, io_t, io_f, io_n, ln_nil, ln_cons, ln_lend, f_non, f_bl, f_int, f_str, f_tup, f_lst, f_ins, f_tupT, f_lstT, f_insT, fs_nil, fs_cons, fs_I, fs_blf, fs_If, fs_tupf, fs_lstf, fs_lstT, fs_app, fs_rev, it_eq, it_l, it_t, it_bl, it_int, it_non, it_str, it_tup, it_lst, it_ins, it_lstT, iu_bl, iu_int, iu_non, iu_str, iu_tup, iu_lst, iu_ins, sb_t, sb_l, y_appi, it_m1, fs_int, runF_eq, bind_ok, opt_some, ↓nxt_nx, ↓nxt_ret, ↓nxt_brk, ↓nxt_cnt, mayO_some, ↓onB_bl, ↓onO_some, blO_bl, ng_int, nt_bl, i_tup, i_lst, l_lst, t_bl, range0, asgT, wipeE, saved, restore, putBack, List.getElem?_cons_zero, List.getElem?_cons_succ, List.set_cons_zero, List.set_cons_succ, List.length_cons, List.length_nil, List.cons_append, List.nil_append, List.replicate_succ, List.replicate_zero, List.getD_cons_zero, List.getD_cons_succ, List.map_nil, List.map_cons, List.any_cons, List.any_nil, Nat.reduceSub, Nat.reduceAdd, Nat.reduceLT, Nat.reduceLeDiff, Nat.zero_add, if_true, ite_true, ite_false, reduceIte, D.own, Bool.false_eq_true, Option.bind_some, Option.map_some, Bool.or_false, Bool.false_or, Bool.not_true, Bool.not_false, decide_true, decide_false, lim, n_add, n_shr, n_and, n_eq, n_ne, n_lt, n_le, n_gt, n_ge, c_isN_non, c_isN_tup, n_sum, n_all, n_any, n_listS, n_lenL, n_lenT, n_intI, n_tupleT, n_tuple, n_list, n_listT, n_allf, n_anyf, n_sumf, nw_I, nw_If, nw_bl, nw_tup, nw_lst, k_ii, k_ib, k_is, k_il, k_it, k_bb, k_bi, k_tt, k_tl, k_ll, k_lt, k_llt, k_tlt, n_inT, n_or, it_eq, get_I (show k < ol.length by omega), h, Bool.true_or]
        refine gt ⟨fun _ => rfl, fun _ => ?_⟩
        simp only [rd_non, rd_bl, rd_int, rd_str, rd_scr, rd_tup, rd_lst, rd_ins, rd_tupT, rd_lstT, rd_insT, pk_non, pk_bl, pk_int, pk_str, pk_scr, pk_tup, pk_lst, pk_ins, x_var, x_glo, x_int, x_bl, x_non, x_str, x_bin, x_neg, x_nt, x_an, x_or, x_cmp, x_chn, x_ite, x_tup, x_lst, x_sub, x_subv, x_att, x_attv, x_call, x_bi, x_biv, x_lc, x_mk, x_met, x_isi, x_gcd, x_bln, xs_nil, xs_cons, xa_nil, xa_cons, xa_lend, xr_seq, xr_rng1, xr_rng2, xr_enm, xr_rev, xt_an, xt_or, xt_nt, xt_cmp, xt_chn, xt_tv, xts_nil, xts_one, y_asg, y_exp, y_ret, y_retN, y_ite, y_fr, y_brk, y_cnt, y_pas, y_par, ys_nil, ys_cons, y_unp, y_setv, y_apG, y_app, y_stf, run_nx, run_ret, io_t, io_f, io_n, ln_nil, ln_cons, ln_lend, f_non, f_bl, f_int, f_str, f_tup, f_lst, f_ins, f_tupT, f_lstT, f_insT, fs_nil, fs_cons, fs_I, fs_blf, fs_If, fs_tupf, fs_lstf, fs_lstT, fs_app, fs_rev, it_eq, it_l, it_t, it_bl, it_int, it_non, it_str, it_tup, it_lst, it_ins, it_lstT, iu_bl, iu_int, iu_non, iu_str, iu_tup, iu_lst, iu_ins, sb_t, sb_l, y_appi, it_m1, fs_int, runF_eq, bind_ok, opt_some, ↓nxt_nx, ↓nxt_ret, ↓nxt_brk, ↓nxt_cnt, mayO_some, ↓onB_bl, ↓onO_some, blO_bl, ng_int, nt_bl, i_tup, i_lst, l_lst, t_bl, range0, asgT, wipeE, saved, restore, putBack, List.getElem?_cons_zero, List.getElem?_cons_succ, List.set_cons_zero, List.set_cons_succ, List.length_cons, List.length_nil, List.cons_append, List.nil_append, List.replicate_succ, List.replicate_zero, List.getD_cons_zero, List.getD_cons_succ, List.map_nil, List.map_cons, List.any_cons, List.any_nil, Nat.reduceSub, Nat.reduceAdd, Nat.reduceLT, Nat.reduceLeDiff, Nat.zero_add, if_true, ite_true, ite_false, reduceIte, D.own, Bool.false_eq_true, Option.bind_some, Option.map_some, Bool.or_false, Bool.false_or, Bool.not_true, Bool.not_false, decide_true, decide_false, lim, n_add, n_shr, n_and, n_eq, n_ne, n_lt, n_le, n_gt, n_ge, c_isN_non, c_isN_tup, n_sum, n_all, n_any, n_listS, n_lenL, n_lenT, n_intI, n_tupleT, n_tuple, n_list, n_listT, n_allf, n_anyf, n_sumf, nw_I, nw_If, nw_bl, nw_tup, nw_lst, k_ii, k_ib, k_is, k_il, k_it, k_bb, k_bi, k_tt, k_tl, k_ll, k_lt, k_llt, k_tlt, n_inT, n_or, shl6 (show k ≤ 6 by omega)]
        exact gd rfl
      | false =>
        simp only [rd_non, rd_bl, rd_int, rd_str, rd_scr, rd_tup, rd_lst, rd_ins, rd_tupT, rd_lstT, rd_insT, pk_non, pk_bl, pk_int, pk_str, pk_scr, pk_tup, pk_lst, pk_ins, x_var, x_glo, x_int, x_bl, x_non, x_str, x_bin, x_neg, x_nt, x_an, x_or, x_cmp, x_chn, x_ite, x_tup, x_lst, x_sub, x_subv, x_att, x_attv, x_call, x_bi, x_biv, x_lc, x_mk, x_met, x_isi, x_gcd, x_bln, xs_nil, xs_cons, xa_nil, xa_cons, xa_lend, xr_seq, xr_rng1, xr_rng2, xr_enm, xr_rev, xt_an, xt_or, xt_nt, xt_cmp, xt_chn, xt_tv, xts_nil, xts_one, y_asg, y_exp, y_ret, y_retN, y_ite, y_fr, y_brk, y_cnt, y_pas, y_par, ys_nil, ys_cons, y_unp, y_setv, y_apG, y_app, y_stf, run_nx, run_ret, io_t, io_f, io_n, ln_nil, ln_cons, ln_lend, f_non, f_bl, f_int, f_str, f_tup, f_lst, f_ins, f_tupT, f_lstT, f_insT, fs_nil, fs_cons, fs_I, fs_blf, fs_If, fs_tupf, fs_lstf, fs_lstT, fs_app, fs_rev, it_eq, it_l, it_t, it_bl, it_int, it_non, it_str, it_tup, it_lst, it_ins, it_lstT, iu_bl, iu_int, iu_non, iu_str, iu_tup, iu_lst, iu_ins, sb_t, sb_l, y_appi, it_m1, fs_int, runF_eq, bind_ok, opt_some, ↓nxt_nx, ↓nxt_ret, ↓nxt_brk, ↓nxt_cnt, mayO_some, ↓onB_bl, ↓onO_some, blO_bl, ng_int, nt_bl, i_tup, i_lst, l_lst, t_bl, range0, asgT, wipeE, saved, restore, putBack, List.getElem?_cons_zero, List.getElem?_cons_succ, List.set_cons_zero, List.set_cons_succ, List.length_cons, List.length_nil, List.cons_append, List.nil_append, List.replicate_succ, List.replicate_zero, List.getD_cons_zero, List.getD_cons_succ, List.map_nil, List.map_cons, List.any_cons, List.any_nil, Nat.reduceSub, Nat.reduceAdd, Nat.reduceLT, Nat.reduceLeDiff, Nat.zero_add, if_true, ite_true, ite_false, reduceIte, D.own, Bool.false_eq_true, Option.bind_some, Option.map_some, Bool.or_false, Bool.false_or, Bool.not_true, Bool.not_false, decide_true, decide_false, lim, n_add, n_shr, n_and, n_eq, n_ne, n_lt, n_le, n_gt, n_ge, c_isN_non, c_isN_tup, n_sum, n_all, n_any, n_listS, n_lenL, n_lenT, n_intI, n_tupleT, n_tuple, n_list, n_listT, n_allf, n_anyf, n_sumf, nw_I, nw_If, nw_bl, nw_tup, nw_lst, k_ii, k_ib, k_is, k_il, k_it, k_bb, k_bi, k_tt, k_tl, k_ll, k_lt, k_llt, k_tlt, n_inT, n_or, it_eq, get_I (show k < ol.length by omega), h]
        refine gt ⟨fun _ => rfl, fun _ => ?_⟩
        simp only [rd_non, rd_bl, rd_int, rd_str, rd_scr, rd_tup, rd_lst, rd_ins, rd_tupT, rd_lstT, rd_insT, pk_non, pk_bl, pk_int, pk_str, pk_scr, pk_tup, pk_lst, pk_ins, x_var, x_glo, x_int, x_bl, x_non, x_str, x_bin, x_neg, x_nt, x_an, x_or, x_cmp, x_chn, x_ite, x_tup, x_lst, x_sub, x_subv, x_att, x_attv, x_call, x_bi, x_biv, x_lc, x_mk, x_met, x_isi, x_gcd, x_bln, xs_nil, xs_cons, xa_nil, xa_cons, xa_lend, xr_seq, xr_rng1, xr_rng2, xr_enm, xr_rev, xt_an, xt_or, xt_nt, xt_cmp, xt_chn, xt_tv, xts_nil, xts_one, y_asg, y_exp, y_ret, y_retN, y_ite, y_fr, y_brk, y_cnt, y_pas, y_par, ys_nil, ys_cons, y_unp, y_setv, y_apG, y_app, y_stf, run_nx, run_ret, io_t, io_f, io_n, ln_nil, ln_cons, ln_lend, f_non, f_bl, f_int, f_str, f_tup, f_lst, f_ins, f_tupT, f_lstT, f_insT, fs_nil, fs_cons, fs_I, fs_blf, fs_If, fs_tupf, fs_lstf, fs_lstT, fs_app, fs_rev, it_eq, it_l, it_t, it_bl, it_int, it_non, it_str, it_tup, it_lst, it_ins, it_lstT, iu_bl, iu_int, iu_non, iu_str, iu_tup, iu_lst, iu_ins, sb_t, sb_l, y_appi, it_m1, fs_int, runF_eq, bind_ok, opt_some, ↓nxt_nx, ↓nxt_ret, ↓nxt_brk, ↓nxt_cnt, mayO_some, ↓onB_bl, ↓onO_some, blO_bl, ng_int, nt_bl, i_tup, i_lst, l_lst, t_bl, range0, asgT, wipeE, saved, restore, putBack, List.getElem?_cons_zero, List.getElem?_cons_succ, List.set_cons_zero, List.set_cons_succ, List.length_cons, List.length_nil, List.cons_append, List.nil_append, List.replicate_succ, List.replicate_zero, List.getD_cons_zero, List.getD_cons_succ, List.map_nil, List.map_cons, List.any_cons, List.any_nil, Nat.reduceSub, Nat.reduceAdd, Nat.reduceLT, Nat.reduceLeDiff, Nat.zero_add, if_true, ite_true, ite_false, reduceIte, D.own, Bool.false_eq_true, Option.bind_some, Option.map_some, Bool.or_false, Bool.false_or, Bool.not_true, Bool.not_false, decide_true, decide_false, lim, n_add, n_shr, n_and, n_eq, n_ne, n_lt, n_le, n_gt, n_ge, c_isN_non, c_isN_tup, n_sum, n_all, n_any, n_listS, n_lenL, n_lenT, n_intI, n_tupleT, n_tuple, n_list, n_listT, n_allf, n_anyf, n_sumf, nw_I, nw_If, nw_bl, nw_tup, nw_lst, k_ii, k_ib, k_is, k_il, k_it, k_bb, k_bi, k_tt, k_tl, k_ll, k_lt, k_llt, k_tlt, n_inT, n_or, shl6 (show k ≤ 6 by omega)]
        exact gd rfl
    · exact le_lim (by simp; omega)
    · rfl
  · intro k hk
    have hk6 := List.mem_range.mp hk
    refine ⟨_, rfl, ?_⟩
    cases h : decide (ol.getD k 0 = 0) with
    | true =>
      simp only [rd_non, rd_bl, rd_int, rd_str, rd_scr, rd_tup, rd_lst, rd_ins, rd_tupT, rd_lstT, rd_insT, pk_non, pk_bl, pk_int, pk_str, pk_scr, pk_tup, pk_lst, pk_ins, x_var, x_glo, x_int, x_bl, x_non, x_str, x_bin, x_neg, x_nt, x_an, x_or, x_cmp, x_chn, x_ite, x_tup, x_lst, x_sub, x_subv, x_att, x_attv, x_call, x_bi, x_biv, x_lc, x_mk, x_met, x_isi, x_gcd, x_bln, xs_nil, xs_cons, xa_nil, xa_cons, xa_lend, xr_seq, xr_rng1, xr_rng2, xr_enm, xr_rev, xt_an, xt_or, xt_nt, xt_cmp, xt_chn, xt_tv, xts_nil, xts_one, y_asg, y_exp, y_ret, y_retN, y_ite, y_fr, y_brk, y_cnt, y_pas, y_par, ys_nil, ys_cons, y_unp, y_setv, y_apG, y_app, y_stf, run_nx, run_ret, io_t, io_f, io_n, ln_nil, ln_cons, ln_lend, f_non, f_bl, f_int, f_str, f_tup, f_lst, f_ins, f_tupT, f_lstT, f_insT, fs_nil, fs_cons, fs_I, fs_blf, fs_If, fs_tupf, fs_lstf, fs_lstT, fs_app, fs_rev, it_eq, it_l, it_t, it_bl, it_int, it_non, it_str, it_tup, it_lst, it_ins, it_lstT, iu_bl, iu_int, iu_non, iu_str, iu_tup, iu_lst, iu_ins, sb_t, sb_l, y_appi, it_m1, fs_int, runF_eq, bind_ok, opt_some, ↓nxt_nx, ↓nxt_ret, ↓nxt_brk, ↓nxt_cnt, mayO_some, ↓onB_bl, ↓onO_some, blO_bl, ng_int, nt_bl, i_tup, i_lst, l_lst, t_bl, range0, asgT, wipeE, saved, restore, putBack, List.getElem?_cons_zero, List.getElem?_cons_succ, List.set_cons_zero, List.set_cons_succ, List.length_cons, List.length_nil, List.cons_append, List.nil_append, List.replicate_succ, List.replicate_zero, List.getD_cons_zero, List.getD_cons_succ, List.map_nil, List.map_cons, List.any_cons, List.any_nil, Nat.reduceSub, Nat.reduceAdd, Nat.reduceLT, Nat.reduceLeDiff, Nat.zero_add, if_true, ite_true, ite_false, reduceIte, D.own, Bool.false_eq_true, Option.bind_some, Option.map_some, Bool.or_false, Bool.false_or, Bool.not_true, Bool.not_false, decide_true, decide_false, lim, n_add, n_shr, n_and, n_eq, n_ne, n_lt, n_le, n_gt, n_ge, c_isN_non, c_isN_tup, n_sum, n_all, n_any, n_listS, n_lenL, n_lenT, n_intI, n_tupleT, n_tuple, n_list, n_listT, n_allf, n_anyf, n_sumf, nw_I, nw_If, nw_bl, nw_tup, nw_lst, k_ii, k_ib, k_is, k_il, k_it, k_bb, k_bi, k_tt, k_tl, k_ll, k_lt, k_llt, k_tlt, n_inT, n_or, it_eq, get_I (show k < ol.length by omega), h, Bool.true_or]
      refine gt ⟨fun _ => rfl, fun _ => ?_⟩
      simp only [rd_non, rd_bl, rd_int, rd_str, rd_scr, rd_tup, rd_lst, rd_ins, rd_tupT, rd_lstT, rd_insT, pk_non, pk_bl, pk_int, pk_str, pk_scr, pk_tup, pk_lst, pk_ins, x_var, x_glo, x_int, x_bl, x_non, x_str, x_bin, x_neg, x_nt, x_an, x_or, x_cmp, x_chn, x_ite, x_tup, x_lst, x_sub, x_subv, x_att, x_attv, x_call, x_bi, x_biv, x_lc, x_mk, x_met, x_isi, x_gcd, x_bln, xs_nil, xs_cons, xa_nil, xa_cons, xa_lend, xr_seq, xr_rng1, xr_rng2, xr_enm, xr_rev, xt_an, xt_or, xt_nt, xt_cmp, xt_chn, xt_tv, xts_nil, xts_one, y_asg, y_exp, y_ret, y_retN, y_ite, y_fr, y_brk, y_cnt, y_pas, y_par, ys_nil, ys_cons, y_unp, y_setv, y_apG, y_app, y_stf, run_nx, run_ret, io_t, io_f, io_n, ln_nil, ln_cons, ln_lend, f_non, f_bl, f_int, f_str, f_tup, f_lst, f_ins, f_tupT, f_lstT, f_insT, fs_nil, fs_cons, fs_I, fs_blf, fs_If, fs_tupf, fs_lstf, fs_lstT, fs_app, fs_rev, it_eq, it_l, it_t, it_bl, it_int, it_non, it_str, it_tup, it_lst, it_ins, it_lstT, iu_bl, iu_int, iu_non, iu_str, iu_tup, iu_lst, iu_ins, sb_t, sb_l, y_appi, it_m1, fs_int, runF_eq, bind_ok, opt_some, ↓nxt_nx, ↓nxt_ret, ↓nxt_brk, ↓nxt_cnt, mayO_some, ↓onB_bl, ↓onO_some, blO_bl, ng_int, nt_bl, i_tup, i_lst, l_lst, t_bl, range0, asgT, wipeE, saved, restore, putBack, List.getElem?_cons_zero, List.getElem?_cons_succ, List.set_cons_zero, List.set_cons_succ, List.length_cons, List.length_nil, List.cons_append, List.nil_append, List.replicate_succ, List.replicate_zero, List.getD_cons_zero, List.getD_cons_succ, List.map_nil, List.map_cons, List.any_cons, List.any_nil, Nat.reduceSub, Nat.reduceAdd, Nat.reduceLT, Nat.reduceLeDiff, Nat.zero_add, if_true, ite_true, ite_false, reduceIte, D.own, Bool.false_eq_true, Option.bind_some, Option.map_some, Bool.or_false, Bool.false_or, Bool.not_true, Bool.not_false, decide_true, decide_false, lim, n_add, n_shr, n_and, n_eq, n_ne, n_lt, n_le, n_gt, n_ge, c_isN_non, c_isN_tup, n_sum, n_all, n_any, n_listS, n_lenL, n_lenT, n_intI, n_tupleT, n_tuple, n_list, n_listT, n_allf, n_anyf, n_sumf, nw_I, nw_If, nw_bl, nw_tup, nw_lst, k_ii, k_ib, k_is, k_il, k_it, k_bb, k_bi, k_tt, k_tl, k_ll, k_lt, k_llt, k_tlt, n_inT, n_or, shl6 (show k ≤ 6 by omega)]
      exact gd rfl
    | false =>
      simp only [rd_non, rd_bl, rd_int, rd_str, rd_scr, rd_tup, rd_lst, rd_ins, rd_tupT, rd_lstT, rd_insT, pk_non, pk_bl, pk_int, pk_str, pk_scr, pk_tup, pk_lst, pk_ins, x_var, x_glo, x_int, x_bl, x_non, x_str, x_bin, x_neg, x_nt, x_an, x_or, x_cmp, x_chn, x_ite, x_tup, x_lst, x_sub, x_subv, x_att, x_attv, x_call, x_bi, x_biv, x_lc, x_mk, x_met, x_isi, x_gcd, x_bln, xs_nil, xs_cons, xa_nil, xa_cons, xa_lend, xr_seq, xr_rng1, xr_rng2, xr_enm, xr_rev, xt_an, xt_or, xt_nt, xt_cmp, xt_chn, xt_tv, xts_nil, xts_one, y_asg, y_exp, y_ret, y_retN, y_ite, y_fr, y_brk, y_cnt, y_pas, y_par, ys_nil, ys_cons, y_unp, y_setv, y_apG, y_app, y_stf, run_nx, run_ret, io_t, io_f, io_n, ln_nil, ln_cons, ln_lend, f_non, f_bl, f_int, f_str, f_tup, f_lst, f_ins, f_tupT, f_lstT, f_insT, fs_nil, fs_cons, fs_I, fs_blf, fs_If, fs_tupf, fs_lstf, fs_lstT, fs_app, fs_rev, it_eq, it_l, it_t, it_bl, it_int, it_non, it_str, it_tup, it_lst, it_ins, it_lstT, iu_bl, iu_int, iu_non, iu_str, iu_tup, iu_lst, iu_ins, sb_t, sb_l, y_appi, it_m1, fs_int, runF_eq, bind_ok, opt_some, ↓nxt_nx, ↓nxt_ret, ↓nxt_brk, ↓nxt_cnt, mayO_some, ↓onB_bl, ↓onO_some, blO_bl, ng_int, nt_bl, i_tup, i_lst, l_lst, t_bl, range0, asgT, wipeE, saved, restore, putBack, List.getElem?_cons_zero, List.getElem?_cons_succ, List.set_cons_zero, List.set_cons_succ, List.length_cons, List.length_nil, List.cons_append, List.nil_append, List.replicate_succ, List.replicate_zero, List.getD_cons_zero, List.getD_cons_succ, List.map_nil, List.map_cons, List.any_cons, List.any_nil, Nat.reduceSub, Nat.reduceAdd, Nat.reduceLT, Nat.reduceLeDiff, Nat.zero_add, if_true, ite_true, ite_false, reduceIte, D.own, Bool.false_eq_true, Option.bind_some, Option.map_some, Bool.or_false, Bool.false_or, Bool.not_true, Bool.not_false, decide_true, decide_false, lim, n_add, n_shr, n_and, n_eq, n_ne, n_lt, n_le, n_gt, n_ge, c_isN_non, c_isN_tup, n_sum, n_all, n_any, n_listS, n_lenL, n_lenT, n_intI, n_tupleT, n_tuple, n_list, n_listT, n_allf, n_anyf, n_sumf, nw_I, nw_If, nw_bl, nw_tup, nw_lst, k_ii, k_ib, k_is, k_il, k_it, k_bb, k_bi, k_tt, k_tl, k_ll, k_lt, k_llt, k_tlt, n_inT, n_or, it_eq, get_I (show k < ol.length by omega), h]
      refine gt ⟨fun _ => rfl, fun _ => ?_⟩
      simp only [rd_non, rd_bl, rd_int, rd_str, rd_scr, rd_tup, rd_lst, rd_ins, rd_tupT, rd_lstT, rd_insT, pk_non, pk_bl, pk_int, pk_str, pk_scr, pk_tup, pk_lst, pk_ins, x_var, x_glo, x_int, x_bl, x_non, x_str, x_bin, x_neg, x_nt, x_an, x_or, x_cmp, x_chn, x_ite, x_tup, x_lst, x_sub, x_subv, x_att, x_attv, x_call, x_bi, x_biv, x_lc, x_mk, x_met, x_isi, x_gcd, x_bln, xs_nil, xs_cons, xa_nil, xa_cons, xa_lend, xr_seq, xr_rng1, xr_rng2, xr_enm, xr_rev, xt_an, xt_or, xt_nt, xt_cmp, xt_chn, xt_tv, xts_nil, xts_one, y_asg, y_exp, y_ret, y_retN, y_ite, y_fr, y_brk, y_cnt, y_pas, y_par, ys_nil, ys_cons, y_unp, y_setv, y_apG, y_app, y_stf, run_nx, run_ret, io_t, io_f, io_n, ln_nil, ln_cons, ln_lend, f_non, f_bl, f_int, f_str, f_tup, f_lst, f_ins, f_tupT, f_lstT, f_insT, fs_nil, fs_cons, fs_I, fs_blf, fs_If, fs_tupf, fs_lstf, fs_lstT, fs_app, fs_rev, it_eq, it_l, it_t, it_bl, it_int, it_non, it_str, it_tup, it_lst, it_ins, it_lstT, iu_bl, iu_int, iu_non, iu_str, iu_tup, iu_lst, iu_ins, sb_t, sb_l, y_appi, it_m1, fs_int, runF_eq, bind_ok, opt_some, ↓nxt_nx, ↓nxt_ret, ↓nxt_brk, ↓nxt_cnt, mayO_some, ↓onB_bl, ↓onO_some, blO_bl, ng_int, nt_bl, i_tup, i_lst, l_lst, t_bl, range0, asgT, wipeE, saved, restore, putBack, List.getElem?_cons_zero, List.getElem?_cons_succ, List.set_cons_zero, List.set_cons_succ, List.length_cons, List.length_nil, List.cons_append, List.nil_append, List.replicate_succ, List.replicate_zero, List.getD_cons_zero, List.getD_cons_succ, List.map_nil, List.map_cons, List.any_cons, List.any_nil, Nat.reduceSub, Nat.reduceAdd, Nat.reduceLT, Nat.reduceLeDiff, Nat.zero_add, if_true, ite_true, ite_false, reduceIte, D.own, Bool.false_eq_true, Option.bind_some, Option.map_some, Bool.or_false, Bool.false_or, Bool.not_true, Bool.not_false, decide_true, decide_false, lim, n_add, n_shr, n_and, n_eq, n_ne, n_lt, n_le, n_gt, n_ge, c_isN_non, c_isN_tup, n_sum, n_all, n_any, n_listS, n_lenL, n_lenT, n_intI, n_tupleT, n_tuple, n_list, n_listT, n_allf, n_anyf, n_sumf, nw_I, nw_If, nw_bl, nw_tup, nw_lst, k_ii, k_ib, k_is, k_il, k_it, k_bb, k_bi, k_tt, k_tl, k_ll, k_lt, k_llt, k_tlt, n_inT, n_or, shl6 (show k ≤ 6 by omega)]
      exact gd rfl
  · exact le_lim (by simp; omega)
  · rfl
end
end K36

/-! ## P9 -/
set_option maxRecDepth 100000
set_option maxHeartbeats 4000000
namespace K36
open PySem PySem.Spec PyProof.Rows L2 VS
section
variable {s : Nat} {T : Nat → Bool} {env : En} {m : Bool} {i : Nat}
theorem thg_s {m : Nat} (h : s ≤ 6) (hm : m < 2 ^ s) : (List.range s).filter (fun k => decide (m >>> k &&& 1 = 1)) = thg m := by
  have key : (List.range 7).all (fun s => (List.range (2 ^ s)).all fun m => decide ((List.range s).filter (fun k => decide (m >>> k &&& 1 = 1)) = thg m)) = true := by decide +kernel
  exact of_decide_eq_true (List.all_eq_true.mp (List.all_eq_true.mp key s (List.mem_range.mpr (by omega))) m (List.mem_range.mpr hm))
theorem thg_in {m k : Nat} (h : s ≤ 6) (hm : m < 2 ^ s) (hk : k ∈ thg m) : k < s ∧ 2 ^ k ≤ m := by
  have key : (List.range 7).all (fun s => (List.range (2 ^ s)).all fun m => (thg m).all fun k => decide (k < s) && decide (2 ^ k ≤ m)) = true := by decide +kernel
  have := List.all_eq_true.mp (List.all_eq_true.mp (List.all_eq_true.mp key s (List.mem_range.mpr (by omega))) m (List.mem_range.mpr hm)) k hk
  simpa using this
theorem thg_ne {m : Nat} (hm : m < 64) (h0 : 1 ≤ m) : thg m ≠ [] := by
  have := all64 (f := fun m => decide (m = 0) || !decide (thg m = [])) (by decide +kernel) hm
  have h0' : ¬ m = 0 := by omega
  simpa [h0'] using this
theorem one_less {p m : Nat} (hp : p < 64) (hm : m < 64) (h : K36.sub p m = true) (hne : p ≠ m) : ∃ k ∈ thg m, K36.sub p (m - 2 ^ k) = true := by
  have := all64x (f := fun p m => !K36.sub p m || (decide (p = m) || (thg m).any fun k => K36.sub p (m - 2 ^ k))) (by decide +kernel) hp hm
  simpa [h, hne] using this
theorem Fam.step (h1 : 1 ≤ s) (h6 : s ≤ 6) (h0 : T 0 = true) (hd : ∀ m, 1 ≤ m → m < 2 ^ s → T m = true → ∀ k ∈ thg m, T (m - 2 ^ k) = true) : Fam s T := by
  refine ⟨h1, h6, h0, fun p m => ?_⟩
  induction m using Nat.strongRecOn with
  | _ m ih =>
    intro hm hT hs
    by_cases e : p = m
    · subst e; exact hT
    · have hp64 : p < 64 := by
        have e := beq_iff_eq.mp (show (p &&& m == p) = true from hs)
        have := Nat.and_le_right (n := p) (m := m)
        have := lt64 h6 hm
        omega
      obtain ⟨k, hk, hk2⟩ := one_less hp64 (lt64 h6 hm) hs e
      have := thg_in h6 hm hk
      have := Nat.two_pow_pos k
      exact ih (m - 2 ^ k) (by omega) (by omega) (hd m (by omega) hm hT k hk) hk2
theorem mapI_set {l : List Int} {k : Nat} {v : Int} : (l.map D.int).set k (.int v) = (l.set k v).map D.int := by rw [List.map_set]
theorem setL_Z {l : List Int} {k x : Nat} {v : Int} {e : En} (h : k < l.length) : setL (some (.lst true (l.map D.int))) (I k) (.int v) x e = .ok .nx (e.set x (.lst true ((l.set k v).map D.int))) := by
  rw [setL_ok (by simpa using h), mapI_set]
theorem get_Z {l : List Int} {k : Nat} (h : k < l.length) : (l.map D.int)[k]? = some (.int (l[k])) := by
  rw [List.getElem?_map, List.getElem?_eq_getElem h]; rfl
theorem s_words {n : Nat} {d : D} (hF : Feed n d) (hn : n ≤ 900) (h1 : 1 ≤ s) (h6 : s ≤ 6) : Qtab s (n + 6) (c__law_by_words.sem [d, I s]) := by
  have p64 := pow64 h6
  have pp := Nat.two_pow_pos s
  obtain ⟨w, d1, e1, w1, w2, F1⟩ := lc_draws (c := s) (many := 8) (j := 2) (rest := [I s, .hole, .hole, .hole, .hole, .hole, .hole, .hole]) hF (by omega) (by decide) (by decide) (by simp)
  simp only [c__law_by_words, b__law_by_words, N__law_by_words, rd_non, rd_bl, rd_int, rd_str, rd_scr, rd_tup, rd_lst, rd_ins, rd_tupT, rd_lstT, rd_insT, pk_non, pk_bl, pk_int, pk_str, pk_scr, pk_tup, pk_lst, pk_ins, x_var, x_glo, x_int, x_bl, x_non, x_str, x_bin, x_neg, x_nt, x_an, x_or, x_cmp, x_chn, x_ite, x_tup, x_lst, x_sub, x_subv, x_att, x_attv, x_call, x_bi, x_biv, x_lc, x_mk, x_met, x_isi, x_gcd, x_bln, xs_nil, xs_cons, xa_nil, xa_cons, xa_lend, xr_seq, xr_rng1, xr_rng2, xr_enm, xr_rev, xt_an, xt_or, xt_nt, xt_cmp, xt_chn, xt_tv, xts_nil, xts_one, y_asg, y_exp, y_ret, y_retN, y_ite, y_fr, y_brk, y_cnt, y_pas, y_par, ys_nil, ys_cons, y_unp, y_setv, y_apG, y_app, y_stf, run_nx, run_ret, io_t, io_f, io_n, ln_nil, ln_cons, ln_lend, f_non, f_bl, f_int, f_str, f_tup, f_lst, f_ins, f_tupT, f_lstT, f_insT, fs_nil, fs_cons, fs_I, fs_blf, fs_If, fs_tupf, fs_lstf, fs_lstT, fs_app, fs_rev, it_eq, it_l, it_t, it_bl, it_int, it_non, it_str, it_tup, it_lst, it_ins, it_lstT, iu_bl, iu_int, iu_non, iu_str, iu_tup, iu_lst, iu_ins, sb_t, sb_l, y_appi, it_m1, fs_int, runF_eq, bind_ok, opt_some, ↓nxt_nx, ↓nxt_ret, ↓nxt_brk, ↓nxt_cnt, mayO_some, ↓onB_bl, ↓onO_some, blO_bl, ng_int, nt_bl, i_tup, i_lst, l_lst, t_bl, range0, asgT, wipeE, saved, restore, putBack, List.getElem?_cons_zero, List.getElem?_cons_succ, List.set_cons_zero, List.set_cons_succ, List.length_cons, List.length_nil, List.cons_append, List.nil_append, List.replicate_succ, List.replicate_zero, List.getD_cons_zero, List.getD_cons_succ, List.map_nil, List.map_cons, List.any_cons, List.any_nil, Nat.reduceSub, Nat.reduceAdd, Nat.reduceLT, Nat.reduceLeDiff, Nat.zero_add, if_true, ite_true, ite_false, reduceIte, D.own, Bool.false_eq_true, Option.bind_some, Option.map_some, Bool.or_false, Bool.false_or, Bool.not_true, Bool.not_false, decide_true, decide_false, lim, n_add, n_shr, n_and, n_eq, n_ne, n_lt, n_le, n_gt, n_ge, c_isN_non, c_isN_tup, n_sum, n_all, n_any, n_listS, n_lenL, n_lenT, n_intI, n_tupleT, n_tuple, n_list, n_listT, n_allf, n_anyf, n_sumf, nw_I, nw_If, nw_bl, nw_tup, nw_lst, k_ii, k_ib, k_is, k_il, k_it, k_bb, k_bi, k_tt, k_tl, k_ll, k_lt, k_llt, k_tlt, n_inT, n_or, shl6 h6, rg_I (show s < 2 ^ 62 by omega)]
  rw [e1]
  simp only [rd_non, rd_bl, rd_int, rd_str, rd_scr, rd_tup, rd_lst, rd_ins, rd_tupT, rd_lstT, rd_insT, pk_non, pk_bl, pk_int, pk_str, pk_scr, pk_tup, pk_lst, pk_ins, x_var, x_glo, x_int, x_bl, x_non, x_str, x_bin, x_neg, x_nt, x_an, x_or, x_cmp, x_chn, x_ite, x_tup, x_lst, x_sub, x_subv, x_att, x_attv, x_call, x_bi, x_biv, x_lc, x_mk, x_met, x_isi, x_gcd, x_bln, xs_nil, xs_cons, xa_nil, xa_cons, xa_lend, xr_seq, xr_rng1, xr_rng2, xr_enm, xr_rev, xt_an, xt_or, xt_nt, xt_cmp, xt_chn, xt_tv, xts_nil, xts_one, y_asg, y_exp, y_ret, y_retN, y_ite, y_fr, y_brk, y_cnt, y_pas, y_par, ys_nil, ys_cons, y_unp, y_setv, y_apG, y_app, y_stf, run_nx, run_ret, io_t, io_f, io_n, ln_nil, ln_cons, ln_lend, f_non, f_bl, f_int, f_str, f_tup, f_lst, f_ins, f_tupT, f_lstT, f_insT, fs_nil, fs_cons, fs_I, fs_blf, fs_If, fs_tupf, fs_lstf, fs_lstT, fs_app, fs_rev, it_eq, it_l, it_t, it_bl, it_int, it_non, it_str, it_tup, it_lst, it_ins, it_lstT, iu_bl, iu_int, iu_non, iu_str, iu_tup, iu_lst, iu_ins, sb_t, sb_l, y_appi, it_m1, fs_int, runF_eq, bind_ok, opt_some, ↓nxt_nx, ↓nxt_ret, ↓nxt_brk, ↓nxt_cnt, mayO_some, ↓onB_bl, ↓onO_some, blO_bl, ng_int, nt_bl, i_tup, i_lst, l_lst, t_bl, range0, asgT, wipeE, saved, restore, putBack, List.getElem?_cons_zero, List.getElem?_cons_succ, List.set_cons_zero, List.set_cons_succ, List.length_cons, List.length_nil, List.cons_append, List.nil_append, List.replicate_succ, List.replicate_zero, List.getD_cons_zero, List.getD_cons_succ, List.map_nil, List.map_cons, List.any_cons, List.any_nil, Nat.reduceSub, Nat.reduceAdd, Nat.reduceLT, Nat.reduceLeDiff, Nat.zero_add, if_true, ite_true, ite_false, reduceIte, D.own, Bool.false_eq_true, Option.bind_some, Option.map_some, Bool.or_false, Bool.false_or, Bool.not_true, Bool.not_false, decide_true, decide_false, lim, n_add, n_shr, n_and, n_eq, n_ne, n_lt, n_le, n_gt, n_ge, c_isN_non, c_isN_tup, n_sum, n_all, n_any, n_listS, n_lenL, n_lenT, n_intI, n_tupleT, n_tuple, n_list, n_listT, n_allf, n_anyf, n_sumf, nw_I, nw_If, nw_bl, nw_tup, nw_lst, k_ii, k_ib, k_is, k_il, k_it, k_bb, k_bi, k_tt, k_tl, k_ll, k_lt, k_llt, k_tlt, n_inT, n_or, shl6 h6, rg_I (show 2 ^ s < 2 ^ 62 by omega)]
  rw [lcR_map (f := fun _ => .int 0)]
  · simp only [rd_non, rd_bl, rd_int, rd_str, rd_scr, rd_tup, rd_lst, rd_ins, rd_tupT, rd_lstT, rd_insT, pk_non, pk_bl, pk_int, pk_str, pk_scr, pk_tup, pk_lst, pk_ins, x_var, x_glo, x_int, x_bl, x_non, x_str, x_bin, x_neg, x_nt, x_an, x_or, x_cmp, x_chn, x_ite, x_tup, x_lst, x_sub, x_subv, x_att, x_attv, x_call, x_bi, x_biv, x_lc, x_mk, x_met, x_isi, x_gcd, x_bln, xs_nil, xs_cons, xa_nil, xa_cons, xa_lend, xr_seq, xr_rng1, xr_rng2, xr_enm, xr_rev, xt_an, xt_or, xt_nt, xt_cmp, xt_chn, xt_tv, xts_nil, xts_one, y_asg, y_exp, y_ret, y_retN, y_ite, y_fr, y_brk, y_cnt, y_pas, y_par, ys_nil, ys_cons, y_unp, y_setv, y_apG, y_app, y_stf, run_nx, run_ret, io_t, io_f, io_n, ln_nil, ln_cons, ln_lend, f_non, f_bl, f_int, f_str, f_tup, f_lst, f_ins, f_tupT, f_lstT, f_insT, fs_nil, fs_cons, fs_I, fs_blf, fs_If, fs_tupf, fs_lstf, fs_lstT, fs_app, fs_rev, it_eq, it_l, it_t, it_bl, it_int, it_non, it_str, it_tup, it_lst, it_ins, it_lstT, iu_bl, iu_int, iu_non, iu_str, iu_tup, iu_lst, iu_ins, sb_t, sb_l, y_appi, it_m1, fs_int, runF_eq, bind_ok, opt_some, ↓nxt_nx, ↓nxt_ret, ↓nxt_brk, ↓nxt_cnt, mayO_some, ↓onB_bl, ↓onO_some, blO_bl, ng_int, nt_bl, i_tup, i_lst, l_lst, t_bl, range0, asgT, wipeE, saved, restore, putBack, List.getElem?_cons_zero, List.getElem?_cons_succ, List.set_cons_zero, List.set_cons_succ, List.length_cons, List.length_nil, List.cons_append, List.nil_append, List.replicate_succ, List.replicate_zero, List.getD_cons_zero, List.getD_cons_succ, List.map_nil, List.map_cons, List.any_cons, List.any_nil, Nat.reduceSub, Nat.reduceAdd, Nat.reduceLT, Nat.reduceLeDiff, Nat.zero_add, if_true, ite_true, ite_false, reduceIte, D.own, Bool.false_eq_true, Option.bind_some, Option.map_some, Bool.or_false, Bool.false_or, Bool.not_true, Bool.not_false, decide_true, decide_false, lim, n_add, n_shr, n_and, n_eq, n_ne, n_lt, n_le, n_gt, n_ge, c_isN_non, c_isN_tup, n_sum, n_all, n_any, n_listS, n_lenL, n_lenT, n_intI, n_tupleT, n_tuple, n_list, n_listT, n_allf, n_anyf, n_sumf, nw_I, nw_If, nw_bl, nw_tup, nw_lst, k_ii, k_ib, k_is, k_il, k_it, k_bb, k_bi, k_tt, k_tl, k_ll, k_lt, k_llt, k_tlt, n_inT, n_or, shl6 h6, rg_I (show 2 ^ s < 2 ^ 62 by omega)]
    rw [lcR_map (f := fun _ => .bl true)]
    · rw [show (List.range (2 ^ s)).map (fun _ => D.bl true) = tabL s (fun _ => true) from rfl, show (List.range (2 ^ s)).map (fun _ => D.int 0) = ((List.range (2 ^ s)).map fun _ => (0 : Int)).map D.int by rw [List.map_map]; rfl]
      simp only [rd_non, rd_bl, rd_int, rd_str, rd_scr, rd_tup, rd_lst, rd_ins, rd_tupT, rd_lstT, rd_insT, pk_non, pk_bl, pk_int, pk_str, pk_scr, pk_tup, pk_lst, pk_ins, x_var, x_glo, x_int, x_bl, x_non, x_str, x_bin, x_neg, x_nt, x_an, x_or, x_cmp, x_chn, x_ite, x_tup, x_lst, x_sub, x_subv, x_att, x_attv, x_call, x_bi, x_biv, x_lc, x_mk, x_met, x_isi, x_gcd, x_bln, xs_nil, xs_cons, xa_nil, xa_cons, xa_lend, xr_seq, xr_rng1, xr_rng2, xr_enm, xr_rev, xt_an, xt_or, xt_nt, xt_cmp, xt_chn, xt_tv, xts_nil, xts_one, y_asg, y_exp, y_ret, y_retN, y_ite, y_fr, y_brk, y_cnt, y_pas, y_par, ys_nil, ys_cons, y_unp, y_setv, y_apG, y_app, y_stf, run_nx, run_ret, io_t, io_f, io_n, ln_nil, ln_cons, ln_lend, f_non, f_bl, f_int, f_str, f_tup, f_lst, f_ins, f_tupT, f_lstT, f_insT, fs_nil, fs_cons, fs_I, fs_blf, fs_If, fs_tupf, fs_lstf, fs_lstT, fs_app, fs_rev, it_eq, it_l, it_t, it_bl, it_int, it_non, it_str, it_tup, it_lst, it_ins, it_lstT, iu_bl, iu_int, iu_non, iu_str, iu_tup, iu_lst, iu_ins, sb_t, sb_l, y_appi, it_m1, fs_int, runF_eq, bind_ok, opt_some, ↓nxt_nx, ↓nxt_ret, ↓nxt_brk, ↓nxt_cnt, mayO_some, ↓onB_bl, ↓onO_some, blO_bl, ng_int, nt_bl, i_tup, i_lst, l_lst, t_bl, range0, asgT, wipeE, saved, restore, putBack, List.getElem?_cons_zero, List.getElem?_cons_succ, List.set_cons_zero, List.set_cons_succ, List.length_cons, List.length_nil, List.cons_append, List.nil_append, List.replicate_succ, List.replicate_zero, List.getD_cons_zero, List.getD_cons_succ, List.map_nil, List.map_cons, List.any_cons, List.any_nil, Nat.reduceSub, Nat.reduceAdd, Nat.reduceLT, Nat.reduceLeDiff, Nat.zero_add, if_true, ite_true, ite_false, reduceIte, D.own, Bool.false_eq_true, Option.bind_some, Option.map_some, Bool.or_false, Bool.false_or, Bool.not_true, Bool.not_false, decide_true, decide_false, lim, n_add, n_shr, n_and, n_eq, n_ne, n_lt, n_le, n_gt, n_ge, c_isN_non, c_isN_tup, n_sum, n_all, n_any, n_listS, n_lenL, n_lenT, n_intI, n_tupleT, n_tuple, n_list, n_listT, n_allf, n_anyf, n_sumf, nw_I, nw_If, nw_bl, nw_tup, nw_lst, k_ii, k_ib, k_is, k_il, k_it, k_bb, k_bi, k_tt, k_tl, k_ll, k_lt, k_llt, k_tlt, n_inT, n_or, shl6 h6, rg2_I (show 1 < 2 ^ 62 by omega) (show 2 ^ s < 2 ^ 62 by omega)]
      refine run_forQ (Q := Qtab s (n + 6)) (P := fun pre e => ∃ (T : Nat → Bool) (mx : List Int) (x5 x7 : D), T 0 = true ∧ (∀ m, 1 ≤ m → m ≤ pre.length → T m = true → ∀ k ∈ thg m, T (m - 2 ^ k) = true) ∧ mx.length = 2 ^ s ∧
        e = [d1, I s, .lst true (w.map I), .hole, .lst true (mx.map D.int), x5, .lst true (tabL s T), x7, .hole]) (fun k0 env pre hk0 hpr he => ?_) ⟨_, _, _, _, rfl, fun m h1 h2 => by simp at h2; omega, by simp, rfl⟩ fun e he => ?_
      · obtain ⟨T, mx, x5, x7, h0, hd, hmx, rfl⟩ := he
        obtain ⟨hk1, hk2⟩ := pre_range hpr
        have hm : 1 + k0 < 2 ^ s := by omega
        have hm64 := lt64 h6 hm
        obtain ⟨m, hmm⟩ : ∃ m, m = 1 + k0 := ⟨_, rfl⟩
        rw [← hmm] at hm hm64
        refine ⟨_, rfl, ?_⟩
        rw [show I (1 + k0) = I m by rw [hmm]]
        have hne := thg_ne hm64 (by omega)
        have hhd : (thg m).headD 0 ∈ thg m := by cases h : thg m with | nil => exact absurd h hne | cons a l => simp
        have hh : (List.map I (thg m))[0]? = some (I ((thg m).headD 0)) := map_head hne 0
        obtain ⟨g1, g2⟩ := thg_in h6 hm hhd
        have hz : m - 2 ^ (thg m).headD 0 < mx.length := by rw [hmx]; exact Nat.lt_of_le_of_lt (Nat.sub_le _ _) hm
        simp only [rd_non, rd_bl, rd_int, rd_str, rd_scr, rd_tup, rd_lst, rd_ins, rd_tupT, rd_lstT, rd_insT, pk_non, pk_bl, pk_int, pk_str, pk_scr, pk_tup, pk_lst, pk_ins, x_var, x_glo, x_int, x_bl, x_non, x_str, x_bin, x_neg, x_nt, x_an, x_or, x_cmp, x_chn, x_ite, x_tup, x_lst, x_sub, x_subv, x_att, x_attv, x_call, x_bi, x_biv, x_lc, x_mk, x_met, x_isi, x_gcd, x_bln, xs_nil, xs_cons, xa_nil, xa_cons, xa_lend, xr_seq, xr_rng1, xr_rng2, xr_enm, xr_rev, xt_an, xt_or, xt_nt, xt_cmp, xt_chn, xt_tv, xts_nil, xts_one, y_asg, y_exp, y_ret, y_retN, y_ite, y_fr, y_brk, y_cnt, y_pas, y_par, ys_nil, ys_cons, y_unp, y_setv, y_apG, y_app, y_stf, run_nx, run_ret, io_t, io_f, io_n, ln_nil, ln_cons, ln_lend, f_non, f_bl, f_int, f_str, f_tup, f_lst, f_ins, f_tupT, f_lstT, f_insT, fs_nil, fs_cons, fs_I, fs_blf, fs_If, fs_tupf, fs_lstf, fs_lstT, fs_app, fs_rev, it_eq, it_l, it_t, it_bl, it_int, it_non, it_str, it_tup, it_lst, it_ins, it_lstT, iu_bl, iu_int, iu_non, iu_str, iu_tup, iu_lst, iu_ins, sb_t, sb_l, y_appi, it_m1, fs_int, runF_eq, bind_ok, opt_some, ↓nxt_nx, ↓nxt_ret, ↓nxt_brk, ↓nxt_cnt, mayO_some, ↓onB_bl, ↓onO_some, blO_bl, ng_int, nt_bl, i_tup, i_lst, l_lst, t_bl, range0, asgT, wipeE, saved, restore, putBack, List.getElem?_cons_zero, List.getElem?_cons_succ, List.set_cons_zero, List.set_cons_succ, List.length_cons, List.length_nil, List.cons_append, List.nil_append, List.replicate_succ, List.replicate_zero, List.getD_cons_zero, List.getD_cons_succ, List.map_nil, List.map_cons, List.any_cons, List.any_nil, Nat.reduceSub, Nat.reduceAdd, Nat.reduceLT, Nat.reduceLeDiff, Nat.zero_add, if_true, ite_true, ite_false, reduceIte, D.own, Bool.false_eq_true, Option.bind_some, Option.map_some, Bool.or_false, Bool.false_or, Bool.not_true, Bool.not_false, decide_true, decide_false, lim, n_add, n_shr, n_and, n_eq, n_ne, n_lt, n_le, n_gt, n_ge, c_isN_non, c_isN_tup, n_sum, n_all, n_any, n_listS, n_lenL, n_lenT, n_intI, n_tupleT, n_tuple, n_list, n_listT, n_allf, n_anyf, n_sumf, nw_I, nw_If, nw_bl, nw_tup, nw_lst, k_ii, k_ib, k_is, k_il, k_it, k_bb, k_bi, k_tt, k_tl, k_ll, k_lt, k_llt, k_tlt, n_inT, n_or, rg_I (show s < 2 ^ 62 by omega)]
        rw [lcR_ok (p := fun k => decide (m >>> k &&& 1 = 1)) (f := I)]
        · rw [thg_s h6 hm]
          simp only [rd_non, rd_bl, rd_int, rd_str, rd_scr, rd_tup, rd_lst, rd_ins, rd_tupT, rd_lstT, rd_insT, pk_non, pk_bl, pk_int, pk_str, pk_scr, pk_tup, pk_lst, pk_ins, x_var, x_glo, x_int, x_bl, x_non, x_str, x_bin, x_neg, x_nt, x_an, x_or, x_cmp, x_chn, x_ite, x_tup, x_lst, x_sub, x_subv, x_att, x_attv, x_call, x_bi, x_biv, x_lc, x_mk, x_met, x_isi, x_gcd, x_bln, xs_nil, xs_cons, xa_nil, xa_cons, xa_lend, xr_seq, xr_rng1, xr_rng2, xr_enm, xr_rev, xt_an, xt_or, xt_nt, xt_cmp, xt_chn, xt_tv, xts_nil, xts_one, y_asg, y_exp, y_ret, y_retN, y_ite, y_fr, y_brk, y_cnt, y_pas, y_par, ys_nil, ys_cons, y_unp, y_setv, y_apG, y_app, y_stf, run_nx, run_ret, io_t, io_f, io_n, ln_nil, ln_cons, ln_lend, f_non, f_bl, f_int, f_str, f_tup, f_lst, f_ins, f_tupT, f_lstT, f_insT, fs_nil, fs_cons, fs_I, fs_blf, fs_If, fs_tupf, fs_lstf, fs_lstT, fs_app, fs_rev, it_eq, it_l, it_t, it_bl, it_int, it_non, it_str, it_tup, it_lst, it_ins, it_lstT, iu_bl, iu_int, iu_non, iu_str, iu_tup, iu_lst, iu_ins, sb_t, sb_l, y_appi, it_m1, fs_int, runF_eq, bind_ok, opt_some, ↓nxt_nx, ↓nxt_ret, ↓nxt_brk, ↓nxt_cnt, mayO_some, ↓onB_bl, ↓onO_some, blO_bl, ng_int, nt_bl, i_tup, i_lst, l_lst, t_bl, range0, asgT, wipeE, saved, restore, putBack, List.getElem?_cons_zero, List.getElem?_cons_succ, List.set_cons_zero, List.set_cons_succ, List.length_cons, List.length_nil, List.cons_append, List.nil_append, List.replicate_succ, List.replicate_zero, List.getD_cons_zero, List.getD_cons_succ, List.map_nil, List.map_cons, List.any_cons, List.any_nil, Nat.reduceSub, Nat.reduceAdd, Nat.reduceLT, Nat.reduceLeDiff, Nat.zero_add, if_true, ite_true, ite_false, reduceIte, D.own, Bool.false_eq_true, Option.bind_some, Option.map_some, Bool.or_false, Bool.false_or, Bool.not_true, Bool.not_false, decide_true, decide_false, lim, n_add, n_shr, n_and, n_eq, n_ne, n_lt, n_le, n_gt, n_ge, c_isN_non, c_isN_tup, n_sum, n_all, n_any, n_listS, n_lenL, n_lenT, n_intI, n_tupleT, n_tuple, n_list, n_listT, n_allf, n_anyf, n_sumf, nw_I, nw_If, nw_bl, nw_tup, nw_lst, k_ii, k_ib, k_is, k_il, k_it, k_bb, k_bi, k_tt, k_tl, k_ll, k_lt, k_llt, k_tlt, n_inT, n_or, it_eq, hh, shl6 (show (thg m).headD 0 ≤ 6 by omega), n_sub g2, get_Z hz, get_I (show (thg m).headD 0 < w.length by omega), j_xor, setL_Z (show m < mx.length by omega)]
          generalize Builtin.bitXor mx[m - 2 ^ (thg m).headD 0] ↑(w.getD ((thg m).headD 0) 0) = x
          have hx : ((mx.set m x).map D.int)[m]? = some (.int x) := by
            rw [get_Z (by rw [List.length_set]; omega)]; simp
          have fin : ∀ b : Bool, (b = true → ∀ k ∈ thg m, T (m - 2 ^ k) = true) → ∀ x7, ∃ (T' : Nat → Bool) (mx' : List Int) (x5 x7' : D), T' 0 = true ∧ (∀ m, 1 ≤ m → m ≤ (pre ++ [k0]).length → T' m = true → ∀ k ∈ thg m, T' (m - 2 ^ k) = true) ∧ mx'.length = 2 ^ s ∧
              [d1, I s, .lst true (w.map I), .hole, .lst true ((mx.set m x).map D.int), I m, .lst true (tabL s fun j => if j = m then b else T j), x7, .hole] = [d1, I s, .lst true (w.map I), .hole, .lst true (mx'.map D.int), x5, .lst true (tabL s T'), x7', .hole] := fun b hb x7 => by
            refine ⟨fun j => if j = m then b else T j, mx.set m x, _, _, ?_, fun m' a1 a2 a3 k hk => ?_, by rw [List.length_set]; exact hmx, rfl⟩
            · show (if 0 = m then b else T 0) = true
              rw [if_neg (by omega)]; exact h0
            · simp only at a3 ⊢
              simp only [List.length_append, List.length_cons, List.length_nil] at a2
              have hlt : m' < 2 ^ s := by omega
              have := thg_in h6 hlt hk
              have := Nat.two_pow_pos k
              rw [if_neg (by omega)]
              by_cases e : m' = m
              · subst e; rw [if_pos rfl] at a3; exact hb a3 k hk
              · rw [if_neg e] at a3; exact hd m' a1 (by omega) a3 k hk
          by_cases hx0 : (x == ((0 : Nat) : Int)) = true
          · simp only [rd_non, rd_bl, rd_int, rd_str, rd_scr, rd_tup, rd_lst, rd_ins, rd_tupT, rd_lstT, rd_insT, pk_non, pk_bl, pk_int, pk_str, pk_scr, pk_tup, pk_lst, pk_ins, x_var, x_glo, x_int, x_bl, x_non, x_str, x_bin, x_neg, x_nt, x_an, x_or, x_cmp, x_chn, x_ite, x_tup, x_lst, x_sub, x_subv, x_att, x_attv, x_call, x_bi, x_biv, x_lc, x_mk, x_met, x_isi, x_gcd, x_bln, xs_nil, xs_cons, xa_nil, xa_cons, xa_lend, xr_seq, xr_rng1, xr_rng2, xr_enm, xr_rev, xt_an, xt_or, xt_nt, xt_cmp, xt_chn, xt_tv, xts_nil, xts_one, y_asg, y_exp, y_ret, y_retN, y_ite, y_fr, y_brk, y_cnt, y_pas, y_par, ys_nil, ys_cons, y_unp, y_setv, y_apG, y_app, y_stf, run_nx, run_ret, io_t, io_f, io_n, ln_nil, ln_cons, ln_lend, f_non, f_bl, f_int, f_str, f_tup, f_lst, f_ins, f_tupT, f_lstT, f_insT, fs_nil, fs_cons, fs_I, fs_blf, fs_If, fs_tupf, fs_lstf, fs_lstT, fs_app, fs_rev, it_eq, it_l, it_t, it_bl, it_int, it_non, it_str, it_tup, it_lst, it_ins, it_lstT, iu_bl, iu_int, iu_non, iu_str, iu_tup, iu_lst, iu_ins, sb_t, sb_l, y_appi, it_m1, fs_int, runF_eq, bind_ok, opt_some, ↓nxt_nx, ↓nxt_ret, ↓nxt_brk, ↓nxt_cnt, mayO_some, ↓onB_bl, ↓onO_some, blO_bl, ng_int, nt_bl, i_tup, i_lst, l_lst, t_bl, range0, asgT, wipeE, saved, restore, putBack, List.getElem?_cons_zero, List.getElem?_cons_succ, List.set_cons_zero, List.set_cons_succ, List.length_cons, List.length_nil, List.cons_append, List.nil_append, List.replicate_succ, List.replicate_zero, List.getD_cons_zero, List.getD_cons_succ, List.map_nil, List.map_cons, List.any_cons, List.any_nil, Nat.reduceSub, Nat.reduceAdd, Nat.reduceLT, Nat.reduceLeDiff, Nat.zero_add, if_true, ite_true, ite_false, reduceIte, D.own, Bool.false_eq_true, Option.bind_some, Option.map_some, Bool.or_false, Bool.false_or, Bool.not_true, Bool.not_false, decide_true, decide_false, lim, n_add, n_shr, n_and, n_eq, n_ne, n_lt, n_le, n_gt, n_ge, c_isN_non, c_isN_tup, n_sum, n_all, n_any, n_listS, n_lenL, n_lenT, n_intI, n_tupleT, n_tuple, n_list, n_listT, n_allf, n_anyf, n_sumf, nw_I, nw_If, nw_bl, nw_tup, nw_lst, k_ii, k_ib, k_is, k_il, k_it, k_bb, k_bi, k_tt, k_tl, k_ll, k_lt, k_llt, k_tlt, n_inT, n_or, it_eq, hx, j_ne, hx0, tab_setL hm, tab_set hm]
            refine gs ?_
            exact fin false (fun h => by cases h) _
          · have hx0' : (x == ((0 : Nat) : Int)) = false := by simpa using hx0
            simp only [rd_non, rd_bl, rd_int, rd_str, rd_scr, rd_tup, rd_lst, rd_ins, rd_tupT, rd_lstT, rd_insT, pk_non, pk_bl, pk_int, pk_str, pk_scr, pk_tup, pk_lst, pk_ins, x_var, x_glo, x_int, x_bl, x_non, x_str, x_bin, x_neg, x_nt, x_an, x_or, x_cmp, x_chn, x_ite, x_tup, x_lst, x_sub, x_subv, x_att, x_attv, x_call, x_bi, x_biv, x_lc, x_mk, x_met, x_isi, x_gcd, x_bln, xs_nil, xs_cons, xa_nil, xa_cons, xa_lend, xr_seq, xr_rng1, xr_rng2, xr_enm, xr_rev, xt_an, xt_or, xt_nt, xt_cmp, xt_chn, xt_tv, xts_nil, xts_one, y_asg, y_exp, y_ret, y_retN, y_ite, y_fr, y_brk, y_cnt, y_pas, y_par, ys_nil, ys_cons, y_unp, y_setv, y_apG, y_app, y_stf, run_nx, run_ret, io_t, io_f, io_n, ln_nil, ln_cons, ln_lend, f_non, f_bl, f_int, f_str, f_tup, f_lst, f_ins, f_tupT, f_lstT, f_insT, fs_nil, fs_cons, fs_I, fs_blf, fs_If, fs_tupf, fs_lstf, fs_lstT, fs_app, fs_rev, it_eq, it_l, it_t, it_bl, it_int, it_non, it_str, it_tup, it_lst, it_ins, it_lstT, iu_bl, iu_int, iu_non, iu_str, iu_tup, iu_lst, iu_ins, sb_t, sb_l, y_appi, it_m1, fs_int, runF_eq, bind_ok, opt_some, ↓nxt_nx, ↓nxt_ret, ↓nxt_brk, ↓nxt_cnt, mayO_some, ↓onB_bl, ↓onO_some, blO_bl, ng_int, nt_bl, i_tup, i_lst, l_lst, t_bl, range0, asgT, wipeE, saved, restore, putBack, List.getElem?_cons_zero, List.getElem?_cons_succ, List.set_cons_zero, List.set_cons_succ, List.length_cons, List.length_nil, List.cons_append, List.nil_append, List.replicate_succ, List.replicate_zero, List.getD_cons_zero, List.getD_cons_succ, List.map_nil, List.map_cons, List.any_cons, List.any_nil, Nat.reduceSub, Nat.reduceAdd, Nat.reduceLT, Nat.reduceLeDiff, Nat.zero_add, if_true, ite_true, ite_false, reduceIte, D.own, Bool.false_eq_true, Option.bind_some, Option.map_some, Bool.or_false, Bool.false_or, Bool.not_true, Bool.not_false, decide_true, decide_false, lim, n_add, n_shr, n_and, n_eq, n_ne, n_lt, n_le, n_gt, n_ge, c_isN_non, c_isN_tup, n_sum, n_all, n_any, n_listS, n_lenL, n_lenT, n_intI, n_tupleT, n_tuple, n_list, n_listT, n_allf, n_anyf, n_sumf, nw_I, nw_If, nw_bl, nw_tup, nw_lst, k_ii, k_ib, k_is, k_il, k_it, k_bb, k_bi, k_tt, k_tl, k_ll, k_lt, k_llt, k_tlt, n_inT, n_or, it_eq, hx, j_ne, hx0']
            rw [lcR_map (f := fun k => .bl (T (m - 2 ^ k)))]
            · simp only [rd_non, rd_bl, rd_int, rd_str, rd_scr, rd_tup, rd_lst, rd_ins, rd_tupT, rd_lstT, rd_insT, pk_non, pk_bl, pk_int, pk_str, pk_scr, pk_tup, pk_lst, pk_ins, x_var, x_glo, x_int, x_bl, x_non, x_str, x_bin, x_neg, x_nt, x_an, x_or, x_cmp, x_chn, x_ite, x_tup, x_lst, x_sub, x_subv, x_att, x_attv, x_call, x_bi, x_biv, x_lc, x_mk, x_met, x_isi, x_gcd, x_bln, xs_nil, xs_cons, xa_nil, xa_cons, xa_lend, xr_seq, xr_rng1, xr_rng2, xr_enm, xr_rev, xt_an, xt_or, xt_nt, xt_cmp, xt_chn, xt_tv, xts_nil, xts_one, y_asg, y_exp, y_ret, y_retN, y_ite, y_fr, y_brk, y_cnt, y_pas, y_par, ys_nil, ys_cons, y_unp, y_setv, y_apG, y_app, y_stf, run_nx, run_ret, io_t, io_f, io_n, ln_nil, ln_cons, ln_lend, f_non, f_bl, f_int, f_str, f_tup, f_lst, f_ins, f_tupT, f_lstT, f_insT, fs_nil, fs_cons, fs_I, fs_blf, fs_If, fs_tupf, fs_lstf, fs_lstT, fs_app, fs_rev, it_eq, it_l, it_t, it_bl, it_int, it_non, it_str, it_tup, it_lst, it_ins, it_lstT, iu_bl, iu_int, iu_non, iu_str, iu_tup, iu_lst, iu_ins, sb_t, sb_l, y_appi, it_m1, fs_int, runF_eq, bind_ok, opt_some, ↓nxt_nx, ↓nxt_ret, ↓nxt_brk, ↓nxt_cnt, mayO_some, ↓onB_bl, ↓onO_some, blO_bl, ng_int, nt_bl, i_tup, i_lst, l_lst, t_bl, range0, asgT, wipeE, saved, restore, putBack, List.getElem?_cons_zero, List.getElem?_cons_succ, List.set_cons_zero, List.set_cons_succ, List.length_cons, List.length_nil, List.cons_append, List.nil_append, List.replicate_succ, List.replicate_zero, List.getD_cons_zero, List.getD_cons_succ, List.map_nil, List.map_cons, List.any_cons, List.any_nil, Nat.reduceSub, Nat.reduceAdd, Nat.reduceLT, Nat.reduceLeDiff, Nat.zero_add, if_true, ite_true, ite_false, reduceIte, D.own, Bool.false_eq_true, Option.bind_some, Option.map_some, Bool.or_false, Bool.false_or, Bool.not_true, Bool.not_false, decide_true, decide_false, lim, n_add, n_shr, n_and, n_eq, n_ne, n_lt, n_le, n_gt, n_ge, c_isN_non, c_isN_tup, n_sum, n_all, n_any, n_listS, n_lenL, n_lenT, n_intI, n_tupleT, n_tuple, n_list, n_listT, n_allf, n_anyf, n_sumf, nw_I, nw_If, nw_bl, nw_tup, nw_lst, k_ii, k_ib, k_is, k_il, k_it, k_bb, k_bi, k_tt, k_tl, k_ll, k_lt, k_llt, k_tlt, n_inT, n_or, tab_setL hm, tab_set hm]
              refine gs ?_
              exact fin _ (fun h k hk => List.all_eq_true.mp h k hk) _
            · intro k hk
              obtain ⟨g3, g4⟩ := thg_in h6 hm hk
              refine ⟨_, rfl, ?_⟩
              simp only [rd_non, rd_bl, rd_int, rd_str, rd_scr, rd_tup, rd_lst, rd_ins, rd_tupT, rd_lstT, rd_insT, pk_non, pk_bl, pk_int, pk_str, pk_scr, pk_tup, pk_lst, pk_ins, x_var, x_glo, x_int, x_bl, x_non, x_str, x_bin, x_neg, x_nt, x_an, x_or, x_cmp, x_chn, x_ite, x_tup, x_lst, x_sub, x_subv, x_att, x_attv, x_call, x_bi, x_biv, x_lc, x_mk, x_met, x_isi, x_gcd, x_bln, xs_nil, xs_cons, xa_nil, xa_cons, xa_lend, xr_seq, xr_rng1, xr_rng2, xr_enm, xr_rev, xt_an, xt_or, xt_nt, xt_cmp, xt_chn, xt_tv, xts_nil, xts_one, y_asg, y_exp, y_ret, y_retN, y_ite, y_fr, y_brk, y_cnt, y_pas, y_par, ys_nil, ys_cons, y_unp, y_setv, y_apG, y_app, y_stf, run_nx, run_ret, io_t, io_f, io_n, ln_nil, ln_cons, ln_lend, f_non, f_bl, f_int, f_str, f_tup, f_lst, f_ins, f_tupT, f_lstT, f_insT, fs_nil, fs_cons, fs_I, fs_blf, fs_If, fs_tupf, fs_lstf, fs_lstT, fs_app, fs_rev, it_eq, it_l, it_t, it_bl, it_int, it_non, it_str, it_tup, it_lst, it_ins, it_lstT, iu_bl, iu_int, iu_non, iu_str, iu_tup, iu_lst, iu_ins, sb_t, sb_l, y_appi, it_m1, fs_int, runF_eq, bind_ok, opt_some, ↓nxt_nx, ↓nxt_ret, ↓nxt_brk, ↓nxt_cnt, mayO_some, ↓onB_bl, ↓onO_some, blO_bl, ng_int, nt_bl, i_tup, i_lst, l_lst, t_bl, range0, asgT, wipeE, saved, restore, putBack, List.getElem?_cons_zero, List.getElem?_cons_succ, List.set_cons_zero, List.set_cons_succ, List.length_cons, List.length_nil, List.cons_append, List.nil_append, List.replicate_succ, List.replicate_zero, List.getD_cons_zero, List.getD_cons_succ, List.map_nil, List.map_cons, List.any_cons, List.any_nil, Nat.reduceSub, Nat.reduceAdd, Nat.reduceLT, Nat.reduceLeDiff, Nat.zero_add, if_true, ite_true, ite_false, reduceIte, D.own, Bool.false_eq_true, Option.bind_some, Option.map_some, Bool.or_false, Bool.false_or, Bool.not_true, Bool.not_false, decide_true, decide_false, lim, n_add, n_shr, n_and, n_eq, n_ne, n_lt, n_le, n_gt, n_ge, c_isN_non, c_isN_tup, n_sum, n_all, n_any, n_listS, n_lenL, n_lenT, n_intI, n_tupleT, n_tuple, n_list, n_listT, n_allf, n_anyf, n_sumf, nw_I, nw_If, nw_bl, nw_tup, nw_lst, k_ii, k_ib, k_is, k_il, k_it, k_bb, k_bi, k_tt, k_tl, k_ll, k_lt, k_llt, k_tlt, n_inT, n_or, shl6 (show k ≤ 6 by omega), n_sub g4, it_eq, tab_get (Nat.lt_of_le_of_lt (Nat.sub_le m (2 ^ k)) hm)]
              exact gd rfl
            · exact le_lim (by have := thg_len m; omega)
            · rfl
        · intro k hk
          have hk6 := List.mem_range.mp hk
          refine ⟨_, rfl, ?_⟩
          simp only [rd_non, rd_bl, rd_int, rd_str, rd_scr, rd_tup, rd_lst, rd_ins, rd_tupT, rd_lstT, rd_insT, pk_non, pk_bl, pk_int, pk_str, pk_scr, pk_tup, pk_lst, pk_ins, x_var, x_glo, x_int, x_bl, x_non, x_str, x_bin, x_neg, x_nt, x_an, x_or, x_cmp, x_chn, x_ite, x_tup, x_lst, x_sub, x_subv, x_att, x_attv, x_call, x_bi, x_biv, x_lc, x_mk, x_met, x_isi, x_gcd, x_bln, xs_nil, xs_cons, xa_nil, xa_cons, xa_lend, xr_seq, xr_rng1, xr_rng2, xr_enm, xr_rev, xt_an, xt_or, xt_nt, xt_cmp, xt_chn, xt_tv, xts_nil, xts_one, y_asg, y_exp, y_ret, y_retN, y_ite, y_fr, y_brk, y_cnt, y_pas, y_par, ys_nil, ys_cons, y_unp, y_setv, y_apG, y_app, y_stf, run_nx, run_ret, io_t, io_f, io_n, ln_nil, ln_cons, ln_lend, f_non, f_bl, f_int, f_str, f_tup, f_lst, f_ins, f_tupT, f_lstT, f_insT, fs_nil, fs_cons, fs_I, fs_blf, fs_If, fs_tupf, fs_lstf, fs_lstT, fs_app, fs_rev, it_eq, it_l, it_t, it_bl, it_int, it_non, it_str, it_tup, it_lst, it_ins, it_lstT, iu_bl, iu_int, iu_non, iu_str, iu_tup, iu_lst, iu_ins, sb_t, sb_l, y_appi, it_m1, fs_int, runF_eq, bind_ok, opt_some, ↓nxt_nx, ↓nxt_ret, ↓nxt_brk, ↓nxt_cnt, mayO_some, ↓onB_bl, ↓onO_some, blO_bl, ng_int, nt_bl, i_tup, i_lst, l_lst, t_bl, range0, asgT, wipeE, saved, restore, putBack, List.getElem?_cons_zero, List.getElem?_cons_succ, List.set_cons_zero, List.set_cons_succ, List.length_cons, List.length_nil, List.cons_append, List.nil_append, List.replicate_succ, List.replicate_zero, List.getD_cons_zero, List.getD_cons_succ, List.map_nil, List.map_cons, List.any_cons, List.any_nil, Nat.reduceSub, Nat.reduceAdd, Nat.reduceLT, Nat.reduceLeDiff, Nat.zero_add, if_true, ite_true, ite_false, reduceIte, D.own, Bool.false_eq_true, Option.bind_some, Option.map_some, Bool.or_false, Bool.false_or, Bool.not_true, Bool.not_false, decide_true, decide_false, lim, n_add, n_shr, n_and, n_eq, n_ne, n_lt, n_le, n_gt, n_ge, c_isN_non, c_isN_tup, n_sum, n_all, n_any, n_listS, n_lenL, n_lenT, n_intI, n_tupleT, n_tuple, n_list, n_listT, n_allf, n_anyf, n_sumf, nw_I, nw_If, nw_bl, nw_tup, nw_lst, k_ii, k_ib, k_is, k_il, k_it, k_bb, k_bi, k_tt, k_tl, k_ll, k_lt, k_llt, k_tlt, n_inT, n_or]
          refine gt ⟨fun _ => rfl, fun _ => ?_⟩
          simp only [rd_non, rd_bl, rd_int, rd_str, rd_scr, rd_tup, rd_lst, rd_ins, rd_tupT, rd_lstT, rd_insT, pk_non, pk_bl, pk_int, pk_str, pk_scr, pk_tup, pk_lst, pk_ins, x_var, x_glo, x_int, x_bl, x_non, x_str, x_bin, x_neg, x_nt, x_an, x_or, x_cmp, x_chn, x_ite, x_tup, x_lst, x_sub, x_subv, x_att, x_attv, x_call, x_bi, x_biv, x_lc, x_mk, x_met, x_isi, x_gcd, x_bln, xs_nil, xs_cons, xa_nil, xa_cons, xa_lend, xr_seq, xr_rng1, xr_rng2, xr_enm, xr_rev, xt_an, xt_or, xt_nt, xt_cmp, xt_chn, xt_tv, xts_nil, xts_one, y_asg, y_exp, y_ret, y_retN, y_ite, y_fr, y_brk, y_cnt, y_pas, y_par, ys_nil, ys_cons, y_unp, y_setv, y_apG, y_app, y_stf, run_nx, run_ret, io_t, io_f, io_n, ln_nil, ln_cons, ln_lend, f_non, f_bl, f_int, f_str, f_tup, f_lst, f_ins, f_tupT, f_lstT, f_insT, fs_nil, fs_cons, fs_I, fs_blf, fs_If, fs_tupf, fs_lstf, fs_lstT, fs_app, fs_rev, it_eq, it_l, it_t, it_bl, it_int, it_non, it_str, it_tup, it_lst, it_ins, it_lstT, iu_bl, iu_int, iu_non, iu_str, iu_tup, iu_lst, iu_ins, sb_t, sb_l, y_appi, it_m1, fs_int, runF_eq, bind_ok, opt_some, ↓nxt_nx, ↓nxt_ret, ↓nxt_brk, ↓nxt_cnt, mayO_some, ↓onB_bl, ↓onO_some, blO_bl, ng_int, nt_bl, i_tup, i_lst, l_lst, t_bl, range0, asgT, wipeE, saved, restore, putBack, List.getElem?_cons_zero, List.getElem?_cons_succ, List.set_cons_zero, List.set_cons_succ, List.length_cons, List.length_nil, List.cons_append, List.nil_append, List.replicate_succ, List.replicate_zero, List.getD_cons_zero, List.getD_cons_succ, List.map_nil, List.map_cons, List.any_cons, List.any_nil, Nat.reduceSub, Nat.reduceAdd, Nat.reduceLT, Nat.reduceLeDiff, Nat.zero_add, if_true, ite_true, ite_false, reduceIte, D.own, Bool.false_eq_true, Option.bind_some, Option.map_some, Bool.or_false, Bool.false_or, Bool.not_true, Bool.not_false, decide_true, decide_false, lim]
          exact gd rfl
        · exact le_lim (by simp; omega)
        · rfl
      · obtain ⟨T, mx, x5, x7, h0, hd, hmx, rfl⟩ := he
        rw [List.length_range] at hd
        simp only [rd_non, rd_bl, rd_int, rd_str, rd_scr, rd_tup, rd_lst, rd_ins, rd_tupT, rd_lstT, rd_insT, pk_non, pk_bl, pk_int, pk_str, pk_scr, pk_tup, pk_lst, pk_ins, x_var, x_glo, x_int, x_bl, x_non, x_str, x_bin, x_neg, x_nt, x_an, x_or, x_cmp, x_chn, x_ite, x_tup, x_lst, x_sub, x_subv, x_att, x_attv, x_call, x_bi, x_biv, x_lc, x_mk, x_met, x_isi, x_gcd, x_bln, xs_nil, xs_cons, xa_nil, xa_cons, xa_lend, xr_seq, xr_rng1, xr_rng2, xr_enm, xr_rev, xt_an, xt_or, xt_nt, xt_cmp, xt_chn, xt_tv, xts_nil, xts_one, y_asg, y_exp, y_ret, y_retN, y_ite, y_fr, y_brk, y_cnt, y_pas, y_par, ys_nil, ys_cons, y_unp, y_setv, y_apG, y_app, y_stf, run_nx, run_ret, io_t, io_f, io_n, ln_nil, ln_cons, ln_lend, f_non, f_bl, f_int, f_str, f_tup, f_lst, f_ins, f_tupT, f_lstT, f_insT, fs_nil, fs_cons, fs_I, fs_blf, fs_If, fs_tupf, fs_lstf, fs_lstT, fs_app, fs_rev, it_eq, it_l, it_t, it_bl, it_int, it_non, it_str, it_tup, it_lst, it_ins, it_lstT, iu_bl, iu_int, iu_non, iu_str, iu_tup, iu_lst, iu_ins, sb_t, sb_l, y_appi, it_m1, fs_int, runF_eq, bind_ok, opt_some, ↓nxt_nx, ↓nxt_ret, ↓nxt_brk, ↓nxt_cnt, mayO_some, ↓onB_bl, ↓onO_some, blO_bl, ng_int, nt_bl, i_tup, i_lst, l_lst, t_bl, range0, asgT, wipeE, saved, restore, putBack, List.getElem?_cons_zero, List.getElem?_cons_succ, List.set_cons_zero, List.set_cons_succ, List.length_cons, List.length_nil, List.cons_append, List.nil_append, List.replicate_succ, List.replicate_zero, List.getD_cons_zero, List.getD_cons_succ, List.map_nil, List.map_cons, List.any_cons, List.any_nil, Nat.reduceSub, Nat.reduceAdd, Nat.reduceLT, Nat.reduceLeDiff, Nat.zero_add, if_true, ite_true, ite_false, reduceIte, D.own, Bool.false_eq_true, Option.bind_some, Option.map_some, Bool.or_false, Bool.false_or, Bool.not_true, Bool.not_false, decide_true, decide_false, lim, n_add, n_shr, n_and, n_eq, n_ne, n_lt, n_le, n_gt, n_ge, c_isN_non, c_isN_tup, n_sum, n_all, n_any, n_listS, n_lenL, n_lenT, n_intI, n_tupleT, n_tuple, n_list, n_listT, n_allf, n_anyf, n_sumf, nw_I, nw_If, nw_bl, nw_tup, nw_lst, k_ii, k_ib, k_is, k_il, k_it, k_bb, k_bi, k_tt, k_tl, k_ll, k_lt, k_llt, k_tlt, n_inT, n_or]
        exact ⟨_, T, d1, by rw [tab_frz], Fam.step h1 h6 h0 (fun m a b c => hd m a (by omega) c), F1.up (by omega)⟩
    · intro m hm
      refine ⟨_, rfl, ?_⟩
      simp only [rd_non, rd_bl, rd_int, rd_str, rd_scr, rd_tup, rd_lst, rd_ins, rd_tupT, rd_lstT, rd_insT, pk_non, pk_bl, pk_int, pk_str, pk_scr, pk_tup, pk_lst, pk_ins, x_var, x_glo, x_int, x_bl, x_non, x_str, x_bin, x_neg, x_nt, x_an, x_or, x_cmp, x_chn, x_ite, x_tup, x_lst, x_sub, x_subv, x_att, x_attv, x_call, x_bi, x_biv, x_lc, x_mk, x_met, x_isi, x_gcd, x_bln, xs_nil, xs_cons, xa_nil, xa_cons, xa_lend, xr_seq, xr_rng1, xr_rng2, xr_enm, xr_rev, xt_an, xt_or, xt_nt, xt_cmp, xt_chn, xt_tv, xts_nil, xts_one, y_asg, y_exp, y_ret, y_retN, y_ite, y_fr, y_brk, y_cnt, y_pas, y_par, ys_nil, ys_cons, y_unp, y_setv, y_apG, y_app, y_stf, run_nx, run_ret, io_t, io_f, io_n, ln_nil, ln_cons, ln_lend, f_non, f_bl, f_int, f_str, f_tup, f_lst, f_ins, f_tupT, f_lstT, f_insT, fs_nil, fs_cons, fs_I, fs_blf, fs_If, fs_tupf, fs_lstf, fs_lstT, fs_app, fs_rev, it_eq, it_l, it_t, it_bl, it_int, it_non, it_str, it_tup, it_lst, it_ins, it_lstT, iu_bl, iu_int, iu_non, iu_str, iu_tup, iu_lst, iu_ins, sb_t, sb_l, y_appi, it_m1, fs_int, runF_eq, bind_ok, opt_some, ↓nxt_nx, ↓nxt_ret, ↓nxt_brk, ↓nxt_cnt, mayO_some, ↓onB_bl, ↓onO_some, blO_bl, ng_int, nt_bl, i_tup, i_lst, l_lst, t_bl, range0, asgT, wipeE, saved, restore, putBack, List.getElem?_cons_zero, List.getElem?_cons_succ, List.set_cons_zero, List.set_cons_succ, List.length_cons, List.length_nil, List.cons_append, List.nil_append, List.replicate_succ, List.replicate_zero, List.getD_cons_zero, List.getD_cons_succ, List.map_nil, List.map_cons, List.any_cons, List.any_nil, Nat.reduceSub, Nat.reduceAdd, Nat.reduceLT, Nat.reduceLeDiff, Nat.zero_add, if_true, ite_true, ite_false, reduceIte, D.own, Bool.false_eq_true, Option.bind_some, Option.map_some, Bool.or_false, Bool.false_or, Bool.not_true, Bool.not_false, decide_true, decide_false, lim]
      exact gd rfl
    · exact le_lim (by simp; omega)
    · rfl
  · intro m hm
    refine ⟨_, rfl, ?_⟩
    simp only [rd_non, rd_bl, rd_int, rd_str, rd_scr, rd_tup, rd_lst, rd_ins, rd_tupT, rd_lstT, rd_insT, pk_non, pk_bl, pk_int, pk_str, pk_scr, pk_tup, pk_lst, pk_ins, x_var, x_glo, x_int, x_bl, x_non, x_str, x_bin, x_neg, x_nt, x_an, x_or, x_cmp, x_chn, x_ite, x_tup, x_lst, x_sub, x_subv, x_att, x_attv, x_call, x_bi, x_biv, x_lc, x_mk, x_met, x_isi, x_gcd, x_bln, xs_nil, xs_cons, xa_nil, xa_cons, xa_lend, xr_seq, xr_rng1, xr_rng2, xr_enm, xr_rev, xt_an, xt_or, xt_nt, xt_cmp, xt_chn, xt_tv, xts_nil, xts_one, y_asg, y_exp, y_ret, y_retN, y_ite, y_fr, y_brk, y_cnt, y_pas, y_par, ys_nil, ys_cons, y_unp, y_setv, y_apG, y_app, y_stf, run_nx, run_ret, io_t, io_f, io_n, ln_nil, ln_cons, ln_lend, f_non, f_bl, f_int, f_str, f_tup, f_lst, f_ins, f_tupT, f_lstT, f_insT, fs_nil, fs_cons, fs_I, fs_blf, fs_If, fs_tupf, fs_lstf, fs_lstT, fs_app, fs_rev, it_eq, it_l, it_t, it_bl, it_int, it_non, it_str, it_tup, it_lst, it_ins, it_lstT, iu_bl, iu_int, iu_non, iu_str, iu_tup, iu_lst, iu_ins, sb_t, sb_l, y_appi, it_m1, fs_int, runF_eq, bind_ok, opt_some, ↓nxt_nx, ↓nxt_ret, ↓nxt_brk, ↓nxt_cnt, mayO_some, ↓onB_bl, ↓onO_some, blO_bl, ng_int, nt_bl, i_tup, i_lst, l_lst, t_bl, range0, asgT, wipeE, saved, restore, putBack, List.getElem?_cons_zero, List.getElem?_cons_succ, List.set_cons_zero, List.set_cons_succ, List.length_cons, List.length_nil, List.cons_append, List.nil_append, List.replicate_succ, List.replicate_zero, List.getD_cons_zero, List.getD_cons_succ, List.map_nil, List.map_cons, List.any_cons, List.any_nil, Nat.reduceSub, Nat.reduceAdd, Nat.reduceLT, Nat.reduceLeDiff, Nat.zero_add, if_true, ite_true, ite_false, reduceIte, D.own, Bool.false_eq_true, Option.bind_some, Option.map_some, Bool.or_false, Bool.false_or, Bool.not_true, Bool.not_false, decide_true, decide_false, lim]
    exact gd rfl
  · exact le_lim (by simp; omega)
  · rfl

/-! ### a family drawn -/
def lfO (s : Nat) (T : Nat → Bool) : D := .lst true [I s, .lst false (tabL s T), .lst false ((setsL s T).map I)]
theorem f_lfO : (lfO s T).frz = lfD s T := by
  unfold lfO lfD
  rw [f_lstT]
  rfl
theorem rd_lfO : rdO (some (lfO s T)) i env = .ok (lfD s T) (env.set i (lfD s T)) := by
  have := f_lfO (s := s) (T := T)
  show Rs.ok (lfO s T).frz (env.set i (lfO s T).frz) = _
  rw [this]
def Qfam (s n : Nat) (o : Out) : Prop := ∃ T d', o = .ok (lfO s T) [d'] ∧ Fam s T ∧ Feed n d'
theorem s_family {n : Nat} {d : D} (hF : Feed n d) (hn : n ≤ 800) (h1 : 1 ≤ s) (h6 : s ≤ 6) : Qfam s (n + 10) (c__law_family.sem [d, I s]) := by
  have p64 := pow64 h6
  obtain ⟨k, d1, e1, hk, F1⟩ := s_draw hF (by omega) (show 1 ≤ 16 by omega) (by omega)
  obtain ⟨f2, T2, d2, q2, FT2, F2⟩ := s_tops F1 (by omega) h1 h6
  obtain ⟨f3, T3, d3, q3, FT3, F3⟩ := s_odd F1 (by omega) h1 h6
  obtain ⟨f4, T4, d4, q4, FT4, F4⟩ := s_classes F1 (by omega) h1 h6
  obtain ⟨f5, T5, d5, q5, FT5, F5⟩ := s_words F1 (by omega) h1 h6
  by_cases k0 : k = 0
  · simp only [c__law_family, b__law_family, N__law_family, rd_non, rd_bl, rd_int, rd_str, rd_scr, rd_tup, rd_lst, rd_ins, rd_tupT, rd_lstT, rd_insT, pk_non, pk_bl, pk_int, pk_str, pk_scr, pk_tup, pk_lst, pk_ins, x_var, x_glo, x_int, x_bl, x_non, x_str, x_bin, x_neg, x_nt, x_an, x_or, x_cmp, x_chn, x_ite, x_tup, x_lst, x_sub, x_subv, x_att, x_attv, x_call, x_bi, x_biv, x_lc, x_mk, x_met, x_isi, x_gcd, x_bln, xs_nil, xs_cons, xa_nil, xa_cons, xa_lend, xr_seq, xr_rng1, xr_rng2, xr_enm, xr_rev, xt_an, xt_or, xt_nt, xt_cmp, xt_chn, xt_tv, xts_nil, xts_one, y_asg, y_exp, y_ret, y_retN, y_ite, y_fr, y_brk, y_cnt, y_pas, y_par, ys_nil, ys_cons, y_unp, y_setv, y_apG, y_app, y_stf, run_nx, run_ret, io_t, io_f, io_n, ln_nil, ln_cons, ln_lend, f_non, f_bl, f_int, f_str, f_tup, f_lst, f_ins, f_tupT, f_lstT, f_insT, fs_nil, fs_cons, fs_I, fs_blf, fs_If, fs_tupf, fs_lstf, fs_lstT, fs_app, fs_rev, it_eq, it_l, it_t, it_bl, it_int, it_non, it_str, it_tup, it_lst, it_ins, it_lstT, iu_bl, iu_int, iu_non, iu_str, iu_tup, iu_lst, iu_ins, sb_t, sb_l, y_appi, it_m1, fs_int, runF_eq, bind_ok, opt_some, ↓nxt_nx, ↓nxt_ret, ↓nxt_brk, ↓nxt_cnt, mayO_some, ↓onB_bl, ↓onO_some, blO_bl, ng_int, nt_bl, i_tup, i_lst, l_lst, t_bl, range0, asgT, wipeE, saved, restore, putBack, List.getElem?_cons_zero, List.getElem?_cons_succ, List.set_cons_zero, List.set_cons_succ, List.length_cons, List.length_nil, List.cons_append, List.nil_append, List.replicate_succ, List.replicate_zero, List.getD_cons_zero, List.getD_cons_succ, List.map_nil, List.map_cons, List.any_cons, List.any_nil, Nat.reduceSub, Nat.reduceAdd, Nat.reduceLT, Nat.reduceLeDiff, Nat.zero_add, if_true, ite_true, ite_false, reduceIte, D.own, Bool.false_eq_true, Option.bind_some, Option.map_some, Bool.or_false, Bool.false_or, Bool.not_true, Bool.not_false, decide_true, decide_false, lim, n_add, n_shr, n_and, n_eq, n_ne, n_lt, n_le, n_gt, n_ge, c_isN_non, c_isN_tup, n_sum, n_all, n_any, n_listS, n_lenL, n_lenT, n_intI, n_tupleT, n_tuple, n_list, n_listT, n_allf, n_anyf, n_sumf, nw_I, nw_If, nw_bl, nw_tup, nw_lst, k_ii, k_ib, k_is, k_il, k_it, k_bb, k_bi, k_tt, k_tl, k_ll, k_lt, k_llt, k_tlt, n_inT, n_or, hF.pk, callL2 e1, k0, shl6 h6, rg_I (show 2 ^ s < 2 ^ 62 by omega)]
    rw [lcR_map (f := fun m => .bl (decide (m = 0)))]
    · rw [show (List.range (2 ^ s)).map (fun m => D.bl (decide (m = 0))) = tabL s (fun m => decide (m = 0)) from rfl]
      simp only [rd_non, rd_bl, rd_int, rd_str, rd_scr, rd_tup, rd_lst, rd_ins, rd_tupT, rd_lstT, rd_insT, pk_non, pk_bl, pk_int, pk_str, pk_scr, pk_tup, pk_lst, pk_ins, x_var, x_glo, x_int, x_bl, x_non, x_str, x_bin, x_neg, x_nt, x_an, x_or, x_cmp, x_chn, x_ite, x_tup, x_lst, x_sub, x_subv, x_att, x_attv, x_call, x_bi, x_biv, x_lc, x_mk, x_met, x_isi, x_gcd, x_bln, xs_nil, xs_cons, xa_nil, xa_cons, xa_lend, xr_seq, xr_rng1, xr_rng2, xr_enm, xr_rev, xt_an, xt_or, xt_nt, xt_cmp, xt_chn, xt_tv, xts_nil, xts_one, y_asg, y_exp, y_ret, y_retN, y_ite, y_fr, y_brk, y_cnt, y_pas, y_par, ys_nil, ys_cons, y_unp, y_setv, y_apG, y_app, y_stf, run_nx, run_ret, io_t, io_f, io_n, ln_nil, ln_cons, ln_lend, f_non, f_bl, f_int, f_str, f_tup, f_lst, f_ins, f_tupT, f_lstT, f_insT, fs_nil, fs_cons, fs_I, fs_blf, fs_If, fs_tupf, fs_lstf, fs_lstT, fs_app, fs_rev, it_eq, it_l, it_t, it_bl, it_int, it_non, it_str, it_tup, it_lst, it_ins, it_lstT, iu_bl, iu_int, iu_non, iu_str, iu_tup, iu_lst, iu_ins, sb_t, sb_l, y_appi, it_m1, fs_int, runF_eq, bind_ok, opt_some, ↓nxt_nx, ↓nxt_ret, ↓nxt_brk, ↓nxt_cnt, mayO_some, ↓onB_bl, ↓onO_some, blO_bl, ng_int, nt_bl, i_tup, i_lst, l_lst, t_bl, range0, asgT, wipeE, saved, restore, putBack, List.getElem?_cons_zero, List.getElem?_cons_succ, List.set_cons_zero, List.set_cons_succ, List.length_cons, List.length_nil, List.cons_append, List.nil_append, List.replicate_succ, List.replicate_zero, List.getD_cons_zero, List.getD_cons_succ, List.map_nil, List.map_cons, List.any_cons, List.any_nil, Nat.reduceSub, Nat.reduceAdd, Nat.reduceLT, Nat.reduceLeDiff, Nat.zero_add, if_true, ite_true, ite_false, reduceIte, D.own, Bool.false_eq_true, Option.bind_some, Option.map_some, Bool.or_false, Bool.false_or, Bool.not_true, Bool.not_false, decide_true, decide_false, lim, n_add, n_shr, n_and, n_eq, n_ne, n_lt, n_le, n_gt, n_ge, c_isN_non, c_isN_tup, n_sum, n_all, n_any, n_listS, n_lenL, n_lenT, n_intI, n_tupleT, n_tuple, n_list, n_listT, n_allf, n_anyf, n_sumf, nw_I, nw_If, nw_bl, nw_tup, nw_lst, k_ii, k_ib, k_is, k_il, k_it, k_bb, k_bi, k_tt, k_tl, k_ll, k_lt, k_llt, k_tlt, n_inT, n_or, tab_frz, call2 (s_order h1 h6)]
      exact ⟨_, d1, rfl, Fam.eq0 h1 h6, F1.up (by omega)⟩
    · intro m hm
      refine ⟨_, rfl, ?_⟩
      simp only [rd_non, rd_bl, rd_int, rd_str, rd_scr, rd_tup, rd_lst, rd_ins, rd_tupT, rd_lstT, rd_insT, pk_non, pk_bl, pk_int, pk_str, pk_scr, pk_tup, pk_lst, pk_ins, x_var, x_glo, x_int, x_bl, x_non, x_str, x_bin, x_neg, x_nt, x_an, x_or, x_cmp, x_chn, x_ite, x_tup, x_lst, x_sub, x_subv, x_att, x_attv, x_call, x_bi, x_biv, x_lc, x_mk, x_met, x_isi, x_gcd, x_bln, xs_nil, xs_cons, xa_nil, xa_cons, xa_lend, xr_seq, xr_rng1, xr_rng2, xr_enm, xr_rev, xt_an, xt_or, xt_nt, xt_cmp, xt_chn, xt_tv, xts_nil, xts_one, y_asg, y_exp, y_ret, y_retN, y_ite, y_fr, y_brk, y_cnt, y_pas, y_par, ys_nil, ys_cons, y_unp, y_setv, y_apG, y_app, y_stf, run_nx, run_ret, io_t, io_f, io_n, ln_nil, ln_cons, ln_lend, f_non, f_bl, f_int, f_str, f_tup, f_lst, f_ins, f_tupT, f_lstT, f_insT, fs_nil, fs_cons, fs_I, fs_blf, fs_If, fs_tupf, fs_lstf, fs_lstT, fs_app, fs_rev, it_eq, it_l, it_t, it_bl, it_int, it_non, it_str, it_tup, it_lst, it_ins, it_lstT, iu_bl, iu_int, iu_non, iu_str, iu_tup, iu_lst, iu_ins, sb_t, sb_l, y_appi, it_m1, fs_int, runF_eq, bind_ok, opt_some, ↓nxt_nx, ↓nxt_ret, ↓nxt_brk, ↓nxt_cnt, mayO_some, ↓onB_bl, ↓onO_some, blO_bl, ng_int, nt_bl, i_tup, i_lst, l_lst, t_bl, range0, asgT, wipeE, saved, restore, putBack, List.getElem?_cons_zero, List.getElem?_cons_succ, List.set_cons_zero, List.set_cons_succ, List.length_cons, List.length_nil, List.cons_append, List.nil_append, List.replicate_succ, List.replicate_zero, List.getD_cons_zero, List.getD_cons_succ, List.map_nil, List.map_cons, List.any_cons, List.any_nil, Nat.reduceSub, Nat.reduceAdd, Nat.reduceLT, Nat.reduceLeDiff, Nat.zero_add, if_true, ite_true, ite_false, reduceIte, D.own, Bool.false_eq_true, Option.bind_some, Option.map_some, Bool.or_false, Bool.false_or, Bool.not_true, Bool.not_false, decide_true, decide_false, lim, n_add, n_shr, n_and, n_eq, n_ne, n_lt, n_le, n_gt, n_ge, c_isN_non, c_isN_tup, n_sum, n_all, n_any, n_listS, n_lenL, n_lenT, n_intI, n_tupleT, n_tuple, n_list, n_listT, n_allf, n_anyf, n_sumf, nw_I, nw_If, nw_bl, nw_tup, nw_lst, k_ii, k_ib, k_is, k_il, k_it, k_bb, k_bi, k_tt, k_tl, k_ll, k_lt, k_llt, k_tlt, n_inT, n_or]
      exact gd rfl
    · exact le_lim (by simp; omega)
    · rfl
  · by_cases k1 : k < 4
    · cases f2 <;> simp only [c__law_family, b__law_family, N__law_family, rd_non, rd_bl, rd_int, rd_str, rd_scr, rd_tup, rd_lst, rd_ins, rd_tupT, rd_lstT, rd_insT, pk_non, pk_bl, pk_int, pk_str, pk_scr, pk_tup, pk_lst, pk_ins, x_var, x_glo, x_int, x_bl, x_non, x_str, x_bin, x_neg, x_nt, x_an, x_or, x_cmp, x_chn, x_ite, x_tup, x_lst, x_sub, x_subv, x_att, x_attv, x_call, x_bi, x_biv, x_lc, x_mk, x_met, x_isi, x_gcd, x_bln, xs_nil, xs_cons, xa_nil, xa_cons, xa_lend, xr_seq, xr_rng1, xr_rng2, xr_enm, xr_rev, xt_an, xt_or, xt_nt, xt_cmp, xt_chn, xt_tv, xts_nil, xts_one, y_asg, y_exp, y_ret, y_retN, y_ite, y_fr, y_brk, y_cnt, y_pas, y_par, ys_nil, ys_cons, y_unp, y_setv, y_apG, y_app, y_stf, run_nx, run_ret, io_t, io_f, io_n, ln_nil, ln_cons, ln_lend, f_non, f_bl, f_int, f_str, f_tup, f_lst, f_ins, f_tupT, f_lstT, f_insT, fs_nil, fs_cons, fs_I, fs_blf, fs_If, fs_tupf, fs_lstf, fs_lstT, fs_app, fs_rev, it_eq, it_l, it_t, it_bl, it_int, it_non, it_str, it_tup, it_lst, it_ins, it_lstT, iu_bl, iu_int, iu_non, iu_str, iu_tup, iu_lst, iu_ins, sb_t, sb_l, y_appi, it_m1, fs_int, runF_eq, bind_ok, opt_some, ↓nxt_nx, ↓nxt_ret, ↓nxt_brk, ↓nxt_cnt, mayO_some, ↓onB_bl, ↓onO_some, blO_bl, ng_int, nt_bl, i_tup, i_lst, l_lst, t_bl, range0, asgT, wipeE, saved, restore, putBack, List.getElem?_cons_zero, List.getElem?_cons_succ, List.set_cons_zero, List.set_cons_succ, List.length_cons, List.length_nil, List.cons_append, List.nil_append, List.replicate_succ, List.replicate_zero, List.getD_cons_zero, List.getD_cons_succ, List.map_nil, List.map_cons, List.any_cons, List.any_nil, Nat.reduceSub, Nat.reduceAdd, Nat.reduceLT, Nat.reduceLeDiff, Nat.zero_add, if_true, ite_true, ite_false, reduceIte, D.own, Bool.false_eq_true, Option.bind_some, Option.map_some, Bool.or_false, Bool.false_or, Bool.not_true, Bool.not_false, decide_true, decide_false, lim, n_add, n_shr, n_and, n_eq, n_ne, n_lt, n_le, n_gt, n_ge, c_isN_non, c_isN_tup, n_sum, n_all, n_any, n_listS, n_lenL, n_lenT, n_intI, n_tupleT, n_tuple, n_list, n_listT, n_allf, n_anyf, n_sumf, nw_I, nw_If, nw_bl, nw_tup, nw_lst, k_ii, k_ib, k_is, k_il, k_it, k_bb, k_bi, k_tt, k_tl, k_ll, k_lt, k_llt, k_tlt, n_inT, n_or, hF.pk, callL2 e1, k0, k1, F1.pk, callL2 q2, tab_frz, call2 (s_order h1 h6)]
      all_goals exact ⟨_, d2, rfl, FT2, F2.up (by omega)⟩
    · by_cases k2 : k < 12
      · by_cases k3 : s < 3
        · cases f2 <;> simp only [c__law_family, b__law_family, N__law_family, rd_non, rd_bl, rd_int, rd_str, rd_scr, rd_tup, rd_lst, rd_ins, rd_tupT, rd_lstT, rd_insT, pk_non, pk_bl, pk_int, pk_str, pk_scr, pk_tup, pk_lst, pk_ins, x_var, x_glo, x_int, x_bl, x_non, x_str, x_bin, x_neg, x_nt, x_an, x_or, x_cmp, x_chn, x_ite, x_tup, x_lst, x_sub, x_subv, x_att, x_attv, x_call, x_bi, x_biv, x_lc, x_mk, x_met, x_isi, x_gcd, x_bln, xs_nil, xs_cons, xa_nil, xa_cons, xa_lend, xr_seq, xr_rng1, xr_rng2, xr_enm, xr_rev, xt_an, xt_or, xt_nt, xt_cmp, xt_chn, xt_tv, xts_nil, xts_one, y_asg, y_exp, y_ret, y_retN, y_ite, y_fr, y_brk, y_cnt, y_pas, y_par, ys_nil, ys_cons, y_unp, y_setv, y_apG, y_app, y_stf, run_nx, run_ret, io_t, io_f, io_n, ln_nil, ln_cons, ln_lend, f_non, f_bl, f_int, f_str, f_tup, f_lst, f_ins, f_tupT, f_lstT, f_insT, fs_nil, fs_cons, fs_I, fs_blf, fs_If, fs_tupf, fs_lstf, fs_lstT, fs_app, fs_rev, it_eq, it_l, it_t, it_bl, it_int, it_non, it_str, it_tup, it_lst, it_ins, it_lstT, iu_bl, iu_int, iu_non, iu_str, iu_tup, iu_lst, iu_ins, sb_t, sb_l, y_appi, it_m1, fs_int, runF_eq, bind_ok, opt_some, ↓nxt_nx, ↓nxt_ret, ↓nxt_brk, ↓nxt_cnt, mayO_some, ↓onB_bl, ↓onO_some, blO_bl, ng_int, nt_bl, i_tup, i_lst, l_lst, t_bl, range0, asgT, wipeE, saved, restore, putBack, List.getElem?_cons_zero, List.getElem?_cons_succ, List.set_cons_zero, List.set_cons_succ, List.length_cons, List.length_nil, List.cons_append, List.nil_append, List.replicate_succ, List.replicate_zero, List.getD_cons_zero, List.getD_cons_succ, List.map_nil, List.map_cons, List.any_cons, List.any_nil, Nat.reduceSub, Nat.reduceAdd, Nat.reduceLT, Nat.reduceLeDiff, Nat.zero_add, if_true, ite_true, ite_false, reduceIte, D.own, Bool.false_eq_true, Option.bind_some, Option.map_some, Bool.or_false, Bool.false_or, Bool.not_true, Bool.not_false, decide_true, decide_false, lim, n_add, n_shr, n_and, n_eq, n_ne, n_lt, n_le, n_gt, n_ge, c_isN_non, c_isN_tup, n_sum, n_all, n_any, n_listS, n_lenL, n_lenT, n_intI, n_tupleT, n_tuple, n_list, n_listT, n_allf, n_anyf, n_sumf, nw_I, nw_If, nw_bl, nw_tup, nw_lst, k_ii, k_ib, k_is, k_il, k_it, k_bb, k_bi, k_tt, k_tl, k_ll, k_lt, k_llt, k_tlt, n_inT, n_or, hF.pk, callL2 e1, k0, k1, k2, k3, F1.pk, callL2 q2, tab_frz, call2 (s_order h1 h6)]
          all_goals exact ⟨_, d2, rfl, FT2, F2.up (by omega)⟩
        · cases f3 <;> simp only [c__law_family, b__law_family, N__law_family, rd_non, rd_bl, rd_int, rd_str, rd_scr, rd_tup, rd_lst, rd_ins, rd_tupT, rd_lstT, rd_insT, pk_non, pk_bl, pk_int, pk_str, pk_scr, pk_tup, pk_lst, pk_ins, x_var, x_glo, x_int, x_bl, x_non, x_str, x_bin, x_neg, x_nt, x_an, x_or, x_cmp, x_chn, x_ite, x_tup, x_lst, x_sub, x_subv, x_att, x_attv, x_call, x_bi, x_biv, x_lc, x_mk, x_met, x_isi, x_gcd, x_bln, xs_nil, xs_cons, xa_nil, xa_cons, xa_lend, xr_seq, xr_rng1, xr_rng2, xr_enm, xr_rev, xt_an, xt_or, xt_nt, xt_cmp, xt_chn, xt_tv, xts_nil, xts_one, y_asg, y_exp, y_ret, y_retN, y_ite, y_fr, y_brk, y_cnt, y_pas, y_par, ys_nil, ys_cons, y_unp, y_setv, y_apG, y_app, y_stf, run_nx, run_ret, io_t, io_f, io_n, ln_nil, ln_cons, ln_lend, f_non, f_bl, f_int, f_str, f_tup, f_lst, f_ins, f_tupT, f_lstT, f_insT, fs_nil, fs_cons, fs_I, fs_blf, fs_If, fs_tupf, fs_lstf, fs_lstT, fs_app, fs_rev, it_eq, it_l, it_t, it_bl, it_int, it_non, it_str, it_tup, it_lst, it_ins, it_lstT, iu_bl, iu_int, iu_non, iu_str, iu_tup, iu_lst, iu_ins, sb_t, sb_l, y_appi, it_m1, fs_int, runF_eq, bind_ok, opt_some, ↓nxt_nx, ↓nxt_ret, ↓nxt_brk, ↓nxt_cnt, mayO_some, ↓onB_bl, ↓onO_some, blO_bl, ng_int, nt_bl, i_tup, i_lst, l_lst, t_bl, range0, asgT, wipeE, saved, restore, putBack, List.getElem?_cons_zero, List.getElem?_cons_succ, List.set_cons_zero, List.set_cons_succ, List.length_cons, List.length_nil, List.cons_append, List.nil_append, List.replicate_succ, List.replicate_zero, List.getD_cons_zero, List.getD_cons_succ, List.map_nil, List.map_cons, List.any_cons, List.any_nil, Nat.reduceSub, Nat.reduceAdd, Nat.reduceLT, Nat.reduceLeDiff, Nat.zero_add, if_true, ite_true, ite_false, reduceIte, D.own, Bool.false_eq_true, Option.bind_some, Option.map_some, Bool.or_false, Bool.false_or, Bool.not_true, Bool.not_false, decide_true, decide_false, lim, n_add, n_shr, n_and, n_eq, n_ne, n_lt, n_le, n_gt, n_ge, c_isN_non, c_isN_tup, n_sum, n_all, n_any, n_listS, n_lenL, n_lenT, n_intI, n_tupleT, n_tuple, n_list, n_listT, n_allf, n_anyf, n_sumf, nw_I, nw_If, nw_bl, nw_tup, nw_lst, k_ii, k_ib, k_is, k_il, k_it, k_bb, k_bi, k_tt, k_tl, k_ll, k_lt, k_llt, k_tlt, n_inT, n_or, hF.pk, callL2 e1, k0, k1, k2, k3, F1.pk, callL2 q3, tab_frz, call2 (s_order h1 h6)]
          all_goals exact ⟨_, d3, rfl, FT3, F3.up (by omega)⟩
      · by_cases k3 : k < 14
        · cases f4 <;> simp only [c__law_family, b__law_family, N__law_family, rd_non, rd_bl, rd_int, rd_str, rd_scr, rd_tup, rd_lst, rd_ins, rd_tupT, rd_lstT, rd_insT, pk_non, pk_bl, pk_int, pk_str, pk_scr, pk_tup, pk_lst, pk_ins, x_var, x_glo, x_int, x_bl, x_non, x_str, x_bin, x_neg, x_nt, x_an, x_or, x_cmp, x_chn, x_ite, x_tup, x_lst, x_sub, x_subv, x_att, x_attv, x_call, x_bi, x_biv, x_lc, x_mk, x_met, x_isi, x_gcd, x_bln, xs_nil, xs_cons, xa_nil, xa_cons, xa_lend, xr_seq, xr_rng1, xr_rng2, xr_enm, xr_rev, xt_an, xt_or, xt_nt, xt_cmp, xt_chn, xt_tv, xts_nil, xts_one, y_asg, y_exp, y_ret, y_retN, y_ite, y_fr, y_brk, y_cnt, y_pas, y_par, ys_nil, ys_cons, y_unp, y_setv, y_apG, y_app, y_stf, run_nx, run_ret, io_t, io_f, io_n, ln_nil, ln_cons, ln_lend, f_non, f_bl, f_int, f_str, f_tup, f_lst, f_ins, f_tupT, f_lstT, f_insT, fs_nil, fs_cons, fs_I, fs_blf, fs_If, fs_tupf, fs_lstf, fs_lstT, fs_app, fs_rev, it_eq, it_l, it_t, it_bl, it_int, it_non, it_str, it_tup, it_lst, it_ins, it_lstT, iu_bl, iu_int, iu_non, iu_str, iu_tup, iu_lst, iu_ins, sb_t, sb_l, y_appi, it_m1, fs_int, runF_eq, bind_ok, opt_some, ↓nxt_nx, ↓nxt_ret, ↓nxt_brk, ↓nxt_cnt, mayO_some, ↓onB_bl, ↓onO_some, blO_bl, ng_int, nt_bl, i_tup, i_lst, l_lst, t_bl, range0, asgT, wipeE, saved, restore, putBack, List.getElem?_cons_zero, List.getElem?_cons_succ, List.set_cons_zero, List.set_cons_succ, List.length_cons, List.length_nil, List.cons_append, List.nil_append, List.replicate_succ, List.replicate_zero, List.getD_cons_zero, List.getD_cons_succ, List.map_nil, List.map_cons, List.any_cons, List.any_nil, Nat.reduceSub, Nat.reduceAdd, Nat.reduceLT, Nat.reduceLeDiff, Nat.zero_add, if_true, ite_true, ite_false, reduceIte, D.own, Bool.false_eq_true, Option.bind_some, Option.map_some, Bool.or_false, Bool.false_or, Bool.not_true, Bool.not_false, decide_true, decide_false, lim, n_add, n_shr, n_and, n_eq, n_ne, n_lt, n_le, n_gt, n_ge, c_isN_non, c_isN_tup, n_sum, n_all, n_any, n_listS, n_lenL, n_lenT, n_intI, n_tupleT, n_tuple, n_list, n_listT, n_allf, n_anyf, n_sumf, nw_I, nw_If, nw_bl, nw_tup, nw_lst, k_ii, k_ib, k_is, k_il, k_it, k_bb, k_bi, k_tt, k_tl, k_ll, k_lt, k_llt, k_tlt, n_inT, n_or, hF.pk, callL2 e1, k0, k1, k2, k3, F1.pk, callL2 q4, tab_frz, call2 (s_order h1 h6)]
          all_goals exact ⟨_, d4, rfl, FT4, F4.up (by omega)⟩
        · cases f5 <;> simp only [c__law_family, b__law_family, N__law_family, rd_non, rd_bl, rd_int, rd_str, rd_scr, rd_tup, rd_lst, rd_ins, rd_tupT, rd_lstT, rd_insT, pk_non, pk_bl, pk_int, pk_str, pk_scr, pk_tup, pk_lst, pk_ins, x_var, x_glo, x_int, x_bl, x_non, x_str, x_bin, x_neg, x_nt, x_an, x_or, x_cmp, x_chn, x_ite, x_tup, x_lst, x_sub, x_subv, x_att, x_attv, x_call, x_bi, x_biv, x_lc, x_mk, x_met, x_isi, x_gcd, x_bln, xs_nil, xs_cons, xa_nil, xa_cons, xa_lend, xr_seq, xr_rng1, xr_rng2, xr_enm, xr_rev, xt_an, xt_or, xt_nt, xt_cmp, xt_chn, xt_tv, xts_nil, xts_one, y_asg, y_exp, y_ret, y_retN, y_ite, y_fr, y_brk, y_cnt, y_pas, y_par, ys_nil, ys_cons, y_unp, y_setv, y_apG, y_app, y_stf, run_nx, run_ret, io_t, io_f, io_n, ln_nil, ln_cons, ln_lend, f_non, f_bl, f_int, f_str, f_tup, f_lst, f_ins, f_tupT, f_lstT, f_insT, fs_nil, fs_cons, fs_I, fs_blf, fs_If, fs_tupf, fs_lstf, fs_lstT, fs_app, fs_rev, it_eq, it_l, it_t, it_bl, it_int, it_non, it_str, it_tup, it_lst, it_ins, it_lstT, iu_bl, iu_int, iu_non, iu_str, iu_tup, iu_lst, iu_ins, sb_t, sb_l, y_appi, it_m1, fs_int, runF_eq, bind_ok, opt_some, ↓nxt_nx, ↓nxt_ret, ↓nxt_brk, ↓nxt_cnt, mayO_some, ↓onB_bl, ↓onO_some, blO_bl, ng_int, nt_bl, i_tup, i_lst, l_lst, t_bl, range0, asgT, wipeE, saved, restore, putBack, List.getElem?_cons_zero, List.getElem?_cons_succ, List.set_cons_zero, List.set_cons_succ, List.length_cons, List.length_nil, List.cons_append, List.nil_append, List.replicate_succ, List.replicate_zero, List.getD_cons_zero, List.getD_cons_succ, List.map_nil, List.map_cons, List.any_cons, List.any_nil, Nat.reduceSub, Nat.reduceAdd, Nat.reduceLT, Nat.reduceLeDiff, Nat.zero_add, if_true, ite_true, ite_false, reduceIte, D.own, Bool.false_eq_true, Option.bind_some, Option.map_some, Bool.or_false, Bool.false_or, Bool.not_true, Bool.not_false, decide_true, decide_false, lim, n_add, n_shr, n_and, n_eq, n_ne, n_lt, n_le, n_gt, n_ge, c_isN_non, c_isN_tup, n_sum, n_all, n_any, n_listS, n_lenL, n_lenT, n_intI, n_tupleT, n_tuple, n_list, n_listT, n_allf, n_anyf, n_sumf, nw_I, nw_If, nw_bl, nw_tup, nw_lst, k_ii, k_ib, k_is, k_il, k_it, k_bb, k_bi, k_tt, k_tl, k_ll, k_lt, k_llt, k_tlt, n_inT, n_or, hF.pk, callL2 e1, k0, k1, k2, k3, F1.pk, callL2 q5, tab_frz, call2 (s_order h1 h6)]
          all_goals exact ⟨_, d5, rfl, FT5, F5.up (by omega)⟩
end
end K36

/-! ## P10 -/
set_option maxRecDepth 100000
set_option maxHeartbeats 4000000
namespace K36
open PySem PySem.Spec PyProof.Rows L2 VS
section
variable {s : Nat} {T : Nat → Bool} {env : En} {m : Bool} {i : Nat}
theorem f_scr {l : List Int} : (D.scr l).frz = .scr l := id rfl
theorem pk_lfO : pkO (some (lfO s T)) = some (lfO s T) := id rfl
theorem rd_famT : rdO (some (famD true s T)) i env = .ok (famD false s T) (env.set i (famD false s T)) := id rfl
def ckO : Out → En → Rs D
  | .bad, _ => .bad
  | .ok d _, e => .ok d e
  | .exc x _, e => .exc x e
theorem ck_ok {d : D} {l : List D} {e : En} : ckO (.ok d l) e = .ok d e := id rfl
theorem x_callk (e : E) : ev (.callk c_quotient [("family" : Str)] (.cons e .nil)) env = (ev e env).bd fun d e1 => ckO (c_quotient.sem [d.frz]) e1 := by
  simp only [ev, evs]
  cases ev e env with
  | ok d e1 =>
    simp only [Rs.bd, Rs.bind]
    rw [if_pos (show [d].length = [("family" : Str)].length from rfl), show permK c_quotient.ps [("family" : Str)] (D.frzs [d]) = [d.frz] by simp [permK, c_quotient, D.frzs]]
    cases c_quotient.sem [d.frz] <;> rfl
  | _ => rfl
theorem eq_th {m : Nat} (h : m < 64) : cmpD .Eq (thD m) (thD m) = some (.bl true) := by
  have := all64 (f := fun m => match cmpD .Eq (thD m) (thD m) with | some (.bl b) => b | _ => false) (by decide +kernel) h
  revert this
  cases cmpD .Eq (thD m) (thD m) with
  | none => intro h; cases h
  | some d => cases d with
    | bl b => intro h; simp only at h; rw [h]
    | _ => intro h; cases h
theorem eq_t0 : cmpD .Eq (.tup false []) (.tup false []) = some (.bl true) := id rfl
theorem s_asked (ns : List Int) : c__law_asked.sem [.scr ns] = .ok (.bl true) [] := by
  have F0 : Feed 0 (.lst true [.lst true (ns.map D.int), I 0, I 0, I 0]) := ⟨true, ns, 0, 0, 0, rfl, by omega, by omega⟩
  obtain ⟨s, d1, e1, s1, s2, F1⟩ := s_size (most := 6) F0 (by omega) (by omega) (by omega)
  obtain ⟨T, d2, e2, FT, F2⟩ := s_family F1 (by omega) s1 s2
  obtain ⟨s', d3, e3, s1', s2', F3⟩ := s_size (most := 4) F2 (by omega) (by omega) (by omega)
  obtain ⟨T', d4, e4, FT', F4⟩ := s_family F3 (by omega) s1' (by omega)
  obtain ⟨form, d5, e5, hf, F5⟩ := s_draw F4 (by omega) (show 1 ≤ 2 by omega) (by omega)
  have F0' := F0
  simp only [c__law_asked, b__law_asked, N__law_asked, rd_non, rd_bl, rd_int, rd_str, rd_scr, rd_tup, rd_lst, rd_ins, rd_tupT, rd_lstT, rd_insT, pk_non, pk_bl, pk_int, pk_str, pk_scr, pk_tup, pk_lst, pk_ins, x_var, x_glo, x_int, x_bl, x_non, x_str, x_bin, x_neg, x_nt, x_an, x_or, x_cmp, x_chn, x_ite, x_tup, x_lst, x_sub, x_subv, x_att, x_attv, x_call, x_bi, x_biv, x_lc, x_mk, x_met, x_isi, x_gcd, x_bln, xs_nil, xs_cons, xa_nil, xa_cons, xa_lend, xr_seq, xr_rng1, xr_rng2, xr_enm, xr_rev, xt_an, xt_or, xt_nt, xt_cmp, xt_chn, xt_tv, xts_nil, xts_one, y_asg, y_exp, y_ret, y_retN, y_ite, y_fr, y_brk, y_cnt, y_pas, y_par, ys_nil, ys_cons, y_unp, y_setv, y_apG, y_app, y_stf, run_nx, run_ret, io_t, io_f, io_n, ln_nil, ln_cons, ln_lend, f_non, f_bl, f_int, f_str, f_tup, f_lst, f_ins, f_tupT, f_lstT, f_insT, fs_nil, fs_cons, fs_I, fs_blf, fs_If, fs_tupf, fs_lstf, fs_lstT, fs_app, fs_rev, it_eq, it_l, it_t, it_bl, it_int, it_non, it_str, it_tup, it_lst, it_ins, it_lstT, iu_bl, iu_int, iu_non, iu_str, iu_tup, iu_lst, iu_ins, sb_t, sb_l, y_appi, it_m1, fs_int, runF_eq, bind_ok, opt_some, ↓nxt_nx, ↓nxt_ret, ↓nxt_brk, ↓nxt_cnt, mayO_some, ↓onB_bl, ↓onO_some, blO_bl, ng_int, nt_bl, i_tup, i_lst, l_lst, t_bl, range0, asgT, wipeE, saved, restore, putBack, List.getElem?_cons_zero, List.getElem?_cons_succ, List.set_cons_zero, List.set_cons_succ, List.length_cons, List.length_nil, List.cons_append, List.nil_append, List.replicate_succ, List.replicate_zero, List.getD_cons_zero, List.getD_cons_succ, List.map_nil, List.map_cons, List.any_cons, List.any_nil, Nat.reduceSub, Nat.reduceAdd, Nat.reduceLT, Nat.reduceLeDiff, Nat.zero_add, if_true, ite_true, ite_false, reduceIte, D.own, Bool.false_eq_true, Option.bind_some, Option.map_some, Bool.or_false, Bool.false_or, Bool.not_true, Bool.not_false, decide_true, decide_false, lim, n_add, n_shr, n_and, n_eq, n_ne, n_lt, n_le, n_gt, n_ge, c_isN_non, c_isN_tup, n_sum, n_all, n_any, n_listS, n_lenL, n_lenT, n_intI, n_tupleT, n_tuple, n_list, n_listT, n_allf, n_anyf, n_sumf, nw_I, nw_If, nw_bl, nw_tup, nw_lst, k_ii, k_ib, k_is, k_il, k_it, k_bb, k_bi, k_tt, k_tl, k_ll, k_lt, k_llt, k_tlt, n_inT, n_or]
  generalize D.lst true [.lst true (ns.map D.int), I 0, I 0, I 0] = d0 at F0 e1
  simp only [rd_non, rd_bl, rd_int, rd_str, rd_scr, rd_tup, rd_lst, rd_ins, rd_tupT, rd_lstT, rd_insT, pk_non, pk_bl, pk_int, pk_str, pk_scr, pk_tup, pk_lst, pk_ins, x_var, x_glo, x_int, x_bl, x_non, x_str, x_bin, x_neg, x_nt, x_an, x_or, x_cmp, x_chn, x_ite, x_tup, x_lst, x_sub, x_subv, x_att, x_attv, x_call, x_bi, x_biv, x_lc, x_mk, x_met, x_isi, x_gcd, x_bln, xs_nil, xs_cons, xa_nil, xa_cons, xa_lend, xr_seq, xr_rng1, xr_rng2, xr_enm, xr_rev, xt_an, xt_or, xt_nt, xt_cmp, xt_chn, xt_tv, xts_nil, xts_one, y_asg, y_exp, y_ret, y_retN, y_ite, y_fr, y_brk, y_cnt, y_pas, y_par, ys_nil, ys_cons, y_unp, y_setv, y_apG, y_app, y_stf, run_nx, run_ret, io_t, io_f, io_n, ln_nil, ln_cons, ln_lend, f_non, f_bl, f_int, f_str, f_tup, f_lst, f_ins, f_tupT, f_lstT, f_insT, fs_nil, fs_cons, fs_I, fs_blf, fs_If, fs_tupf, fs_lstf, fs_lstT, fs_app, fs_rev, it_eq, it_l, it_t, it_bl, it_int, it_non, it_str, it_tup, it_lst, it_ins, it_lstT, iu_bl, iu_int, iu_non, iu_str, iu_tup, iu_lst, iu_ins, sb_t, sb_l, y_appi, it_m1, fs_int, runF_eq, bind_ok, opt_some, ↓nxt_nx, ↓nxt_ret, ↓nxt_brk, ↓nxt_cnt, mayO_some, ↓onB_bl, ↓onO_some, blO_bl, ng_int, nt_bl, i_tup, i_lst, l_lst, t_bl, range0, asgT, wipeE, saved, restore, putBack, List.getElem?_cons_zero, List.getElem?_cons_succ, List.set_cons_zero, List.set_cons_succ, List.length_cons, List.length_nil, List.cons_append, List.nil_append, List.replicate_succ, List.replicate_zero, List.getD_cons_zero, List.getD_cons_succ, List.map_nil, List.map_cons, List.any_cons, List.any_nil, Nat.reduceSub, Nat.reduceAdd, Nat.reduceLT, Nat.reduceLeDiff, Nat.zero_add, if_true, ite_true, ite_false, reduceIte, D.own, Bool.false_eq_true, Option.bind_some, Option.map_some, Bool.or_false, Bool.false_or, Bool.not_true, Bool.not_false, decide_true, decide_false, lim, n_add, n_shr, n_and, n_eq, n_ne, n_lt, n_le, n_gt, n_ge, c_isN_non, c_isN_tup, n_sum, n_all, n_any, n_listS, n_lenL, n_lenT, n_intI, n_tupleT, n_tuple, n_list, n_listT, n_allf, n_anyf, n_sumf, nw_I, nw_If, nw_bl, nw_tup, nw_lst, k_ii, k_ib, k_is, k_il, k_it, k_bb, k_bi, k_tt, k_tl, k_ll, k_lt, k_llt, k_tlt, n_inT, n_or, F0.pk, callL2 e1, F1.pk, callL2 e2, F2.pk, callL2 e3, F3.pk, callL2 e4, F4.pk, callL2 e5, rd_lfO, rd_lf, f_lf, call2 (s_told FT), call2 (s_told FT'), rd_famT, f_fam, f_famT, call1 (s_quotient FT), call1 (s_quotient FT'),
    rd_qres, f_qres, rd_qfz, f_qfz, call2 (s_judged FT), call2 (s_judged FT'), n_sub (show form ≤ 1 by omega), x_callk, s_quotient FT, ck_ok, it_eq, pk_qfz]
  have hfu := qall_fu FT
  cases hq : qall s T with
  | none =>
    simp only [rd_non, rd_bl, rd_int, rd_str, rd_scr, rd_tup, rd_lst, rd_ins, rd_tupT, rd_lstT, rd_insT, pk_non, pk_bl, pk_int, pk_str, pk_scr, pk_tup, pk_lst, pk_ins, x_var, x_glo, x_int, x_bl, x_non, x_str, x_bin, x_neg, x_nt, x_an, x_or, x_cmp, x_chn, x_ite, x_tup, x_lst, x_sub, x_subv, x_att, x_attv, x_call, x_bi, x_biv, x_lc, x_mk, x_met, x_isi, x_gcd, x_bln, xs_nil, xs_cons, xa_nil, xa_cons, xa_lend, xr_seq, xr_rng1, xr_rng2, xr_enm, xr_rev, xt_an, xt_or, xt_nt, xt_cmp, xt_chn, xt_tv, xts_nil, xts_one, y_asg, y_exp, y_ret, y_retN, y_ite, y_fr, y_brk, y_cnt, y_pas, y_par, ys_nil, ys_cons, y_unp, y_setv, y_apG, y_app, y_stf, run_nx, run_ret, io_t, io_f, io_n, ln_nil, ln_cons, ln_lend, f_non, f_bl, f_int, f_str, f_tup, f_lst, f_ins, f_tupT, f_lstT, f_insT, fs_nil, fs_cons, fs_I, fs_blf, fs_If, fs_tupf, fs_lstf, fs_lstT, fs_app, fs_rev, it_eq, it_l, it_t, it_bl, it_int, it_non, it_str, it_tup, it_lst, it_ins, it_lstT, iu_bl, iu_int, iu_non, iu_str, iu_tup, iu_lst, iu_ins, sb_t, sb_l, y_appi, it_m1, fs_int, runF_eq, bind_ok, opt_some, ↓nxt_nx, ↓nxt_ret, ↓nxt_brk, ↓nxt_cnt, mayO_some, ↓onB_bl, ↓onO_some, blO_bl, ng_int, nt_bl, i_tup, i_lst, l_lst, t_bl, range0, asgT, wipeE, saved, restore, putBack, List.getElem?_cons_zero, List.getElem?_cons_succ, List.set_cons_zero, List.set_cons_succ, List.length_cons, List.length_nil, List.cons_append, List.nil_append, List.replicate_succ, List.replicate_zero, List.getD_cons_zero, List.getD_cons_succ, List.map_nil, List.map_cons, List.any_cons, List.any_nil, Nat.reduceSub, Nat.reduceAdd, Nat.reduceLT, Nat.reduceLeDiff, Nat.zero_add, if_true, ite_true, ite_false, reduceIte, D.own, Bool.false_eq_true, Option.bind_some, Option.map_some, Bool.or_false, Bool.false_or, Bool.not_true, Bool.not_false, decide_true, decide_false, lim, n_add, n_shr, n_and, n_eq, n_ne, n_lt, n_le, n_gt, n_ge, c_isN_non, c_isN_tup, n_sum, n_all, n_any, n_listS, n_lenL, n_lenT, n_intI, n_tupleT, n_tuple, n_list, n_listT, n_allf, n_anyf, n_sumf, nw_I, nw_If, nw_bl, nw_tup, nw_lst, k_ii, k_ib, k_is, k_il, k_it, k_bb, k_bi, k_tt, k_tl, k_ll, k_lt, k_llt, k_tlt, n_inT, n_or, qfz, eq_t0]
  | some p =>
    obtain ⟨S, a, b⟩ := p
    rw [hq] at hfu
    obtain ⟨hS, hb0, ha, hb⟩ := hfu
    unfold fulL at ha hb
    rw [List.mem_filter, ins_mem FT] at ha hb
    simp only [rd_non, rd_bl, rd_int, rd_str, rd_scr, rd_tup, rd_lst, rd_ins, rd_tupT, rd_lstT, rd_insT, pk_non, pk_bl, pk_int, pk_str, pk_scr, pk_tup, pk_lst, pk_ins, x_var, x_glo, x_int, x_bl, x_non, x_str, x_bin, x_neg, x_nt, x_an, x_or, x_cmp, x_chn, x_ite, x_tup, x_lst, x_sub, x_subv, x_att, x_attv, x_call, x_bi, x_biv, x_lc, x_mk, x_met, x_isi, x_gcd, x_bln, xs_nil, xs_cons, xa_nil, xa_cons, xa_lend, xr_seq, xr_rng1, xr_rng2, xr_enm, xr_rev, xt_an, xt_or, xt_nt, xt_cmp, xt_chn, xt_tv, xts_nil, xts_one, y_asg, y_exp, y_ret, y_retN, y_ite, y_fr, y_brk, y_cnt, y_pas, y_par, ys_nil, ys_cons, y_unp, y_setv, y_apG, y_app, y_stf, run_nx, run_ret, io_t, io_f, io_n, ln_nil, ln_cons, ln_lend, f_non, f_bl, f_int, f_str, f_tup, f_lst, f_ins, f_tupT, f_lstT, f_insT, fs_nil, fs_cons, fs_I, fs_blf, fs_If, fs_tupf, fs_lstf, fs_lstT, fs_app, fs_rev, it_eq, it_l, it_t, it_bl, it_int, it_non, it_str, it_tup, it_lst, it_ins, it_lstT, iu_bl, iu_int, iu_non, iu_str, iu_tup, iu_lst, iu_ins, sb_t, sb_l, y_appi, it_m1, fs_int, runF_eq, bind_ok, opt_some, ↓nxt_nx, ↓nxt_ret, ↓nxt_brk, ↓nxt_cnt, mayO_some, ↓onB_bl, ↓onO_some, blO_bl, ng_int, nt_bl, i_tup, i_lst, l_lst, t_bl, range0, asgT, wipeE, saved, restore, putBack, List.getElem?_cons_zero, List.getElem?_cons_succ, List.set_cons_zero, List.set_cons_succ, List.length_cons, List.length_nil, List.cons_append, List.nil_append, List.replicate_succ, List.replicate_zero, List.getD_cons_zero, List.getD_cons_succ, List.map_nil, List.map_cons, List.any_cons, List.any_nil, Nat.reduceSub, Nat.reduceAdd, Nat.reduceLT, Nat.reduceLeDiff, Nat.zero_add, if_true, ite_true, ite_false, reduceIte, D.own, Bool.false_eq_true, Option.bind_some, Option.map_some, Bool.or_false, Bool.false_or, Bool.not_true, Bool.not_false, decide_true, decide_false, lim, n_add, n_shr, n_and, n_eq, n_ne, n_lt, n_le, n_gt, n_ge, c_isN_non, c_isN_tup, n_sum, n_all, n_any, n_listS, n_lenL, n_lenT, n_intI, n_tupleT, n_tuple, n_list, n_listT, n_allf, n_anyf, n_sumf, nw_I, nw_If, nw_bl, nw_tup, nw_lst, k_ii, k_ib, k_is, k_il, k_it, k_bb, k_bi, k_tt, k_tl, k_ll, k_lt, k_llt, k_tlt, n_inT, n_or, qfz, eq_th (lt64 s2 ha.1.1), eq_th (lt64 s2 hb.1.1)]
theorem law_true (ns : List Int) (h : ns.length ≤ 63) : c_law.sem [.scr ns] = .ok (.bl true) [] := by
  simp only [c_law, b_law, N_law, rd_non, rd_bl, rd_int, rd_str, rd_scr, rd_tup, rd_lst, rd_ins, rd_tupT, rd_lstT, rd_insT, pk_non, pk_bl, pk_int, pk_str, pk_scr, pk_tup, pk_lst, pk_ins, x_var, x_glo, x_int, x_bl, x_non, x_str, x_bin, x_neg, x_nt, x_an, x_or, x_cmp, x_chn, x_ite, x_tup, x_lst, x_sub, x_subv, x_att, x_attv, x_call, x_bi, x_biv, x_lc, x_mk, x_met, x_isi, x_gcd, x_bln, xs_nil, xs_cons, xa_nil, xa_cons, xa_lend, xr_seq, xr_rng1, xr_rng2, xr_enm, xr_rev, xt_an, xt_or, xt_nt, xt_cmp, xt_chn, xt_tv, xts_nil, xts_one, y_asg, y_exp, y_ret, y_retN, y_ite, y_fr, y_brk, y_cnt, y_pas, y_par, ys_nil, ys_cons, y_unp, y_setv, y_apG, y_app, y_stf, run_nx, run_ret, io_t, io_f, io_n, ln_nil, ln_cons, ln_lend, f_non, f_bl, f_int, f_str, f_tup, f_lst, f_ins, f_tupT, f_lstT, f_insT, fs_nil, fs_cons, fs_I, fs_blf, fs_If, fs_tupf, fs_lstf, fs_lstT, fs_app, fs_rev, it_eq, it_l, it_t, it_bl, it_int, it_non, it_str, it_tup, it_lst, it_ins, it_lstT, iu_bl, iu_int, iu_non, iu_str, iu_tup, iu_lst, iu_ins, sb_t, sb_l, y_appi, it_m1, fs_int, runF_eq, bind_ok, opt_some, ↓nxt_nx, ↓nxt_ret, ↓nxt_brk, ↓nxt_cnt, mayO_some, ↓onB_bl, ↓onO_some, blO_bl, ng_int, nt_bl, i_tup, i_lst, l_lst, t_bl, range0, asgT, wipeE, saved, restore, putBack, List.getElem?_cons_zero, List.getElem?_cons_succ, List.set_cons_zero, List.set_cons_succ, List.length_cons, List.length_nil, List.cons_append, List.nil_append, List.replicate_succ, List.replicate_zero, List.getD_cons_zero, List.getD_cons_succ, List.map_nil, List.map_cons, List.any_cons, List.any_nil, Nat.reduceSub, Nat.reduceAdd, Nat.reduceLT, Nat.reduceLeDiff, Nat.zero_add, if_true, ite_true, ite_false, reduceIte, D.own, Bool.false_eq_true, Option.bind_some, Option.map_some, Bool.or_false, Bool.false_or, Bool.not_true, Bool.not_false, decide_true, decide_false, lim, n_add, n_shr, n_and, n_eq, n_ne, n_lt, n_le, n_gt, n_ge, c_isN_non, c_isN_tup, n_sum, n_all, n_any, n_listS, n_lenL, n_lenT, n_intI, n_tupleT, n_tuple, n_list, n_listT, n_allf, n_anyf, n_sumf, nw_I, nw_If, nw_bl, nw_tup, nw_lst, k_ii, k_ib, k_is, k_il, k_it, k_bb, k_bi, k_tt, k_tl, k_ll, k_lt, k_llt, k_tlt, n_inT, n_or]
  rw [y_tryN (f := .ret (.bl true)) (e := [.scr ns])]
  · simp only [rd_non, rd_bl, rd_int, rd_str, rd_scr, rd_tup, rd_lst, rd_ins, rd_tupT, rd_lstT, rd_insT, pk_non, pk_bl, pk_int, pk_str, pk_scr, pk_tup, pk_lst, pk_ins, x_var, x_glo, x_int, x_bl, x_non, x_str, x_bin, x_neg, x_nt, x_an, x_or, x_cmp, x_chn, x_ite, x_tup, x_lst, x_sub, x_subv, x_att, x_attv, x_call, x_bi, x_biv, x_lc, x_mk, x_met, x_isi, x_gcd, x_bln, xs_nil, xs_cons, xa_nil, xa_cons, xa_lend, xr_seq, xr_rng1, xr_rng2, xr_enm, xr_rev, xt_an, xt_or, xt_nt, xt_cmp, xt_chn, xt_tv, xts_nil, xts_one, y_asg, y_exp, y_ret, y_retN, y_ite, y_fr, y_brk, y_cnt, y_pas, y_par, ys_nil, ys_cons, y_unp, y_setv, y_apG, y_app, y_stf, run_nx, run_ret, io_t, io_f, io_n, ln_nil, ln_cons, ln_lend, f_non, f_bl, f_int, f_str, f_tup, f_lst, f_ins, f_tupT, f_lstT, f_insT, fs_nil, fs_cons, fs_I, fs_blf, fs_If, fs_tupf, fs_lstf, fs_lstT, fs_app, fs_rev, it_eq, it_l, it_t, it_bl, it_int, it_non, it_str, it_tup, it_lst, it_ins, it_lstT, iu_bl, iu_int, iu_non, iu_str, iu_tup, iu_lst, iu_ins, sb_t, sb_l, y_appi, it_m1, fs_int, runF_eq, bind_ok, opt_some, ↓nxt_nx, ↓nxt_ret, ↓nxt_brk, ↓nxt_cnt, mayO_some, ↓onB_bl, ↓onO_some, blO_bl, ng_int, nt_bl, i_tup, i_lst, l_lst, t_bl, range0, asgT, wipeE, saved, restore, putBack, List.getElem?_cons_zero, List.getElem?_cons_succ, List.set_cons_zero, List.set_cons_succ, List.length_cons, List.length_nil, List.cons_append, List.nil_append, List.replicate_succ, List.replicate_zero, List.getD_cons_zero, List.getD_cons_succ, List.map_nil, List.map_cons, List.any_cons, List.any_nil, Nat.reduceSub, Nat.reduceAdd, Nat.reduceLT, Nat.reduceLeDiff, Nat.zero_add, if_true, ite_true, ite_false, reduceIte, D.own, Bool.false_eq_true, Option.bind_some, Option.map_some, Bool.or_false, Bool.false_or, Bool.not_true, Bool.not_false, decide_true, decide_false, lim]
  · simp only [rd_non, rd_bl, rd_int, rd_str, rd_scr, rd_tup, rd_lst, rd_ins, rd_tupT, rd_lstT, rd_insT, pk_non, pk_bl, pk_int, pk_str, pk_scr, pk_tup, pk_lst, pk_ins, x_var, x_glo, x_int, x_bl, x_non, x_str, x_bin, x_neg, x_nt, x_an, x_or, x_cmp, x_chn, x_ite, x_tup, x_lst, x_sub, x_subv, x_att, x_attv, x_call, x_bi, x_biv, x_lc, x_mk, x_met, x_isi, x_gcd, x_bln, xs_nil, xs_cons, xa_nil, xa_cons, xa_lend, xr_seq, xr_rng1, xr_rng2, xr_enm, xr_rev, xt_an, xt_or, xt_nt, xt_cmp, xt_chn, xt_tv, xts_nil, xts_one, y_asg, y_exp, y_ret, y_retN, y_ite, y_fr, y_brk, y_cnt, y_pas, y_par, ys_nil, ys_cons, y_unp, y_setv, y_apG, y_app, y_stf, run_nx, run_ret, io_t, io_f, io_n, ln_nil, ln_cons, ln_lend, f_non, f_bl, f_int, f_str, f_tup, f_lst, f_ins, f_tupT, f_lstT, f_insT, fs_nil, fs_cons, fs_I, fs_blf, fs_If, fs_tupf, fs_lstf, fs_lstT, fs_app, fs_rev, it_eq, it_l, it_t, it_bl, it_int, it_non, it_str, it_tup, it_lst, it_ins, it_lstT, iu_bl, iu_int, iu_non, iu_str, iu_tup, iu_lst, iu_ins, sb_t, sb_l, y_appi, it_m1, fs_int, runF_eq, bind_ok, opt_some, ↓nxt_nx, ↓nxt_ret, ↓nxt_brk, ↓nxt_cnt, mayO_some, ↓onB_bl, ↓onO_some, blO_bl, ng_int, nt_bl, i_tup, i_lst, l_lst, t_bl, range0, asgT, wipeE, saved, restore, putBack, List.getElem?_cons_zero, List.getElem?_cons_succ, List.set_cons_zero, List.set_cons_succ, List.length_cons, List.length_nil, List.cons_append, List.nil_append, List.replicate_succ, List.replicate_zero, List.getD_cons_zero, List.getD_cons_succ, List.map_nil, List.map_cons, List.any_cons, List.any_nil, Nat.reduceSub, Nat.reduceAdd, Nat.reduceLT, Nat.reduceLeDiff, Nat.zero_add, if_true, ite_true, ite_false, reduceIte, D.own, Bool.false_eq_true, Option.bind_some, Option.map_some, Bool.or_false, Bool.false_or, Bool.not_true, Bool.not_false, decide_true, decide_false, lim, n_add, n_shr, n_and, n_eq, n_ne, n_lt, n_le, n_gt, n_ge, c_isN_non, c_isN_tup, n_sum, n_all, n_any, n_listS, n_lenL, n_lenT, n_intI, n_tupleT, n_tuple, n_list, n_listT, n_allf, n_anyf, n_sumf, nw_I, nw_If, nw_bl, nw_tup, nw_lst, k_ii, k_ib, k_is, k_il, k_it, k_bb, k_bi, k_tt, k_tl, k_ll, k_lt, k_llt, k_tlt, n_inT, n_or, f_scr, call1 (s_asked ns)]
end
end K36

/-! ## K36 -/
set_option maxRecDepth 100000
set_option maxHeartbeats 0
namespace K36
open PySem PySem.Spec PyProof.Rows L2 VS
def top (i : Nat) : Stmt := PySem.Challenge.pw_greatestnext_k36_quotient.main.body.getD i (.Pass ⟨0, 0, 0, 0⟩)
def BLs : List Str := [("abs" : Str), ("all" : Str), ("any" : Str), ("bool" : Str), ("enumerate" : Str), ("int" : Str), ("isinstance" : Str), ("len" : Str), ("list" : Str), ("max" : Str), ("range" : Str), ("reversed" : Str), ("sorted" : Str), ("str" : Str), ("sum" : Str), ("tuple" : Str)]
def GLs : List (Str × D) := [(("MOST_THINGS" : Str), (I 6))]
def FLs : List (Str × Str) := [(("Family" : Str), ("sets" : Str)), (("Family" : Str), ("size" : Str)), (("Family" : Str), ("table" : Str)), (("Frac" : Str), ("den" : Str)), (("Frac" : Str), ("num" : Str))]
abbrev GCs : Bool := true
/-! _law_draw -/
def st__law_draw : Stmt := top 27
theorem k__law_draw : chkSs (ccOf N__law_draw st__law_draw [true, false] BLs GLs ktab FLs GCs) b__law_draw (defBody st__law_draw) = true := by decide +kernel
theorem ok__law_draw {G : Gb} (h : GL G BLs GLs ktab FLs GCs) (T : TopT G.S c__law_draw st__law_draw)  : FnSem (G.at 1) c__law_draw := top_ok (k := 0) (body := b__law_draw) (N := N__law_draw) h T rfl (by decide +kernel) (by decide) k__law_draw (by simp only [b__law_draw, oks, VS.S.ok, E.ok, Es.ok, As.ok, Sr.ok]; simp []) fun _ => .inr rfl
/-! _law_by_tops -/
def st__law_by_tops : Stmt := top 34
theorem k__law_by_tops : chkSs (ccOf N__law_by_tops st__law_by_tops [true, false] BLs GLs ktab FLs GCs) b__law_by_tops (defBody st__law_by_tops) = true := by decide +kernel
theorem ok__law_by_tops {G : Gb} (h : GL G BLs GLs ktab FLs GCs) (T : TopT G.S c__law_by_tops st__law_by_tops) (h__law_draw : FnSem (G.at 1) (c__law_draw)) : FnSem (G.at 2) c__law_by_tops := top_ok (k := 1) (body := b__law_by_tops) (N := N__law_by_tops) h T rfl (by decide +kernel) (by decide) k__law_by_tops (by simp only [b__law_by_tops, oks, VS.S.ok, E.ok, Es.ok, As.ok, Sr.ok]; simp [h__law_draw.up (k := 1) (by decide)]) fun _ => .inr rfl
/-! _law_odd -/
def st__law_odd : Stmt := top 38
theorem k__law_odd : chkSs (ccOf N__law_odd st__law_odd [true, false] BLs GLs ktab FLs GCs) b__law_odd (defBody st__law_odd) = true := by decide +kernel
theorem ok__law_odd {G : Gb} (h : GL G BLs GLs ktab FLs GCs) (T : TopT G.S c__law_odd st__law_odd) (h__law_draw : FnSem (G.at 1) (c__law_draw)) : FnSem (G.at 2) c__law_odd := top_ok (k := 1) (body := b__law_odd) (N := N__law_odd) h T rfl (by decide +kernel) (by decide) k__law_odd (by simp only [b__law_odd, oks, VS.S.ok, E.ok, Es.ok, As.ok, Sr.ok]; simp [h__law_draw.up (k := 1) (by decide)]) fun _ => .inr rfl
/-! _law_things -/
def st__law_things : Stmt := top 32
theorem k__law_things : chkSs (ccOf N__law_things st__law_things [false] BLs GLs ktab FLs GCs) b__law_things (defBody st__law_things) = true := by decide +kernel
theorem ok__law_things {G : Gb} (h : GL G BLs GLs ktab FLs GCs) (T : TopT G.S c__law_things st__law_things)  : FnSem (G.at 1) c__law_things := top_ok (k := 0) (body := b__law_things) (N := N__law_things) h T rfl (by decide +kernel) (by decide) k__law_things (by simp only [b__law_things, oks, VS.S.ok, E.ok, Es.ok, As.ok, Sr.ok]; simp []) fun _ => .inr rfl
/-! _law_by_classes -/
def st__law_by_classes : Stmt := top 35
theorem k__law_by_classes : chkSs (ccOf N__law_by_classes st__law_by_classes [true, false] BLs GLs ktab FLs GCs) b__law_by_classes (defBody st__law_by_classes) = true := by decide +kernel
theorem ok__law_by_classes {G : Gb} (h : GL G BLs GLs ktab FLs GCs) (T : TopT G.S c__law_by_classes st__law_by_classes) (h__law_draw : FnSem (G.at 1) (c__law_draw)) (h__law_things : FnSem (G.at 1) (c__law_things)) : FnSem (G.at 2) c__law_by_classes := top_ok (k := 1) (body := b__law_by_classes) (N := N__law_by_classes) h T rfl (by decide +kernel) (by decide) k__law_by_classes (by simp only [b__law_by_classes, oks, VS.S.ok, E.ok, Es.ok, As.ok, Sr.ok]; simp [h__law_draw.up (k := 1) (by decide), h__law_things.up (k := 1) (by decide)]) fun _ => .inr rfl
/-! _law_by_words -/
def st__law_by_words : Stmt := top 36
theorem k__law_by_words : chkSs (ccOf N__law_by_words st__law_by_words [true, false] BLs GLs ktab FLs GCs) b__law_by_words (defBody st__law_by_words) = true := by decide +kernel
theorem ok__law_by_words {G : Gb} (h : GL G BLs GLs ktab FLs GCs) (T : TopT G.S c__law_by_words st__law_by_words) (h__law_draw : FnSem (G.at 1) (c__law_draw)) : FnSem (G.at 2) c__law_by_words := top_ok (k := 1) (body := b__law_by_words) (N := N__law_by_words) h T rfl (by decide +kernel) (by decide) k__law_by_words (by simp only [b__law_by_words, oks, VS.S.ok, E.ok, Es.ok, As.ok, Sr.ok]; simp [h__law_draw.up (k := 1) (by decide)]) fun _ => .inr rfl
/-! _law_order -/
def st__law_order : Stmt := top 33
theorem k__law_order : chkSs (ccOf N__law_order st__law_order [false, false] BLs GLs ktab FLs GCs) b__law_order (defBody st__law_order) = true := by decide +kernel
theorem ok__law_order {G : Gb} (h : GL G BLs GLs ktab FLs GCs) (T : TopT G.S c__law_order st__law_order)  : FnSem (G.at 1) c__law_order := top_ok (k := 0) (body := b__law_order) (N := N__law_order) h T rfl (by decide +kernel) (by decide) k__law_order (by simp only [b__law_order, oks, VS.S.ok, E.ok, Es.ok, As.ok, Sr.ok]; simp []) fun _ => .inr rfl
/-! _law_family -/
def st__law_family : Stmt := top 39
theorem k__law_family : chkSs (ccOf N__law_family st__law_family [true, false] BLs GLs ktab FLs GCs) b__law_family (defBody st__law_family) = true := by decide +kernel
theorem ok__law_family {G : Gb} (h : GL G BLs GLs ktab FLs GCs) (T : TopT G.S c__law_family st__law_family) (h__law_draw : FnSem (G.at 1) (c__law_draw)) (h__law_by_tops : FnSem (G.at 2) (c__law_by_tops)) (h__law_odd : FnSem (G.at 2) (c__law_odd)) (h__law_by_classes : FnSem (G.at 2) (c__law_by_classes)) (h__law_by_words : FnSem (G.at 2) (c__law_by_words)) (h__law_order : FnSem (G.at 1) (c__law_order)) : FnSem (G.at 3) c__law_family := top_ok (k := 2) (body := b__law_family) (N := N__law_family) h T rfl (by decide +kernel) (by decide) k__law_family (by simp only [b__law_family, oks, VS.S.ok, E.ok, Es.ok, As.ok, Sr.ok]; simp [h__law_draw.up (k := 2) (by decide), h__law_by_tops.up (k := 2) (by decide), h__law_odd.up (k := 2) (by decide), h__law_by_classes.up (k := 2) (by decide), h__law_by_words.up (k := 2) (by decide), h__law_order.up (k := 2) (by decide)]) fun _ => .inr rfl
/-! _law_size -/
def st__law_size : Stmt := top 37
theorem k__law_size : chkSs (ccOf N__law_size st__law_size [true, false] BLs GLs ktab FLs GCs) b__law_size (defBody st__law_size) = true := by decide +kernel
theorem ok__law_size {G : Gb} (h : GL G BLs GLs ktab FLs GCs) (T : TopT G.S c__law_size st__law_size) (h__law_draw : FnSem (G.at 1) (c__law_draw)) : FnSem (G.at 2) c__law_size := top_ok (k := 1) (body := b__law_size) (N := N__law_size) h T rfl (by decide +kernel) (by decide) k__law_size (by simp only [b__law_size, oks, VS.S.ok, E.ok, Es.ok, As.ok, Sr.ok]; simp [h__law_draw.up (k := 1) (by decide)]) fun _ => .inr rfl
/-! is_thing -/
def st_is_thing : Stmt := top 11
theorem k_is_thing : chkSs (ccOf N_is_thing st_is_thing [false, false] BLs GLs ktab FLs GCs) b_is_thing (defBody st_is_thing) = true := by decide +kernel
theorem ok_is_thing {G : Gb} (h : GL G BLs GLs ktab FLs GCs) (T : TopT G.S c_is_thing st_is_thing)  : FnSem (G.at 1) c_is_thing := top_ok (k := 0) (body := b_is_thing) (N := N_is_thing) h T rfl (by decide +kernel) (by decide) k_is_thing (by simp only [b_is_thing, oks, VS.S.ok, E.ok, Es.ok, As.ok, Sr.ok]; simp []) fun _ => .inr rfl
/-! check_size -/
def st_check_size : Stmt := top 13
theorem k_check_size : chkSs (ccOf N_check_size st_check_size [false] BLs GLs ktab FLs GCs) b_check_size (defBody st_check_size) = true := by decide +kernel
theorem ok_check_size {G : Gb} (h : GL G BLs GLs ktab FLs GCs) (T : TopT G.S c_check_size st_check_size) (h_is_thing : FnSem (G.at 1) (c_is_thing)) : FnSem (G.at 2) c_check_size := top_ok (k := 1) (body := b_check_size) (N := N_check_size) h T rfl (by decide +kernel) (by decide) k_check_size (by simp only [b_check_size, oks, VS.S.ok, E.ok, Es.ok, As.ok, Sr.ok]; simp [h_is_thing.up (k := 1) (by decide)]) fun _ => .inr rfl
/-! is_set -/
def st_is_set : Stmt := top 12
theorem k_is_set : chkSs (ccOf N_is_set st_is_set [false, false] BLs GLs ktab FLs GCs) b_is_set (defBody st_is_set) = true := by decide +kernel
theorem ok_is_set {G : Gb} (h : GL G BLs GLs ktab FLs GCs) (T : TopT G.S c_is_set st_is_set) (h_is_thing : FnSem (G.at 1) (c_is_thing)) : FnSem (G.at 2) c_is_set := top_ok (k := 1) (body := b_is_set) (N := N_is_set) h T rfl (by decide +kernel) (by decide) k_is_set (by simp only [b_is_set, oks, VS.S.ok, E.ok, Es.ok, As.ok, Sr.ok]; simp [h_is_thing.up (k := 1) (by decide)]) fun _ => .inr rfl
/-! checked_sets -/
def st_checked_sets : Stmt := top 14
theorem k_checked_sets : chkSs (ccOf N_checked_sets st_checked_sets [false, false] BLs GLs ktab FLs GCs) b_checked_sets (defBody st_checked_sets) = true := by decide +kernel
theorem ok_checked_sets {G : Gb} (h : GL G BLs GLs ktab FLs GCs) (T : TopT G.S c_checked_sets st_checked_sets) (h_is_set : FnSem (G.at 2) (c_is_set)) : FnSem (G.at 3) c_checked_sets := top_ok (k := 2) (body := b_checked_sets) (N := N_checked_sets) h T rfl (by decide +kernel) (by decide) k_checked_sets (by simp only [b_checked_sets, oks, VS.S.ok, E.ok, Es.ok, As.ok, Sr.ok]; simp [h_is_set.up (k := 2) (by decide)]) fun _ => .inr rfl
/-! mask_of -/
def st_mask_of : Stmt := top 15
theorem k_mask_of : chkSs (ccOf N_mask_of st_mask_of [false] BLs GLs ktab FLs GCs) b_mask_of (defBody st_mask_of) = true := by decide +kernel
theorem ok_mask_of {G : Gb} (h : GL G BLs GLs ktab FLs GCs) (T : TopT G.S c_mask_of st_mask_of)  : FnSem (G.at 1) c_mask_of := top_ok (k := 0) (body := b_mask_of) (N := N_mask_of) h T rfl (by decide +kernel) (by decide) k_mask_of (by simp only [b_mask_of, oks, VS.S.ok, E.ok, Es.ok, As.ok, Sr.ok]; simp []) fun _ => .inr rfl
/-! things_of -/
def st_things_of : Stmt := top 16
theorem k_things_of : chkSs (ccOf N_things_of st_things_of [false] BLs GLs ktab FLs GCs) b_things_of (defBody st_things_of) = true := by decide +kernel
theorem ok_things_of {G : Gb} (h : GL G BLs GLs ktab FLs GCs) (T : TopT G.S c_things_of st_things_of)  : FnSem (G.at 1) c_things_of := top_ok (k := 0) (body := b_things_of) (N := N_things_of) h T rfl (by decide +kernel) (by decide) k_things_of (by simp only [b_things_of, oks, VS.S.ok, E.ok, Es.ok, As.ok, Sr.ok]; simp []) fun _ => .inr rfl
/-! all_sets -/
def st_all_sets : Stmt := top 17
theorem k_all_sets : chkSs (ccOf N_all_sets st_all_sets [false] BLs GLs ktab FLs GCs) b_all_sets (defBody st_all_sets) = true := by decide +kernel
theorem ok_all_sets {G : Gb} (h : GL G BLs GLs ktab FLs GCs) (T : TopT G.S c_all_sets st_all_sets) (h_things_of : FnSem (G.at 1) (c_things_of)) : FnSem (G.at 2) c_all_sets := top_ok (k := 1) (body := b_all_sets) (N := N_all_sets) h T rfl (by decide +kernel) (by decide) k_all_sets (by simp only [b_all_sets, oks, VS.S.ok, E.ok, Es.ok, As.ok, Sr.ok]; simp [h_things_of.up (k := 1) (by decide)]) fun _ => .inr rfl
/-! _is_within -/
def st__is_within : Stmt := top 18
theorem k__is_within : chkSs (ccOf N__is_within st__is_within [false, false] BLs GLs ktab FLs GCs) b__is_within (defBody st__is_within) = true := by decide +kernel
theorem ok__is_within {G : Gb} (h : GL G BLs GLs ktab FLs GCs) (T : TopT G.S c__is_within st__is_within) (h_things_of : FnSem (G.at 1) (c_things_of)) : FnSem (G.at 2) c__is_within := top_ok (k := 1) (body := b__is_within) (N := N__is_within) h T rfl (by decide +kernel) (by decide) k__is_within (by simp only [b__is_within, oks, VS.S.ok, E.ok, Es.ok, As.ok, Sr.ok]; simp [h_things_of.up (k := 1) (by decide)]) fun _ => .inr rfl
/-! Family.__init__ -/
def st_Family___init__ : Stmt := inClass (top 10) 0
theorem k_Family___init__ : chkSs (ccOf N_Family___init__ st_Family___init__ [true, false, false] BLs GLs ktab FLs GCs) b_Family___init__ (defBody st_Family___init__) = true := by decide +kernel
theorem ok_Family___init__ {G : Gb} (h : GL G BLs GLs ktab FLs GCs) (T : IniT G.S c_Family___init__ st_Family___init__ ("Family" : Str) ("Family.__init__" : Str)) (h_check_size : FnSem (G.at 2) (c_check_size)) (h_checked_sets : FnSem (G.at 3) (c_checked_sets)) (h_mask_of : FnSem (G.at 1) (c_mask_of)) (h_all_sets : FnSem (G.at 2) (c_all_sets)) (h__is_within : FnSem (G.at 2) (c__is_within)) : FnSem (G.at 5) c_Family___init__ := ini_ok (k := 3) (body := b_Family___init__) (N := N_Family___init__) h T rfl (by decide +kernel) (by decide) k_Family___init__ (by simp only [b_Family___init__, oks, VS.S.ok, E.ok, Es.ok, As.ok, Sr.ok]; simp [h_check_size.up (k := 3) (by decide), h_checked_sets.up (k := 3) (by decide), h_mask_of.up (k := 3) (by decide), h_all_sets.up (k := 3) (by decide), h__is_within.up (k := 3) (by decide)]) fun _ => .inr rfl
/-! _law_told -/
def st__law_told : Stmt := top 41
theorem k__law_told : chkSs (ccOf N__law_told st__law_told [false, false] BLs GLs ktab FLs GCs) b__law_told (defBody st__law_told) = true := by decide +kernel
theorem ok__law_told {G : Gb} (h : GL G BLs GLs ktab FLs GCs) (T : TopT G.S c__law_told st__law_told) (h__law_things : FnSem (G.at 1) (c__law_things)) (h_Family___init__ : FnSem (G.at 5) (c_Family___init__)) : FnSem (G.at 6) c__law_told := top_ok (k := 5) (body := b__law_told) (N := N__law_told) h T rfl (by decide +kernel) (by decide) k__law_told (by simp only [b__law_told, oks, VS.S.ok, E.ok, Es.ok, As.ok, Sr.ok]; simp [h__law_things.up (k := 5) (by decide), h_Family___init__.up (k := 5) (by decide)]) fun _ => .inr rfl
/-! Family.mask_rank -/
def st_Family_mask_rank : Stmt := inClass (top 10) 4
theorem k_Family_mask_rank : chkSs (ccOf N_Family_mask_rank st_Family_mask_rank [false, false] BLs GLs ktab FLs GCs) b_Family_mask_rank (defBody st_Family_mask_rank) = true := by decide +kernel
theorem ok_Family_mask_rank {G : Gb} (h : GL G BLs GLs ktab FLs GCs) (T : MetT G.S c_Family_mask_rank st_Family_mask_rank ("Family" : Str) ("Family.mask_rank" : Str)) (h__is_within : FnSem (G.at 2) (c__is_within)) (h_mask_of : FnSem (G.at 1) (c_mask_of)) : FnSem (G.at 3) c_Family_mask_rank := met_ok (k := 2) (body := b_Family_mask_rank) (N := N_Family_mask_rank) h T rfl (by decide +kernel) (by decide) k_Family_mask_rank (by simp only [b_Family_mask_rank, oks, VS.S.ok, E.ok, Es.ok, As.ok, Sr.ok]; simp [h__is_within.up (k := 2) (by decide), h_mask_of.up (k := 2) (by decide)]) fun _ => .inr rfl
/-! Family.addable -/
def st_Family_addable : Stmt := inClass (top 10) 7
theorem k_Family_addable : chkSs (ccOf N_Family_addable st_Family_addable [false, false] BLs GLs ktab FLs GCs) b_Family_addable (defBody st_Family_addable) = true := by decide +kernel
theorem ok_Family_addable {G : Gb} (h : GL G BLs GLs ktab FLs GCs) (T : MetT G.S c_Family_addable st_Family_addable ("Family" : Str) ("Family.addable" : Str)) (h_mask_of : FnSem (G.at 1) (c_mask_of)) : FnSem (G.at 2) c_Family_addable := met_ok (k := 1) (body := b_Family_addable) (N := N_Family_addable) h T rfl (by decide +kernel) (by decide) k_Family_addable (by simp only [b_Family_addable, oks, VS.S.ok, E.ok, Es.ok, As.ok, Sr.ok]; simp [h_mask_of.up (k := 1) (by decide)]) fun _ => .inr rfl
/-! is_integer -/
def st_is_integer : Stmt := top 21
theorem k_is_integer : chkSs (ccOf N_is_integer st_is_integer [false] BLs GLs ktab FLs GCs) b_is_integer (defBody st_is_integer) = true := by decide +kernel
theorem ok_is_integer {G : Gb} (h : GL G BLs GLs ktab FLs GCs) (T : TopT G.S c_is_integer st_is_integer)  : FnSem (G.at 1) c_is_integer := top_ok (k := 0) (body := b_is_integer) (N := N_is_integer) h T rfl (by decide +kernel) (by decide) k_is_integer (by simp only [b_is_integer, oks, VS.S.ok, E.ok, Es.ok, As.ok, Sr.ok]; simp []) fun _ => .inr rfl
/-! Frac.__init__ -/
def st_Frac___init__ : Stmt := inClass (top 23) 0
theorem k_Frac___init__ : chkSs (ccOf N_Frac___init__ st_Frac___init__ [true, false, false] BLs GLs ktab FLs GCs) b_Frac___init__ (defBody st_Frac___init__) = true := by decide +kernel
theorem ok_Frac___init__ {G : Gb} (h : GL G BLs GLs ktab FLs GCs) (T : IniT G.S c_Frac___init__ st_Frac___init__ ("Frac" : Str) ("Frac.__init__" : Str)) (h_is_integer : FnSem (G.at 1) (c_is_integer)) : FnSem (G.at 3) c_Frac___init__ := ini_ok (k := 1) (body := b_Frac___init__) (N := N_Frac___init__) h T rfl (by decide +kernel) (by decide) k_Frac___init__ (by simp only [b_Frac___init__, oks, VS.S.ok, E.ok, Es.ok, As.ok, Sr.ok]; simp [h_is_integer.up (k := 1) (by decide)]) fun _ => .inr rfl
/-! quotient -/
def st_quotient : Stmt := top 25
theorem k_quotient : chkSs (ccOf N_quotient st_quotient [false] BLs GLs ktab FLs GCs) b_quotient (defBody st_quotient) = true := by decide +kernel
theorem ok_quotient {G : Gb} (h : GL G BLs GLs ktab FLs GCs) (T : TopT G.S c_quotient st_quotient) (h_all_sets : FnSem (G.at 2) (c_all_sets)) (h_mask_of : FnSem (G.at 1) (c_mask_of)) (h_Family_mask_rank : FnSem (G.at 3) (c_Family_mask_rank)) (h_Family_addable : FnSem (G.at 2) (c_Family_addable)) (h_Frac___init__ : FnSem (G.at 3) (c_Frac___init__)) : FnSem (G.at 4) c_quotient := top_ok (k := 3) (body := b_quotient) (N := N_quotient) h T rfl (by decide +kernel) (by decide) k_quotient (by simp only [b_quotient, oks, VS.S.ok, E.ok, Es.ok, As.ok, Sr.ok]; simp [h_all_sets.up (k := 3) (by decide), h_mask_of.up (k := 3) (by decide), h_Family_mask_rank.up (k := 3) (by decide), h_Family_addable.up (k := 3) (by decide), h_Frac___init__.up (k := 3) (by decide)]) fun _ => .inr rfl
/-! _law_adds -/
def st__law_adds : Stmt := top 40
theorem k__law_adds : chkSs (ccOf N__law_adds st__law_adds [false, false] BLs GLs ktab FLs GCs) b__law_adds (defBody st__law_adds) = true := by decide +kernel
theorem ok__law_adds {G : Gb} (h : GL G BLs GLs ktab FLs GCs) (T : TopT G.S c__law_adds st__law_adds)  : FnSem (G.at 1) c__law_adds := top_ok (k := 0) (body := b__law_adds) (N := N__law_adds) h T rfl (by decide +kernel) (by decide) k__law_adds (by simp only [b__law_adds, oks, VS.S.ok, E.ok, Es.ok, As.ok, Sr.ok]; simp []) fun _ => .inr rfl
/-! _law_quotient -/
def st__law_quotient : Stmt := top 43
theorem k__law_quotient : chkSs (ccOf N__law_quotient st__law_quotient [false] BLs GLs ktab FLs GCs) b__law_quotient (defBody st__law_quotient) = true := by decide +kernel
theorem ok__law_quotient {G : Gb} (h : GL G BLs GLs ktab FLs GCs) (T : TopT G.S c__law_quotient st__law_quotient) (h__law_things : FnSem (G.at 1) (c__law_things)) (h__law_adds : FnSem (G.at 1) (c__law_adds)) (h__law_order : FnSem (G.at 1) (c__law_order)) : FnSem (G.at 2) c__law_quotient := top_ok (k := 1) (body := b__law_quotient) (N := N__law_quotient) h T rfl (by decide +kernel) (by decide) k__law_quotient (by simp only [b__law_quotient, oks, VS.S.ok, E.ok, Es.ok, As.ok, Sr.ok]; simp [h__law_things.up (k := 1) (by decide), h__law_adds.up (k := 1) (by decide), h__law_order.up (k := 1) (by decide)]) fun _ => .inr rfl
/-! _law_whole -/
def st__law_whole : Stmt := top 29
theorem k__law_whole : chkSs (ccOf N__law_whole st__law_whole [false] BLs GLs ktab FLs GCs) b__law_whole (defBody st__law_whole) = true := by decide +kernel
theorem ok__law_whole {G : Gb} (h : GL G BLs GLs ktab FLs GCs) (T : TopT G.S c__law_whole st__law_whole)  : FnSem (G.at 1) c__law_whole := top_ok (k := 0) (body := b__law_whole) (N := N__law_whole) h T rfl (by decide +kernel) (by decide) k__law_whole (by simp only [b__law_whole, oks, VS.S.ok, E.ok, Es.ok, As.ok, Sr.ok]; simp []) fun _ => .inr rfl
/-! _law_low -/
def st__law_low : Stmt := top 28
theorem k__law_low : chkSs (ccOf N__law_low st__law_low [false, false] BLs GLs ktab FLs GCs) b__law_low (defBody st__law_low) = true := by decide +kernel
theorem ok__law_low {G : Gb} (h : GL G BLs GLs ktab FLs GCs) (T : TopT G.S c__law_low st__law_low)  : FnSem (G.at 1) c__law_low := top_ok (k := 0) (body := b__law_low) (N := N__law_low) h T rfl (by decide +kernel) (by decide) k__law_low (by simp only [b__law_low, oks, VS.S.ok, E.ok, Es.ok, As.ok, Sr.ok]; simp []) fun _ => .inr rfl
/-! _law_is -/
def st__law_is : Stmt := top 30
theorem k__law_is : chkSs (ccOf N__law_is st__law_is [false, false, false] BLs GLs ktab FLs GCs) b__law_is (defBody st__law_is) = true := by decide +kernel
theorem ok__law_is {G : Gb} (h : GL G BLs GLs ktab FLs GCs) (T : TopT G.S c__law_is st__law_is) (h__law_whole : FnSem (G.at 1) (c__law_whole)) (h__law_low : FnSem (G.at 1) (c__law_low)) : FnSem (G.at 2) c__law_is := top_ok (k := 1) (body := b__law_is) (N := N__law_is) h T rfl (by decide +kernel) (by decide) k__law_is (by simp only [b__law_is, oks, VS.S.ok, E.ok, Es.ok, As.ok, Sr.ok]; simp [h__law_whole.up (k := 1) (by decide), h__law_low.up (k := 1) (by decide)]) fun _ => .inr rfl
/-! _law_like -/
def st__law_like : Stmt := top 31
theorem k__law_like : chkSs (ccOf N__law_like st__law_like [false, false] BLs GLs ktab FLs GCs) (b__law_like (c__law_like 0)) (defBody st__law_like) = true := by decide +kernel
-- recursive: level 3 + i
theorem ok__law_like {G : Gb} (h : GL G BLs GLs ktab FLs GCs) (T : TopT G.S (c__law_like 0) st__law_like) (h__law_is : FnSem (G.at 2) (c__law_is)) (h__law_whole : FnSem (G.at 1) (c__law_whole)) : ∀ i, FnSem (G.at (3 + i)) (c__law_like i)
  | 0 => top_ok (k := 2) (body := [.nev, .nev, .nev, .nev, .nev, .nev]) (N := N__law_like) h T rfl (by decide +kernel) (by decide) (by decide +kernel) (by simp [oks, VS.S.ok]) fun _ => .inl rfl
  | i + 1 => top_ok (k := 3 + i) (body := b__law_like (c__law_like i)) (N := N__law_like) h T rfl (show C8.scC N__law_like (c__law_like 0).ps (defScope st__law_like) = true from by decide +kernel) (show (c__law_like 0).io.length ≤ (c__law_like 0).ps.length from by decide) k__law_like (by have ih := ok__law_like h T h__law_is h__law_whole i; simp only [b__law_like, oks, VS.S.ok, E.ok, Es.ok, As.ok, Sr.ok]; simp [ih, h__law_is.up (k := 3 + i) (by omega), h__law_whole.up (k := 3 + i) (by omega)]) fun _ => .inr rfl
/-! _law_mask -/
def st__law_mask : Stmt := top 42
theorem k__law_mask : chkSs (ccOf N__law_mask st__law_mask [false, false] BLs GLs ktab FLs GCs) b__law_mask (defBody st__law_mask) = true := by decide +kernel
theorem ok__law_mask {G : Gb} (h : GL G BLs GLs ktab FLs GCs) (T : TopT G.S c__law_mask st__law_mask) (h__law_whole : FnSem (G.at 1) (c__law_whole)) (h__law_things : FnSem (G.at 1) (c__law_things)) : FnSem (G.at 2) c__law_mask := top_ok (k := 1) (body := b__law_mask) (N := N__law_mask) h T rfl (by decide +kernel) (by decide) k__law_mask (by simp only [b__law_mask, oks, VS.S.ok, E.ok, Es.ok, As.ok, Sr.ok]; simp [h__law_whole.up (k := 1) (by decide), h__law_things.up (k := 1) (by decide)]) fun _ => .inr rfl
/-! _law_judged -/
def st__law_judged : Stmt := top 44
theorem k__law_judged : chkSs (ccOf N__law_judged st__law_judged [false, false] BLs GLs ktab FLs GCs) b__law_judged (defBody st__law_judged) = true := by decide +kernel
theorem ok__law_judged {G : Gb} (h : GL G BLs GLs ktab FLs GCs) (T : TopT G.S c__law_judged st__law_judged) (h__law_quotient : FnSem (G.at 2) (c__law_quotient)) (h__law_like : FnSem (G.at 67) (c__law_like 64)) (h__law_is : FnSem (G.at 2) (c__law_is)) (h__law_things : FnSem (G.at 1) (c__law_things)) (h__law_mask : FnSem (G.at 2) (c__law_mask)) (h__law_adds : FnSem (G.at 1) (c__law_adds)) : FnSem (G.at 68) c__law_judged := top_ok (k := 67) (body := b__law_judged) (N := N__law_judged) h T rfl (by decide +kernel) (by decide) k__law_judged (by simp only [b__law_judged, oks, VS.S.ok, E.ok, Es.ok, As.ok, Sr.ok]; simp [h__law_quotient.up (k := 67) (by decide), h__law_like.up (k := 67) (by decide), h__law_is.up (k := 67) (by decide), h__law_things.up (k := 67) (by decide), h__law_mask.up (k := 67) (by decide), h__law_adds.up (k := 67) (by decide)]) fun _ => .inr rfl
/-! _law_asked -/
def st__law_asked : Stmt := top 45
theorem k__law_asked : chkSs (ccOf N__law_asked st__law_asked [false] BLs GLs ktab FLs GCs) b__law_asked (defBody st__law_asked) = true := by decide +kernel
theorem ok__law_asked {G : Gb} (h : GL G BLs GLs ktab FLs GCs) (T : TopT G.S c__law_asked st__law_asked) (h__law_family : FnSem (G.at 3) (c__law_family)) (h__law_size : FnSem (G.at 2) (c__law_size)) (h__law_draw : FnSem (G.at 1) (c__law_draw)) (h__law_told : FnSem (G.at 6) (c__law_told)) (h_quotient : FnSem (G.at 4) (c_quotient)) (h__law_judged : FnSem (G.at 68) (c__law_judged)) : FnSem (G.at 69) c__law_asked := top_ok (k := 68) (body := b__law_asked) (N := N__law_asked) h T rfl (by decide +kernel) (by decide) k__law_asked (by simp only [b__law_asked, oks, VS.S.ok, E.ok, Es.ok, As.ok, Sr.ok]; simp [h__law_family.up (k := 68) (by decide), h__law_size.up (k := 68) (by decide), h__law_draw.up (k := 68) (by decide), h__law_told.up (k := 68) (by decide), h_quotient.up (k := 68) (by decide), h__law_judged.up (k := 68) (by decide)]) fun _ => .inr rfl
/-! law -/
def st_law : Stmt := top 46
theorem k_law : chkSs (ccOf N_law st_law [false] BLs GLs ktab FLs GCs) b_law (defBody st_law) = true := by decide +kernel
theorem ok_law {G : Gb} (h : GL G BLs GLs ktab FLs GCs) (T : TopT G.S c_law st_law) (h__law_asked : FnSem (G.at 69) (c__law_asked)) : FnSem (G.at 70) c_law := top_ok (k := 69) (body := b_law) (N := N_law) h T rfl (by decide +kernel) (by decide) k_law (by simp only [b_law, oks, VS.S.ok, E.ok, Es.ok, As.ok, Sr.ok]; simp [h__law_asked.up (k := 69) (by decide)]) fun _ => .inr rfl
open PySem.W in
theorem all_mk {l : OpenLaw} {w : World} {K : Frag} {h : Heap} {mg : Str → Option Value} {fa : Addr} (X : K.In h) (Gn : h.Ns mainGlobals mg) (hfa : mg "law" = some (.ref fa)) (hlaw : ∀ ns : List Int, ns.length ≤ 63 → c_law.sem [.scr ns] = .ok (.bl true) []) {C_Family : Addr} {C_Frac : Addr} {f__law_draw : Addr} {od__law_draw an__law_draw : Option Addr} {sl__law_draw : Array (Option Value)} {oc__law_draw kV__law_draw dc__law_draw pm__law_draw cd__law_draw ct__law_draw : Value} {f__law_by_tops : Addr} {od__law_by_tops an__law_by_tops : Option Addr} {sl__law_by_tops : Array (Option Value)} {oc__law_by_tops kV__law_by_tops dc__law_by_tops pm__law_by_tops cd__law_by_tops ct__law_by_tops : Value} {f__law_odd : Addr} {od__law_odd an__law_odd : Option Addr} {sl__law_odd : Array (Option Value)} {oc__law_odd kV__law_odd dc__law_odd pm__law_odd cd__law_odd ct__law_odd : Value} {f__law_things : Addr} {od__law_things an__law_things : Option Addr} {sl__law_things : Array (Option Value)} {oc__law_things kV__law_things dc__law_things pm__law_things cd__law_things ct__law_things : Value} {f__law_by_classes : Addr} {od__law_by_classes an__law_by_classes : Option Addr} {sl__law_by_classes : Array (Option Value)} {oc__law_by_classes kV__law_by_classes dc__law_by_classes pm__law_by_classes cd__law_by_classes ct__law_by_classes : Value} {f__law_by_words : Addr} {od__law_by_words an__law_by_words : Option Addr} {sl__law_by_words : Array (Option Value)} {oc__law_by_words kV__law_by_words dc__law_by_words pm__law_by_words cd__law_by_words ct__law_by_words : Value} {f__law_order : Addr} {od__law_order an__law_order : Option Addr} {sl__law_order : Array (Option Value)} {oc__law_order kV__law_order dc__law_order pm__law_order cd__law_order ct__law_order : Value} {f__law_family : Addr} {od__law_family an__law_family : Option Addr} {sl__law_family : Array (Option Value)} {oc__law_family kV__law_family dc__law_family pm__law_family cd__law_family ct__law_family : Value} {f__law_size : Addr} {od__law_size an__law_size : Option Addr} {sl__law_size : Array (Option Value)} {oc__law_size kV__law_size dc__law_size pm__law_size cd__law_size ct__law_size : Value} {f_is_thing : Addr} {od_is_thing an_is_thing : Option Addr} {sl_is_thing : Array (Option Value)} {oc_is_thing kV_is_thing dc_is_thing pm_is_thing cd_is_thing ct_is_thing : Value} {f_check_size : Addr} {od_check_size an_check_size : Option Addr} {sl_check_size : Array (Option Value)} {oc_check_size kV_check_size dc_check_size pm_check_size cd_check_size ct_check_size : Value} {f_is_set : Addr} {od_is_set an_is_set : Option Addr} {sl_is_set : Array (Option Value)} {oc_is_set kV_is_set dc_is_set pm_is_set cd_is_set ct_is_set : Value} {f_checked_sets : Addr} {od_checked_sets an_checked_sets : Option Addr} {sl_checked_sets : Array (Option Value)} {oc_checked_sets kV_checked_sets dc_checked_sets pm_checked_sets cd_checked_sets ct_checked_sets : Value} {f_mask_of : Addr} {od_mask_of an_mask_of : Option Addr} {sl_mask_of : Array (Option Value)} {oc_mask_of kV_mask_of dc_mask_of pm_mask_of cd_mask_of ct_mask_of : Value} {f_things_of : Addr} {od_things_of an_things_of : Option Addr} {sl_things_of : Array (Option Value)} {oc_things_of kV_things_of dc_things_of pm_things_of cd_things_of ct_things_of : Value} {f_all_sets : Addr} {od_all_sets an_all_sets : Option Addr} {sl_all_sets : Array (Option Value)} {oc_all_sets kV_all_sets dc_all_sets pm_all_sets cd_all_sets ct_all_sets : Value} {f__is_within : Addr} {od__is_within an__is_within : Option Addr} {sl__is_within : Array (Option Value)} {oc__is_within kV__is_within dc__is_within pm__is_within cd__is_within ct__is_within : Value} {f_Family___init__ : Addr} {od_Family___init__ an_Family___init__ : Option Addr} {sl_Family___init__ : Array (Option Value)} {oc_Family___init__ kV_Family___init__ dc_Family___init__ pm_Family___init__ cd_Family___init__ ct_Family___init__ : Value} {f__law_told : Addr} {od__law_told an__law_told : Option Addr} {sl__law_told : Array (Option Value)} {oc__law_told kV__law_told dc__law_told pm__law_told cd__law_told ct__law_told : Value} {f_Family_mask_rank : Addr} {od_Family_mask_rank an_Family_mask_rank : Option Addr} {sl_Family_mask_rank : Array (Option Value)} {oc_Family_mask_rank kV_Family_mask_rank dc_Family_mask_rank pm_Family_mask_rank cd_Family_mask_rank ct_Family_mask_rank : Value} {f_Family_addable : Addr} {od_Family_addable an_Family_addable : Option Addr} {sl_Family_addable : Array (Option Value)} {oc_Family_addable kV_Family_addable dc_Family_addable pm_Family_addable cd_Family_addable ct_Family_addable : Value} {f_is_integer : Addr} {od_is_integer an_is_integer : Option Addr} {sl_is_integer : Array (Option Value)} {oc_is_integer kV_is_integer dc_is_integer pm_is_integer cd_is_integer ct_is_integer : Value} {f_Frac___init__ : Addr} {od_Frac___init__ an_Frac___init__ : Option Addr} {sl_Frac___init__ : Array (Option Value)} {oc_Frac___init__ kV_Frac___init__ dc_Frac___init__ pm_Frac___init__ cd_Frac___init__ ct_Frac___init__ : Value} {T_Frac___init__ : Addr} {tc_Frac___init__ : Value} {td_Frac___init__ : Option Addr} {tn_Frac___init__ : Nat} {ts_Frac___init__ : Array (Option Value)}{tk_Frac___init___0 : Tok} {f_quotient : Addr} {od_quotient an_quotient : Option Addr} {sl_quotient : Array (Option Value)} {oc_quotient kV_quotient dc_quotient pm_quotient cd_quotient ct_quotient : Value} {f__law_adds : Addr} {od__law_adds an__law_adds : Option Addr} {sl__law_adds : Array (Option Value)} {oc__law_adds kV__law_adds dc__law_adds pm__law_adds cd__law_adds ct__law_adds : Value} {f__law_quotient : Addr} {od__law_quotient an__law_quotient : Option Addr} {sl__law_quotient : Array (Option Value)} {oc__law_quotient kV__law_quotient dc__law_quotient pm__law_quotient cd__law_quotient ct__law_quotient : Value} {f__law_whole : Addr} {od__law_whole an__law_whole : Option Addr} {sl__law_whole : Array (Option Value)} {oc__law_whole kV__law_whole dc__law_whole pm__law_whole cd__law_whole ct__law_whole : Value} {f__law_low : Addr} {od__law_low an__law_low : Option Addr} {sl__law_low : Array (Option Value)} {oc__law_low kV__law_low dc__law_low pm__law_low cd__law_low ct__law_low : Value} {f__law_is : Addr} {od__law_is an__law_is : Option Addr} {sl__law_is : Array (Option Value)} {oc__law_is kV__law_is dc__law_is pm__law_is cd__law_is ct__law_is : Value} {f__law_like : Addr} {od__law_like an__law_like : Option Addr} {sl__law_like : Array (Option Value)} {oc__law_like kV__law_like dc__law_like pm__law_like cd__law_like ct__law_like : Value} {f__law_mask : Addr} {od__law_mask an__law_mask : Option Addr} {sl__law_mask : Array (Option Value)} {oc__law_mask kV__law_mask dc__law_mask pm__law_mask cd__law_mask ct__law_mask : Value} {f__law_judged : Addr} {od__law_judged an__law_judged : Option Addr} {sl__law_judged : Array (Option Value)} {oc__law_judged kV__law_judged dc__law_judged pm__law_judged cd__law_judged ct__law_judged : Value} {f__law_asked : Addr} {od__law_asked an__law_asked : Option Addr} {sl__law_asked : Array (Option Value)} {oc__law_asked kV__law_asked dc__law_asked pm__law_asked cd__law_asked ct__law_asked : Value} {f_law : Addr} {od_law an_law : Option Addr} {sl_law : Array (Option Value)} {oc_law kV_law dc_law pm_law cd_law ct_law : Value} {gt_MOST_THINGS : Tok}
  (aC_Family : nsIn K mainGlobals ("Family" : Str) = some (some (.ref C_Family)))
  (aC_Frac : nsIn K mainGlobals ("Frac" : Str) = some (some (.ref C_Frac)))
  (a__law_draw : nsIn K mainGlobals ("_law_draw" : Str) = some (some (.ref f__law_draw)))
  (l__law_draw : K.lookup f__law_draw = some ⟨oc__law_draw, od__law_draw, .func (fnOf ("_law_draw" : Str) ("_law_draw" : Str) (defArgs st__law_draw) (defBody st__law_draw) (defScope st__law_draw) .none kV__law_draw dc__law_draw pm__law_draw an__law_draw cd__law_draw ct__law_draw), sl__law_draw⟩)
  (c_f__law_draw : codeIn K cd__law_draw ("_law_draw" : Str) = true)
  (kp__law_draw : keepIn K (.ref f__law_draw) = true)
  (a__law_by_tops : nsIn K mainGlobals ("_law_by_tops" : Str) = some (some (.ref f__law_by_tops)))
  (l__law_by_tops : K.lookup f__law_by_tops = some ⟨oc__law_by_tops, od__law_by_tops, .func (fnOf ("_law_by_tops" : Str) ("_law_by_tops" : Str) (defArgs st__law_by_tops) (defBody st__law_by_tops) (defScope st__law_by_tops) .none kV__law_by_tops dc__law_by_tops pm__law_by_tops an__law_by_tops cd__law_by_tops ct__law_by_tops), sl__law_by_tops⟩)
  (c_f__law_by_tops : codeIn K cd__law_by_tops ("_law_by_tops" : Str) = true)
  (kp__law_by_tops : keepIn K (.ref f__law_by_tops) = true)
  (a__law_odd : nsIn K mainGlobals ("_law_odd" : Str) = some (some (.ref f__law_odd)))
  (l__law_odd : K.lookup f__law_odd = some ⟨oc__law_odd, od__law_odd, .func (fnOf ("_law_odd" : Str) ("_law_odd" : Str) (defArgs st__law_odd) (defBody st__law_odd) (defScope st__law_odd) .none kV__law_odd dc__law_odd pm__law_odd an__law_odd cd__law_odd ct__law_odd), sl__law_odd⟩)
  (c_f__law_odd : codeIn K cd__law_odd ("_law_odd" : Str) = true)
  (kp__law_odd : keepIn K (.ref f__law_odd) = true)
  (a__law_things : nsIn K mainGlobals ("_law_things" : Str) = some (some (.ref f__law_things)))
  (l__law_things : K.lookup f__law_things = some ⟨oc__law_things, od__law_things, .func (fnOf ("_law_things" : Str) ("_law_things" : Str) (defArgs st__law_things) (defBody st__law_things) (defScope st__law_things) .none kV__law_things dc__law_things pm__law_things an__law_things cd__law_things ct__law_things), sl__law_things⟩)
  (c_f__law_things : codeIn K cd__law_things ("_law_things" : Str) = true)
  (kp__law_things : keepIn K (.ref f__law_things) = true)
  (a__law_by_classes : nsIn K mainGlobals ("_law_by_classes" : Str) = some (some (.ref f__law_by_classes)))
  (l__law_by_classes : K.lookup f__law_by_classes = some ⟨oc__law_by_classes, od__law_by_classes, .func (fnOf ("_law_by_classes" : Str) ("_law_by_classes" : Str) (defArgs st__law_by_classes) (defBody st__law_by_classes) (defScope st__law_by_classes) .none kV__law_by_classes dc__law_by_classes pm__law_by_classes an__law_by_classes cd__law_by_classes ct__law_by_classes), sl__law_by_classes⟩)
  (c_f__law_by_classes : codeIn K cd__law_by_classes ("_law_by_classes" : Str) = true)
  (kp__law_by_classes : keepIn K (.ref f__law_by_classes) = true)
  (a__law_by_words : nsIn K mainGlobals ("_law_by_words" : Str) = some (some (.ref f__law_by_words)))
  (l__law_by_words : K.lookup f__law_by_words = some ⟨oc__law_by_words, od__law_by_words, .func (fnOf ("_law_by_words" : Str) ("_law_by_words" : Str) (defArgs st__law_by_words) (defBody st__law_by_words) (defScope st__law_by_words) .none kV__law_by_words dc__law_by_words pm__law_by_words an__law_by_words cd__law_by_words ct__law_by_words), sl__law_by_words⟩)
  (c_f__law_by_words : codeIn K cd__law_by_words ("_law_by_words" : Str) = true)
  (kp__law_by_words : keepIn K (.ref f__law_by_words) = true)
  (a__law_order : nsIn K mainGlobals ("_law_order" : Str) = some (some (.ref f__law_order)))
  (l__law_order : K.lookup f__law_order = some ⟨oc__law_order, od__law_order, .func (fnOf ("_law_order" : Str) ("_law_order" : Str) (defArgs st__law_order) (defBody st__law_order) (defScope st__law_order) .none kV__law_order dc__law_order pm__law_order an__law_order cd__law_order ct__law_order), sl__law_order⟩)
  (c_f__law_order : codeIn K cd__law_order ("_law_order" : Str) = true)
  (kp__law_order : keepIn K (.ref f__law_order) = true)
  (a__law_family : nsIn K mainGlobals ("_law_family" : Str) = some (some (.ref f__law_family)))
  (l__law_family : K.lookup f__law_family = some ⟨oc__law_family, od__law_family, .func (fnOf ("_law_family" : Str) ("_law_family" : Str) (defArgs st__law_family) (defBody st__law_family) (defScope st__law_family) .none kV__law_family dc__law_family pm__law_family an__law_family cd__law_family ct__law_family), sl__law_family⟩)
  (c_f__law_family : codeIn K cd__law_family ("_law_family" : Str) = true)
  (kp__law_family : keepIn K (.ref f__law_family) = true)
  (a__law_size : nsIn K mainGlobals ("_law_size" : Str) = some (some (.ref f__law_size)))
  (l__law_size : K.lookup f__law_size = some ⟨oc__law_size, od__law_size, .func (fnOf ("_law_size" : Str) ("_law_size" : Str) (defArgs st__law_size) (defBody st__law_size) (defScope st__law_size) .none kV__law_size dc__law_size pm__law_size an__law_size cd__law_size ct__law_size), sl__law_size⟩)
  (c_f__law_size : codeIn K cd__law_size ("_law_size" : Str) = true)
  (kp__law_size : keepIn K (.ref f__law_size) = true)
  (a_is_thing : nsIn K mainGlobals ("is_thing" : Str) = some (some (.ref f_is_thing)))
  (l_is_thing : K.lookup f_is_thing = some ⟨oc_is_thing, od_is_thing, .func (fnOf ("is_thing" : Str) ("is_thing" : Str) (defArgs st_is_thing) (defBody st_is_thing) (defScope st_is_thing) .none kV_is_thing dc_is_thing pm_is_thing an_is_thing cd_is_thing ct_is_thing), sl_is_thing⟩)
  (c_f_is_thing : codeIn K cd_is_thing ("is_thing" : Str) = true)
  (kp_is_thing : keepIn K (.ref f_is_thing) = true)
  (a_check_size : nsIn K mainGlobals ("check_size" : Str) = some (some (.ref f_check_size)))
  (l_check_size : K.lookup f_check_size = some ⟨oc_check_size, od_check_size, .func (fnOf ("check_size" : Str) ("check_size" : Str) (defArgs st_check_size) (defBody st_check_size) (defScope st_check_size) .none kV_check_size dc_check_size pm_check_size an_check_size cd_check_size ct_check_size), sl_check_size⟩)
  (c_f_check_size : codeIn K cd_check_size ("check_size" : Str) = true)
  (kp_check_size : keepIn K (.ref f_check_size) = true)
  (a_is_set : nsIn K mainGlobals ("is_set" : Str) = some (some (.ref f_is_set)))
  (l_is_set : K.lookup f_is_set = some ⟨oc_is_set, od_is_set, .func (fnOf ("is_set" : Str) ("is_set" : Str) (defArgs st_is_set) (defBody st_is_set) (defScope st_is_set) .none kV_is_set dc_is_set pm_is_set an_is_set cd_is_set ct_is_set), sl_is_set⟩)
  (c_f_is_set : codeIn K cd_is_set ("is_set" : Str) = true)
  (kp_is_set : keepIn K (.ref f_is_set) = true)
  (a_checked_sets : nsIn K mainGlobals ("checked_sets" : Str) = some (some (.ref f_checked_sets)))
  (l_checked_sets : K.lookup f_checked_sets = some ⟨oc_checked_sets, od_checked_sets, .func (fnOf ("checked_sets" : Str) ("checked_sets" : Str) (defArgs st_checked_sets) (defBody st_checked_sets) (defScope st_checked_sets) .none kV_checked_sets dc_checked_sets pm_checked_sets an_checked_sets cd_checked_sets ct_checked_sets), sl_checked_sets⟩)
  (c_f_checked_sets : codeIn K cd_checked_sets ("checked_sets" : Str) = true)
  (kp_checked_sets : keepIn K (.ref f_checked_sets) = true)
  (a_mask_of : nsIn K mainGlobals ("mask_of" : Str) = some (some (.ref f_mask_of)))
  (l_mask_of : K.lookup f_mask_of = some ⟨oc_mask_of, od_mask_of, .func (fnOf ("mask_of" : Str) ("mask_of" : Str) (defArgs st_mask_of) (defBody st_mask_of) (defScope st_mask_of) .none kV_mask_of dc_mask_of pm_mask_of an_mask_of cd_mask_of ct_mask_of), sl_mask_of⟩)
  (c_f_mask_of : codeIn K cd_mask_of ("mask_of" : Str) = true)
  (kp_mask_of : keepIn K (.ref f_mask_of) = true)
  (a_things_of : nsIn K mainGlobals ("things_of" : Str) = some (some (.ref f_things_of)))
  (l_things_of : K.lookup f_things_of = some ⟨oc_things_of, od_things_of, .func (fnOf ("things_of" : Str) ("things_of" : Str) (defArgs st_things_of) (defBody st_things_of) (defScope st_things_of) .none kV_things_of dc_things_of pm_things_of an_things_of cd_things_of ct_things_of), sl_things_of⟩)
  (c_f_things_of : codeIn K cd_things_of ("things_of" : Str) = true)
  (kp_things_of : keepIn K (.ref f_things_of) = true)
  (a_all_sets : nsIn K mainGlobals ("all_sets" : Str) = some (some (.ref f_all_sets)))
  (l_all_sets : K.lookup f_all_sets = some ⟨oc_all_sets, od_all_sets, .func (fnOf ("all_sets" : Str) ("all_sets" : Str) (defArgs st_all_sets) (defBody st_all_sets) (defScope st_all_sets) .none kV_all_sets dc_all_sets pm_all_sets an_all_sets cd_all_sets ct_all_sets), sl_all_sets⟩)
  (c_f_all_sets : codeIn K cd_all_sets ("all_sets" : Str) = true)
  (kp_all_sets : keepIn K (.ref f_all_sets) = true)
  (a__is_within : nsIn K mainGlobals ("_is_within" : Str) = some (some (.ref f__is_within)))
  (l__is_within : K.lookup f__is_within = some ⟨oc__is_within, od__is_within, .func (fnOf ("_is_within" : Str) ("_is_within" : Str) (defArgs st__is_within) (defBody st__is_within) (defScope st__is_within) .none kV__is_within dc__is_within pm__is_within an__is_within cd__is_within ct__is_within), sl__is_within⟩)
  (c_f__is_within : codeIn K cd__is_within ("_is_within" : Str) = true)
  (kp__is_within : keepIn K (.ref f__is_within) = true)
  (a_Family___init__ : findIn K (.ref C_Family) ("__init__" : Str) = some (some (.ref f_Family___init__)))
  (i_Family___init__ : isFn K (.ref f_Family___init__) = true)
  (l_Family___init__ : K.lookup f_Family___init__ = some ⟨oc_Family___init__, od_Family___init__, .func (fnOf ("__init__" : Str) ("Family.__init__" : Str) (defArgs st_Family___init__) (defBody st_Family___init__) (defScope st_Family___init__) .none kV_Family___init__ dc_Family___init__ pm_Family___init__ an_Family___init__ cd_Family___init__ ct_Family___init__), sl_Family___init__⟩)
  (c_f_Family___init__ : codeIn K cd_Family___init__ ("Family.__init__" : Str) = true)
  (kp_Family___init__ : keepIn K (.ref f_Family___init__) = true)
  (a__law_told : nsIn K mainGlobals ("_law_told" : Str) = some (some (.ref f__law_told)))
  (l__law_told : K.lookup f__law_told = some ⟨oc__law_told, od__law_told, .func (fnOf ("_law_told" : Str) ("_law_told" : Str) (defArgs st__law_told) (defBody st__law_told) (defScope st__law_told) .none kV__law_told dc__law_told pm__law_told an__law_told cd__law_told ct__law_told), sl__law_told⟩)
  (c_f__law_told : codeIn K cd__law_told ("_law_told" : Str) = true)
  (kp__law_told : keepIn K (.ref f__law_told) = true)
  (a_Family_mask_rank : findIn K (.ref C_Family) ("mask_rank" : Str) = some (some (.ref f_Family_mask_rank)))
  (i_Family_mask_rank : isFn K (.ref f_Family_mask_rank) = true)
  (l_Family_mask_rank : K.lookup f_Family_mask_rank = some ⟨oc_Family_mask_rank, od_Family_mask_rank, .func (fnOf ("mask_rank" : Str) ("Family.mask_rank" : Str) (defArgs st_Family_mask_rank) (defBody st_Family_mask_rank) (defScope st_Family_mask_rank) .none kV_Family_mask_rank dc_Family_mask_rank pm_Family_mask_rank an_Family_mask_rank cd_Family_mask_rank ct_Family_mask_rank), sl_Family_mask_rank⟩)
  (c_f_Family_mask_rank : codeIn K cd_Family_mask_rank ("Family.mask_rank" : Str) = true)
  (kp_Family_mask_rank : keepIn K (.ref f_Family_mask_rank) = true)
  (a_Family_addable : findIn K (.ref C_Family) ("addable" : Str) = some (some (.ref f_Family_addable)))
  (i_Family_addable : isFn K (.ref f_Family_addable) = true)
  (l_Family_addable : K.lookup f_Family_addable = some ⟨oc_Family_addable, od_Family_addable, .func (fnOf ("addable" : Str) ("Family.addable" : Str) (defArgs st_Family_addable) (defBody st_Family_addable) (defScope st_Family_addable) .none kV_Family_addable dc_Family_addable pm_Family_addable an_Family_addable cd_Family_addable ct_Family_addable), sl_Family_addable⟩)
  (c_f_Family_addable : codeIn K cd_Family_addable ("Family.addable" : Str) = true)
  (kp_Family_addable : keepIn K (.ref f_Family_addable) = true)
  (a_is_integer : nsIn K mainGlobals ("is_integer" : Str) = some (some (.ref f_is_integer)))
  (l_is_integer : K.lookup f_is_integer = some ⟨oc_is_integer, od_is_integer, .func (fnOf ("is_integer" : Str) ("is_integer" : Str) (defArgs st_is_integer) (defBody st_is_integer) (defScope st_is_integer) .none kV_is_integer dc_is_integer pm_is_integer an_is_integer cd_is_integer ct_is_integer), sl_is_integer⟩)
  (c_f_is_integer : codeIn K cd_is_integer ("is_integer" : Str) = true)
  (kp_is_integer : keepIn K (.ref f_is_integer) = true)
  (a_Frac___init__ : findIn K (.ref C_Frac) ("__init__" : Str) = some (some (.ref f_Frac___init__)))
  (i_Frac___init__ : isFn K (.ref f_Frac___init__) = true)
  (l_Frac___init__ : K.lookup f_Frac___init__ = some ⟨oc_Frac___init__, od_Frac___init__, .func (fnOf ("__init__" : Str) ("Frac.__init__" : Str) (defArgs st_Frac___init__) (defBody st_Frac___init__) (defScope st_Frac___init__) (.ref T_Frac___init__) kV_Frac___init__ dc_Frac___init__ pm_Frac___init__ an_Frac___init__ cd_Frac___init__ ct_Frac___init__), sl_Frac___init__⟩)
  (c_f_Frac___init__ : codeIn K cd_Frac___init__ ("Frac.__init__" : Str) = true)
  (kp_Frac___init__ : keepIn K (.ref f_Frac___init__) = true)
  (t_Frac___init__ : K.lookup T_Frac___init__ = some ⟨tc_Frac___init__, td_Frac___init__, .seq #[.int 1 tk_Frac___init___0] tn_Frac___init__, ts_Frac___init__⟩)
  (a_quotient : nsIn K mainGlobals ("quotient" : Str) = some (some (.ref f_quotient)))
  (l_quotient : K.lookup f_quotient = some ⟨oc_quotient, od_quotient, .func (fnOf ("quotient" : Str) ("quotient" : Str) (defArgs st_quotient) (defBody st_quotient) (defScope st_quotient) .none kV_quotient dc_quotient pm_quotient an_quotient cd_quotient ct_quotient), sl_quotient⟩)
  (c_f_quotient : codeIn K cd_quotient ("quotient" : Str) = true)
  (kp_quotient : keepIn K (.ref f_quotient) = true)
  (a__law_adds : nsIn K mainGlobals ("_law_adds" : Str) = some (some (.ref f__law_adds)))
  (l__law_adds : K.lookup f__law_adds = some ⟨oc__law_adds, od__law_adds, .func (fnOf ("_law_adds" : Str) ("_law_adds" : Str) (defArgs st__law_adds) (defBody st__law_adds) (defScope st__law_adds) .none kV__law_adds dc__law_adds pm__law_adds an__law_adds cd__law_adds ct__law_adds), sl__law_adds⟩)
  (c_f__law_adds : codeIn K cd__law_adds ("_law_adds" : Str) = true)
  (kp__law_adds : keepIn K (.ref f__law_adds) = true)
  (a__law_quotient : nsIn K mainGlobals ("_law_quotient" : Str) = some (some (.ref f__law_quotient)))
  (l__law_quotient : K.lookup f__law_quotient = some ⟨oc__law_quotient, od__law_quotient, .func (fnOf ("_law_quotient" : Str) ("_law_quotient" : Str) (defArgs st__law_quotient) (defBody st__law_quotient) (defScope st__law_quotient) .none kV__law_quotient dc__law_quotient pm__law_quotient an__law_quotient cd__law_quotient ct__law_quotient), sl__law_quotient⟩)
  (c_f__law_quotient : codeIn K cd__law_quotient ("_law_quotient" : Str) = true)
  (kp__law_quotient : keepIn K (.ref f__law_quotient) = true)
  (a__law_whole : nsIn K mainGlobals ("_law_whole" : Str) = some (some (.ref f__law_whole)))
  (l__law_whole : K.lookup f__law_whole = some ⟨oc__law_whole, od__law_whole, .func (fnOf ("_law_whole" : Str) ("_law_whole" : Str) (defArgs st__law_whole) (defBody st__law_whole) (defScope st__law_whole) .none kV__law_whole dc__law_whole pm__law_whole an__law_whole cd__law_whole ct__law_whole), sl__law_whole⟩)
  (c_f__law_whole : codeIn K cd__law_whole ("_law_whole" : Str) = true)
  (kp__law_whole : keepIn K (.ref f__law_whole) = true)
  (a__law_low : nsIn K mainGlobals ("_law_low" : Str) = some (some (.ref f__law_low)))
  (l__law_low : K.lookup f__law_low = some ⟨oc__law_low, od__law_low, .func (fnOf ("_law_low" : Str) ("_law_low" : Str) (defArgs st__law_low) (defBody st__law_low) (defScope st__law_low) .none kV__law_low dc__law_low pm__law_low an__law_low cd__law_low ct__law_low), sl__law_low⟩)
  (c_f__law_low : codeIn K cd__law_low ("_law_low" : Str) = true)
  (kp__law_low : keepIn K (.ref f__law_low) = true)
  (a__law_is : nsIn K mainGlobals ("_law_is" : Str) = some (some (.ref f__law_is)))
  (l__law_is : K.lookup f__law_is = some ⟨oc__law_is, od__law_is, .func (fnOf ("_law_is" : Str) ("_law_is" : Str) (defArgs st__law_is) (defBody st__law_is) (defScope st__law_is) .none kV__law_is dc__law_is pm__law_is an__law_is cd__law_is ct__law_is), sl__law_is⟩)
  (c_f__law_is : codeIn K cd__law_is ("_law_is" : Str) = true)
  (kp__law_is : keepIn K (.ref f__law_is) = true)
  (a__law_like : nsIn K mainGlobals ("_law_like" : Str) = some (some (.ref f__law_like)))
  (l__law_like : K.lookup f__law_like = some ⟨oc__law_like, od__law_like, .func (fnOf ("_law_like" : Str) ("_law_like" : Str) (defArgs st__law_like) (defBody st__law_like) (defScope st__law_like) .none kV__law_like dc__law_like pm__law_like an__law_like cd__law_like ct__law_like), sl__law_like⟩)
  (c_f__law_like : codeIn K cd__law_like ("_law_like" : Str) = true)
  (kp__law_like : keepIn K (.ref f__law_like) = true)
  (a__law_mask : nsIn K mainGlobals ("_law_mask" : Str) = some (some (.ref f__law_mask)))
  (l__law_mask : K.lookup f__law_mask = some ⟨oc__law_mask, od__law_mask, .func (fnOf ("_law_mask" : Str) ("_law_mask" : Str) (defArgs st__law_mask) (defBody st__law_mask) (defScope st__law_mask) .none kV__law_mask dc__law_mask pm__law_mask an__law_mask cd__law_mask ct__law_mask), sl__law_mask⟩)
  (c_f__law_mask : codeIn K cd__law_mask ("_law_mask" : Str) = true)
  (kp__law_mask : keepIn K (.ref f__law_mask) = true)
  (a__law_judged : nsIn K mainGlobals ("_law_judged" : Str) = some (some (.ref f__law_judged)))
  (l__law_judged : K.lookup f__law_judged = some ⟨oc__law_judged, od__law_judged, .func (fnOf ("_law_judged" : Str) ("_law_judged" : Str) (defArgs st__law_judged) (defBody st__law_judged) (defScope st__law_judged) .none kV__law_judged dc__law_judged pm__law_judged an__law_judged cd__law_judged ct__law_judged), sl__law_judged⟩)
  (c_f__law_judged : codeIn K cd__law_judged ("_law_judged" : Str) = true)
  (kp__law_judged : keepIn K (.ref f__law_judged) = true)
  (a__law_asked : nsIn K mainGlobals ("_law_asked" : Str) = some (some (.ref f__law_asked)))
  (l__law_asked : K.lookup f__law_asked = some ⟨oc__law_asked, od__law_asked, .func (fnOf ("_law_asked" : Str) ("_law_asked" : Str) (defArgs st__law_asked) (defBody st__law_asked) (defScope st__law_asked) .none kV__law_asked dc__law_asked pm__law_asked an__law_asked cd__law_asked ct__law_asked), sl__law_asked⟩)
  (c_f__law_asked : codeIn K cd__law_asked ("_law_asked" : Str) = true)
  (kp__law_asked : keepIn K (.ref f__law_asked) = true)
  (a_law : nsIn K mainGlobals ("law" : Str) = some (some (.ref f_law)))
  (l_law : K.lookup f_law = some ⟨oc_law, od_law, .func (fnOf ("law" : Str) ("law" : Str) (defArgs st_law) (defBody st_law) (defScope st_law) .none kV_law dc_law pm_law an_law cd_law ct_law), sl_law⟩)
  (c_f_law : codeIn K cd_law ("law" : Str) = true)
  (kp_law : keepIn K (.ref f_law) = true)
  (pg_Family : plainGet K C_Family Str.empty = true)
  (hd_Family : hasDictIn K C_Family = true)
  (po_Family : plainOver K C_Family = true)
  (sa_Family : findIn K (.ref C_Family) "__setattr__" = some (some (.builtin "object.__setattr__")))
  (ha_Family : findIn K (.ref C_Family) "__class__" = some (some (.builtin "object.__class__")))
  (ob_Family : mroIn K C_Family (.type "object") = some true)
  (ty_Family : typeIn K (.ref C_Family) = some (.type "type"))
  (mk_Family : makesIn K C_Family = true)
  (kc_Family : keepIn K (.ref C_Family) = true)
  (pg_Frac : plainGet K C_Frac Str.empty = true)
  (hd_Frac : hasDictIn K C_Frac = true)
  (po_Frac : plainOver K C_Frac = true)
  (sa_Frac : findIn K (.ref C_Frac) "__setattr__" = some (some (.builtin "object.__setattr__")))
  (ha_Frac : findIn K (.ref C_Frac) "__class__" = some (some (.builtin "object.__class__")))
  (ob_Frac : mroIn K C_Frac (.type "object") = some true)
  (ty_Frac : typeIn K (.ref C_Frac) = some (.type "type"))
  (mk_Frac : makesIn K C_Frac = true)
  (kc_Frac : keepIn K (.ref C_Frac) = true)
  (hn : specialIn K (.builtin "object.__class__") "__get__" = some (some (.builtin "getset_descriptor.__get__")))
  (htk : takesIn K (.builtin "object.__class__") = some true)
  (n_Family_sets : findIn K (.ref C_Family) ("sets" : Str) = some none)
  (n_Family_size : findIn K (.ref C_Family) ("size" : Str) = some none)
  (n_Family_table : findIn K (.ref C_Family) ("table" : Str) = some none)
  (n_Frac_den : findIn K (.ref C_Frac) ("den" : Str) = some none)
  (n_Frac_num : findIn K (.ref C_Frac) ("num" : Str) = some none)
  (z_abs : nsIn K mainGlobals ("abs" : Str) = some none)
  (z_all : nsIn K mainGlobals ("all" : Str) = some none)
  (z_any : nsIn K mainGlobals ("any" : Str) = some none)
  (z_bool : nsIn K mainGlobals ("bool" : Str) = some none)
  (z_enumerate : nsIn K mainGlobals ("enumerate" : Str) = some none)
  (z_int : nsIn K mainGlobals ("int" : Str) = some none)
  (z_isinstance : nsIn K mainGlobals ("isinstance" : Str) = some none)
  (z_len : nsIn K mainGlobals ("len" : Str) = some none)
  (z_list : nsIn K mainGlobals ("list" : Str) = some none)
  (z_max : nsIn K mainGlobals ("max" : Str) = some none)
  (z_range : nsIn K mainGlobals ("range" : Str) = some none)
  (z_reversed : nsIn K mainGlobals ("reversed" : Str) = some none)
  (z_sorted : nsIn K mainGlobals ("sorted" : Str) = some none)
  (z_str : nsIn K mainGlobals ("str" : Str) = some none)
  (z_sum : nsIn K mainGlobals ("sum" : Str) = some none)
  (z_tuple : nsIn K mainGlobals ("tuple" : Str) = some none)
  (g_MOST_THINGS : nsIn K mainGlobals ("MOST_THINGS" : Str) = some (some (.int 6 gt_MOST_THINGS)))
  (gcd_ : nsIn K mainGlobals "gcd" = some (some (.builtin "math.gcd")))
  (q_0 : mroIn K C_Family (.type "bool") = some false)
  (q_1 : mroIn K C_Family (.type "int") = some false)
  (q_2 : mroIn K C_Family (.type "str") = some false)
  (q_3 : mroIn K C_Family (.type "list") = some false)
  (q_4 : mroIn K C_Family (.type "tuple") = some false)
  (q_5 : mroIn K C_Frac (.type "bool") = some false)
  (q_6 : mroIn K C_Frac (.type "int") = some false)
  (q_7 : mroIn K C_Frac (.type "str") = some false)
  (q_8 : mroIn K C_Frac (.type "list") = some false)
  (q_9 : mroIn K C_Frac (.type "tuple") = some false)
  (q_16 : subIn K (.ref C_Family) (.ref C_Frac) = some false)
  (r_16 : C_Family ≠ C_Frac) :
  ∃ fd : FuncData, (∀ (s : Shared) (v : Value), BindsTo s fd ⟨[v], []⟩ [("script", v)]) ∧ ∀ base : Heap, K.In base → base.Ns mainGlobals mg → FnOk l.prog w K mg base (L2N.CX l.prog w) 70 fa fd ["script"] (spLaw 63 K) := by
  have e := hfa.symm.trans (mg_of X Gn a_law)
  cases e
  have I_Family : InsOk K C_Family [] := ⟨⟨pg_Family, hd_Family, po_Family, sa_Family⟩, (fun _ h => nomatch h), ha_Family, hn, htk, ob_Family⟩
  have I_Frac : InsOk K C_Frac [] := ⟨⟨pg_Frac, hd_Frac, po_Frac, sa_Frac⟩, (fun _ h => nomatch h), ha_Frac, hn, htk, ob_Frac⟩
  have T__law_draw : TopT ⟨K, mg⟩ c__law_draw st__law_draw := ⟨f__law_draw, _, _, mg_of X Gn a__law_draw, kp__law_draw, DefT.mk' l__law_draw c_f__law_draw, dfl_none rfl fun us hl => match us, hl with | [_, _], _ => rfl, fun _ h => nomatch h⟩
  have T__law_by_tops : TopT ⟨K, mg⟩ c__law_by_tops st__law_by_tops := ⟨f__law_by_tops, _, _, mg_of X Gn a__law_by_tops, kp__law_by_tops, DefT.mk' l__law_by_tops c_f__law_by_tops, dfl_none rfl fun us hl => match us, hl with | [_, _], _ => rfl, fun _ h => nomatch h⟩
  have T__law_odd : TopT ⟨K, mg⟩ c__law_odd st__law_odd := ⟨f__law_odd, _, _, mg_of X Gn a__law_odd, kp__law_odd, DefT.mk' l__law_odd c_f__law_odd, dfl_none rfl fun us hl => match us, hl with | [_, _], _ => rfl, fun _ h => nomatch h⟩
  have T__law_things : TopT ⟨K, mg⟩ c__law_things st__law_things := ⟨f__law_things, _, _, mg_of X Gn a__law_things, kp__law_things, DefT.mk' l__law_things c_f__law_things, dfl_none rfl fun us hl => match us, hl with | [_], _ => rfl, fun _ h => nomatch h⟩
  have T__law_by_classes : TopT ⟨K, mg⟩ c__law_by_classes st__law_by_classes := ⟨f__law_by_classes, _, _, mg_of X Gn a__law_by_classes, kp__law_by_classes, DefT.mk' l__law_by_classes c_f__law_by_classes, dfl_none rfl fun us hl => match us, hl with | [_, _], _ => rfl, fun _ h => nomatch h⟩
  have T__law_by_words : TopT ⟨K, mg⟩ c__law_by_words st__law_by_words := ⟨f__law_by_words, _, _, mg_of X Gn a__law_by_words, kp__law_by_words, DefT.mk' l__law_by_words c_f__law_by_words, dfl_none rfl fun us hl => match us, hl with | [_, _], _ => rfl, fun _ h => nomatch h⟩
  have T__law_order : TopT ⟨K, mg⟩ c__law_order st__law_order := ⟨f__law_order, _, _, mg_of X Gn a__law_order, kp__law_order, DefT.mk' l__law_order c_f__law_order, dfl_none rfl fun us hl => match us, hl with | [_, _], _ => rfl, fun _ h => nomatch h⟩
  have T__law_family : TopT ⟨K, mg⟩ c__law_family st__law_family := ⟨f__law_family, _, _, mg_of X Gn a__law_family, kp__law_family, DefT.mk' l__law_family c_f__law_family, dfl_none rfl fun us hl => match us, hl with | [_, _], _ => rfl, fun _ h => nomatch h⟩
  have T__law_size : TopT ⟨K, mg⟩ c__law_size st__law_size := ⟨f__law_size, _, _, mg_of X Gn a__law_size, kp__law_size, DefT.mk' l__law_size c_f__law_size, dfl_none rfl fun us hl => match us, hl with | [_, _], _ => rfl, fun _ h => nomatch h⟩
  have T_is_thing : TopT ⟨K, mg⟩ c_is_thing st_is_thing := ⟨f_is_thing, _, _, mg_of X Gn a_is_thing, kp_is_thing, DefT.mk' l_is_thing c_f_is_thing, dfl_none rfl fun us hl => match us, hl with | [_, _], _ => rfl, fun _ h => nomatch h⟩
  have T_check_size : TopT ⟨K, mg⟩ c_check_size st_check_size := ⟨f_check_size, _, _, mg_of X Gn a_check_size, kp_check_size, DefT.mk' l_check_size c_f_check_size, dfl_none rfl fun us hl => match us, hl with | [_], _ => rfl, fun _ h => nomatch h⟩
  have T_is_set : TopT ⟨K, mg⟩ c_is_set st_is_set := ⟨f_is_set, _, _, mg_of X Gn a_is_set, kp_is_set, DefT.mk' l_is_set c_f_is_set, dfl_none rfl fun us hl => match us, hl with | [_, _], _ => rfl, fun _ h => nomatch h⟩
  have T_checked_sets : TopT ⟨K, mg⟩ c_checked_sets st_checked_sets := ⟨f_checked_sets, _, _, mg_of X Gn a_checked_sets, kp_checked_sets, DefT.mk' l_checked_sets c_f_checked_sets, dfl_none rfl fun us hl => match us, hl with | [_, _], _ => rfl, fun _ h => nomatch h⟩
  have T_mask_of : TopT ⟨K, mg⟩ c_mask_of st_mask_of := ⟨f_mask_of, _, _, mg_of X Gn a_mask_of, kp_mask_of, DefT.mk' l_mask_of c_f_mask_of, dfl_none rfl fun us hl => match us, hl with | [_], _ => rfl, fun _ h => nomatch h⟩
  have T_things_of : TopT ⟨K, mg⟩ c_things_of st_things_of := ⟨f_things_of, _, _, mg_of X Gn a_things_of, kp_things_of, DefT.mk' l_things_of c_f_things_of, dfl_none rfl fun us hl => match us, hl with | [_], _ => rfl, fun _ h => nomatch h⟩
  have T_all_sets : TopT ⟨K, mg⟩ c_all_sets st_all_sets := ⟨f_all_sets, _, _, mg_of X Gn a_all_sets, kp_all_sets, DefT.mk' l_all_sets c_f_all_sets, dfl_none rfl fun us hl => match us, hl with | [_], _ => rfl, fun _ h => nomatch h⟩
  have T__is_within : TopT ⟨K, mg⟩ c__is_within st__is_within := ⟨f__is_within, _, _, mg_of X Gn a__is_within, kp__is_within, DefT.mk' l__is_within c_f__is_within, dfl_none rfl fun us hl => match us, hl with | [_, _], _ => rfl, fun _ h => nomatch h⟩
  have T_Family___init__ : IniT ⟨K, mg⟩ c_Family___init__ st_Family___init__ ("Family" : Str) ("Family.__init__" : Str) := ⟨C_Family, f_Family___init__, _, _, mg_of X Gn aC_Family, I_Family, ⟨mk_Family, a_Family___init__, i_Family___init__, kc_Family⟩, DefT.mk' l_Family___init__ c_f_Family___init__, dfl_none rfl fun us hl => match us, hl with | [_, _, _], _ => rfl⟩
  have T__law_told : TopT ⟨K, mg⟩ c__law_told st__law_told := ⟨f__law_told, _, _, mg_of X Gn a__law_told, kp__law_told, DefT.mk' l__law_told c_f__law_told, dfl_none rfl fun us hl => match us, hl with | [_, _], _ => rfl, fun _ h => nomatch h⟩
  have T_Family_mask_rank : MetT ⟨K, mg⟩ c_Family_mask_rank st_Family_mask_rank ("Family" : Str) ("Family.mask_rank" : Str) := ⟨C_Family, f_Family_mask_rank, _, _, mg_of X Gn aC_Family, I_Family.cls, ⟨a_Family_mask_rank, i_Family_mask_rank, kp_Family_mask_rank⟩, DefT.mk' l_Family_mask_rank c_f_Family_mask_rank, dfl_none rfl fun us hl => match us, hl with | [_, _], _ => rfl⟩
  have T_Family_addable : MetT ⟨K, mg⟩ c_Family_addable st_Family_addable ("Family" : Str) ("Family.addable" : Str) := ⟨C_Family, f_Family_addable, _, _, mg_of X Gn aC_Family, I_Family.cls, ⟨a_Family_addable, i_Family_addable, kp_Family_addable⟩, DefT.mk' l_Family_addable c_f_Family_addable, dfl_none rfl fun us hl => match us, hl with | [_, _], _ => rfl⟩
  have T_is_integer : TopT ⟨K, mg⟩ c_is_integer st_is_integer := ⟨f_is_integer, _, _, mg_of X Gn a_is_integer, kp_is_integer, DefT.mk' l_is_integer c_f_is_integer, dfl_none rfl fun us hl => match us, hl with | [_], _ => rfl, fun _ h => nomatch h⟩
  have T_Frac___init__ : IniT ⟨K, mg⟩ c_Frac___init__ st_Frac___init__ ("Frac" : Str) ("Frac.__init__" : Str) := ⟨C_Frac, f_Frac___init__, _, _, mg_of X Gn aC_Frac, I_Frac, ⟨mk_Frac, a_Frac___init__, i_Frac___init__, kc_Frac⟩, DefT.mk' l_Frac___init__ c_f_Frac___init__, dfl_some (its := [.int 1 tk_Frac___init___0]) t_Frac___init__ rfl (.cons ⟨_, rfl⟩ .nil) rfl fun j hj us hl => match j, hj, us, hl with | 0, _, [_, _], _ => ⟨_, rfl, rfl⟩ | 1, _, [_, _, _], _ => ⟨_, rfl, rfl⟩ | j + 2, hj, _, _ => absurd (show j + 2 ≤ 1 from hj) (by omega)⟩
  have T_quotient : TopT ⟨K, mg⟩ c_quotient st_quotient := ⟨f_quotient, _, _, mg_of X Gn a_quotient, kp_quotient, DefT.mk' l_quotient c_f_quotient, dfl_none rfl fun us hl => match us, hl with | [_], _ => rfl, fun ks hk s ws hl => by simp only [c_quotient, List.mem_cons, List.not_mem_nil, or_false] at hk; rcases hk with rfl <;> (match ws, hl with | [_], _ => exact .of_eq rfl)⟩
  have T__law_adds : TopT ⟨K, mg⟩ c__law_adds st__law_adds := ⟨f__law_adds, _, _, mg_of X Gn a__law_adds, kp__law_adds, DefT.mk' l__law_adds c_f__law_adds, dfl_none rfl fun us hl => match us, hl with | [_, _], _ => rfl, fun _ h => nomatch h⟩
  have T__law_quotient : TopT ⟨K, mg⟩ c__law_quotient st__law_quotient := ⟨f__law_quotient, _, _, mg_of X Gn a__law_quotient, kp__law_quotient, DefT.mk' l__law_quotient c_f__law_quotient, dfl_none rfl fun us hl => match us, hl with | [_], _ => rfl, fun _ h => nomatch h⟩
  have T__law_whole : TopT ⟨K, mg⟩ c__law_whole st__law_whole := ⟨f__law_whole, _, _, mg_of X Gn a__law_whole, kp__law_whole, DefT.mk' l__law_whole c_f__law_whole, dfl_none rfl fun us hl => match us, hl with | [_], _ => rfl, fun _ h => nomatch h⟩
  have T__law_low : TopT ⟨K, mg⟩ c__law_low st__law_low := ⟨f__law_low, _, _, mg_of X Gn a__law_low, kp__law_low, DefT.mk' l__law_low c_f__law_low, dfl_none rfl fun us hl => match us, hl with | [_, _], _ => rfl, fun _ h => nomatch h⟩
  have T__law_is : TopT ⟨K, mg⟩ c__law_is st__law_is := ⟨f__law_is, _, _, mg_of X Gn a__law_is, kp__law_is, DefT.mk' l__law_is c_f__law_is, dfl_none rfl fun us hl => match us, hl with | [_, _, _], _ => rfl, fun _ h => nomatch h⟩
  have T__law_like : TopT ⟨K, mg⟩ (c__law_like 0) st__law_like := ⟨f__law_like, _, _, mg_of X Gn a__law_like, kp__law_like, DefT.mk' l__law_like c_f__law_like, dfl_none rfl fun us hl => match us, hl with | [_, _], _ => rfl, fun _ h => nomatch h⟩
  have T__law_mask : TopT ⟨K, mg⟩ c__law_mask st__law_mask := ⟨f__law_mask, _, _, mg_of X Gn a__law_mask, kp__law_mask, DefT.mk' l__law_mask c_f__law_mask, dfl_none rfl fun us hl => match us, hl with | [_, _], _ => rfl, fun _ h => nomatch h⟩
  have T__law_judged : TopT ⟨K, mg⟩ c__law_judged st__law_judged := ⟨f__law_judged, _, _, mg_of X Gn a__law_judged, kp__law_judged, DefT.mk' l__law_judged c_f__law_judged, dfl_none rfl fun us hl => match us, hl with | [_, _], _ => rfl, fun _ h => nomatch h⟩
  have T__law_asked : TopT ⟨K, mg⟩ c__law_asked st__law_asked := ⟨f__law_asked, _, _, mg_of X Gn a__law_asked, kp__law_asked, DefT.mk' l__law_asked c_f__law_asked, dfl_none rfl fun us hl => match us, hl with | [_], _ => rfl, fun _ h => nomatch h⟩
  refine ⟨fnOf "law" "law" (defArgs st_law) (defBody st_law) (defScope st_law) .none kV_law dc_law pm_law an_law cd_law ct_law, fun s v => .of_eq rfl, fun base _ _ => ?_⟩
  let Gm : Gb := ⟨l.prog, w, base, ⟨K, mg⟩, 0⟩
  have g : GL Gm BLs GLs ktab FLs GCs := ⟨(List.forall_mem_cons.mpr ⟨mg_none_of X Gn z_abs, (List.forall_mem_cons.mpr ⟨mg_none_of X Gn z_all, (List.forall_mem_cons.mpr ⟨mg_none_of X Gn z_any, (List.forall_mem_cons.mpr ⟨mg_none_of X Gn z_bool, (List.forall_mem_cons.mpr ⟨mg_none_of X Gn z_enumerate, (List.forall_mem_cons.mpr ⟨mg_none_of X Gn z_int, (List.forall_mem_cons.mpr ⟨mg_none_of X Gn z_isinstance, (List.forall_mem_cons.mpr ⟨mg_none_of X Gn z_len, (List.forall_mem_cons.mpr ⟨mg_none_of X Gn z_list, (List.forall_mem_cons.mpr ⟨mg_none_of X Gn z_max, (List.forall_mem_cons.mpr ⟨mg_none_of X Gn z_range, (List.forall_mem_cons.mpr ⟨mg_none_of X Gn z_reversed, (List.forall_mem_cons.mpr ⟨mg_none_of X Gn z_sorted, (List.forall_mem_cons.mpr ⟨mg_none_of X Gn z_str, (List.forall_mem_cons.mpr ⟨mg_none_of X Gn z_sum, (List.forall_mem_cons.mpr ⟨mg_none_of X Gn z_tuple, (fun _ h => nomatch h)⟩)⟩)⟩)⟩)⟩)⟩)⟩)⟩)⟩)⟩)⟩)⟩)⟩)⟩)⟩)⟩), (List.forall_mem_cons.mpr ⟨⟨_, mg_of X Gn g_MOST_THINGS, ⟨_, rfl⟩⟩, (fun _ h => nomatch h)⟩), (List.forall_mem_cons.mpr ⟨⟨_, _, ⟨C_Family, mg_of X Gn aC_Family, rfl⟩, rfl, kit_own_ty q_0 (by decide +kernel)⟩, (List.forall_mem_cons.mpr ⟨⟨_, _, ⟨C_Family, mg_of X Gn aC_Family, rfl⟩, rfl, kit_own_ty q_1 (by decide +kernel)⟩, (List.forall_mem_cons.mpr ⟨⟨_, _, ⟨C_Family, mg_of X Gn aC_Family, rfl⟩, rfl, kit_own_ty q_2 (by decide +kernel)⟩, (List.forall_mem_cons.mpr ⟨⟨_, _, ⟨C_Family, mg_of X Gn aC_Family, rfl⟩, rfl, kit_own_ty q_3 (by decide +kernel)⟩, (List.forall_mem_cons.mpr ⟨⟨_, _, ⟨C_Family, mg_of X Gn aC_Family, rfl⟩, rfl, kit_own_ty q_4 (by decide +kernel)⟩, (List.forall_mem_cons.mpr ⟨⟨_, _, ⟨C_Frac, mg_of X Gn aC_Frac, rfl⟩, rfl, kit_own_ty q_5 (by decide +kernel)⟩, (List.forall_mem_cons.mpr ⟨⟨_, _, ⟨C_Frac, mg_of X Gn aC_Frac, rfl⟩, rfl, kit_own_ty q_6 (by decide +kernel)⟩, (List.forall_mem_cons.mpr ⟨⟨_, _, ⟨C_Frac, mg_of X Gn aC_Frac, rfl⟩, rfl, kit_own_ty q_7 (by decide +kernel)⟩, (List.forall_mem_cons.mpr ⟨⟨_, _, ⟨C_Frac, mg_of X Gn aC_Frac, rfl⟩, rfl, kit_own_ty q_8 (by decide +kernel)⟩, (List.forall_mem_cons.mpr ⟨⟨_, _, ⟨C_Frac, mg_of X Gn aC_Frac, rfl⟩, rfl, kit_own_ty q_9 (by decide +kernel)⟩, (List.forall_mem_cons.mpr ⟨⟨_, _, rfl, ⟨C_Frac, mg_of X Gn aC_Frac, rfl⟩, kit_ty_own ob_Frac ty_Frac (by rfl)⟩, (List.forall_mem_cons.mpr ⟨⟨_, _, rfl, ⟨C_Frac, mg_of X Gn aC_Frac, rfl⟩, kit_ty_own ob_Frac ty_Frac (by rfl)⟩, (List.forall_mem_cons.mpr ⟨⟨_, _, rfl, ⟨C_Frac, mg_of X Gn aC_Frac, rfl⟩, kit_ty_own ob_Frac ty_Frac (by rfl)⟩, (List.forall_mem_cons.mpr ⟨⟨_, _, rfl, ⟨C_Frac, mg_of X Gn aC_Frac, rfl⟩, kit_ty_own ob_Frac ty_Frac (by rfl)⟩, (List.forall_mem_cons.mpr ⟨⟨_, _, rfl, ⟨C_Frac, mg_of X Gn aC_Frac, rfl⟩, kit_ty_own ob_Frac ty_Frac (by rfl)⟩, (List.forall_mem_cons.mpr ⟨⟨_, _, rfl, ⟨C_Frac, mg_of X Gn aC_Frac, rfl⟩, kit_ty_own ob_Frac ty_Frac (by rfl)⟩, (List.forall_mem_cons.mpr ⟨⟨_, _, ⟨C_Family, mg_of X Gn aC_Family, rfl⟩, ⟨C_Frac, mg_of X Gn aC_Frac, rfl⟩, kit_to_own (by simpa using r_16) ob_Frac ty_Frac q_16⟩, (List.forall_mem_cons.mpr ⟨⟨_, _, ⟨C_Frac, mg_of X Gn aC_Frac, rfl⟩, ⟨C_Frac, mg_of X Gn aC_Frac, rfl⟩, kit_self⟩, (List.forall_mem_cons.mpr ⟨⟨_, _, rfl, rfl, kit_ty (by decide +kernel)⟩, (List.forall_mem_cons.mpr ⟨⟨_, _, rfl, rfl, kit_ty (by decide +kernel)⟩, (List.forall_mem_cons.mpr ⟨⟨_, _, rfl, rfl, kit_ty (by decide +kernel)⟩, (List.forall_mem_cons.mpr ⟨⟨_, _, rfl, rfl, kit_ty (by decide +kernel)⟩, (List.forall_mem_cons.mpr ⟨⟨_, _, rfl, rfl, kit_ty (by decide +kernel)⟩, (fun _ h => nomatch h)⟩)⟩)⟩)⟩)⟩)⟩)⟩)⟩)⟩)⟩)⟩)⟩)⟩)⟩)⟩)⟩)⟩)⟩)⟩)⟩)⟩)⟩)⟩), (List.forall_mem_cons.mpr ⟨⟨C_Family, mg_of X Gn aC_Family, n_Family_sets⟩, (List.forall_mem_cons.mpr ⟨⟨C_Family, mg_of X Gn aC_Family, n_Family_size⟩, (List.forall_mem_cons.mpr ⟨⟨C_Family, mg_of X Gn aC_Family, n_Family_table⟩, (List.forall_mem_cons.mpr ⟨⟨C_Frac, mg_of X Gn aC_Frac, n_Frac_den⟩, (List.forall_mem_cons.mpr ⟨⟨C_Frac, mg_of X Gn aC_Frac, n_Frac_num⟩, (fun _ h => nomatch h)⟩)⟩)⟩)⟩)⟩), fun _ => mg_of X Gn gcd_⟩
  have h__law_draw := ok__law_draw (G := Gm) g T__law_draw 
  have h__law_by_tops := ok__law_by_tops (G := Gm) g T__law_by_tops h__law_draw
  have h__law_odd := ok__law_odd (G := Gm) g T__law_odd h__law_draw
  have h__law_things := ok__law_things (G := Gm) g T__law_things 
  have h__law_by_classes := ok__law_by_classes (G := Gm) g T__law_by_classes h__law_draw h__law_things
  have h__law_by_words := ok__law_by_words (G := Gm) g T__law_by_words h__law_draw
  have h__law_order := ok__law_order (G := Gm) g T__law_order 
  have h__law_family := ok__law_family (G := Gm) g T__law_family h__law_draw h__law_by_tops h__law_odd h__law_by_classes h__law_by_words h__law_order
  have h__law_size := ok__law_size (G := Gm) g T__law_size h__law_draw
  have h_is_thing := ok_is_thing (G := Gm) g T_is_thing 
  have h_check_size := ok_check_size (G := Gm) g T_check_size h_is_thing
  have h_is_set := ok_is_set (G := Gm) g T_is_set h_is_thing
  have h_checked_sets := ok_checked_sets (G := Gm) g T_checked_sets h_is_set
  have h_mask_of := ok_mask_of (G := Gm) g T_mask_of 
  have h_things_of := ok_things_of (G := Gm) g T_things_of 
  have h_all_sets := ok_all_sets (G := Gm) g T_all_sets h_things_of
  have h__is_within := ok__is_within (G := Gm) g T__is_within h_things_of
  have h_Family___init__ := ok_Family___init__ (G := Gm) g T_Family___init__ h_check_size h_checked_sets h_mask_of h_all_sets h__is_within
  have h__law_told := ok__law_told (G := Gm) g T__law_told h__law_things h_Family___init__
  have h_Family_mask_rank := ok_Family_mask_rank (G := Gm) g T_Family_mask_rank h__is_within h_mask_of
  have h_Family_addable := ok_Family_addable (G := Gm) g T_Family_addable h_mask_of
  have h_is_integer := ok_is_integer (G := Gm) g T_is_integer 
  have h_Frac___init__ := ok_Frac___init__ (G := Gm) g T_Frac___init__ h_is_integer
  have h_quotient := ok_quotient (G := Gm) g T_quotient h_all_sets h_mask_of h_Family_mask_rank h_Family_addable h_Frac___init__
  have h__law_adds := ok__law_adds (G := Gm) g T__law_adds 
  have h__law_quotient := ok__law_quotient (G := Gm) g T__law_quotient h__law_things h__law_adds h__law_order
  have h__law_whole := ok__law_whole (G := Gm) g T__law_whole 
  have h__law_low := ok__law_low (G := Gm) g T__law_low 
  have h__law_is := ok__law_is (G := Gm) g T__law_is h__law_whole h__law_low
  have h__law_like := ok__law_like (G := Gm) g T__law_like h__law_is h__law_whole 64
  have h__law_mask := ok__law_mask (G := Gm) g T__law_mask h__law_whole h__law_things
  have h__law_judged := ok__law_judged (G := Gm) g T__law_judged h__law_quotient h__law_like h__law_is h__law_things h__law_mask h__law_adds
  have h__law_asked := ok__law_asked (G := Gm) g T__law_asked h__law_family h__law_size h__law_draw h__law_told h_quotient h__law_judged
  exact law_sp (G := Gm.at 69) (fn := c_law) rfl rfl hlaw (fn_run (G := Gm.at 69) (body := b_law) (DefT.mk' l_law c_f_law) (C8.fnScope_by (by decide +kernel)) (by decide) k_law (by simp only [b_law, oks, VS.S.ok, E.ok, Es.ok, As.ok, Sr.ok]; simp [h__law_asked.up (k := 69) (by decide)]) g.gf fun _ => .inr rfl)
end K36

open PySem PySem.W PyProof.Rows in
set_option maxRecDepth 100000 in
set_option maxHeartbeats 0 in
theorem PySem.Challenge.cw_greatestnext_k36_quotient_holds : PySem.Challenge.rw_greatestnext_k36_quotient.Holds := by
  w_on; o_law; k_head; (case hw => w_witness2)
  k_fill
  refine VS.walk (l := PySem.Challenge.rw_greatestnext_k36_quotient) (n := 63) (k := 70) rfl (by decide) rfl ⟨rfl, by decide, by decide⟩ (fun w h Y => PySem.W.kIn_of Y) ?F
  case F =>
    intro w mg fa h KX G hmg
    refine' K36.all_mk KX G hmg K36.law_true ?aC_Family ?aC_Frac ?a__law_draw ?l__law_draw ?c_f__law_draw ?kp__law_draw ?a__law_by_tops ?l__law_by_tops ?c_f__law_by_tops ?kp__law_by_tops ?a__law_odd ?l__law_odd ?c_f__law_odd ?kp__law_odd ?a__law_things ?l__law_things ?c_f__law_things ?kp__law_things ?a__law_by_classes ?l__law_by_classes ?c_f__law_by_classes ?kp__law_by_classes ?a__law_by_words ?l__law_by_words ?c_f__law_by_words ?kp__law_by_words ?a__law_order ?l__law_order ?c_f__law_order ?kp__law_order ?a__law_family ?l__law_family ?c_f__law_family ?kp__law_family ?a__law_size ?l__law_size ?c_f__law_size ?kp__law_size ?a_is_thing ?l_is_thing ?c_f_is_thing ?kp_is_thing ?a_check_size ?l_check_size ?c_f_check_size ?kp_check_size ?a_is_set ?l_is_set ?c_f_is_set ?kp_is_set ?a_checked_sets ?l_checked_sets ?c_f_checked_sets ?kp_checked_sets ?a_mask_of ?l_mask_of ?c_f_mask_of ?kp_mask_of ?a_things_of ?l_things_of ?c_f_things_of ?kp_things_of ?a_all_sets ?l_all_sets ?c_f_all_sets ?kp_all_sets ?a__is_within ?l__is_within ?c_f__is_within ?kp__is_within ?a_Family___init__ ?i_Family___init__ ?l_Family___init__ ?c_f_Family___init__ ?kp_Family___init__ ?a__law_told ?l__law_told ?c_f__law_told ?kp__law_told ?a_Family_mask_rank ?i_Family_mask_rank ?l_Family_mask_rank ?c_f_Family_mask_rank ?kp_Family_mask_rank ?a_Family_addable ?i_Family_addable ?l_Family_addable ?c_f_Family_addable ?kp_Family_addable ?a_is_integer ?l_is_integer ?c_f_is_integer ?kp_is_integer ?a_Frac___init__ ?i_Frac___init__ ?l_Frac___init__ ?c_f_Frac___init__ ?kp_Frac___init__ ?t_Frac___init__ ?a_quotient ?l_quotient ?c_f_quotient ?kp_quotient ?a__law_adds ?l__law_adds ?c_f__law_adds ?kp__law_adds ?a__law_quotient ?l__law_quotient ?c_f__law_quotient ?kp__law_quotient ?a__law_whole ?l__law_whole ?c_f__law_whole ?kp__law_whole ?a__law_low ?l__law_low ?c_f__law_low ?kp__law_low ?a__law_is ?l__law_is ?c_f__law_is ?kp__law_is ?a__law_like ?l__law_like ?c_f__law_like ?kp__law_like ?a__law_mask ?l__law_mask ?c_f__law_mask ?kp__law_mask ?a__law_judged ?l__law_judged ?c_f__law_judged ?kp__law_judged ?a__law_asked ?l__law_asked ?c_f__law_asked ?kp__law_asked ?a_law ?l_law ?c_f_law ?kp_law ?pg_Family ?hd_Family ?po_Family ?sa_Family ?ha_Family ?ob_Family ?ty_Family ?mk_Family ?kc_Family ?pg_Frac ?hd_Frac ?po_Frac ?sa_Frac ?ha_Frac ?ob_Frac ?ty_Frac ?mk_Frac ?kc_Frac ?hn ?htk ?n_Family_sets ?n_Family_size ?n_Family_table ?n_Frac_den ?n_Frac_num ?z_abs ?z_all ?z_any ?z_bool ?z_enumerate ?z_int ?z_isinstance ?z_len ?z_list ?z_max ?z_range ?z_reversed ?z_sorted ?z_str ?z_sum ?z_tuple ?g_MOST_THINGS ?gcd_ ?q_0 ?q_1 ?q_2 ?q_3 ?q_4 ?q_5 ?q_6 ?q_7 ?q_8 ?q_9 ?q_16 ?r_16
    (case aC_Family => k_is)
    (case aC_Frac => k_is)
    (case a__law_draw => k_is)
    (case l__law_draw => k_is)
    (case c_f__law_draw => k_is)
    (case kp__law_draw => k_is)
    (case a__law_by_tops => k_is)
    (case l__law_by_tops => k_is)
    (case c_f__law_by_tops => k_is)
    (case kp__law_by_tops => k_is)
    (case a__law_odd => k_is)
    (case l__law_odd => k_is)
    (case c_f__law_odd => k_is)
    (case kp__law_odd => k_is)
    (case a__law_things => k_is)
    (case l__law_things => k_is)
    (case c_f__law_things => k_is)
    (case kp__law_things => k_is)
    (case a__law_by_classes => k_is)
    (case l__law_by_classes => k_is)
    (case c_f__law_by_classes => k_is)
    (case kp__law_by_classes => k_is)
    (case a__law_by_words => k_is)
    (case l__law_by_words => k_is)
    (case c_f__law_by_words => k_is)
    (case kp__law_by_words => k_is)
    (case a__law_order => k_is)
    (case l__law_order => k_is)
    (case c_f__law_order => k_is)
    (case kp__law_order => k_is)
    (case a__law_family => k_is)
    (case l__law_family => k_is)
    (case c_f__law_family => k_is)
    (case kp__law_family => k_is)
    (case a__law_size => k_is)
    (case l__law_size => k_is)
    (case c_f__law_size => k_is)
    (case kp__law_size => k_is)
    (case a_is_thing => k_is)
    (case l_is_thing => k_is)
    (case c_f_is_thing => k_is)
    (case kp_is_thing => k_is)
    (case a_check_size => k_is)
    (case l_check_size => k_is)
    (case c_f_check_size => k_is)
    (case kp_check_size => k_is)
    (case a_is_set => k_is)
    (case l_is_set => k_is)
    (case c_f_is_set => k_is)
    (case kp_is_set => k_is)
    (case a_checked_sets => k_is)
    (case l_checked_sets => k_is)
    (case c_f_checked_sets => k_is)
    (case kp_checked_sets => k_is)
    (case a_mask_of => k_is)
    (case l_mask_of => k_is)
    (case c_f_mask_of => k_is)
    (case kp_mask_of => k_is)
    (case a_things_of => k_is)
    (case l_things_of => k_is)
    (case c_f_things_of => k_is)
    (case kp_things_of => k_is)
    (case a_all_sets => k_is)
    (case l_all_sets => k_is)
    (case c_f_all_sets => k_is)
    (case kp_all_sets => k_is)
    (case a__is_within => k_is)
    (case l__is_within => k_is)
    (case c_f__is_within => k_is)
    (case kp__is_within => k_is)
    (case a_Family___init__ => k_is)
    (case i_Family___init__ => k_is)
    (case l_Family___init__ => k_is)
    (case c_f_Family___init__ => k_is)
    (case kp_Family___init__ => k_is)
    (case a__law_told => k_is)
    (case l__law_told => k_is)
    (case c_f__law_told => k_is)
    (case kp__law_told => k_is)
    (case a_Family_mask_rank => k_is)
    (case i_Family_mask_rank => k_is)
    (case l_Family_mask_rank => k_is)
    (case c_f_Family_mask_rank => k_is)
    (case kp_Family_mask_rank => k_is)
    (case a_Family_addable => k_is)
    (case i_Family_addable => k_is)
    (case l_Family_addable => k_is)
    (case c_f_Family_addable => k_is)
    (case kp_Family_addable => k_is)
    (case a_is_integer => k_is)
    (case l_is_integer => k_is)
    (case c_f_is_integer => k_is)
    (case kp_is_integer => k_is)
    (case a_Frac___init__ => k_is)
    (case i_Frac___init__ => k_is)
    (case l_Frac___init__ => k_is)
    (case c_f_Frac___init__ => k_is)
    (case kp_Frac___init__ => k_is)
    (case t_Frac___init__ => k_is)
    (case a_quotient => k_is)
    (case l_quotient => k_is)
    (case c_f_quotient => k_is)
    (case kp_quotient => k_is)
    (case a__law_adds => k_is)
    (case l__law_adds => k_is)
    (case c_f__law_adds => k_is)
    (case kp__law_adds => k_is)
    (case a__law_quotient => k_is)
    (case l__law_quotient => k_is)
    (case c_f__law_quotient => k_is)
    (case kp__law_quotient => k_is)
    (case a__law_whole => k_is)
    (case l__law_whole => k_is)
    (case c_f__law_whole => k_is)
    (case kp__law_whole => k_is)
    (case a__law_low => k_is)
    (case l__law_low => k_is)
    (case c_f__law_low => k_is)
    (case kp__law_low => k_is)
    (case a__law_is => k_is)
    (case l__law_is => k_is)
    (case c_f__law_is => k_is)
    (case kp__law_is => k_is)
    (case a__law_like => k_is)
    (case l__law_like => k_is)
    (case c_f__law_like => k_is)
    (case kp__law_like => k_is)
    (case a__law_mask => k_is)
    (case l__law_mask => k_is)
    (case c_f__law_mask => k_is)
    (case kp__law_mask => k_is)
    (case a__law_judged => k_is)
    (case l__law_judged => k_is)
    (case c_f__law_judged => k_is)
    (case kp__law_judged => k_is)
    (case a__law_asked => k_is)
    (case l__law_asked => k_is)
    (case c_f__law_asked => k_is)
    (case kp__law_asked => k_is)
    (case a_law => k_is)
    (case l_law => k_is)
    (case c_f_law => k_is)
    (case kp_law => k_is)
    (case pg_Family => k_is)
    (case hd_Family => k_is)
    (case po_Family => k_is)
    (case sa_Family => k_is)
    (case ha_Family => k_is)
    (case ob_Family => k_is)
    (case ty_Family => k_is)
    (case mk_Family => k_is)
    (case kc_Family => k_is)
    (case pg_Frac => k_is)
    (case hd_Frac => k_is)
    (case po_Frac => k_is)
    (case sa_Frac => k_is)
    (case ha_Frac => k_is)
    (case ob_Frac => k_is)
    (case ty_Frac => k_is)
    (case mk_Frac => k_is)
    (case kc_Frac => k_is)
    (case hn => k_is)
    (case htk => k_is)
    (case n_Family_sets => k_is)
    (case n_Family_size => k_is)
    (case n_Family_table => k_is)
    (case n_Frac_den => k_is)
    (case n_Frac_num => k_is)
    (case z_abs => k_is)
    (case z_all => k_is)
    (case z_any => k_is)
    (case z_bool => k_is)
    (case z_enumerate => k_is)
    (case z_int => k_is)
    (case z_isinstance => k_is)
    (case z_len => k_is)
    (case z_list => k_is)
    (case z_max => k_is)
    (case z_range => k_is)
    (case z_reversed => k_is)
    (case z_sorted => k_is)
    (case z_str => k_is)
    (case z_sum => k_is)
    (case z_tuple => k_is)
    (case g_MOST_THINGS => k_is)
    (case gcd_ => k_is)
    (case q_0 => k_is)
    (case q_1 => k_is)
    (case q_2 => k_is)
    (case q_3 => k_is)
    (case q_4 => k_is)
    (case q_5 => k_is)
    (case q_6 => k_is)
    (case q_7 => k_is)
    (case q_8 => k_is)
    (case q_9 => k_is)
    (case q_16 => k_is)
    (case r_16 => decide)
