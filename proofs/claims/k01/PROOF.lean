import PyProof.Rows.All
import Wide.All
import OpenK.AllK
import Wide.FinOn
import HandS.ForMost
import HandS.ForExc
import HandS.CallSlots
import HandS.Replace
import HandS.Defaults
import HandS.Wide
import HandS.Style
import HandS.IsInst
import HandS.TupAny
import HandS.RaiseMore
import HandS.Head0
import HandS.Head1
import HandS.Head2
import HandS.HeadEnd
import HandS.HeadHook1
import HandS.HeadHook2
import KE.KStateDown
import HandS.More
import PySem.Challenge.RW_holewords_k01_words_and_roots
set_option Elab.async false
set_option linter.all false
set_option maxRecDepth 100000
set_option maxHeartbeats 0
/-! Pd, part A: data, what stands for what, states. -/
namespace Pd
open PySem PySem.Spec PyProof.Rows L2

/-- data without addresses -/
inductive D where
  | non
  | bl (b : Bool)
  | int (i : Int)
  | str (s : List Nat)
  | tup (l : List D)
  | lst (l : List D)
  | pile
  | exc (c : String) (n : Option Int)
  | clo (k : Nat) (l : List D)
  | obj (k : Nat)
  | ty (n : String)
  | cls (c : String)
  | kst (l : List D)

abbrev Ext (F H : Hp) : Prop := ∀ b o, F b = some o → H b = some o
theorem Ext.refl (F : Hp) : Ext F F := fun _ _ h => h
theorem Ext.trans {F G H : Hp} (a : Ext F G) (b : Ext G H) : Ext F H := fun c o h => b c o (a c o h)
theorem Ext.new {F : Hp} {a : Addr} {o : HO} (h : F a = none) : Ext F (upd F a o) := fun b u e => by
  rw [upd_ne (ne_of_none e h)]; exact e
theorem ext_rd {H H' : Hp} {a : Addr} {u : HO} (e : Ext H H') (h : Rd H a u) : Rd H' a u := by
  rcases h with h | ⟨o, h⟩
  · exact .inl (e a _ h)
  · exact .inr ⟨o, e a _ h⟩
theorem ext_l {K : PySem.W.Frag} {H H' : Hp} {a : Addr} {xs : List V} (e : Ext H H') (h : SqL K H a xs) : SqL K H' a xs := by
  rcases h with h | h
  · exact .inl (ext_rd e h)
  · exact .inr h
theorem ext_t {K : PySem.W.Frag} {H H' : Hp} {a : Addr} {xs : List V} (e : Ext H H') (h : SqT K H a xs) : SqT K H' a xs := by
  rcases h with h | h
  · exact .inl (ext_rd e h)
  · exact .inr h

/-- an exception object at a, of the class at C, its dict d -/
def ExcO (a C : Addr) (d : Option Addr) : HO := .ext fun h => ∃ o vs, h.get? a = some o ∧ o.cls = .ref C ∧ o.dict = d ∧ o.data = .fields vs

/-- not a table of code objects -/
def nt : HO → Prop
  | .tbl _ => False
  | _ => True

/-- what a law's texts share: the written part, the module's names, what holds of the tables, closures -/
structure Gl where
  K : PySem.W.Frag
  mg : Str → Option Value
  T : Hp → Prop
  /-- changing or laying a list, a tuple or a dict leaves it -/
  Tu : ∀ H a o, T H → (H a = none ∨ (∃ xs, H a = some (.lst xs)) ∨ (∃ kvs, H a = some (.dK kvs)) ∨ (∃ C d fs, H a = some (.ins C d fs))) → T (upd H a o)
  CL : Hp → Addr → Nat → List V → Prop
  CLm : ∀ F F' a k vs, Ext F F' → CL F a k vs → CL F' a k vs

mutual
/-- v stands for d, by what is frozen -/
inductive Rep (g : Gl) (p : Option Addr) (F : Hp) : V → D → Prop
  | non : Rep g p F .non .non
  | bl (b : Bool) : Rep g p F (.bl b) (.bl b)
  | int (i : Int) : Rep g p F (.int i) (.int i)
  | str (s : List Nat) : Rep g p F (.str ⟨s.toArray⟩) (.str s)
  | tup {a : Addr} {vs : List V} {l : List D} : SqT g.K F a vs → Reps g p F vs l → Rep g p F (.ref a) (.tup l)
  | lst {a : Addr} {vs : List V} {l : List D} : Rd F a (.lst vs) → Reps g p F vs l → Rep g p F (.ref a) (.lst l)
  | kst {a : Addr} {vs : List V} {l : List D} : SqL g.K F a vs → Reps g p F vs l → Rep g p F (.ref a) (.kst l)
  | pile {a : Addr} : p = some a → Rep g p F (.ref a) .pile
  | exc {a C : Addr} {c : String} {d : Option Addr} {n : Option Int} : F a = some (ExcO a C d) → g.mg (Str.ofString c) = some (.ref C) → (∀ i, n = some i → ∃ dd, d = some dd ∧ F dd = some (.xd [("line", .int i)])) → Rep g p F (.ref a) (.exc c n)
  | clo {a : Addr} {k : Nat} {vs : List V} {l : List D} : g.CL F a k vs → Reps g p F vs l → Rep g p F (.ref a) (.clo k l)
  | ty (n : String) : Rep g p F (.ty n) (.ty n)
  | cls {c : String} {C : Addr} : g.mg (Str.ofString c) = some (.ref C) → Rep g p F (.ref C) (.cls c)
inductive Reps (g : Gl) (p : Option Addr) (F : Hp) : List V → List D → Prop
  | nil : Reps g p F [] []
  | cons {v : V} {vs : List V} {d : D} {ds : List D} : Rep g p F v d → Reps g p F vs ds → Reps g p F (v :: vs) (d :: ds)
end

section
variable {g : Gl} {p : Option Addr} {F F' : Hp}
mutual
theorem Rep.mono (e : Ext F F') : ∀ {v : V} {d : D}, Rep g p F v d → Rep g p F' v d
  | _, _, .non => .non
  | _, _, .bl b => .bl b
  | _, _, .int i => .int i
  | _, _, .str s => .str s
  | _, _, .tup h r => .tup (ext_t e h) (Reps.mono e r)
  | _, _, .lst h r => .lst (ext_rd e h) (Reps.mono e r)
  | _, _, .kst h r => .kst (ext_l e h) (Reps.mono e r)
  | _, _, .pile h => .pile h
  | _, _, .exc h1 h2 h3 => .exc (e _ _ h1) h2 fun i q => let ⟨dd, a, b⟩ := h3 i q; ⟨dd, a, e _ _ b⟩
  | _, _, .clo h r => .clo (g.CLm _ _ _ _ _ e h) (Reps.mono e r)
  | _, _, .ty n => .ty n
  | _, _, .cls h => .cls h
theorem Reps.mono (e : Ext F F') : ∀ {vs : List V} {ds : List D}, Reps g p F vs ds → Reps g p F' vs ds
  | _, _, .nil => .nil
  | _, _, .cons r t => .cons (Rep.mono e r) (Reps.mono e t)
end
theorem Reps.length : ∀ {vs : List V} {ds : List D}, Reps g p F vs ds → vs.length = ds.length
  | _, _, .nil => rfl
  | _, _, .cons _ t => congrArg (· + 1) (Reps.length t)
theorem Reps.get : ∀ {vs : List V} {ds : List D} {i : Nat} {d : D}, Reps g p F vs ds → ds[i]? = some d → ∃ v, vs[i]? = some v ∧ Rep g p F v d
  | _, _, _, _, .nil, e => by simp at e
  | _, _, 0, _, .cons r _, e => by simp at e; subst e; exact ⟨_, rfl, r⟩
  | _, _, i + 1, d, .cons _ t, e => by
    obtain ⟨v, h1, h2⟩ := Reps.get (i := i) (d := d) t (by simpa using e)
    exact ⟨v, by simpa using h1, h2⟩
theorem Reps.get' : ∀ {vs : List V} {ds : List D} {i : Nat} {v : V}, Reps g p F vs ds → vs[i]? = some v → ∃ d, ds[i]? = some d ∧ Rep g p F v d
  | _, _, _, _, .nil, e => by simp at e
  | _, _, 0, _, .cons r _, e => by simp at e; subst e; exact ⟨_, rfl, r⟩
  | _, _, i + 1, v, .cons _ t, e => by
    obtain ⟨d, h1, h2⟩ := Reps.get' (i := i) (v := v) t (by simpa using e)
    exact ⟨d, by simpa using h1, h2⟩
theorem Reps.append : ∀ {vs ws : List V} {ds es : List D}, Reps g p F vs ds → Reps g p F ws es → Reps g p F (vs ++ ws) (ds ++ es)
  | _, _, _, _, .nil, s => s
  | _, _, _, _, .cons r t, s => .cons r (Reps.append t s)
theorem Reps.take : ∀ (n : Nat) {vs : List V} {ds : List D}, Reps g p F vs ds → Reps g p F (vs.take n) (ds.take n)
  | 0, _, _, _ => .nil
  | _ + 1, _, _, .nil => .nil
  | n + 1, _, _, .cons r t => .cons r (Reps.take n t)
theorem Reps.drop : ∀ (n : Nat) {vs : List V} {ds : List D}, Reps g p F vs ds → Reps g p F (vs.drop n) (ds.drop n)
  | 0, _, _, r => r
  | _ + 1, _, _, .nil => .nil
  | n + 1, _, _, .cons _ t => Reps.drop n t
theorem Reps.set {v : V} {d : D} (r : Rep g p F v d) : ∀ {vs : List V} {ds : List D} (i : Nat), Reps g p F vs ds → Reps g p F (vs.set i v) (ds.set i d)
  | _, _, _, .nil => .nil
  | _, _, 0, .cons _ t => .cons r t
  | _, _, i + 1, .cons q t => .cons q (Reps.set r i t)
theorem Reps.reverse {vs : List V} {ds : List D} (h : Reps g p F vs ds) : Reps g p F vs.reverse ds.reverse := by
  induction vs generalizing ds with
  | nil => cases h; exact .nil
  | cons v vs ih =>
    cases h with
    | cons r t =>
      rw [List.reverse_cons, List.reverse_cons]
      exact (ih t).append (.cons r .nil)
theorem Reps.one {vs : List V} {d : D} (h : Reps g p F vs [d]) : ∃ v, vs = [v] ∧ Rep g p F v d := by
  cases h with
  | cons r t => cases t; exact ⟨_, rfl, r⟩
theorem Reps.two {vs : List V} {d e : D} (h : Reps g p F vs [d, e]) : ∃ v w, vs = [v, w] ∧ Rep g p F v d ∧ Rep g p F w e := by
  cases h with
  | cons r t => obtain ⟨w, rfl, q⟩ := t.one; exact ⟨_, _, rfl, r, q⟩
end

/-- the pile: one list of one int that callees change -/
def PileOk (p : Option Addr) (n : Int) (F H : Hp) : Prop := ∀ a, p = some a → F a = none ∧ H a = some (.lst [.int n])

/-- from (F, H) to (F', H'): all that is tracked stays but the pile and tables; new frozen things are new -/
structure Gr (g : Gl) (p : Option Addr) (F H F' H' : Hp) : Prop where
  hh : ∀ b o, H b = some o → p ≠ some b → nt o → H' b = some o
  al : ∀ b, H' b = none → H b = none
  ff : Ext F F'
  nw : ∀ b o, F' b = some o → F b = some o ∨ H b = none
  fh : Ext F' H'
  tb : g.T H'

section
variable {g : Gl} {p : Option Addr} {F H F' H' F'' H'' : Hp}
theorem Gr.refl (e : Ext F H) (t : g.T H) : Gr g p F H F H := ⟨fun _ _ h _ _ => h, fun _ h => h, Ext.refl F, fun _ _ h => .inl h, e, t⟩
theorem Gr.weak (a : Gr g none F H F' H') : Gr g p F H F' H' := ⟨fun b o h _ n => a.hh b o h (by simp) n, a.al, a.ff, a.nw, a.fh, a.tb⟩
theorem Gr.trans (a : Gr g p F H F' H') (b : Gr g p F' H' F'' H'') : Gr g p F H F'' H'' :=
  ⟨fun c o h n q => b.hh c o (a.hh c o h n q) n q, fun c h => a.al c (b.al c h), a.ff.trans b.ff, fun c o h => (b.nw c o h).elim (a.nw c o) fun z => .inr (a.al c z), b.fh, b.tb⟩
/-- a new object, frozen -/
theorem Gr.new {a : Addr} {o : HO} (e : Ext F H) (t : g.T H) (h : H a = none) : Gr g p F H (upd F a o) (upd H a o) := by
  have hf : F a = none := by
    cases q : F a with
    | none => rfl
    | some u => rw [e a u q] at h; cases h
  refine ⟨fun b u q _ _ => by rw [upd_ne (ne_of_none q h)]; exact q, fun b q => ?_, Ext.new hf, fun b u q => ?_, fun b u q => ?_, g.Tu H a o t (.inl h)⟩
  · by_cases hb : b = a
    · subst hb; exact h
    · rw [upd_ne hb] at q; exact q
  · by_cases hb : b = a
    · subst hb; exact .inr h
    · rw [upd_ne hb] at q; exact .inl q
  · by_cases hb : b = a
    · subst hb; rw [upd_same] at q ⊢; exact q
    · rw [upd_ne hb] at q ⊢; exact e b u q
/-- a new object, not frozen -/
theorem Gr.lay {a : Addr} {o : HO} (e : Ext F H) (t : g.T H) (h : H a = none) : Gr g p F H F (upd H a o) := by
  refine ⟨fun b u q _ _ => by rw [upd_ne (ne_of_none q h)]; exact q, fun b q => ?_, Ext.refl F, fun b u q => .inl q, fun b u q => ?_, g.Tu H a o t (.inl h)⟩
  · by_cases hb : b = a
    · subst hb; exact h
    · rw [upd_ne hb] at q; exact q
  · have q' := e b u q
    rw [upd_ne (ne_of_none q' h)]; exact q'
end

/-- a slot -/
inductive SV where
  | no
  | val (d : D)
  | own (l : List D)
  | dct (l : List (Key × D))

structure S where
  sl : List SV
  pile : Int

inductive Sl (g : Gl) (p : Option Addr) (H0 F H : Hp) : List Addr → List SV → L2.St → Prop
  | nil : Sl g p H0 F H [] [] []
  | no {A : List Addr} {ss : List SV} {σ : L2.St} {x : Option V} : Sl g p H0 F H A ss σ → Sl g p H0 F H A (.no :: ss) (x :: σ)
  | val {A : List Addr} {ss : List SV} {σ : L2.St} {v : V} {d : D} : Rep g p F v d → Sl g p H0 F H A ss σ → Sl g p H0 F H A (.val d :: ss) (some v :: σ)
  | own {A : List Addr} {ss : List SV} {σ : L2.St} {a : Addr} {vs : List V} {l : List D} : H a = some (.lst vs) → Reps g p F vs l → F a = none → H0 a = none → p ≠ some a → a ∉ A → Sl g p H0 F H A ss σ → Sl g p H0 F H (a :: A) (.own l :: ss) (some (.ref a) :: σ)
  | dct {A : List Addr} {ss : List SV} {σ : L2.St} {a : Addr} {kvs : List (Key × V)} {l : List (Key × D)} : H a = some (.dK kvs) → Paired (fun (q : Key × V) (r : Key × D) => q.1 = r.1 ∧ Rep g p F q.2 r.2) kvs l → F a = none → H0 a = none → p ≠ some a → a ∉ A → Sl g p H0 F H A ss σ → Sl g p H0 F H (a :: A) (.dct l :: ss) (some (.ref a) :: σ)

section
variable {g : Gl} {p : Option Addr} {H0 F H F' H' : Hp} {A : List Addr} {ss : List SV} {σ : L2.St}
theorem Sl.mono (x : Sl g p H0 F H A ss σ) (e : Ext F F') (k : ∀ a ∈ A, H' a = H a ∧ F' a = none) : Sl g p H0 F' H' A ss σ := by
  induction x with
  | nil => exact .nil
  | no _ ih => exact .no (ih k)
  | val r _ ih => exact .val (r.mono e) (ih k)
  | own h r f h0 np na _ ih =>
    obtain ⟨k1, k2⟩ := k _ List.mem_cons_self
    exact .own (k1.trans h) (r.mono e) k2 h0 np na (ih fun b hb => k b (List.mem_cons_of_mem _ hb))
  | dct h r f h0 np na _ ih =>
    obtain ⟨k1, k2⟩ := k _ List.mem_cons_self
    exact .dct (k1.trans h) (Paired.mapP r fun a b q => ⟨q.1, q.2.mono e⟩) k2 h0 np na (ih fun b hb => k b (List.mem_cons_of_mem _ hb))
theorem Sl.facts (x : Sl g p H0 F H A ss σ) : ∀ a ∈ A, H0 a = none ∧ F a = none ∧ p ≠ some a ∧ ((∃ vs, H a = some (.lst vs)) ∨ ∃ kvs, H a = some (.dK kvs)) := by
  induction x with
  | nil => intro a h; simp at h
  | no _ ih => exact ih
  | val _ _ ih => exact ih
  | own h r f h0 np na _ ih =>
    intro b hb
    rcases List.mem_cons.mp hb with rfl | hb
    · exact ⟨h0, f, np, .inl ⟨_, h⟩⟩
    · exact ih b hb
  | dct h r f h0 np na _ ih =>
    intro b hb
    rcases List.mem_cons.mp hb with rfl | hb
    · exact ⟨h0, f, np, .inr ⟨_, h⟩⟩
    · exact ih b hb
theorem Sl.length (x : Sl g p H0 F H A ss σ) : ss.length = σ.length := by
  induction x with
  | nil => rfl
  | no _ ih => exact congrArg (· + 1) ih
  | val _ _ ih => exact congrArg (· + 1) ih
  | own _ _ _ _ _ _ _ ih => exact congrArg (· + 1) ih
  | dct _ _ _ _ _ _ _ ih => exact congrArg (· + 1) ih
theorem Sl.getVal (x : Sl g p H0 F H A ss σ) : ∀ {i : Nat} {d : D}, ss[i]? = some (.val d) → ∃ v, σ[i]? = some (some v) ∧ Rep g p F v d := by
  induction x with
  | nil => intro i d h; simp at h
  | no _ ih => intro i d h; cases i with
    | zero => simp at h
    | succ i => simpa using ih (i := i) (d := d) (by simpa using h)
  | val r _ ih => intro i d h; cases i with
    | zero => simp at h; subst h; exact ⟨_, rfl, r⟩
    | succ i => simpa using ih (i := i) (d := d) (by simpa using h)
  | own _ _ _ _ _ _ _ ih => intro i d h; cases i with
    | zero => simp at h
    | succ i => simpa using ih (i := i) (d := d) (by simpa using h)
  | dct _ _ _ _ _ _ _ ih => intro i d h; cases i with
    | zero => simp at h
    | succ i => simpa using ih (i := i) (d := d) (by simpa using h)
theorem Sl.getOwn (x : Sl g p H0 F H A ss σ) : ∀ {i : Nat} {l : List D}, ss[i]? = some (.own l) → ∃ a vs, σ[i]? = some (some (.ref a)) ∧ a ∈ A ∧ H a = some (.lst vs) ∧ Reps g p F vs l := by
  induction x with
  | nil => intro i d h; simp at h
  | no _ ih => intro i d h; cases i with
    | zero => simp at h
    | succ i => simpa using ih (i := i) (l := d) (by simpa using h)
  | val r _ ih => intro i d h; cases i with
    | zero => simp at h
    | succ i => simpa using ih (i := i) (l := d) (by simpa using h)
  | own h r _ _ _ _ _ ih => intro i d h; cases i with
    | zero => simp at h; subst h; exact ⟨_, _, rfl, List.mem_cons_self, by assumption, by assumption⟩
    | succ i =>
      obtain ⟨a, vs, h1, h2, h3⟩ := ih (i := i) (l := d) (by simpa using h)
      exact ⟨a, vs, by simpa using h1, List.mem_cons_of_mem _ h2, h3⟩
  | dct _ _ _ _ _ _ _ ih => intro i d h; cases i with
    | zero => simp at h
    | succ i =>
      obtain ⟨a, vs, h1, h2, h3⟩ := ih (i := i) (l := d) (by simpa using h)
      exact ⟨a, vs, by simpa using h1, List.mem_cons_of_mem _ h2, h3⟩
theorem Sl.getDct (x : Sl g p H0 F H A ss σ) : ∀ {i : Nat} {l : List (Key × D)}, ss[i]? = some (.dct l) → ∃ a kvs, σ[i]? = some (some (.ref a)) ∧ a ∈ A ∧ H a = some (.dK kvs) ∧ Paired (fun (q : Key × V) (r : Key × D) => q.1 = r.1 ∧ Rep g p F q.2 r.2) kvs l := by
  induction x with
  | nil => intro i d h; simp at h
  | no _ ih => intro i d h; cases i with
    | zero => simp at h
    | succ i => simpa using ih (i := i) (l := d) (by simpa using h)
  | val r _ ih => intro i d h; cases i with
    | zero => simp at h
    | succ i => simpa using ih (i := i) (l := d) (by simpa using h)
  | own h r _ _ _ _ _ ih => intro i d h; cases i with
    | zero => simp at h
    | succ i =>
      obtain ⟨a, vs, h1, h2, h3⟩ := ih (i := i) (l := d) (by simpa using h)
      exact ⟨a, vs, by simpa using h1, List.mem_cons_of_mem _ h2, h3⟩
  | dct h r _ _ _ _ _ ih => intro i d h; cases i with
    | zero => simp at h; subst h; exact ⟨_, _, rfl, List.mem_cons_self, by assumption, by assumption⟩
    | succ i =>
      obtain ⟨a, vs, h1, h2, h3⟩ := ih (i := i) (l := d) (by simpa using h)
      exact ⟨a, vs, by simpa using h1, List.mem_cons_of_mem _ h2, h3⟩
/-- a slot is overwritten by a value: the addresses grow no more -/
theorem Sl.setVal {v : V} {d : D} (x : Sl g p H0 F H A ss σ) (r : Rep g p F v d) : ∀ (i : Nat), ∃ A', (∀ a ∈ A', a ∈ A) ∧ Sl g p H0 F H A' (ss.set i (.val d)) (σ.set i (some v)) := by
  induction x with
  | nil => intro i; exact ⟨[], fun _ h => h, .nil⟩
  | no s ih => intro i; cases i with
    | zero => exact ⟨_, fun _ h => h, .val r s⟩
    | succ i => obtain ⟨A', h, q⟩ := ih i; exact ⟨A', h, .no q⟩
  | val r' s ih => intro i; cases i with
    | zero => exact ⟨_, fun _ h => h, .val r s⟩
    | succ i => obtain ⟨A', h, q⟩ := ih i; exact ⟨A', h, .val r' q⟩
  | own h1 h2 h3 h4 h5 h6 s ih => intro i; cases i with
    | zero => exact ⟨_, fun _ h => List.mem_cons_of_mem _ h, .val r s⟩
    | succ i =>
      obtain ⟨A', h, q⟩ := ih i
      exact ⟨_ :: A', fun b hb => (List.mem_cons.mp hb).elim (fun e => by rw [e]; exact List.mem_cons_self) fun z => List.mem_cons_of_mem _ (h b z), .own h1 h2 h3 h4 h5 (fun z => h6 (h _ z)) q⟩
  | dct h1 h2 h3 h4 h5 h6 s ih => intro i; cases i with
    | zero => exact ⟨_, fun _ h => List.mem_cons_of_mem _ h, .val r s⟩
    | succ i =>
      obtain ⟨A', h, q⟩ := ih i
      exact ⟨_ :: A', fun b hb => (List.mem_cons.mp hb).elim (fun e => by rw [e]; exact List.mem_cons_self) fun z => List.mem_cons_of_mem _ (h b z), .dct h1 h2 h3 h4 h5 (fun z => h6 (h _ z)) q⟩
theorem Sl.setNo (x : Sl g p H0 F H A ss σ) (v : Option V) : ∀ (i : Nat), ∃ A', (∀ a ∈ A', a ∈ A) ∧ Sl g p H0 F H A' (ss.set i .no) (σ.set i v) := by
  induction x with
  | nil => intro i; exact ⟨[], fun _ h => h, .nil⟩
  | no s ih => intro i; cases i with
    | zero => exact ⟨_, fun _ h => h, .no s⟩
    | succ i => obtain ⟨A', h, q⟩ := ih i; exact ⟨A', h, .no q⟩
  | val r' s ih => intro i; cases i with
    | zero => exact ⟨_, fun _ h => h, .no s⟩
    | succ i => obtain ⟨A', h, q⟩ := ih i; exact ⟨A', h, .val r' q⟩
  | own h1 h2 h3 h4 h5 h6 s ih => intro i; cases i with
    | zero => exact ⟨_, fun _ h => List.mem_cons_of_mem _ h, .no s⟩
    | succ i =>
      obtain ⟨A', h, q⟩ := ih i
      exact ⟨_ :: A', fun b hb => (List.mem_cons.mp hb).elim (fun e => by rw [e]; exact List.mem_cons_self) fun z => List.mem_cons_of_mem _ (h b z), .own h1 h2 h3 h4 h5 (fun z => h6 (h _ z)) q⟩
  | dct h1 h2 h3 h4 h5 h6 s ih => intro i; cases i with
    | zero => exact ⟨_, fun _ h => List.mem_cons_of_mem _ h, .no s⟩
    | succ i =>
      obtain ⟨A', h, q⟩ := ih i
      exact ⟨_ :: A', fun b hb => (List.mem_cons.mp hb).elim (fun e => by rw [e]; exact List.mem_cons_self) fun z => List.mem_cons_of_mem _ (h b z), .dct h1 h2 h3 h4 h5 (fun z => h6 (h _ z)) q⟩
/-- only the value's side is forgotten -/
theorem Sl.dropNo (x : Sl g p H0 F H A ss σ) : ∀ (i : Nat), ∃ A', (∀ a ∈ A', a ∈ A) ∧ Sl g p H0 F H A' (ss.set i .no) σ := fun i => by
  obtain ⟨A', h, q⟩ := x.setNo (σ.getD i none) i
  refine ⟨A', h, ?_⟩
  have e : σ.set i (σ.getD i none) = σ := by
    apply List.ext_getElem?
    intro j
    by_cases hj : i = j
    · subst hj
      by_cases hl : i < σ.length
      · rw [List.getElem?_set_self hl, List.getElem?_eq_getElem hl, List.getD_eq_getElem?_getD, List.getElem?_eq_getElem hl]; rfl
      · rw [List.getElem?_eq_none (by simpa using hl), List.getElem?_eq_none (by simpa using hl)]
    · rw [List.getElem?_set_ne hj]
  rw [e] at q; exact q
theorem Sl.setOwn {a : Addr} {vs : List V} {l : List D} (x : Sl g p H0 F H A ss σ) (h1 : H a = some (.lst vs)) (h2 : Reps g p F vs l) (h3 : F a = none) (h4 : H0 a = none) (h5 : p ≠ some a) (h6 : a ∉ A) :
    ∀ (i : Nat), ∃ A', (∀ b ∈ A', b = a ∨ b ∈ A) ∧ Sl g p H0 F H A' (ss.set i (.own l)) (σ.set i (some (.ref a))) := by
  induction x with
  | nil => intro i; exact ⟨[], fun _ h => by simp at h, .nil⟩
  | no s ih => intro i; cases i with
    | zero => exact ⟨_, fun _ h => (List.mem_cons.mp h), .own h1 h2 h3 h4 h5 h6 s⟩
    | succ i => obtain ⟨A', h, q⟩ := ih h6 i; exact ⟨A', h, .no q⟩
  | val r' s ih => intro i; cases i with
    | zero => exact ⟨_, fun _ h => (List.mem_cons.mp h), .own h1 h2 h3 h4 h5 h6 s⟩
    | succ i => obtain ⟨A', h, q⟩ := ih h6 i; exact ⟨A', h, .val r' q⟩
  | own k1 k2 k3 k4 k5 k6 s ih =>
    rw [List.mem_cons, not_or] at h6
    intro i; cases i with
    | zero => exact ⟨_, fun b hb => (List.mem_cons.mp hb).elim .inl fun z => .inr (List.mem_cons_of_mem _ z), .own h1 h2 h3 h4 h5 h6.2 s⟩
    | succ i =>
      obtain ⟨A', h, q⟩ := ih h6.2 i
      refine ⟨_ :: A', fun b hb => (List.mem_cons.mp hb).elim (fun e => by rw [e]; exact .inr List.mem_cons_self) fun z => (h b z).elim .inl fun y => .inr (List.mem_cons_of_mem _ y), .own k1 k2 k3 k4 k5 (fun z => ?_) q⟩
      rcases h _ z with e | e
      · exact h6.1 e.symm
      · exact k6 e
  | dct k1 k2 k3 k4 k5 k6 s ih =>
    rw [List.mem_cons, not_or] at h6
    intro i; cases i with
    | zero => exact ⟨_, fun b hb => (List.mem_cons.mp hb).elim .inl fun z => .inr (List.mem_cons_of_mem _ z), .own h1 h2 h3 h4 h5 h6.2 s⟩
    | succ i =>
      obtain ⟨A', h, q⟩ := ih h6.2 i
      refine ⟨_ :: A', fun b hb => (List.mem_cons.mp hb).elim (fun e => by rw [e]; exact .inr List.mem_cons_self) fun z => (h b z).elim .inl fun y => .inr (List.mem_cons_of_mem _ y), .dct k1 k2 k3 k4 k5 (fun z => ?_) q⟩
      rcases h _ z with e | e
      · exact h6.1 e.symm
      · exact k6 e
theorem Sl.setDct {a : Addr} {kvs : List (Key × V)} {l : List (Key × D)} (x : Sl g p H0 F H A ss σ) (h1 : H a = some (.dK kvs)) (h2 : Paired (fun (q : Key × V) (r : Key × D) => q.1 = r.1 ∧ Rep g p F q.2 r.2) kvs l) (h3 : F a = none) (h4 : H0 a = none) (h5 : p ≠ some a) (h6 : a ∉ A) :
    ∀ (i : Nat), ∃ A', (∀ b ∈ A', b = a ∨ b ∈ A) ∧ Sl g p H0 F H A' (ss.set i (.dct l)) (σ.set i (some (.ref a))) := by
  induction x with
  | nil => intro i; exact ⟨[], fun _ h => by simp at h, .nil⟩
  | no s ih => intro i; cases i with
    | zero => exact ⟨_, fun _ h => (List.mem_cons.mp h), .dct h1 h2 h3 h4 h5 h6 s⟩
    | succ i => obtain ⟨A', h, q⟩ := ih h6 i; exact ⟨A', h, .no q⟩
  | val r' s ih => intro i; cases i with
    | zero => exact ⟨_, fun _ h => (List.mem_cons.mp h), .dct h1 h2 h3 h4 h5 h6 s⟩
    | succ i => obtain ⟨A', h, q⟩ := ih h6 i; exact ⟨A', h, .val r' q⟩
  | own k1 k2 k3 k4 k5 k6 s ih =>
    rw [List.mem_cons, not_or] at h6
    intro i; cases i with
    | zero => exact ⟨_, fun b hb => (List.mem_cons.mp hb).elim .inl fun z => .inr (List.mem_cons_of_mem _ z), .dct h1 h2 h3 h4 h5 h6.2 s⟩
    | succ i =>
      obtain ⟨A', h, q⟩ := ih h6.2 i
      refine ⟨_ :: A', fun b hb => (List.mem_cons.mp hb).elim (fun e => by rw [e]; exact .inr List.mem_cons_self) fun z => (h b z).elim .inl fun y => .inr (List.mem_cons_of_mem _ y), .own k1 k2 k3 k4 k5 (fun z => ?_) q⟩
      rcases h _ z with e | e
      · exact h6.1 e.symm
      · exact k6 e
  | dct k1 k2 k3 k4 k5 k6 s ih =>
    rw [List.mem_cons, not_or] at h6
    intro i; cases i with
    | zero => exact ⟨_, fun b hb => (List.mem_cons.mp hb).elim .inl fun z => .inr (List.mem_cons_of_mem _ z), .dct h1 h2 h3 h4 h5 h6.2 s⟩
    | succ i =>
      obtain ⟨A', h, q⟩ := ih h6.2 i
      refine ⟨_ :: A', fun b hb => (List.mem_cons.mp hb).elim (fun e => by rw [e]; exact .inr List.mem_cons_self) fun z => (h b z).elim .inl fun y => .inr (List.mem_cons_of_mem _ y), .dct k1 k2 k3 k4 k5 (fun z => ?_) q⟩
      rcases h _ z with e | e
      · exact h6.1 e.symm
      · exact k6 e
end
end Pd

/-! Pd, part B: states and what a reading does to them. -/
namespace Pd
open PySem PySem.Spec PyProof.Rows L2

structure Rel (g : Gl) (p : Option Addr) (H0 F0 : Hp) (A : List Addr) (F : Hp) (s : S) (σ : L2.St) (H : Hp) : Prop where
  ext : Ext F H
  ef0 : Ext F0 F
  fr : ∀ b o, F b = some o → F0 b = some o ∨ H0 b = none
  evo : ∀ b o, H0 b = some o → p ≠ some b → nt o → H b = some o
  al : ∀ b, H b = none → H0 b = none
  pl : PileOk p s.pile F H
  tb : g.T H
  sl : Sl g p H0 F H A s.sl σ

section
variable {g : Gl} {p : Option Addr} {H0 F0 : Hp} {A : List Addr} {F F' : Hp} {s : S} {σ : L2.St} {H H' : Hp} {n : Int}
theorem Rel.call (X : Rel g p H0 F0 A F s σ H) (G : Gr g p F H F' H') (P : PileOk p n F' H') : Rel g p H0 F0 A F' { s with pile := n } σ H' where
  ext := G.fh
  ef0 := X.ef0.trans G.ff
  fr := fun b o q => (G.nw b o q).elim (X.fr b o) fun z => .inr (X.al b z)
  evo := fun b o q np no => G.hh b o (X.evo b o q np no) np no
  al := fun b q => X.al b (G.al b q)
  pl := P
  tb := G.tb
  sl := X.sl.mono G.ff fun a ha => by
    obtain ⟨h0, f, np, hv⟩ := X.sl.facts a ha
    constructor
    · rcases hv with ⟨vs, hv⟩ | ⟨kvs, hv⟩
      · rw [hv]; exact G.hh a _ hv np trivial
      · rw [hv]; exact G.hh a _ hv np trivial
    · cases q : F' a with
      | none => rfl
      | some o =>
        rcases G.nw a o q with z | z
        · rw [f] at z; cases z
        · rcases hv with ⟨vs, hv⟩ | ⟨kvs, hv⟩ <;> (rw [hv] at z; cases z)
theorem Rel.grow (X : Rel g p H0 F0 A F s σ H) (G : Gr g none F H F' H') : Rel g p H0 F0 A F' s σ H' := by
  have z := X.call (n := s.pile) G.weak fun a e => by
    obtain ⟨h1, h2⟩ := X.pl a e
    refine ⟨?_, G.hh a _ h2 (by simp) trivial⟩
    cases q : F' a with
    | none => rfl
    | some o =>
      rcases G.nw a o q with z | z
      · rw [h1] at z; cases z
      · rw [h2] at z; cases z
  exact z
theorem Rel.gr (X : Rel g p H0 F0 A F s σ H) : Gr g p F H F H := Gr.refl X.ext X.tb
end

inductive R (α : Type) where
  | ok (a : α) (s : S)
  | exc (c : String) (n : Option Int) (s : S)
  | stuck
def R.bind {α β : Type} : R α → (α → S → R β) → R β
  | .ok a s, k => k a s
  | .exc c n s, _ => .exc c n s
  | .stuck, _ => .stuck
@[simp] theorem R.bind_ok {α β : Type} (a : α) (s : S) (k : α → S → R β) : (R.ok a s).bind k = k a s := rfl
@[simp] theorem R.bind_exc {α β : Type} (c : String) (n : Option Int) (s : S) (k : α → S → R β) : (R.exc c n s : R α).bind k = .exc c n s := rfl
@[simp] theorem R.bind_stuck {α β : Type} (k : α → S → R β) : (R.stuck : R α).bind k = .stuck := rfl
def R.of {α : Type} : Option α → S → R α
  | some a, s => .ok a s
  | none, _ => .stuck
@[simp] theorem R.of_some {α : Type} (a : α) (s : S) : R.of (some a) s = .ok a s := rfl
@[simp] theorem R.of_none {α : Type} (s : S) : R.of (none : Option α) s = .stuck := rfl

/-- the exception of the class c (with its number n) -/
def ExcV (g : Gl) (c : String) (n : Option Int) (cls : Value) (d : Option Addr) (H : Hp) : Prop :=
  ∃ C, g.mg (Str.ofString c) = some (.ref C) ∧ cls = .ref C ∧ ∀ i, n = some i → ∃ dd, d = some dd ∧ H dd = some (.xd [("line", .int i)])

abbrev RPT (α β : Type) := Option Addr → Hp → β → α → Prop

/-- what is to be shown of a reading's end -/
def Post {α β : Type} (g : Gl) (W : WX) (Rp : RPT α β) (p : Option Addr) (H0 F0 F : Hp) (σ : L2.St) (Q : β → Hp → Prop) : R α → Prop
  | .ok a s' => ∀ b F' H' A', Rel g p H0 F0 A' F' s' σ H' → Ext F F' → Rp p F' b a → Q b H'
  | .exc c n s' => ∀ cls d F' H' A', Rel g p H0 F0 A' F' s' σ H' → Ext F F' → ExcV g c n cls d H' → W cls d σ H'
  | .stuck => False

def Sim {α β : Type} (g : Gl) (W : WX) (Rp : RPT α β) (t : L2.St → Hp → (β → Hp → Prop) → Prop) (m : S → R α) : Prop :=
  ∀ (p : Option Addr) (H0 F0 : Hp) (A : List Addr) (F : Hp) (s : S) (σ : L2.St) (H : Hp) (Q : β → Hp → Prop), Rel g p H0 F0 A F s σ H → Post g W Rp p H0 F0 F σ Q (m s) → t σ H Q

section
variable {g : Gl} {W : WX} {p : Option Addr} {H0 F0 F F' : Hp} {σ : L2.St} {α β γ δ : Type}
theorem Post.mono {Rp : RPT α β} {Q : β → Hp → Prop} {r : R α} (h : Post g W Rp p H0 F0 F σ Q r) (e : Ext F F') : Post g W Rp p H0 F0 F' σ Q r := by
  cases r with
  | ok a s => exact fun b F1 H1 A1 X1 e1 r1 => h b F1 H1 A1 X1 (e.trans e1) r1
  | exc c n s => exact fun cls d F1 H1 A1 X1 e1 r1 => h cls d F1 H1 A1 X1 (e.trans e1) r1
  | stuck => exact h
theorem Post.bind {Rp : RPT α β} {Rp' : RPT γ δ} {Q' : δ → Hp → Prop} {Q : β → Hp → Prop} {r : R α} {k : α → S → R γ} (h : Post g W Rp' p H0 F0 F σ Q' (r.bind k))
    (st : ∀ a s' b F' H' A', Rel g p H0 F0 A' F' s' σ H' → Ext F F' → Rp p F' b a → Post g W Rp' p H0 F0 F' σ Q' (k a s') → Q b H') : Post g W Rp p H0 F0 F σ Q r := by
  cases r with
  | ok a s => exact fun b F1 H1 A1 X1 e1 r1 => st a s b F1 H1 A1 X1 e1 r1 (Post.mono h e1)
  | exc c n s => exact h
  | stuck => exact h
end

abbrev RepV (g : Gl) : RPT D V := fun p F v d => Rep g p F v d
abbrev RepA (g : Gl) : RPT (List D) (List V) := fun p F vs ds => Reps g p F vs ds
abbrev RepB : RPT Bool Bool := fun _ _ b a => b = a

abbrev EM := S → R D
abbrev TM := S → R Bool
abbrev AM := S → R (List D)
/-- an expression, a test, arguments -/
def DE (g : Gl) (X : Cx) (W : WX) (e : Expr) (m : EM) : Prop := ∃ t, PE X e t ∧ Sim g W (RepV g) t m
def DT (g : Gl) (X : Cx) (W : WX) (e : Expr) (m : TM) : Prop := ∃ t, PT X e t ∧ Sim g W RepB t m
def DA (g : Gl) (X : Cx) (W : WX) (es : List Expr) (m : AM) : Prop := ∃ t, PA X es t ∧ Sim g W (RepA g) t m
/-- a test whatever its whole is -/
def DW (g : Gl) (X : Cx) (W : WX) (e : Expr) (m : TM) : Prop := ∃ t, PW X e t ∧ Sim g W RepB t m

/-! ### results that may be new lists -/
abbrev OM := S → R SV
def PostO (g : Gl) (W : WX) (p : Option Addr) (H0 F0 F : Hp) (σ : L2.St) (Q : VK) : R SV → Prop
  | .ok (.val d) s' => ∀ v F' H' A', Rel g p H0 F0 A' F' s' σ H' → Ext F F' → Rep g p F' v d → Q v H'
  | .ok (.own l) s' => ∀ a vs F' H' A', Rel g p H0 F0 A' F' s' σ H' → Ext F F' → Reps g p F' vs l → H' a = some (.lst vs) → F' a = none → H0 a = none → p ≠ some a → a ∉ A' → Q (.ref a) H'
  | .ok (.dct l) s' => ∀ a kvs F' H' A', Rel g p H0 F0 A' F' s' σ H' → Ext F F' → Paired (fun (q : Key × V) (r : Key × D) => q.1 = r.1 ∧ Rep g p F' q.2 r.2) kvs l → H' a = some (.dK kvs) → F' a = none → H0 a = none → p ≠ some a → a ∉ A' → Q (.ref a) H'
  | .ok .no _ => False
  | .exc c n s' => ∀ cls d F' H' A', Rel g p H0 F0 A' F' s' σ H' → Ext F F' → ExcV g c n cls d H' → W cls d σ H'
  | .stuck => False
def SimO (g : Gl) (W : WX) (t : TE) (m : OM) : Prop :=
  ∀ (p : Option Addr) (H0 F0 : Hp) (A : List Addr) (F : Hp) (s : S) (σ : L2.St) (H : Hp) (Q : VK), Rel g p H0 F0 A F s σ H → PostO g W p H0 F0 F σ Q (m s) → t σ H Q
def DO (g : Gl) (X : Cx) (W : WX) (e : Expr) (m : OM) : Prop := ∃ t, PE X e t ∧ SimO g W t m
theorem PostO.mono {g : Gl} {W : WX} {p : Option Addr} {H0 F0 F F' : Hp} {σ : L2.St} {Q : VK} {r : R SV} (h : PostO g W p H0 F0 F σ Q r) (e : Ext F F') : PostO g W p H0 F0 F' σ Q r := by
  cases r with
  | ok a s => cases a with
    | no => exact h
    | val d => exact fun v F1 H1 A1 X1 e1 r1 => h v F1 H1 A1 X1 (e.trans e1) r1
    | own l => exact fun a vs F1 H1 A1 X1 e1 r1 => h a vs F1 H1 A1 X1 (e.trans e1) r1
    | dct l => exact fun a vs F1 H1 A1 X1 e1 r1 => h a vs F1 H1 A1 X1 (e.trans e1) r1
  | exc c n s => exact fun cls d F1 H1 A1 X1 e1 r1 => h cls d F1 H1 A1 X1 (e.trans e1) r1
  | stuck => exact h
/-- behind a first part -/
theorem PostO.bind {g : Gl} {W : WX} {p : Option Addr} {H0 F0 F : Hp} {σ : L2.St} {α β : Type} {Rp : RPT α β} {Q' : VK} {Q : β → Hp → Prop} {r : R α} {k : α → S → R SV} (h : PostO g W p H0 F0 F σ Q' (r.bind k))
    (st : ∀ a s' b F' H' A', Rel g p H0 F0 A' F' s' σ H' → Ext F F' → Rp p F' b a → PostO g W p H0 F0 F' σ Q' (k a s') → Q b H') : Post g W Rp p H0 F0 F σ Q r := by
  cases r with
  | ok a s => exact fun b F1 H1 A1 X1 e1 r1 => st a s b F1 H1 A1 X1 e1 r1 (PostO.mono h e1)
  | exc c n s => exact h
  | stuck => exact h

/-- a value is a result -/
def oV (m : EM) : OM := fun s => (m s).bind fun d s' => .ok (.val d) s'
theorem do_of {g : Gl} {X : Cx} {W : WX} {e : Expr} {m : EM} (h : DE g X W e m) : DO g X W e (oV m) := by
  obtain ⟨t, h1, h2⟩ := h
  refine ⟨t, h1, fun p H0 F0 A F s σ H Q Y hp => h2 p H0 F0 A F s σ H Q Y (PostO.bind hp fun d s' b F' H' A' X' e' r' k => k b F' H' A' X' (Ext.refl _) r')⟩
/-- frozen -/
def frz : SV → S → R D
  | .val d, s => .ok d s
  | .own l, s => .ok (.lst l) s
  | _, _ => .stuck
def eF (m : OM) : EM := fun s => (m s).bind frz
theorem Rel.freeze {g : Gl} {p : Option Addr} {H0 F0 : Hp} {A : List Addr} {F : Hp} {s : S} {σ : L2.St} {H : Hp} {a : Addr} {o : HO} (X : Rel g p H0 F0 A F s σ H) (h1 : H a = some o) (h3 : F a = none) (h4 : H0 a = none) (h5 : p ≠ some a) (h6 : a ∉ A) :
    Rel g p H0 F0 A (upd F a o) s σ H where
  ext := fun b u q => by
    by_cases hb : b = a
    · subst hb; rw [upd_same] at q; rw [h1]; exact q
    · rw [upd_ne hb] at q; exact X.ext b u q
  ef0 := X.ef0.trans (Ext.new h3)
  fr := fun b u q => by
    by_cases hb : b = a
    · subst hb; exact .inr h4
    · rw [upd_ne hb] at q; exact X.fr b u q
  evo := X.evo
  al := X.al
  pl := fun b e => by
    obtain ⟨z1, z2⟩ := X.pl b e
    refine ⟨?_, z2⟩
    rw [upd_ne (fun z => h5 (by rw [e, z]))]; exact z1
  tb := X.tb
  sl := X.sl.mono (Ext.new h3) fun b hb => ⟨rfl, by rw [upd_ne (fun z => h6 (by rw [← z]; exact hb))]; exact (X.sl.facts b hb).2.1⟩
theorem de_frz {g : Gl} {X : Cx} {W : WX} {e : Expr} {m : OM} (h : DO g X W e m) : DE g X W e (eF m) := by
  obtain ⟨t, h1, h2⟩ := h
  refine ⟨t, h1, fun p H0 F0 A F s σ H Q Y hp => h2 p H0 F0 A F s σ H Q Y ?_⟩
  unfold eF at hp
  cases q : m s with
  | ok r s' =>
    rw [q] at hp
    cases r with
    | no => exact hp
    | val d => exact fun v F' H' A' X' e' r' => hp v F' H' A' X' e' r'
    | own l =>
      refine fun a vs F' H' A' X' e' r' k1 k2 k3 k4 k5 => hp (.ref a) _ H' A' (X'.freeze k1 k2 k3 k4 k5) (e'.trans (Ext.new k2)) (.lst (.inl upd_same) (r'.mono (Ext.new k2)))
    | dct l => exact hp.elim
  | exc c n s' => rw [q] at hp; exact hp
  | stuck => rw [q] at hp; exact hp

/-! ### names -/
/-- a slot read: a list of one's own is frozen by that -/
def mVar (i : Nat) : EM := fun s => match s.sl[i]? with
  | some (.val d) => .ok d s
  | some (.own l) => .ok (.lst l) { s with sl := s.sl.set i (.val (.lst l)) }
  | _ => .stuck
theorem Rel.var {g : Gl} {p : Option Addr} {H0 F0 : Hp} {A : List Addr} {F : Hp} {s : S} {σ : L2.St} {H : Hp} {i : Nat} {d : D} (X : Rel g p H0 F0 A F s σ H) (h : s.sl[i]? = some (.val d)) : ∃ v, σ[i]? = some (some v) ∧ Rep g p F v d := X.sl.getVal h
theorem set_self {σ : L2.St} {i : Nat} {x : Option V} (h : σ[i]? = some x) : σ.set i x = σ := by
  apply List.ext_getElem?
  intro j
  by_cases hj : i = j
  · subst hj
    have hl : i < σ.length := (List.getElem?_eq_some_iff.mp h).1
    rw [List.getElem?_set_self hl, h]
  · rw [List.getElem?_set_ne hj]

/-- an own list's slot is emptied -/
theorem Sl.takeOwn {g : Gl} {p : Option Addr} {H0 F H : Hp} {A : List Addr} {ss : List SV} {σ : L2.St} (x : Sl g p H0 F H A ss σ) : ∀ (i : Nat) (l : List D), ss[i]? = some (.own l) →
    ∃ a vs A', σ[i]? = some (some (.ref a)) ∧ H a = some (.lst vs) ∧ Reps g p F vs l ∧ F a = none ∧ H0 a = none ∧ p ≠ some a ∧ a ∈ A ∧ a ∉ A' ∧ (∀ b ∈ A', b ∈ A) ∧ Sl g p H0 F H A' (ss.set i .no) σ := by
  induction x with
  | nil => intro i l h; simp at h
  | no s ih => intro i l h; cases i with
    | zero => simp at h
    | succ i =>
      obtain ⟨a, vs, A', e, k1, k2, k3, k4, k5, k6, k7, k8, q⟩ := ih i l (by simpa using h)
      exact ⟨a, vs, A', by simpa using e, k1, k2, k3, k4, k5, k6, k7, k8, .no q⟩
  | val r s ih => intro i l h; cases i with
    | zero => simp at h
    | succ i =>
      obtain ⟨a, vs, A', e, k1, k2, k3, k4, k5, k6, k7, k8, q⟩ := ih i l (by simpa using h)
      exact ⟨a, vs, A', by simpa using e, k1, k2, k3, k4, k5, k6, k7, k8, .val r q⟩
  | own q1 q2 q3 q4 q5 q6 s ih => intro i l h; cases i with
    | zero =>
      simp at h
      subst h
      exact ⟨_, _, _, rfl, q1, q2, q3, q4, q5, List.mem_cons_self, q6, fun b hb => List.mem_cons_of_mem _ hb, .no s⟩
    | succ i =>
      obtain ⟨a, vs, A', e, k1, k2, k3, k4, k5, k6, k7, k8, q⟩ := ih i l (by simpa using h)
      refine ⟨a, vs, _ :: A', by simpa using e, k1, k2, k3, k4, k5, List.mem_cons_of_mem _ k6, ?_, ?_, .own q1 q2 q3 q4 q5 (fun z => q6 (k8 _ z)) q⟩
      · rw [List.mem_cons, not_or]
        exact ⟨fun z => q6 (by rw [← z]; exact k6), k7⟩
      · exact fun b hb => (List.mem_cons.mp hb).elim (fun z => by rw [z]; exact List.mem_cons_self) fun z => List.mem_cons_of_mem _ (k8 b z)
  | dct q1 q2 q3 q4 q5 q6 s ih => intro i l h; cases i with
    | zero => simp at h
    | succ i =>
      obtain ⟨a, vs, A', e, k1, k2, k3, k4, k5, k6, k7, k8, q⟩ := ih i l (by simpa using h)
      refine ⟨a, vs, _ :: A', by simpa using e, k1, k2, k3, k4, k5, List.mem_cons_of_mem _ k6, ?_, ?_, .dct q1 q2 q3 q4 q5 (fun z => q6 (k8 _ z)) q⟩
      · rw [List.mem_cons, not_or]
        exact ⟨fun z => q6 (by rw [← z]; exact k6), k7⟩
      · exact fun b hb => (List.mem_cons.mp hb).elim (fun z => by rw [z]; exact List.mem_cons_self) fun z => List.mem_cons_of_mem _ (k8 b z)
theorem Sl.takeDct {g : Gl} {p : Option Addr} {H0 F H : Hp} {A : List Addr} {ss : List SV} {σ : L2.St} (x : Sl g p H0 F H A ss σ) : ∀ (i : Nat) (l : List (Key × D)), ss[i]? = some (.dct l) →
    ∃ a kvs A', σ[i]? = some (some (.ref a)) ∧ H a = some (.dK kvs) ∧ Paired (fun (q : Key × V) (r : Key × D) => q.1 = r.1 ∧ Rep g p F q.2 r.2) kvs l ∧ F a = none ∧ H0 a = none ∧ p ≠ some a ∧ a ∈ A ∧ a ∉ A' ∧ (∀ b ∈ A', b ∈ A) ∧ Sl g p H0 F H A' (ss.set i .no) σ := by
  induction x with
  | nil => intro i l h; simp at h
  | no s ih => intro i l h; cases i with
    | zero => simp at h
    | succ i =>
      obtain ⟨a, vs, A', e, k1, k2, k3, k4, k5, k6, k7, k8, q⟩ := ih i l (by simpa using h)
      exact ⟨a, vs, A', by simpa using e, k1, k2, k3, k4, k5, k6, k7, k8, .no q⟩
  | val r s ih => intro i l h; cases i with
    | zero => simp at h
    | succ i =>
      obtain ⟨a, vs, A', e, k1, k2, k3, k4, k5, k6, k7, k8, q⟩ := ih i l (by simpa using h)
      exact ⟨a, vs, A', by simpa using e, k1, k2, k3, k4, k5, k6, k7, k8, .val r q⟩
  | own q1 q2 q3 q4 q5 q6 s ih => intro i l h; cases i with
    | zero => simp at h
    | succ i =>
      obtain ⟨a, vs, A', e, k1, k2, k3, k4, k5, k6, k7, k8, q⟩ := ih i l (by simpa using h)
      refine ⟨a, vs, _ :: A', by simpa using e, k1, k2, k3, k4, k5, List.mem_cons_of_mem _ k6, ?_, ?_, .own q1 q2 q3 q4 q5 (fun z => q6 (k8 _ z)) q⟩
      · rw [List.mem_cons, not_or]
        exact ⟨fun z => q6 (by rw [← z]; exact k6), k7⟩
      · exact fun b hb => (List.mem_cons.mp hb).elim (fun z => by rw [z]; exact List.mem_cons_self) fun z => List.mem_cons_of_mem _ (k8 b z)
  | dct q1 q2 q3 q4 q5 q6 s ih => intro i l h; cases i with
    | zero =>
      simp at h
      subst h
      exact ⟨_, _, _, rfl, q1, q2, q3, q4, q5, List.mem_cons_self, q6, fun b hb => List.mem_cons_of_mem _ hb, .no s⟩
    | succ i =>
      obtain ⟨a, vs, A', e, k1, k2, k3, k4, k5, k6, k7, k8, q⟩ := ih i l (by simpa using h)
      refine ⟨a, vs, _ :: A', by simpa using e, k1, k2, k3, k4, k5, List.mem_cons_of_mem _ k6, ?_, ?_, .dct q1 q2 q3 q4 q5 (fun z => q6 (k8 _ z)) q⟩
      · rw [List.mem_cons, not_or]
        exact ⟨fun z => q6 (by rw [← z]; exact k6), k7⟩
      · exact fun b hb => (List.mem_cons.mp hb).elim (fun z => by rw [z]; exact List.mem_cons_self) fun z => List.mem_cons_of_mem _ (k8 b z)
/-- another list of slots over the same heap -/
theorem Rel.slots {g : Gl} {p : Option Addr} {H0 F0 : Hp} {A A' : List Addr} {F : Hp} {s s' : S} {σ σ' : L2.St} {H : Hp} (X : Rel g p H0 F0 A F s σ H) (hp : s'.pile = s.pile) (h : Sl g p H0 F H A' s'.sl σ') : Rel g p H0 F0 A' F s' σ' H :=
  ⟨X.ext, X.ef0, X.fr, X.evo, X.al, by rw [hp]; exact X.pl, X.tb, h⟩
theorem Rel.frzSlot {g : Gl} {p : Option Addr} {H0 F0 : Hp} {A : List Addr} {F : Hp} {s : S} {σ : L2.St} {H : Hp} {i : Nat} {l : List D} (X : Rel g p H0 F0 A F s σ H) (h : s.sl[i]? = some (.own l)) :
    ∃ a F' A', σ[i]? = some (some (.ref a)) ∧ Ext F F' ∧ Rep g p F' (.ref a) (.lst l) ∧ Rel g p H0 F0 A' F' { s with sl := s.sl.set i (.val (.lst l)) } σ H := by
  obtain ⟨a, vs, A1, h1, h2, h3, h4, h5, h6, h7, h8, h9, q⟩ := X.sl.takeOwn i l h
  have X1 : Rel g p H0 F0 A1 F { s with sl := s.sl.set i .no } σ H := X.slots (s' := { s with sl := s.sl.set i .no }) rfl q
  have X2 := X1.freeze h2 h4 h5 h6 h8
  have e := Ext.new (o := HO.lst vs) h4
  have r : Rep g p (upd F a (.lst vs)) (.ref a) (.lst l) := .lst (.inl upd_same) (h3.mono e)
  obtain ⟨A2, m2, q2⟩ := X2.sl.setVal r i
  refine ⟨a, _, A2, h1, e, r, X2.slots (s' := { s with sl := s.sl.set i (.val (.lst l)) }) rfl ?_⟩
  rw [set_self h1, List.set_set] at q2
  exact q2
theorem de_var {g : Gl} {X : Cx} {W : WX} {e : Expr} {i : Nat} (h : PE X e (tVar i)) : DE g X W e (mVar i) := by
  refine ⟨_, h, fun p H0 F0 A F s σ H Q Y hp => ?_⟩
  unfold mVar at hp
  cases q : s.sl[i]? with
  | none => rw [q] at hp; exact hp.elim
  | some x =>
    rw [q] at hp
    cases x with
    | no => exact hp.elim
    | dct l => exact hp.elim
    | val d =>
      obtain ⟨v, h1, r⟩ := Y.var q
      exact ⟨v, h1, hp v F H A Y (Ext.refl _) r⟩
    | own l =>
      obtain ⟨a, F', A', h1, e1, r, Y'⟩ := Y.frzSlot q
      exact ⟨_, h1, hp _ F' H A' Y' e1 r⟩
/-- the slot given away: its list is the result's own -/
def oVar (i : Nat) : OM := fun s => match s.sl[i]? with
  | some (.val d) => .ok (.val d) s
  | some (.own l) => .ok (.own l) { s with sl := s.sl.set i .no }
  | some (.dct l) => .ok (.dct l) { s with sl := s.sl.set i .no }
  | _ => .stuck
theorem do_var {g : Gl} {X : Cx} {W : WX} {e : Expr} {i : Nat} (h : PE X e (tVar i)) : DO g X W e (oVar i) := by
  refine ⟨_, h, fun p H0 F0 A F s σ H Q Y hp => ?_⟩
  unfold oVar at hp
  cases q : s.sl[i]? with
  | none => rw [q] at hp; exact hp.elim
  | some x =>
    rw [q] at hp
    cases x with
    | no => exact hp.elim
    | dct l =>
      obtain ⟨a, vs, A1, h1, h2, h3, h4, h5, h6, h7, h8, h9, q⟩ := Y.sl.takeDct i l q
      exact ⟨_, h1, hp a vs F H A1 (Y.slots (s' := { s with sl := s.sl.set i .no }) rfl q) (Ext.refl _) h3 h2 h4 h5 h6 h8⟩
    | val d =>
      obtain ⟨v, h1, r⟩ := Y.var q
      exact ⟨v, h1, hp v F H A Y (Ext.refl _) r⟩
    | own l =>
      obtain ⟨a, vs, A1, h1, h2, h3, h4, h5, h6, h7, h8, h9, q⟩ := Y.sl.takeOwn i l q
      exact ⟨_, h1, hp a vs F H A1 (Y.slots (s' := { s with sl := s.sl.set i .no }) rfl q) (Ext.refl _) h3 h2 h4 h5 h6 h8⟩
/-- a constant -/
def mC (d : D) : EM := fun s => .ok d s
theorem de_c {g : Gl} {X : Cx} {W : WX} {e : Expr} {v : V} {d : D} (h : PE X e (tC v)) (r : ∀ p F, Rep g p F v d) : DE g X W e (mC d) :=
  ⟨_, h, fun p H0 F0 A F s σ H Q Y hp => hp v F H A Y (Ext.refl _) (r p F)⟩
theorem rep_str {g : Gl} {p : Option Addr} {F : Hp} (x : Str) : Rep g p F (.str x) (.str x.cps.toList) := .str x.cps.toList
section
variable {g : Gl} {X : Cx} {W : WX}
theorem de_int {i j pos} : DE g X W (.Constant (.int i) j pos) (mC (.int i)) := de_c pe_int fun _ _ => .int i
theorem de_bl {b j pos} : DE g X W (.Constant (.bool b) j pos) (mC (.bl b)) := de_c pe_bl fun _ _ => .bl b
theorem de_non {j pos} : DE g X W (.Constant .none j pos) (mC .non) := de_c pe_non fun _ _ => .non
theorem de_str {x : Str} {s : List Nat} {j pos} (h : x.cps.toList = s := by rfl) : DE g X W (.Constant (.str x) j pos) (mC (.str s)) := de_c pe_str fun _ _ => by rw [← h]; exact rep_str x
end

/-! ### two-place operations, built-ins by values -/
/-- an operation's worth -/
def OpP (g : Gl) (p : Option Addr) (F H : Hp) (Q : VK) : Option D → Prop
  | some d => ∀ v F' H', Gr g none F H F' H' → Rep g p F' v d → Q v H'
  | none => False
def ROp (g : Gl) (r : R2) (f : D → D → Option D) : Prop := ∀ (p : Option Addr) (F H : Hp) (x y : V) (dx dy : D) (Q : VK), Rep g p F x dx → Rep g p F y dy → Ext F H → g.T H → OpP g p F H Q (f dx dy) → r x y H Q
def mBin (f : D → D → Option D) (a b : EM) : EM := fun s => (a s).bind fun x s1 => (b s1).bind fun y s2 => R.of (f x y) s2
theorem Post.of {g : Gl} {W : WX} {p : Option Addr} {H0 F0 F : Hp} {σ : L2.St} {s : S} {A : List Addr} {H : Hp} {o : Option D} {Q : VK} (X : Rel g p H0 F0 A F s σ H) (h : Post g W (RepV g) p H0 F0 F σ Q (R.of o s)) : OpP g p F H Q o := by
  cases o with
  | none => exact h
  | some d => exact fun v F' H' G r => h v F' H' A (X.grow G) G.ff r
section
variable {g : Gl} {X : Cx} {W : WX} {a b : Expr} {ma mb : EM} {pos : Pos}
theorem sim_bin {ta tb : TE} {r : R2} {f : D → D → Option D} (hr : ROp g r f) (ha : Sim g W (RepV g) ta ma) (hb : Sim g W (RepV g) tb mb) : Sim g W (RepV g) (tOp r ta tb) (mBin f ma mb) := by
  intro p H0 F0 A F s σ H Q Y hp
  refine ha p H0 F0 A F s σ H _ Y (hp.bind fun x s1 v F1 H1 A1 Y1 e1 r1 hp1 => ?_)
  refine hb p H0 F0 A1 F1 s1 σ H1 _ Y1 (hp1.bind fun y s2 w F2 H2 A2 Y2 e2 r2 hp2 => ?_)
  exact hr p F2 H2 v w x y Q (r1.mono e2) r2 Y2.ext Y2.tb (Post.of Y2 hp2)
theorem de_bin {op : Operator} {r : R2} {f : D → D → Option D} (ho : OpR X (binaryOp op) r) (hr : ROp g r f) (ha : DE g X W a ma) (hb : DE g X W b mb) : DE g X W (.BinOp a op b pos) (mBin f ma mb) := by
  obtain ⟨ta, a1, a2⟩ := ha
  obtain ⟨tb, b1, b2⟩ := hb
  exact ⟨_, pe_op ho a1 b1, sim_bin hr a2 b2⟩
theorem de_cmp {op : CmpOp} {r : R2} {f : D → D → Option D} (ho : OpR X (compareOp op) r) (hr : ROp g r f) (ha : DE g X W a ma) (hb : DE g X W b mb) (hm : behindInMarks op b = false) : DE g X W (.Compare a [op] [b] pos) (mBin f ma mb) := by
  obtain ⟨ta, a1, a2⟩ := ha
  obtain ⟨tb, b1, b2⟩ := hb
  exact ⟨_, pe_cmpR ho a1 b1 hm, sim_bin hr a2 b2⟩
/-- a value that is a bool, as a test -/
def mTest (m : EM) : TM := fun s => (m s).bind fun d s1 => match d with
  | .bl k => .ok k s1
  | _ => .stuck
theorem sim_test {te : TE} {m : EM} (h : Sim g W (RepV g) te m) : Sim g W RepB (tTest te) (mTest m) := by
  intro p H0 F0 A F s σ H Q Y hp
  refine h p H0 F0 A F s σ H _ Y (hp.bind fun d s1 v F1 H1 A1 Y1 e1 r1 hp1 => ?_)
  cases d with
  | bl k =>
    cases r1
    exact ⟨k, rfl, hp1 k F1 H1 A1 Y1 (Ext.refl _) rfl⟩
  | _ => exact hp1.elim
theorem dt_cmp {op : CmpOp} {r : R2} {f : D → D → Option D} (ho : OpR X (compareOp op) r) (hr : ROp g r f) (ha : DE g X W a ma) (hb : DE g X W b mb) (hm : behindInMarks op b = false) : DT g X W (.Compare a [op] [b] pos) (mTest (mBin f ma mb)) := by
  obtain ⟨ta, a1, a2⟩ := ha
  obtain ⟨tb, b1, b2⟩ := hb
  exact ⟨_, pt_cmpR ho a1 b1 hm, sim_test (sim_bin hr a2 b2)⟩
theorem dt_val {e : Expr} {m : EM} (h : DE g X W e m) (he : ∀ whole, isTrue e X.env whole = (do let v ← whole; standAt e.pos; holding [v] (truthy v)) := by intro _; rfl) : DT g X W e (mTest m) := by
  obtain ⟨t, a1, a2⟩ := h
  refine ⟨_, pt_val a1 he, ?_⟩
  exact sim_test a2
def mAnd (a b : TM) : TM := fun s => (a s).bind fun k s1 => if k = true then b s1 else .ok false s1
def mOr (a b : TM) : TM := fun s => (a s).bind fun k s1 => if k = true then .ok true s1 else b s1
def mNot (a : TM) : TM := fun s => (a s).bind fun k s1 => .ok (!k) s1
variable {ta tb : TM} {rest : List Expr}
theorem dw_and1 (h : DT g X W a ta) : DW g X W (.BoolOp .And [a] pos) ta := let ⟨_, a1, a2⟩ := h; ⟨_, pw_and1 a1, a2⟩
theorem dw_or1 (h : DT g X W a ta) : DW g X W (.BoolOp .Or [a] pos) ta := let ⟨_, a1, a2⟩ := h; ⟨_, pw_or1 a1, a2⟩
theorem dw_and (ha : DT g X W a ta) (hb : DW g X W (.BoolOp .And (b :: rest) pos) tb) : DW g X W (.BoolOp .And (a :: b :: rest) pos) (mAnd ta tb) := by
  obtain ⟨t1, a1, a2⟩ := ha
  obtain ⟨t2, b1, b2⟩ := hb
  refine ⟨_, pw_and a1 b1, fun p H0 F0 A F s σ H Q Y hp => a2 p H0 F0 A F s σ H _ Y (hp.bind fun k s1 k' F1 H1 A1 Y1 e1 r1 hp1 => ?_)⟩
  cases r1
  cases k with
  | true => exact b2 p H0 F0 A1 F1 s1 σ H1 Q Y1 hp1
  | false => exact hp1 false F1 H1 A1 Y1 (Ext.refl _) rfl
theorem dw_or (ha : DT g X W a ta) (hb : DW g X W (.BoolOp .Or (b :: rest) pos) tb) : DW g X W (.BoolOp .Or (a :: b :: rest) pos) (mOr ta tb) := by
  obtain ⟨t1, a1, a2⟩ := ha
  obtain ⟨t2, b1, b2⟩ := hb
  refine ⟨_, pw_or a1 b1, fun p H0 F0 A F s σ H Q Y hp => a2 p H0 F0 A F s σ H _ Y (hp.bind fun k s1 k' F1 H1 A1 Y1 e1 r1 hp1 => ?_)⟩
  cases r1
  cases k with
  | true => exact hp1 true F1 H1 A1 Y1 (Ext.refl _) rfl
  | false => exact b2 p H0 F0 A1 F1 s1 σ H1 Q Y1 hp1
theorem dw_t (h : DW g X W a ta) : DT g X W a ta := let ⟨_, a1, a2⟩ := h; ⟨_, a1.pt, a2⟩
theorem dt_not (h : DT g X W a ta) : DT g X W (.UnaryOp .Not a pos) (mNot ta) := by
  obtain ⟨t1, a1, a2⟩ := h
  refine ⟨_, pt_not a1, fun p H0 F0 A F s σ H Q Y hp => a2 p H0 F0 A F s σ H _ Y (hp.bind fun k s1 k' F1 H1 A1 Y1 e1 r1 hp1 => ?_)⟩
  cases r1
  exact hp1 (!k) F1 H1 A1 Y1 (Ext.refl _) rfl
/-- and, or, not as values: all but the last are bools -/
def eAnd (a b : EM) : EM := fun s => (mTest a s).bind fun k s1 => if k = true then b s1 else .ok (.bl false) s1
def eOr (a b : EM) : EM := fun s => (mTest a s).bind fun k s1 => if k = true then .ok (.bl true) s1 else b s1
def eNot (a : EM) : EM := fun s => (mTest a s).bind fun k s1 => .ok (.bl (!k)) s1
theorem de_one {op} (h : DE g X W a ma) : DE g X W (.BoolOp op [a] pos) ma := let ⟨_, a1, a2⟩ := h; ⟨_, pe_one a1, a2⟩
theorem de_and (ha : DE g X W a ma) (hb : DE g X W (.BoolOp .And (b :: rest) pos) mb) : DE g X W (.BoolOp .And (a :: b :: rest) pos) (eAnd ma mb) := by
  obtain ⟨t1, a1, a2⟩ := ha
  obtain ⟨t2, b1, b2⟩ := hb
  refine ⟨_, pe_and a1 b1, fun p H0 F0 A F s σ H Q Y hp => ?_⟩
  refine sim_test a2 p H0 F0 A F s σ H (fun c H1 => if c = true then t2 σ H1 Q else Q (.bl false) H1) Y (hp.bind fun k s1 k' F1 H1 A1 Y1 e1 r1 hp1 => ?_)
  cases r1
  cases k with
  | true => exact b2 p H0 F0 A1 F1 s1 σ H1 Q Y1 hp1
  | false => exact hp1 (.bl false) F1 H1 A1 Y1 (Ext.refl _) (.bl false)
theorem de_or (ha : DE g X W a ma) (hb : DE g X W (.BoolOp .Or (b :: rest) pos) mb) : DE g X W (.BoolOp .Or (a :: b :: rest) pos) (eOr ma mb) := by
  obtain ⟨t1, a1, a2⟩ := ha
  obtain ⟨t2, b1, b2⟩ := hb
  refine ⟨_, pe_or a1 b1, fun p H0 F0 A F s σ H Q Y hp => ?_⟩
  refine sim_test a2 p H0 F0 A F s σ H (fun c H1 => if c = true then Q (.bl true) H1 else t2 σ H1 Q) Y (hp.bind fun k s1 k' F1 H1 A1 Y1 e1 r1 hp1 => ?_)
  cases r1
  cases k with
  | true => exact hp1 (.bl true) F1 H1 A1 Y1 (Ext.refl _) (.bl true)
  | false => exact b2 p H0 F0 A1 F1 s1 σ H1 Q Y1 hp1
theorem de_not (ha : DE g X W a ma) : DE g X W (.UnaryOp .Not a pos) (eNot ma) := by
  obtain ⟨t1, a1, a2⟩ := ha
  refine ⟨_, pe_not a1, fun p H0 F0 A F s σ H Q Y hp => ?_⟩
  refine sim_test a2 p H0 F0 A F s σ H (fun c H1 => Q (.bl (!c)) H1) Y (hp.bind fun k s1 k' F1 H1 A1 Y1 e1 r1 hp1 => ?_)
  cases r1
  exact hp1 (.bl (!k)) F1 H1 A1 Y1 (Ext.refl _) (.bl _)
def mIf (c : TM) (a b : EM) : EM := fun s => (c s).bind fun k s1 => if k = true then a s1 else b s1
theorem de_if {c : Expr} {mc : TM} (hc : DT g X W c mc) (ha : DE g X W a ma) (hb : DE g X W b mb) : DE g X W (.IfExp c a b pos) (mIf mc ma mb) := by
  obtain ⟨t0, c1, c2⟩ := hc
  obtain ⟨t1, a1, a2⟩ := ha
  obtain ⟨t2, b1, b2⟩ := hb
  refine ⟨_, pe_ifExp c1 a1 b1, fun p H0 F0 A F s σ H Q Y hp => c2 p H0 F0 A F s σ H _ Y (hp.bind fun k s1 k' F1 H1 A1 Y1 e1 r1 hp1 => ?_)⟩
  cases r1
  cases k with
  | true => exact a2 p H0 F0 A1 F1 s1 σ H1 Q Y1 hp1
  | false => exact b2 p H0 F0 A1 F1 s1 σ H1 Q Y1 hp1
/-! ### arguments, displays -/
def aNil : AM := fun s => .ok [] s
def aCons (a : EM) (r : AM) : AM := fun s => (a s).bind fun x s1 => (r s1).bind fun xs s2 => .ok (x :: xs) s2
theorem da_nil : DA g X W [] aNil := ⟨_, pa_nil, fun p H0 F0 A F s σ H Q Y hp => hp [] F H A Y (Ext.refl _) .nil⟩
theorem da_cons {e : Expr} {es : List Expr} {m : EM} {ms : AM} (h : DE g X W e m) (hr : DA g X W es ms) (hs : starEach (e :: es) X.env = (false, eval e X.env) :: starEach es X.env := by rfl) : DA g X W (e :: es) (aCons m ms) := by
  obtain ⟨t1, a1, a2⟩ := h
  obtain ⟨t2, b1, b2⟩ := hr
  refine ⟨_, pa_cons a1 b1 hs, fun p H0 F0 A F s σ H Q Y hp => a2 p H0 F0 A F s σ H _ Y (hp.bind fun x s1 v F1 H1 A1 Y1 e1 r1 hp1 => ?_)⟩
  refine b2 p H0 F0 A1 F1 s1 σ H1 _ Y1 (hp1.bind fun xs s2 vs F2 H2 A2 Y2 e2 r2 hp2 => ?_)
  exact hp2 (v :: vs) F2 H2 A2 Y2 (Ext.refl _) (.cons (r1.mono e2) r2)
def mTup (m : AM) : EM := fun s => (m s).bind fun xs s1 => if xs.length ≤ sizeLine then .ok (.tup xs) s1 else .stuck
def oLst (m : AM) : OM := fun s => (m s).bind fun xs s1 => if xs.length ≤ sizeLine then .ok (.own xs) s1 else .stuck
theorem de_tup {es : List Expr} {x1} {m : AM} (h : DA g X W es m) : DE g X W (.Tuple es x1 pos) (mTup m) := by
  obtain ⟨t1, a1, a2⟩ := h
  refine ⟨_, pe_tup a1, fun p H0 F0 A F s σ H Q Y hp => a2 p H0 F0 A F s σ H _ Y (hp.bind fun xs s1 vs F1 H1 A1 Y1 e1 r1 hp1 => ?_)⟩
  by_cases hl : xs.length ≤ sizeLine
  · rw [if_pos hl] at hp1
    refine ⟨by rw [r1.length]; exact hl, fun q nq => ?_⟩
    have G := Gr.new (g := g) (p := none) (o := HO.tup vs) Y1.ext Y1.tb nq
    exact hp1 (.ref q) _ _ A1 (Y1.grow G) G.ff (.tup (.inl (.inl upd_same)) (r1.mono G.ff))
  · rw [if_neg hl] at hp1; exact hp1.elim
theorem Rel.fresh {p : Option Addr} {H0 F0 : Hp} {A : List Addr} {F : Hp} {s : S} {σ : L2.St} {H : Hp} {q : Addr} (Y : Rel g p H0 F0 A F s σ H) (nq : H q = none) : F q = none ∧ H0 q = none ∧ p ≠ some q ∧ q ∉ A := by
  refine ⟨?_, Y.al q nq, fun e => ?_, fun hm => ?_⟩
  · cases z : F q with
    | none => rfl
    | some o => rw [Y.ext q o z] at nq; cases nq
  · rw [(Y.pl q e).2] at nq; cases nq
  · rcases (Y.sl.facts q hm).2.2.2 with ⟨vs, z⟩ | ⟨vs, z⟩ <;> (rw [z] at nq; cases nq)
theorem do_lst {es : List Expr} {m : AM} (h : DA g X W es m) : DO g X W (.List es pos) (oLst m) := by
  obtain ⟨t1, a1, a2⟩ := h
  refine ⟨_, pe_lst a1, fun p H0 F0 A F s σ H Q Y hp => a2 p H0 F0 A F s σ H _ Y (PostO.bind hp fun xs s1 vs F1 H1 A1 Y1 e1 r1 hp1 => ?_)⟩
  by_cases hl : xs.length ≤ sizeLine
  · rw [if_pos hl] at hp1
    refine ⟨by rw [r1.length]; exact hl, fun q nq => ?_⟩
    have G := Gr.lay (g := g) (p := none) (o := HO.lst vs) Y1.ext Y1.tb nq
    obtain ⟨k1, k2, k3, k4⟩ := Y1.fresh nq
    exact hp1 q vs _ _ A1 (Y1.grow G) G.ff r1 upd_same k1 k2 k3 k4
  · rw [if_neg hl] at hp1; exact hp1.elim
end
end Pd

/-! Pd, part C: statements, loops, comprehensions, defs and calls. -/
namespace Pd
open PySem PySem.Spec PyProof.Rows L2

inductive RS where
  | nx (s : S)
  | rt (v : SV) (s : S)
  | bk (s : S)
  | ct (s : S)
  | exc (c : String) (n : Option Int) (s : S)
  | stuck
abbrev SM := S → RS

def PostS (g : Gl) (W : WX) (p : Option Addr) (H0 F0 F : Hp) (D : Ends) : RS → Prop
  | .nx s' => ∀ σ' F' H' A', Rel g p H0 F0 A' F' s' σ' H' → Ext F F' → D.nx σ' H'
  | .bk s' => ∀ σ' F' H' A', Rel g p H0 F0 A' F' s' σ' H' → Ext F F' → D.bk σ' H'
  | .ct s' => ∀ σ' F' H' A', Rel g p H0 F0 A' F' s' σ' H' → Ext F F' → D.ct σ' H'
  | .rt (.val d) s' => ∀ v σ' F' H' A', Rel g p H0 F0 A' F' s' σ' H' → Ext F F' → Rep g p F' v d → D.rt v H'
  | .rt (.own l) s' => ∀ a vs σ' F' H' A', Rel g p H0 F0 A' F' s' σ' H' → Ext F F' → Reps g p F' vs l → H' a = some (.lst vs) → F' a = none → H0 a = none → p ≠ some a → D.rt (.ref a) H'
  | .rt _ _ => False
  | .exc c n s' => ∀ cls d σ' F' H' A', Rel g p H0 F0 A' F' s' σ' H' → Ext F F' → ExcV g c n cls d H' → W cls d σ' H'
  | .stuck => False
def SimS (g : Gl) (W : WX) (t : TS) (m : SM) : Prop :=
  ∀ (p : Option Addr) (H0 F0 : Hp) (A : List Addr) (F : Hp) (s : S) (σ : L2.St) (H : Hp) (D : Ends), Rel g p H0 F0 A F s σ H → PostS g W p H0 F0 F D (m s) → t D σ H
def DS (g : Gl) (X : Cx) (W : WX) (st : Stmt) (m : SM) : Prop := ∃ t, PS X st t ∧ SimS g W t m
def DSs (g : Gl) (X : Cx) (W : WX) (st : List Stmt) (m : SM) : Prop := ∃ t, PSs X st t ∧ SimS g W t m
section
variable {g : Gl} {W : WX} {p : Option Addr} {H0 F0 F F' : Hp} {σ : L2.St} {D : Ends}
theorem PostS.mono {r : RS} (h : PostS g W p H0 F0 F D r) (e : Ext F F') : PostS g W p H0 F0 F' D r := by
  cases r with
  | nx s => exact fun σ' F1 H1 A1 X1 e1 => h σ' F1 H1 A1 X1 (e.trans e1)
  | bk s => exact fun σ' F1 H1 A1 X1 e1 => h σ' F1 H1 A1 X1 (e.trans e1)
  | ct s => exact fun σ' F1 H1 A1 X1 e1 => h σ' F1 H1 A1 X1 (e.trans e1)
  | rt v s => cases v with
    | val d => exact fun v σ' F1 H1 A1 X1 e1 => h v σ' F1 H1 A1 X1 (e.trans e1)
    | own l => exact fun a vs σ' F1 H1 A1 X1 e1 => h a vs σ' F1 H1 A1 X1 (e.trans e1)
    | no => exact h
    | dct l => exact h
  | exc c n s => exact fun cls d σ' F1 H1 A1 X1 e1 => h cls d σ' F1 H1 A1 X1 (e.trans e1)
  | stuck => exact h
/-- a result, then a statement's rest -/
def R.bs {α : Type} : R α → (α → S → RS) → RS
  | .ok a s, k => k a s
  | .exc c n s, _ => .exc c n s
  | .stuck, _ => .stuck
@[simp] theorem R.bs_ok {α : Type} (a : α) (s : S) (k : α → S → RS) : (R.ok a s).bs k = k a s := rfl
@[simp] theorem R.bs_exc {α : Type} (c : String) (n : Option Int) (s : S) (k : α → S → RS) : (R.exc c n s : R α).bs k = .exc c n s := rfl
@[simp] theorem R.bs_stuck {α : Type} (k : α → S → RS) : (R.stuck : R α).bs k = .stuck := rfl
theorem PostS.bs {α β : Type} {Rp : RPT α β} {Q : β → Hp → Prop} {r : R α} {k : α → S → RS} (h : PostS g W p H0 F0 F D (r.bs k))
    (st : ∀ a s' b F' H' A', Rel g p H0 F0 A' F' s' σ H' → Ext F F' → Rp p F' b a → PostS g W p H0 F0 F' D (k a s') → Q b H') : Post g W Rp p H0 F0 F σ Q r := by
  cases r with
  | ok a s => exact fun b F1 H1 A1 X1 e1 r1 => st a s b F1 H1 A1 X1 e1 r1 (PostS.mono h e1)
  | exc c n s => exact fun cls d F1 H1 A1 X1 e1 x => h cls d σ F1 H1 A1 X1 e1 x
  | stuck => exact h
end

/-! ### blocks -/
def mSeq (a b : SM) : SM := fun s => match a s with
  | .nx s' => b s'
  | r => r
def mNext : SM := fun s => .nx s
section
variable {g : Gl} {X : Cx} {W : WX} {st : Stmt} {rest : List Stmt} {m n : SM} {pos : Pos}
theorem dss_nil : DSs g X W [] mNext := ⟨_, pss_nil, fun p H0 F0 A F s σ H D Y hp => hp σ F H A Y (Ext.refl _)⟩
theorem dss_one (h : DS g X W st m) : DSs g X W [st] m := let ⟨_, a1, a2⟩ := h; ⟨_, pss_one a1, a2⟩
theorem sim_seq {t u : TS} (a2 : SimS g W t m) (b2 : SimS g W u n) : SimS g W (tSeq t u) (mSeq m n) := by
  intro p H0 F0 A F s σ H D Y hp
  refine a2 p H0 F0 A F s σ H _ Y ?_
  unfold mSeq at hp
  cases q : m s with
  | nx s1 =>
    rw [q] at hp
    exact fun σ' F1 H1 A1 Y1 e1 => b2 p H0 F0 A1 F1 s1 σ' H1 D Y1 (PostS.mono hp e1)
  | bk s1 => rw [q] at hp; exact hp
  | ct s1 => rw [q] at hp; exact hp
  | exc c n s1 => rw [q] at hp; exact hp
  | stuck => rw [q] at hp; exact hp
  | rt v s1 =>
    rw [q] at hp
    cases v with
    | val d => exact hp
    | own l => exact hp
    | no => exact hp
    | dct l => exact hp
theorem dss_cons (h : DS g X W st m) (hr : DSs g X W rest n) : DSs g X W (st :: rest) (mSeq m n) := by
  obtain ⟨t1, a1, a2⟩ := h
  obtain ⟨t2, b1, b2⟩ := hr
  exact ⟨_, pss_cons a1 b1, sim_seq a2 b2⟩
theorem ds_pass : DS g X W (.Pass pos) mNext := ⟨_, ps_pass, fun p H0 F0 A F s σ H D Y hp => hp σ F H A Y (Ext.refl _)⟩
def mBreak : SM := fun s => .bk s
def mCont : SM := fun s => .ct s
theorem ds_break : DS g X W (.Break pos) mBreak := ⟨_, ps_break, fun p H0 F0 A F s σ H D Y hp => hp σ F H A Y (Ext.refl _)⟩
theorem ds_cont : DS g X W (.Continue pos) mCont := ⟨_, ps_continue, fun p H0 F0 A F s σ H D Y hp => hp σ F H A Y (Ext.refl _)⟩

/-! ### storing -/
def mSet (i : Nat) (m : OM) : SM := fun s => (m s).bs fun r s' => .nx { s' with sl := s'.sl.set i r }
theorem PostS.o {p : Option Addr} {H0 F0 F : Hp} {σ : L2.St} {Dn : Ends} {Q : VK} {r : R SV} {k : SV → S → RS} (h : PostS g W p H0 F0 F Dn (r.bs k))
    (hv : ∀ d s' v F' H' A', Rel g p H0 F0 A' F' s' σ H' → Ext F F' → Rep g p F' v d → PostS g W p H0 F0 F' Dn (k (.val d) s') → Q v H')
    (ho : ∀ l s' a vs F' H' A', Rel g p H0 F0 A' F' s' σ H' → Ext F F' → Reps g p F' vs l → H' a = some (.lst vs) → F' a = none → H0 a = none → p ≠ some a → a ∉ A' → PostS g W p H0 F0 F' Dn (k (.own l) s') → Q (.ref a) H')
    (hd : ∀ l s' a kvs F' H' A', Rel g p H0 F0 A' F' s' σ H' → Ext F F' → Paired (fun (q : Key × V) (r : Key × D) => q.1 = r.1 ∧ Rep g p F' q.2 r.2) kvs l → H' a = some (.dK kvs) → F' a = none → H0 a = none → p ≠ some a → a ∉ A' → PostS g W p H0 F0 F' Dn (k (.dct l) s') → Q (.ref a) H')
    (hn : ∀ s', r ≠ .ok .no s') : PostO g W p H0 F0 F σ Q r := by
  cases r with
  | ok a s => cases a with
    | no => exact absurd rfl (hn s)
    | val d => exact fun v F1 H1 A1 X1 e1 r1 => hv d s v F1 H1 A1 X1 e1 r1 (PostS.mono h e1)
    | own l => exact fun a vs F1 H1 A1 X1 e1 r1 k1 k2 k3 k4 k5 => ho l s a vs F1 H1 A1 X1 e1 r1 k1 k2 k3 k4 k5 (PostS.mono h e1)
    | dct l => exact fun a vs F1 H1 A1 X1 e1 r1 k1 k2 k3 k4 k5 => hd l s a vs F1 H1 A1 X1 e1 r1 k1 k2 k3 k4 k5 (PostS.mono h e1)
  | exc c n s => exact fun cls d F1 H1 A1 X1 e1 x => h cls d σ F1 H1 A1 X1 e1 x
  | stuck => exact h
/-- a result is there -/
def good (m : OM) : OM := fun s => match m s with
  | .ok .no _ => .stuck
  | r => r
theorem good_ne {m : OM} {s s' : S} : good m s ≠ .ok .no s' := by
  unfold good
  split
  · intro h; cases h
  · rename_i h
    intro e
    exact h _ e
theorem sim_set {t : TE} {i : Nat} {mo : OM} (b2 : SimO g W t mo) : SimS g W (tAsg t (gName i)) (mSet i (good mo)) := by
  intro p H0 F0 A F s σ H D Y hp
  have b3 : PostO g W p H0 F0 F σ (fun x H1 => D.nx (σ.set i (some x)) H1) (good mo s) := by
    refine PostS.o hp ?_ ?_ ?_ (fun s' => good_ne)
    · intro d s' v F' H' A' Y' e' r' hp'
      obtain ⟨A1, m1, q1⟩ := Y'.sl.setVal r' i
      exact hp' _ F' H' A1 (Y'.slots (s' := { s' with sl := s'.sl.set i (.val d) }) rfl q1) (Ext.refl _)
    · intro l s' a vs F' H' A' Y' e' r' k1 k2 k3 k4 k5 hp'
      obtain ⟨A1, m1, q1⟩ := Y'.sl.setOwn k1 r' k2 k3 k4 k5 i
      exact hp' _ F' H' A1 (Y'.slots (s' := { s' with sl := s'.sl.set i (.own l) }) rfl q1) (Ext.refl _)
    · intro l s' a vs F' H' A' Y' e' r' k1 k2 k3 k4 k5 hp'
      obtain ⟨A1, m1, q1⟩ := Y'.sl.setDct k1 r' k2 k3 k4 k5 i
      exact hp' _ F' H' A1 (Y'.slots (s' := { s' with sl := s'.sl.set i (.dct l) }) rfl q1) (Ext.refl _)
  refine b2 p H0 F0 A F s σ H _ Y ?_
  unfold good at b3
  cases q : mo s with
  | ok a s1 => cases a with
    | no => rw [q] at b3; exact b3
    | val d => rw [q] at b3; exact b3
    | own l => rw [q] at b3; exact b3
    | dct l => rw [q] at b3; exact b3
  | exc c n s1 => rw [q] at b3; exact b3
  | stuck => rw [q] at b3; exact b3
theorem ds_set {i : Nat} {x : Str} {e : Expr} {mo : OM} {pos' : Pos} (hN : X.N.Nodup) (hi : X.N[i]? = some x) (hx : Loc X.env.scope x) (he : DO g X W e mo) (hs : swapsWith e (some (.Name x pos')) pos.line X.env = pure false := by rfl) (hf : X.fn x = true ∨ X.env.scope.names.lookup x = some .local := by first | exact .inl rfl | exact .inr rfl | assumption) :
    DS g X W (.Assign [.Name x pos'] e pos) (mSet i (good mo)) := by
  obtain ⟨t, a1, a2⟩ := he
  exact ⟨_, ps_set hN hi hx a1 hs hf, sim_set a2⟩

/-! ### targets -/
def SimG (g : Gl) (t : TG) (m : D → S → Option S) : Prop := ∀ (p : Option Addr) (H0 F0 : Hp) (A : List Addr) (F : Hp) (s : S) (σ : L2.St) (H : Hp) (v : V) (d : D) (Q : L2.St → Hp → Prop), Rel g p H0 F0 A F s σ H → Rep g p F v d →
  (∃ s', m d s = some s' ∧ ∀ σ' A', Rel g p H0 F0 A' F s' σ' H → Q σ' H) → t v σ H Q
def DG (g : Gl) (X : Cx) (e : Expr) (m : D → S → Option S) : Prop := ∃ t, PG X e t ∧ SimG g t m
def SimGs (g : Gl) (t : TGs) (m : List D → S → Option S) : Prop := ∀ (p : Option Addr) (H0 F0 : Hp) (A : List Addr) (F : Hp) (s : S) (σ : L2.St) (H : Hp) (vs : List V) (ds : List D) (Q : L2.St → Hp → Prop), Rel g p H0 F0 A F s σ H → Reps g p F vs ds →
  (∃ s', m ds s = some s' ∧ ∀ σ' A', Rel g p H0 F0 A' F s' σ' H → Q σ' H) → t vs σ H Q
def DGs (g : Gl) (X : Cx) (es : List Expr) (m : List D → S → Option S) : Prop := ∃ t, PGs X es t ∧ SimGs g t m
def gN (i : Nat) : D → S → Option S := fun d s => some { s with sl := s.sl.set i (.val d) }
def gsNil : List D → S → Option S := fun ds s => match ds with
  | [] => some s
  | _ => none
def gsCons (m : D → S → Option S) (ms : List D → S → Option S) : List D → S → Option S := fun ds s => match ds with
  | d :: r => (m d s).bind fun s1 => ms r s1
  | [] => none
/-- a tuple of n -/
def gT (n : Nat) (ms : List D → S → Option S) : D → S → Option S := fun d s => match d with
  | .tup l => if l.length = n then ms l s else none
  | _ => none
theorem dg_name {i : Nat} {x : Str} (hN : X.N.Nodup) (hi : X.N[i]? = some x) (hx : Loc X.env.scope x) (hf : X.fn x = true ∨ X.env.scope.names.lookup x = some .local := by first | exact .inl rfl | exact .inr rfl | assumption) : DG g X (.Name x pos) (gN i) := by
  refine ⟨_, pg_name hN hi hx hf, fun p H0 F0 A F s σ H v d Q Y r ⟨s', e, k⟩ => ?_⟩
  cases e
  obtain ⟨A1, m1, q1⟩ := Y.sl.setVal r i
  exact k _ A1 (Y.slots (s' := { s with sl := s.sl.set i (.val d) }) rfl q1)
theorem dgs_nil : DGs g X [] gsNil := by
  refine ⟨_, pgs_nil, fun p H0 F0 A F s σ H vs ds Q Y r ⟨s', e, k⟩ => ?_⟩
  cases r with
  | nil => cases e; exact ⟨rfl, k σ A Y⟩
  | cons _ _ => cases e
theorem dgs_cons {e : Expr} {es : List Expr} {m : D → S → Option S} {ms : List D → S → Option S} (h : DG g X e m) (hr : DGs g X es ms) (hs : (assignEach (e :: es) X.env).map (·.2) = assign e X.env :: (assignEach es X.env).map (·.2) := by rfl) : DGs g X (e :: es) (gsCons m ms) := by
  obtain ⟨t1, a1, a2⟩ := h
  obtain ⟨t2, b1, b2⟩ := hr
  refine ⟨_, pgs_cons a1 b1 hs, fun p H0 F0 A F s σ H vs ds Q Y r ⟨s', e, k⟩ => ?_⟩
  cases r with
  | nil => cases e
  | cons r1 rr =>
    obtain ⟨s1, e1, e2⟩ := Option.bind_eq_some_iff.mp e
    refine ⟨_, _, rfl, a2 p H0 F0 A F s σ H _ _ _ Y r1 ⟨s1, e1, fun σ' A' Y' => ?_⟩⟩
    exact b2 p H0 F0 A' F s1 σ' H _ _ _ Y' rr ⟨s', e2, k⟩
theorem dg_tup {es : List Expr} {k : Nat} {ms : List D → S → Option S} {n : Nat} (hc : X.calm = true) (h : DGs g X es ms) (hn : (assignEach es X.env).length = n := by rfl) (hst : (assignEach es X.env).findIdx? (·.1) = none := by rfl) (hK : X.K = g.K := by rfl) : DG g X (.Tuple es k pos) (gT n ms) := by
  obtain ⟨t1, a1, a2⟩ := h
  refine ⟨_, pg_tup hc a1 hn hst, fun p H0 F0 A F s σ H v d Q Y r ⟨s', e, k⟩ => ?_⟩
  unfold gT at e
  split at e
  · rename_i l
    split at e
    · rename_i hl
      cases r with
      | tup h1 r1 => exact ⟨_, _, rfl, by rw [hK]; exact ext_t Y.ext h1, by rw [r1.length]; exact hl, a2 p H0 F0 A F s σ H _ _ _ Y r1 ⟨s', e, k⟩⟩
    · cases e
  · cases e
def RS.of : Option S → RS
  | some s => .nx s
  | none => .stuck
def mAsg (m : EM) (gm : D → S → Option S) : SM := fun s => (m s).bs fun d s' => .of (gm d s')
theorem ds_asg {tg e : Expr} {m : EM} {gm : D → S → Option S} (he : DE g X W e m) (hg : DG g X tg gm) (hs : swapsWithSole [tg] e pos.line X.env = pure false := by rfl) (hw : swappedStores [tg] e X.env = pure none := by rfl)
    (h1 : (assignEach [tg] X.env).map (·.2) = [assign tg X.env] := by rfl) : DS g X W (.Assign [tg] e pos) (mAsg m gm) := by
  obtain ⟨t, a1, a2⟩ := he
  obtain ⟨u, b1, b2⟩ := hg
  refine ⟨_, ps_asg a1 b1 hs hw h1, fun p H0 F0 A F s σ H D Y hp => ?_⟩
  refine a2 p H0 F0 A F s σ H _ Y (PostS.bs hp fun d s1 v F1 H1 A1 Y1 e1 r1 hp1 => ?_)
  cases q : gm d s1 with
  | none => rw [q] at hp1; exact hp1.elim
  | some s2 =>
    rw [q] at hp1
    exact b2 p H0 F0 A1 F1 s1 σ H1 v d _ Y1 r1 ⟨s2, q, fun σ' A' Y' => hp1 σ' F1 H1 A' Y' (Ext.refl _)⟩
/-- a, b = x, y with plain names -/
def mPar (i j : Nat) (m : AM) : SM := fun s => (m s).bs fun ds s' => match ds with
  | [d, e] => .nx { s' with sl := (s'.sl.set i (.val d)).set j (.val e) }
  | _ => .stuck
theorem ds_par {i j : Nat} {x y : Str} {a b : Expr} {m : AM} {px py pt : Pos} {kt k2 pt2} (hc : X.calm = true) (hN : X.N.Nodup) (hi : X.N[i]? = some x) (hj : X.N[j]? = some y) (hij : i ≠ j)
    (hx : X.env.scope.names.lookup x = some .local) (hy : X.env.scope.names.lookup y = some .local) (ha : DA g X W [a, b] m)
    (hw : swappedStores [.Tuple [.Name x px, .Name y py] kt pt] (.Tuple [a, b] k2 pt2) X.env = pure (some [x, y]))
    (hs : swapsWithSole [.Tuple [.Name x px, .Name y py] kt pt] (.Tuple [a, b] k2 pt2) pos.line X.env = pure false := by rfl) :
    DS g X W (.Assign [.Tuple [.Name x px, .Name y py] kt pt] (.Tuple [a, b] k2 pt2) pos) (mPar i j m) := by
  obtain ⟨t, a1, a2⟩ := ha
  refine ⟨_, ps_par hc hN hi hj hij hx hy a1 hw hs, fun p H0 F0 A F s σ H D Y hp => ?_⟩
  refine a2 p H0 F0 A F s σ H _ Y (PostS.bs hp fun ds s1 vs F1 H1 A1 Y1 e1 r1 hp1 => ?_)
  cases ds with
  | nil => exact hp1.elim
  | cons d ds => cases ds with
    | nil => exact hp1.elim
    | cons e ds => cases ds with
      | cons _ _ => exact hp1.elim
      | nil =>
        obtain ⟨v, w, rfl, rv, rw'⟩ := r1.two
        obtain ⟨A2, _, q2⟩ := Y1.sl.setVal rv i
        obtain ⟨A3, _, q3⟩ := q2.setVal rw' j
        exact ⟨v, w, rfl, hp1 _ F1 H1 A3 (Y1.slots (s' := { s1 with sl := (s1.sl.set i (.val d)).set j (.val e) }) rfl q3) (Ext.refl _)⟩

/-! ### return, an expression alone, if, raise -/
def mRet (m : OM) : SM := fun s => (m s).bs fun r s' => .rt r s'
theorem ds_ret {e : Expr} {mo : OM} (he : DO g X W e mo) : DS g X W (.Return (some e) pos) (mRet mo) := by
  obtain ⟨t, a1, a2⟩ := he
  refine ⟨_, ps_ret a1, fun p H0 F0 A F s σ H D Y hp => ?_⟩
  refine a2 p H0 F0 A F s σ H _ Y ?_
  unfold mRet at hp
  cases q : mo s with
  | ok a s1 => cases a with
    | no => rw [q] at hp; exact hp
    | val d => rw [q] at hp; exact fun v F' H' A' Y' e' r' => hp v σ F' H' A' Y' e' r'
    | own l => rw [q] at hp; exact fun a vs F' H' A' Y' e' r' k1 k2 k3 k4 _ => hp a vs σ F' H' A' Y' e' r' k1 k2 k3 k4
    | dct l => rw [q] at hp; exact hp.elim
  | exc c n s1 => rw [q] at hp; exact fun cls d F' H' A' Y' e' x => hp cls d σ F' H' A' Y' e' x
  | stuck => rw [q] at hp; exact hp
def mDrop (m : EM) : SM := fun s => (m s).bs fun _ s' => .nx s'
theorem ds_expr {e : Expr} {m : EM} (he : DE g X W e m) (hs : swapsWith e none pos.line X.env = pure false := by rfl) : DS g X W (.Expr e pos) (mDrop m) := by
  obtain ⟨t, a1, a2⟩ := he
  refine ⟨_, ps_expr a1 hs, fun p H0 F0 A F s σ H D Y hp => ?_⟩
  exact a2 p H0 F0 A F s σ H _ Y (PostS.bs hp fun d s1 v F1 H1 A1 Y1 e1 r1 hp1 => hp1 σ F1 H1 A1 Y1 (Ext.refl _))
theorem ds_doc {x j pos pos'} : DS g X W (.Expr (.Constant (.str x) j pos) pos') mNext := ⟨_, ps_doc, fun p H0 F0 A F s σ H D Y hp => hp σ F H A Y (Ext.refl _)⟩
def mIfS (c : TM) (a b : SM) : SM := fun s => (c s).bs fun k s1 => if k = true then a s1 else b s1
theorem ds_if {c : Expr} {a b : List Stmt} {mc : TM} (hc : DT g X W c mc) (ha : DSs g X W a m) (hb : DSs g X W b n) : DS g X W (.If c a b pos) (mIfS mc m n) := by
  obtain ⟨t0, c1, c2⟩ := hc
  obtain ⟨t1, a1, a2⟩ := ha
  obtain ⟨t2, b1, b2⟩ := hb
  refine ⟨_, ps_if c1 a1 b1, fun p H0 F0 A F s σ H D Y hp => c2 p H0 F0 A F s σ H _ Y (PostS.bs hp fun k s1 k' F1 H1 A1 Y1 e1 r1 hp1 => ?_)⟩
  cases r1
  cases k with
  | true => exact a2 p H0 F0 A1 F1 s1 σ H1 D Y1 hp1
  | false => exact b2 p H0 F0 A1 F1 s1 σ H1 D Y1 hp1
def mRaise (c : String) : SM := fun s => .exc c none s
/-- raise C('..') -/
theorem ds_raise {e : Expr} {c : String} {C : Addr} (hc : X.calm = true) (tk : Takes X W) (h : PMk X e (fun _ H Q => Q (.ref C) none H)) (hC : g.mg (Str.ofString c) = some (.ref C)) : DS g X W (.Raise (some e) none pos) (mRaise c) :=
  ⟨_, ps_raise hc tk h, fun p H0 F0 A F s σ H D Y hp => hp (.ref C) none σ F H A Y (Ext.refl _) ⟨C, hC, rfl, fun _ z => by cases z⟩⟩

/-! ### while -/
def mWhile (c : TM) (b : SM) : Nat → SM
  | 0, _ => .stuck
  | n + 1, s => (c s).bs fun k s1 => if k = true then (match b s1 with
      | .nx s2 => mWhile c b n s2
      | .ct s2 => mWhile c b n s2
      | .bk s2 => .nx s2
      | r => r) else .nx s1
theorem ds_while {c : Expr} {body : List Stmt} {mc : TM} (fuel : Nat) (hp : PassesOwn (model X.prog X.w) X.A X.env X.xe) (hc : DT g X W c mc) (hb : DSs g X W body m) : DS g X W (.While c body [] pos) (mWhile mc m fuel) := by
  obtain ⟨t0, c1, c2⟩ := hc
  obtain ⟨t1, a1, a2⟩ := hb
  refine ⟨_, ps_while hp c1 a1, fun p H0 F0 A F s σ H D Y hp => ?_⟩
  refine ⟨fun n σ H => ∃ F1 A1 s1, Rel g p H0 F0 A1 F1 s1 σ H ∧ Ext F F1 ∧ PostS g W p H0 F0 F1 D (mWhile mc m n s1), ⟨fuel, F, A, s, Y, Ext.refl _, hp⟩, ?_⟩
  rintro n σ1 H1 ⟨F1, A1, s1, Y1, e1, hp1⟩
  cases n with
  | zero => exact hp1.elim
  | succ n =>
    refine c2 p H0 F0 A1 F1 s1 σ1 H1 _ Y1 (PostS.bs hp1 fun k s2 k' F2 H2 A2 Y2 e2 r2 hp2 => ?_)
    cases r2
    cases k with
    | false => exact hp2 σ1 F2 H2 A2 Y2 (Ext.refl _)
    | true =>
      have hp2 : PostS g W p H0 F0 F2 D (match m s2 with | .nx s2 => mWhile mc m n s2 | .ct s2 => mWhile mc m n s2 | .bk s2 => .nx s2 | r => r) := hp2
      refine ⟨fun σ3 H3 => ∃ F3 A3 s3, Rel g p H0 F0 A3 F3 s3 σ3 H3 ∧ Ext F F3 ∧ PostS g W p H0 F0 F3 D (mWhile mc m n s3), fun σ3 H3 h => ⟨n, Nat.lt_succ_self n, h⟩, ?_⟩
      refine a2 p H0 F0 A2 F2 s2 σ1 H2 _ Y2 ?_
      cases q : m s2 with
      | nx s3 => rw [q] at hp2; exact fun σ3 F3 H3 A3 Y3 e3 => ⟨F3, A3, s3, Y3, (e1.trans e2).trans e3, PostS.mono hp2 e3⟩
      | ct s3 => rw [q] at hp2; exact fun σ3 F3 H3 A3 Y3 e3 => ⟨F3, A3, s3, Y3, (e1.trans e2).trans e3, PostS.mono hp2 e3⟩
      | bk s3 => rw [q] at hp2; exact hp2
      | exc c n s1 => rw [q] at hp2; exact hp2
      | stuck => rw [q] at hp2; exact hp2
      | rt v s1 =>
        rw [q] at hp2
        cases v with
        | val d => exact hp2
        | own l => exact hp2
        | no => exact hp2
        | dct l => exact hp2

/-! ### for -/
/-- what is walked: the items, whatever else happens to what is not frozen -/
structure ItOk (g : Gl) (p : Option Addr) (F1 : Hp) (items : List D) (J : It) : Prop where
  go : ∀ i F H, Ext F1 F → Ext F H → i < items.length → J.go i H
  yld : ∀ i F H x H', Ext F1 F → Ext F H → g.T H → J.yld i H x H' → i < items.length → ∃ d F', items[i]? = some d ∧ Gr g none F H F' H' ∧ Rep g p F' x d
  stop : ∀ i F H, Ext F1 F → Ext F H → items.length ≤ i → J.stop i H
abbrev RepI (g : Gl) : RPT (List D) It := fun p F J items => ItOk g p F items J
def DI (g : Gl) (X : Cx) (W : WX) (tg iter : Expr) (m : AM) : Prop := ∃ wi, PI X tg iter wi ∧ Sim g W (RepI g) wi m
def forLoop (gm : D → S → Option S) (b : SM) : List D → SM
  | [], s => .nx s
  | d :: r, s => match gm d s with
    | none => .stuck
    | some s1 => match b s1 with
      | .nx s2 => forLoop gm b r s2
      | .ct s2 => forLoop gm b r s2
      | .bk s2 => .nx s2
      | r => r
def mFor (it : AM) (gm : D → S → Option S) (b : SM) : SM := fun s => (it s).bs fun items s1 => forLoop gm b items s1
theorem ds_for {tg iter : Expr} {body : List Stmt} {mi : AM} {gm : D → S → Option S} (hp : PassesOwn (model X.prog X.w) X.A X.env X.xe) (hc : X.calm = true) (hi : DI g X W tg iter mi) (hg : DG g X tg gm) (hb : DSs g X W body m)
    (hs : ∀ x, foldedSetIterable iter X.env x = pure x := by intro _; rfl) : DS g X W (.For tg iter body [] pos) (mFor mi gm m) := by
  obtain ⟨wi, i1, i2⟩ := hi
  obtain ⟨tg', g1, g2⟩ := hg
  obtain ⟨t1, a1, a2⟩ := hb
  refine ⟨_, ps_for hp hc i1 g1 a1 hs, fun p H0 F0 A F s σ H D Y hp => ?_⟩
  refine i2 p H0 F0 A F s σ H _ Y (PostS.bs hp fun items s1 J F1 H1 A1 Y1 e1 r1 hp1 => ?_)
  refine ⟨fun i n σ' H' => n = items.length - i ∧ i ≤ items.length ∧ ∃ F2 A2 s2, Rel g p H0 F0 A2 F2 s2 σ' H' ∧ Ext F1 F2 ∧ PostS g W p H0 F0 F2 D (forLoop gm m (items.drop i) s2), ⟨items.length, by simp, Nat.zero_le _, F1, A1, s1, Y1, Ext.refl _, by simpa using hp1⟩, ?_⟩
  rintro i n σ2 H2 ⟨rfl, hi, F2, A2, s2, Y2, e2, hp2⟩
  by_cases hlt : i < items.length
  · have ed : items.drop i = items[i] :: items.drop (i + 1) := List.drop_eq_getElem_cons hlt
    rw [ed] at hp2
    refine .inr ⟨r1.go i F2 H2 e2 Y2.ext hlt, fun σ' H' => ∃ F3 A3 s3, Rel g p H0 F0 A3 F3 s3 σ' H' ∧ Ext F1 F3 ∧ PostS g W p H0 F0 F3 D (forLoop gm m (items.drop (i + 1)) s3), fun σ' H' h => ⟨items.length - (i + 1), by omega, rfl, hlt, h⟩, fun x H' hy => ?_⟩
    obtain ⟨d, F3, hd, G3, r3⟩ := r1.yld i F2 H2 x H' e2 Y2.ext Y2.tb hy hlt
    have ee : d = items[i] := by rw [List.getElem?_eq_getElem hlt] at hd; exact (Option.some.inj hd).symm
    subst ee
    have Y3 := Y2.grow G3
    unfold forLoop at hp2
    cases qg : gm items[i] s2 with
    | none => rw [qg] at hp2; exact hp2.elim
    | some s3 =>
      rw [qg] at hp2
      refine g2 p H0 F0 A2 F3 s2 σ2 H' x _ _ Y3 r3 ⟨s3, qg, fun σ4 A4 Y4 => ?_⟩
      refine a2 p H0 F0 A4 F3 s3 σ4 H' _ Y4 ?_
      have e3 : Ext F1 F3 := e2.trans G3.ff
      have hp3 : PostS g W p H0 F0 F3 D (match m s3 with | .nx s2 => forLoop gm m (items.drop (i + 1)) s2 | .ct s2 => forLoop gm m (items.drop (i + 1)) s2 | .bk s2 => .nx s2 | r => r) := PostS.mono hp2 G3.ff
      cases q : m s3 with
      | nx s5 => rw [q] at hp3; exact fun σ5 F5 H5 A5 Y5 e5 => ⟨F5, A5, s5, Y5, e3.trans e5, PostS.mono hp3 e5⟩
      | ct s5 => rw [q] at hp3; exact fun σ5 F5 H5 A5 Y5 e5 => ⟨F5, A5, s5, Y5, e3.trans e5, PostS.mono hp3 e5⟩
      | bk s5 => rw [q] at hp3; exact hp3
      | exc c n s5 => rw [q] at hp3; exact hp3
      | stuck => rw [q] at hp3; exact hp3
      | rt v s5 =>
        rw [q] at hp3
        cases v with
        | val d => exact hp3
        | own l => exact hp3
        | no => exact hp3
        | dct l => exact hp3
  · have ei : i = items.length := by omega
    subst ei
    rw [List.drop_length] at hp2
    exact .inl ⟨r1.stop _ F2 H2 e2 Y2.ext (Nat.le_refl _), hp2 σ2 F2 H2 A2 Y2 (Ext.refl _)⟩
/-- what lists, tuples, ranges, texts give -/
theorem it_list {p : Option Addr} {F1 : Hp} {a : Addr} {vs : List V} {l : List D} {K : PySem.W.Frag} (h : SqL K F1 a vs) (r : Reps g p F1 vs l) : ItOk g p F1 l (Itl K a) where
  go := fun i F H e1 e2 hi => by
    obtain ⟨v, hv, _⟩ := r.get (i := i) (List.getElem?_eq_getElem hi)
    exact ⟨vs, v, ext_l (e1.trans e2) h, hv⟩
  yld := fun i F H x H' e1 e2 tb hy hi => by
    obtain ⟨rfl, hy⟩ := hy
    obtain ⟨v, hv, rv⟩ := r.get (i := i) (List.getElem?_eq_getElem hi)
    have ex := hy vs (ext_l (e1.trans e2) h)
    rw [hv] at ex; cases ex
    exact ⟨_, F, List.getElem?_eq_getElem hi, Gr.refl e2 tb, rv.mono e1⟩
  stop := fun i F H e1 e2 hi => ⟨vs, ext_l (e1.trans e2) h, by rw [r.length]; exact hi⟩
theorem it_tup {p : Option Addr} {F1 : Hp} {a : Addr} {vs : List V} {l : List D} {K : PySem.W.Frag} (h : SqT K F1 a vs) (r : Reps g p F1 vs l) : ItOk g p F1 l (Itt K a) where
  go := fun i F H e1 e2 hi => by
    obtain ⟨v, hv, _⟩ := r.get (i := i) (List.getElem?_eq_getElem hi)
    exact ⟨vs, v, ext_t (e1.trans e2) h, hv⟩
  yld := fun i F H x H' e1 e2 tb hy hi => by
    obtain ⟨rfl, hy⟩ := hy
    obtain ⟨v, hv, rv⟩ := r.get (i := i) (List.getElem?_eq_getElem hi)
    have ex := hy vs (ext_t (e1.trans e2) h)
    rw [hv] at ex; cases ex
    exact ⟨_, F, List.getElem?_eq_getElem hi, Gr.refl e2 tb, rv.mono e1⟩
  stop := fun i F H e1 e2 hi => ⟨vs, ext_t (e1.trans e2) h, by rw [r.length]; exact hi⟩
def dInts (lo : Int) (n : Nat) : List D := (List.range n).map fun (i : Nat) => D.int (lo + (i : Int))
theorem it_range {p : Option Addr} {F1 : Hp} {lo : Int} {n : Nat} : ItOk g p F1 (dInts lo n) (Itr lo n) where
  go := fun i F H e1 e2 hi => by unfold dInts at hi; rw [List.length_map, List.length_range] at hi; exact hi
  yld := fun i F H x H' e1 e2 tb hy hi => by
    obtain ⟨rfl, rfl⟩ := hy
    have hi' : i < n := by unfold dInts at hi; rw [List.length_map, List.length_range] at hi; exact hi
    refine ⟨.int (lo + (i : Int)), F, ?_, Gr.refl e2 tb, .int _⟩
    show ((List.range n).map fun (i : Nat) => D.int (lo + (i : Int)))[i]? = _
    rw [List.getElem?_map, List.getElem?_range hi']
    rfl
  stop := fun i F H e1 e2 hi => by unfold dInts at hi; rw [List.length_map, List.length_range] at hi; exact hi
def signs (s : List Nat) : List D := s.map fun c => .str [c]
/-- the items of a list, of a tuple -/
def itL (m : EM) : AM := fun s => (m s).bind fun d s1 => match d with
  | .lst l => .ok l s1
  | _ => .stuck
def itT (m : EM) : AM := fun s => (m s).bind fun d s1 => match d with
  | .tup l => .ok l s1
  | _ => .stuck
def itS (m : EM) : AM := fun s => (m s).bind fun d s1 => match d with
  | .str l => .ok (signs l) s1
  | _ => .stuck
theorem di_list {tg e : Expr} {me : EM} (h : DE g X W e me) (hK : X.K = g.K := by rfl) : DI g X W tg e (itL me) := by
  obtain ⟨t, a1, a2⟩ := h
  refine ⟨_, pi_list a1, fun p H0 F0 A F s σ H Q Y hp => a2 p H0 F0 A F s σ H _ Y (hp.bind fun d s1 v F1 H1 A1 Y1 e1 r1 hp1 => ?_)⟩
  cases d with
  | lst l => cases r1 with
    | lst h1 r1 => exact ⟨_, rfl, ⟨_, ext_l Y1.ext (.inl h1)⟩, hp1 _ F1 H1 A1 Y1 (Ext.refl _) (it_list (.inl h1) r1)⟩
  | _ => exact hp1.elim
theorem di_tup {tg e : Expr} {me : EM} (h : DE g X W e me) (hK : X.K = g.K := by rfl) : DI g X W tg e (itT me) := by
  obtain ⟨t, a1, a2⟩ := h
  refine ⟨_, pi_tup a1, fun p H0 F0 A F s σ H Q Y hp => a2 p H0 F0 A F s σ H _ Y (hp.bind fun d s1 v F1 H1 A1 Y1 e1 r1 hp1 => ?_)⟩
  cases d with
  | tup l => cases r1 with
    | tup h1 r1 => exact ⟨_, rfl, ⟨_, by rw [hK]; exact ext_t Y1.ext h1⟩, hp1 _ F1 H1 A1 Y1 (Ext.refl _) (it_tup (by rw [hK]; exact h1) r1)⟩
  | _ => exact hp1.elim
def itR1 (m : AM) : AM := fun s => (m s).bind fun ds s1 => match ds with
  | [.int j] => if -(2 ^ 62) ≤ j ∧ j < 2 ^ 62 then .ok (dInts 0 j.toNat) s1 else .stuck
  | _ => .stuck
def itR2 (m : AM) : AM := fun s => (m s).bind fun ds s1 => match ds with
  | [.int i, .int j] => if -(2 ^ 62) ≤ i ∧ i < 2 ^ 62 ∧ -(2 ^ 62) ≤ j ∧ j < 2 ^ 62 then .ok (dInts i (j - i).toNat) s1 else .stuck
  | _ => .stuck
theorem di_range1 {tg a : Expr} {ma : AM} {p' pos : Pos} (hg : L2.Gl X "range") (hm : X.mg "range" = none) (ha : DA g X W [a] ma) (hs : starEach [a] X.env = [(false, eval a X.env)] := by rfl) : DI g X W tg (.Call (.Name "range" p') [a] [] pos) (itR1 ma) := by
  obtain ⟨t, a1, a2⟩ := ha
  refine ⟨_, pi_range1 hg hm a1 hs, fun p H0 F0 A F s σ H Q Y hp => a2 p H0 F0 A F s σ H _ Y (hp.bind fun ds s1 vs F1 H1 A1 Y1 e1 r1 hp1 => ?_)⟩
  split at hp1
  · rename_i j
    obtain ⟨v, rfl, rv⟩ := r1.one
    cases rv
    split at hp1
    · rename_i hj
      exact ⟨_, rfl, hj.1, hj.2, hp1 _ F1 H1 A1 Y1 (Ext.refl _) it_range⟩
    · exact hp1.elim
  · exact hp1.elim
theorem di_range2 {tg a b : Expr} {ma : AM} {p' pos : Pos} (hg : L2.Gl X "range") (hm : X.mg "range" = none) (ha : DA g X W [a, b] ma) (hs : starEach [a, b] X.env = [(false, eval a X.env), (false, eval b X.env)] := by rfl) (hs2 : starEach [b] X.env = [(false, eval b X.env)] := by rfl) : DI g X W tg (.Call (.Name "range" p') [a, b] [] pos) (itR2 ma) := by
  obtain ⟨t, a1, a2⟩ := ha
  refine ⟨_, pi_range2 hg hm a1 hs hs2, fun p H0 F0 A F s σ H Q Y hp => a2 p H0 F0 A F s σ H _ Y (hp.bind fun ds s1 vs F1 H1 A1 Y1 e1 r1 hp1 => ?_)⟩
  split at hp1
  · rename_i i j
    obtain ⟨v, w, rfl, rv, rw'⟩ := r1.two
    cases rv
    cases rw'
    split at hp1
    · rename_i hj
      exact ⟨_, _, rfl, hj, hp1 _ F1 H1 A1 Y1 (Ext.refl _) it_range⟩
    · exact hp1.elim
  · exact hp1.elim
end
end Pd

/-! Pd, part D: comprehensions, defs, calls. -/
namespace Pd
open PySem PySem.Spec PyProof.Rows L2

/-! ### an object that is being made, kept apart -/
section
variable {g : Gl} {p : Option Addr} {H0 F0 : Hp} {A : List Addr} {F : Hp} {s : S} {σ : L2.St} {H : Hp} {a : Addr} {o : HO}
theorem Sl.h0 {H0 H0' : Hp} {A : List Addr} {ss : List SV} {σ : L2.St} (x : Sl g p H0 F H A ss σ) (k : ∀ a ∈ A, H0' a = none) : Sl g p H0' F H A ss σ := by
  induction x with
  | nil => exact .nil
  | no _ ih => exact .no (ih k)
  | val r _ ih => exact .val r (ih k)
  | own h r f h0 np na _ ih => exact .own h r f (k _ List.mem_cons_self) np na (ih fun b hb => k b (List.mem_cons_of_mem _ hb))
  | dct h r f h0 np na _ ih => exact .dct h r f (k _ List.mem_cons_self) np na (ih fun b hb => k b (List.mem_cons_of_mem _ hb))
theorem Rel.protect (X : Rel g p H0 F0 A F s σ H) (h1 : H a = some o) (h3 : F a = none) (h4 : H0 a = none) (h6 : a ∉ A) : Rel g p (upd H0 a o) F0 A F s σ H where
  ext := X.ext
  ef0 := X.ef0
  fr := fun b u q => by
    have hb : b ≠ a := fun z => by rw [z, h3] at q; cases q
    rw [upd_ne hb]; exact X.fr b u q
  evo := fun b u q np no => by
    by_cases hb : b = a
    · subst hb; rw [upd_same] at q; rw [h1]; exact q
    · rw [upd_ne hb] at q; exact X.evo b u q np no
  al := fun b q => by
    have hb : b ≠ a := fun z => by rw [z, h1] at q; cases q
    rw [upd_ne hb]; exact X.al b q
  pl := X.pl
  tb := X.tb
  sl := X.sl.h0 fun b hb => by rw [upd_ne (fun z => h6 (by rw [← z]; exact hb))]; exact (X.sl.facts b hb).1
theorem Rel.unprotect (X : Rel g p (upd H0 a o) F0 A F s σ H) (f0 : F0 a = none) (np : p ≠ some a) (no : nt o) (h4 : H0 a = none) : Rel g p H0 F0 A F s σ H ∧ H a = some o ∧ F a = none ∧ a ∉ A := by
  have e1 : H a = some o := X.evo a o upd_same np no
  have e2 : F a = none := by
    cases q : F a with
    | none => rfl
    | some u =>
      rcases X.fr a u q with z | z
      · rw [f0] at z; cases z
      · rw [upd_same] at z; cases z
  have e3 : a ∉ A := fun hm => by
    have z := (X.sl.facts a hm).1
    rw [upd_same] at z; cases z
  refine ⟨⟨X.ext, X.ef0, fun b u q => ?_, fun b u q np' no' => ?_, fun b q => ?_, X.pl, X.tb, X.sl.h0 fun b hb => ?_⟩, e1, e2, e3⟩
  · rcases X.fr b u q with z | z
    · exact .inl z
    · by_cases hb : b = a
      · subst hb; rw [upd_same] at z; cases z
      · rw [upd_ne hb] at z; exact .inr z
  · exact X.evo b u (by rw [upd_ne (fun z => by rw [z, h4] at q; cases q)]; exact q) np' no'
  · have z := X.al b q
    by_cases hb : b = a
    · rw [hb]; exact h4
    · rw [upd_ne hb] at z; exact z
  · have z := (X.sl.facts b hb).1
    have hb' : b ≠ a := fun y => e3 (by rw [← y]; exact hb)
    rw [upd_ne hb'] at z; exact z
end

/-! ### list comprehensions -/
def wipeS (ss : List SV) : List Nat → List SV
  | [] => ss
  | v :: vs => (wipeS ss vs).set v .no
def keepV : Option SV → SV
  | some (.val d) => .val d
  | _ => .no
def backS (ss old : List SV) : List Nat → List SV
  | [] => ss
  | v :: vs => backS (ss.set v (keepV old[v]?)) old vs
def lcLoop (vs : List Nat) (gm : D → S → Option S) (t : TM) (e : EM) : List D → List D → S → R (List D)
  | [], acc, s => .ok acc s
  | d :: r, acc, s => match gm d s with
    | none => .stuck
    | some s1 => match t s1 with
      | .ok true s2 => (match e s2 with
        | .ok x s3 => if acc.length < sizeLine then lcLoop vs gm t e r (acc ++ [x]) { s3 with sl := wipeS s3.sl vs } else .stuck
        | _ => .stuck)
      | .ok false s2 => lcLoop vs gm t e r acc { s2 with sl := wipeS s2.sl vs }
      | _ => .stuck
def oLc (vs : List Nat) (it : AM) (gm : D → S → Option S) (t : TM) (e : EM) : OM := fun s => (it s).bind fun items s1 =>
  (lcLoop vs gm t e items [] { s1 with sl := wipeS s1.sl vs }).bind fun acc s2 => .ok (.own acc) { s2 with sl := backS s2.sl s1.sl vs }
def tYesM : TM := fun s => .ok true s
abbrev WF : WX := fun _ _ _ _ => False
section
variable {g : Gl} {p : Option Addr} {H0 F0 : Hp} {A : List Addr} {F : Hp} {s : S} {σ : L2.St} {H : Hp}
theorem Sl.wipe {ss : List SV} (x : Sl g p H0 F H A ss σ) : ∀ (vs : List Nat), ∃ A', (∀ b ∈ A', b ∈ A) ∧ Sl g p H0 F H A' (wipeS ss vs) (L2.wipe σ vs)
  | [] => ⟨A, fun _ h => h, x⟩
  | v :: vs => by
    obtain ⟨A1, m1, q1⟩ := Sl.wipe x vs
    obtain ⟨A2, m2, q2⟩ := q1.setNo none v
    exact ⟨A2, fun b hb => m1 b (m2 b hb), q2⟩
theorem wipe_get {σ : L2.St} {i : Nat} : ∀ {vs : List Nat}, i ∉ vs → (L2.wipe σ vs)[i]? = σ[i]?
  | [], _ => rfl
  | v :: vs, h => by
    rw [List.mem_cons, not_or] at h
    show ((L2.wipe σ vs).set v none)[i]? = _
    rw [List.getElem?_set_ne (fun z => h.1 z.symm)]
    exact wipe_get h.2
theorem wipe_set (σ : L2.St) (v : Nat) {vs : List Nat} (h : v ∉ vs) : (L2.wipe σ (v :: vs)).set v (σ.getD v none) = L2.wipe σ vs := by
  show ((L2.wipe σ vs).set v none).set v _ = _
  rw [List.set_set]
  apply List.ext_getElem?
  intro j
  by_cases hj : v = j
  · subst hj
    by_cases hl : v < (L2.wipe σ vs).length
    · rw [List.getElem?_set_self hl, wipe_get h, List.getD_eq_getElem?_getD]
      rw [L2.wipe_length] at hl
      rw [List.getElem?_eq_getElem hl]
      rfl
    · rw [List.getElem?_eq_none (by simpa using hl), List.getElem?_eq_none (by simpa using hl)]
  · rw [List.getElem?_set_ne hj]
theorem Sl.back {H' : Hp} {F1 : Hp} {old : List SV} {A1 : List Addr} (e : Ext F1 F) (o : Sl g p H0 F1 H' A1 old σ) : ∀ (vs : List Nat) (ss : List SV) (A : List Addr), vs.Nodup → Sl g p H0 F H A ss (L2.wipe σ vs) → ∃ A', (∀ b ∈ A', b ∈ A) ∧ Sl g p H0 F H A' (backS ss old vs) σ
  | [], ss, A, _, x => ⟨A, fun _ h => h, x⟩
  | v :: vs, ss, A, nd, x => by
    obtain ⟨nv, nd⟩ := List.nodup_cons.mp nd
    have step : ∃ A', (∀ b ∈ A', b ∈ A) ∧ Sl g p H0 F H A' (ss.set v (keepV old[v]?)) (L2.wipe σ vs) := by
      cases q : old[v]? with
      | none =>
        obtain ⟨A', m, y⟩ := x.setNo (σ.getD v none) v
        rw [wipe_set σ v nv] at y
        exact ⟨A', m, y⟩
      | some sv =>
        cases sv with
        | val d =>
          obtain ⟨w, h1, r⟩ := o.getVal q
          obtain ⟨A', m, y⟩ := x.setVal (r.mono e) v
          have ew : σ.getD v none = some w := by rw [List.getD_eq_getElem?_getD, h1]; rfl
          rw [← ew, wipe_set σ v nv] at y
          exact ⟨A', m, y⟩
        | no =>
          obtain ⟨A', m, y⟩ := x.setNo (σ.getD v none) v
          rw [wipe_set σ v nv] at y
          exact ⟨A', m, y⟩
        | own l =>
          obtain ⟨A', m, y⟩ := x.setNo (σ.getD v none) v
          rw [wipe_set σ v nv] at y
          exact ⟨A', m, y⟩
        | dct l =>
          obtain ⟨A', m, y⟩ := x.setNo (σ.getD v none) v
          rw [wipe_set σ v nv] at y
          exact ⟨A', m, y⟩
    obtain ⟨A', m, y⟩ := step
    obtain ⟨A'', m', y'⟩ := Sl.back e o vs _ A' nd y
    exact ⟨A'', fun b hb => m b (m' b hb), y'⟩
/-- the slots behind a turn: the block's own are forgotten -/
theorem Sl.rewipe {ss : List SV} {σ2 : L2.St} {vs : List Nat} (x : Sl g p H0 F H A ss σ2) (hw : L2.wipe σ2 vs = L2.wipe σ vs) : ∃ A', (∀ b ∈ A', b ∈ A) ∧ Sl g p H0 F H A' (wipeS ss vs) (L2.wipe σ vs) := by
  obtain ⟨A', m, y⟩ := x.wipe vs
  rw [hw] at y
  exact ⟨A', m, y⟩
end
/-- the target's own stores touch the block's names alone -/
def SimGw (g : Gl) (vs : List Nat) (t : TG) (m : D → S → Option S) : Prop := ∀ (p : Option Addr) (H0 F0 : Hp) (A : List Addr) (F : Hp) (s : S) (σ : L2.St) (H : Hp) (v : V) (d : D) (Q : L2.St → Hp → Prop), Rel g p H0 F0 A F s σ H → Rep g p F v d →
  (∃ s', m d s = some s' ∧ ∀ σ' A', L2.wipe σ' vs = L2.wipe σ vs → Rel g p H0 F0 A' F s' σ' H → Q σ' H) → t v σ H Q
def DGw (g : Gl) (X : Cx) (vs : List Nat) (e : Expr) (t : TG) (m : D → S → Option S) : Prop := PG X e t ∧ SimGw g vs t m
def SimGsw (g : Gl) (vs : List Nat) (t : TGs) (m : List D → S → Option S) : Prop := ∀ (p : Option Addr) (H0 F0 : Hp) (A : List Addr) (F : Hp) (s : S) (σ : L2.St) (H : Hp) (ws : List V) (ds : List D) (Q : L2.St → Hp → Prop), Rel g p H0 F0 A F s σ H → Reps g p F ws ds →
  (∃ s', m ds s = some s' ∧ ∀ σ' A', L2.wipe σ' vs = L2.wipe σ vs → Rel g p H0 F0 A' F s' σ' H → Q σ' H) → t ws σ H Q
theorem wipe_hit {σ : L2.St} {i : Nat} {x : Option V} : ∀ {vs : List Nat}, i ∈ vs → L2.wipe (σ.set i x) vs = L2.wipe σ vs
  | [], h => by simp at h
  | v :: vs, h => by
    by_cases hi : i ∈ vs
    · show (L2.wipe (σ.set i x) vs).set v none = (L2.wipe σ vs).set v none
      rw [wipe_hit hi]
    · have e : i = v := (List.mem_cons.mp h).elim id fun z => absurd z hi
      subst e
      have key : ∀ (vs : List Nat), i ∉ vs → L2.wipe (σ.set i x) vs = (L2.wipe σ vs).set i x := by
        intro vs
        induction vs with
        | nil => intro _; rfl
        | cons w ws ih =>
          intro hn
          rw [List.mem_cons, not_or] at hn
          show (L2.wipe (σ.set i x) ws).set w none = ((L2.wipe σ ws).set w none).set i x
          rw [ih hn.2, List.set_comm _ _ hn.1]
      show (L2.wipe (σ.set i x) vs).set i none = (L2.wipe σ vs).set i none
      rw [key vs hi, List.set_set]
theorem wipe_sub {σ : L2.St} {vs : List Nat} : ∀ {us : List Nat}, (∀ u ∈ us, u ∈ vs) → L2.wipe (L2.wipe σ us) vs = L2.wipe σ vs
  | [], _ => rfl
  | u :: us, h => by
    show L2.wipe ((L2.wipe σ us).set u none) vs = _
    rw [wipe_hit (h u List.mem_cons_self)]
    exact wipe_sub fun x hx => h x (List.mem_cons_of_mem _ hx)
theorem wipe_wipe (σ : L2.St) (vs : List Nat) : L2.wipe (L2.wipe σ vs) vs = L2.wipe σ vs := wipe_sub fun _ h => h
theorem simGw_name {g : Gl} {vs : List Nat} {i : Nat} (h : i ∈ vs) : SimGw g vs (gName i) (gN i) := by
  intro p H0 F0 A F s σ H v d Q Y r ⟨s', e, k⟩
  cases e
  obtain ⟨A1, m1, q1⟩ := Y.sl.setVal r i
  exact k _ A1 (wipe_hit h) (Y.slots (s' := { s with sl := s.sl.set i (.val d) }) rfl q1)
theorem simGsw_nil {g : Gl} {vs : List Nat} : SimGsw g vs gNil gsNil := by
  intro p H0 F0 A F s σ H ws ds Q Y r ⟨s', e, k⟩
  cases r with
  | nil => cases e; exact ⟨rfl, k σ A rfl Y⟩
  | cons _ _ => cases e
theorem simGsw_cons {g : Gl} {vs : List Nat} {t : TG} {u : TGs} {m : D → S → Option S} {ms : List D → S → Option S} (h : SimGw g vs t m) (hr : SimGsw g vs u ms) : SimGsw g vs (gCons t u) (gsCons m ms) := by
  intro p H0 F0 A F s σ H ws ds Q Y r ⟨s', e, k⟩
  cases r with
  | nil => cases e
  | cons r1 rr =>
    obtain ⟨s1, e1, e2⟩ := Option.bind_eq_some_iff.mp e
    refine ⟨_, _, rfl, h p H0 F0 A F s σ H _ _ _ Y r1 ⟨s1, e1, fun σ' A' w1 Y' => ?_⟩⟩
    exact hr p H0 F0 A' F s1 σ' H _ _ _ Y' rr ⟨s', e2, fun σ2 A2 w2 Y2 => k σ2 A2 (w2.trans w1) Y2⟩
theorem simGw_tup {g : Gl} {vs : List Nat} {K : PySem.W.Frag} {t : TGs} {n : Nat} {ms : List D → S → Option S} (h : SimGsw g vs t ms) (hK : K = g.K) : SimGw g vs (gTup K n t) (gT n ms) := by
  intro p H0 F0 A F s σ H v d Q Y r ⟨s', e, k⟩
  unfold gT at e
  split at e
  · rename_i l
    split at e
    · rename_i hl
      cases r with
      | tup h1 r1 => exact ⟨_, _, rfl, by rw [hK]; exact ext_t Y.ext h1, by rw [r1.length]; exact hl, h p H0 F0 A F s σ H _ _ _ Y r1 ⟨s', e, k⟩⟩
    · cases e
  · cases e
/-- THE comprehension's reading -/
theorem sim_lc {g : Gl} {W : WX} {vs : List Nat} {wi : TI} {gt : TG} {tt : TT} {te : TE} {mi : AM} {gm : D → S → Option S} {mt : TM} {me : EM} (nd : vs.Nodup)
    (i2 : Sim g W (RepI g) wi mi) (g2 : SimGw g vs gt gm) (t2 : Sim g WF RepB tt mt) (e2 : Sim g WF (RepV g) te me) : SimO g W (tLc wi gt tt te vs) (oLc vs mi gm mt me) := by
  intro p H0 F0 A F s σ H Q Y hp
  refine i2 p H0 F0 A F s σ H _ Y (PostO.bind hp fun items s1 J F1 H1 A1 Y1 e1 r1 hp1 => ?_)
  intro D0 nD
  obtain ⟨k1, k2, k3, k4⟩ := Y1.fresh nD
  have f0 : F0 D0 = none := by
    cases q : F0 D0 with
    | none => rfl
    | some o => rw [Y1.ef0 _ _ q] at k1; cases k1
  have Y2 := Y1.grow (Gr.lay (o := HO.lst []) Y1.ext Y1.tb nD)
  obtain ⟨Aw, mw, qw⟩ := Y2.sl.wipe vs
  have Yw : Rel g p H0 F0 Aw F1 { s1 with sl := wipeS s1.sl vs } (L2.wipe σ vs) (upd H1 D0 (.lst [])) := Y2.slots (s' := { s1 with sl := wipeS s1.sl vs }) rfl qw
  -- what is held at each turn
  let P (i : Nat) (H' : Hp) : Prop := ∃ F3 A3 s3 accV acc, Rel g p H0 F0 A3 F3 s3 (L2.wipe σ vs) H' ∧ Ext F1 F3 ∧ H' D0 = some (.lst accV) ∧ Reps g p F3 accV acc ∧ F3 D0 = none ∧ D0 ∉ A3 ∧
    PostO g W p H0 F0 F3 σ Q ((lcLoop vs gm mt me (items.drop i) acc s3).bind fun acc s2 => .ok (.own acc) { s2 with sl := backS s2.sl s1.sl vs })
  refine ⟨fun i n H' => n = items.length - i ∧ i ≤ items.length ∧ P i H', ⟨items.length, by simp, Nat.zero_le _, F1, Aw, _, [], [], Yw, Ext.refl _, upd_same, .nil, k1, fun z => k4 (mw _ z), by simpa using hp1⟩, ?_⟩
  rintro i n H2 ⟨rfl, hi, F3, A3, s3, accV, acc, Y3, e3, hD, rA, fD, aD, hp3⟩
  by_cases hlt : i < items.length
  · have ed : items.drop i = items[i] :: items.drop (i + 1) := List.drop_eq_getElem_cons hlt
    rw [ed] at hp3
    refine .inr ⟨r1.go i F3 H2 e3 Y3.ext hlt, P (i + 1), fun H' h => ⟨items.length - (i + 1), by omega, rfl, hlt, h⟩, fun x H' hy => ?_⟩
    obtain ⟨d, F4, hd, G4, r4⟩ := r1.yld i F3 H2 x H' e3 Y3.ext Y3.tb hy hlt
    have ee : d = items[i] := by rw [List.getElem?_eq_getElem hlt] at hd; exact (Option.some.inj hd).symm
    subst ee
    have Yp := Y3.protect hD fD k2 aD
    have Y4 := Yp.grow G4
    have e4 := e3.trans G4.ff
    unfold lcLoop at hp3
    cases qg : gm items[i] s3 with
    | none => rw [qg] at hp3; exact hp3.elim
    | some s4 =>
      simp only [qg] at hp3
      refine g2 p _ F0 A3 F4 s3 _ H' x _ _ Y4 r4 ⟨s4, qg, fun σ5 A5 hw0 Y5 => ?_⟩
      have hw : L2.wipe σ5 vs = L2.wipe σ vs := hw0.trans (wipe_wipe σ vs)
      refine ⟨hw, ?_⟩
      have hp5 := PostO.mono hp3 G4.ff
      refine t2 p _ F0 A5 F4 s4 σ5 H' _ Y5 ?_
      cases qt : mt s4 with
      | exc c n s5 => simp only [qt] at hp5; exact hp5.elim
      | stuck => simp only [qt] at hp5; exact hp5.elim
      | ok b s5 =>
        refine fun b' F6 H6 A6 Y6 e6 eb => ?_
        subst eb
        simp only [qt] at hp5
        cases b' with
        | false =>
          obtain ⟨z1, z2, z3, z4⟩ := Y6.unprotect f0 k3 trivial k2
          obtain ⟨A7, m7, q7⟩ := z1.sl.rewipe hw
          exact ⟨F6, A7, { s5 with sl := wipeS s5.sl vs }, accV, acc, z1.slots (s' := { s5 with sl := wipeS s5.sl vs }) rfl q7, e4.trans e6, z2, rA.mono (G4.ff.trans e6), z3, fun z => z4 (m7 _ z), PostO.mono hp5 e6⟩
        | true =>
          refine e2 p _ F0 A6 F6 s5 σ5 H6 _ Y6 ?_
          have hp6 := PostO.mono hp5 e6
          cases qe : me s5 with
          | exc c n s6 => simp only [qe] at hp6; exact hp6.elim
          | stuck => simp only [qe] at hp6; exact hp6.elim
          | ok y s6 =>
            simp only [qe] at hp6
            refine fun v F7 H7 A7 Y7 e7 r7 => ?_
            obtain ⟨z1, z2, z3, z4⟩ := Y7.unprotect f0 k3 trivial k2
            have hl : accV.length = acc.length := rA.length
            by_cases hs : acc.length < sizeLine
            · rw [if_pos hs] at hp6
              refine ⟨accV, z2, by rw [hl]; exact hs, ?_⟩
              -- the list has grown
              have U : Rel g p H0 F0 A7 F7 s6 σ5 (upd H7 D0 (.lst (accV ++ [v]))) := by
                refine ⟨fun b u q => ?_, z1.ef0, z1.fr, fun b u q np no => ?_, fun b q => ?_, fun b e => ?_, g.Tu _ _ _ z1.tb (.inr (.inl ⟨_, z2⟩)), z1.sl.mono (Ext.refl _) fun b hb => ⟨?_, (z1.sl.facts b hb).2.1⟩⟩
                · rw [upd_ne (fun z => by rw [z, z3] at q; cases q)]; exact z1.ext b u q
                · rw [upd_ne (fun z => by rw [z, k2] at q; cases q)]; exact z1.evo b u q np no
                · by_cases hb : b = D0
                  · rw [hb]; exact k2
                  · rw [upd_ne hb] at q; exact z1.al b q
                · obtain ⟨y1, y2⟩ := z1.pl b e
                  exact ⟨y1, by rw [upd_ne (fun z => k3 (by rw [e, z]))]; exact y2⟩
                · rw [upd_ne (fun z => z4 (by rw [← z]; exact hb))]
              obtain ⟨A8, m8, q8⟩ := U.sl.rewipe hw
              exact ⟨F7, A8, { s6 with sl := wipeS s6.sl vs }, _, acc ++ [y], U.slots (s' := { s6 with sl := wipeS s6.sl vs }) rfl q8, (e4.trans e6).trans e7, upd_same, (rA.mono (G4.ff.trans (e6.trans e7))).append (.cons r7 .nil), z3, fun z => z4 (m8 _ z), PostO.mono hp6 e7⟩
            · rw [if_neg hs] at hp6; exact hp6.elim
  · have ei : i = items.length := by omega
    subst ei
    rw [List.drop_length] at hp3
    refine .inl ⟨r1.stop _ F3 H2 e3 Y3.ext (Nat.le_refl _), ?_⟩
    obtain ⟨A4, m4, q4⟩ := Sl.back e3 Y1.sl vs _ A3 nd Y3.sl
    exact hp3 D0 accV F3 H2 A4 (Y3.slots (s' := { s3 with sl := backS s3.sl s1.sl vs }) rfl q4) (Ext.refl _) rA hD fD k2 k3 fun z => aD (m4 _ z)
end Pd

/-! Pd, part E: comprehensions as expressions, defs, calls. -/
namespace Pd
open PySem PySem.Spec PyProof.Rows L2

/-- the reading that a meaning has of itself -/
def can {α β : Type} (g : Gl) (W : WX) (Rp : RPT α β) (m : S → R α) : L2.St → Hp → (β → Hp → Prop) → Prop := fun σ H Q =>
  ∃ (p : Option Addr) (H0 F0 : Hp) (A : List Addr) (F : Hp) (s : S), Rel g p H0 F0 A F s σ H ∧ Post g W Rp p H0 F0 F σ Q (m s)
theorem sim_can {α β : Type} {g : Gl} {W : WX} {Rp : RPT α β} {m : S → R α} : Sim g W Rp (can g W Rp m) m := fun p H0 F0 A F s σ H Q Y hp => ⟨p, H0, F0, A, F, s, Y, hp⟩
def DTs (g : Gl) (X : Cx) (W : WX) (es : List Expr) (m : TM) : Prop := ∃ t, PTs X es t ∧ Sim g W RepB t m
def DGw' (g : Gl) (X : Cx) (vs : List Nat) (e : Expr) (m : D → S → Option S) : Prop := ∃ t, PG X e t ∧ SimGw g vs t m
def DGsw' (g : Gl) (X : Cx) (vs : List Nat) (es : List Expr) (m : List D → S → Option S) : Prop := ∃ t, PGs X es t ∧ SimGsw g vs t m
def canG (g : Gl) (vs : List Nat) (m : D → S → Option S) : TG := fun v σ H Q => ∃ (p : Option Addr) (H0 F0 : Hp) (A : List Addr) (F : Hp) (s : S) (d : D), Rel g p H0 F0 A F s σ H ∧ Rep g p F v d ∧
  ∃ s', m d s = some s' ∧ ∀ σ' A', L2.wipe σ' vs = L2.wipe σ vs → Rel g p H0 F0 A' F s' σ' H → Q σ' H
section
variable {g : Gl} {X : Cx} {W : WX}
theorem DE.can {e : Expr} {m : EM} (h : DE g X W e m) : PE X e (can g W (RepV g) m) := by
  obtain ⟨t, a1, a2⟩ := h
  exact ⟨fun pins s σ H Q I ⟨p, H0, F0, A, F, s', Y, hp⟩ => a1.run pins s σ H Q I (a2 p H0 F0 A F s' σ H Q Y hp)⟩
theorem DTs.can {es : List Expr} {m : TM} (h : DTs g X W es m) : PTs X es (can g W RepB m) := by
  obtain ⟨t, a1, a2⟩ := h
  exact ⟨fun pins s σ H Q I ⟨p, H0, F0, A, F, s', Y, hp⟩ => a1.run pins s σ H Q I (a2 p H0 F0 A F s' σ H Q Y hp)⟩
theorem DI.can {tg e : Expr} {m : AM} (h : DI g X W tg e m) : PI X tg e (can g W (RepI g) m) := by
  obtain ⟨t, a1, a2⟩ := h
  exact ⟨fun pins s σ H Q I ⟨p, H0, F0, A, F, s', Y, hp⟩ => a1.run pins s σ H Q I (a2 p H0 F0 A F s' σ H Q Y hp)⟩
theorem DGw'.can {vs : List Nat} {e : Expr} {m : D → S → Option S} (h : DGw' g X vs e m) : PG X e (canG g vs m) := by
  obtain ⟨t, a1, a2⟩ := h
  exact ⟨fun pins s σ H v u Q I r ⟨p, H0, F0, A, F, s', d, Y, rd, hp⟩ => a1.run pins s σ H v u Q I r (a2 p H0 F0 A F s' σ H v d Q Y rd hp)⟩
theorem simGw_can {vs : List Nat} {m : D → S → Option S} : SimGw g vs (canG g vs m) m := fun p H0 F0 A F s σ H v d Q Y r h => ⟨p, H0, F0, A, F, s, d, Y, r, h⟩
theorem dts_nil : DTs g X W [] tYesM := ⟨_, pts_nil, fun p H0 F0 A F s σ H Q Y hp => hp true F H A Y (Ext.refl _) rfl⟩
theorem dts_one {e : Expr} {m : TM} (h : DT g X W e m) : DTs g X W [e] m := let ⟨_, a1, a2⟩ := h; ⟨_, pts_one a1, a2⟩
theorem dgw_name {i : Nat} {x : Str} {vs : List Nat} {pos : Pos} (hN : X.N.Nodup) (hi : X.N[i]? = some x) (hx : Loc X.env.scope x) (hv : i ∈ vs := by decide) (hf : X.fn x = true ∨ X.env.scope.names.lookup x = some .local := by first | exact .inl rfl | exact .inr rfl | assumption) : DGw' g X vs (.Name x pos) (gN i) :=
  ⟨_, pg_name hN hi hx hf, simGw_name hv⟩
theorem dgsw_nil {vs : List Nat} : DGsw' g X vs [] gsNil := ⟨_, pgs_nil, simGsw_nil⟩
theorem dgsw_cons {vs : List Nat} {e : Expr} {es : List Expr} {m : D → S → Option S} {ms : List D → S → Option S} (h : DGw' g X vs e m) (hr : DGsw' g X vs es ms) (hs : (assignEach (e :: es) X.env).map (·.2) = assign e X.env :: (assignEach es X.env).map (·.2) := by rfl) : DGsw' g X vs (e :: es) (gsCons m ms) :=
  let ⟨_, a1, a2⟩ := h; let ⟨_, b1, b2⟩ := hr; ⟨_, pgs_cons a1 b1 hs, simGsw_cons a2 b2⟩
theorem dgw_tup {vs : List Nat} {es : List Expr} {k : Nat} {pos : Pos} {ms : List D → S → Option S} {n : Nat} (hc : X.calm = true) (h : DGsw' g X vs es ms) (hn : (assignEach es X.env).length = n := by rfl) (hst : (assignEach es X.env).findIdx? (·.1) = none := by rfl) (hK : X.K = g.K := by rfl) : DGw' g X vs (.Tuple es k pos) (gT n ms) :=
  let ⟨_, a1, a2⟩ := h; ⟨_, pg_tup hc a1 hn hst, simGw_tup a2 hK⟩

/-- a list comprehension of one for -/
structure LcOk (g : Gl) (X : Cx) (W : WX) (elt tg iter : Expr) (ifs : List Expr) (scope : Scope) (own : List (Str × Nat)) (mi : AM) (gm : D → S → Option S) (mt : TM) (me : EM) : Prop where
  hc : X.calm = true
  hN : X.N.Nodup
  hi : DI g X W tg iter mi
  ok : BlkOk X.N X.env.scope scope own
  nd : (own.map (·.2)).Nodup
  hg : ∀ (s : Shared) (H : Hp) (C : Addr) (cl : List (Str × Addr)) (fp : List Addr), DGw' g (X.blk s H scope (compEnvC scope cl C X.env) fp) (own.map (·.2)) tg gm
  ht : ∀ (s : Shared) (H : Hp) (C : Addr) (cl : List (Str × Addr)) (fp : List Addr), DTs g (X.blk s H scope (compEnvC scope cl C X.env) fp) WF ifs mt
  he : ∀ (s : Shared) (H : Hp) (C : Addr) (cl : List (Str × Addr)) (fp : List Addr), DE g (X.blk s H scope (compEnvC scope cl C X.env) fp) WF elt me
theorem do_lc {elt tg iter : Expr} {ifs : List Expr} {scope : Scope} {own : List (Str × Nat)} {mi : AM} {gm : D → S → Option S} {mt : TM} {me : EM} {pos : Pos} (L : LcOk g X W elt tg iter ifs scope own mi gm mt me) (hs : ∀ x, foldedSetIterable iter X.env x = pure x := by intro _; rfl) :
    DO g X W (.ListComp elt [⟨tg, iter, ifs, 0⟩] scope pos) (oLc (own.map (·.2)) mi gm mt me) :=
  ⟨_, pe_lc L.hc L.hN L.hi.can L.ok (fun s H C cl fp => (L.hg s H C cl fp).can) (fun s H C cl fp => (L.ht s H C cl fp).can) (fun s H C cl fp => (L.he s H C cl fp).can) hs, sim_lc L.nd sim_can simGw_can sim_can sim_can⟩
theorem ds_setLc {i : Nat} {y : Str} {py : Pos} {elt tg iter : Expr} {ifs : List Expr} {scope : Scope} {own : List (Str × Nat)} {mi : AM} {gm : D → S → Option S} {mt : TM} {me : EM} {pos spos : Pos} (hy : X.N[i]? = some y) (hyl : X.env.scope.names.lookup y = some .local)
    (hsw : swapsWith (.ListComp elt [⟨tg, iter, ifs, 0⟩] scope pos) (some (.Name y py)) spos.line X.env = pure true) (L : LcOk g X W elt tg iter ifs scope own mi gm mt me) (hs : ∀ x, foldedSetIterable iter X.env x = pure x := by intro _; rfl) :
    DS g X W (.Assign [.Name y py] (.ListComp elt [⟨tg, iter, ifs, 0⟩] scope pos) spos) (mSet i (good (oLc (own.map (·.2)) mi gm mt me))) :=
  ⟨_, ps_setLc L.hc L.hN hy hyl hsw L.hi.can L.ok (fun s H C cl fp => (L.hg s H C cl fp).can) (fun s H C cl fp => (L.ht s H C cl fp).can) (fun s H C cl fp => (L.he s H C cl fp).can) hs, sim_set (sim_lc L.nd sim_can simGw_can sim_can sim_can)⟩
end

/-! ### defs -/
inductive FR where
  | ok (r : SV) (n : Int)
  | exc (c : String) (m : Option Int) (n : Int)
  | stuck
abbrev FM := List D → Int → FR
def PostF (g : Gl) (p : Option Addr) (F H : Hp) (Q : VK) (E : XK) : FR → Prop
  | .ok (.val d) n => ∀ v F' H', Gr g p F H F' H' → PileOk p n F' H' → Rep g p F' v d → Q v H'
  | .ok (.own l) n => ∀ a vs F' H', Gr g p F H F' H' → PileOk p n F' H' → Reps g p F' vs l → H' a = some (.lst vs) → F' a = none → H a = none → p ≠ some a → Q (.ref a) H'
  | .ok _ _ => False
  | .exc c m n => ∀ cls d F' H', Gr g p F H F' H' → PileOk p n F' H' → ExcV g c m cls d H' → E cls d H'
  | .stuck => False
/-- what a def promises -/
def spF (g : Gl) (f : FM) : Sp := fun vs H Q E => ∃ (p : Option Addr) (F : Hp) (ds : List D) (n : Int), Reps g p F vs ds ∧ Ext F H ∧ PileOk p n F H ∧ g.T H ∧ PostF g p F H Q E (f ds n)
def outF : RS → FR
  | .nx s => .ok (.val .non) s.pile
  | .rt r s => .ok r s.pile
  | .exc c m s => .exc c m s.pile
  | _ => .stuck
/-- np parameters, n names -/
def mkF (np n : Nat) (b : SM) : FM := fun ds k => if ds.length = np then outF (b ⟨ds.map SV.val ++ List.replicate (n - np) .no, k⟩) else .stuck
theorem sl_start {g : Gl} {p : Option Addr} {H0 F H : Hp} : ∀ {vs : List V} {ds : List D} (k : Nat), Reps g p F vs ds → Sl g p H0 F H [] (ds.map SV.val ++ List.replicate k .no) (vs.map some ++ List.replicate k none)
  | _, _, 0, .nil => .nil
  | _, _, k + 1, .nil => .no (sl_start (vs := []) (ds := []) k .nil)
  | _, _, k, .cons r t => .val r (sl_start k t)
theorem rel_start {g : Gl} {p : Option Addr} {F H : Hp} {vs : List V} {ds : List D} {n : Int} {N : List Str} (r : Reps g p F vs ds) (e : Ext F H) (pl : PileOk p n F H) (t : g.T H) : Rel g p H F [] F ⟨ds.map SV.val ++ List.replicate (N.length - ds.length) .no, n⟩ (start N vs) H where
  ext := e
  ef0 := Ext.refl F
  fr := fun b o q => .inl q
  evo := fun b o q _ _ => q
  al := fun b q => q
  pl := pl
  tb := t
  sl := by
    unfold L2.start
    rw [← r.length]
    exact sl_start _ r
theorem Rel.gr0 {g : Gl} {p : Option Addr} {H0 F0 : Hp} {A : List Addr} {F : Hp} {s : S} {σ : L2.St} {H : Hp} (Y : Rel g p H0 F0 A F s σ H) : Gr g p F0 H0 F H := ⟨Y.evo, Y.al, Y.ef0, Y.fr, Y.ext, Y.tb⟩
/-- what a def is worth to its callers: where it stands, its promise -/
structure Cal (P : Program) (w : World) (K : PySem.W.Frag) (mg : Str → Option Value) (base : Heap) (g : Gl) (k : Nat) (x : Str) (f : FM) : Prop where
  ex : ∃ (a : Addr) (fd : FuncData) (ps : List Str), FnOk P w K mg base (L2.CX P w) k a fd ps (spF g f) ∧ mg x = some (.ref a) ∧ PySem.W.keepIn K (.ref a) = true ∧ Binds K fd ps []
abbrev WD (E : XK) : WX := fun cls d _ H => E cls d H
section
variable {P : Program} {w : World} {K : PySem.W.Frag} {mg : Str → Option Value} {base : Heap} {g : Gl}
/-- THE RULE for a def -/
theorem cal_of {x qual : Str} {params : Arguments} {body : List Stmt} {scope : Scope} {a : Addr} {fd : FuncData} {N ps : List Str} {np n k : Nat} {m : SM} (F : FunD K x qual params body scope [] [] a fd) (gm : mg x = some (.ref a)) (S : FnScope N ps scope)
    (hps : ps.length = np) (hn : N.length = n) (hb : ∀ (kV doc pm : Value) (an : Option Addr) (cdv ct : Value) (us : List Value), us.length = ps.length → bindArgs (PySem.W.fnOf x qual params body scope .none kV doc pm an cdv ct) ⟨us, []⟩ = pure (ps.zip us))
    (h : ∀ (cdv : Value) (A : Around) (outer : List Env) (s : Shared) (H : Hp) (E : XK), Room k (A.deeper (envOfC qual scope s.heap.objs.size a cdv)) →
      Takes (cxOf (L2.CX P w) P w K mg base N qual scope a cdv A outer s H E) (WD E) →
      PassesOwn (model P w) (A.deeper (envOfC qual scope s.heap.objs.size a cdv)) (envOfC qual scope s.heap.objs.size a cdv) (cxOf (L2.CX P w) P w K mg base N qual scope a cdv A outer s H E).xe →
      DSs g (cxOf (L2.CX P w) P w K mg base N qual scope a cdv A outer s H E) (WD E) body m) : Cal P w K mg base g (k + 1) x (mkF np n m) := by
  refine ⟨a, fd, ps, ?_, gm, F.kp, F.bindsN hb⟩
  refine F.ok S (fun vs H Q E ⟨p, F, ds, n, r, e, pl, t, hp⟩ => ?_) (fun cdv A outer s H vs Q E hr ⟨p, F, ds, nn, r, e, pl, t, hp⟩ => ?_)
  · rw [r.length, hps]
    unfold mkF at hp
    split at hp
    · assumption
    · exact hp.elim
  · have hl : ds.length = np := by
      unfold mkF at hp
      split at hp
      · assumption
      · exact hp.elim
    unfold mkF at hp
    rw [if_pos hl] at hp
    obtain ⟨t1, b1, b2⟩ := h cdv A outer s H E hr (takes_of rfl rfl rfl rfl) (passes_of rfl)
    refine ⟨t1, b1, b2 p H F [] F _ _ H _ (rel_start r e pl t) ?_⟩
    rw [hn, hl]
    generalize hS : m ⟨ds.map SV.val ++ List.replicate (n - np) .no, nn⟩ = rs at hp
    cases rs with
    | nx s' => exact fun σ' F' H' A' Y' e' => hp .non F' H' Y'.gr0 Y'.pl .non
    | bk s' => exact hp.elim
    | ct s' => exact hp.elim
    | exc c m s' => exact fun cls d σ' F' H' A' Y' e' z => hp cls d F' H' Y'.gr0 Y'.pl z
    | stuck => exact hp.elim
    | rt v s' => cases v with
      | val d => exact fun v σ' F' H' A' Y' e' r' => hp v F' H' Y'.gr0 Y'.pl r'
      | own l => exact fun a vs σ' F' H' A' Y' e' r' k1 k2 k3 k4 => hp a vs F' H' Y'.gr0 Y'.pl r' k1 k2 k3 k4
      | no => exact hp.elim
      | dct l => exact hp.elim
end

/-! ### calls -/
/-- the callee at the pile's state -/
def callR (f : FM) (ds : List D) (s : S) : R SV := match f ds s.pile with
  | .ok (.val d) n => .ok (.val d) { s with pile := n }
  | .ok (.own l) n => .ok (.own l) { s with pile := n }
  | .ok _ _ => .stuck
  | .exc c m n => .exc c m { s with pile := n }
  | .stuck => .stuck
def oCall (f : FM) (m : AM) : OM := fun s => (m s).bind fun ds s1 => callR f ds s1
section
variable {g : Gl} {X : Cx} {W : WX} {k : Nat} {f : FM} {x : Str} {p' pos : Pos}
theorem post_call {p : Option Addr} {H0 F0 F : Hp} {A : List Addr} {s : S} {σ : L2.St} {H : Hp} {Q : VK} {ds : List D} {vs : List V} (Y : Rel g p H0 F0 A F s σ H) (r : Reps g p F vs ds) (h : PostO g W p H0 F0 F σ Q (callR f ds s)) : spF g f vs H Q (WE W σ) := by
  refine ⟨p, F, ds, s.pile, r, Y.ext, Y.pl, Y.tb, ?_⟩
  unfold callR at h
  cases q : f ds s.pile with
  | stuck => rw [q] at h; exact h
  | exc c m n =>
    rw [q] at h
    exact fun cls d F' H' G P z => h cls d F' H' A (Y.call G P) G.ff z
  | ok rv n =>
    rw [q] at h
    cases rv with
    | no => exact h
    | dct l => exact h
    | val d => exact fun v F' H' G P z => h v F' H' A (Y.call G P) G.ff z
    | own l =>
      refine fun a vs' F' H' G P z k1 k2 k3 k4 => ?_
      obtain ⟨z1, z2, z3, z4⟩ := Y.fresh k3
      exact h a vs' F' H' A (Y.call G P) G.ff z k1 k2 z2 k4 z4
theorem do_call {e : Expr} {es : List Expr} {m : AM} (C : Cal X.prog X.w X.K X.mg X.base g k x f) (hr : Room k X.A) (hg : L2.Gl X x) (tk : Takes X W) (ha : DA g X W (e :: es) m)
    (hdb : (x == ("__debug__" : Str)) = false := by decide) (he : starEach (e :: es) X.env = (false, eval e X.env) :: starEach es X.env := by rfl) (hpl : (backTo pos (starEach es X.env)).any (·.1) = false := by rfl) : DO g X W (.Call (.Name x p') (e :: es) [] pos) (oCall f m) := by
  obtain ⟨a, fd, ps, F, gm, kp, b⟩ := C.ex
  obtain ⟨t, a1, a2⟩ := ha
  refine ⟨_, pe_callS F hr hg gm kp b (fun σ => passAt tk σ) a1 hdb he hpl, fun p H0 F0 A F s σ H Q Y hp => a2 p H0 F0 A F s σ H _ Y (PostO.bind hp fun ds s1 vs F1 H1 A1 Y1 e1 r1 hp1 => ?_)⟩
  exact post_call Y1 r1 hp1
theorem pe_callS0 {CX : CXT} {f : Addr} {fd : FuncData} {ps : List Str} {sp : Sp} {E : L2.St → XK} (F : FnOk X.prog X.w X.K X.mg X.base CX k f fd ps sp) (hr : Room k X.A) (hg : L2.Gl X x) (hm : X.mg x = some (.ref f)) (hk : PySem.W.keepIn X.K (.ref f) = true) (hb : Binds X.K fd ps []) (hx : ∀ σ, PassesAt CX X σ (E σ))
    (hdb : (x == ("__debug__" : Str)) = false := by decide) : PE X (.Call (.Name x p') [] [] pos) (tCallS sp E tNil) := by
  refine ⟨fun pins s σ H Q I h => ?_⟩
  refine wpAny_Call_Name_kw (ld_glob I hg hm ?_ hdb)
  exact PySem.W.callWith_K0 I.kIn hk (run_fnS (us := []) F hr hb (hx σ) I .nil h)
theorem do_call0 (C : Cal X.prog X.w X.K X.mg X.base g k x f) (hr : Room k X.A) (hg : L2.Gl X x) (tk : Takes X W) (hdb : (x == ("__debug__" : Str)) = false := by decide) : DO g X W (.Call (.Name x p') [] [] pos) (oCall f aNil) := by
  obtain ⟨a, fd, ps, F, gm, kp, b⟩ := C.ex
  refine ⟨_, pe_callS0 F hr hg gm kp b (fun σ => passAt tk σ) hdb, fun p H0 F0 A F s σ H Q Y hp => ?_⟩
  exact post_call Y .nil hp
end
end Pd

/-! Pd, part F: operations. -/
namespace Pd
open PySem PySem.Spec PyProof.Rows L2

/-! ### results that may be new lists, of operations -/
def OpPO (g : Gl) (p : Option Addr) (F H : Hp) (Q : VK) : Option SV → Prop
  | some (.val d) => ∀ v F' H', Gr g none F H F' H' → Rep g p F' v d → Q v H'
  | some (.own l) => ∀ a vs F' H', Gr g none F H F' H' → Reps g p F' vs l → H' a = some (.lst vs) → F' a = none → H a = none → Q (.ref a) H'
  | _ => False
def good1 : SV → Option SV
  | .val d => some (.val d)
  | .own l => some (.own l)
  | _ => none
theorem PostO.of {g : Gl} {W : WX} {p : Option Addr} {H0 F0 F : Hp} {σ : L2.St} {s : S} {A : List Addr} {H : Hp} {o : Option SV} {Q : VK} (Y : Rel g p H0 F0 A F s σ H) (h : PostO g W p H0 F0 F σ Q (R.of (o.bind good1) s)) : OpPO g p F H Q o := by
  cases o with
  | none => exact h
  | some r => cases r with
    | no => exact h
    | dct l => exact h
    | val d => exact fun v F' H' G r => h v F' H' A (Y.grow G) G.ff r
    | own l =>
      refine fun a vs F' H' G r k1 k2 k3 => ?_
      obtain ⟨z1, z2, z3, z4⟩ := Y.fresh k3
      exact h a vs F' H' A (Y.grow G) G.ff r k1 k2 z2 z3 z4
def ROpO (g : Gl) (r : R2) (f : D → D → Option SV) : Prop := ∀ (p : Option Addr) (F H : Hp) (x y : V) (dx dy : D) (Q : VK), Rep g p F x dx → Rep g p F y dy → Ext F H → g.T H → OpPO g p F H Q (f dx dy) → r x y H Q
def oBin (f : D → D → Option SV) (a b : EM) : OM := fun s => (a s).bind fun x s1 => (b s1).bind fun y s2 => R.of ((f x y).bind good1) s2
section
variable {g : Gl} {X : Cx} {W : WX} {a b : Expr} {ma mb : EM} {pos : Pos}
theorem simO_bin {ta tb : TE} {r : R2} {f : D → D → Option SV} (hr : ROpO g r f) (ha : Sim g W (RepV g) ta ma) (hb : Sim g W (RepV g) tb mb) : SimO g W (tOp r ta tb) (oBin f ma mb) := by
  intro p H0 F0 A F s σ H Q Y hp
  refine ha p H0 F0 A F s σ H _ Y (PostO.bind hp fun x s1 v F1 H1 A1 Y1 e1 r1 hp1 => ?_)
  refine hb p H0 F0 A1 F1 s1 σ H1 _ Y1 (PostO.bind hp1 fun y s2 w F2 H2 A2 Y2 e2 r2 hp2 => ?_)
  exact hr p F2 H2 v w x y Q (r1.mono e2) r2 Y2.ext Y2.tb (PostO.of Y2 hp2)
theorem do_bin {op : Operator} {r : R2} {f : D → D → Option SV} (ho : OpR X (binaryOp op) r) (hr : ROpO g r f) (ha : DE g X W a ma) (hb : DE g X W b mb) : DO g X W (.BinOp a op b pos) (oBin f ma mb) := by
  obtain ⟨ta, a1, a2⟩ := ha
  obtain ⟨tb, b1, b2⟩ := hb
  exact ⟨_, pe_op ho a1 b1, simO_bin hr a2 b2⟩
end

/-! ### list + list, list * int, text * int -/
def rCatS : R2 := fun x y H Q => ∃ l b xs zs, x = .ref l ∧ y = .ref b ∧ Rd H l (.lst xs) ∧ Rd H b (.lst zs) ∧ xs.length + zs.length ≤ sizeLine ∧ ∀ p, H p = none → Q (.ref p) (upd H p (.lst (xs ++ zs)))
theorem rd_lst {X : Cx} {pins : List (Addr × Obj)} {σ : L2.St} {H : Hp} {s : Shared} {l : Addr} {xs : List V} (I : Inv X pins σ H s) (h : Rd H l (.lst xs)) :
    xs.length ≤ sizeLine ∧ ∃ (its : List Value) (n : Nat), Vals xs its ∧ xs.length = its.length ∧ s.heap.get? l = some { cls := .type "list", data := .seq its.toArray n } := by
  obtain ⟨z, its, n, r, e⟩ := h.ok I.hok
  exact ⟨z, its, n, r, r.length, e⟩
theorem op_catS {X : Cx} : OpR X (binaryOp .Add) rCatS := by
  intro pins s σ H x y v u Q I rx ry h
  obtain ⟨l, b, xs, zs, rfl, rfl, hH, hB, hz, q⟩ := h
  cases rx
  cases ry
  obtain ⟨z, its, n, r, hl, e⟩ := rd_lst I hH
  obtain ⟨z2, its2, n2, r2, hl2, e2⟩ := rd_lst I hB
  refine PySem.P.add_list e e2 ?_ (by rw [List.size_toArray, List.size_toArray]; omega)
  have ea : its.toArray ++ its2.toArray = (its ++ its2).toArray := by simp
  rw [ea]
  exact ⟨.ref _, _, I.lnew (t' := s.toks) (r.append r2) (by rw [List.length_append]; omega), rfl, q _ I.fresh⟩
/-- text * int -/
def repS (n : Nat) (l : List Nat) : List Nat := (List.replicate n l).flatten
theorem foldl_cps (c : Array Nat) : ∀ (n : Nat) (acc : Array Nat), ((List.replicate n c).foldl (· ++ ·) acc).toList = acc.toList ++ repS n c.toList
  | 0, acc => by simp [repS]
  | n + 1, acc => by
    rw [List.replicate_succ, List.foldl_cons, foldl_cps c n, Array.toList_append]
    unfold repS
    rw [List.replicate_succ, List.flatten_cons, List.append_assoc]
def rMulS : R2 := fun x y H Q => ∃ (z : Str) (k : Int), x = .str z ∧ y = .int k ∧ -(2 ^ 62) ≤ k ∧ k < 2 ^ 62 ∧ z.length ≤ sizeLine ∧ z.length * k.toNat ≤ sizeLine ∧ Q (.str ⟨(repS k.toNat z.cps.toList).toArray⟩) H
theorem op_mulS {X : Cx} : OpR X (binaryOp .Mult) rMulS := by
  intro pins s σ H x y v u Q I rx ry h
  obtain ⟨z, k, rfl, rfl, h1, h2, h4, h3, q⟩ := h
  obtain ⟨t, rfl⟩ := rx
  obtain ⟨t', rfl⟩ := ry
  have e24 : (sizeLine : Nat) = 16777216 := sizeLine_eq
  refine PySem.P.mul_str (by rw [decide_eq_false (show ¬ k < -(2 ^ 63 : Int) by omega), decide_eq_false (show ¬ k ≥ 2 ^ 63 by omega)]; rfl) (fun k1 k2 => ?_) (fun k1 k2 => ?_) ?_
  · have hk : 0 < k := by omega
    intro hgt
    have h5 : (2 ^ 63 - 1) / k * k ≤ 2 ^ 63 - 1 := Int.ediv_mul_le _ (by omega)
    have h6 : ((z.length * k.toNat : Nat) : Int) ≤ 16777216 := by have h3' := h3; rw [e24] at h3'; omega
    rw [Int.natCast_mul, Int.toNat_of_nonneg (by omega)] at h6
    have h7 : ((2 ^ 63 - 1) / k + 1) * k ≤ (z.length : Int) * k := Int.mul_le_mul_of_nonneg_right (by omega) (by omega)
    have h8 : 2 ^ 63 - 1 < ((2 ^ 63 - 1) / k + 1) * k := Int.lt_ediv_add_one_mul_self _ hk
    omega
  · unfold Builtin.Str.tooLong
    exact decide_eq_false (by omega)
  · by_cases hn : k < 1
    · rw [if_pos hn]
      refine ⟨by show (0 : Nat) ≤ _; omega, ⟨.str ⟨#[]⟩, H, I.tok _, ⟨_, rfl⟩, ?_⟩⟩
      have e0 : k.toNat = 0 := by omega
      rw [e0] at q
      exact q
    · rw [if_neg hn]
      by_cases hc : (k == 1 || z.length == 0) = true
      · rw [if_pos hc]
        refine ⟨.str z, H, I, ⟨_, rfl⟩, ?_⟩
        have ez : (⟨(repS k.toNat z.cps.toList).toArray⟩ : Str) = z := by
          rcases Bool.or_eq_true_iff.mp hc with e | e
          · have e1 : k = 1 := by simpa using e
            subst e1
            show (⟨(List.replicate 1 z.cps.toList).flatten.toArray⟩ : Str) = z
            simp
          · have e1 : z.cps.toList = [] := by
              have : z.length = 0 := by simpa using e
              apply List.eq_nil_of_length_eq_zero
              rw [Array.length_toList]; exact this
            unfold repS
            rw [e1]
            have : ∀ n : Nat, (List.replicate n ([] : List Nat)).flatten = [] := fun n => by induction n with
              | zero => rfl
              | succ n ih => rw [List.replicate_succ, List.flatten_cons, ih]; rfl
            rw [this]
            cases z with | mk c => simp at e1; subst e1; rfl
        rw [ez] at q
        exact q
      · rw [if_neg hc]
        have ef : (List.replicate k.toNat z.cps).foldl (· ++ ·) #[] = (repS k.toNat z.cps.toList).toArray := by
          apply Array.ext'
          rw [foldl_cps]
          simp
        rw [ef]
        refine ⟨?_, ⟨.str ⟨(repS k.toNat z.cps.toList).toArray⟩, H, I.tok _, ⟨_, rfl⟩, q⟩⟩
        show ((repS k.toNat z.cps.toList).toArray).size ≤ sizeLine
        rw [List.size_toArray]
        unfold repS
        rw [List.length_flatten]
        simp
        rw [Nat.mul_comm]
        exact h3

/-! ### the operations on data -/
def dAdd : D → D → Option SV
  | .int i, .int j => some (.val (.int (i + j)))
  | .str s, .str t => if s.length + t.length ≤ sizeLine then some (.val (.str (s ++ t))) else none
  | .lst l, .lst m => if l.length + m.length ≤ sizeLine then some (.own (l ++ m)) else none
  | .tup l, .tup m => if l.length + m.length ≤ sizeLine then some (.val (.tup (l ++ m))) else none
  | _, _ => none
def rAddA (K : PySem.W.Frag) : R2 := fun x y H Q => rI0 (fun i j => .int (i + j)) x y H Q ∨ (∃ i j, x = .str i ∧ y = .str j ∧ i.length + j.length ≤ sizeLine ∧ Q (.str (i ++ j)) H) ∨ rCatS x y H Q ∨ rCatA K x y H Q
theorem op_addA {X : Cx} : OpR X (binaryOp .Add) (rAddA X.K) := op_add.or (op_add_str.or (op_catS.or op_catA))
theorem str_app (s t : List Nat) : (⟨s.toArray⟩ : Str) ++ ⟨t.toArray⟩ = ⟨(s ++ t).toArray⟩ := by
  show (⟨s.toArray ++ t.toArray⟩ : Str) = _
  simp
theorem str_len (s : List Nat) : (⟨s.toArray⟩ : Str).length = s.length := by
  show s.toArray.size = _
  simp
section
variable {g : Gl}
theorem OpP.val {p : Option Addr} {F H : Hp} {Q : VK} {d : D} {v : V} (h : OpP g p F H Q (some d)) (e : Ext F H) (t : g.T H) (r : Rep g p F v d) : Q v H := h v F H (Gr.refl e t) r
theorem OpPO.val {p : Option Addr} {F H : Hp} {Q : VK} {d : D} {v : V} (h : OpPO g p F H Q (some (.val d))) (e : Ext F H) (t : g.T H) (r : Rep g p F v d) : Q v H := h v F H (Gr.refl e t) r
theorem OpPO.own {p : Option Addr} {F H : Hp} {Q : VK} {l : List D} {vs : List V} (h : OpPO g p F H Q (some (.own l))) (e : Ext F H) (t : g.T H) (r : Reps g p F vs l) : ∀ a, H a = none → Q (.ref a) (upd H a (.lst vs)) := fun a na =>
  h a vs F _ (Gr.lay e t na) r upd_same (by cases q : F a with
    | none => rfl
    | some o => rw [e a o q] at na; cases na) na
theorem OpPO.tup {p : Option Addr} {F H : Hp} {Q : VK} {l : List D} {vs : List V} (h : OpPO g p F H Q (some (.val (.tup l)))) (e : Ext F H) (t : g.T H) (r : Reps g p F vs l) : ∀ a, H a = none → Q (.ref a) (upd H a (.tup vs)) := fun a na =>
  h (.ref a) _ _ (Gr.new e t na) (.tup (.inl (.inl upd_same)) (r.mono (Gr.new (g := g) (p := none) e t na).ff))
theorem rop_add : ROpO g (rAddA g.K) dAdd := by
  intro p F H x y dx dy Q rx ry e t h
  unfold dAdd at h
  split at h
  · cases rx; cases ry
    exact .inl ⟨_, _, rfl, rfl, h.val e t (.int _)⟩
  · split at h
    · cases rx; cases ry
      refine .inr (.inl ⟨_, _, rfl, rfl, by rw [str_len, str_len]; assumption, ?_⟩)
      rw [str_app]
      exact h.val e t (.str _)
    · exact h.elim
  · split at h
    · cases rx with | lst h1 r1 => cases ry with | lst h2 r2 =>
      exact .inr (.inr (.inl ⟨_, _, _, _, rfl, rfl, ext_rd e h1, ext_rd e h2, by rw [r1.length, r2.length]; assumption, h.own e t (r1.append r2)⟩))
    · exact h.elim
  · split at h
    · cases rx with | tup h1 r1 => cases ry with | tup h2 r2 =>
      refine .inr (.inr (.inr ⟨_, _, _, _, rfl, rfl, ext_t e h1, ext_t e h2, by rw [r1.length, r2.length]; assumption, fun q => ?_, fun q1 q2 => ?_, fun q1 q2 => h.tup e t (r1.append r2)⟩))
      · subst q
        cases r1
        exact h.val e t (.tup h2 r2)
      · subst q2
        cases r2
        rw [List.append_nil] at h
        exact h.val e t (.tup h1 r1)
    · exact h.elim
  · exact h.elim
def dMul : D → D → Option SV
  | .int i, .int j => if i.natAbs.log2 + j.natAbs.log2 < 1000000 then some (.val (.int (i * j))) else none
  | .str s, .int k => if -(2 ^ 62) ≤ k ∧ k < 2 ^ 62 ∧ s.length ≤ sizeLine ∧ s.length * k.toNat ≤ sizeLine then some (.val (.str (repS k.toNat s))) else none
  | _, _ => none
def rMulA : R2 := fun x y H Q => rI CMulW (fun i j => .int (i * j)) x y H Q ∨ rMulS x y H Q
theorem op_mulA {X : Cx} : OpR X (binaryOp .Mult) rMulA := op_mulW.or op_mulS
theorem rop_mul : ROpO g rMulA dMul := by
  intro p F H x y dx dy Q rx ry e t h
  unfold dMul at h
  split at h
  · split at h
    · cases rx; cases ry
      exact .inl ⟨_, _, rfl, rfl, by assumption, h.val e t (.int _)⟩
    · exact h.elim
  · split at h
    · rename_i hk
      cases rx; cases ry
      refine .inr ⟨_, _, rfl, rfl, hk.1, hk.2.1, by rw [str_len]; exact hk.2.2.1, by rw [str_len]; exact hk.2.2.2, ?_⟩
      exact h.val e t (by simpa using Rep.str (repS _ _))
    · exact h.elim
  · exact h.elim
/-- int operations -/
def dI (C : Int → Int → Bool) (f : Int → Int → D) : D → D → Option D
  | .int i, .int j => if C i j = true then some (f i j) else none
  | _, _ => none
theorem rop_I {C : Int → Int → Prop} {C' : Int → Int → Bool} {gv : Int → Int → V} {f : Int → Int → D} (hC : ∀ i j, C' i j = true → C i j) (hf : ∀ p F i j, Rep g p F (gv i j) (f i j)) : ROp g (rI C gv) (dI C' f) := by
  intro p F H x y dx dy Q rx ry e t h
  unfold dI at h
  split at h
  · split at h
    · cases rx; cases ry
      exact ⟨_, _, rfl, rfl, hC _ _ (by assumption), h.val e t (hf _ _ _ _)⟩
    · exact h.elim
  · exact h.elim
theorem rop_I0 {gv : Int → Int → V} {f : Int → Int → D} (hf : ∀ p F i j, Rep g p F (gv i j) (f i j)) : ROp g (rI0 gv) (dI (fun _ _ => true) f) := by
  intro p F H x y dx dy Q rx ry e t h
  unfold dI at h
  split at h
  · cases rx; cases ry
    exact ⟨_, _, rfl, rfl, h.val e t (hf _ _ _ _)⟩
  · exact h.elim
def dSub : D → D → Option D := dI (fun _ _ => true) fun i j => .int (i - j)
def dMod : D → D → Option D := dI (fun _ j => decide (0 < j)) fun i j => .int (i % j)
def dDiv : D → D → Option D := dI (fun _ j => decide (0 < j ∧ j < 1073741824)) fun i j => .int (i / j)
def dPow : D → D → Option D := dI (fun i j => decide (0 ≤ j ∧ j ≤ 1000000 ∧ i.natAbs < 2 ^ 64)) fun i j => .int (i ^ j.toNat)
theorem rop_sub : ROp g (rI0 fun i j => .int (i - j)) dSub := rop_I0 fun _ _ _ _ => .int _
theorem rop_mod : ROp g (rI (fun _ j => 0 < j) fun i j => .int (i % j)) dMod := rop_I (fun i j h => by simpa using h) fun _ _ _ _ => .int _
theorem cdiv_of (i j : Int) (h : decide (0 < j ∧ j < 1073741824) = true) : CDiv i j := by unfold CDiv; exact of_decide_eq_true h
theorem cpow_of (i j : Int) (h : decide (0 ≤ j ∧ j ≤ 1000000 ∧ i.natAbs < 2 ^ 64) = true) : CPow i j := by unfold CPow; exact of_decide_eq_true h
theorem rop_div : ROp g (rI CDiv fun i j => .int (i / j)) dDiv := rop_I cdiv_of fun _ _ _ _ => .int _
theorem rop_pow : ROp g (rI CPow fun i j => .int (i ^ j.toNat)) dPow := rop_I cpow_of fun _ _ _ _ => .int _

/-! ### == and != -/
mutual
def toP : D → Option PyData
  | .non => some .none
  | .bl b => some (.bool b)
  | .int i => some (.int i)
  | .str s => some (.str ⟨s.toArray⟩)
  | .tup l => (toPs l).map .tuple
  | .lst l => (toPs l).map .list
  | _ => none
def toPs : List D → Option (List PyData)
  | [] => some []
  | d :: r => (toP d).bind fun x => (toPs r).map (x :: ·)
end
mutual
theorem dp_of {p : Option Addr} {F : Hp} : ∀ (d : D) (v : V) (q : PyData), Rep g p F v d → toP d = some q → Dp g.K F v q
  | .non, _, _, h, e => by cases h; cases e; exact .non
  | .bl b, _, _, h, e => by cases h; cases e; exact .bl b
  | .int i, _, _, h, e => by cases h; cases e; exact .int i
  | .str s, _, _, h, e => by cases h; cases e; exact .str _
  | .tup l, _, _, h, e => by
    cases h with
    | tup h1 r1 =>
      unfold toP at e
      obtain ⟨qs, e1, e2⟩ := Option.map_eq_some_iff.mp e
      subst e2
      exact .tup h1 (dps_of l _ _ r1 e1)
  | .lst l, _, _, h, e => by
    cases h with
    | lst h1 r1 =>
      unfold toP at e
      obtain ⟨qs, e1, e2⟩ := Option.map_eq_some_iff.mp e
      subst e2
      exact .lst (.inl h1) (dps_of l _ _ r1 e1)
  | .pile, _, _, h, e => by unfold toP at e; cases e
  | .exc _ _, _, _, h, e => by unfold toP at e; cases e
  | .clo _ _, _, _, h, e => by unfold toP at e; cases e
  | .obj _, _, _, h, e => by unfold toP at e; cases e
  | .ty _, _, _, h, e => by unfold toP at e; cases e
  | .cls _, _, _, h, e => by unfold toP at e; cases e
  | .kst _, _, _, h, e => by unfold toP at e; cases e
theorem dps_of {p : Option Addr} {F : Hp} : ∀ (l : List D) (vs : List V) (qs : List PyData), Reps g p F vs l → toPs l = some qs → DpAll g.K F vs qs
  | [], _, _, h, e => by cases h; cases e; exact .nil
  | d :: r, _, _, h, e => by
    cases h with
    | cons h1 h2 =>
      unfold toPs at e
      obtain ⟨x, e1, e2⟩ := Option.bind_eq_some_iff.mp e
      obtain ⟨xs, e3, e4⟩ := Option.map_eq_some_iff.mp e2
      subst e4
      exact .cons (dp_of d _ _ h1 e1) (dps_of r _ _ h2 e3)
end
mutual
theorem Dp.mono {K : PySem.W.Frag} {F F' : Hp} (e : Ext F F') : ∀ {v : V} {d : PyData}, Dp K F v d → Dp K F' v d
  | _, _, .non => .non
  | _, _, .bl b => .bl b
  | _, _, .int i => .int i
  | _, _, .str x => .str x
  | _, _, .lst h r => .lst (ext_l e h) (DpAll.mono e r)
  | _, _, .tup h r => .tup (ext_t e h) (DpAll.mono e r)
theorem DpAll.mono {K : PySem.W.Frag} {F F' : Hp} (e : Ext F F') : ∀ {v : List V} {d : List PyData}, DpAll K F v d → DpAll K F' v d
  | _, _, .nil => .nil
  | _, _, .cons h r => .cons (Dp.mono e h) (DpAll.mono e r)
end
/-- equality as Python has it -/
def dEq (x y : D) : Option Bool := (toP x).bind fun a => (toP y).bind fun b => if SeqAt.shaped a = true ∧ SeqAt.shaped b = true then some (PyData.eqv a b) else none
def dEqv (x y : D) : Option D := (dEq x y).map .bl
def dNev (x y : D) : Option D := (dEq x y).map fun b => .bl (!b)
theorem dEq_some {x y : D} {k : Bool} (h : dEq x y = some k) : ∃ a b, toP x = some a ∧ toP y = some b ∧ SeqAt.shaped a = true ∧ SeqAt.shaped b = true ∧ k = PyData.eqv a b := by
  unfold dEq at h
  obtain ⟨a, e1, e2⟩ := Option.bind_eq_some_iff.mp h
  obtain ⟨b, e3, e4⟩ := Option.bind_eq_some_iff.mp e2
  split at e4
  · rename_i hs
    exact ⟨a, b, e1, e3, hs.1, hs.2, (Option.some.inj e4).symm⟩
  · cases e4
theorem rop_eq : ROp g (rEqD g.K) dEqv := by
  intro p F H x y dx dy Q rx ry e t h
  unfold dEqv at h
  cases q : dEq dx dy with
  | none => rw [q] at h; exact h.elim
  | some k =>
    rw [q] at h
    obtain ⟨a, b, e1, e2, s1, s2, rfl⟩ := dEq_some q
    exact ⟨a, b, Dp.mono e (dp_of dx x a rx e1), Dp.mono e (dp_of dy y b ry e2), s1, s2, OpP.val (d := .bl _) h e t (.bl _)⟩
theorem rop_ne : ROp g (rNeD g.K) dNev := by
  intro p F H x y dx dy Q rx ry e t h
  unfold dNev at h
  cases q : dEq dx dy with
  | none => rw [q] at h; exact h.elim
  | some k =>
    rw [q] at h
    obtain ⟨a, b, e1, e2, s1, s2, rfl⟩ := dEq_some q
    exact ⟨a, b, Dp.mono e (dp_of dx x a rx e1), Dp.mono e (dp_of dy y b ry e2), s1, s2, OpP.val (d := .bl _) h e t (.bl _)⟩
/-! ### order, in, is -/
def dLt : D → D → Option D
  | .int i, .int j => some (.bl (decide (i < j)))
  | .str s, .str t => some (.bl (decide (s < t)))
  | _, _ => none
def rLtA : R2 := fun x y H Q => rI0 (fun i j => .bl (decide (i < j))) x y H Q ∨ (∃ i j, x = .str i ∧ y = .str j ∧ Q (.bl (decide (i.cps.toList < j.cps.toList))) H)
theorem op_ltA {X : Cx} : OpR X (compareOp .Lt) rLtA := op_lt.or op_lt_str
theorem rop_lt : ROp g rLtA dLt := by
  intro p F H x y dx dy Q rx ry e t h
  unfold dLt at h
  split at h
  · cases rx; cases ry
    exact .inl ⟨_, _, rfl, rfl, h.val e t (.bl _)⟩
  · cases rx; cases ry
    refine .inr ⟨_, _, rfl, rfl, ?_⟩
    exact h.val e t (by simpa using Rep.bl _)
  · exact h.elim
def dLe : D → D → Option D := dI (fun _ _ => true) fun i j => .bl (decide (i ≤ j))
def dGt : D → D → Option D := dI (fun _ _ => true) fun i j => .bl (decide (j < i))
def dGe : D → D → Option D := dI (fun _ _ => true) fun i j => .bl (decide (j ≤ i))
theorem rop_le : ROp g (rI0 fun i j => .bl (decide (i ≤ j))) dLe := rop_I0 fun _ _ _ _ => .bl _
theorem rop_gt : ROp g (rI0 fun i j => .bl (decide (j < i))) dGt := rop_I0 fun _ _ _ _ => .bl _
theorem rop_ge : ROp g (rI0 fun i j => .bl (decide (j ≤ i))) dGe := rop_I0 fun _ _ _ _ => .bl _
/-- what may stand in a list that is searched -/
def dFlat : D → Bool
  | .non => true
  | .bl _ => true
  | .int _ => true
  | .str _ => true
  | _ => false
def dEqF : D → D → Bool
  | .non, .non => true
  | .bl a, .bl b => a == b
  | .bl a, .int j => (if a then 1 else 0) == j
  | .int i, .bl b => i == (if b then 1 else 0)
  | .int i, .int j => i == j
  | .str x, .str y => x == y
  | _, _ => false
def dInL (x : D) (l : List D) : Bool := l.any fun y => dEqF y x
theorem flat_rep {p : Option Addr} {F : Hp} {v : V} {d : D} (r : Rep g p F v d) (h : dFlat d = true) : flatV v = true := by
  cases d <;> first | (cases h; done) | (cases r; rfl)
theorem str_beq (x y : List Nat) : ((⟨x.toArray⟩ : Str) == ⟨y.toArray⟩) = (x == y) := by
  by_cases h : x = y
  · subst h; simp
  · have h1 : ¬ ((⟨x.toArray⟩ : Str) = ⟨y.toArray⟩) := fun e => h (by
      have := congrArg (fun z : Str => z.cps.toList) e
      simpa using this)
    rw [beq_eq_false_iff_ne.mpr h1, beq_eq_false_iff_ne.mpr h]
theorem eqF_rep {p : Option Addr} {F : Hp} {v w : V} {d e : D} (r : Rep g p F v d) (q : Rep g p F w e) (h : dFlat d = true) (h' : dFlat e = true) : eqV v w = dEqF d e := by
  cases d <;> first | (cases h; done) | (cases e <;> first | (cases h'; done) | (cases r; cases q; first | rfl | exact str_beq _ _))
theorem flats_rep {p : Option Addr} {F : Hp} : ∀ {vs : List V} {l : List D}, Reps g p F vs l → l.all dFlat = true → vs.all flatV = true
  | _, _, .nil, _ => rfl
  | _, _, .cons r t, h => by
    rw [List.all_cons, Bool.and_eq_true] at h ⊢
    exact ⟨flat_rep r h.1, flats_rep t h.2⟩
theorem in_rep {p : Option Addr} {F : Hp} {v : V} {x : D} (rv : Rep g p F v x) (hx : dFlat x = true) : ∀ {vs : List V} {l : List D}, Reps g p F vs l → l.all dFlat = true → inV v vs = dInL x l
  | _, _, .nil, _ => rfl
  | _, _, .cons r t, h => by
    rw [List.all_cons, Bool.and_eq_true] at h
    have ih := in_rep rv hx t h.2
    unfold inV dInL at ih ⊢
    rw [List.any_cons, List.any_cons, ih, eqF_rep r rv h.1 hx]
def dIn (neg : Bool) : D → D → Option D
  | .str [c], .str s => some (.bl (if neg then !decide (c ∈ s) else decide (c ∈ s)))
  | x, .lst l => if dFlat x = true ∧ l.all dFlat = true then some (.bl (if neg then !dInL x l else dInL x l)) else none
  | x, .tup l => if dFlat x = true ∧ l.all dFlat = true then some (.bl (if neg then !dInL x l else dInL x l)) else none
  | _, _ => none
def rInA (K : PySem.W.Frag) (neg : Bool) : R2 := fun x y H Q => (∃ (c : Nat) (z : Str), x = .str ⟨#[c]⟩ ∧ y = .str z ∧ Q (.bl (if neg then !decide (c ∈ z.cps.toList) else decide (c ∈ z.cps.toList))) H) ∨ rIn K neg x y H Q
theorem op_inA {X : Cx} : OpR X (compareOp .In) (rInA X.K false) := OpR.or op_in_sign op_in_seq
theorem op_notInA {X : Cx} : OpR X (compareOp .NotIn) (rInA X.K true) := OpR.or op_notIn_sign op_notIn_seq
theorem rop_in {neg : Bool} : ROp g (rInA g.K neg) (dIn neg) := by
  intro p F H x y dx dy Q rx ry e t h
  unfold dIn at h
  split at h
  · cases rx; cases ry
    refine .inl ⟨_, _, rfl, rfl, ?_⟩
    exact h.val e t (by simpa using Rep.bl _)
  · split at h
    · rename_i hf
      cases ry with | lst h1 r1 =>
      refine .inr ⟨_, _, rfl, .inl (.inl (ext_rd e h1)), flat_rep rx hf.1, flats_rep r1 hf.2, ?_⟩
      rw [in_rep rx hf.1 r1 hf.2]
      exact h.val e t (.bl _)
    · exact h.elim
  · split at h
    · rename_i hf
      cases ry with | tup h1 r1 =>
      refine .inr ⟨_, _, rfl, .inr (ext_t e h1), flat_rep rx hf.1, flats_rep r1 hf.2, ?_⟩
      rw [in_rep rx hf.1 r1 hf.2]
      exact h.val e t (.bl _)
    · exact h.elim
  · exact h.elim
/-- is None, is True, is False -/
def dIsN (neg : Bool) : D → D → Option D
  | .pile, .non => none
  | .non, .non => some (.bl (!neg))
  | _, .non => some (.bl neg)
  | _, _ => none
theorem rop_isN : ROp g (fun x y H Q => y = .non ∧ Q (.bl (decide (x = .non))) H) (dIsN false) := by
  intro p F H x y dx dy Q rx ry e t h
  unfold dIsN at h
  split at h
  · exact h.elim
  · cases rx; cases ry
    exact ⟨rfl, h.val e t (.bl _)⟩
  · rename_i hn
    cases ry
    refine ⟨rfl, ?_⟩
    have : decide (x = V.non) = false := by
      apply decide_eq_false
      intro z; subst z
      cases rx
      exact hn rfl
    rw [this]
    exact h.val e t (.bl _)
  · exact h.elim
theorem rop_notN : ROp g (fun x y H Q => y = .non ∧ Q (.bl (!decide (x = .non))) H) (dIsN true) := by
  intro p F H x y dx dy Q rx ry e t h
  unfold dIsN at h
  split at h
  · exact h.elim
  · cases rx; cases ry
    exact ⟨rfl, h.val e t (.bl _)⟩
  · rename_i hn
    cases ry
    refine ⟨rfl, ?_⟩
    have : decide (x = V.non) = false := by
      apply decide_eq_false
      intro z; subst z
      cases rx
      exact hn rfl
    rw [this]
    exact h.val e t (.bl _)
  · exact h.elim
def dIsB (neg : Bool) : D → D → Option D
  | .bl a, .bl b => some (.bl (if neg then !decide (a = b) else decide (a = b)))
  | _, _ => none
theorem rop_isB : ROp g rIsB (dIsB false) := by
  intro p F H x y dx dy Q rx ry e t h
  unfold dIsB at h
  split at h
  · cases rx; cases ry
    exact ⟨_, _, rfl, rfl, h.val e t (.bl _)⟩
  · exact h.elim
theorem rop_notB : ROp g rNotB (dIsB true) := by
  intro p F H x y dx dy Q rx ry e t h
  unfold dIsB at h
  split at h
  · cases rx; cases ry
    exact ⟨_, _, rfl, rfl, h.val e t (.bl _)⟩
  · exact h.elim

/-! ### items -/
def dIx : D → D → Option D
  | .lst l, .int i => atI l i
  | .tup l, .int i => atI l i
  | .kst l, .int i => atI l i
  | .str s, .int i => if s.length ≤ sizeLine then (atI s i).map fun c => .str [c] else none
  | _, _ => none
theorem atI_reps {p : Option Addr} {F : Hp} {vs : List V} {l : List D} {i : Int} {d : D} (r : Reps g p F vs l) (h : atI l i = some d) : ∃ v, atI vs i = some v ∧ Rep g p F v d := by
  unfold atI at h ⊢
  rw [r.length]
  obtain ⟨j, e1, e2⟩ := Option.bind_eq_some_iff.mp h
  rw [e1]
  exact r.get e2
theorem rop_ix : ROp g (rIx g.K) dIx := by
  intro p F H x y dx dy Q rx ry e t h
  unfold dIx at h
  split at h
  · rename_i l i
    cases q : atI l i with
    | none => rw [q] at h; exact h.elim
    | some d =>
      rw [q] at h
      cases rx with | lst h1 r1 =>
      cases ry
      obtain ⟨v, hv, rv⟩ := atI_reps r1 q
      exact .inl ⟨_, _, _, v, rfl, rfl, .inl (ext_rd e h1), hv, h.val e t rv⟩
  · rename_i l i
    cases q : atI l i with
    | none => rw [q] at h; exact h.elim
    | some d =>
      rw [q] at h
      cases rx with | tup h1 r1 =>
      cases ry
      obtain ⟨v, hv, rv⟩ := atI_reps r1 q
      exact .inr (.inl ⟨_, _, _, v, rfl, rfl, ext_t e h1, hv, h.val e t rv⟩)
  · rename_i l i
    cases q : atI l i with
    | none => rw [q] at h; exact h.elim
    | some d =>
      rw [q] at h
      cases rx with | kst h1 r1 =>
      cases ry
      obtain ⟨v, hv, rv⟩ := atI_reps r1 q
      exact .inl ⟨_, _, _, v, rfl, rfl, ext_l e h1, hv, h.val e t rv⟩
  · rename_i s i
    split at h
    · rename_i hl
      cases q : atI s i with
      | none => rw [q] at h; exact h.elim
      | some c =>
        rw [q] at h
        cases rx; cases ry
        exact .inr (.inr ⟨_, _, c, rfl, rfl, by rw [str_len]; exact hl, by simpa using q, OpP.val (d := .str [c]) h e t (.str [c])⟩)
    · exact h.elim
  · exact h.elim
end
section
variable {g : Gl} {X : Cx} {W : WX} {a b : Expr} {ma mb : EM} {pos : Pos}
theorem de_ix (ha : DE g X W a ma) (hb : DE g X W b mb) (hs : PlainIx b := by intro _ _; rfl) (hK : X.K = g.K := by rfl) : DE g X W (.Subscript a b pos) (mBin dIx ma mb) := by
  obtain ⟨ta, a1, a2⟩ := ha
  obtain ⟨tb, b1, b2⟩ := hb
  refine ⟨_, pe_ix ix_seq a1 b1 hs, ?_⟩
  rw [hK]
  exact sim_bin rop_ix a2 b2
/-- a name of the def is the first: its list isn't frozen by that -/
def getB (s : S) (i : Nat) : Option D := match s.sl[i]? with
  | some (.val d) => some d
  | some (.own l) => some (.lst l)
  | _ => none
/-- v stands for d now -/
def RepH (g : Gl) (p : Option Addr) (F H : Hp) (v : V) (d : D) : Prop := Rep g p F v d ∨ ∃ a vs l, v = .ref a ∧ d = .lst l ∧ H a = some (.lst vs) ∧ Reps g p F vs l
theorem Rel.getB {p : Option Addr} {H0 F0 : Hp} {A : List Addr} {F : Hp} {s : S} {σ : L2.St} {H : Hp} {i : Nat} {d : D} (Y : Rel g p H0 F0 A F s σ H) (h : Pd.getB s i = some d) : ∃ v, σ[i]? = some (some v) ∧ RepH g p F H v d := by
  unfold Pd.getB at h
  split at h
  · rename_i q
    cases h
    obtain ⟨v, h1, r⟩ := Y.var q
    exact ⟨v, h1, .inl r⟩
  · rename_i q
    cases h
    obtain ⟨a, vs, h1, _, h3, r⟩ := Y.sl.getOwn q
    exact ⟨_, h1, .inr ⟨a, vs, _, rfl, rfl, h3, r⟩⟩
  · cases h
/-- x[i], x a name -/
def ixAt (i : Nat) (y : D) (s1 : S) : R D := match getB s1 i with
  | some .pile => (match y with
    | .int 0 => .ok (.int s1.pile) s1
    | _ => .stuck)
  | some d => R.of (dIx d y) s1
  | none => .stuck
def mIxV (i : Nat) (b : EM) : EM := fun s => match getB s i with
  | none => .stuck
  | some _ => (b s).bind (ixAt i)
theorem de_ixV {i : Nat} (ha : PE X a (tVar i)) (hb : DE g X W b mb) (hs : PlainIx b := by intro _ _; rfl) (hK : X.K = g.K := by rfl) : DE g X W (.Subscript a b pos) (mIxV i mb) := by
  obtain ⟨tb, b1, b2⟩ := hb
  refine ⟨_, pe_ix ix_seq ha b1 hs, fun p H0 F0 A F s σ H Q Y hp => ?_⟩
  unfold mIxV at hp
  cases q0 : Pd.getB s i with
  | none => rw [q0] at hp; exact hp.elim
  | some d0 =>
    rw [q0] at hp
    obtain ⟨v, hv, _⟩ := Y.getB q0
    refine ⟨v, hv, b2 p H0 F0 A F s σ H _ Y (Post.bind (k := ixAt i) hp fun y s1 w F1 H1 A1 Y1 e1 r1 hp1 => ?_)⟩
    unfold ixAt at hp1
    cases q : Pd.getB s1 i with
    | none => rw [q] at hp1; exact hp1.elim
    | some d =>
      obtain ⟨v', hv', rv⟩ := Y1.getB q
      have ev : v' = v := Option.some.inj (Option.some.inj (hv'.symm.trans hv))
      subst ev
      rw [hK]
      have gen : d ≠ .pile → rIx g.K v' w H1 Q := fun hd => by
        have hp2 : Post g W (RepV g) p H0 F0 F1 σ Q (R.of (dIx d y) s1) := by
          rw [q] at hp1
          cases d <;> first | exact hp1 | exact absurd rfl hd
        rcases rv with rv | ⟨a, vs, l, rfl, rfl, h3, rl⟩
        · exact rop_ix p F1 H1 v' w d y Q rv r1 Y1.ext Y1.tb (Post.of Y1 hp2)
        · have hp3 := Post.of Y1 hp2
          unfold dIx at hp3
          cases y <;> first | exact hp3.elim | skip
          rename_i j
          simp only at hp3
          cases q2 : atI l j with
          | none => rw [q2] at hp3; exact hp3.elim
          | some dd =>
            rw [q2] at hp3
            cases r1
            obtain ⟨z, hz, rz⟩ := atI_reps rl q2
            exact .inl ⟨_, _, _, z, rfl, rfl, .inl (.inl h3), hz, hp3.val Y1.ext Y1.tb rz⟩
      cases d with
      | pile =>
        rw [q] at hp1
        cases y <;> first | exact hp1.elim | skip
        rename_i j
        by_cases hj : j = 0
        · subst hj
          rcases rv with rv | ⟨a, vs, l, _, e, _⟩
          · cases rv with
            | pile hpa =>
              cases r1
              obtain ⟨k1, k2⟩ := Y1.pl _ hpa
              exact .inl ⟨_, _, _, _, rfl, rfl, .inl (.inl k2), rfl, hp1 _ F1 H1 A1 Y1 (Ext.refl _) (.int _)⟩
          · cases e
        · simp only at hp1
          split at hp1
          · rename_i e; cases e; exact absurd rfl hj
          · exact hp1.elim
      | _ => exact gen (by intro z; cases z)

/-! ### slices -/
def cutD {α : Type} (xs : List α) (lo hi : Option Int) : List α := (xs.drop (HT.sIx xs.length 0 lo)).take (HT.sIx xs.length xs.length hi - HT.sIx xs.length 0 lo)
def dSl : D → Option Int → Option Int → Option SV
  | .lst l, lo, hi => some (.own (cutD l lo hi))
  | .tup l, lo, hi => some (.val (.tup (cutD l lo hi)))
  | .str s, lo, hi => if s.length ≤ sizeLine then some (.val (.str (cutD s lo hi))) else none
  | _, _, _ => none
def rSlAll (K : PySem.W.Frag) : V → Option Int → Option Int → Hp → VK → Prop := fun x lo hi H Q => rSlS x lo hi H Q ∨ rSlL K x lo hi H Q ∨ rSlA K x lo hi H Q
theorem sl_all : SlR X (rSlAll X.K) := sl_str.or (sl_list.or sl_tupA)
theorem reps_cut {p : Option Addr} {F : Hp} {vs : List V} {l : List D} (r : Reps g p F vs l) (lo hi : Option Int) : Reps g p F (cutV vs lo hi) (cutD l lo hi) := by
  unfold cutV cutD
  rw [r.length]
  exact (r.drop _).take _
/-- a part of a slice -/
def PO' (g : Gl) (X : Cx) (W : WX) (e : Option Expr) (m : S → R (Option Int)) : Prop := ∃ t, PO X e t ∧ Sim g W (fun _ _ b a => b = a) t m
def pNone : S → R (Option Int) := fun s => .ok none s
def pSome (m : EM) : S → R (Option Int) := fun s => (m s).bind fun d s1 => match d with
  | .int i => .ok (some i) s1
  | _ => .stuck
theorem dpo_none : PO' g X W none pNone := ⟨_, po_none, fun p H0 F0 A F s σ H Q Y hp => hp none F H A Y (Ext.refl _) rfl⟩
theorem dpo_some (h : DE g X W a ma) : PO' g X W (some a) (pSome ma) := by
  obtain ⟨t, a1, a2⟩ := h
  refine ⟨_, po_some a1, fun p H0 F0 A F s σ H Q Y hp => a2 p H0 F0 A F s σ H _ Y (hp.bind fun d s1 v F1 H1 A1 Y1 e1 r1 hp1 => ?_)⟩
  cases d with
  | int i => cases r1; exact ⟨i, rfl, hp1 (some i) F1 H1 A1 Y1 (Ext.refl _) rfl⟩
  | _ => exact hp1.elim
def oSl (m : EM) (lo hi : S → R (Option Int)) : OM := fun s => (m s).bind fun x s1 => (lo s1).bind fun l s2 => (hi s2).bind fun h s3 => R.of ((dSl x l h).bind good1) s3
theorem do_sl {lo hi : Option Expr} {ml mh : S → R (Option Int)} {p2 : Pos} (ha : DE g X W a ma) (hl : PO' g X W lo ml) (hh : PO' g X W hi mh) (hK : X.K = g.K := by rfl) : DO g X W (.Subscript a (.Slice lo hi none p2) pos) (oSl ma ml mh) := by
  obtain ⟨t, a1, a2⟩ := ha
  obtain ⟨tl, l1, l2⟩ := hl
  obtain ⟨th, h1, h2⟩ := hh
  refine ⟨_, pe_slice sl_all a1 l1 h1, fun p H0 F0 A F s σ H Q Y hp => a2 p H0 F0 A F s σ H _ Y (PostO.bind hp fun d s1 v F1 H1 A1 Y1 e1 r1 hp1 => ?_)⟩
  refine l2 p H0 F0 A1 F1 s1 σ H1 _ Y1 (PostO.bind hp1 fun l s2 l' F2 H2 A2 Y2 e2 r2 hp2 => ?_)
  subst r2
  refine h2 p H0 F0 A2 F2 s2 σ H2 _ Y2 (PostO.bind hp2 fun u s3 u' F3 H3 A3 Y3 e3 r3 hp3 => ?_)
  subst r3
  have hp4 := PostO.of Y3 hp3
  have r4 := r1.mono (e2.trans e3)
  rw [hK]
  cases d with
  | lst xs => cases r4 with | lst k1 k2 => exact .inr (.inl ⟨_, _, rfl, .inl (ext_rd Y3.ext k1), hp4.own Y3.ext Y3.tb (reps_cut k2 _ _)⟩)
  | tup xs =>
    cases r4 with
    | tup k1 k2 =>
      refine .inr (.inr ⟨_, _, rfl, ext_t Y3.ext k1, fun hw => ?_, fun _ => hp4.tup Y3.ext Y3.tb (reps_cut k2 _ _)⟩)
      have ew : cutD xs l' u' = xs := by
        rw [k2.length] at hw
        unfold cutD
        rw [hw.1, hw.2, List.drop_zero, Nat.sub_zero]
        exact List.take_length
      have hp4 : OpPO g p F3 H3 Q (some (.val (.tup (cutD xs l' u')))) := hp4
      rw [ew] at hp4
      exact hp4.val Y3.ext Y3.tb (.tup k1 k2)
  | str z =>
    cases r4
    have hp5 : OpPO g p F3 H3 Q (if z.length ≤ sizeLine then some (.val (.str (cutD z l' u'))) else none) := hp4
    split at hp5
    · rename_i hz
      refine .inl ⟨_, rfl, by rw [str_len]; exact hz, ?_⟩
      have es : cutS (⟨z.toArray⟩ : Str) l' u' = ⟨(cutD z l' u').toArray⟩ := by
        unfold cutS cutD
        rw [str_len]
      rw [es]
      exact hp5.val Y3.ext Y3.tb (.str _)
    · exact hp5.elim
  | _ => exact hp4.elim
end
end Pd

/-! Pd, part G: built-ins, methods of lists, the pile handed on, walks. -/
namespace Pd
open PySem PySem.Spec PyProof.Rows L2

/-! ### built-ins of one argument: a list of one's own may be looked at -/
def RC1 (g : Gl) (r : List V → Hp → VK → Prop) (f : D → Option SV) : Prop := ∀ (p : Option Addr) (F H : Hp) (v : V) (d : D) (Q : VK), RepH g p F H v d → Ext F H → g.T H → OpPO g p F H Q (f d) → r [v] H Q
def oB1 (f : D → Option SV) (m : EM) : OM := fun s => (m s).bind fun d s1 => R.of ((f d).bind good1) s1
def oB1V (f : D → Option SV) (i : Nat) : OM := fun s => match getB s i with
  | some d => R.of ((f d).bind good1) s
  | none => .stuck
/-- built-ins of several -/
def RCn (g : Gl) (r : List V → Hp → VK → Prop) (f : List D → Option SV) : Prop := ∀ (p : Option Addr) (F H : Hp) (vs : List V) (ds : List D) (Q : VK), Reps g p F vs ds → Ext F H → g.T H → OpPO g p F H Q (f ds) → r vs H Q
def oBn (f : List D → Option SV) (m : AM) : OM := fun s => (m s).bind fun ds s1 => R.of ((f ds).bind good1) s1
section
variable {g : Gl} {X : Cx} {W : WX} {e : Expr} {es : List Expr} {m : EM} {ms : AM} {pos p' : Pos} {x : Str} {id T : String} {r : List V → Hp → VK → Prop} {f : D → Option SV} {fn : List D → Option SV}
theorem simO_1 {te : TE} (hr : RC1 g r f) (h : Sim g W (RepV g) te m) : SimO g W (tCB r (tCons te tNil)) (oB1 f m) := by
  intro p H0 F0 A F s σ H Q Y hp
  exact h p H0 F0 A F s σ H _ Y (PostO.bind hp fun d s1 v F1 H1 A1 Y1 e1 r1 hp1 => hr p F1 H1 v d Q (.inl r1) Y1.ext Y1.tb (PostO.of Y1 hp1))
theorem simO_1V {i : Nat} (hr : RC1 g r f) : SimO g W (tCB r (tCons (tVar i) tNil)) (oB1V f i) := by
  intro p H0 F0 A F s σ H Q Y hp
  unfold oB1V at hp
  cases q : Pd.getB s i with
  | none => rw [q] at hp; exact hp.elim
  | some d =>
    rw [q] at hp
    obtain ⟨v, hv, rv⟩ := Y.getB q
    exact ⟨v, hv, hr p F H v d Q rv Y.ext Y.tb (PostO.of Y hp)⟩
theorem simO_n {ta : TA} (hr : RCn g r fn) (h : Sim g W (RepA g) ta ms) : SimO g W (tCB r ta) (oBn fn ms) := by
  intro p H0 F0 A F s σ H Q Y hp
  exact h p H0 F0 A F s σ H _ Y (PostO.bind hp fun d s1 v F1 H1 A1 Y1 e1 r1 hp1 => hr p F1 H1 v d Q r1 Y1.ext Y1.tb (PostO.of Y1 hp1))
theorem do_b1 (hc : CallR X (.builtin id) r) (hr : RC1 g r f) (hg : L2.Gl X x) (hm : X.mg x = none) (hv : bootBuiltins x = some (.builtin id)) (h : DE g X W e m) (hn : x ≠ "__name__" := by decide) (hdb : (x == ("__debug__" : Str)) = false := by decide)
    (he : starEach [e] X.env = (false, eval e X.env) :: starEach [] X.env := by rfl) (hpl : (backTo pos (starEach [] X.env)).any (·.1) = false := by rfl) : DO g X W (.Call (.Name x p') [e] [] pos) (oB1 f m) := by
  obtain ⟨t, a1, a2⟩ := h
  exact ⟨_, pe_callB hc hg hm hv (pa_cons a1 pa_nil he) hn hdb he hpl, simO_1 hr a2⟩
theorem do_b1V {i : Nat} (hc : CallR X (.builtin id) r) (hr : RC1 g r f) (hg : L2.Gl X x) (hm : X.mg x = none) (hv : bootBuiltins x = some (.builtin id)) (h : PE X e (tVar i)) (hn : x ≠ "__name__" := by decide) (hdb : (x == ("__debug__" : Str)) = false := by decide)
    (he : starEach [e] X.env = (false, eval e X.env) :: starEach [] X.env := by rfl) (hpl : (backTo pos (starEach [] X.env)).any (·.1) = false := by rfl) : DO g X W (.Call (.Name x p') [e] [] pos) (oB1V f i) :=
  ⟨_, pe_callB hc hg hm hv (pa_cons h pa_nil he) hn hdb he hpl, simO_1V hr⟩
theorem do_t1 (hc : CallR X (.type T) r) (hr : RC1 g r f) (hg : L2.Gl X x) (hm : X.mg x = none) (hv : bootBuiltins x = some (.type T)) (h : DE g X W e m) (hn : x ≠ "__name__" := by decide) (hdb : (x == ("__debug__" : Str)) = false := by decide)
    (he : starEach [e] X.env = (false, eval e X.env) :: starEach [] X.env := by rfl) (hpl : (backTo pos (starEach [] X.env)).any (·.1) = false := by rfl) : DO g X W (.Call (.Name x p') [e] [] pos) (oB1 f m) := by
  obtain ⟨t, a1, a2⟩ := h
  exact ⟨_, pe_callTy hc hg hm hv (pa_cons a1 pa_nil he) hn hdb he hpl, simO_1 hr a2⟩
theorem do_t1V {i : Nat} (hc : CallR X (.type T) r) (hr : RC1 g r f) (hg : L2.Gl X x) (hm : X.mg x = none) (hv : bootBuiltins x = some (.type T)) (h : PE X e (tVar i)) (hn : x ≠ "__name__" := by decide) (hdb : (x == ("__debug__" : Str)) = false := by decide)
    (he : starEach [e] X.env = (false, eval e X.env) :: starEach [] X.env := by rfl) (hpl : (backTo pos (starEach [] X.env)).any (·.1) = false := by rfl) : DO g X W (.Call (.Name x p') [e] [] pos) (oB1V f i) :=
  ⟨_, pe_callTy hc hg hm hv (pa_cons h pa_nil he) hn hdb he hpl, simO_1V hr⟩
theorem do_bn (hc : CallR X (.builtin id) r) (hr : RCn g r fn) (hg : L2.Gl X x) (hm : X.mg x = none) (hv : bootBuiltins x = some (.builtin id)) (h : DA g X W (e :: es) ms) (hn : x ≠ "__name__" := by decide) (hdb : (x == ("__debug__" : Str)) = false := by decide)
    (he : starEach (e :: es) X.env = (false, eval e X.env) :: starEach es X.env := by rfl) (hpl : (backTo pos (starEach es X.env)).any (·.1) = false := by rfl) : DO g X W (.Call (.Name x p') (e :: es) [] pos) (oBn fn ms) := by
  obtain ⟨t, a1, a2⟩ := h
  exact ⟨_, pe_callB hc hg hm hv a1 hn hdb he hpl, simO_n hr a2⟩
theorem de_ty {n : String} (hg : L2.Gl X x) (hm : X.mg x = none) (hv : bootBuiltins x = some (.type n)) (hn : x ≠ "__name__" := by decide) (hdb : (x == ("__debug__" : Str)) = false := by decide) : DE g X W (.Name x pos) (mC (.ty n)) :=
  de_c (pe_bltn (v := .ty n) hg hm hv rfl hn hdb) fun _ _ => .ty n
/-- a module's constant -/
theorem de_glob {v : V} {u : Value} {d : D} (hg : L2.Gl X x) (hm : X.mg x = some u) (rv : RelV v u) (r : ∀ p F, Rep g p F v d) (hdb : (x == ("__debug__" : Str)) = false := by decide) : DE g X W (.Name x pos) (mC d) :=
  de_c (pe_glob hg hm rv hdb) r
end
section
variable {g : Gl}
theorem RepH.lst {p : Option Addr} {F H : Hp} {v : V} {l : List D} (h : RepH g p F H v (.lst l)) (e : Ext F H) : ∃ a vs, v = .ref a ∧ Rd H a (.lst vs) ∧ Reps g p F vs l := by
  rcases h with h | ⟨a, vs, l', rfl, e1, h1, h2⟩
  · cases h with | lst h1 r1 => exact ⟨_, _, rfl, ext_rd e h1, r1⟩
  · cases e1; exact ⟨a, vs, rfl, .inl h1, h2⟩
theorem RepH.rep {p : Option Addr} {F H : Hp} {v : V} {d : D} (h : RepH g p F H v d) (n : ∀ l, d ≠ .lst l) : Rep g p F v d := by
  rcases h with h | ⟨a, vs, l', rfl, e1, h1, h2⟩
  · exact h
  · exact absurd e1 (n l')
/-- len -/
def dLen : D → Option SV
  | .lst l => some (.val (.int l.length))
  | .tup l => some (.val (.int l.length))
  | .kst l => some (.val (.int l.length))
  | .str s => if s.length ≤ sizeLine then some (.val (.int s.length)) else none
  | _ => none
theorem rc_len : RC1 g (fun xs H Q => ∃ x n, xs = [x] ∧ LenV g.K x H n ∧ Q (.int n) H) dLen := by
  intro p F H v d Q r e t h
  cases d with
  | lst l =>
    obtain ⟨a, vs, rfl, h1, r1⟩ := r.lst e
    refine ⟨_, _, rfl, .inl ⟨vs, .inl h1, rfl⟩, ?_⟩
    rw [r1.length]
    exact OpPO.val (d := .int _) h e t (.int _)
  | tup l =>
    cases r.rep (by intro l h; cases h) with | tup h1 r1 =>
    refine ⟨_, _, rfl, .inr ⟨_, ext_t e h1, rfl⟩, ?_⟩
    rw [r1.length]
    exact OpPO.val (d := .int _) h e t (.int _)
  | kst l =>
    cases r.rep (by intro l h; cases h) with | kst h1 r1 =>
    refine ⟨_, _, rfl, .inl ⟨_, ext_l e h1, rfl⟩, ?_⟩
    rw [r1.length]
    exact OpPO.val (d := .int _) h e t (.int _)
  | str s =>
    cases r.rep (by intro l h; cases h)
    have h : OpPO g p F H Q (if s.length ≤ sizeLine then some (.val (.int s.length)) else none) := h
    split at h
    · rename_i hl
      refine ⟨_, _, rfl, ⟨by rw [str_len]; exact hl, rfl⟩, ?_⟩
      rw [str_len]
      exact h.val e t (.int _)
    · exact h.elim
  | _ => exact h.elim
def dInt : D → Option SV
  | .int i => some (.val (.int i))
  | .bl k => some (.val (.int (if k = true then 1 else 0)))
  | _ => none
theorem rc_int : RC1 g (fun xs H Q => (∃ i, xs = [.int i] ∧ Q (.int i) H) ∨ ∃ k, xs = [.bl k] ∧ Q (.int (if k then 1 else 0)) H) dInt := by
  intro p F H v d Q r e t h
  cases d with
  | int i => cases r.rep (by intro l h; cases h); exact .inl ⟨i, rfl, OpPO.val (d := .int _) h e t (.int _)⟩
  | bl k => cases r.rep (by intro l h; cases h); exact .inr ⟨k, rfl, OpPO.val (d := .int _) h e t (.int _)⟩
  | _ => exact h.elim
def bools : List D → Option (List Bool)
  | [] => some []
  | .bl b :: r => (bools r).map (b :: ·)
  | _ :: _ => none
theorem bools_rep {p : Option Addr} {F : Hp} : ∀ {vs : List V} {l : List D} {bs : List Bool}, Reps g p F vs l → bools l = some bs → vs = bs.map V.bl
  | _, _, _, .nil, e => by cases e; rfl
  | _, _, _, .cons (d := d) r t, e => by
    cases d with
    | bl b =>
      cases r
      obtain ⟨bs, e1, e2⟩ := Option.map_eq_some_iff.mp e
      subst e2
      rw [bools_rep t e1]
      rfl
    | _ => cases e
def dAll : D → Option SV
  | .lst l => (bools l).map fun bs => .val (.bl (bs.all id))
  | _ => none
def dAny : D → Option SV
  | .lst l => (bools l).map fun bs => .val (.bl (bs.any id))
  | _ => none
theorem rc_all : RC1 g (rAll g.K) dAll := by
  intro p F H v d Q r e t h
  cases d with
  | lst l =>
    obtain ⟨a, vs, rfl, h1, r1⟩ := r.lst e
    have h : OpPO g p F H Q ((bools l).map fun bs => .val (.bl (bs.all id))) := h
    cases q : bools l with
    | none => rw [q] at h; exact h.elim
    | some bs =>
      rw [q] at h
      have ev := bools_rep r1 q
      subst ev
      exact ⟨a, bs, rfl, .inl h1, OpPO.val (d := .bl _) h e t (.bl _)⟩
  | _ => exact h.elim
theorem rc_any : RC1 g (rAny g.K) dAny := by
  intro p F H v d Q r e t h
  cases d with
  | lst l =>
    obtain ⟨a, vs, rfl, h1, r1⟩ := r.lst e
    have h : OpPO g p F H Q ((bools l).map fun bs => .val (.bl (bs.any id))) := h
    cases q : bools l with
    | none => rw [q] at h; exact h.elim
    | some bs =>
      rw [q] at h
      have ev := bools_rep r1 q
      subst ev
      exact ⟨a, bs, rfl, .inl h1, OpPO.val (d := .bl _) h e t (.bl _)⟩
  | _ => exact h.elim
/-- list(x), tuple(x) -/
def dList : D → Option SV
  | .lst l => some (.own l)
  | .tup l => some (.own l)
  | _ => none
theorem rc_list : RC1 g (fun xs H Q => ∃ p ys, xs = [.ref p] ∧ (SqL g.K H p ys ∨ SqT g.K H p ys) ∧ ∀ l, H l = none → Q (.ref l) (upd H l (.lst ys))) dList := by
  intro p F H v d Q r e t h
  cases d with
  | lst l =>
    obtain ⟨a, vs, rfl, h1, r1⟩ := r.lst e
    exact ⟨a, vs, rfl, .inl (.inl h1), OpPO.own (l := l) h e t r1⟩
  | tup l =>
    cases r.rep (by intro l h; cases h) with | tup h1 r1 =>
    exact ⟨_, _, rfl, .inr (ext_t e h1), OpPO.own (l := l) h e t r1⟩
  | _ => exact h.elim
def dTuple : D → Option SV
  | .lst l => some (.val (.tup l))
  | .tup l => some (.val (.tup l))
  | _ => none
theorem rc_tuple : RC1 g (fun xs H Q => ∃ p ys, xs = [.ref p] ∧ ((SqL g.K H p ys ∧ ∀ l, H l = none → Q (.ref l) (upd H l (.tup ys))) ∨ (SqT g.K H p ys ∧ Q (.ref p) H))) dTuple := by
  intro p F H v d Q r e t h
  cases d with
  | lst l =>
    obtain ⟨a, vs, rfl, h1, r1⟩ := r.lst e
    exact ⟨a, vs, rfl, .inl ⟨.inl h1, OpPO.tup (l := l) h e t r1⟩⟩
  | tup l =>
    cases r.rep (by intro l h; cases h) with | tup h1 r1 =>
    exact ⟨_, _, rfl, .inr ⟨ext_t e h1, OpPO.val (d := .tup l) h e t (.tup h1 r1)⟩⟩
  | _ => exact h.elim
/-- max, min of two ints -/
def dMax2 : List D → Option SV
  | [.int i, .int j] => some (.val (.int (if j > i then j else i)))
  | _ => none
def dMin2 : List D → Option SV
  | [.int i, .int j] => some (.val (.int (if j < i then j else i)))
  | _ => none
theorem rc_max2 : RCn g (fun xs H Q => ∃ i j, xs = [.int i, .int j] ∧ Q (.int (if j > i then j else i)) H) dMax2 := by
  intro p F H vs ds Q r e t h
  unfold dMax2 at h
  split at h
  · obtain ⟨v, w, rfl, rv, rw'⟩ := r.two
    cases rv; cases rw'
    exact ⟨_, _, rfl, h.val e t (.int _)⟩
  · exact h.elim
theorem rc_min2 : RCn g (fun xs H Q => ∃ i j, xs = [.int i, .int j] ∧ Q (.int (if j < i then j else i)) H) dMin2 := by
  intro p F H vs ds Q r e t h
  unfold dMin2 at h
  split at h
  · obtain ⟨v, w, rfl, rv, rw'⟩ := r.two
    cases rv; cases rw'
    exact ⟨_, _, rfl, h.val e t (.int _)⟩
  · exact h.elim
/-- isinstance against a built-in type -/
def tyName : D → Option String
  | .non => some "NoneType"
  | .bl _ => some "bool"
  | .int _ => some "int"
  | .str _ => some "str"
  | .tup _ => some "tuple"
  | .lst _ => some "list"
  | _ => none
theorem tyx_of {p : Option Addr} {F H : Hp} {v : V} {d : D} {n : String} (r : Rep g p F v d) (e : Ext F H) (h : tyName d = some n) : TyX g.K H v (.type n) := by
  cases d with
  | non => cases r; cases h; exact .base .non
  | bl b => cases r; cases h; exact .base (.bl b)
  | int i => cases r; cases h; exact .base (.int i)
  | str s => cases r; cases h; exact .base (.str _)
  | tup l =>
    cases h
    cases r with | tup h1 r1 =>
    rcases h1 with (h1 | ⟨o, h1⟩) | ⟨o, its, n, hk, hc, _⟩
    · exact .base (.tup (e _ _ h1))
    · exact .fTuple (e _ _ h1)
    · exact .kTuple hk hc
  | lst l =>
    cases h
    cases r with | lst h1 r1 =>
    rcases h1 with h1 | ⟨o, h1⟩
    · exact .base (.lst (e _ _ h1))
    · exact .base (.frz (e _ _ h1))
  | _ => cases h
def dIsi : List D → Option SV
  | [d, .ty n] => (tyName d).bind fun t => (kitB t n).map fun b => .val (.bl b)
  | _ => none
theorem rc_isi : RCn g (rIsi g.K) dIsi := by
  intro p F H vs ds Q r e t h
  unfold dIsi at h
  split at h
  · rename_i d n
    obtain ⟨v, w, rfl, rv, rw'⟩ := r.two
    cases rw'
    cases q : tyName d with
    | none => rw [q] at h; exact h.elim
    | some tn =>
      rw [q] at h
      have h : OpPO g p F H Q ((kitB tn n).map fun b => .val (.bl b)) := h
      cases q2 : kitB tn n with
      | none => rw [q2] at h; exact h.elim
      | some b =>
        rw [q2] at h
        exact ⟨v, .ty n, .type tn, .type n, b, rfl, .ty n, tyx_of rv e q, kit_ty q2, OpPO.val (d := .bl b) h e t (.bl b)⟩
  · exact h.elim
/-- repr of None, of an int -/
def codes (x : Str) : List Nat := x.cps.toList
def dRepr : D → Option SV
  | .non => some (.val (.str (codes "None")))
  | .int i => if i.natAbs.log2 < 1920 then some (.val (.str (codes (toString i : String)))) else none
  | _ => none
def rReprA : List V → Hp → VK → Prop := fun xs H Q => (∃ i : Int, xs = [.int i] ∧ i.natAbs.log2 < 1920 ∧ Q (.str (toString i : String)) H) ∨ (xs = [.non] ∧ Q (.str "None") H)
theorem call_reprA {X : Cx} : CallR X (.builtin "repr") rReprA := by
  intro pins s σ H xs us Q I r h
  rcases h with h | ⟨rfl, q⟩
  · exact SkE.call_repr_int pins s σ H xs us Q I r h
  · obtain ⟨u, rfl, hu⟩ := vals1 r
    cases hu
    exact PySem.P.repr_of_none ⟨.str "None", H, I.tok _, ⟨_, rfl⟩, q⟩
theorem rc_repr : RC1 g rReprA dRepr := by
  intro p F H v d Q r e t h
  cases d with
  | non => cases r.rep (by intro l h; cases h); exact .inr ⟨rfl, OpPO.val (d := .str _) h e t (rep_str _)⟩
  | int i =>
    cases r.rep (by intro l h; cases h)
    have h : OpPO g p F H Q (if i.natAbs.log2 < 1920 then some (.val (.str (codes (toString i : String)))) else none) := h
    split at h
    · rename_i hl
      exact .inl ⟨i, rfl, hl, h.val e t (rep_str _)⟩
    · exact h.elim
  | _ => exact h.elim
end

/-! ### lists of one's own: append, insert, xs[i] = e, xs += ys -/
section
variable {g : Gl} {X : Cx} {W : WX} {a b e : Expr} {m mb : EM} {pos p' apos : Pos}
theorem Rel.setList {p : Option Addr} {H0 F0 : Hp} {A : List Addr} {F : Hp} {s : S} {σ : L2.St} {H : Hp} {i : Nat} {l l' : List D} {vs' : List V} (Y : Rel g p H0 F0 A F s σ H) (q : s.sl[i]? = some (.own l)) (r : Reps g p F vs' l') :
    ∃ a vs, σ[i]? = some (some (.ref a)) ∧ H a = some (.lst vs) ∧ Reps g p F vs l ∧ ∃ A', Rel g p H0 F0 A' F { s with sl := s.sl.set i (.own l') } σ (upd H a (.lst vs')) := by
  obtain ⟨a, vs, A1, h1, h2, h3, h4, h5, h6, h7, h8, h9, q1⟩ := Y.sl.takeOwn i l q
  refine ⟨a, vs, h1, h2, h3, ?_⟩
  have q2 : Sl g p H0 F (upd H a (.lst vs')) A1 (s.sl.set i .no) σ := q1.mono (Ext.refl _) fun b hb => ⟨upd_ne fun z => h8 (by rw [← z]; exact hb), (q1.facts b hb).2.1⟩
  obtain ⟨A2, _, q3⟩ := q2.setOwn (a := a) upd_same r h4 h5 h6 h8 i
  rw [set_self h1, List.set_set] at q3
  refine ⟨A2, fun b u q => ?_, Y.ef0, Y.fr, fun b u q np no => ?_, fun b q => ?_, fun b e => ?_, g.Tu _ _ _ Y.tb (.inr (.inl ⟨_, h2⟩)), q3⟩
  · rw [upd_ne (fun z => by rw [z, h4] at q; cases q)]; exact Y.ext b u q
  · rw [upd_ne (fun z => by rw [z, h5] at q; cases q)]; exact Y.evo b u q np no
  · by_cases hb : b = a
    · rw [hb]; exact h5
    · rw [upd_ne hb] at q; exact Y.al b q
  · obtain ⟨y1, y2⟩ := Y.pl b e
    exact ⟨y1, by rw [upd_ne (fun z => h6 (by rw [e, z]))]; exact y2⟩
/-- x.append(e), a statement -/
def mApp (i : Nat) (m : EM) : SM := fun s => match s.sl[i]? with
  | some (.own _) => (m s).bs fun d s1 => match s1.sl[i]? with
    | some (.own l) => if l.length < sizeLine then .nx { s1 with sl := s1.sl.set i (.own (l ++ [d])) } else .stuck
    | _ => .stuck
  | _ => .stuck
theorem ds_app {i : Nat} {pe : Pos} (ha : PE X a (tVar i)) (h : DE g X W e m)
    (hbase : attributeBase a "append" X.env (eval a X.env) = eval a X.env := by rfl)
    (hfew : ((backTo pos (starEach [e] X.env)).all (fun x => !x.1) && (backToKw pos (keywordEach [] X.env)).all (fun x => x.1.isSome)
      && decide ([e].length + ([] : List Keyword).length + (if ([] : List Keyword).isEmpty then 0 else 1) < 30)) = true := by rfl)
    (hline : (apos.endLine == pos.line) = true := by rfl) (hst : starEach [e] X.env = (false, eval e X.env) :: starEach [] X.env := by rfl) (hplain : (backTo pos (starEach [] X.env)).any (·.1) = false := by rfl)
    (hs : swapsWith (.Call (.Attribute a "append" apos) [e] [] pos) none pe.line X.env = pure false := by rfl) : DS g X W (.Expr (.Call (.Attribute a "append" apos) [e] [] pos) pe) (mApp i m) := by
  have hb' := pe_bm (apos := apos) (cpos := pos) PySem.F.plainAttrs_list PySem.F.slot_list_append PySem.F.type_list_append (X := X) mt_append ha (pa_cons h.can pa_nil hst) hbase hfew hline hst hplain
  refine ⟨_, ps_expr hb' hs, fun p H0 F0 A F s σ H Dn Y hp => ?_⟩
  unfold mApp at hp
  cases q : s.sl[i]? with
  | none => rw [q] at hp; exact hp.elim
  | some sv =>
    rw [q] at hp
    cases sv with
    | no => exact hp.elim
    | val d => exact hp.elim
    | dct l => exact hp.elim
    | own l =>
      obtain ⟨a0, vs0, h1, _, h2, r2⟩ := Y.sl.getOwn q
      refine ⟨.ref a0, h1, .inl ⟨rfl, vs0, .inl (.inl h2)⟩, ?_⟩
      refine (sim_can (g := g) (W := W) (m := m)) p H0 F0 A F s σ H _ Y (PostS.bs hp fun d s1 v F1 H1 A1 Y1 e1 r1 hp1 => ?_)
      cases q1 : s1.sl[i]? with
      | none => rw [q1] at hp1; exact hp1.elim
      | some sv1 =>
        rw [q1] at hp1
        cases sv1 with
        | no => exact hp1.elim
        | val d => exact hp1.elim
        | dct l => exact hp1.elim
        | own l1 =>
          obtain ⟨a1, vs1, k1, _, k2, k3⟩ := Y1.sl.getOwn q1
          have ea : a1 = a0 := by
            have := k1.symm.trans h1
            injection (Option.some.inj (Option.some.inj this))
          subst ea
          have hp2 : PostS g W p H0 F0 F1 Dn (if l1.length < sizeLine then .nx { s1 with sl := s1.sl.set i (.own (l1 ++ [d])) } else .stuck) := hp1
          split at hp2
          · rename_i hl
            obtain ⟨a2, vs2, z1, z2, z3, A2, Y2⟩ := Y1.setList q1 (k3.append (.cons r1 .nil))
            have ea2 : a2 = a1 := by
              have := z1.symm.trans k1
              injection (Option.some.inj (Option.some.inj this))
            subst ea2
            exact ⟨a2, vs1, v, rfl, rfl, k2, by rw [k3.length]; exact hl, hp2 σ F1 _ A2 Y2 (Ext.refl _)⟩
          · exact hp2.elim
end
end Pd

/-! Pd, part H: the pile, walks of any kind. -/
namespace Pd
open PySem PySem.Spec PyProof.Rows L2

/-! ### the pile stored to -/
section
variable {g : Gl} {X : Cx} {W : WX} {a b e : Expr} {m mb : EM} {pos p' : Pos}
theorem Rel.setPile {p : Option Addr} {H0 F0 : Hp} {A : List Addr} {F : Hp} {s : S} {σ : L2.St} {H : Hp} {a : Addr} {n : Int} (Y : Rel g p H0 F0 A F s σ H) (ha : p = some a) : Rel g p H0 F0 A F { s with pile := n } σ (upd H a (.lst [.int n])) := by
  obtain ⟨k1, k2⟩ := Y.pl a ha
  refine ⟨fun b u q => ?_, Y.ef0, Y.fr, fun b u q np no => ?_, fun b q => ?_, fun b e => ?_, g.Tu _ _ _ Y.tb (.inr (.inl ⟨_, k2⟩)), Y.sl.mono (Ext.refl _) fun b hb => ⟨upd_ne fun z => (Y.sl.facts b hb).2.2.1 (by rw [ha, z]), (Y.sl.facts b hb).2.1⟩⟩
  · rw [upd_ne (fun z => by rw [z, k1] at q; cases q)]; exact Y.ext b u q
  · rw [upd_ne (fun z => np (by rw [ha, z]))]; exact Y.evo b u q np no
  · by_cases hb : b = a
    · rw [hb, upd_same] at q; cases q
    · rw [upd_ne hb] at q; exact Y.al b q
  · have eb : b = a := by rw [ha] at e; exact (Option.some.inj e).symm
    subst eb
    exact ⟨k1, upd_same⟩
/-- pile[0] = e -/
def mPileSet (i : Nat) (m : EM) : SM := fun s => (m s).bs fun d s1 => match d, s1.sl[i]? with
  | .int n, some (.val .pile) => .nx { s1 with pile := n }
  | _, _ => .stuck
theorem ds_pileSet {i j : Nat} {cp ap : Pos} (h : DE g X W e m) (ha : PE X a (tVar i)) (hass : ∀ v, assign (.Subscript a (.Constant (.int 0) j cp) ap) X.env v = (do
      let ov ← holding [v] (eval a X.env)
      let iv ← holding [v, ov] (eval (.Constant (.int 0) j cp) X.env)
      standAt ap
      holding [v, ov, iv] (setItem ov iv v)
      release [v, ov, iv] []) := by intro _; rfl)
    (hs : swapsWithSole [.Subscript a (.Constant (.int 0) j cp) ap] e pos.line X.env = pure false := by rfl) (hw : swappedStores [.Subscript a (.Constant (.int 0) j cp) ap] e X.env = pure none := by rfl)
    (h1 : (assignEach [.Subscript a (.Constant (.int 0) j cp) ap] X.env).map (·.2) = [assign (.Subscript a (.Constant (.int 0) j cp) ap) X.env] := by rfl) :
    DS g X W (.Assign [.Subscript a (.Constant (.int 0) j cp) ap] e pos) (mPileSet i m) := by
  obtain ⟨t, a1, a2⟩ := h
  refine ⟨_, ps_asg a1 (pg_sub ha pe_int set_list hass) hs hw h1, fun p H0 F0 A F s σ H Dn Y hp => a2 p H0 F0 A F s σ H _ Y (PostS.bs hp fun d s1 v F1 H1 A1 Y1 e1 r1 hp1 => ?_)⟩
  split at hp1
  · rename_i n q
    cases r1
    obtain ⟨w, hw', rw'⟩ := Y1.var q
    cases rw' with
    | pile hpa =>
      obtain ⟨k1, k2⟩ := Y1.pl _ hpa
      exact ⟨_, hw', _, _, 0, 0, rfl, rfl, k2, rfl, hp1 σ F1 _ A1 (Y1.setPile hpa) (Ext.refl _)⟩
  · exact hp1.elim

/-! ### a list of one int handed on as the pile -/
mutual
def noPile : D → Bool
  | .pile => false
  | .tup l => noPiles l
  | .lst l => noPiles l
  | .kst l => noPiles l
  | .clo _ l => noPiles l
  | _ => true
def noPiles : List D → Bool
  | [] => true
  | d :: r => noPile d && noPiles r
end
mutual
theorem Rep.swap {p q : Option Addr} {F : Hp} : ∀ {v : V} {d : D}, Rep g p F v d → noPile d = true → Rep g q F v d
  | _, _, .non, _ => .non
  | _, _, .bl b, _ => .bl b
  | _, _, .int i, _ => .int i
  | _, _, .str s, _ => .str s
  | _, _, .tup h r, n => .tup h (Reps.swap r (by simpa [noPile] using n))
  | _, _, .lst h r, n => .lst h (Reps.swap r (by simpa [noPile] using n))
  | _, _, .kst h r, n => .kst h (Reps.swap r (by simpa [noPile] using n))
  | _, _, .pile h, n => by simp [noPile] at n
  | _, _, .exc h1 h2 h3, _ => .exc h1 h2 h3
  | _, _, .clo h r, n => .clo h (Reps.swap r (by simpa [noPile] using n))
  | _, _, .ty n, _ => .ty n
  | _, _, .cls h, _ => .cls h
theorem Reps.swap {p q : Option Addr} {F : Hp} : ∀ {vs : List V} {ds : List D}, Reps g p F vs ds → noPiles ds = true → Reps g q F vs ds
  | _, _, .nil, _ => .nil
  | _, _, .cons r t, n => by
    simp only [noPiles, Bool.and_eq_true] at n
    exact .cons (Rep.swap r n.1) (Reps.swap t n.2)
end
theorem Rel.callR {p : Option Addr} {H0 F0 : Hp} {A : List Addr} {F F' : Hp} {s : S} {σ : L2.St} {H H' : Hp} {i : Nat} {l : List D} {n' : Int} {a : Addr} (Y : Rel g p H0 F0 A F s σ H) (q : s.sl[i]? = some (.own l)) (ha : σ[i]? = some (some (.ref a))) (hne : ∃ vs, H a = some (.lst vs)) (G : Gr g (some a) F H F' H') (P : PileOk (some a) n' F' H') :
    ∃ A', (∀ b ∈ A', b ∈ A ∨ b = a) ∧ Rel g p H0 F0 A' F' { s with sl := s.sl.set i (.own [.int n']) } σ H' := by
  obtain ⟨a0, vs, A1, h1, h2, h3, h4, h5, h6, h7, h8, h9, q1⟩ := Y.sl.takeOwn i l q
  have ea : a0 = a := by
    have := h1.symm.trans ha
    injection (Option.some.inj (Option.some.inj this))
  subst ea
  obtain ⟨z1, z2⟩ := P a0 rfl
  have q2 : Sl g p H0 F' H' A1 (s.sl.set i .no) σ := q1.mono G.ff fun b hb => by
    obtain ⟨y0, y1, y2, y3⟩ := q1.facts b hb
    have nb : (some a0 : Option Addr) ≠ some b := fun z => h8 (by rw [Option.some.inj z]; exact hb)
    constructor
    · rcases y3 with ⟨vs, y3⟩ | ⟨vs, y3⟩ <;> (rw [y3]; exact G.hh b _ y3 nb trivial)
    · cases w : F' b with
      | none => rfl
      | some o =>
        rcases G.nw b o w with y | y
        · rw [y1] at y; cases y
        · rcases y3 with ⟨vs, y3⟩ | ⟨vs, y3⟩ <;> (rw [y3] at y; cases y)
  obtain ⟨A2, m2, q3⟩ := q2.setOwn (a := a0) (vs := [.int n']) (l := [.int n']) z2 (.cons (.int _) .nil) z1 h5 h6 h8 i
  rw [set_self h1, List.set_set] at q3
  refine ⟨A2, fun b hb => (m2 b hb).elim .inr fun z => .inl (h9 b z), G.fh, Y.ef0.trans G.ff, fun b o w => (G.nw b o w).elim (Y.fr b o) fun z => .inr (Y.al b z), fun b o w np no => ?_, fun b w => Y.al b (G.al b w), fun b e => ?_, G.tb, q3⟩
  · exact G.hh b o (Y.evo b o w np no) (fun z => by rw [← Option.some.inj z, h5] at w; cases w) no
  · obtain ⟨y1, y2⟩ := Y.pl b e
    have nb : (some a0 : Option Addr) ≠ some b := fun z => h6 (by rw [e, z])
    refine ⟨?_, G.hh b _ y2 nb trivial⟩
    cases w : F' b with
    | none => rfl
    | some o =>
      rcases G.nw b o w with y | y
      · rw [y1] at y; cases y
      · rw [y2] at y; cases y
def outR (i : Nat) (r : FR) (s : S) : R SV := match r with
  | .ok (.val d) n => if noPile d = true then .ok (.val d) { s with sl := s.sl.set i (.own [.int n]) } else .stuck
  | .ok (.own l) n => if noPiles l = true then .ok (.own l) { s with sl := s.sl.set i (.own [.int n]) } else .stuck
  | .ok _ _ => .stuck
  | .exc c m n => .exc c m { s with sl := s.sl.set i (.own [.int n]) }
  | .stuck => .stuck
def oCallR (i : Nat) (f : FM) (m : AM) : OM := fun s => match s.sl[i]? with
  | some (.own _) => (m s).bind fun ds s1 => match s1.sl[i]? with
    | some (.own [.int n]) => if noPiles ds = true then outR i (f (.pile :: ds) n) s1 else .stuck
    | _ => .stuck
  | _ => .stuck
theorem do_callR {i k : Nat} {f : FM} {x : Str} {es : List Expr} {m : AM} (C : Cal X.prog X.w X.K X.mg X.base g k x f) (hr : Room k X.A) (hg : L2.Gl X x) (tk : Takes X W) (ha : PE X a (tVar i)) (hm : DA g X W es m)
    (hdb : (x == ("__debug__" : Str)) = false := by decide) (he : starEach (a :: es) X.env = (false, eval a X.env) :: starEach es X.env := by rfl) (hpl : (backTo pos (starEach es X.env)).any (·.1) = false := by rfl) : DO g X W (.Call (.Name x p') (a :: es) [] pos) (oCallR i f m) := by
  obtain ⟨fa, fd, ps, F, gm, kp, b⟩ := C.ex
  obtain ⟨t, a1, a2⟩ := hm
  refine ⟨_, pe_callS F hr hg gm kp b (fun σ => passAt tk σ) (pa_cons ha a1 he) hdb he hpl, fun p H0 F0 A F0' s σ H Q Y hp => ?_⟩
  unfold oCallR at hp
  cases q : s.sl[i]? with
  | none => rw [q] at hp; exact hp.elim
  | some sv =>
    rw [q] at hp
    cases sv with
    | no => exact hp.elim
    | val d => exact hp.elim
    | dct l => exact hp.elim
    | own l =>
      obtain ⟨a0, vs0, h1, _, h2, r2⟩ := Y.sl.getOwn q
      refine ⟨.ref a0, h1, a2 p H0 F0 A F0' s σ H _ Y (PostO.bind hp fun ds s1 vs F1 H1 A1 Y1 e1 r1 hp1 => ?_)⟩
      cases q1 : s1.sl[i]? with
      | none => rw [q1] at hp1; exact hp1.elim
      | some sv1 =>
        rw [q1] at hp1
        cases sv1 with
        | no => exact hp1.elim
        | val d => exact hp1.elim
        | dct l => exact hp1.elim
        | own l1 =>
          obtain ⟨a1', vs1, k1, km, k2, k3⟩ := Y1.sl.getOwn q1
          have ea : a1' = a0 := by
            have := k1.symm.trans h1
            injection (Option.some.inj (Option.some.inj this))
          subst ea
          obtain ⟨f0, ff, fp, _⟩ := Y1.sl.facts a1' km
          cases l1 with
          | nil => exact hp1.elim
          | cons d0 rr =>
            cases d0 with
            | int n =>
              cases rr with
              | cons _ _ => exact hp1.elim
              | nil =>
                have hp2 : PostO g W p H0 F0 F1 σ Q (if noPiles ds = true then outR i (f (.pile :: ds) n) s1 else .stuck) := hp1
                split at hp2
                · rename_i hn
                  have ev : vs1 = [.int n] := by
                    obtain ⟨w, rfl, rw'⟩ := k3.one
                    cases rw'
                    rfl
                  subst ev
                  refine ⟨some a1', F1, .pile :: ds, n, .cons (.pile rfl) (Reps.swap r1 hn), Y1.ext, fun b e => ?_, Y1.tb, ?_⟩
                  · cases e; exact ⟨ff, k2⟩
                  unfold outR at hp2
                  cases qf : f (.pile :: ds) n with
                  | stuck => rw [qf] at hp2; exact hp2.elim
                  | exc c mm n' =>
                    rw [qf] at hp2
                    refine fun cls d F' H' G P z => ?_
                    obtain ⟨A', _, Y'⟩ := Y1.callR q1 k1 ⟨_, k2⟩ G P
                    exact hp2 cls d F' H' A' Y' G.ff z
                  | ok rv n' =>
                    rw [qf] at hp2
                    cases rv with
                    | no => exact hp2.elim
                    | dct l => exact hp2.elim
                    | val d =>
                      refine fun v F' H' G P z => ?_
                      obtain ⟨A', _, Y'⟩ := Y1.callR q1 k1 ⟨_, k2⟩ G P
                      have hp3 : PostO g W p H0 F0 F1 σ Q (if noPile d = true then .ok (.val d) { s1 with sl := s1.sl.set i (.own [.int n']) } else .stuck) := hp2
                      split at hp3
                      · exact hp3 v F' H' A' Y' G.ff (Rep.swap z (by assumption))
                      · exact hp3.elim
                    | own l =>
                      refine fun a vs' F' H' G P z w1 w2 w3 w4 => ?_
                      obtain ⟨A', mA, Y'⟩ := Y1.callR q1 k1 ⟨_, k2⟩ G P
                      have hp3 : PostO g W p H0 F0 F1 σ Q (if noPiles l = true then .ok (.own l) { s1 with sl := s1.sl.set i (.own [.int n']) } else .stuck) := hp2
                      split at hp3
                      · obtain ⟨y1, y2, y3, y4⟩ := Y1.fresh w3
                        exact hp3 a vs' F' H' A' Y' G.ff (Reps.swap z (by assumption)) w1 w2 y2 y3 (fun hm => (mA a hm).elim y4 fun e => w4 (by rw [e]))
                      · exact hp3.elim
                · exact hp2.elim
            | _ => exact hp1.elim

/-! ### walks of lists, tuples, texts -/
theorem it_str {p : Option Addr} {F1 : Hp} (s : List Nat) : ItOk g p F1 (signs s) (Its ⟨s.toArray⟩) where
  go := fun i F H e1 e2 hi => by
    show i < s.toArray.size
    unfold signs at hi
    rw [List.length_map] at hi
    simpa using hi
  yld := fun i F H x H' e1 e2 tb hy hi => by
    obtain ⟨rfl, c, hc, rfl⟩ := hy
    have hc' : s[i]? = some c := by simpa using hc
    refine ⟨.str [c], F, ?_, Gr.refl e2 tb, .str [c]⟩
    unfold signs
    rw [List.getElem?_map, hc']
    rfl
  stop := fun i F H e1 e2 hi => by
    show s.toArray.size ≤ i
    unfold signs at hi
    rw [List.length_map] at hi
    simpa using hi
theorem pi_or {tg it : Expr} {w1 w2 : TI} (h1 : PI X tg it w1) (h2 : PI X tg it w2) : PI X tg it (fun σ H R => w1 σ H R ∨ w2 σ H R) :=
  ⟨fun pins s σ H R I h => h.elim (h1.run pins s σ H R I) (h2.run pins s σ H R I)⟩
def items : D → Option (List D)
  | .lst l => some l
  | .tup l => some l
  | .kst l => some l
  | .str s => some (signs s)
  | _ => none
def itA (m : EM) : AM := fun s => (m s).bind fun d s1 => R.of (items d) s1
theorem di_any {tg : Expr} (h : DE g X W e m) (hK : X.K = g.K := by rfl) : DI g X W tg e (itA m) := by
  refine ⟨_, pi_or (pi_list h.can) (pi_or (pi_tup h.can) (pi_str h.can)), fun p H0 F0 A F s σ H Q Y hp => ?_⟩
  have sc := (sim_can (g := g) (W := W) (Rp := RepV g) (m := m)) p H0 F0 A F s σ H
  unfold itA at hp
  cases q : m s with
  | stuck => rw [q] at hp; exact hp.elim
  | exc c n s1 =>
    rw [q] at hp
    left
    refine sc _ Y ?_
    rw [q]
    exact hp
  | ok d s1 =>
    rw [q] at hp
    cases d with
    | lst l =>
      left
      refine sc _ Y ?_
      rw [q]
      intro v F1 H1 A1 Y1 e1 r1
      cases r1 with | lst h1 r1 =>
      exact ⟨_, rfl, ⟨_, ext_l Y1.ext (.inl h1)⟩, hp _ F1 H1 A1 Y1 e1 (it_list (.inl h1) r1)⟩
    | kst l =>
      left
      refine sc _ Y ?_
      rw [q]
      intro v F1 H1 A1 Y1 e1 r1
      cases r1 with | kst h1 r1 =>
      exact ⟨_, rfl, ⟨_, by rw [hK]; exact ext_l Y1.ext h1⟩, hp _ F1 H1 A1 Y1 e1 (it_list (by rw [hK]; exact h1) r1)⟩
    | tup l =>
      right; left
      refine sc _ Y ?_
      rw [q]
      intro v F1 H1 A1 Y1 e1 r1
      cases r1 with | tup h1 r1 =>
      exact ⟨_, rfl, ⟨_, by rw [hK]; exact ext_t Y1.ext h1⟩, hp _ F1 H1 A1 Y1 e1 (it_tup (by rw [hK]; exact h1) r1)⟩
    | str z =>
      right; right
      refine sc _ Y ?_
      rw [q]
      intro v F1 H1 A1 Y1 e1 r1
      cases r1
      exact ⟨_, rfl, hp _ F1 H1 A1 Y1 e1 (it_str z)⟩
    | _ => exact hp.elim
end
end Pd

/-! Pd, part I: the surroundings of a law's text. -/
namespace Pd
open PySem PySem.Spec PyProof.Rows L2

/-- no lambdas -/
abbrev G0 (K : PySem.W.Frag) (mg : Str → Option Value) : Gl := ⟨K, mg, fun _ => True, fun _ _ _ _ _ => trivial, fun _ _ _ _ => False, fun _ _ _ _ _ _ h => h⟩
def GlobS (mg : Str → Option Value) (x : Str) (s : List Nat) : Prop := ∃ t, mg x = some (.str ⟨s.toArray⟩ t)
structure ExcOk (K : PySem.W.Frag) (mg : Str → Option Value) (c : String) (C : Addr) : Prop where
  q : PySem.W.excIn K C [.type "ValueError", .type "Exception", .type "BaseException", .type "object"] "ValueError.__new__" = true
  g : mg (Str.ofString c) = some (.ref C)
  k : PySem.W.keepIn K (.ref C) = true
  s : PySem.W.subIn K (.ref C) (.type "BaseException") = some true
  t : PySem.W.typeIn K (.ref C) = some (.type "type")
section
variable {g : Gl} {X : Cx} {W : WX} {e : Expr} {m : EM} {pos p : Pos} {x : Str}
theorem de_globS {s : List Nat} (hg : L2.Gl X x) (h : GlobS X.mg x s) (hdb : (x == ("__debug__" : Str)) = false := by decide) : DE g X W (.Name x pos) (mC (.str s)) := by
  obtain ⟨t, h⟩ := h
  exact de_c (pe_glob (v := .str ⟨s.toArray⟩) hg h ⟨t, rfl⟩ hdb) fun _ _ => .str s
theorem ds_raiseC {c : String} {C : Addr} {j : Nat} {msg : Str} {p2 p3 : Pos} (tk : Takes X W) (h : ExcOk X.K X.mg c C) (hg : L2.Gl X (Str.ofString c)) (hc : X.calm = true := by rfl) (hm : X.mg = g.mg := by rfl)
    (hdb : (Str.ofString c == ("__debug__" : Str)) = false := by decide) : DS g X W (.Raise (some (.Call (.Name (Str.ofString c) p) [.Constant (.str msg) j p2] [] p3)) none pos) (mRaise c) :=
  ds_raise hc tk (pmk_own PySem.F.excBase_ValueError h.q h.g h.k (raises_own h.s h.t) hg hdb) (by rw [← hm]; exact h.g)
def mNeg (m : EM) : EM := fun s => (m s).bind fun d s1 => match d with
  | .int i => .ok (.int (-i)) s1
  | _ => .stuck
theorem de_neg (h : DE g X W e m) : DE g X W (.UnaryOp .USub e pos) (mNeg m) := by
  obtain ⟨t, a1, a2⟩ := h
  refine ⟨_, pe_un un_neg a1, fun p H0 F0 A F s σ H Q Y hp => a2 p H0 F0 A F s σ H _ Y (hp.bind fun d s1 v F1 H1 A1 Y1 e1 r1 hp1 => ?_)⟩
  cases d with
  | int i => cases r1; exact ⟨i, rfl, hp1 _ F1 H1 A1 Y1 (Ext.refl _) (.int _)⟩
  | _ => exact hp1.elim
end
end Pd

/-! Pd, part J: the end of a law. -/
namespace Pd
open PySem PySem.Spec PyProof.Rows L2

theorem walk_end {l : PySem.W.OpenLaw} {n k : Nat} {q : Program} {loose : List Str} {XP : (Str → Option Value) → Heap → Prop} {YP : World → Heap → Prop} {d : DefRec} {x : Str} {m : FM}
    (hn : l.most = some n) (hn2 : n ≤ sizeLine) (hdf : d.params.defaults = []) (hr : Room k callerA)
    (F : ∀ (w : World) (mg : Str → Option Value) (fa : Addr) (h : Heap), YP w h → h.Ns mainGlobals mg → mg d.name = some (.ref fa) →
      ∃ (K : PySem.W.Frag) (fd : FuncData), K.In h ∧ (∀ (s : Shared) (u : Value), BindsTo s fd ⟨[u], []⟩ [(x, u)]) ∧
        ∀ base : Heap, K.In base → base.Ns mainGlobals mg → FnOk l.prog w K mg base (L2.CX l.prog w) k fa fd [x] (spF (G0 K mg) m))
    (law : ∀ ns : List Int, ns.length ≤ n → ∃ z, m [.kst (ns.map .int)] 0 = .ok (.val (.bl true)) z) :
    PySem.W.WalkO q loose XP YP l.row.toRowW d [] (fun f vs => PySem.call f vs) := by
  refine Att.attach_call hn hdf fun w s₀ s₁ mg mb fa o pm cd doc a vs ns G Y ho hd hcd hmg hobj hints hlen hg => ?_
  obtain ⟨K, fd, KX, hb, hF⟩ := F w mg fa _ Y G.T.g hmg
  refine law_call KX G.T.g G.T.b G.T.builtins G.T.nolimit hg hobj hints (Nat.le_trans hlen hn2) hr hF hb (fun H hO hS => ?_) fun H e s' h => ?_
  · obtain ⟨z, e⟩ := law ns hlen
    have rs : ∀ ns : List Int, Reps (G0 K mg) none H (ns.map V.int) (ns.map D.int) := fun ns => by
      induction ns with
      | nil => exact .nil
      | cons n r ih => exact .cons (.int n) ih
    refine ⟨none, H, [.kst (ns.map .int)], 0, .cons (.kst hS (rs ns)) .nil, Ext.refl _, fun _ z => (by cases z), trivial, ?_⟩
    rw [e]
    intro v F' H' _ _ r
    cases r
    rfl
  · obtain ⟨_, _, _, _, _, _, _, _, _, _, _, _, z⟩ := h
    exact z
/-- the law's def, as its callers have it, without the global name -/
theorem Cal.fn {P : Program} {w : World} {K : PySem.W.Frag} {mg : Str → Option Value} {base : Heap} {g : Gl} {k : Nat} {x : Str} {f : FM} (c : Cal P w K mg base g k x f) : ∃ (a : Addr) (fd : FuncData) (ps : List Str), FnOk P w K mg base (L2.CX P w) k a fd ps (spF g f) ∧ mg x = some (.ref a) := by
  obtain ⟨a, fd, ps, h1, h2, _⟩ := c.ex
  exact ⟨a, fd, ps, h1, h2⟩
/-- THE RULE for the law's own def: as cal_of, the promise alone -/
theorem fnok_of {P : Program} {w : World} {K : PySem.W.Frag} {mg : Str → Option Value} {base : Heap} {g : Gl} {x qual : Str} {params : Arguments} {body : List Stmt} {scope : Scope} {a : Addr} {fd : FuncData} {N ps : List Str} {np n k : Nat} {m : SM} (F : FunD K x qual params body scope [] [] a fd) (S : FnScope N ps scope)
    (hps : ps.length = np) (hn : N.length = n)
    (h : ∀ (cdv : Value) (A : Around) (outer : List Env) (s : Shared) (H : Hp) (E : XK), Room k (A.deeper (envOfC qual scope s.heap.objs.size a cdv)) →
      Takes (cxOf (L2.CX P w) P w K mg base N qual scope a cdv A outer s H E) (WD E) →
      PassesOwn (model P w) (A.deeper (envOfC qual scope s.heap.objs.size a cdv)) (envOfC qual scope s.heap.objs.size a cdv) (cxOf (L2.CX P w) P w K mg base N qual scope a cdv A outer s H E).xe →
      DSs g (cxOf (L2.CX P w) P w K mg base N qual scope a cdv A outer s H E) (WD E) body m) : FnOk P w K mg base (L2.CX P w) (k + 1) a fd ps (spF g (mkF np n m)) := by
  refine F.ok S (fun vs H Q E ⟨p, F, ds, n, r, e, pl, t, hp⟩ => ?_) (fun cdv A outer s H vs Q E hr ⟨p, F, ds, nn, r, e, pl, t, hp⟩ => ?_)
  · rw [r.length, hps]
    unfold mkF at hp
    split at hp
    · assumption
    · exact hp.elim
  · have hl : ds.length = np := by
      unfold mkF at hp
      split at hp
      · assumption
      · exact hp.elim
    unfold mkF at hp
    rw [if_pos hl] at hp
    obtain ⟨t1, b1, b2⟩ := h cdv A outer s H E hr (takes_of rfl rfl rfl rfl) (passes_of rfl)
    refine ⟨t1, b1, b2 p H F [] F _ _ H _ (rel_start r e pl t) ?_⟩
    rw [hn, hl]
    generalize hS : m ⟨ds.map SV.val ++ List.replicate (n - np) .no, nn⟩ = rs at hp
    cases rs with
    | nx s' => exact fun σ' F' H' A' Y' e' => hp .non F' H' Y'.gr0 Y'.pl .non
    | bk s' => exact hp.elim
    | ct s' => exact hp.elim
    | exc c m s' => exact fun cls d σ' F' H' A' Y' e' z => hp cls d F' H' Y'.gr0 Y'.pl z
    | stuck => exact hp.elim
    | rt v s' => cases v with
      | val d => exact fun v σ' F' H' A' Y' e' r' => hp v F' H' Y'.gr0 Y'.pl r'
      | own l => exact fun a vs σ' F' H' A' Y' e' r' k1 k2 k3 k4 => hp a vs F' H' Y'.gr0 Y'.pl r' k1 k2 k3 k4
      | no => exact hp.elim
      | dct l => exact hp.elim
theorem excOk_of {K : PySem.W.Frag} {h : Heap} {mg : Str → Option Value} (X : K.In h) (G : h.Ns mainGlobals mg) {c : String} (e : (He.Fa.exc (Str.ofString c)).ok K = true) (q : (He.Fa.glo (Str.ofString c)).ok K = true) : ExcOk K mg c (He.ga K (Str.ofString c)) := by
  obtain ⟨h1, h2, h3, h4⟩ := He.exc_ok e
  exact ⟨h1, He.glo_ok X G q, h2, h3, h4⟩
theorem globS_of {K : PySem.W.Frag} {h : Heap} {mg : Str → Option Value} (X : K.In h) (G : h.Ns mainGlobals mg) {x z : Str} {s : List Nat} (c : (He.Fa.str x z).ok K = true) (e : z = ⟨s.toArray⟩) : GlobS mg x s := by
  obtain ⟨t, h⟩ := He.str_ok X G c
  exact ⟨t, by rw [h, e]⟩
end Pd

/-! PmW: words repeated, roots (plain lists of numbers). -/
namespace Pd
open List (range)

/-- the i-th letter of w repeated without end -/
def inf (w : List Nat) (i : Nat) : Nat := w.getD (i % w.length) 0
def beg (w : List Nat) (n : Nat) : List Nat := (List.range n).map (inf w)
theorem beg_len (w : List Nat) (n : Nat) : (beg w n).length = n := by simp [beg]
theorem beg_get {w : List Nat} {n i : Nat} (h : i < n) : (beg w n)[i]? = some (inf w i) := by simp [beg, h]
theorem inf_add (w : List Nat) (i : Nat) : inf w (w.length + i) = inf w i := by simp [inf]
theorem inf_lt {w : List Nat} {i : Nat} (h : i < w.length) : w[i]? = some (inf w i) := by
  unfold inf
  rw [Nat.mod_eq_of_lt h, List.getD_eq_getElem?_getD, List.getElem?_eq_getElem h]
  rfl
theorem beg_self (w : List Nat) : beg w w.length = w := by
  apply List.ext_getElem?
  intro i
  by_cases h : i < w.length
  · rw [beg_get h, inf_lt h]
  · rw [List.getElem?_eq_none (by rw [beg_len]; omega), List.getElem?_eq_none (by omega)]
theorem beg_add (w : List Nat) (m : Nat) : beg w (w.length + m) = w ++ beg w m := by
  apply List.ext_getElem?
  intro i
  by_cases h : i < w.length
  · rw [beg_get (by omega), List.getElem?_append_left h, inf_lt h]
  · rw [List.getElem?_append_right (by omega)]
    by_cases h2 : i < w.length + m
    · rw [beg_get h2, beg_get (by omega), ← inf_add w (i - w.length), show w.length + (i - w.length) = i by omega]
    · rw [List.getElem?_eq_none (by rw [beg_len]; omega), List.getElem?_eq_none (by rw [beg_len]; omega)]
theorem repS_zero (w : List Nat) : repS 0 w = [] := rfl
theorem repS_succ (k : Nat) (w : List Nat) : repS (k + 1) w = w ++ repS k w := by
  unfold repS
  rw [List.replicate_succ, List.flatten_cons]
theorem repS_one (w : List Nat) : repS 1 w = w := by rw [repS_succ, repS_zero, List.append_nil]
theorem repS_beg (w : List Nat) : ∀ k, repS k w = beg w (k * w.length)
  | 0 => by simp [repS_zero, beg]
  | k + 1 => by rw [repS_succ, repS_beg w k, Nat.succ_mul, Nat.add_comm, beg_add]
theorem repS_len (k : Nat) (w : List Nat) : (repS k w).length = k * w.length := by rw [repS_beg, beg_len]
theorem repS_add (w : List Nat) : ∀ a b, repS (a + b) w = repS a w ++ repS b w
  | 0, b => by simp [repS_zero]
  | a + 1, b => by rw [Nat.add_right_comm, repS_succ, repS_succ, repS_add w a b, List.append_assoc]
theorem repS_mul (w : List Nat) (b : Nat) : ∀ a, repS a (repS b w) = repS (a * b) w
  | 0 => by simp [repS_zero]
  | a + 1 => by rw [repS_succ, repS_mul w b a, ← repS_add, Nat.succ_mul, Nat.add_comm]
theorem beg_take (w : List Nat) {m n : Nat} (h : m ≤ n) : (beg w n).take m = beg w m := by
  unfold beg
  rw [← List.map_take, List.take_range, Nat.min_eq_left h]
theorem beg_congr {w o : List Nat} {n : Nat} (h : ∀ i, i < n → inf w i = inf o i) : beg w n = beg o n := by
  apply List.ext_getElem?
  intro i
  by_cases hi : i < n
  · rw [beg_get hi, beg_get hi, h i hi]
  · rw [List.getElem?_eq_none (by rw [beg_len]; omega), List.getElem?_eq_none (by rw [beg_len]; omega)]
theorem inf_of_beg {w o : List Nat} {n : Nat} (h : beg w n = beg o n) : ∀ i, i < n → inf w i = inf o i := fun i hi => by
  have e := congrArg (fun l => l[i]?) h
  simp only [beg_get hi] at e
  exact Option.some.inj e
theorem inf_mod (w : List Nat) (i : Nat) : inf w (i % w.length) = inf w i := by simp [inf]
/-- a repeated word repeats as the word -/
theorem inf_repS {w : List Nat} {k : Nat} (hk : 0 < k) (i : Nat) : inf (repS k w) i = inf w i := by
  by_cases hw : w.length = 0
  · have : w = [] := List.eq_nil_of_length_eq_zero hw
    subst this
    have e : repS k ([] : List Nat) = [] := by rw [repS_beg]; simp [beg]
    rw [e]
  · have hl : 0 < k * w.length := Nat.mul_pos hk (by omega)
    have h1 : i % (repS k w).length < (repS k w).length := Nat.mod_lt _ (by rw [repS_len]; exact hl)
    have h2 := inf_lt h1
    rw [inf_mod] at h2
    rw [repS_len] at h1 h2
    rw [repS_beg, beg_get h1] at h2
    have h3 := Option.some.inj h2
    rw [← repS_beg] at h3
    rw [← h3, ← inf_mod w (i % (k * w.length)), Nat.mod_mul_left_mod, inf_mod]

/-! ### two words that commute -/
theorem comm_root : ∀ (n : Nat) (u v : List Nat), u.length + v.length ≤ n → u ++ v = v ++ u → ∃ z a b, u = repS a z ∧ v = repS b z
  | 0, u, v, hn, _ => by
    have hu : u = [] := List.eq_nil_of_length_eq_zero (by omega)
    have hv : v = [] := List.eq_nil_of_length_eq_zero (by omega)
    exact ⟨[], 0, 0, by rw [hu]; rfl, by rw [hv]; rfl⟩
  | n + 1, u, v, hn, h => by
    by_cases hu : u = []
    · exact ⟨v, 0, 1, hu, (repS_one v).symm⟩
    by_cases hv : v = []
    · exact ⟨u, 1, 0, (repS_one u).symm, hv⟩
    have lu : 0 < u.length := List.length_pos_iff.mpr hu
    have lv : 0 < v.length := List.length_pos_iff.mpr hv
    by_cases hl : u.length ≤ v.length
    · have e1 : v.take u.length = u := by
        have := congrArg (List.take u.length) h
        rw [List.take_left, List.take_append_of_le_length hl] at this
        exact this.symm
      have e2 : v = u ++ v.drop u.length := by
        have := List.take_append_drop u.length v
        rw [e1] at this; exact this.symm
      have e3 : u ++ v.drop u.length = v.drop u.length ++ u := by
        rw [e2] at h
        have h' : u ++ (u ++ List.drop u.length v) = u ++ (List.drop u.length v ++ u) := by
          have h4 := h
          rw [List.append_assoc] at h4
          have e5 : List.drop u.length (u ++ List.drop u.length v) = List.drop u.length v := by simp
          simpa [e5] using h4
        exact List.append_cancel_left h'
      obtain ⟨z, a, b, ha, hb⟩ := comm_root n u (v.drop u.length) (by rw [List.length_drop]; omega) e3
      exact ⟨z, a, a + b, ha, by rw [repS_add, ← ha, ← hb]; exact e2⟩
    · have hl : v.length ≤ u.length := by omega
      have e1 : u.take v.length = v := by
        have := congrArg (List.take v.length) h
        rw [List.take_left, List.take_append_of_le_length hl] at this
        exact this
      have e2 : u = v ++ u.drop v.length := by
        have := List.take_append_drop v.length u
        rw [e1] at this; exact this.symm
      have e3 : u.drop v.length ++ v = v ++ u.drop v.length := by
        have h4 := h
        rw [e2] at h4
        have h5 : v ++ (List.drop v.length u ++ v) = v ++ (v ++ List.drop v.length u) := by
          have e5 : List.drop v.length (v ++ List.drop v.length u) = List.drop v.length u := by simp
          simpa [e5, List.append_assoc] using h4
        exact List.append_cancel_left h5
      obtain ⟨z, a, b, ha, hb⟩ := comm_root n (u.drop v.length) v (by rw [List.length_drop]; omega) e3
      exact ⟨z, b + a, b, by rw [repS_add, ← ha, ← hb]; exact e2, hb⟩
/-- the same for so many letters: they commute -/
theorem comm_of_beg {u v : List Nat} (h : ∀ i, i < u.length + v.length → inf u i = inf v i) : u ++ v = v ++ u := by
  have e1 : beg u (u.length + v.length) = u ++ v := by
    rw [beg_add, beg_congr (o := v) (fun i hi => h i (by omega)), beg_self]
  have e2 : beg v (v.length + u.length) = v ++ u := by
    rw [beg_add, beg_congr (o := u) (fun i hi => (h i (by omega)).symm), beg_self]
  rw [← e1, ← e2, Nat.add_comm v.length, beg_congr h]

/-! ### roots -/
def isRep (w : List Nat) (k : Nat) : Bool := decide (w.length % k = 0) && decide (repS (w.length / k) (w.take k) = w)
/-- the shortest word that repeated makes the word -/
def rootW (w : List Nat) : List Nat := match ((List.range w.length).map (· + 1)).find? (isRep w) with
  | some k => w.take k
  | none => w
theorem isRep_full {w : List Nat} (h : w ≠ []) : isRep w w.length = true := by
  have hl : 0 < w.length := List.length_pos_iff.mpr h
  unfold isRep
  rw [Nat.mod_self, Nat.div_self hl, List.take_length, repS_one]
  simp
theorem rootW_spec {w : List Nat} (h : w ≠ []) : ∃ k, 0 < k ∧ k ≤ w.length ∧ rootW w = w.take k ∧ isRep w k = true ∧ ∀ j, 0 < j → j < k → isRep w j = false := by
  unfold rootW
  have hl : 0 < w.length := List.length_pos_iff.mpr h
  cases q : ((List.range w.length).map (· + 1)).find? (isRep w) with
  | none =>
    exfalso
    have := List.find?_eq_none.mp q w.length (List.mem_map.mpr ⟨w.length - 1, List.mem_range.mpr (by omega), by omega⟩)
    rw [isRep_full h] at this
    exact this rfl
  | some k =>
    have hm := List.mem_of_find?_eq_some q
    obtain ⟨i, hi, e⟩ := List.mem_map.mp hm
    have hi := List.mem_range.mp hi
    refine ⟨k, by omega, by omega, rfl, List.find?_some q, fun j j0 jk => ?_⟩
    obtain ⟨-, as, bs, e1, e2⟩ := List.find?_eq_some_iff_append.mp q
    -- j stands ahead of k
    have hjm : j ∈ as := by
      have hj : ((List.range w.length).map (· + 1))[j - 1]? = some j := by
        rw [List.getElem?_map, List.getElem?_range (by omega)]
        simp; omega
      have hk : ((List.range w.length).map (· + 1))[as.length]? = some k := by rw [e1]; simp
      have hk2 : as.length + 1 = k := by
        rw [List.getElem?_map] at hk
        cases q3 : (List.range w.length)[as.length]? with
        | none => rw [q3] at hk; cases hk
        | some y =>
          rw [q3] at hk
          have hy : y = as.length := by
            have := List.getElem?_eq_some_iff.mp q3
            obtain ⟨h1, h2⟩ := this
            rw [List.getElem_range] at h2
            exact h2.symm
          have h9 : y + 1 = k := Option.some.inj hk
          omega
      rw [e1, List.getElem?_append_left (by omega)] at hj
      exact List.mem_of_getElem? hj
    have := e2 j hjm
    simpa using this
theorem rootW_pow {w : List Nat} (h : w ≠ []) : ∃ k, 0 < k ∧ w = repS k (rootW w) := by
  obtain ⟨k, k0, kl, e, r, _⟩ := rootW_spec h
  unfold isRep at r
  rw [Bool.and_eq_true, decide_eq_true_eq, decide_eq_true_eq] at r
  have hl : 0 < w.length := List.length_pos_iff.mpr h
  refine ⟨w.length / k, Nat.div_pos kl k0, ?_⟩
  rw [e, r.2]
theorem rootW_ne {w : List Nat} (h : w ≠ []) : rootW w ≠ [] := by
  obtain ⟨k, k0, e⟩ := rootW_pow h
  intro z
  rw [z] at e
  apply h
  rw [e, repS_beg]
  simp [beg]
/-- no word repeated twice or more -/
def Prim (w : List Nat) : Prop := w ≠ [] ∧ ∀ z k, w = repS k z → k = 1
theorem rootW_least {w z : List Nat} {k : Nat} (h : w ≠ []) (e : w = repS k z) : (rootW w).length ≤ z.length := by
  obtain ⟨j, j0, jl, e1, r, m⟩ := rootW_spec h
  have hz : z ≠ [] := by
    intro q; subst q
    apply h; rw [e, repS_beg]; simp [beg]
  have hk : k ≠ 0 := by intro q; subst q; exact h e
  have lz : 0 < z.length := List.length_pos_iff.mpr hz
  have lw : w.length = k * z.length := by rw [e, repS_len]
  have hr : isRep w z.length = true := by
    unfold isRep
    rw [Bool.and_eq_true, decide_eq_true_eq, decide_eq_true_eq, lw, Nat.mul_mod_left, Nat.mul_div_cancel _ lz]
    refine ⟨rfl, ?_⟩
    have : w.take z.length = z := by
      rw [e, show k = (k - 1) + 1 by omega, repS_succ, List.take_left]
    rw [this]; exact e.symm
  rw [e1, List.length_take]
  by_cases hj : z.length < j
  · rw [m z.length lz hj] at hr; cases hr
  · omega
theorem rootW_prim {w : List Nat} (h : w ≠ []) : Prim (rootW w) := by
  refine ⟨rootW_ne h, fun z k e => ?_⟩
  obtain ⟨j, j0, ej⟩ := rootW_pow h
  have hk : k ≠ 0 := by intro q; subst q; exact rootW_ne h e
  have e2 : w = repS (j * k) z := by rw [← repS_mul, ← e]; exact ej
  have l := rootW_least h e2
  rw [e, repS_len] at l
  have hz : z ≠ [] := by intro q; subst q; apply rootW_ne h; rw [e, repS_beg]; simp [beg]
  have lz : 0 < z.length := List.length_pos_iff.mpr hz
  have : k ≤ 1 := by
    apply Nat.le_of_mul_le_mul_right (c := z.length) _ lz
    omega
  omega
/-- like roots that are the same for as many letters as both have -/
theorem prim_eq {u v : List Nat} (hu : Prim u) (hv : Prim v) (h : ∀ i, i < u.length + v.length → inf u i = inf v i) : u = v := by
  obtain ⟨z, a, b, ea, eb⟩ := comm_root _ u v (Nat.le_refl _) (comm_of_beg h)
  have h1 := hu.2 z a ea
  have h2 := hv.2 z b eb
  rw [ea, eb, h1, h2]
theorem prim_root {u : List Nat} (hu : Prim u) : rootW u = u := by
  obtain ⟨k, k0, e⟩ := rootW_pow hu.1
  have := hu.2 _ _ e
  rw [this, repS_one] at e
  exact e.symm
theorem root_of_inf {w o : List Nat} (hw : w ≠ []) (ho : o ≠ []) (h : ∀ i, i < (rootW w).length + (rootW o).length → inf w i = inf o i) : rootW w = rootW o := by
  obtain ⟨a, a0, ea⟩ := rootW_pow hw
  obtain ⟨b, b0, eb⟩ := rootW_pow ho
  refine prim_eq (rootW_prim hw) (rootW_prim ho) fun i hi => ?_
  have h1 := h i hi
  have e1 : inf w i = inf (rootW w) i := by
    have := inf_repS (w := rootW w) a0 i
    rw [← ea] at this; exact this
  have e2 : inf o i = inf (rootW o) i := by
    have := inf_repS (w := rootW o) b0 i
    rw [← eb] at this; exact this
  rw [← e1, ← e2]; exact h1
theorem inf_root {w : List Nat} (hw : w ≠ []) (i : Nat) : inf (rootW w) i = inf w i := by
  obtain ⟨a, a0, ea⟩ := rootW_pow hw
  have := inf_repS (w := rootW w) a0 i
  rw [← ea] at this; exact this.symm
theorem inf_of_root {w o : List Nat} (hw : w ≠ []) (ho : o ≠ []) (h : rootW w = rootW o) (i : Nat) : inf w i = inf o i := by
  rw [← inf_root hw, ← inf_root ho, h]
theorem root_rep {w : List Nat} (hw : w ≠ []) {k : Nat} (hk : 0 < k) : rootW (repS k w) = rootW w := by
  have hne : repS k w ≠ [] := by
    intro z
    have := congrArg List.length z
    rw [repS_len] at this
    have lw : 0 < w.length := List.length_pos_iff.mpr hw
    have := Nat.mul_pos hk lw
    simp at *
    omega
  exact root_of_inf hne hw fun i _ => inf_repS hk i
theorem root_len {w : List Nat} (hw : w ≠ []) : (rootW w).length ≤ w.length := by
  obtain ⟨k, _, kl, e, _⟩ := rootW_spec hw
  rw [e, List.length_take]; omega
/-- how many letters two words repeated share -/
def shareW (w o : List Nat) (n : Nat) : Option Nat := (List.range n).find? fun i => decide (inf w i ≠ inf o i)
end Pd

/-! Pd, part N: the meanings worked out by simp, what follows is named, never a function under a binder. -/
namespace Pd
open PySem L2

/-! ### expressions -/
theorem e_bok {α β : Type} (a : α) (s : S) (k : α → S → R β) : (R.ok a s).bind k = k a s := (id rfl)
theorem e_bexc {α β : Type} (c : String) (n : Option Int) (s : S) (k : α → S → R β) : (R.exc c n s : R α).bind k = .exc c n s := (id rfl)
theorem e_bsok {α : Type} (a : α) (s : S) (k : α → S → RS) : (R.ok a s).bs k = k a s := (id rfl)
theorem e_bsexc {α : Type} (c : String) (n : Option Int) (s : S) (k : α → S → RS) : (R.exc c n s : R α).bs k = .exc c n s := (id rfl)
theorem e_ofs {α : Type} (a : α) (s : S) : R.of (some a) s = .ok a s := (id rfl)
theorem e_obs {α β : Type} (a : α) (k : α → Option β) : (some a).bind k = k a := (id rfl)
theorem e_oms {α β : Type} (a : α) (k : α → β) : (some a).map k = some (k a) := (id rfl)
@[simp] theorem eV_val {l : List SV} {n : Int} {i : Nat} {d : D} (h : l[i]? = some (.val d)) : mVar i ⟨l, n⟩ = .ok d ⟨l, n⟩ := by simp [mVar, h]
theorem eV_own {l : List SV} {n : Int} {i : Nat} {d : List D} (h : l[i]? = some (.own d)) : mVar i ⟨l, n⟩ = .ok (.lst d) ⟨l.set i (.val (.lst d)), n⟩ := by simp [mVar, h]
theorem eVo_val {l : List SV} {n : Int} {i : Nat} {d : D} (h : l[i]? = some (.val d)) : oVar i ⟨l, n⟩ = .ok (.val d) ⟨l, n⟩ := by simp [oVar, h]
theorem eVo_own {l : List SV} {n : Int} {i : Nat} {d : List D} (h : l[i]? = some (.own d)) : oVar i ⟨l, n⟩ = .ok (.own d) ⟨l.set i .no, n⟩ := by simp [oVar, h]
theorem eC {d : D} {s : S} : mC d s = .ok d s := (id rfl)
def kBin2 (f : D → D → Option D) (x : D) (y : D) (s : S) : R D := R.of (f x y) s
def kBin (f : D → D → Option D) (b : EM) (x : D) (s : S) : R D := (b s).bind (kBin2 f x)
theorem e_bin {f : D → D → Option D} {a b : EM} {s : S} : mBin f a b s = (a s).bind (kBin f b) := (id rfl)
theorem e_kBin {f : D → D → Option D} {b : EM} {x : D} {s : S} : kBin f b x s = (b s).bind (kBin2 f x) := (id rfl)
theorem e_kBin2 {f : D → D → Option D} {x y : D} {s : S} : kBin2 f x y s = R.of (f x y) s := (id rfl)
def kOBin2 (f : D → D → Option SV) (x : D) (y : D) (s : S) : R SV := R.of ((f x y).bind good1) s
def kOBin (f : D → D → Option SV) (b : EM) (x : D) (s : S) : R SV := (b s).bind (kOBin2 f x)
theorem e_oBin {f : D → D → Option SV} {a b : EM} {s : S} : oBin f a b s = (a s).bind (kOBin f b) := (id rfl)
theorem e_kOBin {f : D → D → Option SV} {b : EM} {x : D} {s : S} : kOBin f b x s = (b s).bind (kOBin2 f x) := (id rfl)
theorem e_kOBin2 {f : D → D → Option SV} {x y : D} {s : S} : kOBin2 f x y s = R.of ((f x y).bind good1) s := (id rfl)
theorem e_good1v {d : D} : good1 (.val d) = some (.val d) := (id rfl)
theorem e_good1o {d : List D} : good1 (.own d) = some (.own d) := (id rfl)
def kTest (d : D) (s : S) : R Bool := match d with
  | .bl k => .ok k s
  | _ => .stuck
theorem e_test {m : EM} {s : S} : mTest m s = (m s).bind kTest := (id rfl)
theorem e_kTest {b : Bool} {s : S} : kTest (.bl b) s = .ok b s := (id rfl)
def kAnd (b : TM) (k : Bool) (s : S) : R Bool := if k = true then b s else .ok false s
def kOr (b : TM) (k : Bool) (s : S) : R Bool := if k = true then .ok true s else b s
def kNot (k : Bool) (s : S) : R Bool := .ok (!k) s
theorem e_and {a b : TM} {s : S} : mAnd a b s = (a s).bind (kAnd b) := (id rfl)
theorem e_or {a b : TM} {s : S} : mOr a b s = (a s).bind (kOr b) := (id rfl)
theorem e_not {a : TM} {s : S} : mNot a s = (a s).bind kNot := (id rfl)
theorem e_kAndT {b : TM} {s : S} : kAnd b true s = b s := (id rfl)
theorem e_kAndF {b : TM} {s : S} : kAnd b false s = .ok false s := (id rfl)
theorem e_kOrT {b : TM} {s : S} : kOr b true s = .ok true s := (id rfl)
theorem e_kOrF {b : TM} {s : S} : kOr b false s = b s := (id rfl)
theorem e_kNot {b : Bool} {s : S} : kNot b s = .ok (!b) s := (id rfl)
def kEAnd (b : EM) (k : Bool) (s : S) : R D := if k = true then b s else .ok (.bl false) s
def kEOr (b : EM) (k : Bool) (s : S) : R D := if k = true then .ok (.bl true) s else b s
def kENot (k : Bool) (s : S) : R D := .ok (.bl (!k)) s
theorem e_eand {a b : EM} {s : S} : eAnd a b s = (mTest a s).bind (kEAnd b) := (id rfl)
theorem e_eor {a b : EM} {s : S} : eOr a b s = (mTest a s).bind (kEOr b) := (id rfl)
theorem e_enot {a : EM} {s : S} : eNot a s = (mTest a s).bind kENot := (id rfl)
theorem e_kEAndT {b : EM} {s : S} : kEAnd b true s = b s := (id rfl)
theorem e_kEAndF {b : EM} {s : S} : kEAnd b false s = .ok (.bl false) s := (id rfl)
theorem e_kEOrT {b : EM} {s : S} : kEOr b true s = .ok (.bl true) s := (id rfl)
theorem e_kEOrF {b : EM} {s : S} : kEOr b false s = b s := (id rfl)
theorem e_kENot {b : Bool} {s : S} : kENot b s = .ok (.bl (!b)) s := (id rfl)
def kIfE (a b : EM) (k : Bool) (s : S) : R D := if k = true then a s else b s
theorem e_ifE {c : TM} {a b : EM} {s : S} : mIf c a b s = (c s).bind (kIfE a b) := (id rfl)
theorem e_kIfET {a b : EM} {s : S} : kIfE a b true s = a s := (id rfl)
theorem e_kIfEF {a b : EM} {s : S} : kIfE a b false s = b s := (id rfl)
def kOV (d : D) (s : S) : R SV := .ok (.val d) s
theorem e_oV {m : EM} {s : S} : oV m s = (m s).bind kOV := (id rfl)
theorem e_kOV {d : D} {s : S} : kOV d s = .ok (.val d) s := (id rfl)
theorem e_eF {m : OM} {s : S} : eF m s = (m s).bind frz := (id rfl)
theorem e_frzv {d : D} {s : S} : frz (.val d) s = .ok d s := (id rfl)
theorem e_frzo {d : List D} {s : S} : frz (.own d) s = .ok (.lst d) s := (id rfl)
def kNeg (d : D) (s : S) : R D := match d with
  | .int i => .ok (.int (-i)) s
  | _ => .stuck
theorem e_neg {m : EM} {s : S} : mNeg m s = (m s).bind kNeg := (id rfl)
theorem e_kNeg {i : Int} {s : S} : kNeg (.int i) s = .ok (.int (-i)) s := (id rfl)
/-! arguments -/
def kCons2 (x : D) (l : List D) (s : S) : R (List D) := .ok (x :: l) s
def kCons (b : AM) (x : D) (s : S) : R (List D) := (b s).bind (kCons2 x)
theorem e_nil {s : S} : aNil s = .ok [] s := (id rfl)
theorem e_cons {a : EM} {b : AM} {s : S} : aCons a b s = (a s).bind (kCons b) := (id rfl)
theorem e_kCons {b : AM} {x : D} {s : S} : kCons b x s = (b s).bind (kCons2 x) := (id rfl)
theorem e_kCons2 {x : D} {l : List D} {s : S} : kCons2 x l s = .ok (x :: l) s := (id rfl)
/-! built-ins -/
def kB1 (f : D → Option SV) (d : D) (s : S) : R SV := R.of ((f d).bind good1) s
theorem e_oB1 {f : D → Option SV} {m : EM} {s : S} : oB1 f m s = (m s).bind (kB1 f) := (id rfl)
theorem e_kB1 {f : D → Option SV} {d : D} {s : S} : kB1 f d s = R.of ((f d).bind good1) s := (id rfl)
theorem e_oB1V {f : D → Option SV} {l : List SV} {n : Int} {i : Nat} {d : D} (h : l[i]? = some (.val d)) : oB1V f i ⟨l, n⟩ = R.of ((f d).bind good1) ⟨l, n⟩ := by simp [oB1V, getB, h]
theorem e_oB1O {f : D → Option SV} {l : List SV} {n : Int} {i : Nat} {d : List D} (h : l[i]? = some (.own d)) : oB1V f i ⟨l, n⟩ = R.of ((f (.lst d)).bind good1) ⟨l, n⟩ := by simp [oB1V, getB, h]
def kBn (f : List D → Option SV) (d : List D) (s : S) : R SV := R.of ((f d).bind good1) s
theorem e_oBn {f : List D → Option SV} {m : AM} {s : S} : oBn f m s = (m s).bind (kBn f) := (id rfl)
theorem e_kBn {f : List D → Option SV} {d : List D} {s : S} : kBn f d s = R.of ((f d).bind good1) s := (id rfl)
theorem e_mIxV {i : Nat} {b : EM} {l : List SV} {n : Int} {d : D} (h : l[i]? = some (.val d)) : mIxV i b ⟨l, n⟩ = (b ⟨l, n⟩).bind (ixAt i) := by simp [mIxV, getB, h]
theorem e_mIxO {i : Nat} {b : EM} {l : List SV} {n : Int} {d : List D} (h : l[i]? = some (.own d)) : mIxV i b ⟨l, n⟩ = (b ⟨l, n⟩).bind (ixAt i) := by simp [mIxV, getB, h]
theorem e_ixS {i : Nat} {y : D} {l : List SV} {n : Int} {d : List Nat} (h : l[i]? = some (.val (.str d))) : ixAt i y ⟨l, n⟩ = R.of (dIx (.str d) y) ⟨l, n⟩ := by simp [ixAt, getB, h]
theorem e_ixL {i : Nat} {y : D} {l : List SV} {n : Int} {d : List D} (h : l[i]? = some (.val (.lst d))) : ixAt i y ⟨l, n⟩ = R.of (dIx (.lst d) y) ⟨l, n⟩ := by simp [ixAt, getB, h]
theorem e_ixT {i : Nat} {y : D} {l : List SV} {n : Int} {d : List D} (h : l[i]? = some (.val (.tup d))) : ixAt i y ⟨l, n⟩ = R.of (dIx (.tup d) y) ⟨l, n⟩ := by simp [ixAt, getB, h]
theorem e_ixK {i : Nat} {y : D} {l : List SV} {n : Int} {d : List D} (h : l[i]? = some (.val (.kst d))) : ixAt i y ⟨l, n⟩ = R.of (dIx (.kst d) y) ⟨l, n⟩ := by simp [ixAt, getB, h]
theorem e_ixO {i : Nat} {y : D} {l : List SV} {n : Int} {d : List D} (h : l[i]? = some (.own d)) : ixAt i y ⟨l, n⟩ = R.of (dIx (.lst d) y) ⟨l, n⟩ := by simp [ixAt, getB, h]
theorem e_ixP {i : Nat} {l : List SV} {n : Int} (h : l[i]? = some (.val .pile)) : ixAt i (.int 0) ⟨l, n⟩ = .ok (.int n) ⟨l, n⟩ := by simp [ixAt, getB, h]
def kSome (d : D) (s : S) : R (Option Int) := match d with
  | .int i => .ok (some i) s
  | _ => .stuck
theorem e_pSome {m : EM} {s : S} : pSome m s = (m s).bind kSome := (id rfl)
theorem e_kSome {i : Int} {s : S} : kSome (.int i) s = .ok (some i) s := (id rfl)
theorem e_pNone {s : S} : pNone s = .ok none s := (id rfl)
def kSl3 (x : D) (l : Option Int) (h : Option Int) (s : S) : R SV := R.of ((dSl x l h).bind good1) s
def kSl2 (x : D) (hi : S → R (Option Int)) (l : Option Int) (s : S) : R SV := (hi s).bind (kSl3 x l)
def kSl (lo hi : S → R (Option Int)) (x : D) (s : S) : R SV := (lo s).bind (kSl2 x hi)
theorem e_oSl {m : EM} {lo hi : S → R (Option Int)} {s : S} : oSl m lo hi s = (m s).bind (kSl lo hi) := (id rfl)
theorem e_kSl {lo hi : S → R (Option Int)} {x : D} {s : S} : kSl lo hi x s = (lo s).bind (kSl2 x hi) := (id rfl)
theorem e_kSl2 {hi : S → R (Option Int)} {x : D} {l : Option Int} {s : S} : kSl2 x hi l s = (hi s).bind (kSl3 x l) := (id rfl)
theorem e_kSl3 {x : D} {l h : Option Int} {s : S} : kSl3 x l h s = R.of ((dSl x l h).bind good1) s := (id rfl)
def kOL (l : List D) (s : S) : R SV := if l.length ≤ sizeLine then .ok (.own l) s else .stuck
theorem e_oLst {m : AM} {s : S} : oLst m s = (m s).bind kOL := (id rfl)
theorem e_kOL {l : List D} {s : S} (h : l.length ≤ 1000) : kOL l s = .ok (.own l) s := if_pos (Nat.le_trans h (by rw [sizeLine_eq]; omega))
def kTup (l : List D) (s : S) : R D := if l.length ≤ sizeLine then .ok (.tup l) s else .stuck
theorem e_tup {m : AM} {s : S} : mTup m s = (m s).bind kTup := (id rfl)
theorem e_kTup {l : List D} {s : S} (h : l.length ≤ 1000) : kTup l s = .ok (.tup l) s := if_pos (Nat.le_trans h (by rw [sizeLine_eq]; omega))
/-! calls -/
theorem e_call {f : FM} {m : AM} {s : S} : oCall f m s = (m s).bind (callR f) := (id rfl)
theorem e_callR {f : FM} {ds : List D} {l : List SV} {n n' : Int} {d : D} (h : f ds n = .ok (.val d) n') : callR f ds ⟨l, n⟩ = .ok (.val d) ⟨l, n'⟩ := by simp [callR, h]
theorem e_callRo {f : FM} {ds : List D} {l : List SV} {n n' : Int} {d : List D} (h : f ds n = .ok (.own d) n') : callR f ds ⟨l, n⟩ = .ok (.own d) ⟨l, n'⟩ := by simp [callR, h]
def kCallP (f : FM) (i : Nat) (ds : List D) (s : S) : R SV := match s.sl[i]? with
    | some (.own [.int n]) => if noPiles ds = true then outR i (f (.pile :: ds) n) s else .stuck
    | _ => .stuck
theorem e_callP {i : Nat} {f : FM} {m : AM} {l : List SV} {n : Int} {d : List D} (h : l[i]? = some (.own d)) : oCallR i f m ⟨l, n⟩ = (m ⟨l, n⟩).bind (kCallP f i) := by simp only [oCallR, h]; rfl
theorem e_kCallP {i : Nat} {f : FM} {l : List SV} {n k k' : Int} {ds : List D} {d : D} (h : l[i]? = some (.own [.int k])) (hp : noPiles ds = true) (hf : f (.pile :: ds) k = .ok (.val d) k') (hd : noPile d = true) : kCallP f i ds ⟨l, n⟩ = .ok (.val d) ⟨l.set i (.own [.int k']), n⟩ := by simp [kCallP, h, hp, hf, outR, hd]
theorem e_kCallPo {i : Nat} {f : FM} {l : List SV} {n k k' : Int} {ds : List D} {d : List D} (h : l[i]? = some (.own [.int k])) (hp : noPiles ds = true) (hf : f (.pile :: ds) k = .ok (.own d) k') (hd : noPiles d = true) : kCallP f i ds ⟨l, n⟩ = .ok (.own d) ⟨l.set i (.own [.int k']), n⟩ := by simp [kCallP, h, hp, hf, outR, hd]

/-! ### statements -/
def kSeq (b : SM) : RS → RS
  | .nx s => b s
  | r => r
theorem e_seq {a b : SM} {s : S} : mSeq a b s = kSeq b (a s) := (id rfl)
theorem e_kSeqN {b : SM} {s : S} : kSeq b (.nx s) = b s := (id rfl)
theorem e_kSeqR {b : SM} {v : SV} {s : S} : kSeq b (.rt v s) = .rt v s := (id rfl)
theorem e_kSeqB {b : SM} {s : S} : kSeq b (.bk s) = .bk s := (id rfl)
theorem e_kSeqC {b : SM} {s : S} : kSeq b (.ct s) = .ct s := (id rfl)
theorem e_kSeqX {b : SM} {c : String} {n : Option Int} {s : S} : kSeq b (.exc c n s) = .exc c n s := (id rfl)
theorem e_next {s : S} : mNext s = .nx s := (id rfl)
def kSet (i : Nat) (r : SV) (s : S) : RS := .nx ⟨s.sl.set i r, s.pile⟩
theorem e_set {i : Nat} {m : OM} {s : S} : mSet i m s = (m s).bs (kSet i) := (id rfl)
theorem e_kSet {i : Nat} {r : SV} {l : List SV} {n : Int} : kSet i r ⟨l, n⟩ = .nx ⟨l.set i r, n⟩ := (id rfl)
def kGood : R SV → R SV
  | .ok .no _ => .stuck
  | r => r
theorem e_good {m : OM} {s : S} : good m s = kGood (m s) := (id rfl)
theorem e_kGoodV {d : D} {s : S} : kGood (.ok (.val d) s) = .ok (.val d) s := (id rfl)
theorem e_kGoodO {d : List D} {s : S} : kGood (.ok (.own d) s) = .ok (.own d) s := (id rfl)
theorem e_kGoodD {d : List (L2.Key × D)} {s : S} : kGood (.ok (.dct d) s) = .ok (.dct d) s := (id rfl)
theorem e_kGoodX {c : String} {n : Option Int} {s : S} : kGood (.exc c n s) = .exc c n s := (id rfl)
def kAsg (gm : D → S → Option S) (d : D) (s : S) : RS := .of (gm d s)
theorem e_asg {m : EM} {gm : D → S → Option S} {s : S} : mAsg m gm s = (m s).bs (kAsg gm) := (id rfl)
theorem e_kAsg {gm : D → S → Option S} {d : D} {s : S} : kAsg gm d s = .of (gm d s) := (id rfl)
theorem e_rsof {s : S} : RS.of (some s) = .nx s := (id rfl)
theorem e_gN {i : Nat} {d : D} {l : List SV} {n : Int} : gN i d ⟨l, n⟩ = some ⟨l.set i (.val d), n⟩ := (id rfl)
def kPar (i j : Nat) (ds : List D) (s : S) : RS := match ds with
  | [d, e] => .nx ⟨(s.sl.set i (.val d)).set j (.val e), s.pile⟩
  | _ => .stuck
theorem e_par {i j : Nat} {m : AM} {s : S} : mPar i j m s = (m s).bs (kPar i j) := (id rfl)
theorem e_kPar {i j : Nat} {d e : D} {l : List SV} {n : Int} : kPar i j [d, e] ⟨l, n⟩ = .nx ⟨(l.set i (.val d)).set j (.val e), n⟩ := (id rfl)
def kRet (r : SV) (s : S) : RS := .rt r s
theorem e_ret {m : OM} {s : S} : mRet m s = (m s).bs kRet := (id rfl)
theorem e_kRet {r : SV} {s : S} : kRet r s = .rt r s := (id rfl)
def kDrop (d : D) (s : S) : RS := .nx s
theorem e_drop {m : EM} {s : S} : mDrop m s = (m s).bs kDrop := (id rfl)
theorem e_kDrop {d : D} {s : S} : kDrop d s = .nx s := (id rfl)
def kIf (a b : SM) (k : Bool) (s : S) : RS := if k = true then a s else b s
theorem e_if {c : TM} {a b : SM} {s : S} : mIfS c a b s = (c s).bs (kIf a b) := (id rfl)
theorem e_kIfT {a b : SM} {s : S} : kIf a b true s = a s := (id rfl)
theorem e_kIfF {a b : SM} {s : S} : kIf a b false s = b s := (id rfl)
theorem e_raise {c : String} {s : S} : mRaise c s = .exc c none s := (id rfl)
def kFor (gm : D → S → Option S) (b : SM) (l : List D) (s : S) : RS := forLoop gm b l s
theorem e_for {it : AM} {gm : D → S → Option S} {b : SM} {s : S} : mFor it gm b s = (it s).bs (kFor gm b) := (id rfl)
theorem e_kFor {gm : D → S → Option S} {b : SM} {l : List D} {s : S} : kFor gm b l s = forLoop gm b l s := (id rfl)
def kItA (d : D) (s : S) : R (List D) := R.of (items d) s
theorem e_itA {m : EM} {s : S} : itA m s = (m s).bind kItA := (id rfl)
theorem e_kItA {d : D} {s : S} : kItA d s = R.of (items d) s := (id rfl)
def kR1 (ds : List D) (s : S) : R (List D) := match ds with
  | [.int j] => if -(2 ^ 62) ≤ j ∧ j < 2 ^ 62 then .ok (dInts 0 j.toNat) s else .stuck
  | _ => .stuck
theorem e_itR1 {m : AM} {s : S} : itR1 m s = (m s).bind kR1 := (id rfl)
theorem e_kR1 {j : Int} {s : S} (h : 0 ≤ j ∧ j < 4000000000000000000) : kR1 [.int j] s = .ok (dInts 0 j.toNat) s := by
  unfold kR1
  exact if_pos ⟨by omega, by omega⟩
def kR2 (ds : List D) (s : S) : R (List D) := match ds with
  | [.int i, .int j] => if -(2 ^ 62) ≤ i ∧ i < 2 ^ 62 ∧ -(2 ^ 62) ≤ j ∧ j < 2 ^ 62 then .ok (dInts i (j - i).toNat) s else .stuck
  | _ => .stuck
theorem e_itR2 {m : AM} {s : S} : itR2 m s = (m s).bind kR2 := (id rfl)
theorem e_kR2 {i j : Int} {s : S} (h : 0 ≤ i ∧ i < 4000000000000000000 ∧ 0 ≤ j ∧ j < 4000000000000000000) : kR2 [.int i, .int j] s = .ok (dInts i (j - i).toNat) s := by
  unfold kR2
  exact if_pos ⟨by omega, by omega, by omega, by omega⟩
def kPile (i : Nat) (d : D) (s : S) : RS := match d, s.sl[i]? with
  | .int n, some (.val .pile) => .nx ⟨s.sl, n⟩
  | _, _ => .stuck
theorem e_pileSet {i : Nat} {m : EM} {s : S} : mPileSet i m s = (m s).bs (kPile i) := (id rfl)
theorem e_kPile {i : Nat} {k n : Int} {l : List SV} (h : l[i]? = some (.val .pile)) : kPile i (.int k) ⟨l, n⟩ = .nx ⟨l, k⟩ := by simp [kPile, h]
def kApp (i : Nat) (d : D) (s : S) : RS := match s.sl[i]? with
    | some (.own l) => if l.length < sizeLine then .nx ⟨s.sl.set i (.own (l ++ [d])), s.pile⟩ else .stuck
    | _ => .stuck
theorem e_app {i : Nat} {m : EM} {l : List SV} {n : Int} {d : List D} (h : l[i]? = some (.own d)) : mApp i m ⟨l, n⟩ = (m ⟨l, n⟩).bs (kApp i) := by simp only [mApp, h]; rfl
theorem e_kApp {i : Nat} {l : List SV} {n : Int} {d : List D} {x : D} (h : l[i]? = some (.own d)) (hl : d.length < sizeLine) : kApp i x ⟨l, n⟩ = .nx ⟨l.set i (.own (d ++ [x])), n⟩ := by simp [kApp, h, hl]

/-! ### loops -/
theorem for_nil {gm : D → S → Option S} {b : SM} {s : S} : forLoop gm b [] s = .nx s := (id rfl)
def kLoop (gm : D → S → Option S) (b : SM) (r : List D) : RS → RS
  | .nx s => forLoop gm b r s
  | .ct s => forLoop gm b r s
  | .bk s => .nx s
  | x => x
theorem for_cons {gm : D → S → Option S} {b : SM} {d : D} {r : List D} {s s1 : S} (h : gm d s = some s1) : forLoop gm b (d :: r) s = kLoop gm b r (b s1) := by
  show (match gm d s with
    | none => RS.stuck
    | some s1 => match b s1 with
      | .nx s2 => forLoop gm b r s2
      | .ct s2 => forLoop gm b r s2
      | .bk s2 => .nx s2
      | r => r) = _
  rw [h]
  show (match b s1 with
      | .nx s2 => forLoop gm b r s2
      | .ct s2 => forLoop gm b r s2
      | .bk s2 => .nx s2
      | r => r) = _
  cases b s1 <;> rfl
theorem e_kLoopN {gm : D → S → Option S} {b : SM} {r : List D} {s : S} : kLoop gm b r (.nx s) = forLoop gm b r s := (id rfl)
theorem e_kLoopC {gm : D → S → Option S} {b : SM} {r : List D} {s : S} : kLoop gm b r (.ct s) = forLoop gm b r s := (id rfl)
theorem e_kLoopB {gm : D → S → Option S} {b : SM} {r : List D} {s : S} : kLoop gm b r (.bk s) = .nx s := (id rfl)
theorem e_kLoopR {gm : D → S → Option S} {b : SM} {r : List D} {v : SV} {s : S} : kLoop gm b r (.rt v s) = .rt v s := (id rfl)
/-- a loop keeps what it keeps -/
theorem for_inv {gm : D → S → Option S} {b : SM} (I : List D → S → Prop) : ∀ (l : List D) (s : S), I l s →
    (∀ d r s, I (d :: r) s → ∃ s1 s2, gm d s = some s1 ∧ (b s1 = .nx s2 ∨ b s1 = .ct s2) ∧ I r s2) → ∃ s2, forLoop gm b l s = .nx s2 ∧ I [] s2
  | [], s, h, _ => ⟨s, rfl, h⟩
  | d :: r, s, h, st => by
    obtain ⟨s1, s2, e1, e2, h2⟩ := st d r s h
    obtain ⟨s3, e3, h3⟩ := for_inv I r s2 h2 st
    refine ⟨s3, ?_, h3⟩
    rw [for_cons e1]
    rcases e2 with e2 | e2 <;> rw [e2] <;> exact e3
theorem bs_congr {α : Type} {r : R α} {a : α} {s : S} {k : α → S → RS} (h : r = .ok a s) : r.bs k = k a s := by rw [h]; rfl
def kWh2 (c : TM) (b : SM) (n : Nat) : RS → RS
  | .nx s => mWhile c b n s
  | .ct s => mWhile c b n s
  | .bk s => .nx s
  | x => x
theorem wh_t {c : TM} {b : SM} {n : Nat} {s s1 : S} (h : c s = .ok true s1) : mWhile c b (n + 1) s = kWh2 c b n (b s1) := by
  unfold mWhile
  rw [h]
  simp only [R.bs_ok, if_pos]
  cases b s1 <;> rfl
theorem wh_f {c : TM} {b : SM} {n : Nat} {s s1 : S} (h : c s = .ok false s1) : mWhile c b (n + 1) s = .nx s1 := by
  unfold mWhile
  rw [h]
  rfl
theorem e_kWhN {c : TM} {b : SM} {n : Nat} {s : S} : kWh2 c b n (.nx s) = mWhile c b n s := (id rfl)
theorem e_kWhC {c : TM} {b : SM} {n : Nat} {s : S} : kWh2 c b n (.ct s) = mWhile c b n s := (id rfl)
theorem e_kWhB {c : TM} {b : SM} {n : Nat} {s : S} : kWh2 c b n (.bk s) = .nx s := (id rfl)
theorem e_kWhR {c : TM} {b : SM} {n : Nat} {v : SV} {s : S} : kWh2 c b n (.rt v s) = .rt v s := (id rfl)

/-! ### comprehensions -/
theorem lc_run {vs : List Nat} {gm : D → S → Option S} {t : TM} {e : EM} {s0 : S} (P : D → Bool) (f : D → D) : ∀ (l acc : List D),
    (∀ d ∈ l, ∃ s1, gm d s0 = some s1 ∧ ((P d = true ∧ ∃ s2 s3, t s1 = .ok true s2 ∧ e s2 = .ok (f d) s3 ∧ S.mk (wipeS s3.sl vs) s3.pile = s0) ∨ (P d = false ∧ ∃ s2, t s1 = .ok false s2 ∧ S.mk (wipeS s2.sl vs) s2.pile = s0))) →
    acc.length + l.length ≤ sizeLine → lcLoop vs gm t e l acc s0 = .ok (acc ++ (l.filter P).map f) s0
  | [], acc, _, _ => by simp [lcLoop]
  | d :: r, acc, h, hl => by
    obtain ⟨s1, e1, h1⟩ := h d (List.mem_cons_self ..)
    have hr : ∀ x ∈ r, _ := fun x hx => h x (List.mem_cons_of_mem _ hx)
    rw [List.length_cons] at hl
    rcases h1 with ⟨p, s2, s3, e2, e3, e4⟩ | ⟨p, s2, e2, e4⟩
    · have ih := lc_run P f r (acc ++ [f d]) hr (by rw [List.length_append, List.length_singleton]; omega)
      unfold lcLoop
      simp only [e1, e2, e3]
      rw [if_pos (by omega), e4, ih, List.filter_cons_of_pos p, List.map_cons, List.append_assoc]
      rfl
    · have ih := lc_run P f r acc hr (by omega)
      unfold lcLoop
      simp only [e1, e2]
      rw [e4, ih, List.filter_cons_of_neg (by simp [p])]
def kLc2 (vs : List Nat) (old : List SV) (acc : List D) (s : S) : R SV := .ok (.own acc) ⟨backS s.sl old vs, s.pile⟩
def kLc (vs : List Nat) (gm : D → S → Option S) (t : TM) (e : EM) (l : List D) (s : S) : R SV := (lcLoop vs gm t e l [] ⟨wipeS s.sl vs, s.pile⟩).bind (kLc2 vs s.sl)
theorem e_oLc {vs : List Nat} {it : AM} {gm : D → S → Option S} {t : TM} {e : EM} {s : S} : oLc vs it gm t e s = (it s).bind (kLc vs gm t e) := (id rfl)
/-- a comprehension with one variable, of no value before -/
theorem lc_one {v : Nat} {t : TM} {e : EM} {l : List SV} {n : Int} {ds : List D} (P : D → Bool) (f : D → D) (hn : l[v]? = some .no) (hl : ds.length ≤ sizeLine)
    (h : ∀ d ∈ ds, (P d = true ∧ t ⟨l.set v (.val d), n⟩ = .ok true ⟨l.set v (.val d), n⟩ ∧ e ⟨l.set v (.val d), n⟩ = .ok (f d) ⟨l.set v (.val d), n⟩) ∨ (P d = false ∧ t ⟨l.set v (.val d), n⟩ = .ok false ⟨l.set v (.val d), n⟩)) :
    kLc [v] (gN v) t e ds ⟨l, n⟩ = .ok (.own ((ds.filter P).map f)) ⟨l, n⟩ := by
  have w : l.set v SV.no = l := by
    apply List.ext_getElem?
    intro i
    rw [List.getElem?_set]
    by_cases hv : v = i
    · subst hv
      rw [if_pos rfl, hn]
      split
      · rfl
      · rename_i q
        rw [List.getElem?_eq_none (by omega)] at hn; cases hn
    · rw [if_neg hv]
  have w2 : ∀ x, (l.set v x).set v SV.no = l := fun x => by rw [List.set_set, w]
  unfold kLc
  show (lcLoop [v] (gN v) t e ds [] ⟨l.set v .no, n⟩).bind _ = _
  rw [w, lc_run P f ds [] (fun d hd => ⟨⟨l.set v (.val d), n⟩, rfl, ?_⟩) (by simpa using hl)]
  · show R.ok _ (S.mk (l.set v (keepV l[v]?)) n) = _
    rw [hn]
    show R.ok _ (S.mk (l.set v .no) n) = _
    rw [w]; rfl
  · rcases h d hd with ⟨p, h1, h2⟩ | ⟨p, h1⟩
    · exact .inl ⟨p, _, _, h1, h2, by show S.mk ((l.set v _).set v .no) n = _; rw [w2]⟩
    · exact .inr ⟨p, _, h1, by show S.mk ((l.set v _).set v .no) n = _; rw [w2]⟩
theorem e_yes {s : S} : tYesM s = .ok true s := (id rfl)
theorem dInts_mem {lo : Int} {n : Nat} {d : D} (h : d ∈ dInts lo n) : ∃ i : Nat, i < n ∧ d = .int (lo + i) := by
  unfold dInts at h
  obtain ⟨i, h1, h2⟩ := List.mem_map.mp h
  exact ⟨i, List.mem_range.mp h1, h2.symm⟩
theorem dInts_zero {lo : Int} : dInts lo 0 = [] := rfl
theorem dInts_succ {lo : Int} {n : Nat} : dInts lo (n + 1) = .int lo :: dInts (lo + 1) n := by
  unfold dInts
  rw [List.range_succ_eq_map, List.map_cons, List.map_map]
  simp
  intro a _
  omega
/-! ### texts -/
theorem out_rt {r : SV} {s : S} : outF (.rt r s) = .ok r s.pile := (id rfl)
theorem out_nx {s : S} : outF (.nx s) = .ok (.val .non) s.pile := (id rfl)
def okS (s : List Nat) : Bool := s.all fun c => decide (c < 1114112)
theorem shaped_str {a : List Nat} (h : okS a = true) : SeqAt.shaped (.str ⟨a.toArray⟩) = true := by
  unfold SeqAt.shaped
  have : PyData.canLay0 (.str ⟨a.toArray⟩) = true := by
    unfold okS at h
    simp [PyData.canLay0, PyData.strOk, okS] at h ⊢
    exact h
  rw [this]; rfl
theorem eqv_str {a b : List Nat} (ha : okS a = true) (hb : okS b = true) : dEqv (.str a) (.str b) = some (.bl (decide (a = b))) := by
  unfold dEqv dEq
  simp only [toP, Option.bind_some]
  rw [if_pos ⟨shaped_str ha, shaped_str hb⟩]
  show some (D.bl ((⟨a.toArray⟩ : Str) == ⟨b.toArray⟩)) = _
  rw [str_beq]
  by_cases q : a = b <;> simp [q]
theorem nev_str {a b : List Nat} (ha : okS a = true) (hb : okS b = true) : dNev (.str a) (.str b) = some (.bl (decide (a ≠ b))) := by
  have h := eqv_str ha hb
  unfold dEqv at h
  unfold dNev
  obtain ⟨k, h1, h2⟩ := Option.map_eq_some_iff.mp h
  rw [h1]
  cases h2
  by_cases q : a = b <;> simp [q]
theorem eqv_int {a b : Int} : dEqv (.int a) (.int b) = some (.bl (decide (a = b))) := by
  unfold dEqv dEq
  simp only [toP, Option.bind_some]
  rw [if_pos ⟨rfl, rfl⟩]
  show some (D.bl (a == b)) = _
  congr 2
theorem nev_int {a b : Int} : dNev (.int a) (.int b) = some (.bl (decide (a ≠ b))) := by
  have h := eqv_int (a := a) (b := b)
  unfold dEqv at h
  unfold dNev
  obtain ⟨k, h1, h2⟩ := Option.map_eq_some_iff.mp h
  rw [h1]
  cases h2
  by_cases q : a = b <;> simp [q]
theorem atI_nat {α : Type} {l : List α} {i : Nat} (h : i < l.length) : atI l (i : Int) = l[i]? := by
  unfold atI ixN
  rw [if_pos (by omega), if_pos (by omega)]
  simp
theorem cut_to {α : Type} {l : List α} {k : Nat} (h : k ≤ l.length) : cutD l none (some (k : Int)) = l.take k := by
  unfold cutD
  rw [HT.sIx_none, HT.sIx_nat, List.drop_zero, Nat.min_eq_left h, Nat.sub_zero]

/-! ### for simp: what a slot holds -/
def kVar (i : Nat) (l : List SV) (n : Int) : Option SV → R D
  | some (.val d) => .ok d ⟨l, n⟩
  | some (.own d) => .ok (.lst d) ⟨l.set i (.val (.lst d)), n⟩
  | _ => .stuck
theorem e_var {i : Nat} {l : List SV} {n : Int} : mVar i ⟨l, n⟩ = kVar i l n l[i]? := (id rfl)
theorem e_kVarV {i : Nat} {l : List SV} {n : Int} {d : D} : kVar i l n (some (.val d)) = .ok d ⟨l, n⟩ := (id rfl)
theorem e_kVarO {i : Nat} {l : List SV} {n : Int} {d : List D} : kVar i l n (some (.own d)) = .ok (.lst d) ⟨l.set i (.val (.lst d)), n⟩ := (id rfl)
def kVo (i : Nat) (l : List SV) (n : Int) : Option SV → R SV
  | some (.val d) => .ok (.val d) ⟨l, n⟩
  | some (.own d) => .ok (.own d) ⟨l.set i .no, n⟩
  | some (.dct d) => .ok (.dct d) ⟨l.set i .no, n⟩
  | _ => .stuck
theorem e_oVar {i : Nat} {l : List SV} {n : Int} : oVar i ⟨l, n⟩ = kVo i l n l[i]? := (id rfl)
theorem e_kVoV {i : Nat} {l : List SV} {n : Int} {d : D} : kVo i l n (some (.val d)) = .ok (.val d) ⟨l, n⟩ := (id rfl)
theorem e_kVoO {i : Nat} {l : List SV} {n : Int} {d : List D} : kVo i l n (some (.own d)) = .ok (.own d) ⟨l.set i .no, n⟩ := (id rfl)
def kGet : Option SV → Option D
  | some (.val d) => some d
  | some (.own l) => some (.lst l)
  | _ => none
def kB1V (f : D → Option SV) (s : S) : Option D → R SV
  | some d => R.of ((f d).bind good1) s
  | none => .stuck
theorem e_b1V {f : D → Option SV} {i : Nat} {l : List SV} {n : Int} : oB1V f i ⟨l, n⟩ = kB1V f ⟨l, n⟩ (kGet l[i]?) := (id rfl)
theorem e_kB1V {f : D → Option SV} {s : S} {d : D} : kB1V f s (some d) = R.of ((f d).bind good1) s := (id rfl)
theorem e_kGetV {d : D} : kGet (some (.val d)) = some d := (id rfl)
theorem e_kGetO {d : List D} : kGet (some (.own d)) = some (.lst d) := (id rfl)
def kIxV (i : Nat) (b : EM) (s : S) : Option D → R D
  | none => .stuck
  | some _ => (b s).bind (ixAt i)
theorem e_ixV {i : Nat} {b : EM} {l : List SV} {n : Int} : mIxV i b ⟨l, n⟩ = kIxV i b ⟨l, n⟩ (kGet l[i]?) := (id rfl)
theorem e_kIxV {i : Nat} {b : EM} {s : S} {d : D} : kIxV i b s (some d) = (b s).bind (ixAt i) := (id rfl)
def kAt (y : D) (s : S) : Option D → R D
  | some .pile => (match y with
    | .int 0 => .ok (.int s.pile) s
    | _ => .stuck)
  | some d => R.of (dIx d y) s
  | none => .stuck
theorem e_ixAt {i : Nat} {y : D} {l : List SV} {n : Int} : ixAt i y ⟨l, n⟩ = kAt y ⟨l, n⟩ (kGet l[i]?) := (id rfl)
theorem e_kAtS {y : D} {s : S} {d : List Nat} : kAt y s (some (.str d)) = R.of (dIx (.str d) y) s := (id rfl)
theorem e_kAtL {y : D} {s : S} {d : List D} : kAt y s (some (.lst d)) = R.of (dIx (.lst d) y) s := (id rfl)
theorem e_kAtT {y : D} {s : S} {d : List D} : kAt y s (some (.tup d)) = R.of (dIx (.tup d) y) s := (id rfl)
theorem e_kAtK {y : D} {s : S} {d : List D} : kAt y s (some (.kst d)) = R.of (dIx (.kst d) y) s := (id rfl)
theorem e_kAtP {l : List SV} {n : Int} : kAt (.int 0) ⟨l, n⟩ (some .pile) = .ok (.int n) ⟨l, n⟩ := (id rfl)
def kRes (l : List SV) : FR → R SV
  | .ok (.val d) n => .ok (.val d) ⟨l, n⟩
  | .ok (.own d) n => .ok (.own d) ⟨l, n⟩
  | .ok _ _ => .stuck
  | .exc c m n => .exc c m ⟨l, n⟩
  | .stuck => .stuck
theorem e_res {f : FM} {ds : List D} {l : List SV} {n : Int} : callR f ds ⟨l, n⟩ = kRes l (f ds n) := by
  unfold callR kRes
  cases f ds n with
  | ok r n => cases r <;> rfl
  | _ => rfl
theorem e_kResV {l : List SV} {n : Int} {d : D} : kRes l (.ok (.val d) n) = .ok (.val d) ⟨l, n⟩ := (id rfl)
theorem e_kResO {l : List SV} {n : Int} {d : List D} : kRes l (.ok (.own d) n) = .ok (.own d) ⟨l, n⟩ := (id rfl)
theorem e_kResX {l : List SV} {n : Int} {c : String} {m : Option Int} : kRes l (.exc c m n) = .exc c m ⟨l, n⟩ := (id rfl)
def kCP (i : Nat) (f : FM) (m : AM) (s : S) : Option SV → R SV
  | some (.own _) => (m s).bind (kCallP f i)
  | _ => .stuck
theorem e_cP {i : Nat} {f : FM} {m : AM} {l : List SV} {n : Int} : oCallR i f m ⟨l, n⟩ = kCP i f m ⟨l, n⟩ l[i]? := (id rfl)
theorem e_kCP {i : Nat} {f : FM} {m : AM} {s : S} {d : List D} : kCP i f m s (some (.own d)) = (m s).bind (kCallP f i) := (id rfl)
def kCQ (i : Nat) (f : FM) (ds : List D) (s : S) : Option SV → R SV
  | some (.own [.int n]) => if noPiles ds = true then outR i (f (.pile :: ds) n) s else .stuck
  | _ => .stuck
theorem e_cQ {i : Nat} {f : FM} {ds : List D} {l : List SV} {n : Int} : kCallP f i ds ⟨l, n⟩ = kCQ i f ds ⟨l, n⟩ l[i]? := (id rfl)
theorem e_kCQ {i : Nat} {f : FM} {ds : List D} {s : S} {n : Int} : kCQ i f ds s (some (.own [.int n])) = if noPiles ds = true then outR i (f (.pile :: ds) n) s else .stuck := (id rfl)
theorem e_outRV {i : Nat} {d : D} {l : List SV} {n k : Int} : outR i (.ok (.val d) k) ⟨l, n⟩ = if noPile d = true then .ok (.val d) ⟨l.set i (.own [.int k]), n⟩ else .stuck := (id rfl)
theorem e_outRO {i : Nat} {d : List D} {l : List SV} {n k : Int} : outR i (.ok (.own d) k) ⟨l, n⟩ = if noPiles d = true then .ok (.own d) ⟨l.set i (.own [.int k]), n⟩ else .stuck := (id rfl)
def kP0 (d : D) (s : S) : Option SV → RS
  | some (.val .pile) => match d with
    | .int n => .nx ⟨s.sl, n⟩
    | _ => .stuck
  | _ => .stuck
theorem e_kP {i : Nat} {k n : Int} {l : List SV} : kPile i (.int k) ⟨l, n⟩ = kP0 (.int k) ⟨l, n⟩ l[i]? := by
  unfold kPile kP0
  cases l[i]? with
  | none => rfl
  | some v => cases v with
    | val d => cases d <;> rfl
    | _ => rfl
theorem e_kP0 {k n : Int} {l : List SV} : kP0 (.int k) ⟨l, n⟩ (some (.val .pile)) = .nx ⟨l, k⟩ := (id rfl)
def kA0 (i : Nat) (m : EM) (s : S) : Option SV → RS
  | some (.own _) => (m s).bs (kApp i)
  | _ => .stuck
theorem e_app' {i : Nat} {m : EM} {l : List SV} {n : Int} : mApp i m ⟨l, n⟩ = kA0 i m ⟨l, n⟩ l[i]? := (id rfl)
theorem e_kA0 {i : Nat} {m : EM} {s : S} {d : List D} : kA0 i m s (some (.own d)) = (m s).bs (kApp i) := (id rfl)
def kA1 (i : Nat) (d : D) (s : S) : Option SV → RS
  | some (.own l) => if l.length < sizeLine then .nx ⟨s.sl.set i (.own (l ++ [d])), s.pile⟩ else .stuck
  | _ => .stuck
theorem e_kApp' {i : Nat} {d : D} {l : List SV} {n : Int} : kApp i d ⟨l, n⟩ = kA1 i d ⟨l, n⟩ l[i]? := (id rfl)
theorem e_kA1 {i : Nat} {d : D} {s : S} {l : List D} (h : l.length < 1000) : kA1 i d s (some (.own l)) = .nx ⟨s.sl.set i (.own (l ++ [d])), s.pile⟩ := if_pos (Nat.lt_trans h (by rw [sizeLine_eq]; omega))
theorem mk_ev {np n : Nat} {b : SM} {ds : List D} {k : Int} (h : ds.length = np) : mkF np n b ds k = outF (b ⟨ds.map SV.val ++ List.replicate (n - np) .no, k⟩) := if_pos h
end Pd

/-! the meanings of the defs, printed by gen.py -/
namespace Pd
open PySem
abbrev fuel : Nat := 1000000
def k_LETTERS : List Nat := [97, 98, 99, 100, 101, 102, 103, 104, 105, 106, 107, 108, 109, 110, 111, 112, 113, 114, 115, 116, 117, 118, 119, 120, 121, 122]
def b_is_of : SM := (mRet (oV (eAnd (eF (oBn dIsi (aCons (mVar 0) (aCons (mC (.ty "str")) aNil)))) (eF (oB1 dAll (eF (oLc [2] (itA (mVar 0)) (gN 2) tYesM (mBin (dIn false) (mVar 2) (mVar 1)))))))))
def m_is_of : FM := mkF 2 3 b_is_of
def b_is_word : SM := (mRet (oCall m_is_of (aCons (mVar 0) (aCons (mC (.str k_LETTERS)) aNil))))
def m_is_word : FM := mkF 1 1 b_is_word
def b_look_at_word : SM := (mIfS (mNot (mTest (eF (oCall m_is_word (aCons (mVar 0) aNil))))) (mRaise "NoWord") mNext)
def m_look_at_word : FM := mkF 1 1 b_look_at_word
def b_look_at_root : SM := (mIfS (mTest (mBin dEqv (mVar 0) (mC (.str [])))) (mRaise "NoRoot") mNext)
def m_look_at_root : FM := mkF 1 1 b_look_at_root
def b_root_of : SM := (mSeq (mFor (itR2 (aCons (mC (.int 1)) (aCons (eF (oBin dAdd (eF (oB1V dLen 0)) (mC (.int 1)))) aNil))) (gN 1) (mIfS (mAnd (mTest (mBin dEqv (mBin dMod (eF (oB1V dLen 0)) (mVar 1)) (mC (.int 0)))) (mTest (mBin dEqv (eF (oBin dMul (eF (oSl (mVar 0) pNone (pSome (mVar 1)))) (mBin dDiv (eF (oB1V dLen 0)) (mVar 1)))) (mVar 0)))) (mRet (oSl (mVar 0) pNone (pSome (mVar 1)))) mNext))
  (mRet (oVar 0)))
def m_root_of : FM := mkF 1 2 b_root_of
def b_root : SM := (mSeq (mDrop (eF (oCall m_look_at_word (aCons (mVar 0) aNil))))
  (mSeq (mDrop (eF (oCall m_look_at_root (aCons (mVar 0) aNil))))
  (mRet (oCall m_root_of (aCons (mVar 0) aNil)))))
def m_root : FM := mkF 1 1 b_root
def b_is_whole : SM := (mRet (oV (eAnd (eF (oBn dIsi (aCons (mVar 0) (aCons (mC (.ty "int")) aNil)))) (eAnd (eNot (eF (oBn dIsi (aCons (mVar 0) (aCons (mC (.ty "bool")) aNil))))) (mBin dGe (mVar 0) (mC (.int 0)))))))
def m_is_whole : FM := mkF 1 1 b_is_whole
def b_look_at_number : SM := (mIfS (mNot (mTest (eF (oCall m_is_whole (aCons (mVar 0) aNil))))) (mRaise "NoNumber") mNext)
def m_look_at_number : FM := mkF 1 1 b_look_at_number
def b_beginning : SM := (mRet (oSl (eF (oBin dMul (mVar 0) (eF (oBin dAdd (mBin dDiv (mVar 1) (eF (oB1V dLen 0))) (mC (.int 1)))))) pNone (pSome (mVar 1))))
def m_beginning : FM := mkF 2 2 b_beginning
def b_begin : SM := (mSeq (mDrop (eF (oCall m_look_at_word (aCons (mVar 0) aNil))))
  (mSeq (mDrop (eF (oCall m_look_at_root (aCons (mVar 0) aNil))))
  (mSeq (mDrop (eF (oCall m_look_at_number (aCons (mVar 1) aNil))))
  (mRet (oCall m_beginning (aCons (mVar 0) (aCons (mVar 1) aNil)))))))
def m_begin : FM := mkF 2 2 b_begin
def b_shared : SM := (mSeq (mSet 2 (good (oBin dAdd (eF (oB1V dLen 0)) (eF (oB1V dLen 1)))))
  (mSeq (mPar 3 4 (aCons (eF (oCall m_beginning (aCons (mVar 0) (aCons (mVar 2) aNil)))) (aCons (eF (oCall m_beginning (aCons (mVar 1) (aCons (mVar 2) aNil)))) aNil)))
  (mSeq (mFor (itR1 (aCons (mVar 2) aNil)) (gN 5) (mIfS (mTest (mBin dNev (mIxV 3 (mVar 5)) (mIxV 4 (mVar 5)))) (mRet (oVar 5)) mNext))
  (mRet (oV (mC .non))))))
def m_shared : FM := mkF 2 6 b_shared
def b_together : SM := (mSeq (mDrop (eF (oCall m_look_at_word (aCons (mVar 0) aNil))))
  (mSeq (mDrop (eF (oCall m_look_at_root (aCons (mVar 0) aNil))))
  (mSeq (mDrop (eF (oCall m_look_at_word (aCons (mVar 1) aNil))))
  (mSeq (mDrop (eF (oCall m_look_at_root (aCons (mVar 1) aNil))))
  (mRet (oCall m_shared (aCons (mVar 0) (aCons (mVar 1) aNil))))))))
def m_together : FM := mkF 2 2 b_together
def b__law_mixed : SM := (mSeq (mSet 2 (good (oV (mBin dMod (eF (oB1 dInt (eF (oBin dAdd (eF (oBin dAdd (eF (oBin dMul (mBin dMod (eF (oB1V dInt 0)) (mC (.int 2147483647))) (mC (.int 48271)))) (eF (oBin dMul (mVar 1) (mC (.int 69621)))))) (mC (.int 1048583)))))) (mC (.int 2147483629))))))
  (mSeq (mSet 2 (good (oV (mBin dMod (eF (oB1 dInt (eF (oBin dMul (mVar 2) (mVar 2))))) (mC (.int 2147483587))))))
  (mRet (oV (mBin dMod (eF (oB1 dInt (eF (oBin dMul (mVar 2) (eF (oBin dAdd (mVar 2) (mC (.int 2)))))))) (mC (.int 2147483579)))))))
def m__law_mixed : FM := mkF 2 3 b__law_mixed
def b__law_pile : SM := (mSeq (mSet 2 (good (oV (mC (.int 0)))))
  (mSeq (mIfS (mTest (mBin dLt (mVar 1) (eF (oB1V dLen 0)))) (mSet 2 (good (oV (mIxV 0 (mVar 1))))) mNext)
  (mSeq (mIfS (mTest (mBin dGe (mVar 2) (mBin dPow (mC (.int 10)) (mC (.int 18))))) (mRet (oLst (aCons (mBin dMod (eF (oB1 dInt (mBin dSub (mVar 2) (mBin dPow (mC (.int 10)) (mC (.int 18)))))) (eF (oBin dMul (eF (oBin dMul (eF (oBin dMul (mBin dPow (mC (.int 10)) (mC (.int 60))) (mBin dPow (mC (.int 10)) (mC (.int 60))))) (mBin dPow (mC (.int 10)) (mC (.int 60))))) (mBin dPow (mC (.int 10)) (mC (.int 60)))))) aNil))) mNext)
  (mSeq (mSet 3 (good (oV (mC (.int 0)))))
  (mSeq (mFor (itR1 (aCons (mC (.int 24)) aNil)) (gN 4) (mSet 3 (good (oBin dAdd (eF (oBin dMul (mVar 3) (mC (.int 2147483579)))) (eF (oCall m__law_mixed (aCons (mVar 2) (aCons (eF (oBin dAdd (eF (oBin dAdd (eF (oBin dMul (mC (.int 7)) (mVar 1))) (eF (oBin dMul (mC (.int 100)) (mVar 4))))) (eF (oBin dMul (mVar 4) (mVar 4))))) aNil))))))))
  (mRet (oLst (aCons (mVar 3) aNil))))))))
def m__law_pile : FM := mkF 2 5 b__law_pile
def b__law_take : SM := (mSeq (mSet 2 (good (oV (mBin dMod (eF (oB1 dInt (mIxV 0 (mC (.int 0))))) (mVar 1)))))
  (mSeq (mPileSet 0 (mBin dDiv (mIxV 0 (mC (.int 0))) (mVar 1)))
  (mRet (oVar 2))))
def m__law_take : FM := mkF 2 3 b__law_take
def b__law_word : SM := (mSeq (mSet 3 (good (oV (mC (.str [])))))
  (mSeq (mFor (itR1 (aCons (eF (oCall m__law_take (aCons (mVar 0) (aCons (eF (oBin dAdd (mVar 2) (mC (.int 1)))) aNil)))) aNil)) (gN 4) (mSet 3 (good (oBin dAdd (mVar 3) (mIxV 1 (eF (oCall m__law_take (aCons (mVar 0) (aCons (eF (oB1V dLen 1)) aNil)))))))))
  (mRet (oVar 3))))
def m__law_word : FM := mkF 3 5 b__law_word
def b__law_letters : SM := (mRet (oV (mBin dIx (eF (oLst (aCons (mC (.str [97, 98])) (aCons (mC (.str [97, 98])) (aCons (mC (.str [97, 98])) (aCons (mC (.str [97, 98, 99])) (aCons (mC (.str [97])) (aCons (mC (.str [107, 109, 122])) aNil)))))))) (eF (oCall m__law_take (aCons (mVar 0) (aCons (mC (.int 6)) aNil)))))))
def m__law_letters : FM := mkF 1 1 b__law_letters
def b__law_begin : SM := (mSeq (mSet 2 (good (oV (mC (.str [])))))
  (mSeq (mWhile (mTest (mBin dLt (eF (oB1V dLen 2)) (mVar 1))) (mSet 2 (good (oBin dAdd (mVar 2) (mVar 0)))) fuel)
  (mRet (oSl (mVar 2) pNone (pSome (mVar 1))))))
def m__law_begin : FM := mkF 2 3 b__law_begin
def b__law_bad_words : SM := (mRet (oLst (aCons (mC .non) (aCons (mC (.int 0)) (aCons (mC (.bl true)) (aCons (mTup aNil) (aCons (eF (oLst aNil)) (aCons (eF (oLst (aCons (mC (.str [97])) aNil))) (aCons (mTup (aCons (mC (.str [97])) aNil)) (aCons (mC (.str [65])) (aCons (mC (.str [97, 32, 98])) (aCons (mC (.str [97, 63])) (aCons (mC (.str [63])) (aCons (mC (.str [97, 49])) (aCons (mC (.str [97, 98, 10])) (aCons (mC (.str [32])) (aCons (mC (.str [45])) (aCons (mC (.str [97, 66])) aNil))))))))))))))))))
def m__law_bad_words : FM := mkF 0 0 b__law_bad_words
def b__law_root_of : SM := (mSeq (mFor (itR2 (aCons (mC (.int 1)) (aCons (eF (oBin dAdd (eF (oB1V dLen 0)) (mC (.int 1)))) aNil))) (gN 1) (mIfS (mAnd (mTest (mBin dEqv (mBin dMod (eF (oB1V dLen 0)) (mVar 1)) (mC (.int 0)))) (mTest (mBin dEqv (eF (oBin dMul (eF (oSl (mVar 0) pNone (pSome (mVar 1)))) (mBin dDiv (eF (oB1V dLen 0)) (mVar 1)))) (mVar 0)))) (mRet (oSl (mVar 0) pNone (pSome (mVar 1)))) mNext))
  (mRet (oVar 0)))
def m__law_root_of : FM := mkF 1 2 b__law_root_of
def b__law_together : SM := (mSeq (mIfS (mTest (mBin dEqv (eF (oCall m__law_root_of (aCons (mVar 0) aNil))) (eF (oCall m__law_root_of (aCons (mVar 1) aNil))))) (mRet (oV (mC .non))) mNext)
  (mSeq (mSet 2 (good (oV (mC (.int 0)))))
  (mSeq (mPar 3 4 (aCons (eF (oCall m__law_begin (aCons (mVar 0) (aCons (mC (.int 200)) aNil)))) (aCons (eF (oCall m__law_begin (aCons (mVar 1) (aCons (mC (.int 200)) aNil)))) aNil)))
  (mSeq (mWhile (mAnd (mTest (mBin dLt (mVar 2) (mC (.int 200)))) (mTest (mBin dEqv (mIxV 3 (mVar 2)) (mIxV 4 (mVar 2))))) (mSet 2 (good (oBin dAdd (mVar 2) (mC (.int 1))))) fuel)
  (mRet (oVar 2))))))
def m__law_together : FM := mkF 2 5 b__law_together
def b__law_good : SM := (mSeq (mSet 2 (good (oCall m_root (aCons (mVar 0) aNil))))
  (mSeq (mIfS (mOr (mTest (mBin dNev (mVar 2) (eF (oCall m__law_root_of (aCons (mVar 0) aNil))))) (mOr (mTest (mBin dNev (eF (oCall m_root (aCons (mVar 2) aNil))) (mVar 2))) (mTest (mBin dNev (eF (oCall m_root (aCons (eF (oBin dAdd (mVar 0) (mVar 0))) aNil))) (mVar 2))))) (mRet (oV (mC (.bl false)))) mNext)
  (mSeq (mFor (itA (eF (oLst (aCons (mC (.int 0)) (aCons (mC (.int 1)) (aCons (mBin dSub (eF (oB1V dLen 0)) (mC (.int 1))) (aCons (eF (oB1V dLen 0)) (aCons (eF (oBin dAdd (eF (oB1V dLen 0)) (mC (.int 1)))) (aCons (eF (oBin dAdd (eF (oBin dMul (mC (.int 3)) (eF (oB1V dLen 0)))) (mC (.int 2)))) (aCons (mC (.int 80)) aNil)))))))))) (gN 3) (mIfS (mOr (mTest (mBin dNev (eF (oCall m_begin (aCons (mVar 0) (aCons (mVar 3) aNil)))) (eF (oCall m__law_begin (aCons (mVar 0) (aCons (mVar 3) aNil)))))) (mTest (mBin dNev (eF (oCall m_begin (aCons (mVar 2) (aCons (mVar 3) aNil)))) (eF (oCall m__law_begin (aCons (mVar 0) (aCons (mVar 3) aNil))))))) (mRet (oV (mC (.bl false)))) mNext))
  (mSeq (mSet 4 (good (oCall m_together (aCons (mVar 0) (aCons (mVar 1) aNil)))))
  (mSeq (mIfS (mOr (mTest (mBin dNev (eF (oB1V dRepr 4)) (eF (oB1 dRepr (eF (oCall m__law_together (aCons (mVar 0) (aCons (mVar 1) aNil)))))))) (mTest (mBin dNev (eF (oCall m_together (aCons (mVar 1) (aCons (mVar 0) aNil)))) (mVar 4)))) (mRet (oV (mC (.bl false)))) mNext)
  (mRet (oV (eOr (mBin (dIsN false) (mVar 4) (mC .non)) (mBin dLt (mVar 4) (eF (oBin dAdd (eF (oB1V dLen 2)) (eF (oB1 dLen (eF (oCall m__law_root_of (aCons (mVar 1) aNil))))))))))))))))
def m__law_good : FM := mkF 2 5 b__law_good
def b_law : SM := (mSeq (mFor (itR1 (aCons (eF (oBn dMax2 (aCons (mC (.int 2)) (aCons (eF (oBn dMin2 (aCons (eF (oB1V dLen 0)) (aCons (mC (.int 8)) aNil)))) aNil)))) aNil)) (gN 1) (mSeq (mSet 2 (good (oCall m__law_pile (aCons (mVar 0) (aCons (mVar 1) aNil)))))
  (mSeq (mSet 3 (good (oCallR 2 m__law_letters aNil)))
  (mFor (itR1 (aCons (mC (.int 4)) aNil)) (gN 4) (mSeq (mSet 5 (good (oBin dAdd (mIxV 3 (eF (oCallR 2 m__law_take (aCons (eF (oB1V dLen 3)) aNil)))) (eF (oCallR 2 m__law_word (aCons (mVar 3) (aCons (mC (.int 6)) aNil)))))))
  (mSeq (mSet 6 (good (oCall m__law_begin (aCons (mVar 5) (aCons (eF (oBin dAdd (mC (.int 1)) (eF (oCallR 2 m__law_take (aCons (mC (.int 14)) aNil))))) aNil)))))
  (mSeq (mSet 7 (good (oLst (aCons (eF (oBin dAdd (mIxV 3 (mC (.int 0))) (eF (oCallR 2 m__law_word (aCons (mVar 3) (aCons (mC (.int 6)) aNil)))))) (aCons (mVar 6) (aCons (eF (oBin dMul (mVar 5) (eF (oBin dAdd (mC (.int 1)) (eF (oCallR 2 m__law_take (aCons (mC (.int 3)) aNil))))))) aNil))))))
  (mSeq (mApp 7 (eF (oBin dAdd (mVar 6) (mIxV 3 (mNeg (mC (.int 1)))))))
  (mSeq (mIfS (mTest (mBin dNev (eF (oLc [9] (itA (mVar 7)) (gN 9) (mOr (mNot (mTest (eF (oCall m__law_good (aCons (mVar 5) (aCons (mVar 9) aNil)))))) (mNot (mTest (eF (oCall m__law_good (aCons (mVar 9) (aCons (mVar 5) aNil))))))) (mVar 9))) (eF (oLst aNil)))) (mRet (oV (mC (.bl false)))) mNext)
  (mIfS (mTest (mBin dNev (eF (oLc [10] (itA (eF (oBin dAdd (mVar 7) (eF (oLst (aCons (mC (.str [])) aNil)))))) (gN 10) (mTest (mBin (dIsB true) (eF (oCall m_is_word (aCons (mVar 10) aNil))) (mC (.bl true)))) (mVar 10))) (eF (oLst aNil)))) (mRet (oV (mC (.bl false)))) mNext))))))))))
  (mSeq (mIfS (mTest (mBin dNev (eF (oLc [11] (itA (eF (oCall m__law_bad_words aNil))) (gN 11) (mTest (mBin (dIsB true) (eF (oCall m_is_word (aCons (mVar 11) aNil))) (mC (.bl false)))) (mVar 11))) (eF (oLst aNil)))) (mRet (oV (mC (.bl false)))) mNext)
  (mSeq (mFor (itA (eF (oLst (aCons (mC (.str [116, 104, 101, 113, 117, 105, 99, 107, 98, 114, 111, 119, 110, 102, 111, 120, 106, 117, 109, 112, 115, 111, 118, 101, 114, 116, 104, 101, 108, 97, 122, 121, 100, 111, 103])) (aCons (eF (oBin dAdd (eF (oBin dMul (mC (.str [97])) (mC (.int 20)))) (mC (.str [98])))) (aCons (eF (oBin dAdd (eF (oBin dMul (mC (.str [97, 98])) (mC (.int 19)))) (mC (.str [98])))) aNil)))))) (gN 8) (mIfS (mOr (mTest (mBin dNev (eF (oCall m_root (aCons (eF (oBin dAdd (mVar 8) (mVar 8))) aNil))) (mVar 8))) (mOr (mTest (mBin dNev (eF (oCall m_root (aCons (mVar 8) aNil))) (mVar 8))) (mOr (mTest (mBin dNev (eF (oCall m_root (aCons (eF (oBin dMul (mVar 8) (mC (.int 3)))) aNil))) (mVar 8))) (mTest (mBin (dIsN true) (eF (oCall m_together (aCons (mVar 8) (aCons (eF (oBin dAdd (mVar 8) (mVar 8))) aNil)))) (mC .non)))))) (mRet (oV (mC (.bl false)))) mNext))
  (mSeq (mIfS (mOr (mTest (mBin dNev (eF (oCall m_begin (aCons (mC (.str [97, 98, 99])) (aCons (mC (.int 4000)) aNil)))) (eF (oBin dAdd (eF (oBin dMul (mC (.str [97, 98, 99])) (mC (.int 1333)))) (mC (.str [97])))))) (mTest (mBin dNev (eF (oCall m_begin (aCons (eF (oBin dMul (mC (.str [97, 98])) (mC (.int 20)))) (aCons (mC (.int 4000)) aNil)))) (eF (oBin dMul (mC (.str [97, 98])) (mC (.int 2000))))))) (mRet (oV (mC (.bl false)))) mNext)
  (mRet (oV (eAnd (mBin dEqv (eF (oCall m_together (aCons (mC (.str [97, 97, 98])) (aCons (mC (.str [97, 97, 98, 97, 97])) aNil)))) (mC (.int 5))) (eAnd (mBin (dIsN false) (eF (oCall m_together (aCons (mC (.str [97, 98])) (aCons (mC (.str [97, 98, 97, 98])) aNil)))) (mC .non)) (mBin dEqv (eF (oCall m_root (aCons (mC (.str [97, 98, 97, 97, 98, 97])) aNil))) (mC (.str [97, 98, 97])))))))))))
def m_law : FM := mkF 1 12 b_law
end Pd

/-! the walks, printed by gen.py -/
namespace Pd
open PySem PySem.Spec PyProof.Rows L2
def topS (i : Nat) : Stmt := PySem.Challenge.pw_holewords_k01_words_and_roots.main.body.getD i (.Pass ⟨0, 0, 0, 0⟩)
section
variable {P : Program} {w : World} {K : PySem.W.Frag} {mg : Str → Option Value} {base : Heap}
abbrev s_is_of : Stmt := topS 8
abbrev n_is_of : List Str := ["thing", "signs", "sign"]
theorem sc_is_of : FnScope n_is_of ["thing", "signs"] (defScope s_is_of) := ⟨rfl, rfl, rfl, by decide +kernel, rfl, by decide +kernel, by decide +kernel⟩
theorem ok_is_of {a : Addr} {fd : FuncData} (F : FunD K "is_of" "is_of" (defArgs s_is_of) (defBody s_is_of) (defScope s_is_of) [] [] a fd) (gm : mg "is_of" = some (.ref a)) (B_all : mg "all" = none) (B_isinstance : mg "isinstance" = none) (B_str : mg "str" = none) : Cal P w K mg base (G0 K mg) 1 "is_of" m_is_of :=
  cal_of (m := b_is_of) F gm sc_is_of rfl rfl (fun _ _ _ _ _ _ us hl => match us, hl with | [_, _], _ => rfl) fun cdv A outer s H E hr tk ow => by
  have nd := sc_is_of.nd
  exact (dss_one (ds_ret (do_of (de_and (de_frz (do_bn call_isi rc_isi (by rfl) B_isinstance (by decide +kernel) (da_cons (de_var (pv 0)) (da_cons (de_ty (by rfl) B_str boot_str) da_nil)))) (de_one (de_frz (do_b1 (cr_all rfl) rc_all (by rfl) B_all (by decide +kernel) (de_frz (do_lc (own := [("sign", 2)]) { hc := rfl, hN := nd, hi := (di_any (de_var (pv 0))), ok := blkOk_by (own := [("sign", 2)]) (N := n_is_of) (sc := defScope s_is_of) (by decide +kernel), nd := by decide, hg := fun _ _ _ _ _ => (dgw_name (i := 2) nd rfl (by first | exact Or.inl rfl | exact Or.inr rfl)), ht := fun _ _ _ _ _ => dts_nil, he := fun _ _ _ _ _ => (de_cmp op_inA rop_in (de_var (pv 2)) (de_var (pv 1)) (by rfl)) })))))))))
abbrev s_is_word : Stmt := topS 9
abbrev n_is_word : List Str := ["thing"]
theorem sc_is_word : FnScope n_is_word ["thing"] (defScope s_is_word) := ⟨rfl, rfl, rfl, by decide +kernel, rfl, by decide +kernel, by decide +kernel⟩
theorem ok_is_word {a : Addr} {fd : FuncData} (F : FunD K "is_word" "is_word" (defArgs s_is_word) (defBody s_is_word) (defScope s_is_word) [] [] a fd) (gm : mg "is_word" = some (.ref a)) (G_LETTERS : GlobS mg "LETTERS" k_LETTERS) (C_is_of : Cal P w K mg base (G0 K mg) 1 "is_of" m_is_of) : Cal P w K mg base (G0 K mg) 2 "is_word" m_is_word :=
  cal_of (m := b_is_word) F gm sc_is_word rfl rfl (fun _ _ _ _ _ _ us hl => match us, hl with | [_], _ => rfl) fun cdv A outer s H E hr tk ow => by
  have nd := sc_is_word.nd
  exact (dss_one (ds_ret (do_call C_is_of (hr.mono (by decide)) (by rfl) tk (da_cons (de_var (pv 0)) (da_cons (de_globS (by rfl) G_LETTERS) da_nil)))))
abbrev s_look_at_word : Stmt := topS 10
abbrev n_look_at_word : List Str := ["word"]
theorem sc_look_at_word : FnScope n_look_at_word ["word"] (defScope s_look_at_word) := ⟨rfl, rfl, rfl, by decide +kernel, rfl, by decide +kernel, by decide +kernel⟩
theorem ok_look_at_word {a : Addr} {fd : FuncData} {C_NoWord : Addr} (F : FunD K "look_at_word" "look_at_word" (defArgs s_look_at_word) (defBody s_look_at_word) (defScope s_look_at_word) [] [] a fd) (gm : mg "look_at_word" = some (.ref a)) (X_NoWord : ExcOk K mg "NoWord" C_NoWord) (C_is_word : Cal P w K mg base (G0 K mg) 2 "is_word" m_is_word) : Cal P w K mg base (G0 K mg) 3 "look_at_word" m_look_at_word :=
  cal_of (m := b_look_at_word) F gm sc_look_at_word rfl rfl (fun _ _ _ _ _ _ us hl => match us, hl with | [_], _ => rfl) fun cdv A outer s H E hr tk ow => by
  have nd := sc_look_at_word.nd
  exact (dss_one (ds_if (dt_not (dt_val (de_frz (do_call C_is_word (hr.mono (by decide)) (by rfl) tk (da_cons (de_var (pv 0)) da_nil))))) (dss_one (ds_raiseC tk X_NoWord (by rfl))) dss_nil))
abbrev s_look_at_root : Stmt := topS 11
abbrev n_look_at_root : List Str := ["word"]
theorem sc_look_at_root : FnScope n_look_at_root ["word"] (defScope s_look_at_root) := ⟨rfl, rfl, rfl, by decide +kernel, rfl, by decide +kernel, by decide +kernel⟩
theorem ok_look_at_root {a : Addr} {fd : FuncData} {C_NoRoot : Addr} (F : FunD K "look_at_root" "look_at_root" (defArgs s_look_at_root) (defBody s_look_at_root) (defScope s_look_at_root) [] [] a fd) (gm : mg "look_at_root" = some (.ref a)) (X_NoRoot : ExcOk K mg "NoRoot" C_NoRoot) : Cal P w K mg base (G0 K mg) 1 "look_at_root" m_look_at_root :=
  cal_of (m := b_look_at_root) F gm sc_look_at_root rfl rfl (fun _ _ _ _ _ _ us hl => match us, hl with | [_], _ => rfl) fun cdv A outer s H E hr tk ow => by
  have nd := sc_look_at_root.nd
  exact (dss_one (ds_if (dt_cmp (op_eqD hr.units) rop_eq (de_var (pv 0)) (de_str (by first | rfl | decide)) (nomark _)) (dss_one (ds_raiseC tk X_NoRoot (by rfl))) dss_nil))
abbrev s_root_of : Stmt := topS 13
abbrev n_root_of : List Str := ["word", "size"]
theorem sc_root_of : FnScope n_root_of ["word"] (defScope s_root_of) := ⟨rfl, rfl, rfl, by decide +kernel, rfl, by decide +kernel, by decide +kernel⟩
theorem ok_root_of {a : Addr} {fd : FuncData} (F : FunD K "root_of" "root_of" (defArgs s_root_of) (defBody s_root_of) (defScope s_root_of) [] [] a fd) (gm : mg "root_of" = some (.ref a)) (B_len : mg "len" = none) (B_range : mg "range" = none) : Cal P w K mg base (G0 K mg) 1 "root_of" m_root_of :=
  cal_of (m := b_root_of) F gm sc_root_of rfl rfl (fun _ _ _ _ _ _ us hl => match us, hl with | [_], _ => rfl) fun cdv A outer s H E hr tk ow => by
  have nd := sc_root_of.nd
  exact (dss_cons (ds_for ow rfl (di_range2 (by rfl) B_range (da_cons de_int (da_cons (de_frz (do_bin op_addA rop_add (de_frz (do_b1V call_len rc_len (by rfl) B_len (by decide +kernel) (pv 0))) de_int)) da_nil))) (dg_name (i := 1) nd rfl (by first | exact Or.inl rfl | exact Or.inr rfl)) (dss_one (ds_if (dw_t (dw_and (dt_cmp (op_eqD hr.units) rop_eq (de_bin op_mod rop_mod (de_frz (do_b1V call_len rc_len (by rfl) B_len (by decide +kernel) (pv 0))) (de_var (pv 1))) de_int (nomark _)) (dw_and1 (dt_cmp (op_eqD hr.units) rop_eq (de_frz (do_bin op_mulA rop_mul (de_frz (do_sl (de_var (pv 0)) dpo_none (dpo_some (de_var (pv 1))))) (de_bin op_fdiv rop_div (de_frz (do_b1V call_len rc_len (by rfl) B_len (by decide +kernel) (pv 0))) (de_var (pv 1))))) (de_var (pv 0)) (nomark _))))) (dss_one (ds_ret (do_sl (de_var (pv 0)) dpo_none (dpo_some (de_var (pv 1)))))) dss_nil)))
  (dss_one (ds_ret (do_var (pv 0)))))
abbrev s_root : Stmt := topS 14
abbrev n_root : List Str := ["word"]
theorem sc_root : FnScope n_root ["word"] (defScope s_root) := ⟨rfl, rfl, rfl, by decide +kernel, rfl, by decide +kernel, by decide +kernel⟩
theorem ok_root {a : Addr} {fd : FuncData} (F : FunD K "root" "root" (defArgs s_root) (defBody s_root) (defScope s_root) [] [] a fd) (gm : mg "root" = some (.ref a)) (C_root_of : Cal P w K mg base (G0 K mg) 1 "root_of" m_root_of) (C_look_at_root : Cal P w K mg base (G0 K mg) 1 "look_at_root" m_look_at_root) (C_look_at_word : Cal P w K mg base (G0 K mg) 3 "look_at_word" m_look_at_word) : Cal P w K mg base (G0 K mg) 4 "root" m_root :=
  cal_of (m := b_root) F gm sc_root rfl rfl (fun _ _ _ _ _ _ us hl => match us, hl with | [_], _ => rfl) fun cdv A outer s H E hr tk ow => by
  have nd := sc_root.nd
  exact (dss_cons (ds_expr (de_frz (do_call C_look_at_word (hr.mono (by decide)) (by rfl) tk (da_cons (de_var (pv 0)) da_nil))))
  (dss_cons (ds_expr (de_frz (do_call C_look_at_root (hr.mono (by decide)) (by rfl) tk (da_cons (de_var (pv 0)) da_nil))))
  (dss_one (ds_ret (do_call C_root_of (hr.mono (by decide)) (by rfl) tk (da_cons (de_var (pv 0)) da_nil))))))
abbrev s_is_whole : Stmt := topS 7
abbrev n_is_whole : List Str := ["thing"]
theorem sc_is_whole : FnScope n_is_whole ["thing"] (defScope s_is_whole) := ⟨rfl, rfl, rfl, by decide +kernel, rfl, by decide +kernel, by decide +kernel⟩
theorem ok_is_whole {a : Addr} {fd : FuncData} (F : FunD K "is_whole" "is_whole" (defArgs s_is_whole) (defBody s_is_whole) (defScope s_is_whole) [] [] a fd) (gm : mg "is_whole" = some (.ref a)) (B_bool : mg "bool" = none) (B_int : mg "int" = none) (B_isinstance : mg "isinstance" = none) : Cal P w K mg base (G0 K mg) 1 "is_whole" m_is_whole :=
  cal_of (m := b_is_whole) F gm sc_is_whole rfl rfl (fun _ _ _ _ _ _ us hl => match us, hl with | [_], _ => rfl) fun cdv A outer s H E hr tk ow => by
  have nd := sc_is_whole.nd
  exact (dss_one (ds_ret (do_of (de_and (de_frz (do_bn call_isi rc_isi (by rfl) B_isinstance (by decide +kernel) (da_cons (de_var (pv 0)) (da_cons (de_ty (by rfl) B_int boot_int) da_nil)))) (de_and (de_not (de_frz (do_bn call_isi rc_isi (by rfl) B_isinstance (by decide +kernel) (da_cons (de_var (pv 0)) (da_cons (de_ty (by rfl) B_bool boot_bool) da_nil))))) (de_one (de_cmp op_ge rop_ge (de_var (pv 0)) de_int (nomark _))))))))
abbrev s_look_at_number : Stmt := topS 12
abbrev n_look_at_number : List Str := ["n"]
theorem sc_look_at_number : FnScope n_look_at_number ["n"] (defScope s_look_at_number) := ⟨rfl, rfl, rfl, by decide +kernel, rfl, by decide +kernel, by decide +kernel⟩
theorem ok_look_at_number {a : Addr} {fd : FuncData} {C_NoNumber : Addr} (F : FunD K "look_at_number" "look_at_number" (defArgs s_look_at_number) (defBody s_look_at_number) (defScope s_look_at_number) [] [] a fd) (gm : mg "look_at_number" = some (.ref a)) (X_NoNumber : ExcOk K mg "NoNumber" C_NoNumber) (C_is_whole : Cal P w K mg base (G0 K mg) 1 "is_whole" m_is_whole) : Cal P w K mg base (G0 K mg) 2 "look_at_number" m_look_at_number :=
  cal_of (m := b_look_at_number) F gm sc_look_at_number rfl rfl (fun _ _ _ _ _ _ us hl => match us, hl with | [_], _ => rfl) fun cdv A outer s H E hr tk ow => by
  have nd := sc_look_at_number.nd
  exact (dss_one (ds_if (dt_not (dt_val (de_frz (do_call C_is_whole (hr.mono (by decide)) (by rfl) tk (da_cons (de_var (pv 0)) da_nil))))) (dss_one (ds_raiseC tk X_NoNumber (by rfl))) dss_nil))
abbrev s_beginning : Stmt := topS 15
abbrev n_beginning : List Str := ["word", "n"]
theorem sc_beginning : FnScope n_beginning ["word", "n"] (defScope s_beginning) := ⟨rfl, rfl, rfl, by decide +kernel, rfl, by decide +kernel, by decide +kernel⟩
theorem ok_beginning {a : Addr} {fd : FuncData} (F : FunD K "beginning" "beginning" (defArgs s_beginning) (defBody s_beginning) (defScope s_beginning) [] [] a fd) (gm : mg "beginning" = some (.ref a)) (B_len : mg "len" = none) : Cal P w K mg base (G0 K mg) 1 "beginning" m_beginning :=
  cal_of (m := b_beginning) F gm sc_beginning rfl rfl (fun _ _ _ _ _ _ us hl => match us, hl with | [_, _], _ => rfl) fun cdv A outer s H E hr tk ow => by
  have nd := sc_beginning.nd
  exact (dss_one (ds_ret (do_sl (de_frz (do_bin op_mulA rop_mul (de_var (pv 0)) (de_frz (do_bin op_addA rop_add (de_bin op_fdiv rop_div (de_var (pv 1)) (de_frz (do_b1V call_len rc_len (by rfl) B_len (by decide +kernel) (pv 0)))) de_int)))) dpo_none (dpo_some (de_var (pv 1))))))
abbrev s_begin : Stmt := topS 16
abbrev n_begin : List Str := ["word", "n"]
theorem sc_begin : FnScope n_begin ["word", "n"] (defScope s_begin) := ⟨rfl, rfl, rfl, by decide +kernel, rfl, by decide +kernel, by decide +kernel⟩
theorem ok_begin {a : Addr} {fd : FuncData} (F : FunD K "begin" "begin" (defArgs s_begin) (defBody s_begin) (defScope s_begin) [] [] a fd) (gm : mg "begin" = some (.ref a)) (C_beginning : Cal P w K mg base (G0 K mg) 1 "beginning" m_beginning) (C_look_at_number : Cal P w K mg base (G0 K mg) 2 "look_at_number" m_look_at_number) (C_look_at_root : Cal P w K mg base (G0 K mg) 1 "look_at_root" m_look_at_root) (C_look_at_word : Cal P w K mg base (G0 K mg) 3 "look_at_word" m_look_at_word) : Cal P w K mg base (G0 K mg) 4 "begin" m_begin :=
  cal_of (m := b_begin) F gm sc_begin rfl rfl (fun _ _ _ _ _ _ us hl => match us, hl with | [_, _], _ => rfl) fun cdv A outer s H E hr tk ow => by
  have nd := sc_begin.nd
  exact (dss_cons (ds_expr (de_frz (do_call C_look_at_word (hr.mono (by decide)) (by rfl) tk (da_cons (de_var (pv 0)) da_nil))))
  (dss_cons (ds_expr (de_frz (do_call C_look_at_root (hr.mono (by decide)) (by rfl) tk (da_cons (de_var (pv 0)) da_nil))))
  (dss_cons (ds_expr (de_frz (do_call C_look_at_number (hr.mono (by decide)) (by rfl) tk (da_cons (de_var (pv 1)) da_nil))))
  (dss_one (ds_ret (do_call C_beginning (hr.mono (by decide)) (by rfl) tk (da_cons (de_var (pv 0)) (da_cons (de_var (pv 1)) da_nil))))))))
abbrev s_shared : Stmt := topS 17
abbrev n_shared : List Str := ["word", "other", "bound", "one", "two", "n"]
theorem sc_shared : FnScope n_shared ["word", "other"] (defScope s_shared) := ⟨rfl, rfl, rfl, by decide +kernel, rfl, by decide +kernel, by decide +kernel⟩
theorem ok_shared {a : Addr} {fd : FuncData} (F : FunD K "shared" "shared" (defArgs s_shared) (defBody s_shared) (defScope s_shared) [] [] a fd) (gm : mg "shared" = some (.ref a)) (B_len : mg "len" = none) (B_range : mg "range" = none) (C_beginning : Cal P w K mg base (G0 K mg) 1 "beginning" m_beginning) : Cal P w K mg base (G0 K mg) 2 "shared" m_shared :=
  cal_of (m := b_shared) F gm sc_shared rfl rfl (fun _ _ _ _ _ _ us hl => match us, hl with | [_, _], _ => rfl) fun cdv A outer s H E hr tk ow => by
  have nd := sc_shared.nd
  exact (dss_cons (ds_set (i := 2) nd rfl (by first | exact Or.inl rfl | exact Or.inr rfl) (do_bin op_addA rop_add (de_frz (do_b1V call_len rc_len (by rfl) B_len (by decide +kernel) (pv 0))) (de_frz (do_b1V call_len rc_len (by rfl) B_len (by decide +kernel) (pv 1)))))
  (dss_cons (ds_par (i := 3) (j := 4) rfl nd rfl rfl (by decide) rfl rfl (da_cons (de_frz (do_call C_beginning (hr.mono (by decide)) (by rfl) tk (da_cons (de_var (pv 0)) (da_cons (de_var (pv 2)) da_nil)))) (da_cons (de_frz (do_call C_beginning (hr.mono (by decide)) (by rfl) tk (da_cons (de_var (pv 1)) (da_cons (de_var (pv 2)) da_nil)))) da_nil)) (by rfl))
  (dss_cons (ds_for ow rfl (di_range1 (by rfl) B_range (da_cons (de_var (pv 2)) da_nil)) (dg_name (i := 5) nd rfl (by first | exact Or.inl rfl | exact Or.inr rfl)) (dss_one (ds_if (dt_cmp (op_neD hr.units) rop_ne (de_ixV (pv 3) (de_var (pv 5))) (de_ixV (pv 4) (de_var (pv 5))) (nomark _)) (dss_one (ds_ret (do_var (pv 5)))) dss_nil)))
  (dss_one (ds_ret (do_of de_non))))))
abbrev s_together : Stmt := topS 18
abbrev n_together : List Str := ["word", "other"]
theorem sc_together : FnScope n_together ["word", "other"] (defScope s_together) := ⟨rfl, rfl, rfl, by decide +kernel, rfl, by decide +kernel, by decide +kernel⟩
theorem ok_together {a : Addr} {fd : FuncData} (F : FunD K "together" "together" (defArgs s_together) (defBody s_together) (defScope s_together) [] [] a fd) (gm : mg "together" = some (.ref a)) (C_shared : Cal P w K mg base (G0 K mg) 2 "shared" m_shared) (C_look_at_root : Cal P w K mg base (G0 K mg) 1 "look_at_root" m_look_at_root) (C_look_at_word : Cal P w K mg base (G0 K mg) 3 "look_at_word" m_look_at_word) : Cal P w K mg base (G0 K mg) 4 "together" m_together :=
  cal_of (m := b_together) F gm sc_together rfl rfl (fun _ _ _ _ _ _ us hl => match us, hl with | [_, _], _ => rfl) fun cdv A outer s H E hr tk ow => by
  have nd := sc_together.nd
  exact (dss_cons (ds_expr (de_frz (do_call C_look_at_word (hr.mono (by decide)) (by rfl) tk (da_cons (de_var (pv 0)) da_nil))))
  (dss_cons (ds_expr (de_frz (do_call C_look_at_root (hr.mono (by decide)) (by rfl) tk (da_cons (de_var (pv 0)) da_nil))))
  (dss_cons (ds_expr (de_frz (do_call C_look_at_word (hr.mono (by decide)) (by rfl) tk (da_cons (de_var (pv 1)) da_nil))))
  (dss_cons (ds_expr (de_frz (do_call C_look_at_root (hr.mono (by decide)) (by rfl) tk (da_cons (de_var (pv 1)) da_nil))))
  (dss_one (ds_ret (do_call C_shared (hr.mono (by decide)) (by rfl) tk (da_cons (de_var (pv 0)) (da_cons (de_var (pv 1)) da_nil)))))))))
abbrev s__law_mixed : Stmt := topS 20
abbrev n__law_mixed : List Str := ["_law_cell", "_law_k", "_law_number"]
theorem sc__law_mixed : FnScope n__law_mixed ["_law_cell", "_law_k"] (defScope s__law_mixed) := ⟨rfl, rfl, rfl, by decide +kernel, rfl, by decide +kernel, by decide +kernel⟩
theorem ok__law_mixed {a : Addr} {fd : FuncData} (F : FunD K "_law_mixed" "_law_mixed" (defArgs s__law_mixed) (defBody s__law_mixed) (defScope s__law_mixed) [] [] a fd) (gm : mg "_law_mixed" = some (.ref a)) (B_int : mg "int" = none) : Cal P w K mg base (G0 K mg) 1 "_law_mixed" m__law_mixed :=
  cal_of (m := b__law_mixed) F gm sc__law_mixed rfl rfl (fun _ _ _ _ _ _ us hl => match us, hl with | [_, _], _ => rfl) fun cdv A outer s H E hr tk ow => by
  have nd := sc__law_mixed.nd
  exact (dss_cons (ds_set (i := 2) nd rfl (by first | exact Or.inl rfl | exact Or.inr rfl) (do_of (de_bin op_mod rop_mod (de_frz (do_t1 call_int1 rc_int (by rfl) B_int (by decide +kernel) (de_frz (do_bin op_addA rop_add (de_frz (do_bin op_addA rop_add (de_frz (do_bin op_mulA rop_mul (de_bin op_mod rop_mod (de_frz (do_t1V call_int1 rc_int (by rfl) B_int (by decide +kernel) (pv 0))) de_int) de_int)) (de_frz (do_bin op_mulA rop_mul (de_var (pv 1)) de_int)))) de_int)))) de_int)))
  (dss_cons (ds_set (i := 2) nd rfl (by first | exact Or.inl rfl | exact Or.inr rfl) (do_of (de_bin op_mod rop_mod (de_frz (do_t1 call_int1 rc_int (by rfl) B_int (by decide +kernel) (de_frz (do_bin op_mulA rop_mul (de_var (pv 2)) (de_var (pv 2)))))) de_int)))
  (dss_one (ds_ret (do_of (de_bin op_mod rop_mod (de_frz (do_t1 call_int1 rc_int (by rfl) B_int (by decide +kernel) (de_frz (do_bin op_mulA rop_mul (de_var (pv 2)) (de_frz (do_bin op_addA rop_add (de_var (pv 2)) de_int)))))) de_int))))))
abbrev s__law_pile : Stmt := topS 21
abbrev n__law_pile : List Str := ["_law_script", "_law_k", "_law_cell", "_law_found", "_law_j"]
theorem sc__law_pile : FnScope n__law_pile ["_law_script", "_law_k"] (defScope s__law_pile) := ⟨rfl, rfl, rfl, by decide +kernel, rfl, by decide +kernel, by decide +kernel⟩
theorem ok__law_pile {a : Addr} {fd : FuncData} (F : FunD K "_law_pile" "_law_pile" (defArgs s__law_pile) (defBody s__law_pile) (defScope s__law_pile) [] [] a fd) (gm : mg "_law_pile" = some (.ref a)) (B_int : mg "int" = none) (B_len : mg "len" = none) (B_range : mg "range" = none) (C__law_mixed : Cal P w K mg base (G0 K mg) 1 "_law_mixed" m__law_mixed) : Cal P w K mg base (G0 K mg) 2 "_law_pile" m__law_pile :=
  cal_of (m := b__law_pile) F gm sc__law_pile rfl rfl (fun _ _ _ _ _ _ us hl => match us, hl with | [_, _], _ => rfl) fun cdv A outer s H E hr tk ow => by
  have nd := sc__law_pile.nd
  exact (dss_cons (ds_set (i := 2) nd rfl (by first | exact Or.inl rfl | exact Or.inr rfl) (do_of de_int))
  (dss_cons (ds_if (dt_cmp op_ltA rop_lt (de_var (pv 1)) (de_frz (do_b1V call_len rc_len (by rfl) B_len (by decide +kernel) (pv 0))) (nomark _)) (dss_one (ds_set (i := 2) nd rfl (by first | exact Or.inl rfl | exact Or.inr rfl) (do_of (de_ixV (pv 0) (de_var (pv 1)))))) dss_nil)
  (dss_cons (ds_if (dt_cmp op_ge rop_ge (de_var (pv 2)) (de_bin op_pow rop_pow de_int de_int) (nomark _)) (dss_one (ds_ret (do_lst (da_cons (de_bin op_mod rop_mod (de_frz (do_t1 call_int1 rc_int (by rfl) B_int (by decide +kernel) (de_bin op_sub rop_sub (de_var (pv 2)) (de_bin op_pow rop_pow de_int de_int)))) (de_frz (do_bin op_mulA rop_mul (de_frz (do_bin op_mulA rop_mul (de_frz (do_bin op_mulA rop_mul (de_bin op_pow rop_pow de_int de_int) (de_bin op_pow rop_pow de_int de_int))) (de_bin op_pow rop_pow de_int de_int))) (de_bin op_pow rop_pow de_int de_int)))) da_nil)))) dss_nil)
  (dss_cons (ds_set (i := 3) nd rfl (by first | exact Or.inl rfl | exact Or.inr rfl) (do_of de_int))
  (dss_cons (ds_for ow rfl (di_range1 (by rfl) B_range (da_cons de_int da_nil)) (dg_name (i := 4) nd rfl (by first | exact Or.inl rfl | exact Or.inr rfl)) (dss_one (ds_set (i := 3) nd rfl (by first | exact Or.inl rfl | exact Or.inr rfl) (do_bin op_addA rop_add (de_frz (do_bin op_mulA rop_mul (de_var (pv 3)) de_int)) (de_frz (do_call C__law_mixed (hr.mono (by decide)) (by rfl) tk (da_cons (de_var (pv 2)) (da_cons (de_frz (do_bin op_addA rop_add (de_frz (do_bin op_addA rop_add (de_frz (do_bin op_mulA rop_mul de_int (de_var (pv 1)))) (de_frz (do_bin op_mulA rop_mul de_int (de_var (pv 4)))))) (de_frz (do_bin op_mulA rop_mul (de_var (pv 4)) (de_var (pv 4)))))) da_nil))))))))
  (dss_one (ds_ret (do_lst (da_cons (de_var (pv 3)) da_nil)))))))))
abbrev s__law_take : Stmt := topS 22
abbrev n__law_take : List Str := ["_law_pile_here", "_law_size", "_law_digit"]
theorem sc__law_take : FnScope n__law_take ["_law_pile_here", "_law_size"] (defScope s__law_take) := ⟨rfl, rfl, rfl, by decide +kernel, rfl, by decide +kernel, by decide +kernel⟩
theorem ok__law_take {a : Addr} {fd : FuncData} (F : FunD K "_law_take" "_law_take" (defArgs s__law_take) (defBody s__law_take) (defScope s__law_take) [] [] a fd) (gm : mg "_law_take" = some (.ref a)) (B_int : mg "int" = none) : Cal P w K mg base (G0 K mg) 1 "_law_take" m__law_take :=
  cal_of (m := b__law_take) F gm sc__law_take rfl rfl (fun _ _ _ _ _ _ us hl => match us, hl with | [_, _], _ => rfl) fun cdv A outer s H E hr tk ow => by
  have nd := sc__law_take.nd
  exact (dss_cons (ds_set (i := 2) nd rfl (by first | exact Or.inl rfl | exact Or.inr rfl) (do_of (de_bin op_mod rop_mod (de_frz (do_t1 call_int1 rc_int (by rfl) B_int (by decide +kernel) (de_ixV (pv 0) de_int))) (de_var (pv 1)))))
  (dss_cons (ds_pileSet (de_bin op_fdiv rop_div (de_ixV (pv 0) de_int) (de_var (pv 1))) (pv 0))
  (dss_one (ds_ret (do_var (pv 2))))))
abbrev s__law_word : Stmt := topS 23
abbrev n__law_word : List Str := ["_law_pile_here", "_law_letters_here", "_law_most", "_law_found", "_law_k"]
theorem sc__law_word : FnScope n__law_word ["_law_pile_here", "_law_letters_here", "_law_most"] (defScope s__law_word) := ⟨rfl, rfl, rfl, by decide +kernel, rfl, by decide +kernel, by decide +kernel⟩
theorem ok__law_word {a : Addr} {fd : FuncData} (F : FunD K "_law_word" "_law_word" (defArgs s__law_word) (defBody s__law_word) (defScope s__law_word) [] [] a fd) (gm : mg "_law_word" = some (.ref a)) (B_len : mg "len" = none) (B_range : mg "range" = none) (C__law_take : Cal P w K mg base (G0 K mg) 1 "_law_take" m__law_take) : Cal P w K mg base (G0 K mg) 2 "_law_word" m__law_word :=
  cal_of (m := b__law_word) F gm sc__law_word rfl rfl (fun _ _ _ _ _ _ us hl => match us, hl with | [_, _, _], _ => rfl) fun cdv A outer s H E hr tk ow => by
  have nd := sc__law_word.nd
  exact (dss_cons (ds_set (i := 3) nd rfl (by first | exact Or.inl rfl | exact Or.inr rfl) (do_of (de_str (by first | rfl | decide))))
  (dss_cons (ds_for ow rfl (di_range1 (by rfl) B_range (da_cons (de_frz (do_call C__law_take (hr.mono (by decide)) (by rfl) tk (da_cons (de_var (pv 0)) (da_cons (de_frz (do_bin op_addA rop_add (de_var (pv 2)) de_int)) da_nil)))) da_nil)) (dg_name (i := 4) nd rfl (by first | exact Or.inl rfl | exact Or.inr rfl)) (dss_one (ds_set (i := 3) nd rfl (by first | exact Or.inl rfl | exact Or.inr rfl) (do_bin op_addA rop_add (de_var (pv 3)) (de_ixV (pv 1) (de_frz (do_call C__law_take (hr.mono (by decide)) (by rfl) tk (da_cons (de_var (pv 0)) (da_cons (de_frz (do_b1V call_len rc_len (by rfl) B_len (by decide +kernel) (pv 1))) da_nil)))))))))
  (dss_one (ds_ret (do_var (pv 3))))))
abbrev s__law_letters : Stmt := topS 24
abbrev n__law_letters : List Str := ["_law_pile_here"]
theorem sc__law_letters : FnScope n__law_letters ["_law_pile_here"] (defScope s__law_letters) := ⟨rfl, rfl, rfl, by decide +kernel, rfl, by decide +kernel, by decide +kernel⟩
theorem ok__law_letters {a : Addr} {fd : FuncData} (F : FunD K "_law_letters" "_law_letters" (defArgs s__law_letters) (defBody s__law_letters) (defScope s__law_letters) [] [] a fd) (gm : mg "_law_letters" = some (.ref a)) (C__law_take : Cal P w K mg base (G0 K mg) 1 "_law_take" m__law_take) : Cal P w K mg base (G0 K mg) 2 "_law_letters" m__law_letters :=
  cal_of (m := b__law_letters) F gm sc__law_letters rfl rfl (fun _ _ _ _ _ _ us hl => match us, hl with | [_], _ => rfl) fun cdv A outer s H E hr tk ow => by
  have nd := sc__law_letters.nd
  exact (dss_one (ds_ret (do_of (de_ix (de_frz (do_lst (da_cons (de_str (by first | rfl | decide)) (da_cons (de_str (by first | rfl | decide)) (da_cons (de_str (by first | rfl | decide)) (da_cons (de_str (by first | rfl | decide)) (da_cons (de_str (by first | rfl | decide)) (da_cons (de_str (by first | rfl | decide)) da_nil)))))))) (de_frz (do_call C__law_take (hr.mono (by decide)) (by rfl) tk (da_cons (de_var (pv 0)) (da_cons de_int da_nil))))))))
abbrev s__law_begin : Stmt := topS 26
abbrev n__law_begin : List Str := ["_law_word_here", "_law_n", "_law_found"]
theorem sc__law_begin : FnScope n__law_begin ["_law_word_here", "_law_n"] (defScope s__law_begin) := ⟨rfl, rfl, rfl, by decide +kernel, rfl, by decide +kernel, by decide +kernel⟩
theorem ok__law_begin {a : Addr} {fd : FuncData} (F : FunD K "_law_begin" "_law_begin" (defArgs s__law_begin) (defBody s__law_begin) (defScope s__law_begin) [] [] a fd) (gm : mg "_law_begin" = some (.ref a)) (B_len : mg "len" = none) : Cal P w K mg base (G0 K mg) 1 "_law_begin" m__law_begin :=
  cal_of (m := b__law_begin) F gm sc__law_begin rfl rfl (fun _ _ _ _ _ _ us hl => match us, hl with | [_, _], _ => rfl) fun cdv A outer s H E hr tk ow => by
  have nd := sc__law_begin.nd
  exact (dss_cons (ds_set (i := 2) nd rfl (by first | exact Or.inl rfl | exact Or.inr rfl) (do_of (de_str (by first | rfl | decide))))
  (dss_cons (ds_while fuel ow (dt_cmp op_ltA rop_lt (de_frz (do_b1V call_len rc_len (by rfl) B_len (by decide +kernel) (pv 2))) (de_var (pv 1)) (nomark _)) (dss_one (ds_set (i := 2) nd rfl (by first | exact Or.inl rfl | exact Or.inr rfl) (do_bin op_addA rop_add (de_var (pv 2)) (de_var (pv 0))))))
  (dss_one (ds_ret (do_sl (de_var (pv 2)) dpo_none (dpo_some (de_var (pv 1))))))))
abbrev s__law_bad_words : Stmt := topS 27
abbrev n__law_bad_words : List Str := []
theorem sc__law_bad_words : FnScope n__law_bad_words [] (defScope s__law_bad_words) := ⟨rfl, rfl, rfl, by decide +kernel, rfl, by decide +kernel, by decide +kernel⟩
theorem ok__law_bad_words {a : Addr} {fd : FuncData} (F : FunD K "_law_bad_words" "_law_bad_words" (defArgs s__law_bad_words) (defBody s__law_bad_words) (defScope s__law_bad_words) [] [] a fd) (gm : mg "_law_bad_words" = some (.ref a)) : Cal P w K mg base (G0 K mg) 1 "_law_bad_words" m__law_bad_words :=
  cal_of (m := b__law_bad_words) F gm sc__law_bad_words rfl rfl (fun _ _ _ _ _ _ us hl => match us, hl with | [], _ => rfl) fun cdv A outer s H E hr tk ow => by
  have nd := sc__law_bad_words.nd
  exact (dss_one (ds_ret (do_lst (da_cons de_non (da_cons de_int (da_cons de_bl (da_cons (de_tup da_nil) (da_cons (de_frz (do_lst da_nil)) (da_cons (de_frz (do_lst (da_cons (de_str (by first | rfl | decide)) da_nil))) (da_cons (de_tup (da_cons (de_str (by first | rfl | decide)) da_nil)) (da_cons (de_str (by first | rfl | decide)) (da_cons (de_str (by first | rfl | decide)) (da_cons (de_str (by first | rfl | decide)) (da_cons (de_str (by first | rfl | decide)) (da_cons (de_str (by first | rfl | decide)) (da_cons (de_str (by first | rfl | decide)) (da_cons (de_str (by first | rfl | decide)) (da_cons (de_str (by first | rfl | decide)) (da_cons (de_str (by first | rfl | decide)) da_nil)))))))))))))))))))
abbrev s__law_root_of : Stmt := topS 25
abbrev n__law_root_of : List Str := ["_law_word_here", "_law_size"]
theorem sc__law_root_of : FnScope n__law_root_of ["_law_word_here"] (defScope s__law_root_of) := ⟨rfl, rfl, rfl, by decide +kernel, rfl, by decide +kernel, by decide +kernel⟩
theorem ok__law_root_of {a : Addr} {fd : FuncData} (F : FunD K "_law_root_of" "_law_root_of" (defArgs s__law_root_of) (defBody s__law_root_of) (defScope s__law_root_of) [] [] a fd) (gm : mg "_law_root_of" = some (.ref a)) (B_len : mg "len" = none) (B_range : mg "range" = none) : Cal P w K mg base (G0 K mg) 1 "_law_root_of" m__law_root_of :=
  cal_of (m := b__law_root_of) F gm sc__law_root_of rfl rfl (fun _ _ _ _ _ _ us hl => match us, hl with | [_], _ => rfl) fun cdv A outer s H E hr tk ow => by
  have nd := sc__law_root_of.nd
  exact (dss_cons (ds_for ow rfl (di_range2 (by rfl) B_range (da_cons de_int (da_cons (de_frz (do_bin op_addA rop_add (de_frz (do_b1V call_len rc_len (by rfl) B_len (by decide +kernel) (pv 0))) de_int)) da_nil))) (dg_name (i := 1) nd rfl (by first | exact Or.inl rfl | exact Or.inr rfl)) (dss_one (ds_if (dw_t (dw_and (dt_cmp (op_eqD hr.units) rop_eq (de_bin op_mod rop_mod (de_frz (do_b1V call_len rc_len (by rfl) B_len (by decide +kernel) (pv 0))) (de_var (pv 1))) de_int (nomark _)) (dw_and1 (dt_cmp (op_eqD hr.units) rop_eq (de_frz (do_bin op_mulA rop_mul (de_frz (do_sl (de_var (pv 0)) dpo_none (dpo_some (de_var (pv 1))))) (de_bin op_fdiv rop_div (de_frz (do_b1V call_len rc_len (by rfl) B_len (by decide +kernel) (pv 0))) (de_var (pv 1))))) (de_var (pv 0)) (nomark _))))) (dss_one (ds_ret (do_sl (de_var (pv 0)) dpo_none (dpo_some (de_var (pv 1)))))) dss_nil)))
  (dss_one (ds_ret (do_var (pv 0)))))
abbrev s__law_together : Stmt := topS 28
abbrev n__law_together : List Str := ["_law_word_here", "_law_other", "_law_n", "_law_one", "_law_two"]
theorem sc__law_together : FnScope n__law_together ["_law_word_here", "_law_other"] (defScope s__law_together) := ⟨rfl, rfl, rfl, by decide +kernel, rfl, by decide +kernel, by decide +kernel⟩
theorem ok__law_together {a : Addr} {fd : FuncData} (F : FunD K "_law_together" "_law_together" (defArgs s__law_together) (defBody s__law_together) (defScope s__law_together) [] [] a fd) (gm : mg "_law_together" = some (.ref a)) (C__law_begin : Cal P w K mg base (G0 K mg) 1 "_law_begin" m__law_begin) (C__law_root_of : Cal P w K mg base (G0 K mg) 1 "_law_root_of" m__law_root_of) : Cal P w K mg base (G0 K mg) 2 "_law_together" m__law_together :=
  cal_of (m := b__law_together) F gm sc__law_together rfl rfl (fun _ _ _ _ _ _ us hl => match us, hl with | [_, _], _ => rfl) fun cdv A outer s H E hr tk ow => by
  have nd := sc__law_together.nd
  exact (dss_cons (ds_if (dt_cmp (op_eqD hr.units) rop_eq (de_frz (do_call C__law_root_of (hr.mono (by decide)) (by rfl) tk (da_cons (de_var (pv 0)) da_nil))) (de_frz (do_call C__law_root_of (hr.mono (by decide)) (by rfl) tk (da_cons (de_var (pv 1)) da_nil))) (nomark _)) (dss_one (ds_ret (do_of de_non))) dss_nil)
  (dss_cons (ds_set (i := 2) nd rfl (by first | exact Or.inl rfl | exact Or.inr rfl) (do_of de_int))
  (dss_cons (ds_par (i := 3) (j := 4) rfl nd rfl rfl (by decide) rfl rfl (da_cons (de_frz (do_call C__law_begin (hr.mono (by decide)) (by rfl) tk (da_cons (de_var (pv 0)) (da_cons de_int da_nil)))) (da_cons (de_frz (do_call C__law_begin (hr.mono (by decide)) (by rfl) tk (da_cons (de_var (pv 1)) (da_cons de_int da_nil)))) da_nil)) (by rfl))
  (dss_cons (ds_while fuel ow (dw_t (dw_and (dt_cmp op_ltA rop_lt (de_var (pv 2)) de_int (nomark _)) (dw_and1 (dt_cmp (op_eqD hr.units) rop_eq (de_ixV (pv 3) (de_var (pv 2))) (de_ixV (pv 4) (de_var (pv 2))) (nomark _))))) (dss_one (ds_set (i := 2) nd rfl (by first | exact Or.inl rfl | exact Or.inr rfl) (do_bin op_addA rop_add (de_var (pv 2)) de_int))))
  (dss_one (ds_ret (do_var (pv 2))))))))
abbrev s__law_good : Stmt := topS 29
abbrev n__law_good : List Str := ["_law_word_here", "_law_other", "_law_r", "_law_n", "_law_found"]
theorem sc__law_good : FnScope n__law_good ["_law_word_here", "_law_other"] (defScope s__law_good) := ⟨rfl, rfl, rfl, by decide +kernel, rfl, by decide +kernel, by decide +kernel⟩
theorem ok__law_good {a : Addr} {fd : FuncData} (F : FunD K "_law_good" "_law_good" (defArgs s__law_good) (defBody s__law_good) (defScope s__law_good) [] [] a fd) (gm : mg "_law_good" = some (.ref a)) (B_len : mg "len" = none) (B_repr : mg "repr" = none) (C__law_root_of : Cal P w K mg base (G0 K mg) 1 "_law_root_of" m__law_root_of) (C__law_together : Cal P w K mg base (G0 K mg) 2 "_law_together" m__law_together) (C_together : Cal P w K mg base (G0 K mg) 4 "together" m_together) (C_begin : Cal P w K mg base (G0 K mg) 4 "begin" m_begin) (C__law_begin : Cal P w K mg base (G0 K mg) 1 "_law_begin" m__law_begin) (C_root : Cal P w K mg base (G0 K mg) 4 "root" m_root) : Cal P w K mg base (G0 K mg) 5 "_law_good" m__law_good :=
  cal_of (m := b__law_good) F gm sc__law_good rfl rfl (fun _ _ _ _ _ _ us hl => match us, hl with | [_, _], _ => rfl) fun cdv A outer s H E hr tk ow => by
  have nd := sc__law_good.nd
  exact (dss_cons (ds_set (i := 2) nd rfl (by first | exact Or.inl rfl | exact Or.inr rfl) (do_call C_root (hr.mono (by decide)) (by rfl) tk (da_cons (de_var (pv 0)) da_nil)))
  (dss_cons (ds_if (dw_t (dw_or (dt_cmp (op_neD hr.units) rop_ne (de_var (pv 2)) (de_frz (do_call C__law_root_of (hr.mono (by decide)) (by rfl) tk (da_cons (de_var (pv 0)) da_nil))) (nomark _)) (dw_or (dt_cmp (op_neD hr.units) rop_ne (de_frz (do_call C_root (hr.mono (by decide)) (by rfl) tk (da_cons (de_var (pv 2)) da_nil))) (de_var (pv 2)) (nomark _)) (dw_or1 (dt_cmp (op_neD hr.units) rop_ne (de_frz (do_call C_root (hr.mono (by decide)) (by rfl) tk (da_cons (de_frz (do_bin op_addA rop_add (de_var (pv 0)) (de_var (pv 0)))) da_nil))) (de_var (pv 2)) (nomark _)))))) (dss_one (ds_ret (do_of de_bl))) dss_nil)
  (dss_cons (ds_for ow rfl (di_any (de_frz (do_lst (da_cons de_int (da_cons de_int (da_cons (de_bin op_sub rop_sub (de_frz (do_b1V call_len rc_len (by rfl) B_len (by decide +kernel) (pv 0))) de_int) (da_cons (de_frz (do_b1V call_len rc_len (by rfl) B_len (by decide +kernel) (pv 0))) (da_cons (de_frz (do_bin op_addA rop_add (de_frz (do_b1V call_len rc_len (by rfl) B_len (by decide +kernel) (pv 0))) de_int)) (da_cons (de_frz (do_bin op_addA rop_add (de_frz (do_bin op_mulA rop_mul de_int (de_frz (do_b1V call_len rc_len (by rfl) B_len (by decide +kernel) (pv 0))))) de_int)) (da_cons de_int da_nil)))))))))) (dg_name (i := 3) nd rfl (by first | exact Or.inl rfl | exact Or.inr rfl)) (dss_one (ds_if (dw_t (dw_or (dt_cmp (op_neD hr.units) rop_ne (de_frz (do_call C_begin (hr.mono (by decide)) (by rfl) tk (da_cons (de_var (pv 0)) (da_cons (de_var (pv 3)) da_nil)))) (de_frz (do_call C__law_begin (hr.mono (by decide)) (by rfl) tk (da_cons (de_var (pv 0)) (da_cons (de_var (pv 3)) da_nil)))) (nomark _)) (dw_or1 (dt_cmp (op_neD hr.units) rop_ne (de_frz (do_call C_begin (hr.mono (by decide)) (by rfl) tk (da_cons (de_var (pv 2)) (da_cons (de_var (pv 3)) da_nil)))) (de_frz (do_call C__law_begin (hr.mono (by decide)) (by rfl) tk (da_cons (de_var (pv 0)) (da_cons (de_var (pv 3)) da_nil)))) (nomark _))))) (dss_one (ds_ret (do_of de_bl))) dss_nil)))
  (dss_cons (ds_set (i := 4) nd rfl (by first | exact Or.inl rfl | exact Or.inr rfl) (do_call C_together (hr.mono (by decide)) (by rfl) tk (da_cons (de_var (pv 0)) (da_cons (de_var (pv 1)) da_nil))))
  (dss_cons (ds_if (dw_t (dw_or (dt_cmp (op_neD hr.units) rop_ne (de_frz (do_b1V call_reprA rc_repr (by rfl) B_repr (by decide +kernel) (pv 4))) (de_frz (do_b1 call_reprA rc_repr (by rfl) B_repr (by decide +kernel) (de_frz (do_call C__law_together (hr.mono (by decide)) (by rfl) tk (da_cons (de_var (pv 0)) (da_cons (de_var (pv 1)) da_nil)))))) (nomark _)) (dw_or1 (dt_cmp (op_neD hr.units) rop_ne (de_frz (do_call C_together (hr.mono (by decide)) (by rfl) tk (da_cons (de_var (pv 1)) (da_cons (de_var (pv 0)) da_nil)))) (de_var (pv 4)) (nomark _))))) (dss_one (ds_ret (do_of de_bl))) dss_nil)
  (dss_one (ds_ret (do_of (de_or (de_cmp op_isN rop_isN (de_var (pv 4)) de_non (nomark _)) (de_one (de_cmp op_ltA rop_lt (de_var (pv 4)) (de_frz (do_bin op_addA rop_add (de_frz (do_b1V call_len rc_len (by rfl) B_len (by decide +kernel) (pv 2))) (de_frz (do_b1 call_len rc_len (by rfl) B_len (by decide +kernel) (de_frz (do_call C__law_root_of (hr.mono (by decide)) (by rfl) tk (da_cons (de_var (pv 1)) da_nil))))))) (nomark _))))))))))))
abbrev s_law : Stmt := topS 30
abbrev n_law : List Str := ["_law_script", "_law_k", "_law_pile_here", "_law_letters_here", "_law_turn", "_law_word_here", "_law_more", "_law_others", "_law_y", "_law_other", "_law_one", "_law_thing"]
theorem sc_law : FnScope n_law ["_law_script"] (defScope s_law) := ⟨rfl, rfl, rfl, by decide +kernel, rfl, by decide +kernel, by decide +kernel⟩
theorem ok_law {a : Addr} {fd : FuncData} (F : FunD K "law" "law" (defArgs s_law) (defBody s_law) (defScope s_law) [] [] a fd) (B_len : mg "len" = none) (B_max : mg "max" = none) (B_min : mg "min" = none) (B_range : mg "range" = none) (C_together : Cal P w K mg base (G0 K mg) 4 "together" m_together) (C_root : Cal P w K mg base (G0 K mg) 4 "root" m_root) (C_begin : Cal P w K mg base (G0 K mg) 4 "begin" m_begin) (C__law_bad_words : Cal P w K mg base (G0 K mg) 1 "_law_bad_words" m__law_bad_words) (C_is_word : Cal P w K mg base (G0 K mg) 2 "is_word" m_is_word) (C__law_good : Cal P w K mg base (G0 K mg) 5 "_law_good" m__law_good) (C__law_take : Cal P w K mg base (G0 K mg) 1 "_law_take" m__law_take) (C__law_word : Cal P w K mg base (G0 K mg) 2 "_law_word" m__law_word) (C__law_begin : Cal P w K mg base (G0 K mg) 1 "_law_begin" m__law_begin) (C__law_letters : Cal P w K mg base (G0 K mg) 2 "_law_letters" m__law_letters) (C__law_pile : Cal P w K mg base (G0 K mg) 2 "_law_pile" m__law_pile) : FnOk P w K mg base (L2.CX P w) 6 a fd ["_law_script"] (spF (G0 K mg) m_law) :=
  fnok_of (m := b_law) F sc_law rfl rfl fun cdv A outer s H E hr tk ow => by
  have nd := sc_law.nd
  exact (dss_cons (ds_for ow rfl (di_range1 (by rfl) B_range (da_cons (de_frz (do_bn (call_max2 rfl) rc_max2 (by rfl) B_max (by decide +kernel) (da_cons de_int (da_cons (de_frz (do_bn (call_min2 rfl) rc_min2 (by rfl) B_min (by decide +kernel) (da_cons (de_frz (do_b1V call_len rc_len (by rfl) B_len (by decide +kernel) (pv 0))) (da_cons de_int da_nil)))) da_nil)))) da_nil)) (dg_name (i := 1) nd rfl (by first | exact Or.inl rfl | exact Or.inr rfl)) (dss_cons (ds_set (i := 2) nd rfl (by first | exact Or.inl rfl | exact Or.inr rfl) (do_call C__law_pile (hr.mono (by decide)) (by rfl) tk (da_cons (de_var (pv 0)) (da_cons (de_var (pv 1)) da_nil))))
  (dss_cons (ds_set (i := 3) nd rfl (by first | exact Or.inl rfl | exact Or.inr rfl) (do_callR C__law_letters (hr.mono (by decide)) (by rfl) tk (pv 2) da_nil))
  (dss_one (ds_for ow rfl (di_range1 (by rfl) B_range (da_cons de_int da_nil)) (dg_name (i := 4) nd rfl (by first | exact Or.inl rfl | exact Or.inr rfl)) (dss_cons (ds_set (i := 5) nd rfl (by first | exact Or.inl rfl | exact Or.inr rfl) (do_bin op_addA rop_add (de_ixV (pv 3) (de_frz (do_callR C__law_take (hr.mono (by decide)) (by rfl) tk (pv 2) (da_cons (de_frz (do_b1V call_len rc_len (by rfl) B_len (by decide +kernel) (pv 3))) da_nil)))) (de_frz (do_callR C__law_word (hr.mono (by decide)) (by rfl) tk (pv 2) (da_cons (de_var (pv 3)) (da_cons de_int da_nil))))))
  (dss_cons (ds_set (i := 6) nd rfl (by first | exact Or.inl rfl | exact Or.inr rfl) (do_call C__law_begin (hr.mono (by decide)) (by rfl) tk (da_cons (de_var (pv 5)) (da_cons (de_frz (do_bin op_addA rop_add de_int (de_frz (do_callR C__law_take (hr.mono (by decide)) (by rfl) tk (pv 2) (da_cons de_int da_nil))))) da_nil))))
  (dss_cons (ds_set (i := 7) nd rfl (by first | exact Or.inl rfl | exact Or.inr rfl) (do_lst (da_cons (de_frz (do_bin op_addA rop_add (de_ixV (pv 3) de_int) (de_frz (do_callR C__law_word (hr.mono (by decide)) (by rfl) tk (pv 2) (da_cons (de_var (pv 3)) (da_cons de_int da_nil)))))) (da_cons (de_var (pv 6)) (da_cons (de_frz (do_bin op_mulA rop_mul (de_var (pv 5)) (de_frz (do_bin op_addA rop_add de_int (de_frz (do_callR C__law_take (hr.mono (by decide)) (by rfl) tk (pv 2) (da_cons de_int da_nil))))))) da_nil)))))
  (dss_cons (ds_app (i := 7) (pv 7) (de_frz (do_bin op_addA rop_add (de_var (pv 6)) (de_ixV (pv 3) (de_neg de_int)))))
  (dss_cons (ds_if (dt_cmp (op_neD hr.units) rop_ne (de_frz (do_lc (own := [("_law_other", 9)]) { hc := rfl, hN := nd, hi := (di_any (de_var (pv 7))), ok := blkOk_by (own := [("_law_other", 9)]) (N := n_law) (sc := defScope s_law) (by decide +kernel), nd := by decide, hg := fun _ _ _ _ _ => (dgw_name (i := 9) nd rfl (by first | exact Or.inl rfl | exact Or.inr rfl)), ht := fun _ _ _ _ _ => (dts_one (dw_t (dw_or (dt_not (dt_val (de_frz (do_call C__law_good (hr.mono (by decide)) (by rfl) takes0 (da_cons (de_var (pv 5)) (da_cons (de_var (pv 9)) da_nil)))))) (dw_or1 (dt_not (dt_val (de_frz (do_call C__law_good (hr.mono (by decide)) (by rfl) takes0 (da_cons (de_var (pv 9)) (da_cons (de_var (pv 5)) da_nil)))))))))), he := fun _ _ _ _ _ => (de_var (pv 9)) })) (de_frz (do_lst da_nil)) (nomark _)) (dss_one (ds_ret (do_of de_bl))) dss_nil)
  (dss_one (ds_if (dt_cmp (op_neD hr.units) rop_ne (de_frz (do_lc (own := [("_law_one", 10)]) { hc := rfl, hN := nd, hi := (di_any (de_frz (do_bin op_addA rop_add (de_var (pv 7)) (de_frz (do_lst (da_cons (de_str (by first | rfl | decide)) da_nil)))))), ok := blkOk_by (own := [("_law_one", 10)]) (N := n_law) (sc := defScope s_law) (by decide +kernel), nd := by decide, hg := fun _ _ _ _ _ => (dgw_name (i := 10) nd rfl (by first | exact Or.inl rfl | exact Or.inr rfl)), ht := fun _ _ _ _ _ => (dts_one (dt_cmp op_notBl rop_notB (de_frz (do_call C_is_word (hr.mono (by decide)) (by rfl) takes0 (da_cons (de_var (pv 10)) da_nil))) de_bl (nomark _))), he := fun _ _ _ _ _ => (de_var (pv 10)) })) (de_frz (do_lst da_nil)) (nomark _)) (dss_one (ds_ret (do_of de_bl))) dss_nil))))))))))))
  (dss_cons (ds_if (dt_cmp (op_neD hr.units) rop_ne (de_frz (do_lc (own := [("_law_thing", 11)]) { hc := rfl, hN := nd, hi := (di_any (de_frz (do_call0 C__law_bad_words (hr.mono (by decide)) (by rfl) tk))), ok := blkOk_by (own := [("_law_thing", 11)]) (N := n_law) (sc := defScope s_law) (by decide +kernel), nd := by decide, hg := fun _ _ _ _ _ => (dgw_name (i := 11) nd rfl (by first | exact Or.inl rfl | exact Or.inr rfl)), ht := fun _ _ _ _ _ => (dts_one (dt_cmp op_notBl rop_notB (de_frz (do_call C_is_word (hr.mono (by decide)) (by rfl) takes0 (da_cons (de_var (pv 11)) da_nil))) de_bl (nomark _))), he := fun _ _ _ _ _ => (de_var (pv 11)) })) (de_frz (do_lst da_nil)) (nomark _)) (dss_one (ds_ret (do_of de_bl))) dss_nil)
  (dss_cons (ds_for ow rfl (di_any (de_frz (do_lst (da_cons (de_str (by first | rfl | decide)) (da_cons (de_frz (do_bin op_addA rop_add (de_frz (do_bin op_mulA rop_mul (de_str (by first | rfl | decide)) de_int)) (de_str (by first | rfl | decide)))) (da_cons (de_frz (do_bin op_addA rop_add (de_frz (do_bin op_mulA rop_mul (de_str (by first | rfl | decide)) de_int)) (de_str (by first | rfl | decide)))) da_nil)))))) (dg_name (i := 8) nd rfl (by first | exact Or.inl rfl | exact Or.inr rfl)) (dss_one (ds_if (dw_t (dw_or (dt_cmp (op_neD hr.units) rop_ne (de_frz (do_call C_root (hr.mono (by decide)) (by rfl) tk (da_cons (de_frz (do_bin op_addA rop_add (de_var (pv 8)) (de_var (pv 8)))) da_nil))) (de_var (pv 8)) (nomark _)) (dw_or (dt_cmp (op_neD hr.units) rop_ne (de_frz (do_call C_root (hr.mono (by decide)) (by rfl) tk (da_cons (de_var (pv 8)) da_nil))) (de_var (pv 8)) (nomark _)) (dw_or (dt_cmp (op_neD hr.units) rop_ne (de_frz (do_call C_root (hr.mono (by decide)) (by rfl) tk (da_cons (de_frz (do_bin op_mulA rop_mul (de_var (pv 8)) de_int)) da_nil))) (de_var (pv 8)) (nomark _)) (dw_or1 (dt_cmp op_notN rop_notN (de_frz (do_call C_together (hr.mono (by decide)) (by rfl) tk (da_cons (de_var (pv 8)) (da_cons (de_frz (do_bin op_addA rop_add (de_var (pv 8)) (de_var (pv 8)))) da_nil)))) de_non (nomark _))))))) (dss_one (ds_ret (do_of de_bl))) dss_nil)))
  (dss_cons (ds_if (dw_t (dw_or (dt_cmp (op_neD hr.units) rop_ne (de_frz (do_call C_begin (hr.mono (by decide)) (by rfl) tk (da_cons (de_str (by first | rfl | decide)) (da_cons de_int da_nil)))) (de_frz (do_bin op_addA rop_add (de_frz (do_bin op_mulA rop_mul (de_str (by first | rfl | decide)) de_int)) (de_str (by first | rfl | decide)))) (nomark _)) (dw_or1 (dt_cmp (op_neD hr.units) rop_ne (de_frz (do_call C_begin (hr.mono (by decide)) (by rfl) tk (da_cons (de_frz (do_bin op_mulA rop_mul (de_str (by first | rfl | decide)) de_int)) (da_cons de_int da_nil)))) (de_frz (do_bin op_mulA rop_mul (de_str (by first | rfl | decide)) de_int)) (nomark _))))) (dss_one (ds_ret (do_of de_bl))) dss_nil)
  (dss_one (ds_ret (do_of (de_and (de_cmp (op_eqD hr.units) rop_eq (de_frz (do_call C_together (hr.mono (by decide)) (by rfl) tk (da_cons (de_str (by first | rfl | decide)) (da_cons (de_str (by first | rfl | decide)) da_nil)))) de_int (nomark _)) (de_and (de_cmp op_isN rop_isN (de_frz (do_call C_together (hr.mono (by decide)) (by rfl) tk (da_cons (de_str (by first | rfl | decide)) (da_cons (de_str (by first | rfl | decide)) da_nil)))) de_non (nomark _)) (de_one (de_cmp (op_eqD hr.units) rop_eq (de_frz (do_call C_root (hr.mono (by decide)) (by rfl) tk (da_cons (de_str (by first | rfl | decide)) da_nil))) (de_str (by first | rfl | decide)) (nomark _))))))))))))
end
end Pd

/-! the plain law of k01 -/
namespace Pd
open PySem L2

def inL (w ls : List Nat) : Bool := w.all fun c => decide (c ∈ ls)
theorem sgn {w : List Nat} : ∀ d ∈ signs w, ∃ c, c ∈ w ∧ d = .str [c] := fun d hd => by
  unfold signs at hd
  obtain ⟨c, h1, h2⟩ := List.mem_map.mp hd
  exact ⟨c, h1, h2.symm⟩
theorem small_le {n : Nat} (h : n ≤ 100000) : n ≤ sizeLine := Nat.le_trans h (by rw [sizeLine_eq]; omega)
def bitOf (f : Nat → Bool) : D → D
  | .str [c] => .bl (f c)
  | d => d
theorem filter_yes {α : Type} (l : List α) : l.filter (fun _ => true) = l := List.filter_eq_self.mpr (by simp)
theorem bools_map (f : Nat → Bool) : ∀ w : List Nat, bools ((signs w).map (bitOf f)) = some (w.map f)
  | [] => rfl
  | c :: r => by
    have ih := bools_map f r
    unfold signs at ih ⊢
    simp only [List.map_cons, bools, bitOf, ih, Option.map_some]
theorem is_of_str {w ls : List Nat} {n : Int} (h : w.length ≤ 100000) : m_is_of [.str w, .str ls] n = .ok (.val (.bl (inL w ls))) n := by
  have k : kitB "str" "str" = some true := by decide +kernel
  have lc : kLc [2] (gN 2) tYesM (mBin (dIn false) (mVar 2) (mVar 1)) (signs w) ⟨[.val (.str w), .val (.str ls), .no], n⟩ = .ok (.own (((signs w).filter fun _ => true).map (bitOf fun c => decide (c ∈ ls)))) ⟨[.val (.str w), .val (.str ls), .no], n⟩ := by
    refine lc_one (fun _ => true) _ rfl (small_le (by unfold signs; simpa using h)) fun d hd => ?_
    obtain ⟨c, hc, rfl⟩ := sgn d hd
    left
    refine ⟨rfl, rfl, ?_⟩
    simp [e_var, e_kVarV, e_kVarO, e_oVar, e_kVoV, e_kVoO, eC, e_bin, e_kBin, e_kBin2, e_oBin, e_kOBin, e_kOBin2, e_good1v, e_good1o, e_test, e_kTest, e_and, e_or, e_not, e_kAndT, e_kAndF, e_kOrT, e_kOrF, e_kNot, e_eand, e_eor, e_enot, e_kEAndT, e_kEAndF, e_kEOrT, e_kEOrF, e_kENot, e_ifE, e_kIfET, e_kIfEF, e_oV, e_kOV, e_eF, e_frzv, e_frzo, e_neg, e_kNeg, e_nil, e_cons, e_kCons, e_kCons2, e_oB1, e_kB1, e_b1V, e_kB1V, e_kGetV, e_kGetO, e_oBn, e_kBn, e_ixV, e_kIxV, e_ixAt, e_kAtS, e_kAtL, e_kAtT, e_kAtK, e_kAtP, e_pSome, e_kSome, e_pNone, e_oSl, e_kSl, e_kSl2, e_kSl3, e_oLst, e_kOL, e_tup, e_kTup, e_call, e_res, e_kResV, e_kResO, e_kResX, e_cP, e_kCP, e_cQ, e_kCQ, e_outRV, e_outRO, e_seq, e_kSeqN, e_kSeqR, e_kSeqB, e_kSeqC, e_kSeqX, e_next, e_set, e_kSet, e_good, e_kGoodV, e_kGoodO, e_kGoodX, e_asg, e_kAsg, e_rsof, e_gN, e_par, e_kPar, e_ret, e_kRet, e_drop, e_kDrop, e_if, e_kIfT, e_kIfF, e_raise, e_for, e_kFor, e_itA, e_kItA, e_itR1, e_itR2, e_kP, e_pileSet, e_kP0, e_app', e_kA0, e_kApp', e_kA1, for_nil, e_kLoopN, e_kLoopC, e_kLoopB, e_kLoopR, e_kWhN, e_kWhC, e_kWhB, e_kWhR, e_oLc, e_yes, e_bok, e_bexc, e_bsok, e_bsexc, e_ofs, e_obs, e_oms, out_rt, out_nx, List.set_cons_zero, List.set_cons_succ, List.getElem?_cons_zero, List.getElem?_cons_succ, List.map_cons, List.map_nil, List.length_cons, List.length_nil, List.cons_append, List.nil_append, dIn, bitOf]
  unfold m_is_of
  refine (mk_ev (by rfl)).trans ?_
  show outF (b_is_of ⟨[.val (.str w), .val (.str ls), .no], n⟩) = _
  unfold b_is_of
  simp only [e_var, e_kVarV, e_kVarO, e_oVar, e_kVoV, e_kVoO, eC, e_bin, e_kBin, e_kBin2, e_oBin, e_kOBin, e_kOBin2, e_good1v, e_good1o, e_test, e_kTest, e_and, e_or, e_not, e_kAndT, e_kAndF, e_kOrT, e_kOrF, e_kNot, e_eand, e_eor, e_enot, e_kEAndT, e_kEAndF, e_kEOrT, e_kEOrF, e_kENot, e_ifE, e_kIfET, e_kIfEF, e_oV, e_kOV, e_eF, e_frzv, e_frzo, e_neg, e_kNeg, e_nil, e_cons, e_kCons, e_kCons2, e_oB1, e_kB1, e_b1V, e_kB1V, e_kGetV, e_kGetO, e_oBn, e_kBn, e_ixV, e_kIxV, e_ixAt, e_kAtS, e_kAtL, e_kAtT, e_kAtK, e_kAtP, e_pSome, e_kSome, e_pNone, e_oSl, e_kSl, e_kSl2, e_kSl3, e_oLst, e_kOL, e_tup, e_kTup, e_call, e_res, e_kResV, e_kResO, e_kResX, e_cP, e_kCP, e_cQ, e_kCQ, e_outRV, e_outRO, e_seq, e_kSeqN, e_kSeqR, e_kSeqB, e_kSeqC, e_kSeqX, e_next, e_set, e_kSet, e_good, e_kGoodV, e_kGoodO, e_kGoodX, e_asg, e_kAsg, e_rsof, e_gN, e_par, e_kPar, e_ret, e_kRet, e_drop, e_kDrop, e_if, e_kIfT, e_kIfF, e_raise, e_for, e_kFor, e_itA, e_kItA, e_itR1, e_itR2, e_kP, e_pileSet, e_kP0, e_app', e_kA0, e_kApp', e_kA1, for_nil, e_kLoopN, e_kLoopC, e_kLoopB, e_kLoopR, e_kWhN, e_kWhC, e_kWhB, e_kWhR, e_oLc, e_yes, e_bok, e_bexc, e_bsok, e_bsexc, e_ofs, e_obs, e_oms, out_rt, out_nx, List.set_cons_zero, List.set_cons_succ, List.getElem?_cons_zero, List.getElem?_cons_succ, List.map_cons, List.map_nil, List.length_cons, List.length_nil, List.cons_append, List.nil_append, dIsi, tyName, k, items, lc, dAll, filter_yes, bools_map, List.all_map, inL]
  rfl
theorem is_of_not {d : D} {t : String} {ls : List Nat} {n : Int} (ht : tyName d = some t) (k : kitB t "str" = some false) : m_is_of [d, .str ls] n = .ok (.val (.bl false)) n := by
  unfold m_is_of
  refine (mk_ev (by rfl)).trans ?_
  show outF (b_is_of ⟨[.val d, .val (.str ls), .no], n⟩) = _
  unfold b_is_of
  simp only [e_var, e_kVarV, e_kVarO, e_oVar, e_kVoV, e_kVoO, eC, e_bin, e_kBin, e_kBin2, e_oBin, e_kOBin, e_kOBin2, e_good1v, e_good1o, e_test, e_kTest, e_and, e_or, e_not, e_kAndT, e_kAndF, e_kOrT, e_kOrF, e_kNot, e_eand, e_eor, e_enot, e_kEAndT, e_kEAndF, e_kEOrT, e_kEOrF, e_kENot, e_ifE, e_kIfET, e_kIfEF, e_oV, e_kOV, e_eF, e_frzv, e_frzo, e_neg, e_kNeg, e_nil, e_cons, e_kCons, e_kCons2, e_oB1, e_kB1, e_b1V, e_kB1V, e_kGetV, e_kGetO, e_oBn, e_kBn, e_ixV, e_kIxV, e_ixAt, e_kAtS, e_kAtL, e_kAtT, e_kAtK, e_kAtP, e_pSome, e_kSome, e_pNone, e_oSl, e_kSl, e_kSl2, e_kSl3, e_oLst, e_kOL, e_tup, e_kTup, e_call, e_res, e_kResV, e_kResO, e_kResX, e_cP, e_kCP, e_cQ, e_kCQ, e_outRV, e_outRO, e_seq, e_kSeqN, e_kSeqR, e_kSeqB, e_kSeqC, e_kSeqX, e_next, e_set, e_kSet, e_good, e_kGoodV, e_kGoodO, e_kGoodX, e_asg, e_kAsg, e_rsof, e_gN, e_par, e_kPar, e_ret, e_kRet, e_drop, e_kDrop, e_if, e_kIfT, e_kIfF, e_raise, e_for, e_kFor, e_itA, e_kItA, e_itR1, e_itR2, e_kP, e_pileSet, e_kP0, e_app', e_kA0, e_kApp', e_kA1, for_nil, e_kLoopN, e_kLoopC, e_kLoopB, e_kLoopR, e_kWhN, e_kWhC, e_kWhB, e_kWhR, e_oLc, e_yes, e_bok, e_bexc, e_bsok, e_bsexc, e_ofs, e_obs, e_oms, out_rt, out_nx, List.set_cons_zero, List.set_cons_succ, List.getElem?_cons_zero, List.getElem?_cons_succ, List.map_cons, List.map_nil, List.length_cons, List.length_nil, List.cons_append, List.nil_append, dIsi, ht, k]
abbrev isL (w : List Nat) : Bool := inL w k_LETTERS
theorem is_word_str {w : List Nat} {n : Int} (h : w.length ≤ 100000) : m_is_word [.str w] n = .ok (.val (.bl (isL w))) n := by
  unfold m_is_word
  refine (mk_ev (by rfl)).trans ?_
  show outF (b_is_word ⟨[.val (.str w)], n⟩) = _
  unfold b_is_word
  simp only [e_var, e_kVarV, e_kVarO, e_oVar, e_kVoV, e_kVoO, eC, e_bin, e_kBin, e_kBin2, e_oBin, e_kOBin, e_kOBin2, e_good1v, e_good1o, e_test, e_kTest, e_and, e_or, e_not, e_kAndT, e_kAndF, e_kOrT, e_kOrF, e_kNot, e_eand, e_eor, e_enot, e_kEAndT, e_kEAndF, e_kEOrT, e_kEOrF, e_kENot, e_ifE, e_kIfET, e_kIfEF, e_oV, e_kOV, e_eF, e_frzv, e_frzo, e_neg, e_kNeg, e_nil, e_cons, e_kCons, e_kCons2, e_oB1, e_kB1, e_b1V, e_kB1V, e_kGetV, e_kGetO, e_oBn, e_kBn, e_ixV, e_kIxV, e_ixAt, e_kAtS, e_kAtL, e_kAtT, e_kAtK, e_kAtP, e_pSome, e_kSome, e_pNone, e_oSl, e_kSl, e_kSl2, e_kSl3, e_oLst, e_kOL, e_tup, e_kTup, e_call, e_res, e_kResV, e_kResO, e_kResX, e_cP, e_kCP, e_cQ, e_kCQ, e_outRV, e_outRO, e_seq, e_kSeqN, e_kSeqR, e_kSeqB, e_kSeqC, e_kSeqX, e_next, e_set, e_kSet, e_good, e_kGoodV, e_kGoodO, e_kGoodX, e_asg, e_kAsg, e_rsof, e_gN, e_par, e_kPar, e_ret, e_kRet, e_drop, e_kDrop, e_if, e_kIfT, e_kIfF, e_raise, e_for, e_kFor, e_itA, e_kItA, e_itR1, e_itR2, e_kP, e_pileSet, e_kP0, e_app', e_kA0, e_kApp', e_kA1, for_nil, e_kLoopN, e_kLoopC, e_kLoopB, e_kLoopR, e_kWhN, e_kWhC, e_kWhB, e_kWhR, e_oLc, e_yes, e_bok, e_bexc, e_bsok, e_bsexc, e_ofs, e_obs, e_oms, out_rt, out_nx, List.set_cons_zero, List.set_cons_succ, List.getElem?_cons_zero, List.getElem?_cons_succ, List.map_cons, List.map_nil, List.length_cons, List.length_nil, List.cons_append, List.nil_append, is_of_str h]
theorem is_word_not {d : D} {t : String} {n : Int} (ht : tyName d = some t) (k : kitB t "str" = some false) : m_is_word [d] n = .ok (.val (.bl false)) n := by
  unfold m_is_word
  refine (mk_ev (by rfl)).trans ?_
  show outF (b_is_word ⟨[.val d], n⟩) = _
  unfold b_is_word
  simp only [e_var, e_kVarV, e_kVarO, e_oVar, e_kVoV, e_kVoO, eC, e_bin, e_kBin, e_kBin2, e_oBin, e_kOBin, e_kOBin2, e_good1v, e_good1o, e_test, e_kTest, e_and, e_or, e_not, e_kAndT, e_kAndF, e_kOrT, e_kOrF, e_kNot, e_eand, e_eor, e_enot, e_kEAndT, e_kEAndF, e_kEOrT, e_kEOrF, e_kENot, e_ifE, e_kIfET, e_kIfEF, e_oV, e_kOV, e_eF, e_frzv, e_frzo, e_neg, e_kNeg, e_nil, e_cons, e_kCons, e_kCons2, e_oB1, e_kB1, e_b1V, e_kB1V, e_kGetV, e_kGetO, e_oBn, e_kBn, e_ixV, e_kIxV, e_ixAt, e_kAtS, e_kAtL, e_kAtT, e_kAtK, e_kAtP, e_pSome, e_kSome, e_pNone, e_oSl, e_kSl, e_kSl2, e_kSl3, e_oLst, e_kOL, e_tup, e_kTup, e_call, e_res, e_kResV, e_kResO, e_kResX, e_cP, e_kCP, e_cQ, e_kCQ, e_outRV, e_outRO, e_seq, e_kSeqN, e_kSeqR, e_kSeqB, e_kSeqC, e_kSeqX, e_next, e_set, e_kSet, e_good, e_kGoodV, e_kGoodO, e_kGoodX, e_asg, e_kAsg, e_rsof, e_gN, e_par, e_kPar, e_ret, e_kRet, e_drop, e_kDrop, e_if, e_kIfT, e_kIfF, e_raise, e_for, e_kFor, e_itA, e_kItA, e_itR1, e_itR2, e_kP, e_pileSet, e_kP0, e_app', e_kA0, e_kApp', e_kA1, for_nil, e_kLoopN, e_kLoopC, e_kLoopB, e_kLoopR, e_kWhN, e_kWhC, e_kWhB, e_kWhR, e_oLc, e_yes, e_bok, e_bexc, e_bsok, e_bsexc, e_ofs, e_obs, e_oms, out_rt, out_nx, List.set_cons_zero, List.set_cons_succ, List.getElem?_cons_zero, List.getElem?_cons_succ, List.map_cons, List.map_nil, List.length_cons, List.length_nil, List.cons_append, List.nil_append, is_of_not ht k]
theorem okS_of {w : List Nat} (h : isL w = true) : okS w = true := by
  unfold isL inL at h
  unfold okS
  rw [List.all_eq_true] at h ⊢
  intro c hc
  have h1 := of_decide_eq_true (h c hc)
  have : ∀ c ∈ k_LETTERS, c < 1114112 := by decide
  exact decide_eq_true (this c h1)
/-- a word of letters, not empty, not long -/
structure Wd (w : List Nat) : Prop where
  l : isL w = true
  n : w ≠ []
  s : w.length ≤ 100000
theorem look_word {w : List Nat} {n : Int} (h : Wd w) : m_look_at_word [.str w] n = .ok (.val .non) n := by
  unfold m_look_at_word
  refine (mk_ev (by rfl)).trans ?_
  show outF (b_look_at_word ⟨[.val (.str w)], n⟩) = _
  unfold b_look_at_word
  simp only [e_var, e_kVarV, e_kVarO, e_oVar, e_kVoV, e_kVoO, eC, e_bin, e_kBin, e_kBin2, e_oBin, e_kOBin, e_kOBin2, e_good1v, e_good1o, e_test, e_kTest, e_and, e_or, e_not, e_kAndT, e_kAndF, e_kOrT, e_kOrF, e_kNot, e_eand, e_eor, e_enot, e_kEAndT, e_kEAndF, e_kEOrT, e_kEOrF, e_kENot, e_ifE, e_kIfET, e_kIfEF, e_oV, e_kOV, e_eF, e_frzv, e_frzo, e_neg, e_kNeg, e_nil, e_cons, e_kCons, e_kCons2, e_oB1, e_kB1, e_b1V, e_kB1V, e_kGetV, e_kGetO, e_oBn, e_kBn, e_ixV, e_kIxV, e_ixAt, e_kAtS, e_kAtL, e_kAtT, e_kAtK, e_kAtP, e_pSome, e_kSome, e_pNone, e_oSl, e_kSl, e_kSl2, e_kSl3, e_oLst, e_kOL, e_tup, e_kTup, e_call, e_res, e_kResV, e_kResO, e_kResX, e_cP, e_kCP, e_cQ, e_kCQ, e_outRV, e_outRO, e_seq, e_kSeqN, e_kSeqR, e_kSeqB, e_kSeqC, e_kSeqX, e_next, e_set, e_kSet, e_good, e_kGoodV, e_kGoodO, e_kGoodX, e_asg, e_kAsg, e_rsof, e_gN, e_par, e_kPar, e_ret, e_kRet, e_drop, e_kDrop, e_if, e_kIfT, e_kIfF, e_raise, e_for, e_kFor, e_itA, e_kItA, e_itR1, e_itR2, e_kP, e_pileSet, e_kP0, e_app', e_kA0, e_kApp', e_kA1, for_nil, e_kLoopN, e_kLoopC, e_kLoopB, e_kLoopR, e_kWhN, e_kWhC, e_kWhB, e_kWhR, e_oLc, e_yes, e_bok, e_bexc, e_bsok, e_bsexc, e_ofs, e_obs, e_oms, out_rt, out_nx, List.set_cons_zero, List.set_cons_succ, List.getElem?_cons_zero, List.getElem?_cons_succ, List.map_cons, List.map_nil, List.length_cons, List.length_nil, List.cons_append, List.nil_append, is_word_str h.s, h.l, Bool.not_true]
theorem look_root {w : List Nat} {n : Int} (h : Wd w) : m_look_at_root [.str w] n = .ok (.val .non) n := by
  unfold m_look_at_root
  refine (mk_ev (by rfl)).trans ?_
  show outF (b_look_at_root ⟨[.val (.str w)], n⟩) = _
  unfold b_look_at_root
  have e : decide (w = []) = false := decide_eq_false h.n
  simp only [e_var, e_kVarV, e_kVarO, e_oVar, e_kVoV, e_kVoO, eC, e_bin, e_kBin, e_kBin2, e_oBin, e_kOBin, e_kOBin2, e_good1v, e_good1o, e_test, e_kTest, e_and, e_or, e_not, e_kAndT, e_kAndF, e_kOrT, e_kOrF, e_kNot, e_eand, e_eor, e_enot, e_kEAndT, e_kEAndF, e_kEOrT, e_kEOrF, e_kENot, e_ifE, e_kIfET, e_kIfEF, e_oV, e_kOV, e_eF, e_frzv, e_frzo, e_neg, e_kNeg, e_nil, e_cons, e_kCons, e_kCons2, e_oB1, e_kB1, e_b1V, e_kB1V, e_kGetV, e_kGetO, e_oBn, e_kBn, e_ixV, e_kIxV, e_ixAt, e_kAtS, e_kAtL, e_kAtT, e_kAtK, e_kAtP, e_pSome, e_kSome, e_pNone, e_oSl, e_kSl, e_kSl2, e_kSl3, e_oLst, e_kOL, e_tup, e_kTup, e_call, e_res, e_kResV, e_kResO, e_kResX, e_cP, e_kCP, e_cQ, e_kCQ, e_outRV, e_outRO, e_seq, e_kSeqN, e_kSeqR, e_kSeqB, e_kSeqC, e_kSeqX, e_next, e_set, e_kSet, e_good, e_kGoodV, e_kGoodO, e_kGoodX, e_asg, e_kAsg, e_rsof, e_gN, e_par, e_kPar, e_ret, e_kRet, e_drop, e_kDrop, e_if, e_kIfT, e_kIfF, e_raise, e_for, e_kFor, e_itA, e_kItA, e_itR1, e_itR2, e_kP, e_pileSet, e_kP0, e_app', e_kA0, e_kApp', e_kA1, for_nil, e_kLoopN, e_kLoopC, e_kLoopB, e_kLoopR, e_kWhN, e_kWhC, e_kWhB, e_kWhR, e_oLc, e_yes, e_bok, e_bexc, e_bsok, e_bsexc, e_ofs, e_obs, e_oms, out_rt, out_nx, List.set_cons_zero, List.set_cons_succ, List.getElem?_cons_zero, List.getElem?_cons_succ, List.map_cons, List.map_nil, List.length_cons, List.length_nil, List.cons_append, List.nil_append, eqv_str (okS_of h.l) (show okS [] = true from rfl), e]
theorem is_whole {k : Nat} {n : Int} : m_is_whole [.int k] n = .ok (.val (.bl true)) n := by
  have k1 : kitB "int" "int" = some true := by decide +kernel
  have k2 : kitB "int" "bool" = some false := by decide +kernel
  unfold m_is_whole
  refine (mk_ev (by rfl)).trans ?_
  show outF (b_is_whole ⟨[.val (.int k)], n⟩) = _
  unfold b_is_whole
  have e : decide ((0 : Int) ≤ (k : Int)) = true := decide_eq_true (by omega)
  simp only [e_var, e_kVarV, e_kVarO, e_oVar, e_kVoV, e_kVoO, eC, e_bin, e_kBin, e_kBin2, e_oBin, e_kOBin, e_kOBin2, e_good1v, e_good1o, e_test, e_kTest, e_and, e_or, e_not, e_kAndT, e_kAndF, e_kOrT, e_kOrF, e_kNot, e_eand, e_eor, e_enot, e_kEAndT, e_kEAndF, e_kEOrT, e_kEOrF, e_kENot, e_ifE, e_kIfET, e_kIfEF, e_oV, e_kOV, e_eF, e_frzv, e_frzo, e_neg, e_kNeg, e_nil, e_cons, e_kCons, e_kCons2, e_oB1, e_kB1, e_b1V, e_kB1V, e_kGetV, e_kGetO, e_oBn, e_kBn, e_ixV, e_kIxV, e_ixAt, e_kAtS, e_kAtL, e_kAtT, e_kAtK, e_kAtP, e_pSome, e_kSome, e_pNone, e_oSl, e_kSl, e_kSl2, e_kSl3, e_oLst, e_kOL, e_tup, e_kTup, e_call, e_res, e_kResV, e_kResO, e_kResX, e_cP, e_kCP, e_cQ, e_kCQ, e_outRV, e_outRO, e_seq, e_kSeqN, e_kSeqR, e_kSeqB, e_kSeqC, e_kSeqX, e_next, e_set, e_kSet, e_good, e_kGoodV, e_kGoodO, e_kGoodX, e_asg, e_kAsg, e_rsof, e_gN, e_par, e_kPar, e_ret, e_kRet, e_drop, e_kDrop, e_if, e_kIfT, e_kIfF, e_raise, e_for, e_kFor, e_itA, e_kItA, e_itR1, e_itR2, e_kP, e_pileSet, e_kP0, e_app', e_kA0, e_kApp', e_kA1, for_nil, e_kLoopN, e_kLoopC, e_kLoopB, e_kLoopR, e_kWhN, e_kWhC, e_kWhB, e_kWhR, e_oLc, e_yes, e_bok, e_bexc, e_bsok, e_bsexc, e_ofs, e_obs, e_oms, out_rt, out_nx, List.set_cons_zero, List.set_cons_succ, List.getElem?_cons_zero, List.getElem?_cons_succ, List.map_cons, List.map_nil, List.length_cons, List.length_nil, List.cons_append, List.nil_append, dIsi, tyName, k1, k2, dGe, dI, e, if_pos, Bool.not_false]
theorem look_number {k : Nat} {n : Int} : m_look_at_number [.int k] n = .ok (.val .non) n := by
  unfold m_look_at_number
  refine (mk_ev (by rfl)).trans ?_
  show outF (b_look_at_number ⟨[.val (.int k)], n⟩) = _
  unfold b_look_at_number
  simp only [e_var, e_kVarV, e_kVarO, e_oVar, e_kVoV, e_kVoO, eC, e_bin, e_kBin, e_kBin2, e_oBin, e_kOBin, e_kOBin2, e_good1v, e_good1o, e_test, e_kTest, e_and, e_or, e_not, e_kAndT, e_kAndF, e_kOrT, e_kOrF, e_kNot, e_eand, e_eor, e_enot, e_kEAndT, e_kEAndF, e_kEOrT, e_kEOrF, e_kENot, e_ifE, e_kIfET, e_kIfEF, e_oV, e_kOV, e_eF, e_frzv, e_frzo, e_neg, e_kNeg, e_nil, e_cons, e_kCons, e_kCons2, e_oB1, e_kB1, e_b1V, e_kB1V, e_kGetV, e_kGetO, e_oBn, e_kBn, e_ixV, e_kIxV, e_ixAt, e_kAtS, e_kAtL, e_kAtT, e_kAtK, e_kAtP, e_pSome, e_kSome, e_pNone, e_oSl, e_kSl, e_kSl2, e_kSl3, e_oLst, e_kOL, e_tup, e_kTup, e_call, e_res, e_kResV, e_kResO, e_kResX, e_cP, e_kCP, e_cQ, e_kCQ, e_outRV, e_outRO, e_seq, e_kSeqN, e_kSeqR, e_kSeqB, e_kSeqC, e_kSeqX, e_next, e_set, e_kSet, e_good, e_kGoodV, e_kGoodO, e_kGoodX, e_asg, e_kAsg, e_rsof, e_gN, e_par, e_kPar, e_ret, e_kRet, e_drop, e_kDrop, e_if, e_kIfT, e_kIfF, e_raise, e_for, e_kFor, e_itA, e_kItA, e_itR1, e_itR2, e_kP, e_pileSet, e_kP0, e_app', e_kA0, e_kApp', e_kA1, for_nil, e_kLoopN, e_kLoopC, e_kLoopB, e_kLoopR, e_kWhN, e_kWhC, e_kWhB, e_kWhR, e_oLc, e_yes, e_bok, e_bexc, e_bsok, e_bsexc, e_ofs, e_obs, e_oms, out_rt, out_nx, List.set_cons_zero, List.set_cons_succ, List.getElem?_cons_zero, List.getElem?_cons_succ, List.map_cons, List.map_nil, List.length_cons, List.length_nil, List.cons_append, List.nil_append, is_whole, Bool.not_true]
end Pd

/-! the plain law of k01: roots, beginnings, what two words share -/
namespace Pd
open PySem L2

theorem inL_take {w ls : List Nat} {k : Nat} (h : inL w ls = true) : inL (w.take k) ls = true := by
  unfold inL at h ⊢
  rw [List.all_eq_true] at h ⊢
  exact fun c hc => h c (List.mem_of_mem_take hc)
theorem inL_app {w v ls : List Nat} (h : inL w ls = true) (h' : inL v ls = true) : inL (w ++ v) ls = true := by
  unfold inL at h h' ⊢
  rw [List.all_append, h, h']; rfl
theorem inL_rep {w ls : List Nat} (h : inL w ls = true) : ∀ k, inL (repS k w) ls = true
  | 0 => rfl
  | k + 1 => by rw [repS_succ]; exact inL_app h (inL_rep h k)
theorem inL_beg {w ls : List Nat} (h : inL w ls = true) (hw : w ≠ []) (n : Nat) : inL (beg w n) ls = true := by
  have hl : 0 < w.length := List.length_pos_iff.mpr hw
  have : beg w n = (repS (n / w.length + 1) w).take n := by
    rw [repS_beg, beg_take]
    rw [Nat.add_mul, Nat.one_mul]
    have := Nat.div_add_mod n w.length
    have h2 := Nat.mod_lt n hl
    rw [Nat.mul_comm] at this
    omega
  rw [this]
  exact inL_take (inL_rep h _)
theorem beg_is {w : List Nat} (hw : w ≠ []) (n : Nat) : (repS (n / w.length + 1) w).take n = beg w n := by
  have hl : 0 < w.length := List.length_pos_iff.mpr hw
  rw [repS_beg, beg_take]
  rw [Nat.add_mul, Nat.one_mul]
  have := Nat.div_add_mod n w.length
  have h2 := Nat.mod_lt n hl
  rw [Nat.mul_comm] at this
  omega
theorem div_len {w : List Nat} (hw : w ≠ []) (n : Nat) : w.length * (n / w.length + 1) ≤ n + w.length := by
  rw [Nat.mul_add, Nat.mul_one]
  have := Nat.div_add_mod n w.length
  omega
theorem mod_i (a b : Nat) : ((a : Int) % (b : Int)) = ((a % b : Nat) : Int) := by simp
theorem div_i (a b : Nat) : ((a : Int) / (b : Int)) = ((a / b : Nat) : Int) := by simp
theorem add_i (a b : Nat) : ((a : Int) + (b : Int)) = ((a + b : Nat) : Int) := by simp
theorem dec_i (a b : Nat) : decide ((a : Int) = (b : Int)) = decide (a = b) := by
  by_cases h : a = b
  · simp [h]
  · rw [decide_eq_false h, decide_eq_false (by omega)]
theorem e_add1 (a : Nat) : ((a : Int) + 1) = ((a + 1 : Nat) : Int) := by simp
theorem d_len {w : List Nat} (h : w.length ≤ 100000) : dLen (.str w) = some (.val (.int (w.length : Int))) := if_pos (small_le h)
theorem d_mul {w : List Nat} {k : Nat} (hk : k ≤ 1000000) (h : w.length ≤ 1000000) (h' : w.length * k ≤ 1000000) : dMul (.str w) (.int (k : Int)) = some (.val (.str (repS k w))) := by
  have e := sizeLine_eq
  simp only [dMul]
  rw [if_pos ⟨by omega, by omega, by omega, by rw [Int.toNat_natCast]; omega⟩, Int.toNat_natCast]
theorem d_sl {w : List Nat} {k : Nat} (h : w.length ≤ 1000000) (hk : k ≤ w.length) : dSl (.str w) none (some (k : Int)) = some (.val (.str (w.take k))) := by
  have : dSl (.str w) none (some (k : Int)) = some (.val (.str (cutD w none (some (k : Int))))) := if_pos (by have e := sizeLine_eq; omega)
  rw [this, cut_to hk]
theorem d_mod {a b : Nat} (h : 0 < b) : dMod (.int (a : Int)) (.int (b : Int)) = some (.int ((a % b : Nat) : Int)) := by
  unfold dMod dI
  rw [← mod_i]
  exact if_pos (decide_eq_true (by omega))
theorem d_div {a b : Nat} (h : 0 < b) (h' : b ≤ 1000000) : dDiv (.int (a : Int)) (.int (b : Int)) = some (.int ((a / b : Nat) : Int)) := by
  unfold dDiv dI
  rw [← div_i]
  exact if_pos (decide_eq_true ⟨by omega, by omega⟩)
theorem d_add {a b : Nat} : dAdd (.int (a : Int)) (.int (b : Int)) = some (.val (.int ((a + b : Nat) : Int))) := by
  show some (SV.val (.int ((a : Int) + (b : Int)))) = _
  rw [add_i]
theorem d_add1 {a : Nat} : dAdd (.int (a : Int)) (.int 1) = some (.val (.int ((a + 1 : Nat) : Int))) := d_add (b := 1)
theorem d_adds {w v : List Nat} (h : w.length + v.length ≤ 1000000) : dAdd (.str w) (.str v) = some (.val (.str (w ++ v))) := if_pos (by have e := sizeLine_eq; omega)
theorem d_eq0 {a : Nat} : dEqv (.int (a : Int)) (.int 0) = some (.bl (decide (a = 0))) := by
  rw [eqv_int]
  exact congrArg (fun b => some (D.bl b)) (dec_i a 0)

/-! ### the root -/
def rootBody : SM := (mIfS (mAnd (mTest (mBin dEqv (mBin dMod (eF (oB1V dLen 0)) (mVar 1)) (mC (.int 0)))) (mTest (mBin dEqv (eF (oBin dMul (eF (oSl (mVar 0) pNone (pSome (mVar 1)))) (mBin dDiv (eF (oB1V dLen 0)) (mVar 1)))) (mVar 0)))) (mRet (oSl (mVar 0) pNone (pSome (mVar 1)))) mNext)
theorem b_root_eq : b_root_of = mSeq (mFor (itR2 (aCons (mC (.int 1)) (aCons (eF (oBin dAdd (eF (oB1V dLen 0)) (mC (.int 1)))) aNil))) (gN 1) rootBody) (mRet (oVar 0)) := rfl
theorem root_body {w : List Nat} {j : Nat} {n : Int} (h : Wd w) (hj : 0 < j) (hj' : j ≤ w.length) : rootBody ⟨[.val (.str w), .val (.int (j : Int))], n⟩ =
    if isRep w j = true then .rt (.val (.str (w.take j))) ⟨[.val (.str w), .val (.int (j : Int))], n⟩ else .nx ⟨[.val (.str w), .val (.int (j : Int))], n⟩ := by
  have hs := h.s
  have hd : w.length / j ≤ w.length := Nat.div_le_self _ _
  have hm : j * (w.length / j) ≤ w.length := Nat.mul_div_le _ _
  have e1 : dSl (.str w) none (some (j : Int)) = _ := d_sl (by omega) hj'
  have ht : (w.take j).length = j := by rw [List.length_take]; omega
  have e2 : dMul (.str (w.take j)) (.int ((w.length / j : Nat) : Int)) = _ := d_mul (by omega) (by omega) (by rw [ht]; omega)
  have e3 := eqv_str (a := repS (w.length / j) (w.take j)) (b := w) (okS_of (inL_rep (inL_take h.l) _)) (okS_of h.l)
  unfold rootBody isRep
  by_cases q1 : w.length % j = 0
  · by_cases q2 : repS (w.length / j) (w.take j) = w
    · simp only [e_var, e_kVarV, e_kVarO, e_oVar, e_kVoV, e_kVoO, eC, e_bin, e_kBin, e_kBin2, e_oBin, e_kOBin, e_kOBin2, e_good1v, e_good1o, e_test, e_kTest, e_and, e_or, e_not, e_kAndT, e_kAndF, e_kOrT, e_kOrF, e_kNot, e_eand, e_eor, e_enot, e_kEAndT, e_kEAndF, e_kEOrT, e_kEOrF, e_kENot, e_ifE, e_kIfET, e_kIfEF, e_oV, e_kOV, e_eF, e_frzv, e_frzo, e_neg, e_kNeg, e_nil, e_cons, e_kCons, e_kCons2, e_oB1, e_kB1, e_b1V, e_kB1V, e_kGetV, e_kGetO, e_oBn, e_kBn, e_ixV, e_kIxV, e_ixAt, e_kAtS, e_kAtL, e_kAtT, e_kAtK, e_kAtP, e_pSome, e_kSome, e_pNone, e_oSl, e_kSl, e_kSl2, e_kSl3, e_oLst, e_kOL, e_tup, e_kTup, e_call, e_res, e_kResV, e_kResO, e_kResX, e_cP, e_kCP, e_cQ, e_kCQ, e_outRV, e_outRO, e_seq, e_kSeqN, e_kSeqR, e_kSeqB, e_kSeqC, e_kSeqX, e_next, e_set, e_kSet, e_good, e_kGoodV, e_kGoodO, e_kGoodX, e_asg, e_kAsg, e_rsof, e_gN, e_par, e_kPar, e_ret, e_kRet, e_drop, e_kDrop, e_if, e_kIfT, e_kIfF, e_raise, e_for, e_kFor, e_itA, e_kItA, e_itR1, e_itR2, e_kP, e_pileSet, e_kP0, e_app', e_kA0, e_kApp', e_kA1, for_nil, e_kLoopN, e_kLoopC, e_kLoopB, e_kLoopR, e_kWhN, e_kWhC, e_kWhB, e_kWhR, e_oLc, e_yes, e_bok, e_bexc, e_bsok, e_bsexc, e_ofs, e_obs, e_oms, out_rt, out_nx, List.set_cons_zero, List.set_cons_succ, List.getElem?_cons_zero, List.getElem?_cons_succ, List.map_cons, List.map_nil, List.length_cons, List.length_nil, List.cons_append, List.nil_append, d_len hs, d_mod hj, d_eq0, decide_eq_true q1, d_div hj (show j ≤ 1000000 by omega), e1, e2, e3, decide_eq_true q2, Bool.and_self, if_pos]
    · simp only [e_var, e_kVarV, e_kVarO, e_oVar, e_kVoV, e_kVoO, eC, e_bin, e_kBin, e_kBin2, e_oBin, e_kOBin, e_kOBin2, e_good1v, e_good1o, e_test, e_kTest, e_and, e_or, e_not, e_kAndT, e_kAndF, e_kOrT, e_kOrF, e_kNot, e_eand, e_eor, e_enot, e_kEAndT, e_kEAndF, e_kEOrT, e_kEOrF, e_kENot, e_ifE, e_kIfET, e_kIfEF, e_oV, e_kOV, e_eF, e_frzv, e_frzo, e_neg, e_kNeg, e_nil, e_cons, e_kCons, e_kCons2, e_oB1, e_kB1, e_b1V, e_kB1V, e_kGetV, e_kGetO, e_oBn, e_kBn, e_ixV, e_kIxV, e_ixAt, e_kAtS, e_kAtL, e_kAtT, e_kAtK, e_kAtP, e_pSome, e_kSome, e_pNone, e_oSl, e_kSl, e_kSl2, e_kSl3, e_oLst, e_kOL, e_tup, e_kTup, e_call, e_res, e_kResV, e_kResO, e_kResX, e_cP, e_kCP, e_cQ, e_kCQ, e_outRV, e_outRO, e_seq, e_kSeqN, e_kSeqR, e_kSeqB, e_kSeqC, e_kSeqX, e_next, e_set, e_kSet, e_good, e_kGoodV, e_kGoodO, e_kGoodX, e_asg, e_kAsg, e_rsof, e_gN, e_par, e_kPar, e_ret, e_kRet, e_drop, e_kDrop, e_if, e_kIfT, e_kIfF, e_raise, e_for, e_kFor, e_itA, e_kItA, e_itR1, e_itR2, e_kP, e_pileSet, e_kP0, e_app', e_kA0, e_kApp', e_kA1, for_nil, e_kLoopN, e_kLoopC, e_kLoopB, e_kLoopR, e_kWhN, e_kWhC, e_kWhB, e_kWhR, e_oLc, e_yes, e_bok, e_bexc, e_bsok, e_bsexc, e_ofs, e_obs, e_oms, out_rt, out_nx, List.set_cons_zero, List.set_cons_succ, List.getElem?_cons_zero, List.getElem?_cons_succ, List.map_cons, List.map_nil, List.length_cons, List.length_nil, List.cons_append, List.nil_append, d_len hs, d_mod hj, d_eq0, decide_eq_true q1, d_div hj (show j ≤ 1000000 by omega), e1, e2, e3, decide_eq_false q2, Bool.and_false, if_neg Bool.false_ne_true]
  · simp only [e_var, e_kVarV, e_kVarO, e_oVar, e_kVoV, e_kVoO, eC, e_bin, e_kBin, e_kBin2, e_oBin, e_kOBin, e_kOBin2, e_good1v, e_good1o, e_test, e_kTest, e_and, e_or, e_not, e_kAndT, e_kAndF, e_kOrT, e_kOrF, e_kNot, e_eand, e_eor, e_enot, e_kEAndT, e_kEAndF, e_kEOrT, e_kEOrF, e_kENot, e_ifE, e_kIfET, e_kIfEF, e_oV, e_kOV, e_eF, e_frzv, e_frzo, e_neg, e_kNeg, e_nil, e_cons, e_kCons, e_kCons2, e_oB1, e_kB1, e_b1V, e_kB1V, e_kGetV, e_kGetO, e_oBn, e_kBn, e_ixV, e_kIxV, e_ixAt, e_kAtS, e_kAtL, e_kAtT, e_kAtK, e_kAtP, e_pSome, e_kSome, e_pNone, e_oSl, e_kSl, e_kSl2, e_kSl3, e_oLst, e_kOL, e_tup, e_kTup, e_call, e_res, e_kResV, e_kResO, e_kResX, e_cP, e_kCP, e_cQ, e_kCQ, e_outRV, e_outRO, e_seq, e_kSeqN, e_kSeqR, e_kSeqB, e_kSeqC, e_kSeqX, e_next, e_set, e_kSet, e_good, e_kGoodV, e_kGoodO, e_kGoodX, e_asg, e_kAsg, e_rsof, e_gN, e_par, e_kPar, e_ret, e_kRet, e_drop, e_kDrop, e_if, e_kIfT, e_kIfF, e_raise, e_for, e_kFor, e_itA, e_kItA, e_itR1, e_itR2, e_kP, e_pileSet, e_kP0, e_app', e_kA0, e_kApp', e_kA1, for_nil, e_kLoopN, e_kLoopC, e_kLoopB, e_kLoopR, e_kWhN, e_kWhC, e_kWhB, e_kWhR, e_oLc, e_yes, e_bok, e_bexc, e_bsok, e_bsexc, e_ofs, e_obs, e_oms, out_rt, out_nx, List.set_cons_zero, List.set_cons_succ, List.getElem?_cons_zero, List.getElem?_cons_succ, List.map_cons, List.map_nil, List.length_cons, List.length_nil, List.cons_append, List.nil_append, d_len hs, d_mod hj, d_eq0, decide_eq_false q1, Bool.false_and, if_neg Bool.false_ne_true]
theorem root_loop {w : List Nat} {K : Nat} (h : Wd w) (hK : K ≤ w.length) (hr : isRep w K = true) (hm : ∀ j, 0 < j → j < K → isRep w j = false) : ∀ (d k r : Nat) (x : SV) (n : Int), k + d + 1 = K →
    forLoop (gN 1) rootBody (dInts ((k + 1 : Nat) : Int) (d + 1 + r)) ⟨[.val (.str w), x], n⟩ = .rt (.val (.str (w.take K))) ⟨[.val (.str w), .val (.int (K : Int))], n⟩
  | 0, k, r, x, n, e => by
    rw [show 0 + 1 + r = r + 1 by omega, dInts_succ, for_cons rfl]
    have : k + 1 = K := by omega
    subst this
    simp only [List.set_cons_succ, List.set_cons_zero, root_body h (show 0 < k + 1 by omega) hK, hr, if_pos, e_kLoopR]
  | d + 1, k, r, x, n, e => by
    rw [show d + 1 + 1 + r = (d + 1 + r) + 1 by omega, dInts_succ, for_cons rfl]
    have hb : isRep w (k + 1) = false := hm (k + 1) (by omega) (by omega)
    simp only [List.set_cons_succ, List.set_cons_zero, root_body h (show 0 < k + 1 by omega) (show k + 1 ≤ w.length by omega), hb]
    rw [if_neg (by decide), e_kLoopN]
    exact root_loop h hK hr hm d (k + 1) r _ n (by omega)
theorem root_of {w : List Nat} {n : Int} (h : Wd w) : m_root_of [.str w] n = .ok (.val (.str (rootW w))) n := by
  obtain ⟨K, k0, kl, e, hr, hm⟩ := rootW_spec h.n
  have hs := h.s
  unfold m_root_of
  refine (mk_ev (by rfl)).trans ?_
  show outF (b_root_of ⟨[.val (.str w), .no], n⟩) = _
  rw [b_root_eq]
  obtain ⟨d, rfl⟩ : ∃ d, K = d + 1 := ⟨K - 1, by omega⟩
  have lp := root_loop h kl hr hm d 0 (w.length - (d + 1)) .no n (by omega)
  have e4 : ((w.length + 1 : Nat) : Int) - 1 = ((d + 1 + (w.length - (d + 1)) : Nat) : Int) := by omega
  have e5 : kR2 [.int 1, .int ((w.length + 1 : Nat) : Int)] ⟨[.val (.str w), .no], n⟩ = .ok (dInts 1 (d + 1 + (w.length - (d + 1)))) ⟨[.val (.str w), .no], n⟩ := by
    rw [e_kR2 ⟨by omega, by omega, by omega, by omega⟩, e4, Int.toNat_natCast]
  have lp' : forLoop (gN 1) rootBody (dInts 1 (d + 1 + (w.length - (d + 1)))) ⟨[.val (.str w), .no], n⟩ = _ := lp
  simp only [e_var, e_kVarV, e_kVarO, e_oVar, e_kVoV, e_kVoO, eC, e_bin, e_kBin, e_kBin2, e_oBin, e_kOBin, e_kOBin2, e_good1v, e_good1o, e_test, e_kTest, e_and, e_or, e_not, e_kAndT, e_kAndF, e_kOrT, e_kOrF, e_kNot, e_eand, e_eor, e_enot, e_kEAndT, e_kEAndF, e_kEOrT, e_kEOrF, e_kENot, e_ifE, e_kIfET, e_kIfEF, e_oV, e_kOV, e_eF, e_frzv, e_frzo, e_neg, e_kNeg, e_nil, e_cons, e_kCons, e_kCons2, e_oB1, e_kB1, e_b1V, e_kB1V, e_kGetV, e_kGetO, e_oBn, e_kBn, e_ixV, e_kIxV, e_ixAt, e_kAtS, e_kAtL, e_kAtT, e_kAtK, e_kAtP, e_pSome, e_kSome, e_pNone, e_oSl, e_kSl, e_kSl2, e_kSl3, e_oLst, e_kOL, e_tup, e_kTup, e_call, e_res, e_kResV, e_kResO, e_kResX, e_cP, e_kCP, e_cQ, e_kCQ, e_outRV, e_outRO, e_seq, e_kSeqN, e_kSeqR, e_kSeqB, e_kSeqC, e_kSeqX, e_next, e_set, e_kSet, e_good, e_kGoodV, e_kGoodO, e_kGoodX, e_asg, e_kAsg, e_rsof, e_gN, e_par, e_kPar, e_ret, e_kRet, e_drop, e_kDrop, e_if, e_kIfT, e_kIfF, e_raise, e_for, e_kFor, e_itA, e_kItA, e_itR1, e_itR2, e_kP, e_pileSet, e_kP0, e_app', e_kA0, e_kApp', e_kA1, for_nil, e_kLoopN, e_kLoopC, e_kLoopB, e_kLoopR, e_kWhN, e_kWhC, e_kWhB, e_kWhR, e_oLc, e_yes, e_bok, e_bexc, e_bsok, e_bsexc, e_ofs, e_obs, e_oms, out_rt, out_nx, List.set_cons_zero, List.set_cons_succ, List.getElem?_cons_zero, List.getElem?_cons_succ, List.map_cons, List.map_nil, List.length_cons, List.length_nil, List.cons_append, List.nil_append, d_len hs, d_add1, e5, lp', e]
theorem law_root_of {w : List Nat} {n : Int} (h : Wd w) : m__law_root_of [.str w] n = .ok (.val (.str (rootW w))) n := root_of h
theorem root {w : List Nat} {n : Int} (h : Wd w) : m_root [.str w] n = .ok (.val (.str (rootW w))) n := by
  unfold m_root
  refine (mk_ev (by rfl)).trans ?_
  show outF (b_root ⟨[.val (.str w)], n⟩) = _
  unfold b_root
  simp only [e_var, e_kVarV, e_kVarO, e_oVar, e_kVoV, e_kVoO, eC, e_bin, e_kBin, e_kBin2, e_oBin, e_kOBin, e_kOBin2, e_good1v, e_good1o, e_test, e_kTest, e_and, e_or, e_not, e_kAndT, e_kAndF, e_kOrT, e_kOrF, e_kNot, e_eand, e_eor, e_enot, e_kEAndT, e_kEAndF, e_kEOrT, e_kEOrF, e_kENot, e_ifE, e_kIfET, e_kIfEF, e_oV, e_kOV, e_eF, e_frzv, e_frzo, e_neg, e_kNeg, e_nil, e_cons, e_kCons, e_kCons2, e_oB1, e_kB1, e_b1V, e_kB1V, e_kGetV, e_kGetO, e_oBn, e_kBn, e_ixV, e_kIxV, e_ixAt, e_kAtS, e_kAtL, e_kAtT, e_kAtK, e_kAtP, e_pSome, e_kSome, e_pNone, e_oSl, e_kSl, e_kSl2, e_kSl3, e_oLst, e_kOL, e_tup, e_kTup, e_call, e_res, e_kResV, e_kResO, e_kResX, e_cP, e_kCP, e_cQ, e_kCQ, e_outRV, e_outRO, e_seq, e_kSeqN, e_kSeqR, e_kSeqB, e_kSeqC, e_kSeqX, e_next, e_set, e_kSet, e_good, e_kGoodV, e_kGoodO, e_kGoodX, e_asg, e_kAsg, e_rsof, e_gN, e_par, e_kPar, e_ret, e_kRet, e_drop, e_kDrop, e_if, e_kIfT, e_kIfF, e_raise, e_for, e_kFor, e_itA, e_kItA, e_itR1, e_itR2, e_kP, e_pileSet, e_kP0, e_app', e_kA0, e_kApp', e_kA1, for_nil, e_kLoopN, e_kLoopC, e_kLoopB, e_kLoopR, e_kWhN, e_kWhC, e_kWhB, e_kWhR, e_oLc, e_yes, e_bok, e_bexc, e_bsok, e_bsexc, e_ofs, e_obs, e_oms, out_rt, out_nx, List.set_cons_zero, List.set_cons_succ, List.getElem?_cons_zero, List.getElem?_cons_succ, List.map_cons, List.map_nil, List.length_cons, List.length_nil, List.cons_append, List.nil_append, look_word h, look_root h, root_of h]

/-! ### beginnings -/
theorem beginning {w : List Nat} {k : Nat} {n : Int} (h : Wd w) (hk : k ≤ 100000) : m_beginning [.str w, .int (k : Int)] n = .ok (.val (.str (beg w k))) n := by
  have hs := h.s
  have hl : 0 < w.length := List.length_pos_iff.mpr h.n
  have hd := div_len h.n k
  have e1 : dMul (.str w) (.int ((k / w.length + 1 : Nat) : Int)) = _ := d_mul (by have := Nat.div_le_self k w.length; omega) (by omega) (by omega)
  have e2 : dSl (.str (repS (k / w.length + 1) w)) none (some (k : Int)) = _ := d_sl (by rw [repS_len, Nat.mul_comm]; omega) (by
    rw [repS_len, Nat.add_mul, Nat.one_mul]
    have := Nat.div_add_mod k w.length
    have h2 := Nat.mod_lt k hl
    rw [Nat.mul_comm] at this
    omega)
  unfold m_beginning
  refine (mk_ev (by rfl)).trans ?_
  show outF (b_beginning ⟨[.val (.str w), .val (.int (k : Int))], n⟩) = _
  unfold b_beginning
  simp only [e_var, e_kVarV, e_kVarO, e_oVar, e_kVoV, e_kVoO, eC, e_bin, e_kBin, e_kBin2, e_oBin, e_kOBin, e_kOBin2, e_good1v, e_good1o, e_test, e_kTest, e_and, e_or, e_not, e_kAndT, e_kAndF, e_kOrT, e_kOrF, e_kNot, e_eand, e_eor, e_enot, e_kEAndT, e_kEAndF, e_kEOrT, e_kEOrF, e_kENot, e_ifE, e_kIfET, e_kIfEF, e_oV, e_kOV, e_eF, e_frzv, e_frzo, e_neg, e_kNeg, e_nil, e_cons, e_kCons, e_kCons2, e_oB1, e_kB1, e_b1V, e_kB1V, e_kGetV, e_kGetO, e_oBn, e_kBn, e_ixV, e_kIxV, e_ixAt, e_kAtS, e_kAtL, e_kAtT, e_kAtK, e_kAtP, e_pSome, e_kSome, e_pNone, e_oSl, e_kSl, e_kSl2, e_kSl3, e_oLst, e_kOL, e_tup, e_kTup, e_call, e_res, e_kResV, e_kResO, e_kResX, e_cP, e_kCP, e_cQ, e_kCQ, e_outRV, e_outRO, e_seq, e_kSeqN, e_kSeqR, e_kSeqB, e_kSeqC, e_kSeqX, e_next, e_set, e_kSet, e_good, e_kGoodV, e_kGoodO, e_kGoodX, e_asg, e_kAsg, e_rsof, e_gN, e_par, e_kPar, e_ret, e_kRet, e_drop, e_kDrop, e_if, e_kIfT, e_kIfF, e_raise, e_for, e_kFor, e_itA, e_kItA, e_itR1, e_itR2, e_kP, e_pileSet, e_kP0, e_app', e_kA0, e_kApp', e_kA1, for_nil, e_kLoopN, e_kLoopC, e_kLoopB, e_kLoopR, e_kWhN, e_kWhC, e_kWhB, e_kWhR, e_oLc, e_yes, e_bok, e_bexc, e_bsok, e_bsexc, e_ofs, e_obs, e_oms, out_rt, out_nx, List.set_cons_zero, List.set_cons_succ, List.getElem?_cons_zero, List.getElem?_cons_succ, List.map_cons, List.map_nil, List.length_cons, List.length_nil, List.cons_append, List.nil_append, d_len hs, d_div hl (show w.length ≤ 1000000 by omega), d_add1, e1, e2, beg_is h.n]
theorem begin_ {w : List Nat} {k : Nat} {n : Int} (h : Wd w) (hk : k ≤ 100000) : m_begin [.str w, .int (k : Int)] n = .ok (.val (.str (beg w k))) n := by
  unfold m_begin
  refine (mk_ev (by rfl)).trans ?_
  show outF (b_begin ⟨[.val (.str w), .val (.int (k : Int))], n⟩) = _
  unfold b_begin
  simp only [e_var, e_kVarV, e_kVarO, e_oVar, e_kVoV, e_kVoO, eC, e_bin, e_kBin, e_kBin2, e_oBin, e_kOBin, e_kOBin2, e_good1v, e_good1o, e_test, e_kTest, e_and, e_or, e_not, e_kAndT, e_kAndF, e_kOrT, e_kOrF, e_kNot, e_eand, e_eor, e_enot, e_kEAndT, e_kEAndF, e_kEOrT, e_kEOrF, e_kENot, e_ifE, e_kIfET, e_kIfEF, e_oV, e_kOV, e_eF, e_frzv, e_frzo, e_neg, e_kNeg, e_nil, e_cons, e_kCons, e_kCons2, e_oB1, e_kB1, e_b1V, e_kB1V, e_kGetV, e_kGetO, e_oBn, e_kBn, e_ixV, e_kIxV, e_ixAt, e_kAtS, e_kAtL, e_kAtT, e_kAtK, e_kAtP, e_pSome, e_kSome, e_pNone, e_oSl, e_kSl, e_kSl2, e_kSl3, e_oLst, e_kOL, e_tup, e_kTup, e_call, e_res, e_kResV, e_kResO, e_kResX, e_cP, e_kCP, e_cQ, e_kCQ, e_outRV, e_outRO, e_seq, e_kSeqN, e_kSeqR, e_kSeqB, e_kSeqC, e_kSeqX, e_next, e_set, e_kSet, e_good, e_kGoodV, e_kGoodO, e_kGoodX, e_asg, e_kAsg, e_rsof, e_gN, e_par, e_kPar, e_ret, e_kRet, e_drop, e_kDrop, e_if, e_kIfT, e_kIfF, e_raise, e_for, e_kFor, e_itA, e_kItA, e_itR1, e_itR2, e_kP, e_pileSet, e_kP0, e_app', e_kA0, e_kApp', e_kA1, for_nil, e_kLoopN, e_kLoopC, e_kLoopB, e_kLoopR, e_kWhN, e_kWhC, e_kWhB, e_kWhR, e_oLc, e_yes, e_bok, e_bexc, e_bsok, e_bsexc, e_ofs, e_obs, e_oms, out_rt, out_nx, List.set_cons_zero, List.set_cons_succ, List.getElem?_cons_zero, List.getElem?_cons_succ, List.map_cons, List.map_nil, List.length_cons, List.length_nil, List.cons_append, List.nil_append, look_word h, look_root h, look_number, beginning h hk]
def begBody : SM := (mSet 2 (good (oBin dAdd (mVar 2) (mVar 0))))
def begTest : TM := (mTest (mBin dLt (eF (oB1V dLen 2)) (mVar 1)))
theorem d_lt {a b : Nat} : dLt (.int (a : Int)) (.int (b : Int)) = some (.bl (decide (a < b))) := by
  show some (D.bl (decide ((a : Int) < (b : Int)))) = _
  by_cases h : a < b
  · rw [decide_eq_true h, decide_eq_true (by omega)]
  · rw [decide_eq_false h, decide_eq_false (by omega)]
theorem beg_loop {w : List Nat} {k : Nat} {n : Int} (h : Wd w) (hk : k ≤ 100000) : ∀ (f m : Nat), 1 ≤ f → k + 1 ≤ m * w.length + f → m * w.length ≤ k + w.length → ∃ m', k ≤ m' * w.length ∧ m' * w.length ≤ k + w.length ∧
    mWhile begTest begBody f ⟨[.val (.str w), .val (.int (k : Int)), .val (.str (repS m w))], n⟩ = .nx ⟨[.val (.str w), .val (.int (k : Int)), .val (.str (repS m w))].set 2 (.val (.str (repS m' w))), n⟩
  | 0, m, hf, h0, h1 => by omega
  | f + 1, m, hf, h0, h1 => by
    have hs := h.s
    have hl : 0 < w.length := List.length_pos_iff.mpr h.n
    have e1 : dLen (.str (repS m w)) = some (.val (.int ((m * w.length : Nat) : Int))) := by
      have e0 : dLen (.str (repS m w)) = some (.val (.int ((repS m w).length : Int))) := if_pos (by rw [repS_len]; have e := sizeLine_eq; omega)
      rw [e0, repS_len]
    have et : begTest ⟨[.val (.str w), .val (.int (k : Int)), .val (.str (repS m w))], n⟩ = .ok (decide (m * w.length < k)) ⟨[.val (.str w), .val (.int (k : Int)), .val (.str (repS m w))], n⟩ := by
      unfold begTest
      simp only [e_var, e_kVarV, e_kVarO, e_oVar, e_kVoV, e_kVoO, eC, e_bin, e_kBin, e_kBin2, e_oBin, e_kOBin, e_kOBin2, e_good1v, e_good1o, e_test, e_kTest, e_and, e_or, e_not, e_kAndT, e_kAndF, e_kOrT, e_kOrF, e_kNot, e_eand, e_eor, e_enot, e_kEAndT, e_kEAndF, e_kEOrT, e_kEOrF, e_kENot, e_ifE, e_kIfET, e_kIfEF, e_oV, e_kOV, e_eF, e_frzv, e_frzo, e_neg, e_kNeg, e_nil, e_cons, e_kCons, e_kCons2, e_oB1, e_kB1, e_b1V, e_kB1V, e_kGetV, e_kGetO, e_oBn, e_kBn, e_ixV, e_kIxV, e_ixAt, e_kAtS, e_kAtL, e_kAtT, e_kAtK, e_kAtP, e_pSome, e_kSome, e_pNone, e_oSl, e_kSl, e_kSl2, e_kSl3, e_oLst, e_kOL, e_tup, e_kTup, e_call, e_res, e_kResV, e_kResO, e_kResX, e_cP, e_kCP, e_cQ, e_kCQ, e_outRV, e_outRO, e_seq, e_kSeqN, e_kSeqR, e_kSeqB, e_kSeqC, e_kSeqX, e_next, e_set, e_kSet, e_good, e_kGoodV, e_kGoodO, e_kGoodX, e_asg, e_kAsg, e_rsof, e_gN, e_par, e_kPar, e_ret, e_kRet, e_drop, e_kDrop, e_if, e_kIfT, e_kIfF, e_raise, e_for, e_kFor, e_itA, e_kItA, e_itR1, e_itR2, e_kP, e_pileSet, e_kP0, e_app', e_kA0, e_kApp', e_kA1, for_nil, e_kLoopN, e_kLoopC, e_kLoopB, e_kLoopR, e_kWhN, e_kWhC, e_kWhB, e_kWhR, e_oLc, e_yes, e_bok, e_bexc, e_bsok, e_bsexc, e_ofs, e_obs, e_oms, out_rt, out_nx, List.set_cons_zero, List.set_cons_succ, List.getElem?_cons_zero, List.getElem?_cons_succ, List.map_cons, List.map_nil, List.length_cons, List.length_nil, List.cons_append, List.nil_append, e1, d_lt]
    by_cases q : m * w.length < k
    · have eb : begBody ⟨[.val (.str w), .val (.int (k : Int)), .val (.str (repS m w))], n⟩ = .nx ⟨[.val (.str w), .val (.int (k : Int)), .val (.str (repS (m + 1) w))], n⟩ := by
        have ea : dAdd (.str (repS m w)) (.str w) = _ := d_adds (by rw [repS_len]; omega)
        have ec : repS m w ++ w = repS (m + 1) w := by rw [repS_add, repS_one]
        unfold begBody
        simp only [e_var, e_kVarV, e_kVarO, e_oVar, e_kVoV, e_kVoO, eC, e_bin, e_kBin, e_kBin2, e_oBin, e_kOBin, e_kOBin2, e_good1v, e_good1o, e_test, e_kTest, e_and, e_or, e_not, e_kAndT, e_kAndF, e_kOrT, e_kOrF, e_kNot, e_eand, e_eor, e_enot, e_kEAndT, e_kEAndF, e_kEOrT, e_kEOrF, e_kENot, e_ifE, e_kIfET, e_kIfEF, e_oV, e_kOV, e_eF, e_frzv, e_frzo, e_neg, e_kNeg, e_nil, e_cons, e_kCons, e_kCons2, e_oB1, e_kB1, e_b1V, e_kB1V, e_kGetV, e_kGetO, e_oBn, e_kBn, e_ixV, e_kIxV, e_ixAt, e_kAtS, e_kAtL, e_kAtT, e_kAtK, e_kAtP, e_pSome, e_kSome, e_pNone, e_oSl, e_kSl, e_kSl2, e_kSl3, e_oLst, e_kOL, e_tup, e_kTup, e_call, e_res, e_kResV, e_kResO, e_kResX, e_cP, e_kCP, e_cQ, e_kCQ, e_outRV, e_outRO, e_seq, e_kSeqN, e_kSeqR, e_kSeqB, e_kSeqC, e_kSeqX, e_next, e_set, e_kSet, e_good, e_kGoodV, e_kGoodO, e_kGoodX, e_asg, e_kAsg, e_rsof, e_gN, e_par, e_kPar, e_ret, e_kRet, e_drop, e_kDrop, e_if, e_kIfT, e_kIfF, e_raise, e_for, e_kFor, e_itA, e_kItA, e_itR1, e_itR2, e_kP, e_pileSet, e_kP0, e_app', e_kA0, e_kApp', e_kA1, for_nil, e_kLoopN, e_kLoopC, e_kLoopB, e_kLoopR, e_kWhN, e_kWhC, e_kWhB, e_kWhR, e_oLc, e_yes, e_bok, e_bexc, e_bsok, e_bsexc, e_ofs, e_obs, e_oms, out_rt, out_nx, List.set_cons_zero, List.set_cons_succ, List.getElem?_cons_zero, List.getElem?_cons_succ, List.map_cons, List.map_nil, List.length_cons, List.length_nil, List.cons_append, List.nil_append, ea, ec]
      rw [wh_t (by rw [et, decide_eq_true q]), eb, e_kWhN]
      obtain ⟨m', g1, g2, g3⟩ := beg_loop h hk f (m + 1) (by omega) (by rw [Nat.add_mul]; omega) (by rw [Nat.add_mul]; omega)
      exact ⟨m', g1, g2, g3⟩
    · refine ⟨m, by omega, h1, ?_⟩
      rw [wh_f (by rw [et, decide_eq_false q])]
      rfl
theorem b_lawbeg_eq : b__law_begin = mSeq (mSet 2 (good (oV (mC (.str []))))) (mSeq (mWhile begTest begBody fuel) (mRet (oSl (mVar 2) pNone (pSome (mVar 1))))) := rfl
theorem law_begin {w : List Nat} {k : Nat} {n : Int} (h : Wd w) (hk : k ≤ 100000) : m__law_begin [.str w, .int (k : Int)] n = .ok (.val (.str (beg w k))) n := by
  have hs := h.s
  obtain ⟨m, g1, g2, g3⟩ := beg_loop (n := n) h hk fuel 0 (by show 1 ≤ 1000000; omega) (by show k + 1 ≤ 0 * w.length + 1000000; omega) (by omega)
  have g3' : mWhile begTest begBody fuel ⟨[.val (.str w), .val (.int (k : Int)), .val (.str [])], n⟩ = .nx ⟨[.val (.str w), .val (.int (k : Int)), .val (.str (repS m w))], n⟩ := g3
  have e2 : dSl (.str (repS m w)) none (some (k : Int)) = _ := d_sl (by rw [repS_len]; omega) (by rw [repS_len]; exact g1)
  have e3 : (repS m w).take k = beg w k := by rw [repS_beg, beg_take w g1]
  unfold m__law_begin
  refine (mk_ev (by rfl)).trans ?_
  show outF (b__law_begin ⟨[.val (.str w), .val (.int (k : Int)), .no], n⟩) = _
  rw [b_lawbeg_eq]
  simp only [e_var, e_kVarV, e_kVarO, e_oVar, e_kVoV, e_kVoO, eC, e_bin, e_kBin, e_kBin2, e_oBin, e_kOBin, e_kOBin2, e_good1v, e_good1o, e_test, e_kTest, e_and, e_or, e_not, e_kAndT, e_kAndF, e_kOrT, e_kOrF, e_kNot, e_eand, e_eor, e_enot, e_kEAndT, e_kEAndF, e_kEOrT, e_kEOrF, e_kENot, e_ifE, e_kIfET, e_kIfEF, e_oV, e_kOV, e_eF, e_frzv, e_frzo, e_neg, e_kNeg, e_nil, e_cons, e_kCons, e_kCons2, e_oB1, e_kB1, e_b1V, e_kB1V, e_kGetV, e_kGetO, e_oBn, e_kBn, e_ixV, e_kIxV, e_ixAt, e_kAtS, e_kAtL, e_kAtT, e_kAtK, e_kAtP, e_pSome, e_kSome, e_pNone, e_oSl, e_kSl, e_kSl2, e_kSl3, e_oLst, e_kOL, e_tup, e_kTup, e_call, e_res, e_kResV, e_kResO, e_kResX, e_cP, e_kCP, e_cQ, e_kCQ, e_outRV, e_outRO, e_seq, e_kSeqN, e_kSeqR, e_kSeqB, e_kSeqC, e_kSeqX, e_next, e_set, e_kSet, e_good, e_kGoodV, e_kGoodO, e_kGoodX, e_asg, e_kAsg, e_rsof, e_gN, e_par, e_kPar, e_ret, e_kRet, e_drop, e_kDrop, e_if, e_kIfT, e_kIfF, e_raise, e_for, e_kFor, e_itA, e_kItA, e_itR1, e_itR2, e_kP, e_pileSet, e_kP0, e_app', e_kA0, e_kApp', e_kA1, for_nil, e_kLoopN, e_kLoopC, e_kLoopB, e_kLoopR, e_kWhN, e_kWhC, e_kWhB, e_kWhR, e_oLc, e_yes, e_bok, e_bexc, e_bsok, e_bsexc, e_ofs, e_obs, e_oms, out_rt, out_nx, List.set_cons_zero, List.set_cons_succ, List.getElem?_cons_zero, List.getElem?_cons_succ, List.map_cons, List.map_nil, List.length_cons, List.length_nil, List.cons_append, List.nil_append, g3', e2, e3]
end Pd

/-! the plain law of k01: what two words share -/
namespace Pd
open PySem L2

def shD : Option Nat → D
  | some i => .int (i : Int)
  | none => .non
def sh (w o : List Nat) : Option Nat := shareW w o (w.length + o.length)
/-- the least place from k on, below k + m, at which p holds -/
def scan (p : Nat → Bool) : Nat → Nat → Option Nat
  | _, 0 => none
  | k, m + 1 => if p k = true then some k else scan p (k + 1) m
theorem scan_find (p : Nat → Bool) : ∀ (m k : Nat), ((List.range m).map (k + ·)).find? p = scan p k m
  | 0, k => rfl
  | m + 1, k => by
    rw [List.range_succ_eq_map, List.map_cons, List.map_map, List.find?_cons]
    have ih := scan_find p m (k + 1)
    have e : (List.map ((fun x => k + x) ∘ Nat.succ) (List.range m)) = (List.range m).map (k + 1 + ·) := by
      apply List.map_congr_left
      intro a _
      show k + (a + 1) = k + 1 + a
      omega
    rw [e, ih, Nat.add_zero]
    show _ = (if p k = true then some k else scan p (k + 1) m)
    cases p k <;> rfl
theorem sh_scan {w o : List Nat} : sh w o = scan (fun i => decide (inf w i ≠ inf o i)) 0 (w.length + o.length) := by
  rw [← scan_find]
  unfold sh shareW
  congr 1
  simp
theorem scan_none {p : Nat → Bool} : ∀ {m k : Nat}, scan p k m = none → ∀ i, k ≤ i → i < k + m → p i = false
  | 0, k, _, i, h1, h2 => by omega
  | m + 1, k, h, i, h1, h2 => by
    unfold scan at h
    split at h
    · cases h
    · rename_i q
      by_cases e : i = k
      · subst e; simpa using q
      · exact scan_none h i (by omega) (by omega)
theorem scan_some {p : Nat → Bool} : ∀ {m k j : Nat}, scan p k m = some j → k ≤ j ∧ j < k + m ∧ p j = true ∧ ∀ i, k ≤ i → i < j → p i = false
  | 0, k, j, h => by cases h
  | m + 1, k, j, h => by
    unfold scan at h
    split at h
    · rename_i q
      cases h
      exact ⟨by omega, by omega, q, fun i h1 h2 => by omega⟩
    · rename_i q
      obtain ⟨h1, h2, h3, h4⟩ := scan_some h
      refine ⟨by omega, by omega, h3, fun i h5 h6 => ?_⟩
      by_cases e : i = k
      · subst e; simpa using q
      · exact h4 i (by omega) h6
theorem scan_of {p : Nat → Bool} : ∀ {m k j : Nat}, k ≤ j → j < k + m → p j = true → (∀ i, k ≤ i → i < j → p i = false) → scan p k m = some j
  | 0, k, j, h1, h2, _, _ => by omega
  | m + 1, k, j, h1, h2, h3, h4 => by
    unfold scan
    by_cases e : k = j
    · subst e; rw [if_pos h3]
    · rw [if_neg (by rw [h4 k (Nat.le_refl _) (by omega)]; decide)]
      exact scan_of (by omega) (by omega) h3 fun i h5 h6 => h4 i (by omega) h6
def shBody : SM := (mIfS (mTest (mBin dNev (mIxV 3 (mVar 5)) (mIxV 4 (mVar 5)))) (mRet (oVar 5)) mNext)
theorem b_shared_eq : b_shared = (mSeq (mSet 2 (good (oBin dAdd (eF (oB1V dLen 0)) (eF (oB1V dLen 1)))))
  (mSeq (mPar 3 4 (aCons (eF (oCall m_beginning (aCons (mVar 0) (aCons (mVar 2) aNil)))) (aCons (eF (oCall m_beginning (aCons (mVar 1) (aCons (mVar 2) aNil)))) aNil)))
  (mSeq (mFor (itR1 (aCons (mVar 2) aNil)) (gN 5) shBody)
  (mRet (oV (mC .non)))))) := rfl
theorem d_ix {w : List Nat} {k i : Nat} (hk : k ≤ 1000000) (h : i < k) : dIx (.str (beg w k)) (.int (i : Int)) = some (.str [inf w i]) := by
  have h1 : dIx (.str (beg w k)) (.int (i : Int)) = (atI (beg w k) (i : Int)).map fun c => .str [c] := if_pos (by rw [beg_len]; have e := sizeLine_eq; omega)
  rw [h1, atI_nat (by rw [beg_len]; exact h), beg_get h]
  rfl
theorem ok1 {w : List Nat} (h : Wd w) (i : Nat) : okS [inf w i] = true := by
  have hl : 0 < w.length := List.length_pos_iff.mpr h.n
  have h1 := okS_of h.l
  have h2 : w[i % w.length]? = some (inf w i) := by
    rw [← inf_mod]
    exact inf_lt (Nat.mod_lt _ hl)
  have h3 : inf w i ∈ w := List.mem_of_getElem? h2
  unfold okS at h1 ⊢
  rw [List.all_eq_true] at h1
  simpa using h1 _ h3
theorem sh_body {w o : List Nat} {k i : Nat} {a b : SV} {n : Int} (hw : Wd w) (ho : Wd o) (hk : k ≤ 1000000) (h : i < k) :
    shBody ⟨[a, b, .val (.int (k : Int)), .val (.str (beg w k)), .val (.str (beg o k)), .val (.int (i : Int))], n⟩ = if decide (inf w i ≠ inf o i) = true then .rt (.val (.int (i : Int))) ⟨[a, b, .val (.int (k : Int)), .val (.str (beg w k)), .val (.str (beg o k)), .val (.int (i : Int))], n⟩ else .nx ⟨[a, b, .val (.int (k : Int)), .val (.str (beg w k)), .val (.str (beg o k)), .val (.int (i : Int))], n⟩ := by
  have e1 := nev_str (ok1 hw i) (ok1 ho i)
  have e2 : decide ([inf w i] ≠ [inf o i]) = decide (inf w i ≠ inf o i) := by
    by_cases q : inf w i = inf o i <;> simp [q]
  unfold shBody
  by_cases q : inf w i ≠ inf o i
  · simp only [e_var, e_kVarV, e_kVarO, e_oVar, e_kVoV, e_kVoO, eC, e_bin, e_kBin, e_kBin2, e_oBin, e_kOBin, e_kOBin2, e_good1v, e_good1o, e_test, e_kTest, e_and, e_or, e_not, e_kAndT, e_kAndF, e_kOrT, e_kOrF, e_kNot, e_eand, e_eor, e_enot, e_kEAndT, e_kEAndF, e_kEOrT, e_kEOrF, e_kENot, e_ifE, e_kIfET, e_kIfEF, e_oV, e_kOV, e_eF, e_frzv, e_frzo, e_neg, e_kNeg, e_nil, e_cons, e_kCons, e_kCons2, e_oB1, e_kB1, e_b1V, e_kB1V, e_kGetV, e_kGetO, e_oBn, e_kBn, e_ixV, e_kIxV, e_ixAt, e_kAtS, e_kAtL, e_kAtT, e_kAtK, e_kAtP, e_pSome, e_kSome, e_pNone, e_oSl, e_kSl, e_kSl2, e_kSl3, e_oLst, e_kOL, e_tup, e_kTup, e_call, e_res, e_kResV, e_kResO, e_kResX, e_cP, e_kCP, e_cQ, e_kCQ, e_outRV, e_outRO, e_seq, e_kSeqN, e_kSeqR, e_kSeqB, e_kSeqC, e_kSeqX, e_next, e_set, e_kSet, e_good, e_kGoodV, e_kGoodO, e_kGoodX, e_asg, e_kAsg, e_rsof, e_gN, e_par, e_kPar, e_ret, e_kRet, e_drop, e_kDrop, e_if, e_kIfT, e_kIfF, e_raise, e_for, e_kFor, e_itA, e_kItA, e_itR1, e_itR2, e_kP, e_pileSet, e_kP0, e_app', e_kA0, e_kApp', e_kA1, for_nil, e_kLoopN, e_kLoopC, e_kLoopB, e_kLoopR, e_kWhN, e_kWhC, e_kWhB, e_kWhR, e_oLc, e_yes, e_bok, e_bexc, e_bsok, e_bsexc, e_ofs, e_obs, e_oms, out_rt, out_nx, List.set_cons_zero, List.set_cons_succ, List.getElem?_cons_zero, List.getElem?_cons_succ, List.map_cons, List.map_nil, List.length_cons, List.length_nil, List.cons_append, List.nil_append, d_ix hk h, e1, e2, decide_eq_true q, if_pos]
  · simp only [e_var, e_kVarV, e_kVarO, e_oVar, e_kVoV, e_kVoO, eC, e_bin, e_kBin, e_kBin2, e_oBin, e_kOBin, e_kOBin2, e_good1v, e_good1o, e_test, e_kTest, e_and, e_or, e_not, e_kAndT, e_kAndF, e_kOrT, e_kOrF, e_kNot, e_eand, e_eor, e_enot, e_kEAndT, e_kEAndF, e_kEOrT, e_kEOrF, e_kENot, e_ifE, e_kIfET, e_kIfEF, e_oV, e_kOV, e_eF, e_frzv, e_frzo, e_neg, e_kNeg, e_nil, e_cons, e_kCons, e_kCons2, e_oB1, e_kB1, e_b1V, e_kB1V, e_kGetV, e_kGetO, e_oBn, e_kBn, e_ixV, e_kIxV, e_ixAt, e_kAtS, e_kAtL, e_kAtT, e_kAtK, e_kAtP, e_pSome, e_kSome, e_pNone, e_oSl, e_kSl, e_kSl2, e_kSl3, e_oLst, e_kOL, e_tup, e_kTup, e_call, e_res, e_kResV, e_kResO, e_kResX, e_cP, e_kCP, e_cQ, e_kCQ, e_outRV, e_outRO, e_seq, e_kSeqN, e_kSeqR, e_kSeqB, e_kSeqC, e_kSeqX, e_next, e_set, e_kSet, e_good, e_kGoodV, e_kGoodO, e_kGoodX, e_asg, e_kAsg, e_rsof, e_gN, e_par, e_kPar, e_ret, e_kRet, e_drop, e_kDrop, e_if, e_kIfT, e_kIfF, e_raise, e_for, e_kFor, e_itA, e_kItA, e_itR1, e_itR2, e_kP, e_pileSet, e_kP0, e_app', e_kA0, e_kApp', e_kA1, for_nil, e_kLoopN, e_kLoopC, e_kLoopB, e_kLoopR, e_kWhN, e_kWhC, e_kWhB, e_kWhR, e_oLc, e_yes, e_bok, e_bexc, e_bsok, e_bsexc, e_ofs, e_obs, e_oms, out_rt, out_nx, List.set_cons_zero, List.set_cons_succ, List.getElem?_cons_zero, List.getElem?_cons_succ, List.map_cons, List.map_nil, List.length_cons, List.length_nil, List.cons_append, List.nil_append, d_ix hk h, e1, e2, decide_eq_false q, if_neg Bool.false_ne_true]
theorem sh_loop {w o : List Nat} {k : Nat} {a b : SV} {n : Int} (hw : Wd w) (ho : Wd o) (hk : k ≤ 1000000) : ∀ (m i : Nat) (x : SV), i + m = k →
    (∃ j, scan (fun i => decide (inf w i ≠ inf o i)) i m = some j ∧ forLoop (gN 5) shBody (dInts (i : Int) m) ⟨[a, b, .val (.int (k : Int)), .val (.str (beg w k)), .val (.str (beg o k)), x], n⟩ = .rt (.val (.int (j : Int))) ⟨[a, b, .val (.int (k : Int)), .val (.str (beg w k)), .val (.str (beg o k)), .val (.int (j : Int))], n⟩) ∨
    (scan (fun i => decide (inf w i ≠ inf o i)) i m = none ∧ ∃ y, forLoop (gN 5) shBody (dInts (i : Int) m) ⟨[a, b, .val (.int (k : Int)), .val (.str (beg w k)), .val (.str (beg o k)), x], n⟩ = .nx ⟨[a, b, .val (.int (k : Int)), .val (.str (beg w k)), .val (.str (beg o k)), y], n⟩)
  | 0, i, x, e => .inr ⟨rfl, x, rfl⟩
  | m + 1, i, x, e => by
    rw [dInts_succ, for_cons rfl]
    simp only [List.set_cons_succ, List.set_cons_zero, sh_body hw ho hk (show i < k by omega), scan]
    by_cases q : decide (inf w i ≠ inf o i) = true
    · left
      refine ⟨i, ?_, ?_⟩
      · rw [if_pos q]
      · rw [if_pos q, e_kLoopR]
    · rw [if_neg q, if_neg q, e_kLoopN]
      exact sh_loop hw ho hk m (i + 1) _ (by omega)
theorem shared {w o : List Nat} {n : Int} (hw : Wd w) (ho : Wd o) (hl : w.length + o.length ≤ 100000) : m_shared [.str w, .str o] n = .ok (.val (shD (sh w o))) n := by
  unfold m_shared
  refine (mk_ev (by rfl)).trans ?_
  show outF (b_shared ⟨[.val (.str w), .val (.str o), .no, .no, .no, .no], n⟩) = _
  rw [b_shared_eq]
  have e5 : kR1 [.int ((w.length + o.length : Nat) : Int)] ⟨[.val (.str w), .val (.str o), .val (.int ((w.length + o.length : Nat) : Int)), .val (.str (beg w (w.length + o.length))), .val (.str (beg o (w.length + o.length))), .no], n⟩ = .ok (dInts 0 (w.length + o.length)) ⟨[.val (.str w), .val (.str o), .val (.int ((w.length + o.length : Nat) : Int)), .val (.str (beg w (w.length + o.length))), .val (.str (beg o (w.length + o.length))), .no], n⟩ := by
    rw [e_kR1 ⟨by omega, by omega⟩, Int.toNat_natCast]
  rw [sh_scan]
  rcases sh_loop (a := .val (.str w)) (b := .val (.str o)) (n := n) hw ho (show w.length + o.length ≤ 1000000 by omega) (w.length + o.length) 0 .no (by omega) with ⟨j, h1, h2⟩ | ⟨h1, y, h2⟩
  · have h2' : forLoop (gN 5) shBody (dInts 0 (w.length + o.length)) _ = _ := h2
    simp only [e_var, e_kVarV, e_kVarO, e_oVar, e_kVoV, e_kVoO, eC, e_bin, e_kBin, e_kBin2, e_oBin, e_kOBin, e_kOBin2, e_good1v, e_good1o, e_test, e_kTest, e_and, e_or, e_not, e_kAndT, e_kAndF, e_kOrT, e_kOrF, e_kNot, e_eand, e_eor, e_enot, e_kEAndT, e_kEAndF, e_kEOrT, e_kEOrF, e_kENot, e_ifE, e_kIfET, e_kIfEF, e_oV, e_kOV, e_eF, e_frzv, e_frzo, e_neg, e_kNeg, e_nil, e_cons, e_kCons, e_kCons2, e_oB1, e_kB1, e_b1V, e_kB1V, e_kGetV, e_kGetO, e_oBn, e_kBn, e_ixV, e_kIxV, e_ixAt, e_kAtS, e_kAtL, e_kAtT, e_kAtK, e_kAtP, e_pSome, e_kSome, e_pNone, e_oSl, e_kSl, e_kSl2, e_kSl3, e_oLst, e_kOL, e_tup, e_kTup, e_call, e_res, e_kResV, e_kResO, e_kResX, e_cP, e_kCP, e_cQ, e_kCQ, e_outRV, e_outRO, e_seq, e_kSeqN, e_kSeqR, e_kSeqB, e_kSeqC, e_kSeqX, e_next, e_set, e_kSet, e_good, e_kGoodV, e_kGoodO, e_kGoodX, e_asg, e_kAsg, e_rsof, e_gN, e_par, e_kPar, e_ret, e_kRet, e_drop, e_kDrop, e_if, e_kIfT, e_kIfF, e_raise, e_for, e_kFor, e_itA, e_kItA, e_itR1, e_itR2, e_kP, e_pileSet, e_kP0, e_app', e_kA0, e_kApp', e_kA1, for_nil, e_kLoopN, e_kLoopC, e_kLoopB, e_kLoopR, e_kWhN, e_kWhC, e_kWhB, e_kWhR, e_oLc, e_yes, e_bok, e_bexc, e_bsok, e_bsexc, e_ofs, e_obs, e_oms, out_rt, out_nx, List.set_cons_zero, List.set_cons_succ, List.getElem?_cons_zero, List.getElem?_cons_succ, List.map_cons, List.map_nil, List.length_cons, List.length_nil, List.cons_append, List.nil_append, d_len hw.s, d_len ho.s, d_add, beginning hw hl, beginning ho hl, e5, h2', h1, shD]
  · have h2' : forLoop (gN 5) shBody (dInts 0 (w.length + o.length)) _ = _ := h2
    simp only [e_var, e_kVarV, e_kVarO, e_oVar, e_kVoV, e_kVoO, eC, e_bin, e_kBin, e_kBin2, e_oBin, e_kOBin, e_kOBin2, e_good1v, e_good1o, e_test, e_kTest, e_and, e_or, e_not, e_kAndT, e_kAndF, e_kOrT, e_kOrF, e_kNot, e_eand, e_eor, e_enot, e_kEAndT, e_kEAndF, e_kEOrT, e_kEOrF, e_kENot, e_ifE, e_kIfET, e_kIfEF, e_oV, e_kOV, e_eF, e_frzv, e_frzo, e_neg, e_kNeg, e_nil, e_cons, e_kCons, e_kCons2, e_oB1, e_kB1, e_b1V, e_kB1V, e_kGetV, e_kGetO, e_oBn, e_kBn, e_ixV, e_kIxV, e_ixAt, e_kAtS, e_kAtL, e_kAtT, e_kAtK, e_kAtP, e_pSome, e_kSome, e_pNone, e_oSl, e_kSl, e_kSl2, e_kSl3, e_oLst, e_kOL, e_tup, e_kTup, e_call, e_res, e_kResV, e_kResO, e_kResX, e_cP, e_kCP, e_cQ, e_kCQ, e_outRV, e_outRO, e_seq, e_kSeqN, e_kSeqR, e_kSeqB, e_kSeqC, e_kSeqX, e_next, e_set, e_kSet, e_good, e_kGoodV, e_kGoodO, e_kGoodX, e_asg, e_kAsg, e_rsof, e_gN, e_par, e_kPar, e_ret, e_kRet, e_drop, e_kDrop, e_if, e_kIfT, e_kIfF, e_raise, e_for, e_kFor, e_itA, e_kItA, e_itR1, e_itR2, e_kP, e_pileSet, e_kP0, e_app', e_kA0, e_kApp', e_kA1, for_nil, e_kLoopN, e_kLoopC, e_kLoopB, e_kLoopR, e_kWhN, e_kWhC, e_kWhB, e_kWhR, e_oLc, e_yes, e_bok, e_bexc, e_bsok, e_bsexc, e_ofs, e_obs, e_oms, out_rt, out_nx, List.set_cons_zero, List.set_cons_succ, List.getElem?_cons_zero, List.getElem?_cons_succ, List.map_cons, List.map_nil, List.length_cons, List.length_nil, List.cons_append, List.nil_append, d_len hw.s, d_len ho.s, d_add, beginning hw hl, beginning ho hl, e5, h2', h1, shD]
theorem together {w o : List Nat} {n : Int} (hw : Wd w) (ho : Wd o) (hl : w.length + o.length ≤ 100000) : m_together [.str w, .str o] n = .ok (.val (shD (sh w o))) n := by
  unfold m_together
  refine (mk_ev (by rfl)).trans ?_
  show outF (b_together ⟨[.val (.str w), .val (.str o)], n⟩) = _
  unfold b_together
  simp only [e_var, e_kVarV, e_kVarO, e_oVar, e_kVoV, e_kVoO, eC, e_bin, e_kBin, e_kBin2, e_oBin, e_kOBin, e_kOBin2, e_good1v, e_good1o, e_test, e_kTest, e_and, e_or, e_not, e_kAndT, e_kAndF, e_kOrT, e_kOrF, e_kNot, e_eand, e_eor, e_enot, e_kEAndT, e_kEAndF, e_kEOrT, e_kEOrF, e_kENot, e_ifE, e_kIfET, e_kIfEF, e_oV, e_kOV, e_eF, e_frzv, e_frzo, e_neg, e_kNeg, e_nil, e_cons, e_kCons, e_kCons2, e_oB1, e_kB1, e_b1V, e_kB1V, e_kGetV, e_kGetO, e_oBn, e_kBn, e_ixV, e_kIxV, e_ixAt, e_kAtS, e_kAtL, e_kAtT, e_kAtK, e_kAtP, e_pSome, e_kSome, e_pNone, e_oSl, e_kSl, e_kSl2, e_kSl3, e_oLst, e_kOL, e_tup, e_kTup, e_call, e_res, e_kResV, e_kResO, e_kResX, e_cP, e_kCP, e_cQ, e_kCQ, e_outRV, e_outRO, e_seq, e_kSeqN, e_kSeqR, e_kSeqB, e_kSeqC, e_kSeqX, e_next, e_set, e_kSet, e_good, e_kGoodV, e_kGoodO, e_kGoodX, e_asg, e_kAsg, e_rsof, e_gN, e_par, e_kPar, e_ret, e_kRet, e_drop, e_kDrop, e_if, e_kIfT, e_kIfF, e_raise, e_for, e_kFor, e_itA, e_kItA, e_itR1, e_itR2, e_kP, e_pileSet, e_kP0, e_app', e_kA0, e_kApp', e_kA1, for_nil, e_kLoopN, e_kLoopC, e_kLoopB, e_kLoopR, e_kWhN, e_kWhC, e_kWhB, e_kWhR, e_oLc, e_yes, e_bok, e_bexc, e_bsok, e_bsexc, e_ofs, e_obs, e_oms, out_rt, out_nx, List.set_cons_zero, List.set_cons_succ, List.getElem?_cons_zero, List.getElem?_cons_succ, List.map_cons, List.map_nil, List.length_cons, List.length_nil, List.cons_append, List.nil_append, look_word hw, look_root hw, look_word ho, look_root ho, shared hw ho hl]

/-! ### as the law finds it -/
def ltTest : TM := (mAnd (mTest (mBin dLt (mVar 2) (mC (.int 200)))) (mTest (mBin dEqv (mIxV 3 (mVar 2)) (mIxV 4 (mVar 2)))))
def ltBody : SM := (mSet 2 (good (oBin dAdd (mVar 2) (mC (.int 1)))))
theorem b_lt_eq : b__law_together = (mSeq (mIfS (mTest (mBin dEqv (eF (oCall m__law_root_of (aCons (mVar 0) aNil))) (eF (oCall m__law_root_of (aCons (mVar 1) aNil))))) (mRet (oV (mC .non))) mNext)
  (mSeq (mSet 2 (good (oV (mC (.int 0)))))
  (mSeq (mPar 3 4 (aCons (eF (oCall m__law_begin (aCons (mVar 0) (aCons (mC (.int 200)) aNil)))) (aCons (eF (oCall m__law_begin (aCons (mVar 1) (aCons (mC (.int 200)) aNil)))) aNil)))
  (mSeq (mWhile ltTest ltBody fuel)
  (mRet (oVar 2)))))) := rfl
theorem lt_loop {w o : List Nat} {a b : SV} {n : Int} {j : Nat} (hw : Wd w) (ho : Wd o) (hj : j < 200) (hd : inf w j ≠ inf o j) (hs : ∀ i, i < j → inf w i = inf o i) : ∀ (d i f : Nat), i + d = j → d < f →
    mWhile ltTest ltBody f ⟨[a, b, .val (.int (i : Int)), .val (.str (beg w 200)), .val (.str (beg o 200))], n⟩ = .nx ⟨[a, b, .val (.int (j : Int)), .val (.str (beg w 200)), .val (.str (beg o 200))], n⟩
  | d, i, 0, e, h => by omega
  | d, i, f + 1, e, h => by
    have hi : i < 200 := by omega
    have e0 : dLt (.int (i : Int)) (.int 200) = some (.bl true) := by
      have := d_lt (a := i) (b := 200)
      rw [decide_eq_true hi] at this
      exact this
    have e1 := eqv_str (ok1 hw i) (ok1 ho i)
    have e2 : decide ([inf w i] = [inf o i]) = decide (inf w i = inf o i) := by
      by_cases q : inf w i = inf o i <;> simp [q]
    have et : ltTest ⟨[a, b, .val (.int (i : Int)), .val (.str (beg w 200)), .val (.str (beg o 200))], n⟩ = .ok (decide (inf w i = inf o i)) ⟨[a, b, .val (.int (i : Int)), .val (.str (beg w 200)), .val (.str (beg o 200))], n⟩ := by
      unfold ltTest
      simp only [e_var, e_kVarV, e_kVarO, e_oVar, e_kVoV, e_kVoO, eC, e_bin, e_kBin, e_kBin2, e_oBin, e_kOBin, e_kOBin2, e_good1v, e_good1o, e_test, e_kTest, e_and, e_or, e_not, e_kAndT, e_kAndF, e_kOrT, e_kOrF, e_kNot, e_eand, e_eor, e_enot, e_kEAndT, e_kEAndF, e_kEOrT, e_kEOrF, e_kENot, e_ifE, e_kIfET, e_kIfEF, e_oV, e_kOV, e_eF, e_frzv, e_frzo, e_neg, e_kNeg, e_nil, e_cons, e_kCons, e_kCons2, e_oB1, e_kB1, e_b1V, e_kB1V, e_kGetV, e_kGetO, e_oBn, e_kBn, e_ixV, e_kIxV, e_ixAt, e_kAtS, e_kAtL, e_kAtT, e_kAtK, e_kAtP, e_pSome, e_kSome, e_pNone, e_oSl, e_kSl, e_kSl2, e_kSl3, e_oLst, e_kOL, e_tup, e_kTup, e_call, e_res, e_kResV, e_kResO, e_kResX, e_cP, e_kCP, e_cQ, e_kCQ, e_outRV, e_outRO, e_seq, e_kSeqN, e_kSeqR, e_kSeqB, e_kSeqC, e_kSeqX, e_next, e_set, e_kSet, e_good, e_kGoodV, e_kGoodO, e_kGoodX, e_asg, e_kAsg, e_rsof, e_gN, e_par, e_kPar, e_ret, e_kRet, e_drop, e_kDrop, e_if, e_kIfT, e_kIfF, e_raise, e_for, e_kFor, e_itA, e_kItA, e_itR1, e_itR2, e_kP, e_pileSet, e_kP0, e_app', e_kA0, e_kApp', e_kA1, for_nil, e_kLoopN, e_kLoopC, e_kLoopB, e_kLoopR, e_kWhN, e_kWhC, e_kWhB, e_kWhR, e_oLc, e_yes, e_bok, e_bexc, e_bsok, e_bsexc, e_ofs, e_obs, e_oms, out_rt, out_nx, List.set_cons_zero, List.set_cons_succ, List.getElem?_cons_zero, List.getElem?_cons_succ, List.map_cons, List.map_nil, List.length_cons, List.length_nil, List.cons_append, List.nil_append, e0, d_ix (show 200 ≤ 1000000 by omega) hi, e1, e2]
    cases d with
    | zero =>
      have : i = j := by omega
      subst this
      rw [wh_f (by rw [et, decide_eq_false hd])]
    | succ d =>
      have eb : ltBody ⟨[a, b, .val (.int (i : Int)), .val (.str (beg w 200)), .val (.str (beg o 200))], n⟩ = .nx ⟨[a, b, .val (.int ((i + 1 : Nat) : Int)), .val (.str (beg w 200)), .val (.str (beg o 200))], n⟩ := by
        unfold ltBody
        simp only [e_var, e_kVarV, e_kVarO, e_oVar, e_kVoV, e_kVoO, eC, e_bin, e_kBin, e_kBin2, e_oBin, e_kOBin, e_kOBin2, e_good1v, e_good1o, e_test, e_kTest, e_and, e_or, e_not, e_kAndT, e_kAndF, e_kOrT, e_kOrF, e_kNot, e_eand, e_eor, e_enot, e_kEAndT, e_kEAndF, e_kEOrT, e_kEOrF, e_kENot, e_ifE, e_kIfET, e_kIfEF, e_oV, e_kOV, e_eF, e_frzv, e_frzo, e_neg, e_kNeg, e_nil, e_cons, e_kCons, e_kCons2, e_oB1, e_kB1, e_b1V, e_kB1V, e_kGetV, e_kGetO, e_oBn, e_kBn, e_ixV, e_kIxV, e_ixAt, e_kAtS, e_kAtL, e_kAtT, e_kAtK, e_kAtP, e_pSome, e_kSome, e_pNone, e_oSl, e_kSl, e_kSl2, e_kSl3, e_oLst, e_kOL, e_tup, e_kTup, e_call, e_res, e_kResV, e_kResO, e_kResX, e_cP, e_kCP, e_cQ, e_kCQ, e_outRV, e_outRO, e_seq, e_kSeqN, e_kSeqR, e_kSeqB, e_kSeqC, e_kSeqX, e_next, e_set, e_kSet, e_good, e_kGoodV, e_kGoodO, e_kGoodX, e_asg, e_kAsg, e_rsof, e_gN, e_par, e_kPar, e_ret, e_kRet, e_drop, e_kDrop, e_if, e_kIfT, e_kIfF, e_raise, e_for, e_kFor, e_itA, e_kItA, e_itR1, e_itR2, e_kP, e_pileSet, e_kP0, e_app', e_kA0, e_kApp', e_kA1, for_nil, e_kLoopN, e_kLoopC, e_kLoopB, e_kLoopR, e_kWhN, e_kWhC, e_kWhB, e_kWhR, e_oLc, e_yes, e_bok, e_bexc, e_bsok, e_bsexc, e_ofs, e_obs, e_oms, out_rt, out_nx, List.set_cons_zero, List.set_cons_succ, List.getElem?_cons_zero, List.getElem?_cons_succ, List.map_cons, List.map_nil, List.length_cons, List.length_nil, List.cons_append, List.nil_append, d_add1]
      rw [wh_t (by rw [et, decide_eq_true (hs i (by omega))]), eb, e_kWhN]
      exact lt_loop hw ho hj hd hs d (i + 1) f (by omega) (by omega)
/-- two words share as much as their letters say -/
theorem sh_some {w o : List Nat} (hw : w ≠ []) (ho : o ≠ []) (h : rootW w ≠ rootW o) : ∃ j, sh w o = some j ∧ j < (rootW w).length + (rootW o).length ∧ inf w j ≠ inf o j ∧ ∀ i, i < j → inf w i = inf o i := by
  have hl := root_len hw
  have hl' := root_len ho
  cases q : sh w o with
  | none =>
    rw [sh_scan] at q
    have := scan_none q
    exact absurd (root_of_inf hw ho fun i hi => by
      have h1 := this i (by omega) (by omega)
      have h2 := of_decide_eq_false h1
      exact Classical.not_not.mp h2) h
  | some j =>
    rw [sh_scan] at q
    obtain ⟨h1, h2, h3, h4⟩ := scan_some q
    have h4' : ∀ i, i < j → inf w i = inf o i := fun i hi => Classical.not_not.mp (of_decide_eq_false (h4 i (by omega) hi))
    refine ⟨j, rfl, ?_, of_decide_eq_true h3, h4'⟩
    apply Nat.lt_of_not_le
    intro hle
    exact h (root_of_inf hw ho fun i hi => h4' i (by omega))
theorem sh_none {w o : List Nat} (hw : w ≠ []) (ho : o ≠ []) (h : rootW w = rootW o) : sh w o = none := by
  cases q : sh w o with
  | none => rfl
  | some j =>
    rw [sh_scan] at q
    obtain ⟨h1, h2, h3, h4⟩ := scan_some q
    exact absurd (inf_of_root hw ho h j) (of_decide_eq_true h3)
theorem sh_comm {w o : List Nat} : sh w o = sh o w := by
  rw [sh_scan, sh_scan, Nat.add_comm w.length]
  congr 1
  funext i
  exact decide_eq_decide.mpr ⟨fun q z => q z.symm, fun q z => q z.symm⟩
theorem root_inL {w : List Nat} (h : Wd w) : Wd (rootW w) := by
  obtain ⟨k, _, kl, e, _⟩ := rootW_spec h.n
  have hs := h.s
  exact ⟨by rw [e]; exact inL_take h.l, rootW_ne h.n, Nat.le_trans (root_len h.n) hs⟩
theorem law_together {w o : List Nat} {n : Int} (hw : Wd w) (ho : Wd o) (hl : w.length + o.length ≤ 200) : m__law_together [.str w, .str o] n = .ok (.val (shD (sh w o))) n := by
  have e1 := eqv_str (okS_of (root_inL hw).l) (okS_of (root_inL ho).l)
  unfold m__law_together
  refine (mk_ev (by rfl)).trans ?_
  show outF (b__law_together ⟨[.val (.str w), .val (.str o), .no, .no, .no], n⟩) = _
  rw [b_lt_eq]
  by_cases q : rootW w = rootW o
  · rw [sh_none hw.n ho.n q]
    simp only [e_var, e_kVarV, e_kVarO, e_oVar, e_kVoV, e_kVoO, eC, e_bin, e_kBin, e_kBin2, e_oBin, e_kOBin, e_kOBin2, e_good1v, e_good1o, e_test, e_kTest, e_and, e_or, e_not, e_kAndT, e_kAndF, e_kOrT, e_kOrF, e_kNot, e_eand, e_eor, e_enot, e_kEAndT, e_kEAndF, e_kEOrT, e_kEOrF, e_kENot, e_ifE, e_kIfET, e_kIfEF, e_oV, e_kOV, e_eF, e_frzv, e_frzo, e_neg, e_kNeg, e_nil, e_cons, e_kCons, e_kCons2, e_oB1, e_kB1, e_b1V, e_kB1V, e_kGetV, e_kGetO, e_oBn, e_kBn, e_ixV, e_kIxV, e_ixAt, e_kAtS, e_kAtL, e_kAtT, e_kAtK, e_kAtP, e_pSome, e_kSome, e_pNone, e_oSl, e_kSl, e_kSl2, e_kSl3, e_oLst, e_kOL, e_tup, e_kTup, e_call, e_res, e_kResV, e_kResO, e_kResX, e_cP, e_kCP, e_cQ, e_kCQ, e_outRV, e_outRO, e_seq, e_kSeqN, e_kSeqR, e_kSeqB, e_kSeqC, e_kSeqX, e_next, e_set, e_kSet, e_good, e_kGoodV, e_kGoodO, e_kGoodX, e_asg, e_kAsg, e_rsof, e_gN, e_par, e_kPar, e_ret, e_kRet, e_drop, e_kDrop, e_if, e_kIfT, e_kIfF, e_raise, e_for, e_kFor, e_itA, e_kItA, e_itR1, e_itR2, e_kP, e_pileSet, e_kP0, e_app', e_kA0, e_kApp', e_kA1, for_nil, e_kLoopN, e_kLoopC, e_kLoopB, e_kLoopR, e_kWhN, e_kWhC, e_kWhB, e_kWhR, e_oLc, e_yes, e_bok, e_bexc, e_bsok, e_bsexc, e_ofs, e_obs, e_oms, out_rt, out_nx, List.set_cons_zero, List.set_cons_succ, List.getElem?_cons_zero, List.getElem?_cons_succ, List.map_cons, List.map_nil, List.length_cons, List.length_nil, List.cons_append, List.nil_append, law_root_of hw, law_root_of ho, e1, decide_eq_true q, shD]
  · obtain ⟨j, h1, h2, h3, h4⟩ := sh_some hw.n ho.n q
    have hl1 := root_len hw.n
    have hl2 := root_len ho.n
    have lp := lt_loop (a := .val (.str w)) (b := .val (.str o)) (n := n) hw ho (show j < 200 by omega) h3 h4 j 0 fuel (by omega) (by show j < 1000000; omega)
    have lp' : mWhile ltTest ltBody fuel ⟨[.val (.str w), .val (.str o), .val (.int 0), .val (.str (beg w 200)), .val (.str (beg o 200))], n⟩ = _ := lp
    have b1 : m__law_begin [.str w, .int 200] n = .ok (.val (.str (beg w 200))) n := law_begin (k := 200) hw (by omega)
    have b2 : m__law_begin [.str o, .int 200] n = .ok (.val (.str (beg o 200))) n := law_begin (k := 200) ho (by omega)
    rw [h1]
    simp only [e_var, e_kVarV, e_kVarO, e_oVar, e_kVoV, e_kVoO, eC, e_bin, e_kBin, e_kBin2, e_oBin, e_kOBin, e_kOBin2, e_good1v, e_good1o, e_test, e_kTest, e_and, e_or, e_not, e_kAndT, e_kAndF, e_kOrT, e_kOrF, e_kNot, e_eand, e_eor, e_enot, e_kEAndT, e_kEAndF, e_kEOrT, e_kEOrF, e_kENot, e_ifE, e_kIfET, e_kIfEF, e_oV, e_kOV, e_eF, e_frzv, e_frzo, e_neg, e_kNeg, e_nil, e_cons, e_kCons, e_kCons2, e_oB1, e_kB1, e_b1V, e_kB1V, e_kGetV, e_kGetO, e_oBn, e_kBn, e_ixV, e_kIxV, e_ixAt, e_kAtS, e_kAtL, e_kAtT, e_kAtK, e_kAtP, e_pSome, e_kSome, e_pNone, e_oSl, e_kSl, e_kSl2, e_kSl3, e_oLst, e_kOL, e_tup, e_kTup, e_call, e_res, e_kResV, e_kResO, e_kResX, e_cP, e_kCP, e_cQ, e_kCQ, e_outRV, e_outRO, e_seq, e_kSeqN, e_kSeqR, e_kSeqB, e_kSeqC, e_kSeqX, e_next, e_set, e_kSet, e_good, e_kGoodV, e_kGoodO, e_kGoodX, e_asg, e_kAsg, e_rsof, e_gN, e_par, e_kPar, e_ret, e_kRet, e_drop, e_kDrop, e_if, e_kIfT, e_kIfF, e_raise, e_for, e_kFor, e_itA, e_kItA, e_itR1, e_itR2, e_kP, e_pileSet, e_kP0, e_app', e_kA0, e_kApp', e_kA1, for_nil, e_kLoopN, e_kLoopC, e_kLoopB, e_kLoopR, e_kWhN, e_kWhC, e_kWhB, e_kWhR, e_oLc, e_yes, e_bok, e_bexc, e_bsok, e_bsexc, e_ofs, e_obs, e_oms, out_rt, out_nx, List.set_cons_zero, List.set_cons_succ, List.getElem?_cons_zero, List.getElem?_cons_succ, List.map_cons, List.map_nil, List.length_cons, List.length_nil, List.cons_append, List.nil_append, law_root_of hw, law_root_of ho, e1, decide_eq_false q, b1, b2, lp', shD]
end Pd

/-! the plain law of k01: a good pair -/
namespace Pd
open PySem L2

theorem nev_self {a : List Nat} (h : okS a = true) : dNev (.str a) (.str a) = some (.bl false) := by
  rw [nev_str h h]
  simp
theorem nev_sh {x : Option Nat} : dNev (shD x) (shD x) = some (.bl false) := by
  cases x with
  | none => rfl
  | some j =>
    show dNev (.int _) (.int _) = _
    rw [nev_int]
    simp
theorem repr_small : ∀ j : Nat, j < 256 → ((j : Int).natAbs.log2 < 1920) ∧ okS (codes (toString (j : Int) : String)) = true := by decide +kernel
theorem repr_sh {x : Option Nat} (h : ∀ j, x = some j → j < 256) : ∃ r, okS r = true ∧ dRepr (shD x) = some (.val (.str r)) := by
  cases x with
  | none => exact ⟨codes "None", by decide, rfl⟩
  | some j =>
    obtain ⟨h1, h2⟩ := repr_small j (h j rfl)
    exact ⟨_, h2, if_pos h1⟩
theorem beg_okS {w : List Nat} (h : Wd w) (k : Nat) : okS (beg w k) = true := okS_of (inL_beg h.l h.n k)
theorem beg_root {w : List Nat} (h : Wd w) (k : Nat) : beg (rootW w) k = beg w k := beg_congr fun i _ => inf_root h.n i
def gdBody : SM := (mIfS (mOr (mTest (mBin dNev (eF (oCall m_begin (aCons (mVar 0) (aCons (mVar 3) aNil)))) (eF (oCall m__law_begin (aCons (mVar 0) (aCons (mVar 3) aNil)))))) (mTest (mBin dNev (eF (oCall m_begin (aCons (mVar 2) (aCons (mVar 3) aNil)))) (eF (oCall m__law_begin (aCons (mVar 0) (aCons (mVar 3) aNil))))))) (mRet (oV (mC (.bl false)))) mNext)
theorem gd_body {w : List Nat} {o e : SV} {k : Nat} {n : Int} (h : Wd w) (hk : k ≤ 1000) : gdBody ⟨[.val (.str w), o, .val (.str (rootW w)), .val (.int (k : Int)), e], n⟩ = .nx ⟨[.val (.str w), o, .val (.str (rootW w)), .val (.int (k : Int)), e], n⟩ := by
  unfold gdBody
  simp only [e_var, e_kVarV, e_kVarO, e_oVar, e_kVoV, e_kVoO, eC, e_bin, e_kBin, e_kBin2, e_oBin, e_kOBin, e_kOBin2, e_good1v, e_good1o, e_test, e_kTest, e_and, e_or, e_not, e_kAndT, e_kAndF, e_kOrT, e_kOrF, e_kNot, e_eand, e_eor, e_enot, e_kEAndT, e_kEAndF, e_kEOrT, e_kEOrF, e_kENot, e_ifE, e_kIfET, e_kIfEF, e_oV, e_kOV, e_eF, e_frzv, e_frzo, e_neg, e_kNeg, e_nil, e_cons, e_kCons, e_kCons2, e_oB1, e_kB1, e_b1V, e_kB1V, e_kGetV, e_kGetO, e_oBn, e_kBn, e_ixV, e_kIxV, e_ixAt, e_kAtS, e_kAtL, e_kAtT, e_kAtK, e_kAtP, e_pSome, e_kSome, e_pNone, e_oSl, e_kSl, e_kSl2, e_kSl3, e_oLst, e_kOL, e_tup, e_kTup, e_call, e_res, e_kResV, e_kResO, e_kResX, e_cP, e_kCP, e_cQ, e_kCQ, e_outRV, e_outRO, e_seq, e_kSeqN, e_kSeqR, e_kSeqB, e_kSeqC, e_kSeqX, e_next, e_set, e_kSet, e_good, e_kGoodV, e_kGoodO, e_kGoodX, e_asg, e_kAsg, e_rsof, e_gN, e_par, e_kPar, e_ret, e_kRet, e_drop, e_kDrop, e_if, e_kIfT, e_kIfF, e_raise, e_for, e_kFor, e_itA, e_kItA, e_itR1, e_itR2, e_kP, e_pileSet, e_kP0, e_app', e_kA0, e_kApp', e_kA1, for_nil, e_kLoopN, e_kLoopC, e_kLoopB, e_kLoopR, e_kWhN, e_kWhC, e_kWhB, e_kWhR, e_oLc, e_yes, e_bok, e_bexc, e_bsok, e_bsexc, e_ofs, e_obs, e_oms, out_rt, out_nx, List.set_cons_zero, List.set_cons_succ, List.getElem?_cons_zero, List.getElem?_cons_succ, List.map_cons, List.map_nil, List.length_cons, List.length_nil, List.cons_append, List.nil_append, Nat.reduceAdd, Nat.reduceLeDiff, Nat.zero_add, Nat.reduceLT, begin_ h (show k ≤ 100000 by omega), begin_ (root_inL h) (show k ≤ 100000 by omega), law_begin h (show k ≤ 100000 by omega), beg_root h, nev_self (beg_okS h k)]
theorem gd_loop {w : List Nat} {o e : SV} {n : Int} (h : Wd w) : ∀ (ks : List Nat) (x : SV), (∀ k ∈ ks, k ≤ 1000) → ∃ y, forLoop (gN 3) gdBody (ks.map fun (k : Nat) => D.int (k : Int)) ⟨[.val (.str w), o, .val (.str (rootW w)), x, e], n⟩ = .nx ⟨[.val (.str w), o, .val (.str (rootW w)), y, e], n⟩
  | [], x, _ => ⟨x, rfl⟩
  | k :: r, x, hk => by
    rw [List.map_cons, for_cons rfl]
    simp only [List.set_cons_succ, List.set_cons_zero, gd_body h (hk k (List.mem_cons_self ..)), e_kLoopN]
    exact gd_loop h r _ fun k hk' => hk k (List.mem_cons_of_mem _ hk')
theorem b_good_eq : b__law_good = (mSeq (mSet 2 (good (oCall m_root (aCons (mVar 0) aNil))))
  (mSeq (mIfS (mOr (mTest (mBin dNev (mVar 2) (eF (oCall m__law_root_of (aCons (mVar 0) aNil))))) (mOr (mTest (mBin dNev (eF (oCall m_root (aCons (mVar 2) aNil))) (mVar 2))) (mTest (mBin dNev (eF (oCall m_root (aCons (eF (oBin dAdd (mVar 0) (mVar 0))) aNil))) (mVar 2))))) (mRet (oV (mC (.bl false)))) mNext)
  (mSeq (mFor (itA (eF (oLst (aCons (mC (.int 0)) (aCons (mC (.int 1)) (aCons (mBin dSub (eF (oB1V dLen 0)) (mC (.int 1))) (aCons (eF (oB1V dLen 0)) (aCons (eF (oBin dAdd (eF (oB1V dLen 0)) (mC (.int 1)))) (aCons (eF (oBin dAdd (eF (oBin dMul (mC (.int 3)) (eF (oB1V dLen 0)))) (mC (.int 2)))) (aCons (mC (.int 80)) aNil)))))))))) (gN 3) gdBody)
  (mSeq (mSet 4 (good (oCall m_together (aCons (mVar 0) (aCons (mVar 1) aNil)))))
  (mSeq (mIfS (mOr (mTest (mBin dNev (eF (oB1V dRepr 4)) (eF (oB1 dRepr (eF (oCall m__law_together (aCons (mVar 0) (aCons (mVar 1) aNil)))))))) (mTest (mBin dNev (eF (oCall m_together (aCons (mVar 1) (aCons (mVar 0) aNil)))) (mVar 4)))) (mRet (oV (mC (.bl false)))) mNext)
  (mRet (oV (eOr (mBin (dIsN false) (mVar 4) (mC .non)) (mBin dLt (mVar 4) (eF (oBin dAdd (eF (oB1V dLen 2)) (eF (oB1 dLen (eF (oCall m__law_root_of (aCons (mVar 1) aNil)))))))))))))))) := rfl
theorem wd_app {w v : List Nat} (h : Wd w) (h' : Wd v) (hl : w.length + v.length ≤ 100000) : Wd (w ++ v) := ⟨inL_app h.l h'.l, by intro z; exact h.n (List.append_eq_nil_iff.mp z).1, by rw [List.length_append]; exact hl⟩
theorem root_two {w : List Nat} (h : w ≠ []) : rootW (w ++ w) = rootW w := by
  have := root_rep h (k := 2) (by omega)
  rwa [show repS 2 w = w ++ w by rw [repS_succ, repS_one]] at this
theorem root_self {w : List Nat} (h : w ≠ []) : rootW (rootW w) = rootW w := prim_root (rootW_prim h)
theorem d_sub1 {w : List Nat} (h : w ≠ []) : dSub (.int (w.length : Int)) (.int 1) = some (.int ((w.length - 1 : Nat) : Int)) := by
  have : 0 < w.length := List.length_pos_iff.mpr h
  show some (D.int ((w.length : Int) - 1)) = _
  rw [show (w.length : Int) - 1 = ((w.length - 1 : Nat) : Int) by omega]
def nxt (w o : List Nat) : Prop := rootW w ≠ rootW o → ∃ j, sh w o = some j ∧ j < (rootW w).length + (rootW o).length
theorem good_ {w o : List Nat} {n : Int} (hw : Wd w) (ho : Wd o) (h1 : w.length ≤ 100) (h2 : o.length ≤ 100) : m__law_good [.str w, .str o] n = .ok (.val (.bl true)) n := by
  have r0 := root_inL hw
  have r1 := root_inL ho
  have k0 := root_len hw.n
  have k1 := root_len ho.n
  have e1 : rootW (rootW w) = rootW w := root_self hw.n
  have e2 : rootW (w ++ w) = rootW w := root_two hw.n
  have hww : Wd (w ++ w) := wd_app hw hw (by omega)
  have e3 : dMul (.int 3) (.int (w.length : Int)) = some (.val (.int ((3 * w.length : Nat) : Int))) := by
    have h0 : dMul (.int 3) (.int (w.length : Int)) = some (.val (.int (3 * (w.length : Int)))) := if_pos (by
      have : (3 : Int).natAbs.log2 + (w.length : Int).natAbs.log2 = 1 + w.length.log2 := rfl
      rw [this]
      have := Nat.log2_le_self w.length
      omega)
    rw [h0]
    rfl
  have e4 : dAdd (.int ((3 * w.length : Nat) : Int)) (.int 2) = some (.val (.int ((3 * w.length + 2 : Nat) : Int))) := d_add (b := 2)
  obtain ⟨y, lp⟩ := gd_loop (o := .val (.str o)) (e := .no) (n := n) hw [0, 1, w.length - 1, w.length, w.length + 1, 3 * w.length + 2, 80] .no (by
    intro k hk
    simp only [List.mem_cons, List.not_mem_nil, or_false] at hk
    omega)
  have lp' : forLoop (gN 3) gdBody [.int 0, .int 1, .int ((w.length - 1 : Nat) : Int), .int (w.length : Int), .int ((w.length + 1 : Nat) : Int), .int ((3 * w.length + 2 : Nat) : Int), .int 80] ⟨[.val (.str w), .val (.str o), .val (.str (rootW w)), .no, .no], n⟩ = _ := lp
  have hs : ∀ j, sh w o = some j → j < 256 := fun j hj => by
    rw [sh_scan] at hj
    have := (scan_some hj).2.1
    omega
  obtain ⟨r, hr, er⟩ := repr_sh hs
  have e5 : sh o w = sh w o := sh_comm
  unfold m__law_good
  refine (mk_ev (by rfl)).trans ?_
  show outF (b__law_good ⟨[.val (.str w), .val (.str o), .no, .no, .no], n⟩) = _
  rw [b_good_eq]
  have e6 : w.length + o.length ≤ 100000 := by omega
  have e7 : o.length + w.length ≤ 100000 := by omega
  have nx : nxt w o := by
    intro q
    obtain ⟨j, j1, j2, _⟩ := sh_some hw.n ho.n q
    exact ⟨j, j1, j2⟩
  cases qx : sh w o with
  | none =>
    rw [qx] at e5 er
    have e8 : dIsN false (shD none) .non = some (.bl true) := rfl
    simp only [e_var, e_kVarV, e_kVarO, e_oVar, e_kVoV, e_kVoO, eC, e_bin, e_kBin, e_kBin2, e_oBin, e_kOBin, e_kOBin2, e_good1v, e_good1o, e_test, e_kTest, e_and, e_or, e_not, e_kAndT, e_kAndF, e_kOrT, e_kOrF, e_kNot, e_eand, e_eor, e_enot, e_kEAndT, e_kEAndF, e_kEOrT, e_kEOrF, e_kENot, e_ifE, e_kIfET, e_kIfEF, e_oV, e_kOV, e_eF, e_frzv, e_frzo, e_neg, e_kNeg, e_nil, e_cons, e_kCons, e_kCons2, e_oB1, e_kB1, e_b1V, e_kB1V, e_kGetV, e_kGetO, e_oBn, e_kBn, e_ixV, e_kIxV, e_ixAt, e_kAtS, e_kAtL, e_kAtT, e_kAtK, e_kAtP, e_pSome, e_kSome, e_pNone, e_oSl, e_kSl, e_kSl2, e_kSl3, e_oLst, e_kOL, e_tup, e_kTup, e_call, e_res, e_kResV, e_kResO, e_kResX, e_cP, e_kCP, e_cQ, e_kCQ, e_outRV, e_outRO, e_seq, e_kSeqN, e_kSeqR, e_kSeqB, e_kSeqC, e_kSeqX, e_next, e_set, e_kSet, e_good, e_kGoodV, e_kGoodO, e_kGoodX, e_asg, e_kAsg, e_rsof, e_gN, e_par, e_kPar, e_ret, e_kRet, e_drop, e_kDrop, e_if, e_kIfT, e_kIfF, e_raise, e_for, e_kFor, e_itA, e_kItA, e_itR1, e_itR2, e_kP, e_pileSet, e_kP0, e_app', e_kA0, e_kApp', e_kA1, for_nil, e_kLoopN, e_kLoopC, e_kLoopB, e_kLoopR, e_kWhN, e_kWhC, e_kWhB, e_kWhR, e_oLc, e_yes, e_bok, e_bexc, e_bsok, e_bsexc, e_ofs, e_obs, e_oms, out_rt, out_nx, List.set_cons_zero, List.set_cons_succ, List.getElem?_cons_zero, List.getElem?_cons_succ, List.map_cons, List.map_nil, List.length_cons, List.length_nil, List.cons_append, List.nil_append, Nat.reduceAdd, Nat.reduceLeDiff, Nat.zero_add, Nat.reduceLT, root hw, root hww, root r0, law_root_of hw, law_root_of ho, e1, e2, nev_self (okS_of r0.l), d_len hw.s, d_len r0.s, d_len r1.s, d_sub1 hw.n, d_add1, e3, e4, items, lp', together hw ho e6, together ho hw e7, law_together hw ho (show w.length + o.length ≤ 200 by omega), er, e5, nev_self hr, nev_sh, d_adds (show w.length + w.length ≤ 1000000 by omega), e8, qx]
  | some j =>
    rw [qx] at e5 er
    have hj : j < (rootW w).length + (rootW o).length := by
      by_cases q : rootW w = rootW o
      · rw [sh_none hw.n ho.n q] at qx; cases qx
      · obtain ⟨j', j1, j2⟩ := nx q
        rw [qx] at j1; cases j1; exact j2
    have e8 : dIsN false (shD (some j)) .non = some (.bl false) := rfl
    have e9 : dLt (shD (some j)) (.int (((rootW w).length + (rootW o).length : Nat) : Int)) = some (.bl true) := by
      have := d_lt (a := j) (b := (rootW w).length + (rootW o).length)
      rw [decide_eq_true hj] at this
      exact this
    simp only [e_var, e_kVarV, e_kVarO, e_oVar, e_kVoV, e_kVoO, eC, e_bin, e_kBin, e_kBin2, e_oBin, e_kOBin, e_kOBin2, e_good1v, e_good1o, e_test, e_kTest, e_and, e_or, e_not, e_kAndT, e_kAndF, e_kOrT, e_kOrF, e_kNot, e_eand, e_eor, e_enot, e_kEAndT, e_kEAndF, e_kEOrT, e_kEOrF, e_kENot, e_ifE, e_kIfET, e_kIfEF, e_oV, e_kOV, e_eF, e_frzv, e_frzo, e_neg, e_kNeg, e_nil, e_cons, e_kCons, e_kCons2, e_oB1, e_kB1, e_b1V, e_kB1V, e_kGetV, e_kGetO, e_oBn, e_kBn, e_ixV, e_kIxV, e_ixAt, e_kAtS, e_kAtL, e_kAtT, e_kAtK, e_kAtP, e_pSome, e_kSome, e_pNone, e_oSl, e_kSl, e_kSl2, e_kSl3, e_oLst, e_kOL, e_tup, e_kTup, e_call, e_res, e_kResV, e_kResO, e_kResX, e_cP, e_kCP, e_cQ, e_kCQ, e_outRV, e_outRO, e_seq, e_kSeqN, e_kSeqR, e_kSeqB, e_kSeqC, e_kSeqX, e_next, e_set, e_kSet, e_good, e_kGoodV, e_kGoodO, e_kGoodX, e_asg, e_kAsg, e_rsof, e_gN, e_par, e_kPar, e_ret, e_kRet, e_drop, e_kDrop, e_if, e_kIfT, e_kIfF, e_raise, e_for, e_kFor, e_itA, e_kItA, e_itR1, e_itR2, e_kP, e_pileSet, e_kP0, e_app', e_kA0, e_kApp', e_kA1, for_nil, e_kLoopN, e_kLoopC, e_kLoopB, e_kLoopR, e_kWhN, e_kWhC, e_kWhB, e_kWhR, e_oLc, e_yes, e_bok, e_bexc, e_bsok, e_bsexc, e_ofs, e_obs, e_oms, out_rt, out_nx, List.set_cons_zero, List.set_cons_succ, List.getElem?_cons_zero, List.getElem?_cons_succ, List.map_cons, List.map_nil, List.length_cons, List.length_nil, List.cons_append, List.nil_append, Nat.reduceAdd, Nat.reduceLeDiff, Nat.zero_add, Nat.reduceLT, root hw, root hww, root r0, law_root_of hw, law_root_of ho, e1, e2, nev_self (okS_of r0.l), d_len hw.s, d_len r0.s, d_len r1.s, d_sub1 hw.n, d_add1, d_add, e3, e4, items, lp', together hw ho e6, together ho hw e7, law_together hw ho (show w.length + o.length ≤ 200 by omega), er, e5, nev_self hr, nev_sh, d_adds (show w.length + w.length ≤ 1000000 by omega), e8, e9, qx]
end Pd

/-! the plain law of k01: what is drawn -/
namespace Pd
open PySem L2

theorem log_le {n k : Nat} (h : n < 2 ^ k) : n.log2 ≤ k := by
  by_cases hn : n = 0
  · subst hn; simp
  · exact Nat.le_of_lt ((Nat.log2_lt hn).mpr h)
theorem i_mul {i j : Int} (hi : i.natAbs < 2 ^ 1000) (hj : j.natAbs < 2 ^ 1000) : dMul (.int i) (.int j) = some (.val (.int (i * j))) := by
  have h1 := log_le hi
  have h2 := log_le hj
  exact if_pos (by omega)
theorem i_mod {i j : Int} (h : 0 < j) : dMod (.int i) (.int j) = some (.int (i % j)) := if_pos (decide_eq_true h)
theorem i_div {i j : Int} (h : 0 < j) (h' : j < 1073741824) : dDiv (.int i) (.int j) = some (.int (i / j)) := if_pos (decide_eq_true ⟨h, h'⟩)
theorem i_add {i j : Int} : dAdd (.int i) (.int j) = some (.val (.int (i + j))) := rfl
theorem i_sub {i j : Int} : dSub (.int i) (.int j) = some (.int (i - j)) := rfl
theorem i_int {i : Int} : dInt (.int i) = some (.val (.int i)) := rfl
theorem i_lt {i j : Int} : dLt (.int i) (.int j) = some (.bl (decide (i < j))) := rfl
theorem i_ge {i j : Int} : dGe (.int i) (.int j) = some (.bl (decide (j ≤ i))) := rfl
theorem sm {x : Int} {b : Int} (h : 0 ≤ x) (h' : x < b) (hb : b ≤ 2 ^ 900) : x.natAbs < 2 ^ 1000 := by
  have : (2 : Int) ^ 900 = ((2 ^ 900 : Nat) : Int) := by norm_cast
  have h3 : (2 : Nat) ^ 900 < 2 ^ 1000 := by decide +kernel
  omega
def mx1 (a k : Int) : Int := ((a % 2147483647) * 48271 + k * 69621 + 1048583) % 2147483629
def mx2 (x : Int) : Int := (x * x) % 2147483587
def mx3 (x : Int) : Int := (x * (x + 2)) % 2147483579
theorem nat40 {x : Int} (h : 0 ≤ x) (h' : x < 1099511627776) : x.natAbs < 2 ^ 1000 := by
  have h3 : (1099511627776 : Nat) < 2 ^ 1000 := by decide +kernel
  omega
theorem mixed {a k n : Int} (hk : 0 ≤ k) (hk' : k < 1000000) : ∃ v, 0 ≤ v ∧ v < 2147483579 ∧ m__law_mixed [.int a, .int k] n = .ok (.val (.int v)) n := by
  have b1 : 0 ≤ a % 2147483647 ∧ a % 2147483647 < 2147483647 := ⟨Int.emod_nonneg _ (by decide), Int.emod_lt_of_pos _ (by decide)⟩
  have b2 : 0 ≤ mx1 a k ∧ mx1 a k < 2147483629 := ⟨Int.emod_nonneg _ (by decide), Int.emod_lt_of_pos _ (by decide)⟩
  have b3 : 0 ≤ mx2 (mx1 a k) ∧ mx2 (mx1 a k) < 2147483587 := ⟨Int.emod_nonneg _ (by decide), Int.emod_lt_of_pos _ (by decide)⟩
  have b4 : 0 ≤ mx3 (mx2 (mx1 a k)) ∧ mx3 (mx2 (mx1 a k)) < 2147483579 := ⟨Int.emod_nonneg _ (by decide), Int.emod_lt_of_pos _ (by decide)⟩
  refine ⟨_, b4.1, b4.2, ?_⟩
  have e1 : dMul (.int (a % 2147483647)) (.int 48271) = _ := i_mul (nat40 (by omega) (by omega)) (nat40 (by omega) (by omega))
  have e2 : dMul (.int k) (.int 69621) = _ := i_mul (nat40 (by omega) (by omega)) (nat40 (by omega) (by omega))
  have e3 : dMul (.int (mx1 a k)) (.int (mx1 a k)) = _ := i_mul (nat40 (by omega) (by omega)) (nat40 (by omega) (by omega))
  have e4 : dMul (.int (mx2 (mx1 a k))) (.int (mx2 (mx1 a k) + 2)) = _ := i_mul (nat40 (by omega) (by omega)) (nat40 (by omega) (by omega))
  have f1 : dMod (.int a) (.int 2147483647) = some (.int (a % 2147483647)) := i_mod (by decide)
  have f2 : dMod (.int (a % 2147483647 * 48271 + k * 69621 + 1048583)) (.int 2147483629) = some (.int (mx1 a k)) := i_mod (by decide)
  have f3 : dMod (.int (mx1 a k * mx1 a k)) (.int 2147483587) = some (.int (mx2 (mx1 a k))) := i_mod (by decide)
  have f4 : dMod (.int (mx2 (mx1 a k) * (mx2 (mx1 a k) + 2))) (.int 2147483579) = some (.int (mx3 (mx2 (mx1 a k)))) := i_mod (by decide)
  unfold m__law_mixed
  refine (mk_ev (by rfl)).trans ?_
  show outF (b__law_mixed ⟨[.val (.int a), .val (.int k), .no], n⟩) = _
  unfold b__law_mixed
  simp only [e_var, e_kVarV, e_kVarO, e_oVar, e_kVoV, e_kVoO, eC, e_bin, e_kBin, e_kBin2, e_oBin, e_kOBin, e_kOBin2, e_good1v, e_good1o, e_test, e_kTest, e_and, e_or, e_not, e_kAndT, e_kAndF, e_kOrT, e_kOrF, e_kNot, e_eand, e_eor, e_enot, e_kEAndT, e_kEAndF, e_kEOrT, e_kEOrF, e_kENot, e_ifE, e_kIfET, e_kIfEF, e_oV, e_kOV, e_eF, e_frzv, e_frzo, e_neg, e_kNeg, e_nil, e_cons, e_kCons, e_kCons2, e_oB1, e_kB1, e_b1V, e_kB1V, e_kGetV, e_kGetO, e_oBn, e_kBn, e_ixV, e_kIxV, e_ixAt, e_kAtS, e_kAtL, e_kAtT, e_kAtK, e_kAtP, e_pSome, e_kSome, e_pNone, e_oSl, e_kSl, e_kSl2, e_kSl3, e_oLst, e_kOL, e_tup, e_kTup, e_call, e_res, e_kResV, e_kResO, e_kResX, e_cP, e_kCP, e_cQ, e_kCQ, e_outRV, e_outRO, e_seq, e_kSeqN, e_kSeqR, e_kSeqB, e_kSeqC, e_kSeqX, e_next, e_set, e_kSet, e_good, e_kGoodV, e_kGoodO, e_kGoodX, e_asg, e_kAsg, e_rsof, e_gN, e_par, e_kPar, e_ret, e_kRet, e_drop, e_kDrop, e_if, e_kIfT, e_kIfF, e_raise, e_for, e_kFor, e_itA, e_kItA, e_itR1, e_itR2, e_kP, e_pileSet, e_kP0, e_app', e_kA0, e_kApp', e_kA1, for_nil, e_kLoopN, e_kLoopC, e_kLoopB, e_kLoopR, e_kWhN, e_kWhC, e_kWhB, e_kWhR, e_oLc, e_yes, e_bok, e_bexc, e_bsok, e_bsexc, e_ofs, e_obs, e_oms, out_rt, out_nx, List.set_cons_zero, List.set_cons_succ, List.getElem?_cons_zero, List.getElem?_cons_succ, List.map_cons, List.map_nil, List.length_cons, List.length_nil, List.cons_append, List.nil_append, Nat.reduceAdd, Nat.reduceLeDiff, Nat.zero_add, Nat.reduceLT, i_int, i_add, e1, e2, e3, e4, f1, f2, f3, f4]
theorem ipow {b i j : Nat} (h : i ≤ j) (hb : 0 < b) : (b : Int) ^ i ≤ (b : Int) ^ j := by
  rw [← Int.natCast_pow, ← Int.natCast_pow]
  exact Int.ofNat_le.mpr (Nat.pow_le_pow_right hb h)
def pileBody : SM := (mSet 3 (good (oBin dAdd (eF (oBin dMul (mVar 3) (mC (.int 2147483579)))) (eF (oCall m__law_mixed (aCons (mVar 2) (aCons (eF (oBin dAdd (eF (oBin dAdd (eF (oBin dMul (mC (.int 7)) (mVar 1))) (eF (oBin dMul (mC (.int 100)) (mVar 4))))) (eF (oBin dMul (mVar 4) (mVar 4))))) aNil)))))))
theorem pile_loop {l : D} {t a n : Int} (ht : 0 ≤ t) (ht' : t < 100) : ∀ (m i : Nat) (v : Int) (x : SV), i + m ≤ 25 → 0 ≤ v → v + 1 ≤ 2147483579 ^ i →
    ∃ v' x', forLoop (gN 4) pileBody (dInts (i : Int) m) ⟨[.val l, .val (.int t), .val (.int a), .val (.int v), x], n⟩ = .nx ⟨[.val l, .val (.int t), .val (.int a), .val (.int v'), x'], n⟩
  | 0, i, v, x, hi, h0, h1 => ⟨v, x, rfl⟩
  | m + 1, i, v, x, hi, h0, h1 => by
    rw [dInts_succ, for_cons rfl]
    have hii : (i : Int) * (i : Int) ≤ 25 * 25 := Int.mul_le_mul (by omega) (by omega) (by omega) (by omega)
    have hi0 : 0 ≤ (i : Int) * (i : Int) := Int.mul_nonneg (by omega) (by omega)
    obtain ⟨u, u0, u1, hu⟩ := mixed (a := a) (k := 7 * t + 100 * (i : Int) + (i : Int) * (i : Int)) (n := n) (by omega) (by omega)
    have hp : (2147483579 : Int) ^ i ≤ 2147483579 ^ 25 := ipow (b := 2147483579) (show i ≤ 25 by omega) (by decide)
    have hp2 : (2147483579 : Int) ^ 25 < 2 ^ 900 := by decide +kernel
    have e1 : dMul (.int v) (.int 2147483579) = _ := i_mul (sm h0 (show v < 2147483579 ^ 25 by omega) (by omega)) (nat40 (by decide) (by decide))
    have e2 : dMul (.int 7) (.int t) = _ := i_mul (nat40 (by decide) (by decide)) (nat40 (by omega) (by omega))
    have e3 : dMul (.int 100) (.int (i : Int)) = _ := i_mul (nat40 (by decide) (by decide)) (nat40 (by omega) (by omega))
    have e4 : dMul (.int (i : Int)) (.int (i : Int)) = _ := i_mul (nat40 (by omega) (by omega)) (nat40 (by omega) (by omega))
    have eb : pileBody ⟨[.val l, .val (.int t), .val (.int a), .val (.int v), .val (.int (i : Int))], n⟩ = .nx ⟨[.val l, .val (.int t), .val (.int a), .val (.int (v * 2147483579 + u)), .val (.int (i : Int))], n⟩ := by
      unfold pileBody
      simp only [e_var, e_kVarV, e_kVarO, e_oVar, e_kVoV, e_kVoO, eC, e_bin, e_kBin, e_kBin2, e_oBin, e_kOBin, e_kOBin2, e_good1v, e_good1o, e_test, e_kTest, e_and, e_or, e_not, e_kAndT, e_kAndF, e_kOrT, e_kOrF, e_kNot, e_eand, e_eor, e_enot, e_kEAndT, e_kEAndF, e_kEOrT, e_kEOrF, e_kENot, e_ifE, e_kIfET, e_kIfEF, e_oV, e_kOV, e_eF, e_frzv, e_frzo, e_neg, e_kNeg, e_nil, e_cons, e_kCons, e_kCons2, e_oB1, e_kB1, e_b1V, e_kB1V, e_kGetV, e_kGetO, e_oBn, e_kBn, e_ixV, e_kIxV, e_ixAt, e_kAtS, e_kAtL, e_kAtT, e_kAtK, e_kAtP, e_pSome, e_kSome, e_pNone, e_oSl, e_kSl, e_kSl2, e_kSl3, e_oLst, e_kOL, e_tup, e_kTup, e_call, e_res, e_kResV, e_kResO, e_kResX, e_cP, e_kCP, e_cQ, e_kCQ, e_outRV, e_outRO, e_seq, e_kSeqN, e_kSeqR, e_kSeqB, e_kSeqC, e_kSeqX, e_next, e_set, e_kSet, e_good, e_kGoodV, e_kGoodO, e_kGoodX, e_asg, e_kAsg, e_rsof, e_gN, e_par, e_kPar, e_ret, e_kRet, e_drop, e_kDrop, e_if, e_kIfT, e_kIfF, e_raise, e_for, e_kFor, e_itA, e_kItA, e_itR1, e_itR2, e_kP, e_pileSet, e_kP0, e_app', e_kA0, e_kApp', e_kA1, for_nil, e_kLoopN, e_kLoopC, e_kLoopB, e_kLoopR, e_kWhN, e_kWhC, e_kWhB, e_kWhR, e_oLc, e_yes, e_bok, e_bexc, e_bsok, e_bsexc, e_ofs, e_obs, e_oms, out_rt, out_nx, List.set_cons_zero, List.set_cons_succ, List.getElem?_cons_zero, List.getElem?_cons_succ, List.map_cons, List.map_nil, List.length_cons, List.length_nil, List.cons_append, List.nil_append, Nat.reduceAdd, Nat.reduceLeDiff, Nat.zero_add, Nat.reduceLT, e1, e2, e3, e4, i_add, hu]
    simp only [List.set_cons_succ, List.set_cons_zero, eb, e_kLoopN]
    refine pile_loop ht ht' m (i + 1) _ _ (by omega) (by omega) ?_
    rw [Int.pow_succ]
    have : (v + 1) * 2147483579 ≤ 2147483579 ^ i * 2147483579 := Int.mul_le_mul_of_nonneg_right h1 (by decide)
    omega
theorem b_pile_eq : b__law_pile = (mSeq (mSet 2 (good (oV (mC (.int 0)))))
  (mSeq (mIfS (mTest (mBin dLt (mVar 1) (eF (oB1V dLen 0)))) (mSet 2 (good (oV (mIxV 0 (mVar 1))))) mNext)
  (mSeq (mIfS (mTest (mBin dGe (mVar 2) (mBin dPow (mC (.int 10)) (mC (.int 18))))) (mRet (oLst (aCons (mBin dMod (eF (oB1 dInt (mBin dSub (mVar 2) (mBin dPow (mC (.int 10)) (mC (.int 18)))))) (eF (oBin dMul (eF (oBin dMul (eF (oBin dMul (mBin dPow (mC (.int 10)) (mC (.int 60))) (mBin dPow (mC (.int 10)) (mC (.int 60))))) (mBin dPow (mC (.int 10)) (mC (.int 60))))) (mBin dPow (mC (.int 10)) (mC (.int 60)))))) aNil))) mNext)
  (mSeq (mSet 3 (good (oV (mC (.int 0)))))
  (mSeq (mFor (itR1 (aCons (mC (.int 24)) aNil)) (gN 4) pileBody)
  (mRet (oLst (aCons (mVar 3) aNil)))))))) := rfl
theorem len_k {l : List D} : dLen (.kst l) = some (.val (.int (l.length : Int))) := rfl
def powT (m : EM) (k : Nat) : Prop := ∀ s, m s = .ok (.int (10 ^ k)) s
theorem pow18 : dPow (.int 10) (.int 18) = some (.int (10 ^ 18)) := by rfl
theorem pow60 : dPow (.int 10) (.int 60) = some (.int (10 ^ 60)) := by rfl
theorem pile_end {l : List D} {t a n : Int} (ht : 0 ≤ t) (ht' : t < 100) : ∃ m s', (mSeq (mIfS (mTest (mBin dGe (mVar 2) (mBin dPow (mC (.int 10)) (mC (.int 18))))) (mRet (oLst (aCons (mBin dMod (eF (oB1 dInt (mBin dSub (mVar 2) (mBin dPow (mC (.int 10)) (mC (.int 18)))))) (eF (oBin dMul (eF (oBin dMul (eF (oBin dMul (mBin dPow (mC (.int 10)) (mC (.int 60))) (mBin dPow (mC (.int 10)) (mC (.int 60))))) (mBin dPow (mC (.int 10)) (mC (.int 60))))) (mBin dPow (mC (.int 10)) (mC (.int 60)))))) aNil))) mNext)
  (mSeq (mSet 3 (good (oV (mC (.int 0)))))
  (mSeq (mFor (itR1 (aCons (mC (.int 24)) aNil)) (gN 4) pileBody)
  (mRet (oLst (aCons (mVar 3) aNil)))))) ⟨[.val (.kst l), .val (.int t), .val (.int a), .no, .no], n⟩ = .rt (.own [.int m]) s' ∧ s'.pile = n := by
  by_cases q : (10 : Int) ^ 18 ≤ a
  · have h60 : ((10 : Int) ^ 60).natAbs < 2 ^ 1000 := by decide +kernel
    have h120 : ((10 : Int) ^ 60 * 10 ^ 60).natAbs < 2 ^ 1000 := by decide +kernel
    have h180 : ((10 : Int) ^ 60 * 10 ^ 60 * 10 ^ 60).natAbs < 2 ^ 1000 := by decide +kernel
    refine ⟨(a - 10 ^ 18) % (10 ^ 60 * 10 ^ 60 * 10 ^ 60 * 10 ^ 60), ⟨[.val (.kst l), .val (.int t), .val (.int a), .no, .no], n⟩, ?_, rfl⟩
    have hm : dMod (.int (a - 10 ^ 18)) (.int (10 ^ 60 * 10 ^ 60 * 10 ^ 60 * 10 ^ 60)) = _ := i_mod (by decide +kernel)
    simp only [e_var, e_kVarV, e_kVarO, e_oVar, e_kVoV, e_kVoO, eC, e_bin, e_kBin, e_kBin2, e_oBin, e_kOBin, e_kOBin2, e_good1v, e_good1o, e_test, e_kTest, e_and, e_or, e_not, e_kAndT, e_kAndF, e_kOrT, e_kOrF, e_kNot, e_eand, e_eor, e_enot, e_kEAndT, e_kEAndF, e_kEOrT, e_kEOrF, e_kENot, e_ifE, e_kIfET, e_kIfEF, e_oV, e_kOV, e_eF, e_frzv, e_frzo, e_neg, e_kNeg, e_nil, e_cons, e_kCons, e_kCons2, e_oB1, e_kB1, e_b1V, e_kB1V, e_kGetV, e_kGetO, e_oBn, e_kBn, e_ixV, e_kIxV, e_ixAt, e_kAtS, e_kAtL, e_kAtT, e_kAtK, e_kAtP, e_pSome, e_kSome, e_pNone, e_oSl, e_kSl, e_kSl2, e_kSl3, e_oLst, e_kOL, e_tup, e_kTup, e_call, e_res, e_kResV, e_kResO, e_kResX, e_cP, e_kCP, e_cQ, e_kCQ, e_outRV, e_outRO, e_seq, e_kSeqN, e_kSeqR, e_kSeqB, e_kSeqC, e_kSeqX, e_next, e_set, e_kSet, e_good, e_kGoodV, e_kGoodO, e_kGoodX, e_asg, e_kAsg, e_rsof, e_gN, e_par, e_kPar, e_ret, e_kRet, e_drop, e_kDrop, e_if, e_kIfT, e_kIfF, e_raise, e_for, e_kFor, e_itA, e_kItA, e_itR1, e_itR2, e_kP, e_pileSet, e_kP0, e_app', e_kA0, e_kApp', e_kA1, for_nil, e_kLoopN, e_kLoopC, e_kLoopB, e_kLoopR, e_kWhN, e_kWhC, e_kWhB, e_kWhR, e_oLc, e_yes, e_bok, e_bexc, e_bsok, e_bsexc, e_ofs, e_obs, e_oms, out_rt, out_nx, List.set_cons_zero, List.set_cons_succ, List.getElem?_cons_zero, List.getElem?_cons_succ, List.map_cons, List.map_nil, List.length_cons, List.length_nil, List.cons_append, List.nil_append, Nat.reduceAdd, Nat.reduceLeDiff, Nat.zero_add, Nat.reduceLT, pow18, pow60, i_ge, decide_eq_true q, i_mul h60 h60, i_mul h120 h60, i_mul h180 h60, i_sub, i_int, hm]
  · obtain ⟨v', x', lp⟩ := pile_loop (l := .kst l) (a := a) (n := n) ht ht' 24 0 0 .no (by omega) (by omega) (by decide)
    have lp' : forLoop (gN 4) pileBody (dInts 0 24) _ = _ := lp
    refine ⟨v', ⟨[.val (.kst l), .val (.int t), .val (.int a), .val (.int v'), x'], n⟩, ?_, rfl⟩
    have e5 : ∀ s, kR1 [.int 24] s = .ok (dInts 0 24) s := fun s => e_kR1 ⟨by decide, by decide⟩
    simp only [e_var, e_kVarV, e_kVarO, e_oVar, e_kVoV, e_kVoO, eC, e_bin, e_kBin, e_kBin2, e_oBin, e_kOBin, e_kOBin2, e_good1v, e_good1o, e_test, e_kTest, e_and, e_or, e_not, e_kAndT, e_kAndF, e_kOrT, e_kOrF, e_kNot, e_eand, e_eor, e_enot, e_kEAndT, e_kEAndF, e_kEOrT, e_kEOrF, e_kENot, e_ifE, e_kIfET, e_kIfEF, e_oV, e_kOV, e_eF, e_frzv, e_frzo, e_neg, e_kNeg, e_nil, e_cons, e_kCons, e_kCons2, e_oB1, e_kB1, e_b1V, e_kB1V, e_kGetV, e_kGetO, e_oBn, e_kBn, e_ixV, e_kIxV, e_ixAt, e_kAtS, e_kAtL, e_kAtT, e_kAtK, e_kAtP, e_pSome, e_kSome, e_pNone, e_oSl, e_kSl, e_kSl2, e_kSl3, e_oLst, e_kOL, e_tup, e_kTup, e_call, e_res, e_kResV, e_kResO, e_kResX, e_cP, e_kCP, e_cQ, e_kCQ, e_outRV, e_outRO, e_seq, e_kSeqN, e_kSeqR, e_kSeqB, e_kSeqC, e_kSeqX, e_next, e_set, e_kSet, e_good, e_kGoodV, e_kGoodO, e_kGoodX, e_asg, e_kAsg, e_rsof, e_gN, e_par, e_kPar, e_ret, e_kRet, e_drop, e_kDrop, e_if, e_kIfT, e_kIfF, e_raise, e_for, e_kFor, e_itA, e_kItA, e_itR1, e_itR2, e_kP, e_pileSet, e_kP0, e_app', e_kA0, e_kApp', e_kA1, for_nil, e_kLoopN, e_kLoopC, e_kLoopB, e_kLoopR, e_kWhN, e_kWhC, e_kWhB, e_kWhR, e_oLc, e_yes, e_bok, e_bexc, e_bsok, e_bsexc, e_ofs, e_obs, e_oms, out_rt, out_nx, List.set_cons_zero, List.set_cons_succ, List.getElem?_cons_zero, List.getElem?_cons_succ, List.map_cons, List.map_nil, List.length_cons, List.length_nil, List.cons_append, List.nil_append, Nat.reduceAdd, Nat.reduceLeDiff, Nat.zero_add, Nat.reduceLT, pow18, i_ge, decide_eq_false q, e5, lp']
theorem pile {ns : List Int} {t : Nat} {n : Int} (ht : t < 100) : ∃ m, m__law_pile [.kst (ns.map .int), .int (t : Int)] n = .ok (.own [.int m]) n := by
  unfold m__law_pile
  have start : ∃ a, b__law_pile ⟨[.val (.kst (ns.map .int)), .val (.int (t : Int)), .no, .no, .no], n⟩ = (mSeq (mIfS (mTest (mBin dGe (mVar 2) (mBin dPow (mC (.int 10)) (mC (.int 18))))) (mRet (oLst (aCons (mBin dMod (eF (oB1 dInt (mBin dSub (mVar 2) (mBin dPow (mC (.int 10)) (mC (.int 18)))))) (eF (oBin dMul (eF (oBin dMul (eF (oBin dMul (mBin dPow (mC (.int 10)) (mC (.int 60))) (mBin dPow (mC (.int 10)) (mC (.int 60))))) (mBin dPow (mC (.int 10)) (mC (.int 60))))) (mBin dPow (mC (.int 10)) (mC (.int 60)))))) aNil))) mNext)
  (mSeq (mSet 3 (good (oV (mC (.int 0)))))
  (mSeq (mFor (itR1 (aCons (mC (.int 24)) aNil)) (gN 4) pileBody)
  (mRet (oLst (aCons (mVar 3) aNil)))))) ⟨[.val (.kst (ns.map .int)), .val (.int (t : Int)), .val (.int a), .no, .no], n⟩ := by
    rw [b_pile_eq]
    by_cases q : t < ns.length
    · have e1 := d_lt (a := t) (b := (ns.map D.int).length)
      have e2 : dIx (.kst (ns.map .int)) (.int (t : Int)) = some (.int (ns[t])) := by
        show atI (ns.map D.int) (t : Int) = _
        rw [atI_nat (by simpa using q)]
        simp [q]
      refine ⟨ns[t], ?_⟩
      rw [decide_eq_true (by simpa using q)] at e1
      rw [e_seq]
      simp only [e_set, e_good, e_oV, eC, e_bok, e_kOV, e_kGoodV, e_bsok, e_kSet, e_kSeqN, List.set_cons_succ, List.set_cons_zero]
      rw [e_seq]
      simp only [e_if, e_test, e_bin, e_kBin, e_kBin2, e_eF, e_var, e_kVarV, e_bok, List.getElem?_cons_succ, List.getElem?_cons_zero, e_b1V, e_kGetV, e_kB1V, len_k, e_obs, e_good1v, e_ofs, e_frzv, e1, e_kTest, e_bsok, e_kIfT, e_set, e_good, e_oV, e_ixV, e_kIxV, e_ixAt, e_kAtK, e2, e_kOV, e_kGoodV, e_kSet, e_kSeqN, List.set_cons_succ, List.set_cons_zero]
    · have e1 := d_lt (a := t) (b := (ns.map D.int).length)
      refine ⟨0, ?_⟩
      rw [decide_eq_false (by simpa using q)] at e1
      rw [e_seq]
      simp only [e_set, e_good, e_oV, eC, e_bok, e_kOV, e_kGoodV, e_bsok, e_kSet, e_kSeqN, List.set_cons_succ, List.set_cons_zero]
      rw [e_seq]
      simp only [e_if, e_test, e_bin, e_kBin, e_kBin2, e_eF, e_var, e_kVarV, e_bok, List.getElem?_cons_succ, List.getElem?_cons_zero, e_b1V, e_kGetV, e_kB1V, len_k, e_obs, e_good1v, e_ofs, e_frzv, e1, e_kTest, e_bsok, e_kIfF, e_next, e_kSeqN]
  obtain ⟨a, ha⟩ := start
  obtain ⟨m, s', h1, h2⟩ := pile_end (l := ns.map .int) (t := (t : Int)) (a := a) (n := n) (by omega) (by omega)
  refine ⟨m, (mk_ev (by rfl)).trans ?_⟩
  show outF (b__law_pile ⟨[.val (.kst (ns.map .int)), .val (.int (t : Int)), .no, .no, .no], n⟩) = _
  rw [ha, h1, out_rt, h2]
/-- one digit -/
theorem take_ {m : Int} {k : Nat} (hk : 0 < k) (hk' : k < 1000000) : ∃ d m', d < k ∧ m__law_take [.pile, .int (k : Int)] m = .ok (.val (.int ((d : Nat) : Int))) m' := by
  have h0 : 0 ≤ m % (k : Int) := Int.emod_nonneg _ (by omega)
  have h1 : m % (k : Int) < k := Int.emod_lt_of_pos _ (by omega)
  refine ⟨(m % (k : Int)).toNat, m / k, by omega, ?_⟩
  rw [Int.toNat_of_nonneg h0]
  unfold m__law_take
  refine (mk_ev (by rfl)).trans ?_
  show outF (b__law_take ⟨[.val .pile, .val (.int (k : Int)), .no], m⟩) = _
  unfold b__law_take
  simp only [e_var, e_kVarV, e_kVarO, e_oVar, e_kVoV, e_kVoO, eC, e_bin, e_kBin, e_kBin2, e_oBin, e_kOBin, e_kOBin2, e_good1v, e_good1o, e_test, e_kTest, e_and, e_or, e_not, e_kAndT, e_kAndF, e_kOrT, e_kOrF, e_kNot, e_eand, e_eor, e_enot, e_kEAndT, e_kEAndF, e_kEOrT, e_kEOrF, e_kENot, e_ifE, e_kIfET, e_kIfEF, e_oV, e_kOV, e_eF, e_frzv, e_frzo, e_neg, e_kNeg, e_nil, e_cons, e_kCons, e_kCons2, e_oB1, e_kB1, e_b1V, e_kB1V, e_kGetV, e_kGetO, e_oBn, e_kBn, e_ixV, e_kIxV, e_ixAt, e_kAtS, e_kAtL, e_kAtT, e_kAtK, e_kAtP, e_pSome, e_kSome, e_pNone, e_oSl, e_kSl, e_kSl2, e_kSl3, e_oLst, e_kOL, e_tup, e_kTup, e_call, e_res, e_kResV, e_kResO, e_kResX, e_cP, e_kCP, e_cQ, e_kCQ, e_outRV, e_outRO, e_seq, e_kSeqN, e_kSeqR, e_kSeqB, e_kSeqC, e_kSeqX, e_next, e_set, e_kSet, e_good, e_kGoodV, e_kGoodO, e_kGoodX, e_asg, e_kAsg, e_rsof, e_gN, e_par, e_kPar, e_ret, e_kRet, e_drop, e_kDrop, e_if, e_kIfT, e_kIfF, e_raise, e_for, e_kFor, e_itA, e_kItA, e_itR1, e_itR2, e_kP, e_pileSet, e_kP0, e_app', e_kA0, e_kApp', e_kA1, for_nil, e_kLoopN, e_kLoopC, e_kLoopB, e_kLoopR, e_kWhN, e_kWhC, e_kWhB, e_kWhR, e_oLc, e_yes, e_bok, e_bexc, e_bsok, e_bsexc, e_ofs, e_obs, e_oms, out_rt, out_nx, List.set_cons_zero, List.set_cons_succ, List.getElem?_cons_zero, List.getElem?_cons_succ, List.map_cons, List.map_nil, List.length_cons, List.length_nil, List.cons_append, List.nil_append, Nat.reduceAdd, Nat.reduceLeDiff, Nat.zero_add, Nat.reduceLT, i_int, i_mod (show (0 : Int) < (k : Int) by omega), i_div (show (0 : Int) < (k : Int) by omega) (show (k : Int) < 1073741824 by omega)]
end Pd

/-! the plain law of k01: the turns -/
namespace Pd
open PySem L2

def Ls (ls : List Nat) : Prop := ls = [97, 98] ∨ ls = [97, 98, 99] ∨ ls = [97] ∨ ls = [107, 109, 122]
theorem ls_len {ls : List Nat} (h : Ls ls) : 0 < ls.length ∧ ls.length < 1000 ∧ isL ls = true := by
  rcases h with rfl | rfl | rfl | rfl <;> decide
theorem ls_ix {ls : List Nat} {d : Nat} (h : Ls ls) (hd : d < ls.length) : ∃ c, isL [c] = true ∧ dIx (.str ls) (.int ((d : Nat) : Int)) = some (.str [c]) := by
  obtain ⟨h0, h1, h2⟩ := ls_len h
  refine ⟨ls[d], ?_, ?_⟩
  · unfold isL inL at h2 ⊢
    rw [List.all_eq_true] at h2
    simpa using h2 _ (List.getElem_mem hd)
  · have h1 : dIx (.str ls) (.int (d : Int)) = (atI ls (d : Int)).map fun c => .str [c] := if_pos (small_le (by omega))
    rw [h1, atI_nat hd, List.getElem?_eq_getElem hd]
    rfl
theorem ls_last {ls : List Nat} (h : Ls ls) : ∃ c, isL [c] = true ∧ dIx (.str ls) (.int (-1)) = some (.str [c]) := by
  have hz : ∀ l : List Nat, l.length ≤ 1000 → dIx (.str l) (.int (-1)) = (atI l (-1)).map fun c => .str [c] := fun l hl => if_pos (small_le (by omega))
  rcases h with rfl | rfl | rfl | rfl
  · exact ⟨98, by decide, (hz _ (by decide)).trans (by rfl)⟩
  · exact ⟨99, by decide, (hz _ (by decide)).trans (by rfl)⟩
  · exact ⟨97, by decide, (hz _ (by decide)).trans (by rfl)⟩
  · exact ⟨122, by decide, (hz _ (by decide)).trans (by rfl)⟩
theorem ls_dlen {ls : List Nat} (h : Ls ls) : dLen (.str ls) = some (.val (.int (ls.length : Int))) := d_len (by have := ls_len h; omega)
def wBody : SM := (mSet 3 (good (oBin dAdd (mVar 3) (mIxV 1 (eF (oCall m__law_take (aCons (mVar 0) (aCons (eF (oB1V dLen 1)) aNil))))))))
theorem word_loop {ls : List Nat} {mo : SV} {K : Nat} (h : Ls ls) (hK : K ≤ 100) : ∀ (ds : List D) (u : List Nat) (x : SV) (m : Int), u.length + ds.length ≤ K → isL u = true →
    ∃ u' x' m', forLoop (gN 4) wBody ds ⟨[.val .pile, .val (.str ls), mo, .val (.str u), x], m⟩ = .nx ⟨[.val .pile, .val (.str ls), mo, .val (.str u'), x'], m'⟩ ∧ u'.length ≤ K ∧ isL u' = true
  | [], u, x, m, hl, hu => ⟨u, x, m, rfl, by simpa using hl, hu⟩
  | d :: r, u, x, m, hl, hu => by
    rw [List.length_cons] at hl
    obtain ⟨l0, l1, l2⟩ := ls_len h
    obtain ⟨k, m1, hk, e1⟩ := take_ (m := m) l0 (show ls.length < 1000000 by omega)
    obtain ⟨c, hc, e2⟩ := ls_ix h hk
    have e3 : dAdd (.str u) (.str [c]) = _ := d_adds (by rw [List.length_singleton]; omega)
    rw [for_cons rfl]
    have eb : wBody ⟨[.val .pile, .val (.str ls), mo, .val (.str u), .val d], m⟩ = .nx ⟨[.val .pile, .val (.str ls), mo, .val (.str (u ++ [c])), .val d], m1⟩ := by
      unfold wBody
      simp only [e_var, e_kVarV, e_kVarO, e_oVar, e_kVoV, e_kVoO, eC, e_bin, e_kBin, e_kBin2, e_oBin, e_kOBin, e_kOBin2, e_good1v, e_good1o, e_test, e_kTest, e_and, e_or, e_not, e_kAndT, e_kAndF, e_kOrT, e_kOrF, e_kNot, e_eand, e_eor, e_enot, e_kEAndT, e_kEAndF, e_kEOrT, e_kEOrF, e_kENot, e_ifE, e_kIfET, e_kIfEF, e_oV, e_kOV, e_eF, e_frzv, e_frzo, e_neg, e_kNeg, e_nil, e_cons, e_kCons, e_kCons2, e_oB1, e_kB1, e_b1V, e_kB1V, e_kGetV, e_kGetO, e_oBn, e_kBn, e_ixV, e_kIxV, e_ixAt, e_kAtS, e_kAtL, e_kAtT, e_kAtK, e_kAtP, e_pSome, e_kSome, e_pNone, e_oSl, e_kSl, e_kSl2, e_kSl3, e_oLst, e_kOL, e_tup, e_kTup, e_call, e_res, e_kResV, e_kResO, e_kResX, e_cP, e_kCP, e_cQ, e_kCQ, e_outRV, e_outRO, e_seq, e_kSeqN, e_kSeqR, e_kSeqB, e_kSeqC, e_kSeqX, e_next, e_set, e_kSet, e_good, e_kGoodV, e_kGoodO, e_kGoodX, e_asg, e_kAsg, e_rsof, e_gN, e_par, e_kPar, e_ret, e_kRet, e_drop, e_kDrop, e_if, e_kIfT, e_kIfF, e_raise, e_for, e_kFor, e_itA, e_kItA, e_itR1, e_itR2, e_kP, e_pileSet, e_kP0, e_app', e_kA0, e_kApp', e_kA1, for_nil, e_kLoopN, e_kLoopC, e_kLoopB, e_kLoopR, e_kWhN, e_kWhC, e_kWhB, e_kWhR, e_oLc, e_yes, e_bok, e_bexc, e_bsok, e_bsexc, e_ofs, e_obs, e_oms, out_rt, out_nx, List.set_cons_zero, List.set_cons_succ, List.getElem?_cons_zero, List.getElem?_cons_succ, List.map_cons, List.map_nil, List.length_cons, List.length_nil, List.cons_append, List.nil_append, Nat.reduceAdd, Nat.reduceLeDiff, Nat.zero_add, Nat.reduceLT, ls_dlen h, e1, e2, e3]
    simp only [List.set_cons_succ, List.set_cons_zero, eb, e_kLoopN]
    exact word_loop h hK r _ _ _ (by rw [List.length_append, List.length_singleton]; omega) (inL_app hu hc)
theorem b_word_eq : b__law_word = (mSeq (mSet 3 (good (oV (mC (.str [])))))
  (mSeq (mFor (itR1 (aCons (eF (oCall m__law_take (aCons (mVar 0) (aCons (eF (oBin dAdd (mVar 2) (mC (.int 1)))) aNil)))) aNil)) (gN 4) wBody)
  (mRet (oVar 3)))) := rfl
theorem word_ {ls : List Nat} {m : Int} (h : Ls ls) : ∃ u m', m__law_word [.pile, .str ls, .int 6] m = .ok (.val (.str u)) m' ∧ u.length ≤ 6 ∧ isL u = true := by
  obtain ⟨k, m1, hk, e1⟩ := take_ (m := m) (k := 7) (by omega) (by omega)
  have e1' : m__law_take [.pile, .int 7] m = .ok (.val (.int (k : Int))) m1 := e1
  have e2 : dAdd (.int 6) (.int 1) = some (.val (.int 7)) := rfl
  have e3 : ∀ s, kR1 [.int (k : Int)] s = .ok (dInts 0 k) s := fun s => by rw [e_kR1 ⟨by omega, by omega⟩, Int.toNat_natCast]
  obtain ⟨u, x, m2, lp, hu, hl⟩ := word_loop (mo := .val (.int 6)) (K := 6) h (by omega) (dInts 0 k) [] .no m1 (by unfold dInts; simp; omega) rfl
  refine ⟨u, m2, ?_, hu, hl⟩
  unfold m__law_word
  refine (mk_ev (by rfl)).trans ?_
  show outF (b__law_word ⟨[.val .pile, .val (.str ls), .val (.int 6), .no, .no], m⟩) = _
  rw [b_word_eq]
  simp only [e_var, e_kVarV, e_kVarO, e_oVar, e_kVoV, e_kVoO, eC, e_bin, e_kBin, e_kBin2, e_oBin, e_kOBin, e_kOBin2, e_good1v, e_good1o, e_test, e_kTest, e_and, e_or, e_not, e_kAndT, e_kAndF, e_kOrT, e_kOrF, e_kNot, e_eand, e_eor, e_enot, e_kEAndT, e_kEAndF, e_kEOrT, e_kEOrF, e_kENot, e_ifE, e_kIfET, e_kIfEF, e_oV, e_kOV, e_eF, e_frzv, e_frzo, e_neg, e_kNeg, e_nil, e_cons, e_kCons, e_kCons2, e_oB1, e_kB1, e_b1V, e_kB1V, e_kGetV, e_kGetO, e_oBn, e_kBn, e_ixV, e_kIxV, e_ixAt, e_kAtS, e_kAtL, e_kAtT, e_kAtK, e_kAtP, e_pSome, e_kSome, e_pNone, e_oSl, e_kSl, e_kSl2, e_kSl3, e_oLst, e_kOL, e_tup, e_kTup, e_call, e_res, e_kResV, e_kResO, e_kResX, e_cP, e_kCP, e_cQ, e_kCQ, e_outRV, e_outRO, e_seq, e_kSeqN, e_kSeqR, e_kSeqB, e_kSeqC, e_kSeqX, e_next, e_set, e_kSet, e_good, e_kGoodV, e_kGoodO, e_kGoodX, e_asg, e_kAsg, e_rsof, e_gN, e_par, e_kPar, e_ret, e_kRet, e_drop, e_kDrop, e_if, e_kIfT, e_kIfF, e_raise, e_for, e_kFor, e_itA, e_kItA, e_itR1, e_itR2, e_kP, e_pileSet, e_kP0, e_app', e_kA0, e_kApp', e_kA1, for_nil, e_kLoopN, e_kLoopC, e_kLoopB, e_kLoopR, e_kWhN, e_kWhC, e_kWhB, e_kWhR, e_oLc, e_yes, e_bok, e_bexc, e_bsok, e_bsexc, e_ofs, e_obs, e_oms, out_rt, out_nx, List.set_cons_zero, List.set_cons_succ, List.getElem?_cons_zero, List.getElem?_cons_succ, List.map_cons, List.map_nil, List.length_cons, List.length_nil, List.cons_append, List.nil_append, Nat.reduceAdd, Nat.reduceLeDiff, Nat.zero_add, Nat.reduceLT, e1', e2, e3, lp]
theorem letters_ {m : Int} : ∃ ls m', m__law_letters [.pile] m = .ok (.val (.str ls)) m' ∧ Ls ls := by
  obtain ⟨k, m1, hk, e1⟩ := take_ (m := m) (k := 6) (by omega) (by omega)
  have e1' : m__law_take [.pile, .int 6] m = .ok (.val (.int (k : Int))) m1 := e1
  have e2 : ∃ ls, dIx (.lst [.str [97, 98], .str [97, 98], .str [97, 98], .str [97, 98, 99], .str [97], .str [107, 109, 122]]) (.int (k : Int)) = some (.str ls) ∧ Ls ls := by
    match k, hk with
    | 0, _ => exact ⟨_, rfl, .inl rfl⟩
    | 1, _ => exact ⟨_, rfl, .inl rfl⟩
    | 2, _ => exact ⟨_, rfl, .inl rfl⟩
    | 3, _ => exact ⟨_, rfl, .inr (.inl rfl)⟩
    | 4, _ => exact ⟨_, rfl, .inr (.inr (.inl rfl))⟩
    | 5, _ => exact ⟨_, rfl, .inr (.inr (.inr rfl))⟩
  obtain ⟨ls, e2, hls⟩ := e2
  refine ⟨ls, m1, ?_, hls⟩
  unfold m__law_letters
  refine (mk_ev (by rfl)).trans ?_
  show outF (b__law_letters ⟨[.val .pile], m⟩) = _
  unfold b__law_letters
  simp only [e_var, e_kVarV, e_kVarO, e_oVar, e_kVoV, e_kVoO, eC, e_bin, e_kBin, e_kBin2, e_oBin, e_kOBin, e_kOBin2, e_good1v, e_good1o, e_test, e_kTest, e_and, e_or, e_not, e_kAndT, e_kAndF, e_kOrT, e_kOrF, e_kNot, e_eand, e_eor, e_enot, e_kEAndT, e_kEAndF, e_kEOrT, e_kEOrF, e_kENot, e_ifE, e_kIfET, e_kIfEF, e_oV, e_kOV, e_eF, e_frzv, e_frzo, e_neg, e_kNeg, e_nil, e_cons, e_kCons, e_kCons2, e_oB1, e_kB1, e_b1V, e_kB1V, e_kGetV, e_kGetO, e_oBn, e_kBn, e_ixV, e_kIxV, e_ixAt, e_kAtS, e_kAtL, e_kAtT, e_kAtK, e_kAtP, e_pSome, e_kSome, e_pNone, e_oSl, e_kSl, e_kSl2, e_kSl3, e_oLst, e_kOL, e_tup, e_kTup, e_call, e_res, e_kResV, e_kResO, e_kResX, e_cP, e_kCP, e_cQ, e_kCQ, e_outRV, e_outRO, e_seq, e_kSeqN, e_kSeqR, e_kSeqB, e_kSeqC, e_kSeqX, e_next, e_set, e_kSet, e_good, e_kGoodV, e_kGoodO, e_kGoodX, e_asg, e_kAsg, e_rsof, e_gN, e_par, e_kPar, e_ret, e_kRet, e_drop, e_kDrop, e_if, e_kIfT, e_kIfF, e_raise, e_for, e_kFor, e_itA, e_kItA, e_itR1, e_itR2, e_kP, e_pileSet, e_kP0, e_app', e_kA0, e_kApp', e_kA1, for_nil, e_kLoopN, e_kLoopC, e_kLoopB, e_kLoopR, e_kWhN, e_kWhC, e_kWhB, e_kWhR, e_oLc, e_yes, e_bok, e_bexc, e_bsok, e_bsexc, e_ofs, e_obs, e_oms, out_rt, out_nx, List.set_cons_zero, List.set_cons_succ, List.getElem?_cons_zero, List.getElem?_cons_succ, List.map_cons, List.map_nil, List.length_cons, List.length_nil, List.cons_append, List.nil_append, Nat.reduceAdd, Nat.reduceLeDiff, Nat.zero_add, Nat.reduceLT, e1', e2]
theorem one_i {d : Nat} : dAdd (.int 1) (.int (d : Int)) = some (.val (.int ((1 + d : Nat) : Int))) := d_add (a := 1)
/-- a state of the turns -/
abbrev St0 (a0 a1 : SV) (m : Int) (ls : List Nat) (a4 a5 a6 a7 a8 : SV) (n : Int) : S := ⟨[a0, a1, .own [.int m], .val (.str ls), a4, a5, a6, a7, a8, .no, .no, .no], n⟩
def s1 : SM := (mSet 5 (good (oBin dAdd (mIxV 3 (eF (oCallR 2 m__law_take (aCons (eF (oB1V dLen 3)) aNil)))) (eF (oCallR 2 m__law_word (aCons (mVar 3) (aCons (mC (.int 6)) aNil)))))))
def s2 : SM := (mSet 6 (good (oCall m__law_begin (aCons (mVar 5) (aCons (eF (oBin dAdd (mC (.int 1)) (eF (oCallR 2 m__law_take (aCons (mC (.int 14)) aNil))))) aNil)))))
def s3 : SM := (mSet 7 (good (oLst (aCons (eF (oBin dAdd (mIxV 3 (mC (.int 0))) (eF (oCallR 2 m__law_word (aCons (mVar 3) (aCons (mC (.int 6)) aNil)))))) (aCons (mVar 6) (aCons (eF (oBin dMul (mVar 5) (eF (oBin dAdd (mC (.int 1)) (eF (oCallR 2 m__law_take (aCons (mC (.int 3)) aNil))))))) aNil))))))
def s4 : SM := (mApp 7 (eF (oBin dAdd (mVar 6) (mIxV 3 (mNeg (mC (.int 1)))))))
def t5 : TM := (mOr (mNot (mTest (eF (oCall m__law_good (aCons (mVar 5) (aCons (mVar 9) aNil)))))) (mNot (mTest (eF (oCall m__law_good (aCons (mVar 9) (aCons (mVar 5) aNil)))))))
def s5 : SM := (mIfS (mTest (mBin dNev (eF (oLc [9] (itA (mVar 7)) (gN 9) t5 (mVar 9))) (eF (oLst aNil)))) (mRet (oV (mC (.bl false)))) mNext)
def t6 : TM := (mTest (mBin (dIsB true) (eF (oCall m_is_word (aCons (mVar 10) aNil))) (mC (.bl true))))
def s6 : SM := (mIfS (mTest (mBin dNev (eF (oLc [10] (itA (eF (oBin dAdd (mVar 7) (eF (oLst (aCons (mC (.str [])) aNil)))))) (gN 10) t6 (mVar 10))) (eF (oLst aNil)))) (mRet (oV (mC (.bl false)))) mNext)
def inBody : SM := mSeq s1 (mSeq s2 (mSeq s3 (mSeq s4 (mSeq s5 s6))))
theorem wd_mk {w : List Nat} (h : isL w = true) (hn : w ≠ []) (hl : w.length ≤ 1000) : Wd w := ⟨h, hn, by omega⟩
theorem nev_nil : dNev (.lst []) (.lst []) = some (.bl false) := rfl
/-- short words -/
def Sw (w : List Nat) : Prop := Wd w ∧ w.length ≤ 50
theorem step1 {a0 a1 a4 a5 a6 a7 a8 : SV} {m n : Int} {ls : List Nat} (h : Ls ls) : ∃ w m', s1 (St0 a0 a1 m ls a4 a5 a6 a7 a8 n) = .nx (St0 a0 a1 m' ls a4 (.val (.str w)) a6 a7 a8 n) ∧ Wd w ∧ w.length ≤ 7 := by
  obtain ⟨l0, l1, l2⟩ := ls_len h
  obtain ⟨k, m1, hk, e1⟩ := take_ (m := m) l0 (show ls.length < 1000000 by omega)
  obtain ⟨c, hc, e2⟩ := ls_ix h hk
  obtain ⟨u, m2, e3, hu, hl⟩ := word_ (m := m1) h
  have e4 : dAdd (.str [c]) (.str u) = _ := d_adds (by rw [List.length_singleton]; omega)
  refine ⟨[c] ++ u, m2, ?_, wd_mk (inL_app hc hl) (by simp) (by simp; omega), by simp; omega⟩
  unfold s1
  simp only [e_var, e_kVarV, e_kVarO, e_oVar, e_kVoV, e_kVoO, eC, e_bin, e_kBin, e_kBin2, e_oBin, e_kOBin, e_kOBin2, e_good1v, e_good1o, e_test, e_kTest, e_and, e_or, e_not, e_kAndT, e_kAndF, e_kOrT, e_kOrF, e_kNot, e_eand, e_eor, e_enot, e_kEAndT, e_kEAndF, e_kEOrT, e_kEOrF, e_kENot, e_ifE, e_kIfET, e_kIfEF, e_oV, e_kOV, e_eF, e_frzv, e_frzo, e_neg, e_kNeg, e_nil, e_cons, e_kCons, e_kCons2, e_oB1, e_kB1, e_b1V, e_kB1V, e_kGetV, e_kGetO, e_oBn, e_kBn, e_ixV, e_kIxV, e_ixAt, e_kAtS, e_kAtL, e_kAtT, e_kAtK, e_kAtP, e_pSome, e_kSome, e_pNone, e_oSl, e_kSl, e_kSl2, e_kSl3, e_oLst, e_kOL, e_tup, e_kTup, e_call, e_res, e_kResV, e_kResO, e_kResX, e_cP, e_kCP, e_cQ, e_kCQ, e_outRV, e_outRO, e_seq, e_kSeqN, e_kSeqR, e_kSeqB, e_kSeqC, e_kSeqX, e_next, e_set, e_kSet, e_good, e_kGoodV, e_kGoodO, e_kGoodX, e_asg, e_kAsg, e_rsof, e_gN, e_par, e_kPar, e_ret, e_kRet, e_drop, e_kDrop, e_if, e_kIfT, e_kIfF, e_raise, e_for, e_kFor, e_itA, e_kItA, e_itR1, e_itR2, e_kP, e_pileSet, e_kP0, e_app', e_kA0, e_kApp', e_kA1, for_nil, e_kLoopN, e_kLoopC, e_kLoopB, e_kLoopR, e_kWhN, e_kWhC, e_kWhB, e_kWhR, e_oLc, e_yes, e_bok, e_bexc, e_bsok, e_bsexc, e_ofs, e_obs, e_oms, out_rt, out_nx, List.set_cons_zero, List.set_cons_succ, List.getElem?_cons_zero, List.getElem?_cons_succ, List.map_cons, List.map_nil, List.length_cons, List.length_nil, List.cons_append, List.nil_append, Nat.reduceAdd, Nat.reduceLeDiff, Nat.zero_add, Nat.reduceLT, ls_dlen h, e1, e2, e3, e4, noPiles, noPile, Bool.and_self, if_true]
theorem step2 {a0 a1 a4 a6 a7 a8 : SV} {m n : Int} {ls w : List Nat} (h : Wd w) : ∃ v m', s2 (St0 a0 a1 m ls a4 (.val (.str w)) a6 a7 a8 n) = .nx (St0 a0 a1 m' ls a4 (.val (.str w)) (.val (.str v)) a7 a8 n) ∧ Wd v ∧ v.length ≤ 14 := by
  obtain ⟨k, m1, hk, e1⟩ := take_ (m := m) (k := 14) (by omega) (by omega)
  have e1' : m__law_take [.pile, .int 14] m = .ok (.val (.int (k : Int))) m1 := e1
  refine ⟨beg w (1 + k), m1, ?_, ⟨inL_beg h.l h.n _, ?_, by rw [beg_len]; omega⟩, by rw [beg_len]; omega⟩
  · unfold s2
    simp only [e_var, e_kVarV, e_kVarO, e_oVar, e_kVoV, e_kVoO, eC, e_bin, e_kBin, e_kBin2, e_oBin, e_kOBin, e_kOBin2, e_good1v, e_good1o, e_test, e_kTest, e_and, e_or, e_not, e_kAndT, e_kAndF, e_kOrT, e_kOrF, e_kNot, e_eand, e_eor, e_enot, e_kEAndT, e_kEAndF, e_kEOrT, e_kEOrF, e_kENot, e_ifE, e_kIfET, e_kIfEF, e_oV, e_kOV, e_eF, e_frzv, e_frzo, e_neg, e_kNeg, e_nil, e_cons, e_kCons, e_kCons2, e_oB1, e_kB1, e_b1V, e_kB1V, e_kGetV, e_kGetO, e_oBn, e_kBn, e_ixV, e_kIxV, e_ixAt, e_kAtS, e_kAtL, e_kAtT, e_kAtK, e_kAtP, e_pSome, e_kSome, e_pNone, e_oSl, e_kSl, e_kSl2, e_kSl3, e_oLst, e_kOL, e_tup, e_kTup, e_call, e_res, e_kResV, e_kResO, e_kResX, e_cP, e_kCP, e_cQ, e_kCQ, e_outRV, e_outRO, e_seq, e_kSeqN, e_kSeqR, e_kSeqB, e_kSeqC, e_kSeqX, e_next, e_set, e_kSet, e_good, e_kGoodV, e_kGoodO, e_kGoodX, e_asg, e_kAsg, e_rsof, e_gN, e_par, e_kPar, e_ret, e_kRet, e_drop, e_kDrop, e_if, e_kIfT, e_kIfF, e_raise, e_for, e_kFor, e_itA, e_kItA, e_itR1, e_itR2, e_kP, e_pileSet, e_kP0, e_app', e_kA0, e_kApp', e_kA1, for_nil, e_kLoopN, e_kLoopC, e_kLoopB, e_kLoopR, e_kWhN, e_kWhC, e_kWhB, e_kWhR, e_oLc, e_yes, e_bok, e_bexc, e_bsok, e_bsexc, e_ofs, e_obs, e_oms, out_rt, out_nx, List.set_cons_zero, List.set_cons_succ, List.getElem?_cons_zero, List.getElem?_cons_succ, List.map_cons, List.map_nil, List.length_cons, List.length_nil, List.cons_append, List.nil_append, Nat.reduceAdd, Nat.reduceLeDiff, Nat.zero_add, Nat.reduceLT, e1', one_i, law_begin h (show 1 + k ≤ 100000 by omega), noPiles, noPile, Bool.and_self, if_true]
  · intro z
    have := congrArg List.length z
    rw [beg_len] at this
    simp at this
theorem step3 {a0 a1 a4 a7 a8 : SV} {m n : Int} {ls w v : List Nat} (hs : Ls ls) (h : Wd w) (hl : w.length ≤ 7) : ∃ o p m', s3 (St0 a0 a1 m ls a4 (.val (.str w)) (.val (.str v)) a7 a8 n) = .nx (St0 a0 a1 m' ls a4 (.val (.str w)) (.val (.str v)) (.own [.str o, .str v, .str p]) a8 n) ∧ Sw o ∧ Sw p := by
  obtain ⟨l0, l1, l2⟩ := ls_len hs
  obtain ⟨c, hc, e2⟩ := ls_ix hs l0
  have e2' : dIx (.str ls) (.int 0) = some (.str [c]) := e2
  obtain ⟨u, m1, e3, hu, hul⟩ := word_ (m := m) hs
  have e4 : dAdd (.str [c]) (.str u) = _ := d_adds (by rw [List.length_singleton]; omega)
  obtain ⟨k, m2, hk, e1⟩ := take_ (m := m1) (k := 3) (by omega) (by omega)
  have e1' : m__law_take [.pile, .int 3] m1 = .ok (.val (.int (k : Int))) m2 := e1
  have hm : w.length * (1 + k) ≤ 7 * 3 := Nat.mul_le_mul hl (by omega)
  have e5 : dMul (.str w) (.int ((1 + k : Nat) : Int)) = _ := d_mul (by omega) (by omega) (by omega)
  have hr : (repS (1 + k) w).length ≤ 21 := by rw [repS_len, Nat.mul_comm]; omega
  refine ⟨[c] ++ u, repS (1 + k) w, m2, ?_, ⟨wd_mk (inL_app hc hul) (by simp) (by simp; omega), by simp; omega⟩, wd_mk (inL_rep h.l _) ?_ (by omega), by omega⟩
  · unfold s3
    simp only [e_var, e_kVarV, e_kVarO, e_oVar, e_kVoV, e_kVoO, eC, e_bin, e_kBin, e_kBin2, e_oBin, e_kOBin, e_kOBin2, e_good1v, e_good1o, e_test, e_kTest, e_and, e_or, e_not, e_kAndT, e_kAndF, e_kOrT, e_kOrF, e_kNot, e_eand, e_eor, e_enot, e_kEAndT, e_kEAndF, e_kEOrT, e_kEOrF, e_kENot, e_ifE, e_kIfET, e_kIfEF, e_oV, e_kOV, e_eF, e_frzv, e_frzo, e_neg, e_kNeg, e_nil, e_cons, e_kCons, e_kCons2, e_oB1, e_kB1, e_b1V, e_kB1V, e_kGetV, e_kGetO, e_oBn, e_kBn, e_ixV, e_kIxV, e_ixAt, e_kAtS, e_kAtL, e_kAtT, e_kAtK, e_kAtP, e_pSome, e_kSome, e_pNone, e_oSl, e_kSl, e_kSl2, e_kSl3, e_oLst, e_kOL, e_tup, e_kTup, e_call, e_res, e_kResV, e_kResO, e_kResX, e_cP, e_kCP, e_cQ, e_kCQ, e_outRV, e_outRO, e_seq, e_kSeqN, e_kSeqR, e_kSeqB, e_kSeqC, e_kSeqX, e_next, e_set, e_kSet, e_good, e_kGoodV, e_kGoodO, e_kGoodX, e_asg, e_kAsg, e_rsof, e_gN, e_par, e_kPar, e_ret, e_kRet, e_drop, e_kDrop, e_if, e_kIfT, e_kIfF, e_raise, e_for, e_kFor, e_itA, e_kItA, e_itR1, e_itR2, e_kP, e_pileSet, e_kP0, e_app', e_kA0, e_kApp', e_kA1, for_nil, e_kLoopN, e_kLoopC, e_kLoopB, e_kLoopR, e_kWhN, e_kWhC, e_kWhB, e_kWhR, e_oLc, e_yes, e_bok, e_bexc, e_bsok, e_bsexc, e_ofs, e_obs, e_oms, out_rt, out_nx, List.set_cons_zero, List.set_cons_succ, List.getElem?_cons_zero, List.getElem?_cons_succ, List.map_cons, List.map_nil, List.length_cons, List.length_nil, List.cons_append, List.nil_append, Nat.reduceAdd, Nat.reduceLeDiff, Nat.zero_add, Nat.reduceLT, e1', e2', e3, e4, e5, one_i, noPiles, noPile, Bool.and_self, if_true]
  · rw [Nat.add_comm, repS_succ]
    intro z
    exact h.n (List.append_eq_nil_iff.mp z).1
theorem step4 {a0 a1 a4 a5 a8 : SV} {m n : Int} {ls v o p : List Nat} (hs : Ls ls) (h : Wd v) (hl : v.length ≤ 14) : ∃ q, s4 (St0 a0 a1 m ls a4 a5 (.val (.str v)) (.own [.str o, .str v, .str p]) a8 n) = .nx (St0 a0 a1 m ls a4 a5 (.val (.str v)) (.own [.str o, .str v, .str p, .str q]) a8 n) ∧ Sw q := by
  obtain ⟨c, hc, e2⟩ := ls_last hs
  have e4 : dAdd (.str v) (.str [c]) = _ := d_adds (by rw [List.length_singleton]; omega)
  refine ⟨v ++ [c], ?_, wd_mk (inL_app h.l hc) (by simp) (by simp; omega), by simp; omega⟩
  unfold s4
  simp only [e_var, e_kVarV, e_kVarO, e_oVar, e_kVoV, e_kVoO, eC, e_bin, e_kBin, e_kBin2, e_oBin, e_kOBin, e_kOBin2, e_good1v, e_good1o, e_test, e_kTest, e_and, e_or, e_not, e_kAndT, e_kAndF, e_kOrT, e_kOrF, e_kNot, e_eand, e_eor, e_enot, e_kEAndT, e_kEAndF, e_kEOrT, e_kEOrF, e_kENot, e_ifE, e_kIfET, e_kIfEF, e_oV, e_kOV, e_eF, e_frzv, e_frzo, e_neg, e_kNeg, e_nil, e_cons, e_kCons, e_kCons2, e_oB1, e_kB1, e_b1V, e_kB1V, e_kGetV, e_kGetO, e_oBn, e_kBn, e_ixV, e_kIxV, e_ixAt, e_kAtS, e_kAtL, e_kAtT, e_kAtK, e_kAtP, e_pSome, e_kSome, e_pNone, e_oSl, e_kSl, e_kSl2, e_kSl3, e_oLst, e_kOL, e_tup, e_kTup, e_call, e_res, e_kResV, e_kResO, e_kResX, e_cP, e_kCP, e_cQ, e_kCQ, e_outRV, e_outRO, e_seq, e_kSeqN, e_kSeqR, e_kSeqB, e_kSeqC, e_kSeqX, e_next, e_set, e_kSet, e_good, e_kGoodV, e_kGoodO, e_kGoodX, e_asg, e_kAsg, e_rsof, e_gN, e_par, e_kPar, e_ret, e_kRet, e_drop, e_kDrop, e_if, e_kIfT, e_kIfF, e_raise, e_for, e_kFor, e_itA, e_kItA, e_itR1, e_itR2, e_kP, e_pileSet, e_kP0, e_app', e_kA0, e_kApp', e_kA1, for_nil, e_kLoopN, e_kLoopC, e_kLoopB, e_kLoopR, e_kWhN, e_kWhC, e_kWhB, e_kWhR, e_oLc, e_yes, e_bok, e_bexc, e_bsok, e_bsexc, e_ofs, e_obs, e_oms, out_rt, out_nx, List.set_cons_zero, List.set_cons_succ, List.getElem?_cons_zero, List.getElem?_cons_succ, List.map_cons, List.map_nil, List.length_cons, List.length_nil, List.cons_append, List.nil_append, Nat.reduceAdd, Nat.reduceLeDiff, Nat.zero_add, Nat.reduceLT, e2, e4]
theorem step5 {a0 a1 a4 a6 a8 : SV} {m n : Int} {ls w : List Nat} {os : List (List Nat)} (h : Sw w) (ho : ∀ o ∈ os, Sw o) (hl : os.length ≤ 10) : s5 (St0 a0 a1 m ls a4 (.val (.str w)) a6 (.own (os.map D.str)) a8 n) = .nx (St0 a0 a1 m ls a4 (.val (.str w)) a6 (.val (.lst (os.map D.str))) a8 n) := by
  have hw := h.2
  have lc : kLc [9] (gN 9) t5 (mVar 9) (os.map D.str) (St0 a0 a1 m ls a4 (.val (.str w)) a6 (.val (.lst (os.map D.str))) a8 n) = .ok (.own (((os.map D.str).filter fun _ => false).map id)) (St0 a0 a1 m ls a4 (.val (.str w)) a6 (.val (.lst (os.map D.str))) a8 n) := by
    refine lc_one (fun _ => false) id rfl (small_le (by rw [List.length_map]; omega)) fun d hd => .inr ⟨rfl, ?_⟩
    obtain ⟨o, ho', rfl⟩ := List.mem_map.mp hd
    obtain ⟨o1, o2⟩ := ho o ho'
    unfold t5
    simp only [e_var, e_kVarV, e_kVarO, e_oVar, e_kVoV, e_kVoO, eC, e_bin, e_kBin, e_kBin2, e_oBin, e_kOBin, e_kOBin2, e_good1v, e_good1o, e_test, e_kTest, e_and, e_or, e_not, e_kAndT, e_kAndF, e_kOrT, e_kOrF, e_kNot, e_eand, e_eor, e_enot, e_kEAndT, e_kEAndF, e_kEOrT, e_kEOrF, e_kENot, e_ifE, e_kIfET, e_kIfEF, e_oV, e_kOV, e_eF, e_frzv, e_frzo, e_neg, e_kNeg, e_nil, e_cons, e_kCons, e_kCons2, e_oB1, e_kB1, e_b1V, e_kB1V, e_kGetV, e_kGetO, e_oBn, e_kBn, e_ixV, e_kIxV, e_ixAt, e_kAtS, e_kAtL, e_kAtT, e_kAtK, e_kAtP, e_pSome, e_kSome, e_pNone, e_oSl, e_kSl, e_kSl2, e_kSl3, e_oLst, e_kOL, e_tup, e_kTup, e_call, e_res, e_kResV, e_kResO, e_kResX, e_cP, e_kCP, e_cQ, e_kCQ, e_outRV, e_outRO, e_seq, e_kSeqN, e_kSeqR, e_kSeqB, e_kSeqC, e_kSeqX, e_next, e_set, e_kSet, e_good, e_kGoodV, e_kGoodO, e_kGoodX, e_asg, e_kAsg, e_rsof, e_gN, e_par, e_kPar, e_ret, e_kRet, e_drop, e_kDrop, e_if, e_kIfT, e_kIfF, e_raise, e_for, e_kFor, e_itA, e_kItA, e_itR1, e_itR2, e_kP, e_pileSet, e_kP0, e_app', e_kA0, e_kApp', e_kA1, for_nil, e_kLoopN, e_kLoopC, e_kLoopB, e_kLoopR, e_kWhN, e_kWhC, e_kWhB, e_kWhR, e_oLc, e_yes, e_bok, e_bexc, e_bsok, e_bsexc, e_ofs, e_obs, e_oms, out_rt, out_nx, List.set_cons_zero, List.set_cons_succ, List.getElem?_cons_zero, List.getElem?_cons_succ, List.map_cons, List.map_nil, List.length_cons, List.length_nil, List.cons_append, List.nil_append, Nat.reduceAdd, Nat.reduceLeDiff, Nat.zero_add, Nat.reduceLT, good_ h.1 o1 (show w.length ≤ 100 by omega) (show o.length ≤ 100 by omega), good_ o1 h.1 (show o.length ≤ 100 by omega) (show w.length ≤ 100 by omega), Bool.not_true]
  have e : ((os.map D.str).filter fun _ => false).map id = [] := by simp
  rw [e] at lc
  unfold s5
  simp only [e_var, e_kVarV, e_kVarO, e_oVar, e_kVoV, e_kVoO, eC, e_bin, e_kBin, e_kBin2, e_oBin, e_kOBin, e_kOBin2, e_good1v, e_good1o, e_test, e_kTest, e_and, e_or, e_not, e_kAndT, e_kAndF, e_kOrT, e_kOrF, e_kNot, e_eand, e_eor, e_enot, e_kEAndT, e_kEAndF, e_kEOrT, e_kEOrF, e_kENot, e_ifE, e_kIfET, e_kIfEF, e_oV, e_kOV, e_eF, e_frzv, e_frzo, e_neg, e_kNeg, e_nil, e_cons, e_kCons, e_kCons2, e_oB1, e_kB1, e_b1V, e_kB1V, e_kGetV, e_kGetO, e_oBn, e_kBn, e_ixV, e_kIxV, e_ixAt, e_kAtS, e_kAtL, e_kAtT, e_kAtK, e_kAtP, e_pSome, e_kSome, e_pNone, e_oSl, e_kSl, e_kSl2, e_kSl3, e_oLst, e_kOL, e_tup, e_kTup, e_call, e_res, e_kResV, e_kResO, e_kResX, e_cP, e_kCP, e_cQ, e_kCQ, e_outRV, e_outRO, e_seq, e_kSeqN, e_kSeqR, e_kSeqB, e_kSeqC, e_kSeqX, e_next, e_set, e_kSet, e_good, e_kGoodV, e_kGoodO, e_kGoodX, e_asg, e_kAsg, e_rsof, e_gN, e_par, e_kPar, e_ret, e_kRet, e_drop, e_kDrop, e_if, e_kIfT, e_kIfF, e_raise, e_for, e_kFor, e_itA, e_kItA, e_itR1, e_itR2, e_kP, e_pileSet, e_kP0, e_app', e_kA0, e_kApp', e_kA1, for_nil, e_kLoopN, e_kLoopC, e_kLoopB, e_kLoopR, e_kWhN, e_kWhC, e_kWhB, e_kWhR, e_oLc, e_yes, e_bok, e_bexc, e_bsok, e_bsexc, e_ofs, e_obs, e_oms, out_rt, out_nx, List.set_cons_zero, List.set_cons_succ, List.getElem?_cons_zero, List.getElem?_cons_succ, List.map_cons, List.map_nil, List.length_cons, List.length_nil, List.cons_append, List.nil_append, Nat.reduceAdd, Nat.reduceLeDiff, Nat.zero_add, Nat.reduceLT, items, lc, nev_nil]
theorem step6 {a0 a1 a4 a5 a6 a8 : SV} {m n : Int} {ls : List Nat} {os : List (List Nat)} (ho : ∀ o ∈ os, Sw o) (hl : os.length ≤ 10) : s6 (St0 a0 a1 m ls a4 a5 a6 (.val (.lst (os.map D.str))) a8 n) = .nx (St0 a0 a1 m ls a4 a5 a6 (.val (.lst (os.map D.str))) a8 n) := by
  have lc : kLc [10] (gN 10) t6 (mVar 10) (os.map D.str ++ [D.str []]) (St0 a0 a1 m ls a4 a5 a6 (.val (.lst (os.map D.str))) a8 n) = .ok (.own (((os.map D.str ++ [D.str []]).filter fun _ => false).map id)) (St0 a0 a1 m ls a4 a5 a6 (.val (.lst (os.map D.str))) a8 n) := by
    refine lc_one (fun _ => false) id rfl (small_le (by simp; omega)) fun d hd => .inr ⟨rfl, ?_⟩
    have key : ∃ o, d = .str o ∧ isL o = true ∧ o.length ≤ 100000 := by
      rcases List.mem_append.mp hd with hd | hd
      · obtain ⟨o, ho', rfl⟩ := List.mem_map.mp hd
        exact ⟨o, rfl, (ho o ho').1.l, (ho o ho').1.s⟩
      · rw [List.mem_singleton] at hd
        exact ⟨[], hd, rfl, by simp⟩
    obtain ⟨o, rfl, h1, h2⟩ := key
    have e8 : dIsB true (.bl true) (.bl true) = some (.bl false) := rfl
    unfold t6
    simp only [e_var, e_kVarV, e_kVarO, e_oVar, e_kVoV, e_kVoO, eC, e_bin, e_kBin, e_kBin2, e_oBin, e_kOBin, e_kOBin2, e_good1v, e_good1o, e_test, e_kTest, e_and, e_or, e_not, e_kAndT, e_kAndF, e_kOrT, e_kOrF, e_kNot, e_eand, e_eor, e_enot, e_kEAndT, e_kEAndF, e_kEOrT, e_kEOrF, e_kENot, e_ifE, e_kIfET, e_kIfEF, e_oV, e_kOV, e_eF, e_frzv, e_frzo, e_neg, e_kNeg, e_nil, e_cons, e_kCons, e_kCons2, e_oB1, e_kB1, e_b1V, e_kB1V, e_kGetV, e_kGetO, e_oBn, e_kBn, e_ixV, e_kIxV, e_ixAt, e_kAtS, e_kAtL, e_kAtT, e_kAtK, e_kAtP, e_pSome, e_kSome, e_pNone, e_oSl, e_kSl, e_kSl2, e_kSl3, e_oLst, e_kOL, e_tup, e_kTup, e_call, e_res, e_kResV, e_kResO, e_kResX, e_cP, e_kCP, e_cQ, e_kCQ, e_outRV, e_outRO, e_seq, e_kSeqN, e_kSeqR, e_kSeqB, e_kSeqC, e_kSeqX, e_next, e_set, e_kSet, e_good, e_kGoodV, e_kGoodO, e_kGoodX, e_asg, e_kAsg, e_rsof, e_gN, e_par, e_kPar, e_ret, e_kRet, e_drop, e_kDrop, e_if, e_kIfT, e_kIfF, e_raise, e_for, e_kFor, e_itA, e_kItA, e_itR1, e_itR2, e_kP, e_pileSet, e_kP0, e_app', e_kA0, e_kApp', e_kA1, for_nil, e_kLoopN, e_kLoopC, e_kLoopB, e_kLoopR, e_kWhN, e_kWhC, e_kWhB, e_kWhR, e_oLc, e_yes, e_bok, e_bexc, e_bsok, e_bsexc, e_ofs, e_obs, e_oms, out_rt, out_nx, List.set_cons_zero, List.set_cons_succ, List.getElem?_cons_zero, List.getElem?_cons_succ, List.map_cons, List.map_nil, List.length_cons, List.length_nil, List.cons_append, List.nil_append, Nat.reduceAdd, Nat.reduceLeDiff, Nat.zero_add, Nat.reduceLT, is_word_str h2, h1, e8]
  have e : ((os.map D.str ++ [D.str []]).filter fun _ => false).map id = [] := by simp
  rw [e] at lc
  have ea : dAdd (.lst (os.map D.str)) (.lst [.str []]) = some (.own (os.map D.str ++ [D.str []])) := if_pos (small_le (by simp; omega))
  unfold s6
  simp only [e_var, e_kVarV, e_kVarO, e_oVar, e_kVoV, e_kVoO, eC, e_bin, e_kBin, e_kBin2, e_oBin, e_kOBin, e_kOBin2, e_good1v, e_good1o, e_test, e_kTest, e_and, e_or, e_not, e_kAndT, e_kAndF, e_kOrT, e_kOrF, e_kNot, e_eand, e_eor, e_enot, e_kEAndT, e_kEAndF, e_kEOrT, e_kEOrF, e_kENot, e_ifE, e_kIfET, e_kIfEF, e_oV, e_kOV, e_eF, e_frzv, e_frzo, e_neg, e_kNeg, e_nil, e_cons, e_kCons, e_kCons2, e_oB1, e_kB1, e_b1V, e_kB1V, e_kGetV, e_kGetO, e_oBn, e_kBn, e_ixV, e_kIxV, e_ixAt, e_kAtS, e_kAtL, e_kAtT, e_kAtK, e_kAtP, e_pSome, e_kSome, e_pNone, e_oSl, e_kSl, e_kSl2, e_kSl3, e_oLst, e_kOL, e_tup, e_kTup, e_call, e_res, e_kResV, e_kResO, e_kResX, e_cP, e_kCP, e_cQ, e_kCQ, e_outRV, e_outRO, e_seq, e_kSeqN, e_kSeqR, e_kSeqB, e_kSeqC, e_kSeqX, e_next, e_set, e_kSet, e_good, e_kGoodV, e_kGoodO, e_kGoodX, e_asg, e_kAsg, e_rsof, e_gN, e_par, e_kPar, e_ret, e_kRet, e_drop, e_kDrop, e_if, e_kIfT, e_kIfF, e_raise, e_for, e_kFor, e_itA, e_kItA, e_itR1, e_itR2, e_kP, e_pileSet, e_kP0, e_app', e_kA0, e_kApp', e_kA1, for_nil, e_kLoopN, e_kLoopC, e_kLoopB, e_kLoopR, e_kWhN, e_kWhC, e_kWhB, e_kWhR, e_oLc, e_yes, e_bok, e_bexc, e_bsok, e_bsexc, e_ofs, e_obs, e_oms, out_rt, out_nx, List.set_cons_zero, List.set_cons_succ, List.getElem?_cons_zero, List.getElem?_cons_succ, List.map_cons, List.map_nil, List.length_cons, List.length_nil, List.cons_append, List.nil_append, Nat.reduceAdd, Nat.reduceLeDiff, Nat.zero_add, Nat.reduceLT, ea, items, lc, nev_nil]
theorem in_body {a0 a1 a4 a5 a6 a7 a8 : SV} {m n : Int} {ls : List Nat} (hs : Ls ls) : ∃ m' b5 b6 b7, inBody (St0 a0 a1 m ls a4 a5 a6 a7 a8 n) = .nx (St0 a0 a1 m' ls a4 b5 b6 b7 a8 n) := by
  obtain ⟨w, m1, e1, hw, hwl⟩ := step1 (a0 := a0) (a1 := a1) (a4 := a4) (a5 := a5) (a6 := a6) (a7 := a7) (a8 := a8) (m := m) (n := n) hs
  obtain ⟨v, m2, e2, hv, hvl⟩ := step2 (a0 := a0) (a1 := a1) (a4 := a4) (a6 := a6) (a7 := a7) (a8 := a8) (m := m1) (n := n) (ls := ls) hw
  obtain ⟨o, p, m3, e3, ho, hp⟩ := step3 (a0 := a0) (a1 := a1) (a4 := a4) (a7 := a7) (a8 := a8) (m := m2) (n := n) (v := v) hs hw hwl
  obtain ⟨q, e4, hq⟩ := step4 (a0 := a0) (a1 := a1) (a4 := a4) (a5 := .val (.str w)) (a8 := a8) (m := m3) (n := n) (o := o) (p := p) hs hv hvl
  have hall : ∀ x ∈ [o, v, p, q], Sw x := by
    intro x hx
    simp only [List.mem_cons, List.not_mem_nil, or_false] at hx
    rcases hx with rfl | rfl | rfl | rfl
    · exact ho
    · exact ⟨hv, by omega⟩
    · exact hp
    · exact hq
  have e5 := step5 (a0 := a0) (a1 := a1) (a4 := a4) (a6 := .val (.str v)) (a8 := a8) (m := m3) (n := n) (ls := ls) (w := w) (os := [o, v, p, q]) ⟨hw, by omega⟩ hall (by simp)
  have e6 := step6 (a0 := a0) (a1 := a1) (a4 := a4) (a5 := .val (.str w)) (a6 := .val (.str v)) (a8 := a8) (m := m3) (n := n) (ls := ls) (os := [o, v, p, q]) hall (by simp)
  refine ⟨m3, .val (.str w), .val (.str v), .val (.lst ([o, v, p, q].map D.str)), ?_⟩
  unfold inBody
  rw [e_seq, e1, e_kSeqN, e_seq, e2, e_kSeqN, e_seq, e3, e_kSeqN, e_seq, e4, e_kSeqN, e_seq]
  have e5' : s5 (St0 a0 a1 m3 ls a4 (.val (.str w)) (.val (.str v)) (.own [.str o, .str v, .str p, .str q]) a8 n) = _ := e5
  rw [e5', e_kSeqN, e6]
theorem in_loop {a0 a1 a8 : SV} {n : Int} {ls : List Nat} (hs : Ls ls) : ∀ (ds : List D) (a4 a5 a6 a7 : SV) (m : Int), ∃ m' b4 b5 b6 b7, forLoop (gN 4) inBody ds (St0 a0 a1 m ls a4 a5 a6 a7 a8 n) = .nx (St0 a0 a1 m' ls b4 b5 b6 b7 a8 n)
  | [], a4, a5, a6, a7, m => ⟨m, a4, a5, a6, a7, rfl⟩
  | d :: r, a4, a5, a6, a7, m => by
    rw [for_cons rfl]
    obtain ⟨m1, b5, b6, b7, e⟩ := in_body (a0 := a0) (a1 := a1) (a4 := .val d) (a5 := a5) (a6 := a6) (a7 := a7) (a8 := a8) (m := m) (n := n) hs
    have e' : inBody ⟨([a0, a1, .own [.int m], .val (.str ls), a4, a5, a6, a7, a8, .no, .no, .no] : List SV).set 4 (.val d), n⟩ = _ := e
    rw [e', e_kLoopN]
    exact in_loop hs r _ _ _ _ _
def outBody : SM := (mSeq (mSet 2 (good (oCall m__law_pile (aCons (mVar 0) (aCons (mVar 1) aNil)))))
  (mSeq (mSet 3 (good (oCallR 2 m__law_letters aNil)))
  (mFor (itR1 (aCons (mC (.int 4)) aNil)) (gN 4) inBody)))
abbrev St1 (ns : List Int) (a1 a2 a3 a4 a5 a6 a7 a8 : SV) (n : Int) : S := ⟨[.val (.kst (ns.map .int)), a1, a2, a3, a4, a5, a6, a7, a8, .no, .no, .no], n⟩
theorem out_body {ns : List Int} {t : Nat} {a2 a3 a4 a5 a6 a7 a8 : SV} {n : Int} (ht : t < 100) : ∃ b2 b3 b4 b5 b6 b7, outBody (St1 ns (.val (.int (t : Int))) a2 a3 a4 a5 a6 a7 a8 n) = .nx (St1 ns (.val (.int (t : Int))) b2 b3 b4 b5 b6 b7 a8 n) := by
  obtain ⟨m, e1⟩ := pile (ns := ns) (n := n) ht
  obtain ⟨ls, m1, e2, hs⟩ := letters_ (m := m)
  obtain ⟨m2, b4, b5, b6, b7, e3⟩ := in_loop (a0 := .val (.kst (ns.map .int))) (a1 := .val (.int (t : Int))) (a8 := a8) (n := n) hs (dInts 0 4) a4 a5 a6 a7 m1
  have e5 : ∀ s, kR1 [.int 4] s = .ok (dInts 0 4) s := fun s => e_kR1 ⟨by decide, by decide⟩
  refine ⟨.own [.int m2], .val (.str ls), b4, b5, b6, b7, ?_⟩
  unfold outBody
  simp only [e_var, e_kVarV, e_kVarO, e_oVar, e_kVoV, e_kVoO, eC, e_bin, e_kBin, e_kBin2, e_oBin, e_kOBin, e_kOBin2, e_good1v, e_good1o, e_test, e_kTest, e_and, e_or, e_not, e_kAndT, e_kAndF, e_kOrT, e_kOrF, e_kNot, e_eand, e_eor, e_enot, e_kEAndT, e_kEAndF, e_kEOrT, e_kEOrF, e_kENot, e_ifE, e_kIfET, e_kIfEF, e_oV, e_kOV, e_eF, e_frzv, e_frzo, e_neg, e_kNeg, e_nil, e_cons, e_kCons, e_kCons2, e_oB1, e_kB1, e_b1V, e_kB1V, e_kGetV, e_kGetO, e_oBn, e_kBn, e_ixV, e_kIxV, e_ixAt, e_kAtS, e_kAtL, e_kAtT, e_kAtK, e_kAtP, e_pSome, e_kSome, e_pNone, e_oSl, e_kSl, e_kSl2, e_kSl3, e_oLst, e_kOL, e_tup, e_kTup, e_call, e_res, e_kResV, e_kResO, e_kResX, e_cP, e_kCP, e_cQ, e_kCQ, e_outRV, e_outRO, e_seq, e_kSeqN, e_kSeqR, e_kSeqB, e_kSeqC, e_kSeqX, e_next, e_set, e_kSet, e_good, e_kGoodV, e_kGoodO, e_kGoodX, e_asg, e_kAsg, e_rsof, e_gN, e_par, e_kPar, e_ret, e_kRet, e_drop, e_kDrop, e_if, e_kIfT, e_kIfF, e_raise, e_for, e_kFor, e_itA, e_kItA, e_itR1, e_itR2, e_kP, e_pileSet, e_kP0, e_app', e_kA0, e_kApp', e_kA1, for_nil, e_kLoopN, e_kLoopC, e_kLoopB, e_kLoopR, e_kWhN, e_kWhC, e_kWhB, e_kWhR, e_oLc, e_yes, e_bok, e_bexc, e_bsok, e_bsexc, e_ofs, e_obs, e_oms, out_rt, out_nx, List.set_cons_zero, List.set_cons_succ, List.getElem?_cons_zero, List.getElem?_cons_succ, List.map_cons, List.map_nil, List.length_cons, List.length_nil, List.cons_append, List.nil_append, Nat.reduceAdd, Nat.reduceLeDiff, Nat.zero_add, Nat.reduceLT, e1, e2, e5, noPiles, noPile, if_true, e3]
theorem out_loop {ns : List Int} {n : Int} : ∀ (k i : Nat) (a1 a2 a3 a4 a5 a6 a7 a8 : SV), i + k ≤ 100 → ∃ b1 b2 b3 b4 b5 b6 b7, forLoop (gN 1) outBody (dInts (i : Int) k) (St1 ns a1 a2 a3 a4 a5 a6 a7 a8 n) = .nx (St1 ns b1 b2 b3 b4 b5 b6 b7 a8 n)
  | 0, i, a1, a2, a3, a4, a5, a6, a7, a8, _ => ⟨a1, a2, a3, a4, a5, a6, a7, rfl⟩
  | k + 1, i, a1, a2, a3, a4, a5, a6, a7, a8, hk => by
    rw [dInts_succ, for_cons rfl]
    obtain ⟨b2, b3, b4, b5, b6, b7, e⟩ := out_body (ns := ns) (t := i) (a2 := a2) (a3 := a3) (a4 := a4) (a5 := a5) (a6 := a6) (a7 := a7) (a8 := a8) (n := n) (by omega)
    have e' : outBody ⟨([.val (.kst (ns.map .int)), a1, a2, a3, a4, a5, a6, a7, a8, .no, .no, .no] : List SV).set 1 (.val (.int (i : Int))), n⟩ = _ := e
    rw [e', e_kLoopN]
    exact out_loop k (i + 1) _ _ _ _ _ _ _ _ (by omega)
end Pd

/-! the plain law of k01: the whole -/
namespace Pd
open PySem L2

def w1 : List Nat := [116, 104, 101, 113, 117, 105, 99, 107, 98, 114, 111, 119, 110, 102, 111, 120, 106, 117, 109, 112, 115, 111, 118, 101, 114, 116, 104, 101, 108, 97, 122, 121, 100, 111, 103]
def w2 : List Nat := repS 20 [97] ++ [98]
def w3 : List Nat := repS 19 [97, 98] ++ [98]
theorem w1_wd : Wd w1 := ⟨by decide +kernel, by decide, by decide⟩
theorem w2_wd : Wd w2 := ⟨by decide +kernel, by decide, by decide⟩
theorem w3_wd : Wd w3 := ⟨by decide +kernel, by decide, by decide⟩
theorem w1_root : rootW w1 = w1 := by decide +kernel
theorem w2_root : rootW w2 = w2 := by decide +kernel
theorem w3_root : rootW w3 = w3 := by decide +kernel
def foxBody : SM := (mIfS (mOr (mTest (mBin dNev (eF (oCall m_root (aCons (eF (oBin dAdd (mVar 8) (mVar 8))) aNil))) (mVar 8))) (mOr (mTest (mBin dNev (eF (oCall m_root (aCons (mVar 8) aNil))) (mVar 8))) (mOr (mTest (mBin dNev (eF (oCall m_root (aCons (eF (oBin dMul (mVar 8) (mC (.int 3)))) aNil))) (mVar 8))) (mTest (mBin (dIsN true) (eF (oCall m_together (aCons (mVar 8) (aCons (eF (oBin dAdd (mVar 8) (mVar 8))) aNil)))) (mC .non)))))) (mRet (oV (mC (.bl false)))) mNext)
theorem fox_body {ns : List Int} {a1 a2 a3 a4 a5 a6 a7 : SV} {n : Int} {w : List Nat} (h : Wd w) (hr : rootW w = w) (hl : w.length ≤ 100) : foxBody (St1 ns a1 a2 a3 a4 a5 a6 a7 (.val (.str w)) n) = .nx (St1 ns a1 a2 a3 a4 a5 a6 a7 (.val (.str w)) n) := by
  have hww : Wd (w ++ w) := wd_app h h (by omega)
  have e1 : rootW (w ++ w) = w := (root_two h.n).trans hr
  have e2 : rootW (repS 3 w) = w := (root_rep h.n (by omega)).trans hr
  have e3 : dMul (.str w) (.int 3) = some (.val (.str (repS 3 w))) := d_mul (k := 3) (by omega) (by omega) (by omega)
  have h3 : Wd (repS 3 w) := ⟨inL_rep h.l 3, by
    rw [repS_succ]
    intro z
    exact h.n (List.append_eq_nil_iff.mp z).1, by rw [repS_len]; omega⟩
  have e4 : sh w (w ++ w) = none := sh_none h.n hww.n (by rw [e1, hr])
  have e5 : dIsN true (shD none) .non = some (.bl false) := rfl
  unfold foxBody
  simp only [e_var, e_kVarV, e_kVarO, e_oVar, e_kVoV, e_kVoO, eC, e_bin, e_kBin, e_kBin2, e_oBin, e_kOBin, e_kOBin2, e_good1v, e_good1o, e_test, e_kTest, e_and, e_or, e_not, e_kAndT, e_kAndF, e_kOrT, e_kOrF, e_kNot, e_eand, e_eor, e_enot, e_kEAndT, e_kEAndF, e_kEOrT, e_kEOrF, e_kENot, e_ifE, e_kIfET, e_kIfEF, e_oV, e_kOV, e_eF, e_frzv, e_frzo, e_neg, e_kNeg, e_nil, e_cons, e_kCons, e_kCons2, e_oB1, e_kB1, e_b1V, e_kB1V, e_kGetV, e_kGetO, e_oBn, e_kBn, e_ixV, e_kIxV, e_ixAt, e_kAtS, e_kAtL, e_kAtT, e_kAtK, e_kAtP, e_pSome, e_kSome, e_pNone, e_oSl, e_kSl, e_kSl2, e_kSl3, e_oLst, e_kOL, e_tup, e_kTup, e_call, e_res, e_kResV, e_kResO, e_kResX, e_cP, e_kCP, e_cQ, e_kCQ, e_outRV, e_outRO, e_seq, e_kSeqN, e_kSeqR, e_kSeqB, e_kSeqC, e_kSeqX, e_next, e_set, e_kSet, e_good, e_kGoodV, e_kGoodO, e_kGoodX, e_asg, e_kAsg, e_rsof, e_gN, e_par, e_kPar, e_ret, e_kRet, e_drop, e_kDrop, e_if, e_kIfT, e_kIfF, e_raise, e_for, e_kFor, e_itA, e_kItA, e_itR1, e_itR2, e_kP, e_pileSet, e_kP0, e_app', e_kA0, e_kApp', e_kA1, for_nil, e_kLoopN, e_kLoopC, e_kLoopB, e_kLoopR, e_kWhN, e_kWhC, e_kWhB, e_kWhR, e_oLc, e_yes, e_bok, e_bexc, e_bsok, e_bsexc, e_ofs, e_obs, e_oms, out_rt, out_nx, List.set_cons_zero, List.set_cons_succ, List.getElem?_cons_zero, List.getElem?_cons_succ, List.map_cons, List.map_nil, List.length_cons, List.length_nil, List.cons_append, List.nil_append, Nat.reduceAdd, Nat.reduceLeDiff, Nat.zero_add, Nat.reduceLT, d_adds (show w.length + w.length ≤ 1000000 by omega), root h, root hww, root h3, e1, e2, e3, hr, nev_self (okS_of h.l), together h hww (show w.length + (w ++ w).length ≤ 100000 by rw [List.length_append]; omega), e4, e5]
theorem fox_loop {ns : List Int} {a1 a2 a3 a4 a5 a6 a7 : SV} {n : Int} : ∀ (ws : List (List Nat)) (a8 : SV), (∀ w ∈ ws, Wd w ∧ rootW w = w ∧ w.length ≤ 100) → ∃ b8, forLoop (gN 8) foxBody (ws.map D.str) (St1 ns a1 a2 a3 a4 a5 a6 a7 a8 n) = .nx (St1 ns a1 a2 a3 a4 a5 a6 a7 b8 n)
  | [], a8, _ => ⟨a8, rfl⟩
  | w :: r, a8, h => by
    rw [List.map_cons, for_cons rfl]
    obtain ⟨h1, h2, h3⟩ := h w (List.mem_cons_self ..)
    have e := fox_body (ns := ns) (a1 := a1) (a2 := a2) (a3 := a3) (a4 := a4) (a5 := a5) (a6 := a6) (a7 := a7) (n := n) h1 h2 h3
    have e' : foxBody ⟨([.val (.kst (ns.map .int)), a1, a2, a3, a4, a5, a6, a7, a8, .no, .no, .no] : List SV).set 8 (.val (.str w)), n⟩ = _ := e
    rw [e', e_kLoopN]
    exact fox_loop r _ fun w hw => h w (List.mem_cons_of_mem _ hw)
def badL : List D := [.non, .int 0, .bl true, .tup [], .lst [], .lst [.str [97]], .tup [.str [97]], .str [65], .str [97, 32, 98], .str [97, 63], .str [63], .str [97, 49], .str [97, 98, 10], .str [32], .str [45], .str [97, 66]]
theorem bad_words {n : Int} : m__law_bad_words [] n = .ok (.own badL) n := by
  unfold m__law_bad_words
  refine (mk_ev (by rfl)).trans ?_
  show outF (b__law_bad_words ⟨[], n⟩) = _
  unfold b__law_bad_words badL
  simp only [e_var, e_kVarV, e_kVarO, e_oVar, e_kVoV, e_kVoO, eC, e_bin, e_kBin, e_kBin2, e_oBin, e_kOBin, e_kOBin2, e_good1v, e_good1o, e_test, e_kTest, e_and, e_or, e_not, e_kAndT, e_kAndF, e_kOrT, e_kOrF, e_kNot, e_eand, e_eor, e_enot, e_kEAndT, e_kEAndF, e_kEOrT, e_kEOrF, e_kENot, e_ifE, e_kIfET, e_kIfEF, e_oV, e_kOV, e_eF, e_frzv, e_frzo, e_neg, e_kNeg, e_nil, e_cons, e_kCons, e_kCons2, e_oB1, e_kB1, e_b1V, e_kB1V, e_kGetV, e_kGetO, e_oBn, e_kBn, e_ixV, e_kIxV, e_ixAt, e_kAtS, e_kAtL, e_kAtT, e_kAtK, e_kAtP, e_pSome, e_kSome, e_pNone, e_oSl, e_kSl, e_kSl2, e_kSl3, e_oLst, e_kOL, e_tup, e_kTup, e_call, e_res, e_kResV, e_kResO, e_kResX, e_cP, e_kCP, e_cQ, e_kCQ, e_outRV, e_outRO, e_seq, e_kSeqN, e_kSeqR, e_kSeqB, e_kSeqC, e_kSeqX, e_next, e_set, e_kSet, e_good, e_kGoodV, e_kGoodO, e_kGoodX, e_asg, e_kAsg, e_rsof, e_gN, e_par, e_kPar, e_ret, e_kRet, e_drop, e_kDrop, e_if, e_kIfT, e_kIfF, e_raise, e_for, e_kFor, e_itA, e_kItA, e_itR1, e_itR2, e_kP, e_pileSet, e_kP0, e_app', e_kA0, e_kApp', e_kA1, for_nil, e_kLoopN, e_kLoopC, e_kLoopB, e_kLoopR, e_kWhN, e_kWhC, e_kWhB, e_kWhR, e_oLc, e_yes, e_bok, e_bexc, e_bsok, e_bsexc, e_ofs, e_obs, e_oms, out_rt, out_nx, List.set_cons_zero, List.set_cons_succ, List.getElem?_cons_zero, List.getElem?_cons_succ, List.map_cons, List.map_nil, List.length_cons, List.length_nil, List.cons_append, List.nil_append, Nat.reduceAdd, Nat.reduceLeDiff, Nat.zero_add, Nat.reduceLT]
theorem bad_not {d : D} {n : Int} (h : d ∈ badL) : m_is_word [d] n = .ok (.val (.bl false)) n := by
  have k1 : kitB "NoneType" "str" = some false := by decide +kernel
  have k2 : kitB "int" "str" = some false := by decide +kernel
  have k3 : kitB "bool" "str" = some false := by decide +kernel
  have k4 : kitB "tuple" "str" = some false := by decide +kernel
  have k5 : kitB "list" "str" = some false := by decide +kernel
  unfold badL at h
  simp only [List.mem_cons, List.not_mem_nil, or_false] at h
  have s : ∀ w : List Nat, w.length ≤ 100000 → isL w = false → m_is_word [.str w] n = .ok (.val (.bl false)) n := fun w h1 h2 => by
    rw [is_word_str h1, h2]
  rcases h with rfl | rfl | rfl | rfl | rfl | rfl | rfl | rfl | rfl | rfl | rfl | rfl | rfl | rfl | rfl | rfl
  · exact is_word_not rfl k1
  · exact is_word_not rfl k2
  · exact is_word_not rfl k3
  · exact is_word_not rfl k4
  · exact is_word_not rfl k5
  · exact is_word_not rfl k5
  · exact is_word_not rfl k4
  all_goals exact s _ (by decide) (by decide)
def t7 : TM := (mTest (mBin (dIsB true) (eF (oCall m_is_word (aCons (mVar 11) aNil))) (mC (.bl false))))
def p7 : SM := (mIfS (mTest (mBin dNev (eF (oLc [11] (itA (eF (oCall m__law_bad_words aNil))) (gN 11) t7 (mVar 11))) (eF (oLst aNil)))) (mRet (oV (mC (.bl false)))) mNext)
theorem part7 {ns : List Int} {a1 a2 a3 a4 a5 a6 a7 a8 : SV} {n : Int} : p7 (St1 ns a1 a2 a3 a4 a5 a6 a7 a8 n) = .nx (St1 ns a1 a2 a3 a4 a5 a6 a7 a8 n) := by
  have lc : kLc [11] (gN 11) t7 (mVar 11) badL (St1 ns a1 a2 a3 a4 a5 a6 a7 a8 n) = .ok (.own ((badL.filter fun _ => false).map id)) (St1 ns a1 a2 a3 a4 a5 a6 a7 a8 n) := by
    refine lc_one (fun _ => false) id rfl (small_le (by decide)) fun d hd => .inr ⟨rfl, ?_⟩
    have e8 : dIsB true (.bl false) (.bl false) = some (.bl false) := rfl
    unfold t7
    simp only [e_var, e_kVarV, e_kVarO, e_oVar, e_kVoV, e_kVoO, eC, e_bin, e_kBin, e_kBin2, e_oBin, e_kOBin, e_kOBin2, e_good1v, e_good1o, e_test, e_kTest, e_and, e_or, e_not, e_kAndT, e_kAndF, e_kOrT, e_kOrF, e_kNot, e_eand, e_eor, e_enot, e_kEAndT, e_kEAndF, e_kEOrT, e_kEOrF, e_kENot, e_ifE, e_kIfET, e_kIfEF, e_oV, e_kOV, e_eF, e_frzv, e_frzo, e_neg, e_kNeg, e_nil, e_cons, e_kCons, e_kCons2, e_oB1, e_kB1, e_b1V, e_kB1V, e_kGetV, e_kGetO, e_oBn, e_kBn, e_ixV, e_kIxV, e_ixAt, e_kAtS, e_kAtL, e_kAtT, e_kAtK, e_kAtP, e_pSome, e_kSome, e_pNone, e_oSl, e_kSl, e_kSl2, e_kSl3, e_oLst, e_kOL, e_tup, e_kTup, e_call, e_res, e_kResV, e_kResO, e_kResX, e_cP, e_kCP, e_cQ, e_kCQ, e_outRV, e_outRO, e_seq, e_kSeqN, e_kSeqR, e_kSeqB, e_kSeqC, e_kSeqX, e_next, e_set, e_kSet, e_good, e_kGoodV, e_kGoodO, e_kGoodX, e_asg, e_kAsg, e_rsof, e_gN, e_par, e_kPar, e_ret, e_kRet, e_drop, e_kDrop, e_if, e_kIfT, e_kIfF, e_raise, e_for, e_kFor, e_itA, e_kItA, e_itR1, e_itR2, e_kP, e_pileSet, e_kP0, e_app', e_kA0, e_kApp', e_kA1, for_nil, e_kLoopN, e_kLoopC, e_kLoopB, e_kLoopR, e_kWhN, e_kWhC, e_kWhB, e_kWhR, e_oLc, e_yes, e_bok, e_bexc, e_bsok, e_bsexc, e_ofs, e_obs, e_oms, out_rt, out_nx, List.set_cons_zero, List.set_cons_succ, List.getElem?_cons_zero, List.getElem?_cons_succ, List.map_cons, List.map_nil, List.length_cons, List.length_nil, List.cons_append, List.nil_append, Nat.reduceAdd, Nat.reduceLeDiff, Nat.zero_add, Nat.reduceLT, bad_not hd, e8]
  have e : (badL.filter fun _ => false).map id = [] := by simp
  rw [e] at lc
  unfold p7
  simp only [e_var, e_kVarV, e_kVarO, e_oVar, e_kVoV, e_kVoO, eC, e_bin, e_kBin, e_kBin2, e_oBin, e_kOBin, e_kOBin2, e_good1v, e_good1o, e_test, e_kTest, e_and, e_or, e_not, e_kAndT, e_kAndF, e_kOrT, e_kOrF, e_kNot, e_eand, e_eor, e_enot, e_kEAndT, e_kEAndF, e_kEOrT, e_kEOrF, e_kENot, e_ifE, e_kIfET, e_kIfEF, e_oV, e_kOV, e_eF, e_frzv, e_frzo, e_neg, e_kNeg, e_nil, e_cons, e_kCons, e_kCons2, e_oB1, e_kB1, e_b1V, e_kB1V, e_kGetV, e_kGetO, e_oBn, e_kBn, e_ixV, e_kIxV, e_ixAt, e_kAtS, e_kAtL, e_kAtT, e_kAtK, e_kAtP, e_pSome, e_kSome, e_pNone, e_oSl, e_kSl, e_kSl2, e_kSl3, e_oLst, e_kOL, e_tup, e_kTup, e_call, e_res, e_kResV, e_kResO, e_kResX, e_cP, e_kCP, e_cQ, e_kCQ, e_outRV, e_outRO, e_seq, e_kSeqN, e_kSeqR, e_kSeqB, e_kSeqC, e_kSeqX, e_next, e_set, e_kSet, e_good, e_kGoodV, e_kGoodO, e_kGoodX, e_asg, e_kAsg, e_rsof, e_gN, e_par, e_kPar, e_ret, e_kRet, e_drop, e_kDrop, e_if, e_kIfT, e_kIfF, e_raise, e_for, e_kFor, e_itA, e_kItA, e_itR1, e_itR2, e_kP, e_pileSet, e_kP0, e_app', e_kA0, e_kApp', e_kA1, for_nil, e_kLoopN, e_kLoopC, e_kLoopB, e_kLoopR, e_kWhN, e_kWhC, e_kWhB, e_kWhR, e_oLc, e_yes, e_bok, e_bexc, e_bsok, e_bsexc, e_ofs, e_obs, e_oms, out_rt, out_nx, List.set_cons_zero, List.set_cons_succ, List.getElem?_cons_zero, List.getElem?_cons_succ, List.map_cons, List.map_nil, List.length_cons, List.length_nil, List.cons_append, List.nil_append, Nat.reduceAdd, Nat.reduceLeDiff, Nat.zero_add, Nat.reduceLT, bad_words, items, lc, nev_nil]
def p8 : SM := (mFor (itA (eF (oLst (aCons (mC (.str [116, 104, 101, 113, 117, 105, 99, 107, 98, 114, 111, 119, 110, 102, 111, 120, 106, 117, 109, 112, 115, 111, 118, 101, 114, 116, 104, 101, 108, 97, 122, 121, 100, 111, 103])) (aCons (eF (oBin dAdd (eF (oBin dMul (mC (.str [97])) (mC (.int 20)))) (mC (.str [98])))) (aCons (eF (oBin dAdd (eF (oBin dMul (mC (.str [97, 98])) (mC (.int 19)))) (mC (.str [98])))) aNil)))))) (gN 8) foxBody)
theorem part8 {ns : List Int} {a1 a2 a3 a4 a5 a6 a7 a8 : SV} {n : Int} : ∃ b8, p8 (St1 ns a1 a2 a3 a4 a5 a6 a7 a8 n) = .nx (St1 ns a1 a2 a3 a4 a5 a6 a7 b8 n) := by
  obtain ⟨b8, h⟩ := fox_loop (ns := ns) (a1 := a1) (a2 := a2) (a3 := a3) (a4 := a4) (a5 := a5) (a6 := a6) (a7 := a7) (n := n) [w1, w2, w3] a8 (by
    intro w hw
    simp only [List.mem_cons, List.not_mem_nil, or_false] at hw
    rcases hw with rfl | rfl | rfl
    · exact ⟨w1_wd, w1_root, by decide⟩
    · exact ⟨w2_wd, w2_root, by decide⟩
    · exact ⟨w3_wd, w3_root, by decide⟩)
  refine ⟨b8, ?_⟩
  have h' : forLoop (gN 8) foxBody [.str [116, 104, 101, 113, 117, 105, 99, 107, 98, 114, 111, 119, 110, 102, 111, 120, 106, 117, 109, 112, 115, 111, 118, 101, 114, 116, 104, 101, 108, 97, 122, 121, 100, 111, 103], .str (repS 20 [97] ++ [98]), .str (repS 19 [97, 98] ++ [98])] (St1 ns a1 a2 a3 a4 a5 a6 a7 a8 n) = _ := h
  have e1 : dMul (.str [97]) (.int 20) = some (.val (.str (repS 20 [97]))) := d_mul (k := 20) (by omega) (by decide) (by decide)
  have e2 : dMul (.str [97, 98]) (.int 19) = some (.val (.str (repS 19 [97, 98]))) := d_mul (k := 19) (by omega) (by decide) (by decide)
  have e3 : dAdd (.str (repS 20 [97])) (.str [98]) = _ := d_adds (by decide)
  have e4 : dAdd (.str (repS 19 [97, 98])) (.str [98]) = _ := d_adds (by decide)
  unfold p8
  simp only [e_var, e_kVarV, e_kVarO, e_oVar, e_kVoV, e_kVoO, eC, e_bin, e_kBin, e_kBin2, e_oBin, e_kOBin, e_kOBin2, e_good1v, e_good1o, e_test, e_kTest, e_and, e_or, e_not, e_kAndT, e_kAndF, e_kOrT, e_kOrF, e_kNot, e_eand, e_eor, e_enot, e_kEAndT, e_kEAndF, e_kEOrT, e_kEOrF, e_kENot, e_ifE, e_kIfET, e_kIfEF, e_oV, e_kOV, e_eF, e_frzv, e_frzo, e_neg, e_kNeg, e_nil, e_cons, e_kCons, e_kCons2, e_oB1, e_kB1, e_b1V, e_kB1V, e_kGetV, e_kGetO, e_oBn, e_kBn, e_ixV, e_kIxV, e_ixAt, e_kAtS, e_kAtL, e_kAtT, e_kAtK, e_kAtP, e_pSome, e_kSome, e_pNone, e_oSl, e_kSl, e_kSl2, e_kSl3, e_oLst, e_kOL, e_tup, e_kTup, e_call, e_res, e_kResV, e_kResO, e_kResX, e_cP, e_kCP, e_cQ, e_kCQ, e_outRV, e_outRO, e_seq, e_kSeqN, e_kSeqR, e_kSeqB, e_kSeqC, e_kSeqX, e_next, e_set, e_kSet, e_good, e_kGoodV, e_kGoodO, e_kGoodX, e_asg, e_kAsg, e_rsof, e_gN, e_par, e_kPar, e_ret, e_kRet, e_drop, e_kDrop, e_if, e_kIfT, e_kIfF, e_raise, e_for, e_kFor, e_itA, e_kItA, e_itR1, e_itR2, e_kP, e_pileSet, e_kP0, e_app', e_kA0, e_kApp', e_kA1, for_nil, e_kLoopN, e_kLoopC, e_kLoopB, e_kLoopR, e_kWhN, e_kWhC, e_kWhB, e_kWhR, e_oLc, e_yes, e_bok, e_bexc, e_bsok, e_bsexc, e_ofs, e_obs, e_oms, out_rt, out_nx, List.set_cons_zero, List.set_cons_succ, List.getElem?_cons_zero, List.getElem?_cons_succ, List.map_cons, List.map_nil, List.length_cons, List.length_nil, List.cons_append, List.nil_append, Nat.reduceAdd, Nat.reduceLeDiff, Nat.zero_add, Nat.reduceLT, e1, e2, e3, e4, items, h']
def p9 : SM := (mIfS (mOr (mTest (mBin dNev (eF (oCall m_begin (aCons (mC (.str [97, 98, 99])) (aCons (mC (.int 4000)) aNil)))) (eF (oBin dAdd (eF (oBin dMul (mC (.str [97, 98, 99])) (mC (.int 1333)))) (mC (.str [97])))))) (mTest (mBin dNev (eF (oCall m_begin (aCons (eF (oBin dMul (mC (.str [97, 98])) (mC (.int 20)))) (aCons (mC (.int 4000)) aNil)))) (eF (oBin dMul (mC (.str [97, 98])) (mC (.int 2000))))))) (mRet (oV (mC (.bl false)))) mNext)
theorem part9 {s : S} : p9 s = .nx s := by
  obtain ⟨l, n⟩ := s
  have h1 : Wd [97, 98, 99] := ⟨by decide, by decide, by decide⟩
  have h2 : Wd [97, 98] := ⟨by decide, by decide, by decide⟩
  have h3 : Wd (repS 20 [97, 98]) := ⟨inL_rep h2.l 20, by decide, by decide⟩
  have e1 : m_begin [.str [97, 98, 99], .int 4000] n = .ok (.val (.str (beg [97, 98, 99] 4000))) n := begin_ (k := 4000) h1 (by omega)
  have e2 : m_begin [.str (repS 20 [97, 98]), .int 4000] n = .ok (.val (.str (beg (repS 20 [97, 98]) 4000))) n := begin_ (k := 4000) h3 (by omega)
  have e3 : dMul (.str [97, 98, 99]) (.int 1333) = some (.val (.str (repS 1333 [97, 98, 99]))) := d_mul (k := 1333) (by omega) (by decide) (by decide)
  have e4 : dMul (.str [97, 98]) (.int 20) = some (.val (.str (repS 20 [97, 98]))) := d_mul (k := 20) (by omega) (by decide) (by decide)
  have e5 : dMul (.str [97, 98]) (.int 2000) = some (.val (.str (repS 2000 [97, 98]))) := d_mul (k := 2000) (by omega) (by decide) (by decide)
  have e6 : dAdd (.str (repS 1333 [97, 98, 99])) (.str [97]) = some (.val (.str (repS 1333 [97, 98, 99] ++ [97]))) := d_adds (by rw [repS_len]; decide)
  have f1 : beg [97, 98, 99] 4000 = repS 1333 [97, 98, 99] ++ [97] := by
    have g1 : repS 1334 [97, 98, 99] = repS 1333 [97, 98, 99] ++ [97, 98, 99] := by rw [show 1334 = 1333 + 1 from rfl, repS_add, repS_one]
    have g2 : repS 1334 [97, 98, 99] = beg [97, 98, 99] 4002 := repS_beg _ _
    rw [← beg_take [97, 98, 99] (show 4000 ≤ 4002 by omega), ← g2, g1, List.take_append]
    have g3 : (repS 1333 [97, 98, 99]).length = 3999 := by rw [repS_len]; rfl
    rw [g3, List.take_of_length_le (by rw [g3]; omega)]
    rfl
  have f2 : beg (repS 20 [97, 98]) 4000 = repS 2000 [97, 98] := by
    rw [show 2000 = 100 * 20 from rfl, ← repS_mul, repS_beg (repS 20 [97, 98])]
    rfl
  have o1 : okS (repS 1333 [97, 98, 99] ++ [97]) = true := okS_of (inL_app (inL_rep h1.l _) (by decide))
  have o2 : okS (repS 2000 [97, 98]) = true := okS_of (inL_rep h2.l _)
  unfold p9
  simp only [e_var, e_kVarV, e_kVarO, e_oVar, e_kVoV, e_kVoO, eC, e_bin, e_kBin, e_kBin2, e_oBin, e_kOBin, e_kOBin2, e_good1v, e_good1o, e_test, e_kTest, e_and, e_or, e_not, e_kAndT, e_kAndF, e_kOrT, e_kOrF, e_kNot, e_eand, e_eor, e_enot, e_kEAndT, e_kEAndF, e_kEOrT, e_kEOrF, e_kENot, e_ifE, e_kIfET, e_kIfEF, e_oV, e_kOV, e_eF, e_frzv, e_frzo, e_neg, e_kNeg, e_nil, e_cons, e_kCons, e_kCons2, e_oB1, e_kB1, e_b1V, e_kB1V, e_kGetV, e_kGetO, e_oBn, e_kBn, e_ixV, e_kIxV, e_ixAt, e_kAtS, e_kAtL, e_kAtT, e_kAtK, e_kAtP, e_pSome, e_kSome, e_pNone, e_oSl, e_kSl, e_kSl2, e_kSl3, e_oLst, e_kOL, e_tup, e_kTup, e_call, e_res, e_kResV, e_kResO, e_kResX, e_cP, e_kCP, e_cQ, e_kCQ, e_outRV, e_outRO, e_seq, e_kSeqN, e_kSeqR, e_kSeqB, e_kSeqC, e_kSeqX, e_next, e_set, e_kSet, e_good, e_kGoodV, e_kGoodO, e_kGoodX, e_asg, e_kAsg, e_rsof, e_gN, e_par, e_kPar, e_ret, e_kRet, e_drop, e_kDrop, e_if, e_kIfT, e_kIfF, e_raise, e_for, e_kFor, e_itA, e_kItA, e_itR1, e_itR2, e_kP, e_pileSet, e_kP0, e_app', e_kA0, e_kApp', e_kA1, for_nil, e_kLoopN, e_kLoopC, e_kLoopB, e_kLoopR, e_kWhN, e_kWhC, e_kWhB, e_kWhR, e_oLc, e_yes, e_bok, e_bexc, e_bsok, e_bsexc, e_ofs, e_obs, e_oms, out_rt, out_nx, List.set_cons_zero, List.set_cons_succ, List.getElem?_cons_zero, List.getElem?_cons_succ, List.map_cons, List.map_nil, List.length_cons, List.length_nil, List.cons_append, List.nil_append, Nat.reduceAdd, Nat.reduceLeDiff, Nat.zero_add, Nat.reduceLT, e1, e2, e3, e4, e5, e6, f1, f2, nev_self o1, nev_self o2]
def p10 : SM := (mRet (oV (eAnd (mBin dEqv (eF (oCall m_together (aCons (mC (.str [97, 97, 98])) (aCons (mC (.str [97, 97, 98, 97, 97])) aNil)))) (mC (.int 5))) (eAnd (mBin (dIsN false) (eF (oCall m_together (aCons (mC (.str [97, 98])) (aCons (mC (.str [97, 98, 97, 98])) aNil)))) (mC .non)) (mBin dEqv (eF (oCall m_root (aCons (mC (.str [97, 98, 97, 97, 98, 97])) aNil))) (mC (.str [97, 98, 97])))))))
theorem part10 {s : S} : p10 s = .rt (.val (.bl true)) s := by
  obtain ⟨l, n⟩ := s
  have h1 : Wd [97, 97, 98] := ⟨by decide, by decide, by decide⟩
  have h2 : Wd [97, 97, 98, 97, 97] := ⟨by decide, by decide, by decide⟩
  have h3 : Wd [97, 98] := ⟨by decide, by decide, by decide⟩
  have h4 : Wd [97, 98, 97, 98] := ⟨by decide, by decide, by decide⟩
  have h5 : Wd [97, 98, 97, 97, 98, 97] := ⟨by decide, by decide, by decide⟩
  have e1 := together (n := n) h1 h2 (by decide)
  have e2 := together (n := n) h3 h4 (by decide)
  have e3 := root (n := n) h5
  have f1 : sh [97, 97, 98] [97, 97, 98, 97, 97] = some 5 := by decide +kernel
  have f2 : sh [97, 98] [97, 98, 97, 98] = none := by decide +kernel
  have f3 : rootW [97, 98, 97, 97, 98, 97] = [97, 98, 97] := by decide +kernel
  have g1 : dEqv (shD (some 5)) (.int 5) = some (.bl true) := eqv_int
  have g2 : dIsN false (shD none) .non = some (.bl true) := rfl
  have g3 : dEqv (.str [97, 98, 97]) (.str [97, 98, 97]) = some (.bl true) := by
    rw [eqv_str (by decide) (by decide)]
    rfl
  rw [f1] at e1
  rw [f2] at e2
  rw [f3] at e3
  unfold p10
  simp only [e_var, e_kVarV, e_kVarO, e_oVar, e_kVoV, e_kVoO, eC, e_bin, e_kBin, e_kBin2, e_oBin, e_kOBin, e_kOBin2, e_good1v, e_good1o, e_test, e_kTest, e_and, e_or, e_not, e_kAndT, e_kAndF, e_kOrT, e_kOrF, e_kNot, e_eand, e_eor, e_enot, e_kEAndT, e_kEAndF, e_kEOrT, e_kEOrF, e_kENot, e_ifE, e_kIfET, e_kIfEF, e_oV, e_kOV, e_eF, e_frzv, e_frzo, e_neg, e_kNeg, e_nil, e_cons, e_kCons, e_kCons2, e_oB1, e_kB1, e_b1V, e_kB1V, e_kGetV, e_kGetO, e_oBn, e_kBn, e_ixV, e_kIxV, e_ixAt, e_kAtS, e_kAtL, e_kAtT, e_kAtK, e_kAtP, e_pSome, e_kSome, e_pNone, e_oSl, e_kSl, e_kSl2, e_kSl3, e_oLst, e_kOL, e_tup, e_kTup, e_call, e_res, e_kResV, e_kResO, e_kResX, e_cP, e_kCP, e_cQ, e_kCQ, e_outRV, e_outRO, e_seq, e_kSeqN, e_kSeqR, e_kSeqB, e_kSeqC, e_kSeqX, e_next, e_set, e_kSet, e_good, e_kGoodV, e_kGoodO, e_kGoodX, e_asg, e_kAsg, e_rsof, e_gN, e_par, e_kPar, e_ret, e_kRet, e_drop, e_kDrop, e_if, e_kIfT, e_kIfF, e_raise, e_for, e_kFor, e_itA, e_kItA, e_itR1, e_itR2, e_kP, e_pileSet, e_kP0, e_app', e_kA0, e_kApp', e_kA1, for_nil, e_kLoopN, e_kLoopC, e_kLoopB, e_kLoopR, e_kWhN, e_kWhC, e_kWhB, e_kWhR, e_oLc, e_yes, e_bok, e_bexc, e_bsok, e_bsexc, e_ofs, e_obs, e_oms, out_rt, out_nx, List.set_cons_zero, List.set_cons_succ, List.getElem?_cons_zero, List.getElem?_cons_succ, List.map_cons, List.map_nil, List.length_cons, List.length_nil, List.cons_append, List.nil_append, Nat.reduceAdd, Nat.reduceLeDiff, Nat.zero_add, Nat.reduceLT, e1, e2, e3, g1, g2, g3]
theorem b_law_eq : b_law = mSeq (mFor (itR1 (aCons (eF (oBn dMax2 (aCons (mC (.int 2)) (aCons (eF (oBn dMin2 (aCons (eF (oB1V dLen 0)) (aCons (mC (.int 8)) aNil)))) aNil)))) aNil)) (gN 1) outBody) (mSeq p7 (mSeq p8 (mSeq p9 p10))) := rfl
theorem law_true : ∀ ns : List Int, ns.length ≤ 63 → ∃ z, m_law [.kst (ns.map .int)] 0 = .ok (.val (.bl true)) z := by
  intro ns hl
  unfold m_law
  have hk : ∃ k : Nat, k ≤ 100 ∧ dMin2 [.int (ns.length : Int), .int 8] = some (.val (.int (min ns.length 8 : Nat))) ∧ dMax2 [.int 2, .int (min ns.length 8 : Nat)] = some (.val (.int (k : Int))) := by
    refine ⟨max 2 (min ns.length 8), by omega, ?_, ?_⟩
    · show some (SV.val (D.int (if (8 : Int) < (ns.length : Int) then 8 else (ns.length : Int)))) = _
      congr 3
      split <;> omega
    · show some (SV.val (D.int (if ((min ns.length 8 : Nat) : Int) > 2 then ((min ns.length 8 : Nat) : Int) else 2))) = _
      congr 3
      split <;> omega
  obtain ⟨k, hk, e1, e2⟩ := hk
  have e0 : dLen (.kst (ns.map .int)) = some (.val (.int (ns.length : Int))) := by
    rw [len_k, List.length_map]
  have e3 : ∀ s, kR1 [.int (k : Int)] s = .ok (dInts 0 k) s := fun s => by rw [e_kR1 ⟨by omega, by omega⟩, Int.toNat_natCast]
  obtain ⟨b1, b2, b3, b4, b5, b6, b7, lp⟩ := out_loop (ns := ns) (n := 0) k 0 .no .no .no .no .no .no .no .no (by omega)
  have lp' : forLoop (gN 1) outBody (dInts 0 k) _ = _ := lp
  obtain ⟨b8, h8⟩ := part8 (ns := ns) (a1 := b1) (a2 := b2) (a3 := b3) (a4 := b4) (a5 := b5) (a6 := b6) (a7 := b7) (a8 := .no) (n := 0)
  refine ⟨0, (mk_ev (by rfl)).trans ?_⟩
  show outF (b_law (St1 ns .no .no .no .no .no .no .no .no 0)) = _
  rw [b_law_eq]
  simp only [e_var, e_kVarV, e_kVarO, e_oVar, e_kVoV, e_kVoO, eC, e_bin, e_kBin, e_kBin2, e_oBin, e_kOBin, e_kOBin2, e_good1v, e_good1o, e_test, e_kTest, e_and, e_or, e_not, e_kAndT, e_kAndF, e_kOrT, e_kOrF, e_kNot, e_eand, e_eor, e_enot, e_kEAndT, e_kEAndF, e_kEOrT, e_kEOrF, e_kENot, e_ifE, e_kIfET, e_kIfEF, e_oV, e_kOV, e_eF, e_frzv, e_frzo, e_neg, e_kNeg, e_nil, e_cons, e_kCons, e_kCons2, e_oB1, e_kB1, e_b1V, e_kB1V, e_kGetV, e_kGetO, e_oBn, e_kBn, e_ixV, e_kIxV, e_ixAt, e_kAtS, e_kAtL, e_kAtT, e_kAtK, e_kAtP, e_pSome, e_kSome, e_pNone, e_oSl, e_kSl, e_kSl2, e_kSl3, e_oLst, e_kOL, e_tup, e_kTup, e_call, e_res, e_kResV, e_kResO, e_kResX, e_cP, e_kCP, e_cQ, e_kCQ, e_outRV, e_outRO, e_seq, e_kSeqN, e_kSeqR, e_kSeqB, e_kSeqC, e_kSeqX, e_next, e_set, e_kSet, e_good, e_kGoodV, e_kGoodO, e_kGoodX, e_asg, e_kAsg, e_rsof, e_gN, e_par, e_kPar, e_ret, e_kRet, e_drop, e_kDrop, e_if, e_kIfT, e_kIfF, e_raise, e_for, e_kFor, e_itA, e_kItA, e_itR1, e_itR2, e_kP, e_pileSet, e_kP0, e_app', e_kA0, e_kApp', e_kA1, for_nil, e_kLoopN, e_kLoopC, e_kLoopB, e_kLoopR, e_kWhN, e_kWhC, e_kWhB, e_kWhR, e_oLc, e_yes, e_bok, e_bexc, e_bsok, e_bsexc, e_ofs, e_obs, e_oms, out_rt, out_nx, List.set_cons_zero, List.set_cons_succ, List.getElem?_cons_zero, List.getElem?_cons_succ, List.map_cons, List.map_nil, List.length_cons, List.length_nil, List.cons_append, List.nil_append, Nat.reduceAdd, Nat.reduceLeDiff, Nat.zero_add, Nat.reduceLT, e0, e1, e2, e3, lp', part7, h8, part9, part10]
end Pd

/-! the head and the end, printed by genh.py -/
namespace Pd
open PySem PySem.Spec PyProof.Rows L2
def d_is_of : He.DefD := ⟨("is_of", none), "is_of", "is_of", defArgs s_is_of, defBody s_is_of, defScope s_is_of, [], []⟩
def d_is_word : He.DefD := ⟨("is_word", none), "is_word", "is_word", defArgs s_is_word, defBody s_is_word, defScope s_is_word, [], []⟩
def d_look_at_word : He.DefD := ⟨("look_at_word", none), "look_at_word", "look_at_word", defArgs s_look_at_word, defBody s_look_at_word, defScope s_look_at_word, [], []⟩
def d_look_at_root : He.DefD := ⟨("look_at_root", none), "look_at_root", "look_at_root", defArgs s_look_at_root, defBody s_look_at_root, defScope s_look_at_root, [], []⟩
def d_root_of : He.DefD := ⟨("root_of", none), "root_of", "root_of", defArgs s_root_of, defBody s_root_of, defScope s_root_of, [], []⟩
def d_root : He.DefD := ⟨("root", none), "root", "root", defArgs s_root, defBody s_root, defScope s_root, [], []⟩
def d_is_whole : He.DefD := ⟨("is_whole", none), "is_whole", "is_whole", defArgs s_is_whole, defBody s_is_whole, defScope s_is_whole, [], []⟩
def d_look_at_number : He.DefD := ⟨("look_at_number", none), "look_at_number", "look_at_number", defArgs s_look_at_number, defBody s_look_at_number, defScope s_look_at_number, [], []⟩
def d_beginning : He.DefD := ⟨("beginning", none), "beginning", "beginning", defArgs s_beginning, defBody s_beginning, defScope s_beginning, [], []⟩
def d_begin : He.DefD := ⟨("begin", none), "begin", "begin", defArgs s_begin, defBody s_begin, defScope s_begin, [], []⟩
def d_shared : He.DefD := ⟨("shared", none), "shared", "shared", defArgs s_shared, defBody s_shared, defScope s_shared, [], []⟩
def d_together : He.DefD := ⟨("together", none), "together", "together", defArgs s_together, defBody s_together, defScope s_together, [], []⟩
def d__law_mixed : He.DefD := ⟨("_law_mixed", none), "_law_mixed", "_law_mixed", defArgs s__law_mixed, defBody s__law_mixed, defScope s__law_mixed, [], []⟩
def d__law_pile : He.DefD := ⟨("_law_pile", none), "_law_pile", "_law_pile", defArgs s__law_pile, defBody s__law_pile, defScope s__law_pile, [], []⟩
def d__law_take : He.DefD := ⟨("_law_take", none), "_law_take", "_law_take", defArgs s__law_take, defBody s__law_take, defScope s__law_take, [], []⟩
def d__law_word : He.DefD := ⟨("_law_word", none), "_law_word", "_law_word", defArgs s__law_word, defBody s__law_word, defScope s__law_word, [], []⟩
def d__law_letters : He.DefD := ⟨("_law_letters", none), "_law_letters", "_law_letters", defArgs s__law_letters, defBody s__law_letters, defScope s__law_letters, [], []⟩
def d__law_begin : He.DefD := ⟨("_law_begin", none), "_law_begin", "_law_begin", defArgs s__law_begin, defBody s__law_begin, defScope s__law_begin, [], []⟩
def d__law_bad_words : He.DefD := ⟨("_law_bad_words", none), "_law_bad_words", "_law_bad_words", defArgs s__law_bad_words, defBody s__law_bad_words, defScope s__law_bad_words, [], []⟩
def d__law_root_of : He.DefD := ⟨("_law_root_of", none), "_law_root_of", "_law_root_of", defArgs s__law_root_of, defBody s__law_root_of, defScope s__law_root_of, [], []⟩
def d__law_together : He.DefD := ⟨("_law_together", none), "_law_together", "_law_together", defArgs s__law_together, defBody s__law_together, defScope s__law_together, [], []⟩
def d__law_good : He.DefD := ⟨("_law_good", none), "_law_good", "_law_good", defArgs s__law_good, defBody s__law_good, defScope s__law_good, [], []⟩
def d_law : He.DefD := ⟨("law", none), "law", "law", defArgs s_law, defBody s_law, defScope s_law, [], []⟩
def hfn : List He.DefD := [d_is_of, d_is_word, d_look_at_word, d_look_at_root, d_root_of, d_root, d_is_whole, d_look_at_number, d_beginning, d_begin, d_shared, d_together, d__law_mixed, d__law_pile, d__law_take, d__law_word, d__law_letters, d__law_begin, d__law_bad_words, d__law_root_of, d__law_together, d__law_good, d_law]
def hfa : List He.Fa := [.glo "is_of", .glo "is_word", .glo "look_at_word", .glo "look_at_root", .glo "root_of", .glo "root", .glo "is_whole", .glo "look_at_number", .glo "beginning", .glo "begin", .glo "shared", .glo "together", .glo "_law_mixed", .glo "_law_pile", .glo "_law_take", .glo "_law_word", .glo "_law_letters", .glo "_law_begin", .glo "_law_bad_words", .glo "_law_root_of", .glo "_law_together", .glo "_law_good", .glo "law", .free "all", .free "bool", .free "int", .free "isinstance", .free "len", .free "max", .free "min", .free "range", .free "repr", .free "str", .str "LETTERS" "abcdefghijklmnopqrstuvwxyz", .glo "NoNumber", .exc "NoNumber", .glo "NoRoot", .exc "NoRoot", .glo "NoWord", .exc "NoWord"]
def hnm0 : List Str := ["WordsError", "NoWord", "NoRoot", "NoNumber", "LETTERS", "is_whole", "is_of", "is_word", "look_at_word", "look_at_root", "look_at_number", "root_of", "root", "beginning", "begin", "shared", "together", "_law_mixed", "_law_pile", "_law_take", "_law_word", "_law_letters", "_law_root_of", "_law_begin", "_law_bad_words", "_law_together", "_law_good"]
def hnm : List Str := hnm0
abbrev hR : PySem.W.OpenRow := PySem.W.OpenLaw.row PySem.Challenge.rw_holewords_k01_words_and_roots
abbrev hk : PySem.W.Hook := He.hookD 4 hfa hfn
def hob (s : PySem.W.SharedT) : He.AlD := He.obsDG 4 hfa hfn (HandSHeadRun.getT s)
theorem hob_eq (s : PySem.W.SharedT) : hob s = hk.obs s.abs := He.obsDG_eq (HandSHeadRun.getT_eq s)
theorem hrun (w : World) : HandSHeadRun.RunEq hR (PySem.W.view hR.prog [30]) hk hob 4000 hnm w := by
  intro os
  kernel_rfl
theorem hfacts {P : Program} {w : World} {K : PySem.W.Frag} {h : Heap} {mg : Str → Option Value} {f : Addr} (X : K.In h) (G : h.Ns mainGlobals mg) (hfa' : mg ("law" : Str) = some (.ref f)) (c : He.SaysD hfa hfn K) :
    ∃ fd : FuncData, (∀ (s : Shared) (v : Value), BindsTo s fd ⟨[v], []⟩ [("_law_script", v)]) ∧ ∀ base : Heap, K.In base → base.Ns mainGlobals mg → FnOk P w K mg base (L2.CX P w) 6 f fd ["_law_script"] (spF (G0 K mg) m_law) := by
  have B_all : mg "all" = none := He.free_ok X G (c.fact 23 (f := .free "all") rfl)
  have B_bool : mg "bool" = none := He.free_ok X G (c.fact 24 (f := .free "bool") rfl)
  have B_int : mg "int" = none := He.free_ok X G (c.fact 25 (f := .free "int") rfl)
  have B_isinstance : mg "isinstance" = none := He.free_ok X G (c.fact 26 (f := .free "isinstance") rfl)
  have B_len : mg "len" = none := He.free_ok X G (c.fact 27 (f := .free "len") rfl)
  have B_max : mg "max" = none := He.free_ok X G (c.fact 28 (f := .free "max") rfl)
  have B_min : mg "min" = none := He.free_ok X G (c.fact 29 (f := .free "min") rfl)
  have B_range : mg "range" = none := He.free_ok X G (c.fact 30 (f := .free "range") rfl)
  have B_repr : mg "repr" = none := He.free_ok X G (c.fact 31 (f := .free "repr") rfl)
  have B_str : mg "str" = none := He.free_ok X G (c.fact 32 (f := .free "str") rfl)
  have G_LETTERS : GlobS mg "LETTERS" k_LETTERS := globS_of X G (c.fact 33 (f := .str "LETTERS" "abcdefghijklmnopqrstuvwxyz") rfl) (by decide +kernel)
  have X_NoNumber : ExcOk K mg "NoNumber" (He.ga K (Str.ofString "NoNumber")) := excOk_of X G (c.fact 35 (f := .exc "NoNumber") rfl) (c.fact 34 (f := .glo "NoNumber") rfl)
  have X_NoRoot : ExcOk K mg "NoRoot" (He.ga K (Str.ofString "NoRoot")) := excOk_of X G (c.fact 37 (f := .exc "NoRoot") rfl) (c.fact 36 (f := .glo "NoRoot") rfl)
  have X_NoWord : ExcOk K mg "NoWord" (He.ga K (Str.ofString "NoWord")) := excOk_of X G (c.fact 39 (f := .exc "NoWord") rfl) (c.fact 38 (f := .glo "NoWord") rfl)
  obtain ⟨fd_is_of, F_is_of⟩ := c.def_ 0 (d := d_is_of) rfl
  have gm_is_of : mg "is_of" = some (.ref (He.ga K "is_of")) := He.glo_ok X G (c.fact 0 (f := .glo "is_of") rfl)
  obtain ⟨fd_is_word, F_is_word⟩ := c.def_ 1 (d := d_is_word) rfl
  have gm_is_word : mg "is_word" = some (.ref (He.ga K "is_word")) := He.glo_ok X G (c.fact 1 (f := .glo "is_word") rfl)
  obtain ⟨fd_look_at_word, F_look_at_word⟩ := c.def_ 2 (d := d_look_at_word) rfl
  have gm_look_at_word : mg "look_at_word" = some (.ref (He.ga K "look_at_word")) := He.glo_ok X G (c.fact 2 (f := .glo "look_at_word") rfl)
  obtain ⟨fd_look_at_root, F_look_at_root⟩ := c.def_ 3 (d := d_look_at_root) rfl
  have gm_look_at_root : mg "look_at_root" = some (.ref (He.ga K "look_at_root")) := He.glo_ok X G (c.fact 3 (f := .glo "look_at_root") rfl)
  obtain ⟨fd_root_of, F_root_of⟩ := c.def_ 4 (d := d_root_of) rfl
  have gm_root_of : mg "root_of" = some (.ref (He.ga K "root_of")) := He.glo_ok X G (c.fact 4 (f := .glo "root_of") rfl)
  obtain ⟨fd_root, F_root⟩ := c.def_ 5 (d := d_root) rfl
  have gm_root : mg "root" = some (.ref (He.ga K "root")) := He.glo_ok X G (c.fact 5 (f := .glo "root") rfl)
  obtain ⟨fd_is_whole, F_is_whole⟩ := c.def_ 6 (d := d_is_whole) rfl
  have gm_is_whole : mg "is_whole" = some (.ref (He.ga K "is_whole")) := He.glo_ok X G (c.fact 6 (f := .glo "is_whole") rfl)
  obtain ⟨fd_look_at_number, F_look_at_number⟩ := c.def_ 7 (d := d_look_at_number) rfl
  have gm_look_at_number : mg "look_at_number" = some (.ref (He.ga K "look_at_number")) := He.glo_ok X G (c.fact 7 (f := .glo "look_at_number") rfl)
  obtain ⟨fd_beginning, F_beginning⟩ := c.def_ 8 (d := d_beginning) rfl
  have gm_beginning : mg "beginning" = some (.ref (He.ga K "beginning")) := He.glo_ok X G (c.fact 8 (f := .glo "beginning") rfl)
  obtain ⟨fd_begin, F_begin⟩ := c.def_ 9 (d := d_begin) rfl
  have gm_begin : mg "begin" = some (.ref (He.ga K "begin")) := He.glo_ok X G (c.fact 9 (f := .glo "begin") rfl)
  obtain ⟨fd_shared, F_shared⟩ := c.def_ 10 (d := d_shared) rfl
  have gm_shared : mg "shared" = some (.ref (He.ga K "shared")) := He.glo_ok X G (c.fact 10 (f := .glo "shared") rfl)
  obtain ⟨fd_together, F_together⟩ := c.def_ 11 (d := d_together) rfl
  have gm_together : mg "together" = some (.ref (He.ga K "together")) := He.glo_ok X G (c.fact 11 (f := .glo "together") rfl)
  obtain ⟨fd__law_mixed, F__law_mixed⟩ := c.def_ 12 (d := d__law_mixed) rfl
  have gm__law_mixed : mg "_law_mixed" = some (.ref (He.ga K "_law_mixed")) := He.glo_ok X G (c.fact 12 (f := .glo "_law_mixed") rfl)
  obtain ⟨fd__law_pile, F__law_pile⟩ := c.def_ 13 (d := d__law_pile) rfl
  have gm__law_pile : mg "_law_pile" = some (.ref (He.ga K "_law_pile")) := He.glo_ok X G (c.fact 13 (f := .glo "_law_pile") rfl)
  obtain ⟨fd__law_take, F__law_take⟩ := c.def_ 14 (d := d__law_take) rfl
  have gm__law_take : mg "_law_take" = some (.ref (He.ga K "_law_take")) := He.glo_ok X G (c.fact 14 (f := .glo "_law_take") rfl)
  obtain ⟨fd__law_word, F__law_word⟩ := c.def_ 15 (d := d__law_word) rfl
  have gm__law_word : mg "_law_word" = some (.ref (He.ga K "_law_word")) := He.glo_ok X G (c.fact 15 (f := .glo "_law_word") rfl)
  obtain ⟨fd__law_letters, F__law_letters⟩ := c.def_ 16 (d := d__law_letters) rfl
  have gm__law_letters : mg "_law_letters" = some (.ref (He.ga K "_law_letters")) := He.glo_ok X G (c.fact 16 (f := .glo "_law_letters") rfl)
  obtain ⟨fd__law_begin, F__law_begin⟩ := c.def_ 17 (d := d__law_begin) rfl
  have gm__law_begin : mg "_law_begin" = some (.ref (He.ga K "_law_begin")) := He.glo_ok X G (c.fact 17 (f := .glo "_law_begin") rfl)
  obtain ⟨fd__law_bad_words, F__law_bad_words⟩ := c.def_ 18 (d := d__law_bad_words) rfl
  have gm__law_bad_words : mg "_law_bad_words" = some (.ref (He.ga K "_law_bad_words")) := He.glo_ok X G (c.fact 18 (f := .glo "_law_bad_words") rfl)
  obtain ⟨fd__law_root_of, F__law_root_of⟩ := c.def_ 19 (d := d__law_root_of) rfl
  have gm__law_root_of : mg "_law_root_of" = some (.ref (He.ga K "_law_root_of")) := He.glo_ok X G (c.fact 19 (f := .glo "_law_root_of") rfl)
  obtain ⟨fd__law_together, F__law_together⟩ := c.def_ 20 (d := d__law_together) rfl
  have gm__law_together : mg "_law_together" = some (.ref (He.ga K "_law_together")) := He.glo_ok X G (c.fact 20 (f := .glo "_law_together") rfl)
  obtain ⟨fd__law_good, F__law_good⟩ := c.def_ 21 (d := d__law_good) rfl
  have gm__law_good : mg "_law_good" = some (.ref (He.ga K "_law_good")) := He.glo_ok X G (c.fact 21 (f := .glo "_law_good") rfl)
  obtain ⟨fd_law, F_law⟩ := c.def_ 22 (d := d_law) rfl
  have e := hfa'.symm.trans (He.glo_ok X G (c.fact 22 (f := .glo "law") rfl))
  cases e
  have b := FunD.bindsA (ps := ["_law_script"]) F_law fun _ _ _ _ _ _ us hl => match us, hl with | [_], _ => rfl
  refine ⟨fd_law, fun s v => b s [v] rfl, fun base _ _ => ?_⟩
  have C_is_of : Cal P w K mg base (G0 K mg) 1 "is_of" m_is_of := ok_is_of F_is_of gm_is_of B_all B_isinstance B_str
  have C_is_word : Cal P w K mg base (G0 K mg) 2 "is_word" m_is_word := ok_is_word F_is_word gm_is_word G_LETTERS C_is_of
  have C_look_at_word : Cal P w K mg base (G0 K mg) 3 "look_at_word" m_look_at_word := ok_look_at_word F_look_at_word gm_look_at_word X_NoWord C_is_word
  have C_look_at_root : Cal P w K mg base (G0 K mg) 1 "look_at_root" m_look_at_root := ok_look_at_root F_look_at_root gm_look_at_root X_NoRoot
  have C_root_of : Cal P w K mg base (G0 K mg) 1 "root_of" m_root_of := ok_root_of F_root_of gm_root_of B_len B_range
  have C_root : Cal P w K mg base (G0 K mg) 4 "root" m_root := ok_root F_root gm_root C_root_of C_look_at_root C_look_at_word
  have C_is_whole : Cal P w K mg base (G0 K mg) 1 "is_whole" m_is_whole := ok_is_whole F_is_whole gm_is_whole B_bool B_int B_isinstance
  have C_look_at_number : Cal P w K mg base (G0 K mg) 2 "look_at_number" m_look_at_number := ok_look_at_number F_look_at_number gm_look_at_number X_NoNumber C_is_whole
  have C_beginning : Cal P w K mg base (G0 K mg) 1 "beginning" m_beginning := ok_beginning F_beginning gm_beginning B_len
  have C_begin : Cal P w K mg base (G0 K mg) 4 "begin" m_begin := ok_begin F_begin gm_begin C_beginning C_look_at_number C_look_at_root C_look_at_word
  have C_shared : Cal P w K mg base (G0 K mg) 2 "shared" m_shared := ok_shared F_shared gm_shared B_len B_range C_beginning
  have C_together : Cal P w K mg base (G0 K mg) 4 "together" m_together := ok_together F_together gm_together C_shared C_look_at_root C_look_at_word
  have C__law_mixed : Cal P w K mg base (G0 K mg) 1 "_law_mixed" m__law_mixed := ok__law_mixed F__law_mixed gm__law_mixed B_int
  have C__law_pile : Cal P w K mg base (G0 K mg) 2 "_law_pile" m__law_pile := ok__law_pile F__law_pile gm__law_pile B_int B_len B_range C__law_mixed
  have C__law_take : Cal P w K mg base (G0 K mg) 1 "_law_take" m__law_take := ok__law_take F__law_take gm__law_take B_int
  have C__law_word : Cal P w K mg base (G0 K mg) 2 "_law_word" m__law_word := ok__law_word F__law_word gm__law_word B_len B_range C__law_take
  have C__law_letters : Cal P w K mg base (G0 K mg) 2 "_law_letters" m__law_letters := ok__law_letters F__law_letters gm__law_letters C__law_take
  have C__law_begin : Cal P w K mg base (G0 K mg) 1 "_law_begin" m__law_begin := ok__law_begin F__law_begin gm__law_begin B_len
  have C__law_bad_words : Cal P w K mg base (G0 K mg) 1 "_law_bad_words" m__law_bad_words := ok__law_bad_words F__law_bad_words gm__law_bad_words
  have C__law_root_of : Cal P w K mg base (G0 K mg) 1 "_law_root_of" m__law_root_of := ok__law_root_of F__law_root_of gm__law_root_of B_len B_range
  have C__law_together : Cal P w K mg base (G0 K mg) 2 "_law_together" m__law_together := ok__law_together F__law_together gm__law_together C__law_begin C__law_root_of
  have C__law_good : Cal P w K mg base (G0 K mg) 5 "_law_good" m__law_good := ok__law_good F__law_good gm__law_good B_len B_repr C__law_root_of C__law_together C_together C_begin C__law_begin C_root
  exact ok_law F_law B_len B_max B_min B_range C_together C_root C_begin C__law_bad_words C_is_word C__law_good C__law_take C__law_word C__law_begin C__law_letters C__law_pile
end Pd
open PySem PySem.W PySem.Calls PyProof.Rows
theorem PySem.Challenge.cw_holewords_k01_words_and_roots_holds : PySem.Challenge.rw_holewords_k01_words_and_roots.Holds := by
  w_on; o_law
  refine HandSHeadRun.head_any (r := OpenLaw.row PySem.Challenge.rw_holewords_k01_words_and_roots) (q := view (OpenLaw.row PySem.Challenge.rw_holewords_k01_words_and_roots).prog [30]) (H := Pd.hk) (ob := Pd.hob) (M := 4000) (loose := Pd.hnm) (d := HandSHeadRun.topDef (OpenLaw.row PySem.Challenge.rw_holewords_k01_words_and_roots).prog 30) (kwd := []) Pd.hob_eq
    (by kernel_rfl) (fun s => by kernel_rfl) Pd.hrun (by kernel_rfl) (by kernel_rfl) (by kernel_rfl) (by rfl) (by first | assumption | decide +kernel) (by decide +kernel) ⟨rfl, rfl, rfl, rfl, rfl, by decide +kernel⟩ ?hw ?hc
  case hw => w_witness2
  case hc =>
    refine Pd.walk_end (l := PySem.Challenge.rw_holewords_k01_words_and_roots) (n := 63) (k := 6) (x := "_law_script") (m := Pd.m_law) rfl (by decide) (by kernel_rfl) ⟨rfl, by decide, by decide⟩ ?F Pd.law_true
    intro w mg fa h Y G hmg0
    obtain ⟨K, KX, c⟩ := Y
    have hmg : mg ("law" : PySem.Str) = some (.ref fa) := by
      have e : (HandSHeadRun.topDef (OpenLaw.row PySem.Challenge.rw_holewords_k01_words_and_roots).prog 30).name = ("law" : PySem.Str) := by kernel_rfl
      rw [← e]
      exact hmg0
    obtain ⟨fd, hb, hF⟩ := Pd.hfacts (P := (PySem.Challenge.rw_holewords_k01_words_and_roots).prog) (w := w) KX G hmg c
    exact ⟨K, fd, KX, hb, hF⟩

