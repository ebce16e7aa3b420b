import PyProof.Rows.All
import Wide.All
import OpenK.AllK
import Wide.FinOn
import HandS.ForMost
import HandS.ForExc
import HandS.CallSlots
import HandS.Replace
import HandS.Defaults
import HandS.Wide
import HandS.Style
import HandS.IsInst
import HandS.TupAny
import HandS.RaiseMore
import HandS.Head0
import HandS.Head1
import HandS.Head2
import HandS.HeadEnd
import HandS.HeadHook1
import HandS.HeadHook2
import KE.KStateDown
import HandS.More
import HandS.Zip
import HandS.Iter
import HandS.TupLe
import HandS.Comp
import HandS.Dict
import HandS.Conv
import PyProof.ReprReads
import PyProof.LongRange
import PyProof.ListRange
import KE.KMinKey
import HandS.SortKw
import HandS.DictComp
import KE.GoesMore
import HandS.ExcIs
import HandS.Text
import KE.KIntText
import PyProof.StrLawsReplace
import KE.GoesEnum
import HandS.ExcInit
import HandS.ExcField
import HandS.Nested
import HandS.EndTab
import KE.SortKeyHeap
import HandS.Star
import HandS.HeadHook4
import KE.DataMinKey
import HandS.ReplaceList
import PySem.Challenge.RW_holewords_k02_templates_filled
set_option Elab.async false
set_option linter.all false
set_option maxRecDepth 100000
set_option maxHeartbeats 0
/-! Pd, part A: data, what stands for what, states. -/
namespace Pd
open PySem PySem.Spec PyProof.Rows L2

/-- data without addresses -/
inductive D where
  | non
  | bl (b : Bool)
  | int (i : Int)
  | str (s : List Nat)
  | tup (l : List D)
  | lst (l : List D)
  | pile
  | exc (c : String) (n : Option Int)
  | clo (k : Nat) (l : List D)
  | obj (k : Nat)
  | ty (n : String)
  | cls (c : String)
  | kst (l : List D)

abbrev Ext (F H : Hp) : Prop := ∀ b o, F b = some o → H b = some o
theorem Ext.refl (F : Hp) : Ext F F := fun _ _ h => h
theorem Ext.trans {F G H : Hp} (a : Ext F G) (b : Ext G H) : Ext F H := fun c o h => b c o (a c o h)
theorem Ext.new {F : Hp} {a : Addr} {o : HO} (h : F a = none) : Ext F (upd F a o) := fun b u e => by
  rw [upd_ne (ne_of_none e h)]; exact e
theorem ext_rd {H H' : Hp} {a : Addr} {u : HO} (e : Ext H H') (h : Rd H a u) : Rd H' a u := by
  rcases h with h | ⟨o, h⟩
  · exact .inl (e a _ h)
  · exact .inr ⟨o, e a _ h⟩
theorem ext_l {K : PySem.W.Frag} {H H' : Hp} {a : Addr} {xs : List V} (e : Ext H H') (h : SqL K H a xs) : SqL K H' a xs := by
  rcases h with h | h
  · exact .inl (ext_rd e h)
  · exact .inr h
theorem ext_t {K : PySem.W.Frag} {H H' : Hp} {a : Addr} {xs : List V} (e : Ext H H') (h : SqT K H a xs) : SqT K H' a xs := by
  rcases h with h | h
  · exact .inl (ext_rd e h)
  · exact .inr h

/-- an exception object at a, of the class at C, its dict d -/
def ExcO (a C : Addr) (d : Option Addr) : HO := .ext fun h => ∃ o vs, h.get? a = some o ∧ o.cls = .ref C ∧ o.dict = d ∧ o.data = .fields vs

/-- the dict of an exception that bears the number n -/
def ExD (d : Option Addr) (n : Option Int) (F : Hp) : Prop := (n = none → d = none) ∧ ∀ i, n = some i → ∃ dd, d = some dd ∧ F dd = some (.xd [("line", .int i)])

/-- not a table of code objects -/
def nt : HO → Prop
  | .tbl _ => False
  | _ => True

/-- what a law's texts share: the written part, the module's names, what holds of the tables, closures -/
structure Gl where
  K : PySem.W.Frag
  mg : Str → Option Value
  T : Hp → Prop
  /-- changing or laying a list, a tuple or a dict leaves it -/
  Tu : ∀ H a o, T H → (H a = none ∨ (∃ xs, H a = some (.lst xs)) ∨ (∃ kvs, H a = some (.dK kvs)) ∨ (∃ C d fs, H a = some (.ins C d fs))) → T (upd H a o)
  CL : Hp → Addr → Nat → List V → Prop
  CLm : ∀ F F' a k vs, Ext F F' → CL F a k vs → CL F' a k vs

mutual
/-- v stands for d, by what is frozen -/
inductive Rep (g : Gl) (p : Option Addr) (F : Hp) : V → D → Prop
  | non : Rep g p F .non .non
  | bl (b : Bool) : Rep g p F (.bl b) (.bl b)
  | int (i : Int) : Rep g p F (.int i) (.int i)
  | str (s : List Nat) : Rep g p F (.str ⟨s.toArray⟩) (.str s)
  | tup {a : Addr} {vs : List V} {l : List D} : SqT g.K F a vs → Reps g p F vs l → Rep g p F (.ref a) (.tup l)
  | lst {a : Addr} {vs : List V} {l : List D} : Rd F a (.lst vs) → Reps g p F vs l → Rep g p F (.ref a) (.lst l)
  | kst {a : Addr} {vs : List V} {l : List D} : SqL g.K F a vs → Reps g p F vs l → Rep g p F (.ref a) (.kst l)
  | pile {a : Addr} : p = some a → Rep g p F (.ref a) .pile
  | exc {a C : Addr} {c : String} {d : Option Addr} {n : Option Int} : F a = some (ExcO a C d) → g.mg (Str.ofString c) = some (.ref C) → ExD d n F → Rep g p F (.ref a) (.exc c n)
  | clo {a : Addr} {k : Nat} {vs : List V} {l : List D} : g.CL F a k vs → Reps g p F vs l → Rep g p F (.ref a) (.clo k l)
  | ty (n : String) : Rep g p F (.ty n) (.ty n)
  | cls {c : String} {C : Addr} : g.mg (Str.ofString c) = some (.ref C) → Rep g p F (.ref C) (.cls c)
inductive Reps (g : Gl) (p : Option Addr) (F : Hp) : List V → List D → Prop
  | nil : Reps g p F [] []
  | cons {v : V} {vs : List V} {d : D} {ds : List D} : Rep g p F v d → Reps g p F vs ds → Reps g p F (v :: vs) (d :: ds)
end

section
variable {g : Gl} {p : Option Addr} {F F' : Hp}
mutual
theorem Rep.mono (e : Ext F F') : ∀ {v : V} {d : D}, Rep g p F v d → Rep g p F' v d
  | _, _, .non => .non
  | _, _, .bl b => .bl b
  | _, _, .int i => .int i
  | _, _, .str s => .str s
  | _, _, .tup h r => .tup (ext_t e h) (Reps.mono e r)
  | _, _, .lst h r => .lst (ext_rd e h) (Reps.mono e r)
  | _, _, .kst h r => .kst (ext_l e h) (Reps.mono e r)
  | _, _, .pile h => .pile h
  | _, _, .exc h1 h2 h3 => .exc (e _ _ h1) h2 ⟨h3.1, fun i q => let ⟨dd, a, b⟩ := h3.2 i q; ⟨dd, a, e _ _ b⟩⟩
  | _, _, .clo h r => .clo (g.CLm _ _ _ _ _ e h) (Reps.mono e r)
  | _, _, .ty n => .ty n
  | _, _, .cls h => .cls h
theorem Reps.mono (e : Ext F F') : ∀ {vs : List V} {ds : List D}, Reps g p F vs ds → Reps g p F' vs ds
  | _, _, .nil => .nil
  | _, _, .cons r t => .cons (Rep.mono e r) (Reps.mono e t)
end
theorem Reps.length : ∀ {vs : List V} {ds : List D}, Reps g p F vs ds → vs.length = ds.length
  | _, _, .nil => rfl
  | _, _, .cons _ t => congrArg (· + 1) (Reps.length t)
theorem Reps.get : ∀ {vs : List V} {ds : List D} {i : Nat} {d : D}, Reps g p F vs ds → ds[i]? = some d → ∃ v, vs[i]? = some v ∧ Rep g p F v d
  | _, _, _, _, .nil, e => by simp at e
  | _, _, 0, _, .cons r _, e => by simp at e; subst e; exact ⟨_, rfl, r⟩
  | _, _, i + 1, d, .cons _ t, e => by
    obtain ⟨v, h1, h2⟩ := Reps.get (i := i) (d := d) t (by simpa using e)
    exact ⟨v, by simpa using h1, h2⟩
theorem Reps.get' : ∀ {vs : List V} {ds : List D} {i : Nat} {v : V}, Reps g p F vs ds → vs[i]? = some v → ∃ d, ds[i]? = some d ∧ Rep g p F v d
  | _, _, _, _, .nil, e => by simp at e
  | _, _, 0, _, .cons r _, e => by simp at e; subst e; exact ⟨_, rfl, r⟩
  | _, _, i + 1, v, .cons _ t, e => by
    obtain ⟨d, h1, h2⟩ := Reps.get' (i := i) (v := v) t (by simpa using e)
    exact ⟨d, by simpa using h1, h2⟩
theorem Reps.append : ∀ {vs ws : List V} {ds es : List D}, Reps g p F vs ds → Reps g p F ws es → Reps g p F (vs ++ ws) (ds ++ es)
  | _, _, _, _, .nil, s => s
  | _, _, _, _, .cons r t, s => .cons r (Reps.append t s)
theorem Reps.take : ∀ (n : Nat) {vs : List V} {ds : List D}, Reps g p F vs ds → Reps g p F (vs.take n) (ds.take n)
  | 0, _, _, _ => .nil
  | _ + 1, _, _, .nil => .nil
  | n + 1, _, _, .cons r t => .cons r (Reps.take n t)
theorem Reps.drop : ∀ (n : Nat) {vs : List V} {ds : List D}, Reps g p F vs ds → Reps g p F (vs.drop n) (ds.drop n)
  | 0, _, _, r => r
  | _ + 1, _, _, .nil => .nil
  | n + 1, _, _, .cons _ t => Reps.drop n t
theorem Reps.set {v : V} {d : D} (r : Rep g p F v d) : ∀ {vs : List V} {ds : List D} (i : Nat), Reps g p F vs ds → Reps g p F (vs.set i v) (ds.set i d)
  | _, _, _, .nil => .nil
  | _, _, 0, .cons _ t => .cons r t
  | _, _, i + 1, .cons q t => .cons q (Reps.set r i t)
theorem Reps.reverse {vs : List V} {ds : List D} (h : Reps g p F vs ds) : Reps g p F vs.reverse ds.reverse := by
  induction vs generalizing ds with
  | nil => cases h; exact .nil
  | cons v vs ih =>
    cases h with
    | cons r t =>
      rw [List.reverse_cons, List.reverse_cons]
      exact (ih t).append (.cons r .nil)
theorem Reps.one {vs : List V} {d : D} (h : Reps g p F vs [d]) : ∃ v, vs = [v] ∧ Rep g p F v d := by
  cases h with
  | cons r t => cases t; exact ⟨_, rfl, r⟩
theorem Reps.two {vs : List V} {d e : D} (h : Reps g p F vs [d, e]) : ∃ v w, vs = [v, w] ∧ Rep g p F v d ∧ Rep g p F w e := by
  cases h with
  | cons r t => obtain ⟨w, rfl, q⟩ := t.one; exact ⟨_, _, rfl, r, q⟩
end

/-- the pile: one list of one int that callees change -/
def PileOk (p : Option Addr) (n : Int) (F H : Hp) : Prop := (∀ a, p = some a → F a = none ∧ H a = some (.lst [.int n])) ∧ ∀ b ps, F b ≠ some (.tbl ps)

/-- from (F, H) to (F', H'): all that is tracked stays but the pile and tables; new frozen things are new -/
structure Gr (g : Gl) (p : Option Addr) (F H F' H' : Hp) : Prop where
  hh : ∀ b o, H b = some o → p ≠ some b → nt o → H' b = some o
  al : ∀ b, H' b = none → H b = none
  ff : Ext F F'
  nw : ∀ b o, F' b = some o → F b = some o ∨ H b = none
  fh : Ext F' H'
  tb : g.T H'
  nn : ∀ b ps, F' b = some (.tbl ps) → F b = some (.tbl ps)

section
variable {g : Gl} {p : Option Addr} {F H F' H' F'' H'' : Hp}
theorem Gr.refl (e : Ext F H) (t : g.T H) : Gr g p F H F H := ⟨fun _ _ h _ _ => h, fun _ h => h, Ext.refl F, fun _ _ h => .inl h, e, t, fun _ _ h => h⟩
theorem Gr.weak (a : Gr g none F H F' H') : Gr g p F H F' H' := ⟨fun b o h _ n => a.hh b o h (by simp) n, a.al, a.ff, a.nw, a.fh, a.tb, a.nn⟩
theorem Gr.trans (a : Gr g p F H F' H') (b : Gr g p F' H' F'' H'') : Gr g p F H F'' H'' :=
  ⟨fun c o h n q => b.hh c o (a.hh c o h n q) n q, fun c h => a.al c (b.al c h), a.ff.trans b.ff, fun c o h => (b.nw c o h).elim (a.nw c o) fun z => .inr (a.al c z), b.fh, b.tb, fun c ps h => a.nn c ps (b.nn c ps h)⟩
/-- a new object, frozen -/
theorem Gr.new {a : Addr} {o : HO} (e : Ext F H) (t : g.T H) (h : H a = none) (ho : ∀ ps, o ≠ .tbl ps := by nofun) : Gr g p F H (upd F a o) (upd H a o) := by
  have hf : F a = none := by
    cases q : F a with
    | none => rfl
    | some u => rw [e a u q] at h; cases h
  refine ⟨fun b u q _ _ => by rw [upd_ne (ne_of_none q h)]; exact q, fun b q => ?_, Ext.new hf, fun b u q => ?_, fun b u q => ?_, g.Tu H a o t (.inl h), fun b ps q => ?_⟩
  · by_cases hb : b = a
    · subst hb; exact h
    · rw [upd_ne hb] at q; exact q
  · by_cases hb : b = a
    · subst hb; exact .inr h
    · rw [upd_ne hb] at q; exact .inl q
  · by_cases hb : b = a
    · subst hb; rw [upd_same] at q ⊢; exact q
    · rw [upd_ne hb] at q ⊢; exact e b u q
  · by_cases hb : b = a
    · subst hb; rw [upd_same] at q; exact absurd (Option.some.inj q) (ho ps)
    · rw [upd_ne hb] at q; exact q
/-- a new object, not frozen -/
theorem Gr.lay {a : Addr} {o : HO} (e : Ext F H) (t : g.T H) (h : H a = none) : Gr g p F H F (upd H a o) := by
  refine ⟨fun b u q _ _ => by rw [upd_ne (ne_of_none q h)]; exact q, fun b q => ?_, Ext.refl F, fun b u q => .inl q, fun b u q => ?_, g.Tu H a o t (.inl h), fun _ _ q => q⟩
  · by_cases hb : b = a
    · subst hb; exact h
    · rw [upd_ne hb] at q; exact q
  · have q' := e b u q
    rw [upd_ne (ne_of_none q' h)]; exact q'
end

/-- a slot -/
inductive SV where
  | no
  | val (d : D)
  | own (l : List D)
  | dct (l : List (Key × D))

structure S where
  sl : List SV
  pile : Int

inductive Sl (g : Gl) (p : Option Addr) (H0 F H : Hp) : List Addr → List SV → L2.St → Prop
  | nil : Sl g p H0 F H [] [] []
  | no {A : List Addr} {ss : List SV} {σ : L2.St} {x : Option V} : Sl g p H0 F H A ss σ → Sl g p H0 F H A (.no :: ss) (x :: σ)
  | val {A : List Addr} {ss : List SV} {σ : L2.St} {v : V} {d : D} : Rep g p F v d → Sl g p H0 F H A ss σ → Sl g p H0 F H A (.val d :: ss) (some v :: σ)
  | own {A : List Addr} {ss : List SV} {σ : L2.St} {a : Addr} {vs : List V} {l : List D} : H a = some (.lst vs) → Reps g p F vs l → F a = none → H0 a = none → p ≠ some a → a ∉ A → Sl g p H0 F H A ss σ → Sl g p H0 F H (a :: A) (.own l :: ss) (some (.ref a) :: σ)
  | dct {A : List Addr} {ss : List SV} {σ : L2.St} {a : Addr} {kvs : List (Key × V)} {l : List (Key × D)} : H a = some (.dK kvs) → Paired (fun (q : Key × V) (r : Key × D) => q.1 = r.1 ∧ Rep g p F q.2 r.2) kvs l → F a = none → H0 a = none → p ≠ some a → a ∉ A → Sl g p H0 F H A ss σ → Sl g p H0 F H (a :: A) (.dct l :: ss) (some (.ref a) :: σ)

section
variable {g : Gl} {p : Option Addr} {H0 F H F' H' : Hp} {A : List Addr} {ss : List SV} {σ : L2.St}
theorem Sl.mono (x : Sl g p H0 F H A ss σ) (e : Ext F F') (k : ∀ a ∈ A, H' a = H a ∧ F' a = none) : Sl g p H0 F' H' A ss σ := by
  induction x with
  | nil => exact .nil
  | no _ ih => exact .no (ih k)
  | val r _ ih => exact .val (r.mono e) (ih k)
  | own h r f h0 np na _ ih =>
    obtain ⟨k1, k2⟩ := k _ List.mem_cons_self
    exact .own (k1.trans h) (r.mono e) k2 h0 np na (ih fun b hb => k b (List.mem_cons_of_mem _ hb))
  | dct h r f h0 np na _ ih =>
    obtain ⟨k1, k2⟩ := k _ List.mem_cons_self
    exact .dct (k1.trans h) (Paired.mapP r fun a b q => ⟨q.1, q.2.mono e⟩) k2 h0 np na (ih fun b hb => k b (List.mem_cons_of_mem _ hb))
theorem Sl.facts (x : Sl g p H0 F H A ss σ) : ∀ a ∈ A, H0 a = none ∧ F a = none ∧ p ≠ some a ∧ ((∃ vs, H a = some (.lst vs)) ∨ ∃ kvs, H a = some (.dK kvs)) := by
  induction x with
  | nil => intro a h; simp at h
  | no _ ih => exact ih
  | val _ _ ih => exact ih
  | own h r f h0 np na _ ih =>
    intro b hb
    rcases List.mem_cons.mp hb with rfl | hb
    · exact ⟨h0, f, np, .inl ⟨_, h⟩⟩
    · exact ih b hb
  | dct h r f h0 np na _ ih =>
    intro b hb
    rcases List.mem_cons.mp hb with rfl | hb
    · exact ⟨h0, f, np, .inr ⟨_, h⟩⟩
    · exact ih b hb
theorem Sl.length (x : Sl g p H0 F H A ss σ) : ss.length = σ.length := by
  induction x with
  | nil => rfl
  | no _ ih => exact congrArg (· + 1) ih
  | val _ _ ih => exact congrArg (· + 1) ih
  | own _ _ _ _ _ _ _ ih => exact congrArg (· + 1) ih
  | dct _ _ _ _ _ _ _ ih => exact congrArg (· + 1) ih
theorem Sl.getVal (x : Sl g p H0 F H A ss σ) : ∀ {i : Nat} {d : D}, ss[i]? = some (.val d) → ∃ v, σ[i]? = some (some v) ∧ Rep g p F v d := by
  induction x with
  | nil => intro i d h; simp at h
  | no _ ih => intro i d h; cases i with
    | zero => simp at h
    | succ i => simpa using ih (i := i) (d := d) (by simpa using h)
  | val r _ ih => intro i d h; cases i with
    | zero => simp at h; subst h; exact ⟨_, rfl, r⟩
    | succ i => simpa using ih (i := i) (d := d) (by simpa using h)
  | own _ _ _ _ _ _ _ ih => intro i d h; cases i with
    | zero => simp at h
    | succ i => simpa using ih (i := i) (d := d) (by simpa using h)
  | dct _ _ _ _ _ _ _ ih => intro i d h; cases i with
    | zero => simp at h
    | succ i => simpa using ih (i := i) (d := d) (by simpa using h)
theorem Sl.getOwn (x : Sl g p H0 F H A ss σ) : ∀ {i : Nat} {l : List D}, ss[i]? = some (.own l) → ∃ a vs, σ[i]? = some (some (.ref a)) ∧ a ∈ A ∧ H a = some (.lst vs) ∧ Reps g p F vs l := by
  induction x with
  | nil => intro i d h; simp at h
  | no _ ih => intro i d h; cases i with
    | zero => simp at h
    | succ i => simpa using ih (i := i) (l := d) (by simpa using h)
  | val r _ ih => intro i d h; cases i with
    | zero => simp at h
    | succ i => simpa using ih (i := i) (l := d) (by simpa using h)
  | own h r _ _ _ _ _ ih => intro i d h; cases i with
    | zero => simp at h; subst h; exact ⟨_, _, rfl, List.mem_cons_self, by assumption, by assumption⟩
    | succ i =>
      obtain ⟨a, vs, h1, h2, h3⟩ := ih (i := i) (l := d) (by simpa using h)
      exact ⟨a, vs, by simpa using h1, List.mem_cons_of_mem _ h2, h3⟩
  | dct _ _ _ _ _ _ _ ih => intro i d h; cases i with
    | zero => simp at h
    | succ i =>
      obtain ⟨a, vs, h1, h2, h3⟩ := ih (i := i) (l := d) (by simpa using h)
      exact ⟨a, vs, by simpa using h1, List.mem_cons_of_mem _ h2, h3⟩
theorem Sl.getDct (x : Sl g p H0 F H A ss σ) : ∀ {i : Nat} {l : List (Key × D)}, ss[i]? = some (.dct l) → ∃ a kvs, σ[i]? = some (some (.ref a)) ∧ a ∈ A ∧ H a = some (.dK kvs) ∧ Paired (fun (q : Key × V) (r : Key × D) => q.1 = r.1 ∧ Rep g p F q.2 r.2) kvs l := by
  induction x with
  | nil => intro i d h; simp at h
  | no _ ih => intro i d h; cases i with
    | zero => simp at h
    | succ i => simpa using ih (i := i) (l := d) (by simpa using h)
  | val r _ ih => intro i d h; cases i with
    | zero => simp at h
    | succ i => simpa using ih (i := i) (l := d) (by simpa using h)
  | own h r _ _ _ _ _ ih => intro i d h; cases i with
    | zero => simp at h
    | succ i =>
      obtain ⟨a, vs, h1, h2, h3⟩ := ih (i := i) (l := d) (by simpa using h)
      exact ⟨a, vs, by simpa using h1, List.mem_cons_of_mem _ h2, h3⟩
  | dct h r _ _ _ _ _ ih => intro i d h; cases i with
    | zero => simp at h; subst h; exact ⟨_, _, rfl, List.mem_cons_self, by assumption, by assumption⟩
    | succ i =>
      obtain ⟨a, vs, h1, h2, h3⟩ := ih (i := i) (l := d) (by simpa using h)
      exact ⟨a, vs, by simpa using h1, List.mem_cons_of_mem _ h2, h3⟩
/-- a slot is overwritten by a value: the addresses grow no more -/
theorem Sl.setVal {v : V} {d : D} (x : Sl g p H0 F H A ss σ) (r : Rep g p F v d) : ∀ (i : Nat), ∃ A', (∀ a ∈ A', a ∈ A) ∧ Sl g p H0 F H A' (ss.set i (.val d)) (σ.set i (some v)) := by
  induction x with
  | nil => intro i; exact ⟨[], fun _ h => h, .nil⟩
  | no s ih => intro i; cases i with
    | zero => exact ⟨_, fun _ h => h, .val r s⟩
    | succ i => obtain ⟨A', h, q⟩ := ih i; exact ⟨A', h, .no q⟩
  | val r' s ih => intro i; cases i with
    | zero => exact ⟨_, fun _ h => h, .val r s⟩
    | succ i => obtain ⟨A', h, q⟩ := ih i; exact ⟨A', h, .val r' q⟩
  | own h1 h2 h3 h4 h5 h6 s ih => intro i; cases i with
    | zero => exact ⟨_, fun _ h => List.mem_cons_of_mem _ h, .val r s⟩
    | succ i =>
      obtain ⟨A', h, q⟩ := ih i
      exact ⟨_ :: A', fun b hb => (List.mem_cons.mp hb).elim (fun e => by rw [e]; exact List.mem_cons_self) fun z => List.mem_cons_of_mem _ (h b z), .own h1 h2 h3 h4 h5 (fun z => h6 (h _ z)) q⟩
  | dct h1 h2 h3 h4 h5 h6 s ih => intro i; cases i with
    | zero => exact ⟨_, fun _ h => List.mem_cons_of_mem _ h, .val r s⟩
    | succ i =>
      obtain ⟨A', h, q⟩ := ih i
      exact ⟨_ :: A', fun b hb => (List.mem_cons.mp hb).elim (fun e => by rw [e]; exact List.mem_cons_self) fun z => List.mem_cons_of_mem _ (h b z), .dct h1 h2 h3 h4 h5 (fun z => h6 (h _ z)) q⟩
theorem Sl.setNo (x : Sl g p H0 F H A ss σ) (v : Option V) : ∀ (i : Nat), ∃ A', (∀ a ∈ A', a ∈ A) ∧ Sl g p H0 F H A' (ss.set i .no) (σ.set i v) := by
  induction x with
  | nil => intro i; exact ⟨[], fun _ h => h, .nil⟩
  | no s ih => intro i; cases i with
    | zero => exact ⟨_, fun _ h => h, .no s⟩
    | succ i => obtain ⟨A', h, q⟩ := ih i; exact ⟨A', h, .no q⟩
  | val r' s ih => intro i; cases i with
    | zero => exact ⟨_, fun _ h => h, .no s⟩
    | succ i => obtain ⟨A', h, q⟩ := ih i; exact ⟨A', h, .val r' q⟩
  | own h1 h2 h3 h4 h5 h6 s ih => intro i; cases i with
    | zero => exact ⟨_, fun _ h => List.mem_cons_of_mem _ h, .no s⟩
    | succ i =>
      obtain ⟨A', h, q⟩ := ih i
      exact ⟨_ :: A', fun b hb => (List.mem_cons.mp hb).elim (fun e => by rw [e]; exact List.mem_cons_self) fun z => List.mem_cons_of_mem _ (h b z), .own h1 h2 h3 h4 h5 (fun z => h6 (h _ z)) q⟩
  | dct h1 h2 h3 h4 h5 h6 s ih => intro i; cases i with
    | zero => exact ⟨_, fun _ h => List.mem_cons_of_mem _ h, .no s⟩
    | succ i =>
      obtain ⟨A', h, q⟩ := ih i
      exact ⟨_ :: A', fun b hb => (List.mem_cons.mp hb).elim (fun e => by rw [e]; exact List.mem_cons_self) fun z => List.mem_cons_of_mem _ (h b z), .dct h1 h2 h3 h4 h5 (fun z => h6 (h _ z)) q⟩
/-- only the value's side is forgotten -/
theorem Sl.dropNo (x : Sl g p H0 F H A ss σ) : ∀ (i : Nat), ∃ A', (∀ a ∈ A', a ∈ A) ∧ Sl g p H0 F H A' (ss.set i .no) σ := fun i => by
  obtain ⟨A', h, q⟩ := x.setNo (σ.getD i none) i
  refine ⟨A', h, ?_⟩
  have e : σ.set i (σ.getD i none) = σ := by
    apply List.ext_getElem?
    intro j
    by_cases hj : i = j
    · subst hj
      by_cases hl : i < σ.length
      · rw [List.getElem?_set_self hl, List.getElem?_eq_getElem hl, List.getD_eq_getElem?_getD, List.getElem?_eq_getElem hl]; rfl
      · rw [List.getElem?_eq_none (by simpa using hl), List.getElem?_eq_none (by simpa using hl)]
    · rw [List.getElem?_set_ne hj]
  rw [e] at q; exact q
theorem Sl.setOwn {a : Addr} {vs : List V} {l : List D} (x : Sl g p H0 F H A ss σ) (h1 : H a = some (.lst vs)) (h2 : Reps g p F vs l) (h3 : F a = none) (h4 : H0 a = none) (h5 : p ≠ some a) (h6 : a ∉ A) :
    ∀ (i : Nat), ∃ A', (∀ b ∈ A', b = a ∨ b ∈ A) ∧ Sl g p H0 F H A' (ss.set i (.own l)) (σ.set i (some (.ref a))) := by
  induction x with
  | nil => intro i; exact ⟨[], fun _ h => by simp at h, .nil⟩
  | no s ih => intro i; cases i with
    | zero => exact ⟨_, fun _ h => (List.mem_cons.mp h), .own h1 h2 h3 h4 h5 h6 s⟩
    | succ i => obtain ⟨A', h, q⟩ := ih h6 i; exact ⟨A', h, .no q⟩
  | val r' s ih => intro i; cases i with
    | zero => exact ⟨_, fun _ h => (List.mem_cons.mp h), .own h1 h2 h3 h4 h5 h6 s⟩
    | succ i => obtain ⟨A', h, q⟩ := ih h6 i; exact ⟨A', h, .val r' q⟩
  | own k1 k2 k3 k4 k5 k6 s ih =>
    rw [List.mem_cons, not_or] at h6
    intro i; cases i with
    | zero => exact ⟨_, fun b hb => (List.mem_cons.mp hb).elim .inl fun z => .inr (List.mem_cons_of_mem _ z), .own h1 h2 h3 h4 h5 h6.2 s⟩
    | succ i =>
      obtain ⟨A', h, q⟩ := ih h6.2 i
      refine ⟨_ :: A', fun b hb => (List.mem_cons.mp hb).elim (fun e => by rw [e]; exact .inr List.mem_cons_self) fun z => (h b z).elim .inl fun y => .inr (List.mem_cons_of_mem _ y), .own k1 k2 k3 k4 k5 (fun z => ?_) q⟩
      rcases h _ z with e | e
      · exact h6.1 e.symm
      · exact k6 e
  | dct k1 k2 k3 k4 k5 k6 s ih =>
    rw [List.mem_cons, not_or] at h6
    intro i; cases i with
    | zero => exact ⟨_, fun b hb => (List.mem_cons.mp hb).elim .inl fun z => .inr (List.mem_cons_of_mem _ z), .own h1 h2 h3 h4 h5 h6.2 s⟩
    | succ i =>
      obtain ⟨A', h, q⟩ := ih h6.2 i
      refine ⟨_ :: A', fun b hb => (List.mem_cons.mp hb).elim (fun e => by rw [e]; exact .inr List.mem_cons_self) fun z => (h b z).elim .inl fun y => .inr (List.mem_cons_of_mem _ y), .dct k1 k2 k3 k4 k5 (fun z => ?_) q⟩
      rcases h _ z with e | e
      · exact h6.1 e.symm
      · exact k6 e
theorem Sl.setDct {a : Addr} {kvs : List (Key × V)} {l : List (Key × D)} (x : Sl g p H0 F H A ss σ) (h1 : H a = some (.dK kvs)) (h2 : Paired (fun (q : Key × V) (r : Key × D) => q.1 = r.1 ∧ Rep g p F q.2 r.2) kvs l) (h3 : F a = none) (h4 : H0 a = none) (h5 : p ≠ some a) (h6 : a ∉ A) :
    ∀ (i : Nat), ∃ A', (∀ b ∈ A', b = a ∨ b ∈ A) ∧ Sl g p H0 F H A' (ss.set i (.dct l)) (σ.set i (some (.ref a))) := by
  induction x with
  | nil => intro i; exact ⟨[], fun _ h => by simp at h, .nil⟩
  | no s ih => intro i; cases i with
    | zero => exact ⟨_, fun _ h => (List.mem_cons.mp h), .dct h1 h2 h3 h4 h5 h6 s⟩
    | succ i => obtain ⟨A', h, q⟩ := ih h6 i; exact ⟨A', h, .no q⟩
  | val r' s ih => intro i; cases i with
    | zero => exact ⟨_, fun _ h => (List.mem_cons.mp h), .dct h1 h2 h3 h4 h5 h6 s⟩
    | succ i => obtain ⟨A', h, q⟩ := ih h6 i; exact ⟨A', h, .val r' q⟩
  | own k1 k2 k3 k4 k5 k6 s ih =>
    rw [List.mem_cons, not_or] at h6
    intro i; cases i with
    | zero => exact ⟨_, fun b hb => (List.mem_cons.mp hb).elim .inl fun z => .inr (List.mem_cons_of_mem _ z), .dct h1 h2 h3 h4 h5 h6.2 s⟩
    | succ i =>
      obtain ⟨A', h, q⟩ := ih h6.2 i
      refine ⟨_ :: A', fun b hb => (List.mem_cons.mp hb).elim (fun e => by rw [e]; exact .inr List.mem_cons_self) fun z => (h b z).elim .inl fun y => .inr (List.mem_cons_of_mem _ y), .own k1 k2 k3 k4 k5 (fun z => ?_) q⟩
      rcases h _ z with e | e
      · exact h6.1 e.symm
      · exact k6 e
  | dct k1 k2 k3 k4 k5 k6 s ih =>
    rw [List.mem_cons, not_or] at h6
    intro i; cases i with
    | zero => exact ⟨_, fun b hb => (List.mem_cons.mp hb).elim .inl fun z => .inr (List.mem_cons_of_mem _ z), .dct h1 h2 h3 h4 h5 h6.2 s⟩
    | succ i =>
      obtain ⟨A', h, q⟩ := ih h6.2 i
      refine ⟨_ :: A', fun b hb => (List.mem_cons.mp hb).elim (fun e => by rw [e]; exact .inr List.mem_cons_self) fun z => (h b z).elim .inl fun y => .inr (List.mem_cons_of_mem _ y), .dct k1 k2 k3 k4 k5 (fun z => ?_) q⟩
      rcases h _ z with e | e
      · exact h6.1 e.symm
      · exact k6 e
end
end Pd

/-! Pd, part B: states and what a reading does to them. -/
namespace Pd
open PySem PySem.Spec PyProof.Rows L2

structure Rel (g : Gl) (p : Option Addr) (H0 F0 : Hp) (A : List Addr) (F : Hp) (s : S) (σ : L2.St) (H : Hp) : Prop where
  ext : Ext F H
  ef0 : Ext F0 F
  fr : ∀ b o, F b = some o → F0 b = some o ∨ H0 b = none
  evo : ∀ b o, H0 b = some o → p ≠ some b → nt o → H b = some o
  al : ∀ b, H b = none → H0 b = none
  pl : PileOk p s.pile F H
  tb : g.T H
  sl : Sl g p H0 F H A s.sl σ

section
variable {g : Gl} {p : Option Addr} {H0 F0 : Hp} {A : List Addr} {F F' : Hp} {s : S} {σ : L2.St} {H H' : Hp} {n : Int}
theorem Rel.call (X : Rel g p H0 F0 A F s σ H) (G : Gr g p F H F' H') (P : PileOk p n F' H') : Rel g p H0 F0 A F' { s with pile := n } σ H' where
  ext := G.fh
  ef0 := X.ef0.trans G.ff
  fr := fun b o q => (G.nw b o q).elim (X.fr b o) fun z => .inr (X.al b z)
  evo := fun b o q np no => G.hh b o (X.evo b o q np no) np no
  al := fun b q => X.al b (G.al b q)
  pl := P
  tb := G.tb
  sl := X.sl.mono G.ff fun a ha => by
    obtain ⟨h0, f, np, hv⟩ := X.sl.facts a ha
    constructor
    · rcases hv with ⟨vs, hv⟩ | ⟨kvs, hv⟩
      · rw [hv]; exact G.hh a _ hv np trivial
      · rw [hv]; exact G.hh a _ hv np trivial
    · cases q : F' a with
      | none => rfl
      | some o =>
        rcases G.nw a o q with z | z
        · rw [f] at z; cases z
        · rcases hv with ⟨vs, hv⟩ | ⟨kvs, hv⟩ <;> (rw [hv] at z; cases z)
theorem Rel.grow (X : Rel g p H0 F0 A F s σ H) (G : Gr g none F H F' H') : Rel g p H0 F0 A F' s σ H' := by
  refine X.call (n := s.pile) G.weak ⟨fun a e => ?_, fun b ps h => X.pl.2 b ps (G.nn b ps h)⟩
  obtain ⟨h1, h2⟩ := X.pl.1 a e
  refine ⟨?_, G.hh a _ h2 (by simp) trivial⟩
  cases q : F' a with
  | none => rfl
  | some o =>
    rcases G.nw a o q with z | z
    · rw [h1] at z; cases z
    · rw [h2] at z; cases z
theorem Rel.gr (X : Rel g p H0 F0 A F s σ H) : Gr g p F H F H := Gr.refl X.ext X.tb
end

inductive R (α : Type) where
  | ok (a : α) (s : S)
  | exc (c : String) (n : Option Int) (s : S)
  | stuck
def R.bind {α β : Type} : R α → (α → S → R β) → R β
  | .ok a s, k => k a s
  | .exc c n s, _ => .exc c n s
  | .stuck, _ => .stuck
@[simp] theorem R.bind_ok {α β : Type} (a : α) (s : S) (k : α → S → R β) : (R.ok a s).bind k = k a s := rfl
@[simp] theorem R.bind_exc {α β : Type} (c : String) (n : Option Int) (s : S) (k : α → S → R β) : (R.exc c n s : R α).bind k = .exc c n s := rfl
@[simp] theorem R.bind_stuck {α β : Type} (k : α → S → R β) : (R.stuck : R α).bind k = .stuck := rfl
def R.of {α : Type} : Option α → S → R α
  | some a, s => .ok a s
  | none, _ => .stuck
@[simp] theorem R.of_some {α : Type} (a : α) (s : S) : R.of (some a) s = .ok a s := rfl
@[simp] theorem R.of_none {α : Type} (s : S) : R.of (none : Option α) s = .stuck := rfl

/-- the exception of the class c (with its number n) -/
def ExcV (g : Gl) (c : String) (n : Option Int) (cls : Value) (d : Option Addr) (F : Hp) : Prop :=
  ∃ C, g.mg (Str.ofString c) = some (.ref C) ∧ cls = .ref C ∧ ExD d n F

abbrev RPT (α β : Type) := Option Addr → Hp → β → α → Prop

/-- what is to be shown of a reading's end -/
def Post {α β : Type} (g : Gl) (W : WX) (Rp : RPT α β) (p : Option Addr) (H0 F0 F : Hp) (σ : L2.St) (Q : β → Hp → Prop) : R α → Prop
  | .ok a s' => ∀ b F' H' A', Rel g p H0 F0 A' F' s' σ H' → Ext F F' → Rp p F' b a → Q b H'
  | .exc c n s' => ∀ cls d F' H' A', Rel g p H0 F0 A' F' s' σ H' → Ext F F' → ExcV g c n cls d F' → W cls d σ H'
  | .stuck => False

def Sim {α β : Type} (g : Gl) (W : WX) (Rp : RPT α β) (t : L2.St → Hp → (β → Hp → Prop) → Prop) (m : S → R α) : Prop :=
  ∀ (p : Option Addr) (H0 F0 : Hp) (A : List Addr) (F : Hp) (s : S) (σ : L2.St) (H : Hp) (Q : β → Hp → Prop), Rel g p H0 F0 A F s σ H → Post g W Rp p H0 F0 F σ Q (m s) → t σ H Q

section
variable {g : Gl} {W : WX} {p : Option Addr} {H0 F0 F F' : Hp} {σ : L2.St} {α β γ δ : Type}
theorem Post.mono {Rp : RPT α β} {Q : β → Hp → Prop} {r : R α} (h : Post g W Rp p H0 F0 F σ Q r) (e : Ext F F') : Post g W Rp p H0 F0 F' σ Q r := by
  cases r with
  | ok a s => exact fun b F1 H1 A1 X1 e1 r1 => h b F1 H1 A1 X1 (e.trans e1) r1
  | exc c n s => exact fun cls d F1 H1 A1 X1 e1 r1 => h cls d F1 H1 A1 X1 (e.trans e1) r1
  | stuck => exact h
theorem Post.bind {Rp : RPT α β} {Rp' : RPT γ δ} {Q' : δ → Hp → Prop} {Q : β → Hp → Prop} {r : R α} {k : α → S → R γ} (h : Post g W Rp' p H0 F0 F σ Q' (r.bind k))
    (st : ∀ a s' b F' H' A', Rel g p H0 F0 A' F' s' σ H' → Ext F F' → Rp p F' b a → Post g W Rp' p H0 F0 F' σ Q' (k a s') → Q b H') : Post g W Rp p H0 F0 F σ Q r := by
  cases r with
  | ok a s => exact fun b F1 H1 A1 X1 e1 r1 => st a s b F1 H1 A1 X1 e1 r1 (Post.mono h e1)
  | exc c n s => exact h
  | stuck => exact h
end

abbrev RepV (g : Gl) : RPT D V := fun p F v d => Rep g p F v d
abbrev RepA (g : Gl) : RPT (List D) (List V) := fun p F vs ds => Reps g p F vs ds
abbrev RepB : RPT Bool Bool := fun _ _ b a => b = a

abbrev EM := S → R D
abbrev TM := S → R Bool
abbrev AM := S → R (List D)
/-- an expression, a test, arguments -/
def DE (g : Gl) (X : Cx) (W : WX) (e : Expr) (m : EM) : Prop := ∃ t, PE X e t ∧ Sim g W (RepV g) t m
def DT (g : Gl) (X : Cx) (W : WX) (e : Expr) (m : TM) : Prop := ∃ t, PT X e t ∧ Sim g W RepB t m
def DA (g : Gl) (X : Cx) (W : WX) (es : List Expr) (m : AM) : Prop := ∃ t, PA X es t ∧ Sim g W (RepA g) t m
/-- a test whatever its whole is -/
def DW (g : Gl) (X : Cx) (W : WX) (e : Expr) (m : TM) : Prop := ∃ t, PW X e t ∧ Sim g W RepB t m

/-! ### results that may be new lists -/
abbrev OM := S → R SV
def PostO (g : Gl) (W : WX) (p : Option Addr) (H0 F0 F : Hp) (σ : L2.St) (Q : VK) : R SV → Prop
  | .ok (.val d) s' => ∀ v F' H' A', Rel g p H0 F0 A' F' s' σ H' → Ext F F' → Rep g p F' v d → Q v H'
  | .ok (.own l) s' => ∀ a vs F' H' A', Rel g p H0 F0 A' F' s' σ H' → Ext F F' → Reps g p F' vs l → H' a = some (.lst vs) → F' a = none → H0 a = none → p ≠ some a → a ∉ A' → Q (.ref a) H'
  | .ok (.dct l) s' => ∀ a kvs F' H' A', Rel g p H0 F0 A' F' s' σ H' → Ext F F' → Paired (fun (q : Key × V) (r : Key × D) => q.1 = r.1 ∧ Rep g p F' q.2 r.2) kvs l → H' a = some (.dK kvs) → F' a = none → H0 a = none → p ≠ some a → a ∉ A' → Q (.ref a) H'
  | .ok .no _ => False
  | .exc c n s' => ∀ cls d F' H' A', Rel g p H0 F0 A' F' s' σ H' → Ext F F' → ExcV g c n cls d F' → W cls d σ H'
  | .stuck => False
def SimO (g : Gl) (W : WX) (t : TE) (m : OM) : Prop :=
  ∀ (p : Option Addr) (H0 F0 : Hp) (A : List Addr) (F : Hp) (s : S) (σ : L2.St) (H : Hp) (Q : VK), Rel g p H0 F0 A F s σ H → PostO g W p H0 F0 F σ Q (m s) → t σ H Q
def DO (g : Gl) (X : Cx) (W : WX) (e : Expr) (m : OM) : Prop := ∃ t, PE X e t ∧ SimO g W t m
theorem PostO.mono {g : Gl} {W : WX} {p : Option Addr} {H0 F0 F F' : Hp} {σ : L2.St} {Q : VK} {r : R SV} (h : PostO g W p H0 F0 F σ Q r) (e : Ext F F') : PostO g W p H0 F0 F' σ Q r := by
  cases r with
  | ok a s => cases a with
    | no => exact h
    | val d => exact fun v F1 H1 A1 X1 e1 r1 => h v F1 H1 A1 X1 (e.trans e1) r1
    | own l => exact fun a vs F1 H1 A1 X1 e1 r1 => h a vs F1 H1 A1 X1 (e.trans e1) r1
    | dct l => exact fun a vs F1 H1 A1 X1 e1 r1 => h a vs F1 H1 A1 X1 (e.trans e1) r1
  | exc c n s => exact fun cls d F1 H1 A1 X1 e1 r1 => h cls d F1 H1 A1 X1 (e.trans e1) r1
  | stuck => exact h
/-- behind a first part -/
theorem PostO.bind {g : Gl} {W : WX} {p : Option Addr} {H0 F0 F : Hp} {σ : L2.St} {α β : Type} {Rp : RPT α β} {Q' : VK} {Q : β → Hp → Prop} {r : R α} {k : α → S → R SV} (h : PostO g W p H0 F0 F σ Q' (r.bind k))
    (st : ∀ a s' b F' H' A', Rel g p H0 F0 A' F' s' σ H' → Ext F F' → Rp p F' b a → PostO g W p H0 F0 F' σ Q' (k a s') → Q b H') : Post g W Rp p H0 F0 F σ Q r := by
  cases r with
  | ok a s => exact fun b F1 H1 A1 X1 e1 r1 => st a s b F1 H1 A1 X1 e1 r1 (PostO.mono h e1)
  | exc c n s => exact h
  | stuck => exact h

/-- a value is a result -/
def oV (m : EM) : OM := fun s => (m s).bind fun d s' => .ok (.val d) s'
theorem do_of {g : Gl} {X : Cx} {W : WX} {e : Expr} {m : EM} (h : DE g X W e m) : DO g X W e (oV m) := by
  obtain ⟨t, h1, h2⟩ := h
  refine ⟨t, h1, fun p H0 F0 A F s σ H Q Y hp => h2 p H0 F0 A F s σ H Q Y (PostO.bind hp fun d s' b F' H' A' X' e' r' k => k b F' H' A' X' (Ext.refl _) r')⟩
/-- frozen -/
def frz : SV → S → R D
  | .val d, s => .ok d s
  | .own l, s => .ok (.lst l) s
  | _, _ => .stuck
def eF (m : OM) : EM := fun s => (m s).bind frz
theorem Rel.freeze {g : Gl} {p : Option Addr} {H0 F0 : Hp} {A : List Addr} {F : Hp} {s : S} {σ : L2.St} {H : Hp} {a : Addr} {o : HO} (X : Rel g p H0 F0 A F s σ H) (h1 : H a = some o) (h3 : F a = none) (h4 : H0 a = none) (h5 : p ≠ some a) (h6 : a ∉ A) (ho : ∀ ps, o ≠ .tbl ps := by nofun) :
    Rel g p H0 F0 A (upd F a o) s σ H where
  ext := fun b u q => by
    by_cases hb : b = a
    · subst hb; rw [upd_same] at q; rw [h1]; exact q
    · rw [upd_ne hb] at q; exact X.ext b u q
  ef0 := X.ef0.trans (Ext.new h3)
  fr := fun b u q => by
    by_cases hb : b = a
    · subst hb; exact .inr h4
    · rw [upd_ne hb] at q; exact X.fr b u q
  evo := X.evo
  al := X.al
  pl := ⟨fun b e => by
    obtain ⟨z1, z2⟩ := X.pl.1 b e
    refine ⟨?_, z2⟩
    rw [upd_ne (fun z => h5 (by rw [e, z]))]; exact z1, fun b ps q => by
    by_cases hb : b = a
    · subst hb; rw [upd_same] at q; exact ho ps (Option.some.inj q)
    · rw [upd_ne hb] at q; exact X.pl.2 b ps q⟩
  tb := X.tb
  sl := X.sl.mono (Ext.new h3) fun b hb => ⟨rfl, by rw [upd_ne (fun z => h6 (by rw [← z]; exact hb))]; exact (X.sl.facts b hb).2.1⟩
theorem de_frz {g : Gl} {X : Cx} {W : WX} {e : Expr} {m : OM} (h : DO g X W e m) : DE g X W e (eF m) := by
  obtain ⟨t, h1, h2⟩ := h
  refine ⟨t, h1, fun p H0 F0 A F s σ H Q Y hp => h2 p H0 F0 A F s σ H Q Y ?_⟩
  unfold eF at hp
  cases q : m s with
  | ok r s' =>
    rw [q] at hp
    cases r with
    | no => exact hp
    | val d => exact fun v F' H' A' X' e' r' => hp v F' H' A' X' e' r'
    | own l =>
      refine fun a vs F' H' A' X' e' r' k1 k2 k3 k4 k5 => hp (.ref a) _ H' A' (X'.freeze k1 k2 k3 k4 k5) (e'.trans (Ext.new k2)) (.lst (.inl upd_same) (r'.mono (Ext.new k2)))
    | dct l => exact hp.elim
  | exc c n s' => rw [q] at hp; exact hp
  | stuck => rw [q] at hp; exact hp

/-! ### names -/
/-- a slot read: a list of one's own is frozen by that -/
def mVar (i : Nat) : EM := fun s => match s.sl[i]? with
  | some (.val d) => .ok d s
  | some (.own l) => .ok (.lst l) { s with sl := s.sl.set i (.val (.lst l)) }
  | _ => .stuck
theorem Rel.var {g : Gl} {p : Option Addr} {H0 F0 : Hp} {A : List Addr} {F : Hp} {s : S} {σ : L2.St} {H : Hp} {i : Nat} {d : D} (X : Rel g p H0 F0 A F s σ H) (h : s.sl[i]? = some (.val d)) : ∃ v, σ[i]? = some (some v) ∧ Rep g p F v d := X.sl.getVal h
theorem set_self {σ : L2.St} {i : Nat} {x : Option V} (h : σ[i]? = some x) : σ.set i x = σ := by
  apply List.ext_getElem?
  intro j
  by_cases hj : i = j
  · subst hj
    have hl : i < σ.length := (List.getElem?_eq_some_iff.mp h).1
    rw [List.getElem?_set_self hl, h]
  · rw [List.getElem?_set_ne hj]

/-- an own list's slot is emptied -/
theorem Sl.takeOwn {g : Gl} {p : Option Addr} {H0 F H : Hp} {A : List Addr} {ss : List SV} {σ : L2.St} (x : Sl g p H0 F H A ss σ) : ∀ (i : Nat) (l : List D), ss[i]? = some (.own l) →
    ∃ a vs A', σ[i]? = some (some (.ref a)) ∧ H a = some (.lst vs) ∧ Reps g p F vs l ∧ F a = none ∧ H0 a = none ∧ p ≠ some a ∧ a ∈ A ∧ a ∉ A' ∧ (∀ b ∈ A', b ∈ A) ∧ Sl g p H0 F H A' (ss.set i .no) σ := by
  induction x with
  | nil => intro i l h; simp at h
  | no s ih => intro i l h; cases i with
    | zero => simp at h
    | succ i =>
      obtain ⟨a, vs, A', e, k1, k2, k3, k4, k5, k6, k7, k8, q⟩ := ih i l (by simpa using h)
      exact ⟨a, vs, A', by simpa using e, k1, k2, k3, k4, k5, k6, k7, k8, .no q⟩
  | val r s ih => intro i l h; cases i with
    | zero => simp at h
    | succ i =>
      obtain ⟨a, vs, A', e, k1, k2, k3, k4, k5, k6, k7, k8, q⟩ := ih i l (by simpa using h)
      exact ⟨a, vs, A', by simpa using e, k1, k2, k3, k4, k5, k6, k7, k8, .val r q⟩
  | own q1 q2 q3 q4 q5 q6 s ih => intro i l h; cases i with
    | zero =>
      simp at h
      subst h
      exact ⟨_, _, _, rfl, q1, q2, q3, q4, q5, List.mem_cons_self, q6, fun b hb => List.mem_cons_of_mem _ hb, .no s⟩
    | succ i =>
      obtain ⟨a, vs, A', e, k1, k2, k3, k4, k5, k6, k7, k8, q⟩ := ih i l (by simpa using h)
      refine ⟨a, vs, _ :: A', by simpa using e, k1, k2, k3, k4, k5, List.mem_cons_of_mem _ k6, ?_, ?_, .own q1 q2 q3 q4 q5 (fun z => q6 (k8 _ z)) q⟩
      · rw [List.mem_cons, not_or]
        exact ⟨fun z => q6 (by rw [← z]; exact k6), k7⟩
      · exact fun b hb => (List.mem_cons.mp hb).elim (fun z => by rw [z]; exact List.mem_cons_self) fun z => List.mem_cons_of_mem _ (k8 b z)
  | dct q1 q2 q3 q4 q5 q6 s ih => intro i l h; cases i with
    | zero => simp at h
    | succ i =>
      obtain ⟨a, vs, A', e, k1, k2, k3, k4, k5, k6, k7, k8, q⟩ := ih i l (by simpa using h)
      refine ⟨a, vs, _ :: A', by simpa using e, k1, k2, k3, k4, k5, List.mem_cons_of_mem _ k6, ?_, ?_, .dct q1 q2 q3 q4 q5 (fun z => q6 (k8 _ z)) q⟩
      · rw [List.mem_cons, not_or]
        exact ⟨fun z => q6 (by rw [← z]; exact k6), k7⟩
      · exact fun b hb => (List.mem_cons.mp hb).elim (fun z => by rw [z]; exact List.mem_cons_self) fun z => List.mem_cons_of_mem _ (k8 b z)
theorem Sl.takeDct {g : Gl} {p : Option Addr} {H0 F H : Hp} {A : List Addr} {ss : List SV} {σ : L2.St} (x : Sl g p H0 F H A ss σ) : ∀ (i : Nat) (l : List (Key × D)), ss[i]? = some (.dct l) →
    ∃ a kvs A', σ[i]? = some (some (.ref a)) ∧ H a = some (.dK kvs) ∧ Paired (fun (q : Key × V) (r : Key × D) => q.1 = r.1 ∧ Rep g p F q.2 r.2) kvs l ∧ F a = none ∧ H0 a = none ∧ p ≠ some a ∧ a ∈ A ∧ a ∉ A' ∧ (∀ b ∈ A', b ∈ A) ∧ Sl g p H0 F H A' (ss.set i .no) σ := by
  induction x with
  | nil => intro i l h; simp at h
  | no s ih => intro i l h; cases i with
    | zero => simp at h
    | succ i =>
      obtain ⟨a, vs, A', e, k1, k2, k3, k4, k5, k6, k7, k8, q⟩ := ih i l (by simpa using h)
      exact ⟨a, vs, A', by simpa using e, k1, k2, k3, k4, k5, k6, k7, k8, .no q⟩
  | val r s ih => intro i l h; cases i with
    | zero => simp at h
    | succ i =>
      obtain ⟨a, vs, A', e, k1, k2, k3, k4, k5, k6, k7, k8, q⟩ := ih i l (by simpa using h)
      exact ⟨a, vs, A', by simpa using e, k1, k2, k3, k4, k5, k6, k7, k8, .val r q⟩
  | own q1 q2 q3 q4 q5 q6 s ih => intro i l h; cases i with
    | zero => simp at h
    | succ i =>
      obtain ⟨a, vs, A', e, k1, k2, k3, k4, k5, k6, k7, k8, q⟩ := ih i l (by simpa using h)
      refine ⟨a, vs, _ :: A', by simpa using e, k1, k2, k3, k4, k5, List.mem_cons_of_mem _ k6, ?_, ?_, .own q1 q2 q3 q4 q5 (fun z => q6 (k8 _ z)) q⟩
      · rw [List.mem_cons, not_or]
        exact ⟨fun z => q6 (by rw [← z]; exact k6), k7⟩
      · exact fun b hb => (List.mem_cons.mp hb).elim (fun z => by rw [z]; exact List.mem_cons_self) fun z => List.mem_cons_of_mem _ (k8 b z)
  | dct q1 q2 q3 q4 q5 q6 s ih => intro i l h; cases i with
    | zero =>
      simp at h
      subst h
      exact ⟨_, _, _, rfl, q1, q2, q3, q4, q5, List.mem_cons_self, q6, fun b hb => List.mem_cons_of_mem _ hb, .no s⟩
    | succ i =>
      obtain ⟨a, vs, A', e, k1, k2, k3, k4, k5, k6, k7, k8, q⟩ := ih i l (by simpa using h)
      refine ⟨a, vs, _ :: A', by simpa using e, k1, k2, k3, k4, k5, List.mem_cons_of_mem _ k6, ?_, ?_, .dct q1 q2 q3 q4 q5 (fun z => q6 (k8 _ z)) q⟩
      · rw [List.mem_cons, not_or]
        exact ⟨fun z => q6 (by rw [← z]; exact k6), k7⟩
      · exact fun b hb => (List.mem_cons.mp hb).elim (fun z => by rw [z]; exact List.mem_cons_self) fun z => List.mem_cons_of_mem _ (k8 b z)
/-- another list of slots over the same heap -/
theorem Rel.slots {g : Gl} {p : Option Addr} {H0 F0 : Hp} {A A' : List Addr} {F : Hp} {s s' : S} {σ σ' : L2.St} {H : Hp} (X : Rel g p H0 F0 A F s σ H) (hp : s'.pile = s.pile) (h : Sl g p H0 F H A' s'.sl σ') : Rel g p H0 F0 A' F s' σ' H :=
  ⟨X.ext, X.ef0, X.fr, X.evo, X.al, by rw [hp]; exact X.pl, X.tb, h⟩
theorem Rel.frzSlot {g : Gl} {p : Option Addr} {H0 F0 : Hp} {A : List Addr} {F : Hp} {s : S} {σ : L2.St} {H : Hp} {i : Nat} {l : List D} (X : Rel g p H0 F0 A F s σ H) (h : s.sl[i]? = some (.own l)) :
    ∃ a F' A', σ[i]? = some (some (.ref a)) ∧ Ext F F' ∧ Rep g p F' (.ref a) (.lst l) ∧ Rel g p H0 F0 A' F' { s with sl := s.sl.set i (.val (.lst l)) } σ H := by
  obtain ⟨a, vs, A1, h1, h2, h3, h4, h5, h6, h7, h8, h9, q⟩ := X.sl.takeOwn i l h
  have X1 : Rel g p H0 F0 A1 F { s with sl := s.sl.set i .no } σ H := X.slots (s' := { s with sl := s.sl.set i .no }) rfl q
  have X2 := X1.freeze h2 h4 h5 h6 h8
  have e := Ext.new (o := HO.lst vs) h4
  have r : Rep g p (upd F a (.lst vs)) (.ref a) (.lst l) := .lst (.inl upd_same) (h3.mono e)
  obtain ⟨A2, m2, q2⟩ := X2.sl.setVal r i
  refine ⟨a, _, A2, h1, e, r, X2.slots (s' := { s with sl := s.sl.set i (.val (.lst l)) }) rfl ?_⟩
  rw [set_self h1, List.set_set] at q2
  exact q2
theorem de_var {g : Gl} {X : Cx} {W : WX} {e : Expr} {i : Nat} (h : PE X e (tVar i)) : DE g X W e (mVar i) := by
  refine ⟨_, h, fun p H0 F0 A F s σ H Q Y hp => ?_⟩
  unfold mVar at hp
  cases q : s.sl[i]? with
  | none => rw [q] at hp; exact hp.elim
  | some x =>
    rw [q] at hp
    cases x with
    | no => exact hp.elim
    | dct l => exact hp.elim
    | val d =>
      obtain ⟨v, h1, r⟩ := Y.var q
      exact ⟨v, h1, hp v F H A Y (Ext.refl _) r⟩
    | own l =>
      obtain ⟨a, F', A', h1, e1, r, Y'⟩ := Y.frzSlot q
      exact ⟨_, h1, hp _ F' H A' Y' e1 r⟩
/-- the slot given away: its list is the result's own -/
def oVar (i : Nat) : OM := fun s => match s.sl[i]? with
  | some (.val d) => .ok (.val d) s
  | some (.own l) => .ok (.own l) { s with sl := s.sl.set i .no }
  | some (.dct l) => .ok (.dct l) { s with sl := s.sl.set i .no }
  | _ => .stuck
theorem do_var {g : Gl} {X : Cx} {W : WX} {e : Expr} {i : Nat} (h : PE X e (tVar i)) : DO g X W e (oVar i) := by
  refine ⟨_, h, fun p H0 F0 A F s σ H Q Y hp => ?_⟩
  unfold oVar at hp
  cases q : s.sl[i]? with
  | none => rw [q] at hp; exact hp.elim
  | some x =>
    rw [q] at hp
    cases x with
    | no => exact hp.elim
    | dct l =>
      obtain ⟨a, vs, A1, h1, h2, h3, h4, h5, h6, h7, h8, h9, q⟩ := Y.sl.takeDct i l q
      exact ⟨_, h1, hp a vs F H A1 (Y.slots (s' := { s with sl := s.sl.set i .no }) rfl q) (Ext.refl _) h3 h2 h4 h5 h6 h8⟩
    | val d =>
      obtain ⟨v, h1, r⟩ := Y.var q
      exact ⟨v, h1, hp v F H A Y (Ext.refl _) r⟩
    | own l =>
      obtain ⟨a, vs, A1, h1, h2, h3, h4, h5, h6, h7, h8, h9, q⟩ := Y.sl.takeOwn i l q
      exact ⟨_, h1, hp a vs F H A1 (Y.slots (s' := { s with sl := s.sl.set i .no }) rfl q) (Ext.refl _) h3 h2 h4 h5 h6 h8⟩
/-- a constant -/
def mC (d : D) : EM := fun s => .ok d s
theorem de_c {g : Gl} {X : Cx} {W : WX} {e : Expr} {v : V} {d : D} (h : PE X e (tC v)) (r : ∀ p F, Rep g p F v d) : DE g X W e (mC d) :=
  ⟨_, h, fun p H0 F0 A F s σ H Q Y hp => hp v F H A Y (Ext.refl _) (r p F)⟩
theorem rep_str {g : Gl} {p : Option Addr} {F : Hp} (x : Str) : Rep g p F (.str x) (.str x.cps.toList) := .str x.cps.toList
section
variable {g : Gl} {X : Cx} {W : WX}
theorem de_int {i j pos} : DE g X W (.Constant (.int i) j pos) (mC (.int i)) := de_c pe_int fun _ _ => .int i
theorem de_bl {b j pos} : DE g X W (.Constant (.bool b) j pos) (mC (.bl b)) := de_c pe_bl fun _ _ => .bl b
theorem de_non {j pos} : DE g X W (.Constant .none j pos) (mC .non) := de_c pe_non fun _ _ => .non
theorem de_str {x : Str} {s : List Nat} {j pos} (h : x.cps.toList = s := by rfl) : DE g X W (.Constant (.str x) j pos) (mC (.str s)) := de_c pe_str fun _ _ => by rw [← h]; exact rep_str x
end

/-! ### two-place operations, built-ins by values -/
/-- an operation's worth -/
def OpP (g : Gl) (p : Option Addr) (F H : Hp) (Q : VK) : Option D → Prop
  | some d => ∀ v F' H', Gr g none F H F' H' → Rep g p F' v d → Q v H'
  | none => False
def ROp (g : Gl) (r : R2) (f : D → D → Option D) : Prop := ∀ (p : Option Addr) (F H : Hp) (x y : V) (dx dy : D) (Q : VK), Rep g p F x dx → Rep g p F y dy → Ext F H → g.T H → OpP g p F H Q (f dx dy) → r x y H Q
def mBin (f : D → D → Option D) (a b : EM) : EM := fun s => (a s).bind fun x s1 => (b s1).bind fun y s2 => R.of (f x y) s2
theorem Post.of {g : Gl} {W : WX} {p : Option Addr} {H0 F0 F : Hp} {σ : L2.St} {s : S} {A : List Addr} {H : Hp} {o : Option D} {Q : VK} (X : Rel g p H0 F0 A F s σ H) (h : Post g W (RepV g) p H0 F0 F σ Q (R.of o s)) : OpP g p F H Q o := by
  cases o with
  | none => exact h
  | some d => exact fun v F' H' G r => h v F' H' A (X.grow G) G.ff r
section
variable {g : Gl} {X : Cx} {W : WX} {a b : Expr} {ma mb : EM} {pos : Pos}
theorem sim_bin {ta tb : TE} {r : R2} {f : D → D → Option D} (hr : ROp g r f) (ha : Sim g W (RepV g) ta ma) (hb : Sim g W (RepV g) tb mb) : Sim g W (RepV g) (tOp r ta tb) (mBin f ma mb) := by
  intro p H0 F0 A F s σ H Q Y hp
  refine ha p H0 F0 A F s σ H _ Y (hp.bind fun x s1 v F1 H1 A1 Y1 e1 r1 hp1 => ?_)
  refine hb p H0 F0 A1 F1 s1 σ H1 _ Y1 (hp1.bind fun y s2 w F2 H2 A2 Y2 e2 r2 hp2 => ?_)
  exact hr p F2 H2 v w x y Q (r1.mono e2) r2 Y2.ext Y2.tb (Post.of Y2 hp2)
theorem de_bin {op : Operator} {r : R2} {f : D → D → Option D} (ho : OpR X (binaryOp op) r) (hr : ROp g r f) (ha : DE g X W a ma) (hb : DE g X W b mb) : DE g X W (.BinOp a op b pos) (mBin f ma mb) := by
  obtain ⟨ta, a1, a2⟩ := ha
  obtain ⟨tb, b1, b2⟩ := hb
  exact ⟨_, pe_op ho a1 b1, sim_bin hr a2 b2⟩
theorem de_cmp {op : CmpOp} {r : R2} {f : D → D → Option D} (ho : OpR X (compareOp op) r) (hr : ROp g r f) (ha : DE g X W a ma) (hb : DE g X W b mb) (hm : behindInMarks op b = false) : DE g X W (.Compare a [op] [b] pos) (mBin f ma mb) := by
  obtain ⟨ta, a1, a2⟩ := ha
  obtain ⟨tb, b1, b2⟩ := hb
  exact ⟨_, pe_cmpR ho a1 b1 hm, sim_bin hr a2 b2⟩
/-- a value that is a bool, as a test -/
def mTest (m : EM) : TM := fun s => (m s).bind fun d s1 => match d with
  | .bl k => .ok k s1
  | _ => .stuck
theorem sim_test {te : TE} {m : EM} (h : Sim g W (RepV g) te m) : Sim g W RepB (tTest te) (mTest m) := by
  intro p H0 F0 A F s σ H Q Y hp
  refine h p H0 F0 A F s σ H _ Y (hp.bind fun d s1 v F1 H1 A1 Y1 e1 r1 hp1 => ?_)
  cases d with
  | bl k =>
    cases r1
    exact ⟨k, rfl, hp1 k F1 H1 A1 Y1 (Ext.refl _) rfl⟩
  | _ => exact hp1.elim
theorem dt_cmp {op : CmpOp} {r : R2} {f : D → D → Option D} (ho : OpR X (compareOp op) r) (hr : ROp g r f) (ha : DE g X W a ma) (hb : DE g X W b mb) (hm : behindInMarks op b = false) : DT g X W (.Compare a [op] [b] pos) (mTest (mBin f ma mb)) := by
  obtain ⟨ta, a1, a2⟩ := ha
  obtain ⟨tb, b1, b2⟩ := hb
  exact ⟨_, pt_cmpR ho a1 b1 hm, sim_test (sim_bin hr a2 b2)⟩
theorem dt_val {e : Expr} {m : EM} (h : DE g X W e m) (he : ∀ whole, isTrue e X.env whole = (do let v ← whole; standAt e.pos; holding [v] (truthy v)) := by intro _; rfl) : DT g X W e (mTest m) := by
  obtain ⟨t, a1, a2⟩ := h
  refine ⟨_, pt_val a1 he, ?_⟩
  exact sim_test a2
def mAnd (a b : TM) : TM := fun s => (a s).bind fun k s1 => if k = true then b s1 else .ok false s1
def mOr (a b : TM) : TM := fun s => (a s).bind fun k s1 => if k = true then .ok true s1 else b s1
def mNot (a : TM) : TM := fun s => (a s).bind fun k s1 => .ok (!k) s1
variable {ta tb : TM} {rest : List Expr}
theorem dw_and1 (h : DT g X W a ta) : DW g X W (.BoolOp .And [a] pos) ta := let ⟨_, a1, a2⟩ := h; ⟨_, pw_and1 a1, a2⟩
theorem dw_or1 (h : DT g X W a ta) : DW g X W (.BoolOp .Or [a] pos) ta := let ⟨_, a1, a2⟩ := h; ⟨_, pw_or1 a1, a2⟩
theorem dw_and (ha : DT g X W a ta) (hb : DW g X W (.BoolOp .And (b :: rest) pos) tb) : DW g X W (.BoolOp .And (a :: b :: rest) pos) (mAnd ta tb) := by
  obtain ⟨t1, a1, a2⟩ := ha
  obtain ⟨t2, b1, b2⟩ := hb
  refine ⟨_, pw_and a1 b1, fun p H0 F0 A F s σ H Q Y hp => a2 p H0 F0 A F s σ H _ Y (hp.bind fun k s1 k' F1 H1 A1 Y1 e1 r1 hp1 => ?_)⟩
  cases r1
  cases k with
  | true => exact b2 p H0 F0 A1 F1 s1 σ H1 Q Y1 hp1
  | false => exact hp1 false F1 H1 A1 Y1 (Ext.refl _) rfl
theorem dw_or (ha : DT g X W a ta) (hb : DW g X W (.BoolOp .Or (b :: rest) pos) tb) : DW g X W (.BoolOp .Or (a :: b :: rest) pos) (mOr ta tb) := by
  obtain ⟨t1, a1, a2⟩ := ha
  obtain ⟨t2, b1, b2⟩ := hb
  refine ⟨_, pw_or a1 b1, fun p H0 F0 A F s σ H Q Y hp => a2 p H0 F0 A F s σ H _ Y (hp.bind fun k s1 k' F1 H1 A1 Y1 e1 r1 hp1 => ?_)⟩
  cases r1
  cases k with
  | true => exact hp1 true F1 H1 A1 Y1 (Ext.refl _) rfl
  | false => exact b2 p H0 F0 A1 F1 s1 σ H1 Q Y1 hp1
theorem dw_t (h : DW g X W a ta) : DT g X W a ta := let ⟨_, a1, a2⟩ := h; ⟨_, a1.pt, a2⟩
theorem dt_not (h : DT g X W a ta) : DT g X W (.UnaryOp .Not a pos) (mNot ta) := by
  obtain ⟨t1, a1, a2⟩ := h
  refine ⟨_, pt_not a1, fun p H0 F0 A F s σ H Q Y hp => a2 p H0 F0 A F s σ H _ Y (hp.bind fun k s1 k' F1 H1 A1 Y1 e1 r1 hp1 => ?_)⟩
  cases r1
  exact hp1 (!k) F1 H1 A1 Y1 (Ext.refl _) rfl
/-- and, or, not as values: all but the last are bools -/
def eAnd (a b : EM) : EM := fun s => (mTest a s).bind fun k s1 => if k = true then b s1 else .ok (.bl false) s1
def eOr (a b : EM) : EM := fun s => (mTest a s).bind fun k s1 => if k = true then .ok (.bl true) s1 else b s1
def eNot (a : EM) : EM := fun s => (mTest a s).bind fun k s1 => .ok (.bl (!k)) s1
theorem de_one {op} (h : DE g X W a ma) : DE g X W (.BoolOp op [a] pos) ma := let ⟨_, a1, a2⟩ := h; ⟨_, pe_one a1, a2⟩
theorem de_and (ha : DE g X W a ma) (hb : DE g X W (.BoolOp .And (b :: rest) pos) mb) : DE g X W (.BoolOp .And (a :: b :: rest) pos) (eAnd ma mb) := by
  obtain ⟨t1, a1, a2⟩ := ha
  obtain ⟨t2, b1, b2⟩ := hb
  refine ⟨_, pe_and a1 b1, fun p H0 F0 A F s σ H Q Y hp => ?_⟩
  refine sim_test a2 p H0 F0 A F s σ H (fun c H1 => if c = true then t2 σ H1 Q else Q (.bl false) H1) Y (hp.bind fun k s1 k' F1 H1 A1 Y1 e1 r1 hp1 => ?_)
  cases r1
  cases k with
  | true => exact b2 p H0 F0 A1 F1 s1 σ H1 Q Y1 hp1
  | false => exact hp1 (.bl false) F1 H1 A1 Y1 (Ext.refl _) (.bl false)
theorem de_or (ha : DE g X W a ma) (hb : DE g X W (.BoolOp .Or (b :: rest) pos) mb) : DE g X W (.BoolOp .Or (a :: b :: rest) pos) (eOr ma mb) := by
  obtain ⟨t1, a1, a2⟩ := ha
  obtain ⟨t2, b1, b2⟩ := hb
  refine ⟨_, pe_or a1 b1, fun p H0 F0 A F s σ H Q Y hp => ?_⟩
  refine sim_test a2 p H0 F0 A F s σ H (fun c H1 => if c = true then Q (.bl true) H1 else t2 σ H1 Q) Y (hp.bind fun k s1 k' F1 H1 A1 Y1 e1 r1 hp1 => ?_)
  cases r1
  cases k with
  | true => exact hp1 (.bl true) F1 H1 A1 Y1 (Ext.refl _) (.bl true)
  | false => exact b2 p H0 F0 A1 F1 s1 σ H1 Q Y1 hp1
theorem de_not (ha : DE g X W a ma) : DE g X W (.UnaryOp .Not a pos) (eNot ma) := by
  obtain ⟨t1, a1, a2⟩ := ha
  refine ⟨_, pe_not a1, fun p H0 F0 A F s σ H Q Y hp => ?_⟩
  refine sim_test a2 p H0 F0 A F s σ H (fun c H1 => Q (.bl (!c)) H1) Y (hp.bind fun k s1 k' F1 H1 A1 Y1 e1 r1 hp1 => ?_)
  cases r1
  exact hp1 (.bl (!k)) F1 H1 A1 Y1 (Ext.refl _) (.bl _)
def mIf (c : TM) (a b : EM) : EM := fun s => (c s).bind fun k s1 => if k = true then a s1 else b s1
theorem de_if {c : Expr} {mc : TM} (hc : DT g X W c mc) (ha : DE g X W a ma) (hb : DE g X W b mb) : DE g X W (.IfExp c a b pos) (mIf mc ma mb) := by
  obtain ⟨t0, c1, c2⟩ := hc
  obtain ⟨t1, a1, a2⟩ := ha
  obtain ⟨t2, b1, b2⟩ := hb
  refine ⟨_, pe_ifExp c1 a1 b1, fun p H0 F0 A F s σ H Q Y hp => c2 p H0 F0 A F s σ H _ Y (hp.bind fun k s1 k' F1 H1 A1 Y1 e1 r1 hp1 => ?_)⟩
  cases r1
  cases k with
  | true => exact a2 p H0 F0 A1 F1 s1 σ H1 Q Y1 hp1
  | false => exact b2 p H0 F0 A1 F1 s1 σ H1 Q Y1 hp1
/-! ### arguments, displays -/
def aNil : AM := fun s => .ok [] s
def aCons (a : EM) (r : AM) : AM := fun s => (a s).bind fun x s1 => (r s1).bind fun xs s2 => .ok (x :: xs) s2
theorem da_nil : DA g X W [] aNil := ⟨_, pa_nil, fun p H0 F0 A F s σ H Q Y hp => hp [] F H A Y (Ext.refl _) .nil⟩
theorem da_cons {e : Expr} {es : List Expr} {m : EM} {ms : AM} (h : DE g X W e m) (hr : DA g X W es ms) (hs : starEach (e :: es) X.env = (false, eval e X.env) :: starEach es X.env := by rfl) : DA g X W (e :: es) (aCons m ms) := by
  obtain ⟨t1, a1, a2⟩ := h
  obtain ⟨t2, b1, b2⟩ := hr
  refine ⟨_, pa_cons a1 b1 hs, fun p H0 F0 A F s σ H Q Y hp => a2 p H0 F0 A F s σ H _ Y (hp.bind fun x s1 v F1 H1 A1 Y1 e1 r1 hp1 => ?_)⟩
  refine b2 p H0 F0 A1 F1 s1 σ H1 _ Y1 (hp1.bind fun xs s2 vs F2 H2 A2 Y2 e2 r2 hp2 => ?_)
  exact hp2 (v :: vs) F2 H2 A2 Y2 (Ext.refl _) (.cons (r1.mono e2) r2)
def mTup (m : AM) : EM := fun s => (m s).bind fun xs s1 => if xs.length ≤ sizeLine then .ok (.tup xs) s1 else .stuck
def oLst (m : AM) : OM := fun s => (m s).bind fun xs s1 => if xs.length ≤ sizeLine then .ok (.own xs) s1 else .stuck
theorem de_tup {es : List Expr} {x1} {m : AM} (h : DA g X W es m) : DE g X W (.Tuple es x1 pos) (mTup m) := by
  obtain ⟨t1, a1, a2⟩ := h
  refine ⟨_, pe_tup a1, fun p H0 F0 A F s σ H Q Y hp => a2 p H0 F0 A F s σ H _ Y (hp.bind fun xs s1 vs F1 H1 A1 Y1 e1 r1 hp1 => ?_)⟩
  by_cases hl : xs.length ≤ sizeLine
  · rw [if_pos hl] at hp1
    refine ⟨by rw [r1.length]; exact hl, fun q nq => ?_⟩
    have G := Gr.new (g := g) (p := none) (o := HO.tup vs) Y1.ext Y1.tb nq
    exact hp1 (.ref q) _ _ A1 (Y1.grow G) G.ff (.tup (.inl (.inl upd_same)) (r1.mono G.ff))
  · rw [if_neg hl] at hp1; exact hp1.elim
theorem Rel.fresh {p : Option Addr} {H0 F0 : Hp} {A : List Addr} {F : Hp} {s : S} {σ : L2.St} {H : Hp} {q : Addr} (Y : Rel g p H0 F0 A F s σ H) (nq : H q = none) : F q = none ∧ H0 q = none ∧ p ≠ some q ∧ q ∉ A := by
  refine ⟨?_, Y.al q nq, fun e => ?_, fun hm => ?_⟩
  · cases z : F q with
    | none => rfl
    | some o => rw [Y.ext q o z] at nq; cases nq
  · rw [(Y.pl.1 q e).2] at nq; cases nq
  · rcases (Y.sl.facts q hm).2.2.2 with ⟨vs, z⟩ | ⟨vs, z⟩ <;> (rw [z] at nq; cases nq)
theorem do_lst {es : List Expr} {m : AM} (h : DA g X W es m) : DO g X W (.List es pos) (oLst m) := by
  obtain ⟨t1, a1, a2⟩ := h
  refine ⟨_, pe_lst a1, fun p H0 F0 A F s σ H Q Y hp => a2 p H0 F0 A F s σ H _ Y (PostO.bind hp fun xs s1 vs F1 H1 A1 Y1 e1 r1 hp1 => ?_)⟩
  by_cases hl : xs.length ≤ sizeLine
  · rw [if_pos hl] at hp1
    refine ⟨by rw [r1.length]; exact hl, fun q nq => ?_⟩
    have G := Gr.lay (g := g) (p := none) (o := HO.lst vs) Y1.ext Y1.tb nq
    obtain ⟨k1, k2, k3, k4⟩ := Y1.fresh nq
    exact hp1 q vs _ _ A1 (Y1.grow G) G.ff r1 upd_same k1 k2 k3 k4
  · rw [if_neg hl] at hp1; exact hp1.elim
end
end Pd

/-! Pd, part C: statements, loops, comprehensions, defs and calls. -/
namespace Pd
open PySem PySem.Spec PyProof.Rows L2

inductive RS where
  | nx (s : S)
  | rt (v : SV) (s : S)
  | bk (s : S)
  | ct (s : S)
  | exc (c : String) (n : Option Int) (s : S)
  | stuck
abbrev SM := S → RS

def PostS (g : Gl) (W : WX) (p : Option Addr) (H0 F0 F : Hp) (D : Ends) : RS → Prop
  | .nx s' => ∀ σ' F' H' A', Rel g p H0 F0 A' F' s' σ' H' → Ext F F' → D.nx σ' H'
  | .bk s' => ∀ σ' F' H' A', Rel g p H0 F0 A' F' s' σ' H' → Ext F F' → D.bk σ' H'
  | .ct s' => ∀ σ' F' H' A', Rel g p H0 F0 A' F' s' σ' H' → Ext F F' → D.ct σ' H'
  | .rt (.val d) s' => ∀ v σ' F' H' A', Rel g p H0 F0 A' F' s' σ' H' → Ext F F' → Rep g p F' v d → D.rt v H'
  | .rt (.own l) s' => ∀ a vs σ' F' H' A', Rel g p H0 F0 A' F' s' σ' H' → Ext F F' → Reps g p F' vs l → H' a = some (.lst vs) → F' a = none → H0 a = none → p ≠ some a → D.rt (.ref a) H'
  | .rt _ _ => False
  | .exc c n s' => ∀ cls d σ' F' H' A', Rel g p H0 F0 A' F' s' σ' H' → Ext F F' → ExcV g c n cls d F' → W cls d σ' H'
  | .stuck => False
def SimS (g : Gl) (W : WX) (t : TS) (m : SM) : Prop :=
  ∀ (p : Option Addr) (H0 F0 : Hp) (A : List Addr) (F : Hp) (s : S) (σ : L2.St) (H : Hp) (D : Ends), Rel g p H0 F0 A F s σ H → PostS g W p H0 F0 F D (m s) → t D σ H
def DS (g : Gl) (X : Cx) (W : WX) (st : Stmt) (m : SM) : Prop := ∃ t, PS X st t ∧ SimS g W t m
def DSs (g : Gl) (X : Cx) (W : WX) (st : List Stmt) (m : SM) : Prop := ∃ t, PSs X st t ∧ SimS g W t m
section
variable {g : Gl} {W : WX} {p : Option Addr} {H0 F0 F F' : Hp} {σ : L2.St} {D : Ends}
theorem PostS.mono {r : RS} (h : PostS g W p H0 F0 F D r) (e : Ext F F') : PostS g W p H0 F0 F' D r := by
  cases r with
  | nx s => exact fun σ' F1 H1 A1 X1 e1 => h σ' F1 H1 A1 X1 (e.trans e1)
  | bk s => exact fun σ' F1 H1 A1 X1 e1 => h σ' F1 H1 A1 X1 (e.trans e1)
  | ct s => exact fun σ' F1 H1 A1 X1 e1 => h σ' F1 H1 A1 X1 (e.trans e1)
  | rt v s => cases v with
    | val d => exact fun v σ' F1 H1 A1 X1 e1 => h v σ' F1 H1 A1 X1 (e.trans e1)
    | own l => exact fun a vs σ' F1 H1 A1 X1 e1 => h a vs σ' F1 H1 A1 X1 (e.trans e1)
    | no => exact h
    | dct l => exact h
  | exc c n s => exact fun cls d σ' F1 H1 A1 X1 e1 => h cls d σ' F1 H1 A1 X1 (e.trans e1)
  | stuck => exact h
/-- a result, then a statement's rest -/
def R.bs {α : Type} : R α → (α → S → RS) → RS
  | .ok a s, k => k a s
  | .exc c n s, _ => .exc c n s
  | .stuck, _ => .stuck
@[simp] theorem R.bs_ok {α : Type} (a : α) (s : S) (k : α → S → RS) : (R.ok a s).bs k = k a s := rfl
@[simp] theorem R.bs_exc {α : Type} (c : String) (n : Option Int) (s : S) (k : α → S → RS) : (R.exc c n s : R α).bs k = .exc c n s := rfl
@[simp] theorem R.bs_stuck {α : Type} (k : α → S → RS) : (R.stuck : R α).bs k = .stuck := rfl
theorem PostS.bs {α β : Type} {Rp : RPT α β} {Q : β → Hp → Prop} {r : R α} {k : α → S → RS} (h : PostS g W p H0 F0 F D (r.bs k))
    (st : ∀ a s' b F' H' A', Rel g p H0 F0 A' F' s' σ H' → Ext F F' → Rp p F' b a → PostS g W p H0 F0 F' D (k a s') → Q b H') : Post g W Rp p H0 F0 F σ Q r := by
  cases r with
  | ok a s => exact fun b F1 H1 A1 X1 e1 r1 => st a s b F1 H1 A1 X1 e1 r1 (PostS.mono h e1)
  | exc c n s => exact fun cls d F1 H1 A1 X1 e1 x => h cls d σ F1 H1 A1 X1 e1 x
  | stuck => exact h
end

/-! ### blocks -/
def mSeq (a b : SM) : SM := fun s => match a s with
  | .nx s' => b s'
  | r => r
def mNext : SM := fun s => .nx s
section
variable {g : Gl} {X : Cx} {W : WX} {st : Stmt} {rest : List Stmt} {m n : SM} {pos : Pos}
theorem dss_nil : DSs g X W [] mNext := ⟨_, pss_nil, fun p H0 F0 A F s σ H D Y hp => hp σ F H A Y (Ext.refl _)⟩
theorem dss_one (h : DS g X W st m) : DSs g X W [st] m := let ⟨_, a1, a2⟩ := h; ⟨_, pss_one a1, a2⟩
theorem sim_seq {t u : TS} (a2 : SimS g W t m) (b2 : SimS g W u n) : SimS g W (tSeq t u) (mSeq m n) := by
  intro p H0 F0 A F s σ H D Y hp
  refine a2 p H0 F0 A F s σ H _ Y ?_
  unfold mSeq at hp
  cases q : m s with
  | nx s1 =>
    rw [q] at hp
    exact fun σ' F1 H1 A1 Y1 e1 => b2 p H0 F0 A1 F1 s1 σ' H1 D Y1 (PostS.mono hp e1)
  | bk s1 => rw [q] at hp; exact hp
  | ct s1 => rw [q] at hp; exact hp
  | exc c n s1 => rw [q] at hp; exact hp
  | stuck => rw [q] at hp; exact hp
  | rt v s1 =>
    rw [q] at hp
    cases v with
    | val d => exact hp
    | own l => exact hp
    | no => exact hp
    | dct l => exact hp
theorem dss_cons (h : DS g X W st m) (hr : DSs g X W rest n) : DSs g X W (st :: rest) (mSeq m n) := by
  obtain ⟨t1, a1, a2⟩ := h
  obtain ⟨t2, b1, b2⟩ := hr
  exact ⟨_, pss_cons a1 b1, sim_seq a2 b2⟩
theorem ds_pass : DS g X W (.Pass pos) mNext := ⟨_, ps_pass, fun p H0 F0 A F s σ H D Y hp => hp σ F H A Y (Ext.refl _)⟩
def mBreak : SM := fun s => .bk s
def mCont : SM := fun s => .ct s
theorem ds_break : DS g X W (.Break pos) mBreak := ⟨_, ps_break, fun p H0 F0 A F s σ H D Y hp => hp σ F H A Y (Ext.refl _)⟩
theorem ds_cont : DS g X W (.Continue pos) mCont := ⟨_, ps_continue, fun p H0 F0 A F s σ H D Y hp => hp σ F H A Y (Ext.refl _)⟩

/-! ### storing -/
def mSet (i : Nat) (m : OM) : SM := fun s => (m s).bs fun r s' => .nx { s' with sl := s'.sl.set i r }
theorem PostS.o {p : Option Addr} {H0 F0 F : Hp} {σ : L2.St} {Dn : Ends} {Q : VK} {r : R SV} {k : SV → S → RS} (h : PostS g W p H0 F0 F Dn (r.bs k))
    (hv : ∀ d s' v F' H' A', Rel g p H0 F0 A' F' s' σ H' → Ext F F' → Rep g p F' v d → PostS g W p H0 F0 F' Dn (k (.val d) s') → Q v H')
    (ho : ∀ l s' a vs F' H' A', Rel g p H0 F0 A' F' s' σ H' → Ext F F' → Reps g p F' vs l → H' a = some (.lst vs) → F' a = none → H0 a = none → p ≠ some a → a ∉ A' → PostS g W p H0 F0 F' Dn (k (.own l) s') → Q (.ref a) H')
    (hd : ∀ l s' a kvs F' H' A', Rel g p H0 F0 A' F' s' σ H' → Ext F F' → Paired (fun (q : Key × V) (r : Key × D) => q.1 = r.1 ∧ Rep g p F' q.2 r.2) kvs l → H' a = some (.dK kvs) → F' a = none → H0 a = none → p ≠ some a → a ∉ A' → PostS g W p H0 F0 F' Dn (k (.dct l) s') → Q (.ref a) H')
    (hn : ∀ s', r ≠ .ok .no s') : PostO g W p H0 F0 F σ Q r := by
  cases r with
  | ok a s => cases a with
    | no => exact absurd rfl (hn s)
    | val d => exact fun v F1 H1 A1 X1 e1 r1 => hv d s v F1 H1 A1 X1 e1 r1 (PostS.mono h e1)
    | own l => exact fun a vs F1 H1 A1 X1 e1 r1 k1 k2 k3 k4 k5 => ho l s a vs F1 H1 A1 X1 e1 r1 k1 k2 k3 k4 k5 (PostS.mono h e1)
    | dct l => exact fun a vs F1 H1 A1 X1 e1 r1 k1 k2 k3 k4 k5 => hd l s a vs F1 H1 A1 X1 e1 r1 k1 k2 k3 k4 k5 (PostS.mono h e1)
  | exc c n s => exact fun cls d F1 H1 A1 X1 e1 x => h cls d σ F1 H1 A1 X1 e1 x
  | stuck => exact h
/-- a result is there -/
def good (m : OM) : OM := fun s => match m s with
  | .ok .no _ => .stuck
  | r => r
theorem good_ne {m : OM} {s s' : S} : good m s ≠ .ok .no s' := by
  unfold good
  split
  · intro h; cases h
  · rename_i h
    intro e
    exact h _ e
theorem sim_set {t : TE} {i : Nat} {mo : OM} (b2 : SimO g W t mo) : SimS g W (tAsg t (gName i)) (mSet i (good mo)) := by
  intro p H0 F0 A F s σ H D Y hp
  have b3 : PostO g W p H0 F0 F σ (fun x H1 => D.nx (σ.set i (some x)) H1) (good mo s) := by
    refine PostS.o hp ?_ ?_ ?_ (fun s' => good_ne)
    · intro d s' v F' H' A' Y' e' r' hp'
      obtain ⟨A1, m1, q1⟩ := Y'.sl.setVal r' i
      exact hp' _ F' H' A1 (Y'.slots (s' := { s' with sl := s'.sl.set i (.val d) }) rfl q1) (Ext.refl _)
    · intro l s' a vs F' H' A' Y' e' r' k1 k2 k3 k4 k5 hp'
      obtain ⟨A1, m1, q1⟩ := Y'.sl.setOwn k1 r' k2 k3 k4 k5 i
      exact hp' _ F' H' A1 (Y'.slots (s' := { s' with sl := s'.sl.set i (.own l) }) rfl q1) (Ext.refl _)
    · intro l s' a vs F' H' A' Y' e' r' k1 k2 k3 k4 k5 hp'
      obtain ⟨A1, m1, q1⟩ := Y'.sl.setDct k1 r' k2 k3 k4 k5 i
      exact hp' _ F' H' A1 (Y'.slots (s' := { s' with sl := s'.sl.set i (.dct l) }) rfl q1) (Ext.refl _)
  refine b2 p H0 F0 A F s σ H _ Y ?_
  unfold good at b3
  cases q : mo s with
  | ok a s1 => cases a with
    | no => rw [q] at b3; exact b3
    | val d => rw [q] at b3; exact b3
    | own l => rw [q] at b3; exact b3
    | dct l => rw [q] at b3; exact b3
  | exc c n s1 => rw [q] at b3; exact b3
  | stuck => rw [q] at b3; exact b3
theorem ds_set {i : Nat} {x : Str} {e : Expr} {mo : OM} {pos' : Pos} (hN : X.N.Nodup) (hi : X.N[i]? = some x) (hx : Loc X.env.scope x) (he : DO g X W e mo) (hs : swapsWith e (some (.Name x pos')) pos.line X.env = pure false := by rfl) (hf : X.fn x = true ∨ X.env.scope.names.lookup x = some .local := by first | exact .inl rfl | exact .inr rfl | assumption) :
    DS g X W (.Assign [.Name x pos'] e pos) (mSet i (good mo)) := by
  obtain ⟨t, a1, a2⟩ := he
  exact ⟨_, ps_set hN hi hx a1 hs hf, sim_set a2⟩

/-! ### targets -/
def SimG (g : Gl) (t : TG) (m : D → S → Option S) : Prop := ∀ (p : Option Addr) (H0 F0 : Hp) (A : List Addr) (F : Hp) (s : S) (σ : L2.St) (H : Hp) (v : V) (d : D) (Q : L2.St → Hp → Prop), Rel g p H0 F0 A F s σ H → Rep g p F v d →
  (∃ s', m d s = some s' ∧ ∀ σ' A', Rel g p H0 F0 A' F s' σ' H → Q σ' H) → t v σ H Q
def DG (g : Gl) (X : Cx) (e : Expr) (m : D → S → Option S) : Prop := ∃ t, PG X e t ∧ SimG g t m
def SimGs (g : Gl) (t : TGs) (m : List D → S → Option S) : Prop := ∀ (p : Option Addr) (H0 F0 : Hp) (A : List Addr) (F : Hp) (s : S) (σ : L2.St) (H : Hp) (vs : List V) (ds : List D) (Q : L2.St → Hp → Prop), Rel g p H0 F0 A F s σ H → Reps g p F vs ds →
  (∃ s', m ds s = some s' ∧ ∀ σ' A', Rel g p H0 F0 A' F s' σ' H → Q σ' H) → t vs σ H Q
def DGs (g : Gl) (X : Cx) (es : List Expr) (m : List D → S → Option S) : Prop := ∃ t, PGs X es t ∧ SimGs g t m
def gN (i : Nat) : D → S → Option S := fun d s => some { s with sl := s.sl.set i (.val d) }
def gsNil : List D → S → Option S := fun ds s => match ds with
  | [] => some s
  | _ => none
def gsCons (m : D → S → Option S) (ms : List D → S → Option S) : List D → S → Option S := fun ds s => match ds with
  | d :: r => (m d s).bind fun s1 => ms r s1
  | [] => none
/-- a tuple of n -/
def gT (n : Nat) (ms : List D → S → Option S) : D → S → Option S := fun d s => match d with
  | .tup l => if l.length = n then ms l s else none
  | _ => none
theorem dg_name {i : Nat} {x : Str} (hN : X.N.Nodup) (hi : X.N[i]? = some x) (hx : Loc X.env.scope x) (hf : X.fn x = true ∨ X.env.scope.names.lookup x = some .local := by first | exact .inl rfl | exact .inr rfl | assumption) : DG g X (.Name x pos) (gN i) := by
  refine ⟨_, pg_name hN hi hx hf, fun p H0 F0 A F s σ H v d Q Y r ⟨s', e, k⟩ => ?_⟩
  cases e
  obtain ⟨A1, m1, q1⟩ := Y.sl.setVal r i
  exact k _ A1 (Y.slots (s' := { s with sl := s.sl.set i (.val d) }) rfl q1)
theorem dgs_nil : DGs g X [] gsNil := by
  refine ⟨_, pgs_nil, fun p H0 F0 A F s σ H vs ds Q Y r ⟨s', e, k⟩ => ?_⟩
  cases r with
  | nil => cases e; exact ⟨rfl, k σ A Y⟩
  | cons _ _ => cases e
theorem dgs_cons {e : Expr} {es : List Expr} {m : D → S → Option S} {ms : List D → S → Option S} (h : DG g X e m) (hr : DGs g X es ms) (hs : (assignEach (e :: es) X.env).map (·.2) = assign e X.env :: (assignEach es X.env).map (·.2) := by rfl) : DGs g X (e :: es) (gsCons m ms) := by
  obtain ⟨t1, a1, a2⟩ := h
  obtain ⟨t2, b1, b2⟩ := hr
  refine ⟨_, pgs_cons a1 b1 hs, fun p H0 F0 A F s σ H vs ds Q Y r ⟨s', e, k⟩ => ?_⟩
  cases r with
  | nil => cases e
  | cons r1 rr =>
    obtain ⟨s1, e1, e2⟩ := Option.bind_eq_some_iff.mp e
    refine ⟨_, _, rfl, a2 p H0 F0 A F s σ H _ _ _ Y r1 ⟨s1, e1, fun σ' A' Y' => ?_⟩⟩
    exact b2 p H0 F0 A' F s1 σ' H _ _ _ Y' rr ⟨s', e2, k⟩
theorem dg_tup {es : List Expr} {k : Nat} {ms : List D → S → Option S} {n : Nat} (hc : X.calm = true) (h : DGs g X es ms) (hn : (assignEach es X.env).length = n := by rfl) (hst : (assignEach es X.env).findIdx? (·.1) = none := by rfl) (hK : X.K = g.K := by rfl) : DG g X (.Tuple es k pos) (gT n ms) := by
  obtain ⟨t1, a1, a2⟩ := h
  refine ⟨_, pg_tup hc a1 hn hst, fun p H0 F0 A F s σ H v d Q Y r ⟨s', e, k⟩ => ?_⟩
  unfold gT at e
  split at e
  · rename_i l
    split at e
    · rename_i hl
      cases r with
      | tup h1 r1 => exact ⟨_, _, rfl, by rw [hK]; exact ext_t Y.ext h1, by rw [r1.length]; exact hl, a2 p H0 F0 A F s σ H _ _ _ Y r1 ⟨s', e, k⟩⟩
    · cases e
  · cases e
def RS.of : Option S → RS
  | some s => .nx s
  | none => .stuck
def mAsg (m : EM) (gm : D → S → Option S) : SM := fun s => (m s).bs fun d s' => .of (gm d s')
theorem ds_asg {tg e : Expr} {m : EM} {gm : D → S → Option S} (he : DE g X W e m) (hg : DG g X tg gm) (hs : swapsWithSole [tg] e pos.line X.env = pure false := by rfl) (hw : swappedStores [tg] e X.env = pure none := by rfl)
    (h1 : (assignEach [tg] X.env).map (·.2) = [assign tg X.env] := by rfl) : DS g X W (.Assign [tg] e pos) (mAsg m gm) := by
  obtain ⟨t, a1, a2⟩ := he
  obtain ⟨u, b1, b2⟩ := hg
  refine ⟨_, ps_asg a1 b1 hs hw h1, fun p H0 F0 A F s σ H D Y hp => ?_⟩
  refine a2 p H0 F0 A F s σ H _ Y (PostS.bs hp fun d s1 v F1 H1 A1 Y1 e1 r1 hp1 => ?_)
  cases q : gm d s1 with
  | none => rw [q] at hp1; exact hp1.elim
  | some s2 =>
    rw [q] at hp1
    exact b2 p H0 F0 A1 F1 s1 σ H1 v d _ Y1 r1 ⟨s2, q, fun σ' A' Y' => hp1 σ' F1 H1 A' Y' (Ext.refl _)⟩
/-- a, b = x, y with plain names -/
def mPar (i j : Nat) (m : AM) : SM := fun s => (m s).bs fun ds s' => match ds with
  | [d, e] => .nx { s' with sl := (s'.sl.set i (.val d)).set j (.val e) }
  | _ => .stuck
theorem ds_par {i j : Nat} {x y : Str} {a b : Expr} {m : AM} {px py pt : Pos} {kt k2 pt2} (hc : X.calm = true) (hN : X.N.Nodup) (hi : X.N[i]? = some x) (hj : X.N[j]? = some y) (hij : i ≠ j)
    (hx : X.env.scope.names.lookup x = some .local) (hy : X.env.scope.names.lookup y = some .local) (ha : DA g X W [a, b] m)
    (hw : swappedStores [.Tuple [.Name x px, .Name y py] kt pt] (.Tuple [a, b] k2 pt2) X.env = pure (some [x, y]))
    (hs : swapsWithSole [.Tuple [.Name x px, .Name y py] kt pt] (.Tuple [a, b] k2 pt2) pos.line X.env = pure false := by rfl) :
    DS g X W (.Assign [.Tuple [.Name x px, .Name y py] kt pt] (.Tuple [a, b] k2 pt2) pos) (mPar i j m) := by
  obtain ⟨t, a1, a2⟩ := ha
  refine ⟨_, ps_par hc hN hi hj hij hx hy a1 hw hs, fun p H0 F0 A F s σ H D Y hp => ?_⟩
  refine a2 p H0 F0 A F s σ H _ Y (PostS.bs hp fun ds s1 vs F1 H1 A1 Y1 e1 r1 hp1 => ?_)
  cases ds with
  | nil => exact hp1.elim
  | cons d ds => cases ds with
    | nil => exact hp1.elim
    | cons e ds => cases ds with
      | cons _ _ => exact hp1.elim
      | nil =>
        obtain ⟨v, w, rfl, rv, rw'⟩ := r1.two
        obtain ⟨A2, _, q2⟩ := Y1.sl.setVal rv i
        obtain ⟨A3, _, q3⟩ := q2.setVal rw' j
        exact ⟨v, w, rfl, hp1 _ F1 H1 A3 (Y1.slots (s' := { s1 with sl := (s1.sl.set i (.val d)).set j (.val e) }) rfl q3) (Ext.refl _)⟩

/-! ### return, an expression alone, if, raise -/
def mRet (m : OM) : SM := fun s => (m s).bs fun r s' => .rt r s'
theorem ds_ret {e : Expr} {mo : OM} (he : DO g X W e mo) : DS g X W (.Return (some e) pos) (mRet mo) := by
  obtain ⟨t, a1, a2⟩ := he
  refine ⟨_, ps_ret a1, fun p H0 F0 A F s σ H D Y hp => ?_⟩
  refine a2 p H0 F0 A F s σ H _ Y ?_
  unfold mRet at hp
  cases q : mo s with
  | ok a s1 => cases a with
    | no => rw [q] at hp; exact hp
    | val d => rw [q] at hp; exact fun v F' H' A' Y' e' r' => hp v σ F' H' A' Y' e' r'
    | own l => rw [q] at hp; exact fun a vs F' H' A' Y' e' r' k1 k2 k3 k4 _ => hp a vs σ F' H' A' Y' e' r' k1 k2 k3 k4
    | dct l => rw [q] at hp; exact hp.elim
  | exc c n s1 => rw [q] at hp; exact fun cls d F' H' A' Y' e' x => hp cls d σ F' H' A' Y' e' x
  | stuck => rw [q] at hp; exact hp
def mDrop (m : EM) : SM := fun s => (m s).bs fun _ s' => .nx s'
theorem ds_expr {e : Expr} {m : EM} (he : DE g X W e m) (hs : swapsWith e none pos.line X.env = pure false := by rfl) : DS g X W (.Expr e pos) (mDrop m) := by
  obtain ⟨t, a1, a2⟩ := he
  refine ⟨_, ps_expr a1 hs, fun p H0 F0 A F s σ H D Y hp => ?_⟩
  exact a2 p H0 F0 A F s σ H _ Y (PostS.bs hp fun d s1 v F1 H1 A1 Y1 e1 r1 hp1 => hp1 σ F1 H1 A1 Y1 (Ext.refl _))
theorem ds_doc {x j pos pos'} : DS g X W (.Expr (.Constant (.str x) j pos) pos') mNext := ⟨_, ps_doc, fun p H0 F0 A F s σ H D Y hp => hp σ F H A Y (Ext.refl _)⟩
def mIfS (c : TM) (a b : SM) : SM := fun s => (c s).bs fun k s1 => if k = true then a s1 else b s1
theorem ds_if {c : Expr} {a b : List Stmt} {mc : TM} (hc : DT g X W c mc) (ha : DSs g X W a m) (hb : DSs g X W b n) : DS g X W (.If c a b pos) (mIfS mc m n) := by
  obtain ⟨t0, c1, c2⟩ := hc
  obtain ⟨t1, a1, a2⟩ := ha
  obtain ⟨t2, b1, b2⟩ := hb
  refine ⟨_, ps_if c1 a1 b1, fun p H0 F0 A F s σ H D Y hp => c2 p H0 F0 A F s σ H _ Y (PostS.bs hp fun k s1 k' F1 H1 A1 Y1 e1 r1 hp1 => ?_)⟩
  cases r1
  cases k with
  | true => exact a2 p H0 F0 A1 F1 s1 σ H1 D Y1 hp1
  | false => exact b2 p H0 F0 A1 F1 s1 σ H1 D Y1 hp1
def mRaise (c : String) : SM := fun s => .exc c none s
/-- raise C('..') -/
theorem ds_raise {e : Expr} {c : String} {C : Addr} (hc : X.calm = true) (tk : Takes X W) (h : PMk X e (fun _ H Q => Q (.ref C) none H)) (hC : g.mg (Str.ofString c) = some (.ref C)) : DS g X W (.Raise (some e) none pos) (mRaise c) :=
  ⟨_, ps_raise hc tk h, fun p H0 F0 A F s σ H D Y hp => hp (.ref C) none σ F H A Y (Ext.refl _) ⟨C, hC, rfl, fun _ => rfl, fun _ z => by cases z⟩⟩

/-! ### while -/
def mWhile (c : TM) (b : SM) : Nat → SM
  | 0, _ => .stuck
  | n + 1, s => (c s).bs fun k s1 => if k = true then (match b s1 with
      | .nx s2 => mWhile c b n s2
      | .ct s2 => mWhile c b n s2
      | .bk s2 => .nx s2
      | r => r) else .nx s1
theorem ds_while {c : Expr} {body : List Stmt} {mc : TM} (fuel : Nat) (hp : PassesOwn (model X.prog X.w) X.A X.env X.xe) (hc : DT g X W c mc) (hb : DSs g X W body m) : DS g X W (.While c body [] pos) (mWhile mc m fuel) := by
  obtain ⟨t0, c1, c2⟩ := hc
  obtain ⟨t1, a1, a2⟩ := hb
  refine ⟨_, ps_while hp c1 a1, fun p H0 F0 A F s σ H D Y hp => ?_⟩
  refine ⟨fun n σ H => ∃ F1 A1 s1, Rel g p H0 F0 A1 F1 s1 σ H ∧ Ext F F1 ∧ PostS g W p H0 F0 F1 D (mWhile mc m n s1), ⟨fuel, F, A, s, Y, Ext.refl _, hp⟩, ?_⟩
  rintro n σ1 H1 ⟨F1, A1, s1, Y1, e1, hp1⟩
  cases n with
  | zero => exact hp1.elim
  | succ n =>
    refine c2 p H0 F0 A1 F1 s1 σ1 H1 _ Y1 (PostS.bs hp1 fun k s2 k' F2 H2 A2 Y2 e2 r2 hp2 => ?_)
    cases r2
    cases k with
    | false => exact hp2 σ1 F2 H2 A2 Y2 (Ext.refl _)
    | true =>
      have hp2 : PostS g W p H0 F0 F2 D (match m s2 with | .nx s2 => mWhile mc m n s2 | .ct s2 => mWhile mc m n s2 | .bk s2 => .nx s2 | r => r) := hp2
      refine ⟨fun σ3 H3 => ∃ F3 A3 s3, Rel g p H0 F0 A3 F3 s3 σ3 H3 ∧ Ext F F3 ∧ PostS g W p H0 F0 F3 D (mWhile mc m n s3), fun σ3 H3 h => ⟨n, Nat.lt_succ_self n, h⟩, ?_⟩
      refine a2 p H0 F0 A2 F2 s2 σ1 H2 _ Y2 ?_
      cases q : m s2 with
      | nx s3 => rw [q] at hp2; exact fun σ3 F3 H3 A3 Y3 e3 => ⟨F3, A3, s3, Y3, (e1.trans e2).trans e3, PostS.mono hp2 e3⟩
      | ct s3 => rw [q] at hp2; exact fun σ3 F3 H3 A3 Y3 e3 => ⟨F3, A3, s3, Y3, (e1.trans e2).trans e3, PostS.mono hp2 e3⟩
      | bk s3 => rw [q] at hp2; exact hp2
      | exc c n s1 => rw [q] at hp2; exact hp2
      | stuck => rw [q] at hp2; exact hp2
      | rt v s1 =>
        rw [q] at hp2
        cases v with
        | val d => exact hp2
        | own l => exact hp2
        | no => exact hp2
        | dct l => exact hp2

/-! ### for -/
/-- what is walked: the items, whatever else happens to what is not frozen -/
structure ItOk (g : Gl) (p : Option Addr) (F1 : Hp) (items : List D) (J : It) : Prop where
  go : ∀ i F H, Ext F1 F → Ext F H → i < items.length → J.go i H
  yld : ∀ i F H x H', Ext F1 F → Ext F H → g.T H → J.yld i H x H' → i < items.length → ∃ d F', items[i]? = some d ∧ Gr g none F H F' H' ∧ Rep g p F' x d
  stop : ∀ i F H, Ext F1 F → Ext F H → items.length ≤ i → J.stop i H
abbrev RepI (g : Gl) : RPT (List D) It := fun p F J items => ItOk g p F items J
def DI (g : Gl) (X : Cx) (W : WX) (tg iter : Expr) (m : AM) : Prop := ∃ wi, PI X tg iter wi ∧ Sim g W (RepI g) wi m
def forLoop (gm : D → S → Option S) (b : SM) : List D → SM
  | [], s => .nx s
  | d :: r, s => match gm d s with
    | none => .stuck
    | some s1 => match b s1 with
      | .nx s2 => forLoop gm b r s2
      | .ct s2 => forLoop gm b r s2
      | .bk s2 => .nx s2
      | r => r
def mFor (it : AM) (gm : D → S → Option S) (b : SM) : SM := fun s => (it s).bs fun items s1 => forLoop gm b items s1
theorem ds_for {tg iter : Expr} {body : List Stmt} {mi : AM} {gm : D → S → Option S} (hp : PassesOwn (model X.prog X.w) X.A X.env X.xe) (hc : X.calm = true) (hi : DI g X W tg iter mi) (hg : DG g X tg gm) (hb : DSs g X W body m)
    (hs : ∀ x, foldedSetIterable iter X.env x = pure x := by intro _; rfl) : DS g X W (.For tg iter body [] pos) (mFor mi gm m) := by
  obtain ⟨wi, i1, i2⟩ := hi
  obtain ⟨tg', g1, g2⟩ := hg
  obtain ⟨t1, a1, a2⟩ := hb
  refine ⟨_, ps_for hp hc i1 g1 a1 hs, fun p H0 F0 A F s σ H D Y hp => ?_⟩
  refine i2 p H0 F0 A F s σ H _ Y (PostS.bs hp fun items s1 J F1 H1 A1 Y1 e1 r1 hp1 => ?_)
  refine ⟨fun i n σ' H' => n = items.length - i ∧ i ≤ items.length ∧ ∃ F2 A2 s2, Rel g p H0 F0 A2 F2 s2 σ' H' ∧ Ext F1 F2 ∧ PostS g W p H0 F0 F2 D (forLoop gm m (items.drop i) s2), ⟨items.length, by simp, Nat.zero_le _, F1, A1, s1, Y1, Ext.refl _, by simpa using hp1⟩, ?_⟩
  rintro i n σ2 H2 ⟨rfl, hi, F2, A2, s2, Y2, e2, hp2⟩
  by_cases hlt : i < items.length
  · have ed : items.drop i = items[i] :: items.drop (i + 1) := List.drop_eq_getElem_cons hlt
    rw [ed] at hp2
    refine .inr ⟨r1.go i F2 H2 e2 Y2.ext hlt, fun σ' H' => ∃ F3 A3 s3, Rel g p H0 F0 A3 F3 s3 σ' H' ∧ Ext F1 F3 ∧ PostS g W p H0 F0 F3 D (forLoop gm m (items.drop (i + 1)) s3), fun σ' H' h => ⟨items.length - (i + 1), by omega, rfl, hlt, h⟩, fun x H' hy => ?_⟩
    obtain ⟨d, F3, hd, G3, r3⟩ := r1.yld i F2 H2 x H' e2 Y2.ext Y2.tb hy hlt
    have ee : d = items[i] := by rw [List.getElem?_eq_getElem hlt] at hd; exact (Option.some.inj hd).symm
    subst ee
    have Y3 := Y2.grow G3
    unfold forLoop at hp2
    cases qg : gm items[i] s2 with
    | none => rw [qg] at hp2; exact hp2.elim
    | some s3 =>
      rw [qg] at hp2
      refine g2 p H0 F0 A2 F3 s2 σ2 H' x _ _ Y3 r3 ⟨s3, qg, fun σ4 A4 Y4 => ?_⟩
      refine a2 p H0 F0 A4 F3 s3 σ4 H' _ Y4 ?_
      have e3 : Ext F1 F3 := e2.trans G3.ff
      have hp3 : PostS g W p H0 F0 F3 D (match m s3 with | .nx s2 => forLoop gm m (items.drop (i + 1)) s2 | .ct s2 => forLoop gm m (items.drop (i + 1)) s2 | .bk s2 => .nx s2 | r => r) := PostS.mono hp2 G3.ff
      cases q : m s3 with
      | nx s5 => rw [q] at hp3; exact fun σ5 F5 H5 A5 Y5 e5 => ⟨F5, A5, s5, Y5, e3.trans e5, PostS.mono hp3 e5⟩
      | ct s5 => rw [q] at hp3; exact fun σ5 F5 H5 A5 Y5 e5 => ⟨F5, A5, s5, Y5, e3.trans e5, PostS.mono hp3 e5⟩
      | bk s5 => rw [q] at hp3; exact hp3
      | exc c n s5 => rw [q] at hp3; exact hp3
      | stuck => rw [q] at hp3; exact hp3
      | rt v s5 =>
        rw [q] at hp3
        cases v with
        | val d => exact hp3
        | own l => exact hp3
        | no => exact hp3
        | dct l => exact hp3
  · have ei : i = items.length := by omega
    subst ei
    rw [List.drop_length] at hp2
    exact .inl ⟨r1.stop _ F2 H2 e2 Y2.ext (Nat.le_refl _), hp2 σ2 F2 H2 A2 Y2 (Ext.refl _)⟩
/-- what lists, tuples, ranges, texts give -/
theorem it_list {p : Option Addr} {F1 : Hp} {a : Addr} {vs : List V} {l : List D} {K : PySem.W.Frag} (h : SqL K F1 a vs) (r : Reps g p F1 vs l) : ItOk g p F1 l (Itl K a) where
  go := fun i F H e1 e2 hi => by
    obtain ⟨v, hv, _⟩ := r.get (i := i) (List.getElem?_eq_getElem hi)
    exact ⟨vs, v, ext_l (e1.trans e2) h, hv⟩
  yld := fun i F H x H' e1 e2 tb hy hi => by
    obtain ⟨rfl, hy⟩ := hy
    obtain ⟨v, hv, rv⟩ := r.get (i := i) (List.getElem?_eq_getElem hi)
    have ex := hy vs (ext_l (e1.trans e2) h)
    rw [hv] at ex; cases ex
    exact ⟨_, F, List.getElem?_eq_getElem hi, Gr.refl e2 tb, rv.mono e1⟩
  stop := fun i F H e1 e2 hi => ⟨vs, ext_l (e1.trans e2) h, by rw [r.length]; exact hi⟩
theorem it_tup {p : Option Addr} {F1 : Hp} {a : Addr} {vs : List V} {l : List D} {K : PySem.W.Frag} (h : SqT K F1 a vs) (r : Reps g p F1 vs l) : ItOk g p F1 l (Itt K a) where
  go := fun i F H e1 e2 hi => by
    obtain ⟨v, hv, _⟩ := r.get (i := i) (List.getElem?_eq_getElem hi)
    exact ⟨vs, v, ext_t (e1.trans e2) h, hv⟩
  yld := fun i F H x H' e1 e2 tb hy hi => by
    obtain ⟨rfl, hy⟩ := hy
    obtain ⟨v, hv, rv⟩ := r.get (i := i) (List.getElem?_eq_getElem hi)
    have ex := hy vs (ext_t (e1.trans e2) h)
    rw [hv] at ex; cases ex
    exact ⟨_, F, List.getElem?_eq_getElem hi, Gr.refl e2 tb, rv.mono e1⟩
  stop := fun i F H e1 e2 hi => ⟨vs, ext_t (e1.trans e2) h, by rw [r.length]; exact hi⟩
def dInts (lo : Int) (n : Nat) : List D := (List.range n).map fun (i : Nat) => D.int (lo + (i : Int))
theorem it_range {p : Option Addr} {F1 : Hp} {lo : Int} {n : Nat} : ItOk g p F1 (dInts lo n) (Itr lo n) where
  go := fun i F H e1 e2 hi => by unfold dInts at hi; rw [List.length_map, List.length_range] at hi; exact hi
  yld := fun i F H x H' e1 e2 tb hy hi => by
    obtain ⟨rfl, rfl⟩ := hy
    have hi' : i < n := by unfold dInts at hi; rw [List.length_map, List.length_range] at hi; exact hi
    refine ⟨.int (lo + (i : Int)), F, ?_, Gr.refl e2 tb, .int _⟩
    show ((List.range n).map fun (i : Nat) => D.int (lo + (i : Int)))[i]? = _
    rw [List.getElem?_map, List.getElem?_range hi']
    rfl
  stop := fun i F H e1 e2 hi => by unfold dInts at hi; rw [List.length_map, List.length_range] at hi; exact hi
def signs (s : List Nat) : List D := s.map fun c => .str [c]
/-- the items of a list, of a tuple -/
def itL (m : EM) : AM := fun s => (m s).bind fun d s1 => match d with
  | .lst l => .ok l s1
  | _ => .stuck
def itT (m : EM) : AM := fun s => (m s).bind fun d s1 => match d with
  | .tup l => .ok l s1
  | _ => .stuck
def itS (m : EM) : AM := fun s => (m s).bind fun d s1 => match d with
  | .str l => .ok (signs l) s1
  | _ => .stuck
theorem di_list {tg e : Expr} {me : EM} (h : DE g X W e me) (hK : X.K = g.K := by rfl) : DI g X W tg e (itL me) := by
  obtain ⟨t, a1, a2⟩ := h
  refine ⟨_, pi_list a1, fun p H0 F0 A F s σ H Q Y hp => a2 p H0 F0 A F s σ H _ Y (hp.bind fun d s1 v F1 H1 A1 Y1 e1 r1 hp1 => ?_)⟩
  cases d with
  | lst l => cases r1 with
    | lst h1 r1 => exact ⟨_, rfl, ⟨_, ext_l Y1.ext (.inl h1)⟩, hp1 _ F1 H1 A1 Y1 (Ext.refl _) (it_list (.inl h1) r1)⟩
  | _ => exact hp1.elim
theorem di_tup {tg e : Expr} {me : EM} (h : DE g X W e me) (hK : X.K = g.K := by rfl) : DI g X W tg e (itT me) := by
  obtain ⟨t, a1, a2⟩ := h
  refine ⟨_, pi_tup a1, fun p H0 F0 A F s σ H Q Y hp => a2 p H0 F0 A F s σ H _ Y (hp.bind fun d s1 v F1 H1 A1 Y1 e1 r1 hp1 => ?_)⟩
  cases d with
  | tup l => cases r1 with
    | tup h1 r1 => exact ⟨_, rfl, ⟨_, by rw [hK]; exact ext_t Y1.ext h1⟩, hp1 _ F1 H1 A1 Y1 (Ext.refl _) (it_tup (by rw [hK]; exact h1) r1)⟩
  | _ => exact hp1.elim
def itR1 (m : AM) : AM := fun s => (m s).bind fun ds s1 => match ds with
  | [.int j] => if -(2 ^ 62) ≤ j ∧ j < 2 ^ 62 then .ok (dInts 0 j.toNat) s1 else .stuck
  | _ => .stuck
def itR2 (m : AM) : AM := fun s => (m s).bind fun ds s1 => match ds with
  | [.int i, .int j] => if -(2 ^ 62) ≤ i ∧ i < 2 ^ 62 ∧ -(2 ^ 62) ≤ j ∧ j < 2 ^ 62 then .ok (dInts i (j - i).toNat) s1 else .stuck
  | _ => .stuck
theorem di_range1 {tg a : Expr} {ma : AM} {p' pos : Pos} (hg : L2.Gl X "range") (hm : X.mg "range" = none) (ha : DA g X W [a] ma) (hs : starEach [a] X.env = [(false, eval a X.env)] := by rfl) : DI g X W tg (.Call (.Name "range" p') [a] [] pos) (itR1 ma) := by
  obtain ⟨t, a1, a2⟩ := ha
  refine ⟨_, pi_range1 hg hm a1 hs, fun p H0 F0 A F s σ H Q Y hp => a2 p H0 F0 A F s σ H _ Y (hp.bind fun ds s1 vs F1 H1 A1 Y1 e1 r1 hp1 => ?_)⟩
  split at hp1
  · rename_i j
    obtain ⟨v, rfl, rv⟩ := r1.one
    cases rv
    split at hp1
    · rename_i hj
      exact ⟨_, rfl, hj.1, hj.2, hp1 _ F1 H1 A1 Y1 (Ext.refl _) it_range⟩
    · exact hp1.elim
  · exact hp1.elim
theorem di_range2 {tg a b : Expr} {ma : AM} {p' pos : Pos} (hg : L2.Gl X "range") (hm : X.mg "range" = none) (ha : DA g X W [a, b] ma) (hs : starEach [a, b] X.env = [(false, eval a X.env), (false, eval b X.env)] := by rfl) (hs2 : starEach [b] X.env = [(false, eval b X.env)] := by rfl) : DI g X W tg (.Call (.Name "range" p') [a, b] [] pos) (itR2 ma) := by
  obtain ⟨t, a1, a2⟩ := ha
  refine ⟨_, pi_range2 hg hm a1 hs hs2, fun p H0 F0 A F s σ H Q Y hp => a2 p H0 F0 A F s σ H _ Y (hp.bind fun ds s1 vs F1 H1 A1 Y1 e1 r1 hp1 => ?_)⟩
  split at hp1
  · rename_i i j
    obtain ⟨v, w, rfl, rv, rw'⟩ := r1.two
    cases rv
    cases rw'
    split at hp1
    · rename_i hj
      exact ⟨_, _, rfl, hj, hp1 _ F1 H1 A1 Y1 (Ext.refl _) it_range⟩
    · exact hp1.elim
  · exact hp1.elim
end
end Pd

/-! Pd, part D: comprehensions, defs, calls. -/
namespace Pd
open PySem PySem.Spec PyProof.Rows L2

/-! ### an object that is being made, kept apart -/
section
variable {g : Gl} {p : Option Addr} {H0 F0 : Hp} {A : List Addr} {F : Hp} {s : S} {σ : L2.St} {H : Hp} {a : Addr} {o : HO}
theorem Sl.h0 {H0 H0' : Hp} {A : List Addr} {ss : List SV} {σ : L2.St} (x : Sl g p H0 F H A ss σ) (k : ∀ a ∈ A, H0' a = none) : Sl g p H0' F H A ss σ := by
  induction x with
  | nil => exact .nil
  | no _ ih => exact .no (ih k)
  | val r _ ih => exact .val r (ih k)
  | own h r f h0 np na _ ih => exact .own h r f (k _ List.mem_cons_self) np na (ih fun b hb => k b (List.mem_cons_of_mem _ hb))
  | dct h r f h0 np na _ ih => exact .dct h r f (k _ List.mem_cons_self) np na (ih fun b hb => k b (List.mem_cons_of_mem _ hb))
theorem Rel.protect (X : Rel g p H0 F0 A F s σ H) (h1 : H a = some o) (h3 : F a = none) (h4 : H0 a = none) (h6 : a ∉ A) : Rel g p (upd H0 a o) F0 A F s σ H where
  ext := X.ext
  ef0 := X.ef0
  fr := fun b u q => by
    have hb : b ≠ a := fun z => by rw [z, h3] at q; cases q
    rw [upd_ne hb]; exact X.fr b u q
  evo := fun b u q np no => by
    by_cases hb : b = a
    · subst hb; rw [upd_same] at q; rw [h1]; exact q
    · rw [upd_ne hb] at q; exact X.evo b u q np no
  al := fun b q => by
    have hb : b ≠ a := fun z => by rw [z, h1] at q; cases q
    rw [upd_ne hb]; exact X.al b q
  pl := X.pl
  tb := X.tb
  sl := X.sl.h0 fun b hb => by rw [upd_ne (fun z => h6 (by rw [← z]; exact hb))]; exact (X.sl.facts b hb).1
theorem Rel.unprotect (X : Rel g p (upd H0 a o) F0 A F s σ H) (f0 : F0 a = none) (np : p ≠ some a) (no : nt o) (h4 : H0 a = none) : Rel g p H0 F0 A F s σ H ∧ H a = some o ∧ F a = none ∧ a ∉ A := by
  have e1 : H a = some o := X.evo a o upd_same np no
  have e2 : F a = none := by
    cases q : F a with
    | none => rfl
    | some u =>
      rcases X.fr a u q with z | z
      · rw [f0] at z; cases z
      · rw [upd_same] at z; cases z
  have e3 : a ∉ A := fun hm => by
    have z := (X.sl.facts a hm).1
    rw [upd_same] at z; cases z
  refine ⟨⟨X.ext, X.ef0, fun b u q => ?_, fun b u q np' no' => ?_, fun b q => ?_, X.pl, X.tb, X.sl.h0 fun b hb => ?_⟩, e1, e2, e3⟩
  · rcases X.fr b u q with z | z
    · exact .inl z
    · by_cases hb : b = a
      · subst hb; rw [upd_same] at z; cases z
      · rw [upd_ne hb] at z; exact .inr z
  · exact X.evo b u (by rw [upd_ne (fun z => by rw [z, h4] at q; cases q)]; exact q) np' no'
  · have z := X.al b q
    by_cases hb : b = a
    · rw [hb]; exact h4
    · rw [upd_ne hb] at z; exact z
  · have z := (X.sl.facts b hb).1
    have hb' : b ≠ a := fun y => e3 (by rw [← y]; exact hb)
    rw [upd_ne hb'] at z; exact z
end

/-! ### list comprehensions -/
def wipeS (ss : List SV) : List Nat → List SV
  | [] => ss
  | v :: vs => (wipeS ss vs).set v .no
def keepV : Option SV → SV
  | some (.val d) => .val d
  | _ => .no
def backS (ss old : List SV) : List Nat → List SV
  | [] => ss
  | v :: vs => backS (ss.set v (keepV old[v]?)) old vs
def lcLoop (vs : List Nat) (gm : D → S → Option S) (t : TM) (e : EM) : List D → List D → S → R (List D)
  | [], acc, s => .ok acc s
  | d :: r, acc, s => match gm d s with
    | none => .stuck
    | some s1 => match t s1 with
      | .ok true s2 => (match e s2 with
        | .ok x s3 => if acc.length < sizeLine then lcLoop vs gm t e r (acc ++ [x]) { s3 with sl := wipeS s3.sl vs } else .stuck
        | _ => .stuck)
      | .ok false s2 => lcLoop vs gm t e r acc { s2 with sl := wipeS s2.sl vs }
      | _ => .stuck
def oLc (vs : List Nat) (it : AM) (gm : D → S → Option S) (t : TM) (e : EM) : OM := fun s => (it s).bind fun items s1 =>
  (lcLoop vs gm t e items [] { s1 with sl := wipeS s1.sl vs }).bind fun acc s2 => .ok (.own acc) { s2 with sl := backS s2.sl s1.sl vs }
def tYesM : TM := fun s => .ok true s
abbrev WF : WX := fun _ _ _ _ => False
section
variable {g : Gl} {p : Option Addr} {H0 F0 : Hp} {A : List Addr} {F : Hp} {s : S} {σ : L2.St} {H : Hp}
theorem Sl.wipe {ss : List SV} (x : Sl g p H0 F H A ss σ) : ∀ (vs : List Nat), ∃ A', (∀ b ∈ A', b ∈ A) ∧ Sl g p H0 F H A' (wipeS ss vs) (L2.wipe σ vs)
  | [] => ⟨A, fun _ h => h, x⟩
  | v :: vs => by
    obtain ⟨A1, m1, q1⟩ := Sl.wipe x vs
    obtain ⟨A2, m2, q2⟩ := q1.setNo none v
    exact ⟨A2, fun b hb => m1 b (m2 b hb), q2⟩
theorem wipe_get {σ : L2.St} {i : Nat} : ∀ {vs : List Nat}, i ∉ vs → (L2.wipe σ vs)[i]? = σ[i]?
  | [], _ => rfl
  | v :: vs, h => by
    rw [List.mem_cons, not_or] at h
    show ((L2.wipe σ vs).set v none)[i]? = _
    rw [List.getElem?_set_ne (fun z => h.1 z.symm)]
    exact wipe_get h.2
theorem wipe_set (σ : L2.St) (v : Nat) {vs : List Nat} (h : v ∉ vs) : (L2.wipe σ (v :: vs)).set v (σ.getD v none) = L2.wipe σ vs := by
  show ((L2.wipe σ vs).set v none).set v _ = _
  rw [List.set_set]
  apply List.ext_getElem?
  intro j
  by_cases hj : v = j
  · subst hj
    by_cases hl : v < (L2.wipe σ vs).length
    · rw [List.getElem?_set_self hl, wipe_get h, List.getD_eq_getElem?_getD]
      rw [L2.wipe_length] at hl
      rw [List.getElem?_eq_getElem hl]
      rfl
    · rw [List.getElem?_eq_none (by simpa using hl), List.getElem?_eq_none (by simpa using hl)]
  · rw [List.getElem?_set_ne hj]
theorem Sl.back {H' : Hp} {F1 : Hp} {old : List SV} {A1 : List Addr} (e : Ext F1 F) (o : Sl g p H0 F1 H' A1 old σ) : ∀ (vs : List Nat) (ss : List SV) (A : List Addr), vs.Nodup → Sl g p H0 F H A ss (L2.wipe σ vs) → ∃ A', (∀ b ∈ A', b ∈ A) ∧ Sl g p H0 F H A' (backS ss old vs) σ
  | [], ss, A, _, x => ⟨A, fun _ h => h, x⟩
  | v :: vs, ss, A, nd, x => by
    obtain ⟨nv, nd⟩ := List.nodup_cons.mp nd
    have step : ∃ A', (∀ b ∈ A', b ∈ A) ∧ Sl g p H0 F H A' (ss.set v (keepV old[v]?)) (L2.wipe σ vs) := by
      cases q : old[v]? with
      | none =>
        obtain ⟨A', m, y⟩ := x.setNo (σ.getD v none) v
        rw [wipe_set σ v nv] at y
        exact ⟨A', m, y⟩
      | some sv =>
        cases sv with
        | val d =>
          obtain ⟨w, h1, r⟩ := o.getVal q
          obtain ⟨A', m, y⟩ := x.setVal (r.mono e) v
          have ew : σ.getD v none = some w := by rw [List.getD_eq_getElem?_getD, h1]; rfl
          rw [← ew, wipe_set σ v nv] at y
          exact ⟨A', m, y⟩
        | no =>
          obtain ⟨A', m, y⟩ := x.setNo (σ.getD v none) v
          rw [wipe_set σ v nv] at y
          exact ⟨A', m, y⟩
        | own l =>
          obtain ⟨A', m, y⟩ := x.setNo (σ.getD v none) v
          rw [wipe_set σ v nv] at y
          exact ⟨A', m, y⟩
        | dct l =>
          obtain ⟨A', m, y⟩ := x.setNo (σ.getD v none) v
          rw [wipe_set σ v nv] at y
          exact ⟨A', m, y⟩
    obtain ⟨A', m, y⟩ := step
    obtain ⟨A'', m', y'⟩ := Sl.back e o vs _ A' nd y
    exact ⟨A'', fun b hb => m b (m' b hb), y'⟩
/-- the slots behind a turn: the block's own are forgotten -/
theorem Sl.rewipe {ss : List SV} {σ2 : L2.St} {vs : List Nat} (x : Sl g p H0 F H A ss σ2) (hw : L2.wipe σ2 vs = L2.wipe σ vs) : ∃ A', (∀ b ∈ A', b ∈ A) ∧ Sl g p H0 F H A' (wipeS ss vs) (L2.wipe σ vs) := by
  obtain ⟨A', m, y⟩ := x.wipe vs
  rw [hw] at y
  exact ⟨A', m, y⟩
end
/-- the target's own stores touch the block's names alone -/
def SimGw (g : Gl) (vs : List Nat) (t : TG) (m : D → S → Option S) : Prop := ∀ (p : Option Addr) (H0 F0 : Hp) (A : List Addr) (F : Hp) (s : S) (σ : L2.St) (H : Hp) (v : V) (d : D) (Q : L2.St → Hp → Prop), Rel g p H0 F0 A F s σ H → Rep g p F v d →
  (∃ s', m d s = some s' ∧ ∀ σ' A', L2.wipe σ' vs = L2.wipe σ vs → Rel g p H0 F0 A' F s' σ' H → Q σ' H) → t v σ H Q
def DGw (g : Gl) (X : Cx) (vs : List Nat) (e : Expr) (t : TG) (m : D → S → Option S) : Prop := PG X e t ∧ SimGw g vs t m
def SimGsw (g : Gl) (vs : List Nat) (t : TGs) (m : List D → S → Option S) : Prop := ∀ (p : Option Addr) (H0 F0 : Hp) (A : List Addr) (F : Hp) (s : S) (σ : L2.St) (H : Hp) (ws : List V) (ds : List D) (Q : L2.St → Hp → Prop), Rel g p H0 F0 A F s σ H → Reps g p F ws ds →
  (∃ s', m ds s = some s' ∧ ∀ σ' A', L2.wipe σ' vs = L2.wipe σ vs → Rel g p H0 F0 A' F s' σ' H → Q σ' H) → t ws σ H Q
theorem wipe_hit {σ : L2.St} {i : Nat} {x : Option V} : ∀ {vs : List Nat}, i ∈ vs → L2.wipe (σ.set i x) vs = L2.wipe σ vs
  | [], h => by simp at h
  | v :: vs, h => by
    by_cases hi : i ∈ vs
    · show (L2.wipe (σ.set i x) vs).set v none = (L2.wipe σ vs).set v none
      rw [wipe_hit hi]
    · have e : i = v := (List.mem_cons.mp h).elim id fun z => absurd z hi
      subst e
      have key : ∀ (vs : List Nat), i ∉ vs → L2.wipe (σ.set i x) vs = (L2.wipe σ vs).set i x := by
        intro vs
        induction vs with
        | nil => intro _; rfl
        | cons w ws ih =>
          intro hn
          rw [List.mem_cons, not_or] at hn
          show (L2.wipe (σ.set i x) ws).set w none = ((L2.wipe σ ws).set w none).set i x
          rw [ih hn.2, List.set_comm _ _ hn.1]
      show (L2.wipe (σ.set i x) vs).set i none = (L2.wipe σ vs).set i none
      rw [key vs hi, List.set_set]
theorem wipe_sub {σ : L2.St} {vs : List Nat} : ∀ {us : List Nat}, (∀ u ∈ us, u ∈ vs) → L2.wipe (L2.wipe σ us) vs = L2.wipe σ vs
  | [], _ => rfl
  | u :: us, h => by
    show L2.wipe ((L2.wipe σ us).set u none) vs = _
    rw [wipe_hit (h u List.mem_cons_self)]
    exact wipe_sub fun x hx => h x (List.mem_cons_of_mem _ hx)
theorem wipe_wipe (σ : L2.St) (vs : List Nat) : L2.wipe (L2.wipe σ vs) vs = L2.wipe σ vs := wipe_sub fun _ h => h
theorem simGw_name {g : Gl} {vs : List Nat} {i : Nat} (h : i ∈ vs) : SimGw g vs (gName i) (gN i) := by
  intro p H0 F0 A F s σ H v d Q Y r ⟨s', e, k⟩
  cases e
  obtain ⟨A1, m1, q1⟩ := Y.sl.setVal r i
  exact k _ A1 (wipe_hit h) (Y.slots (s' := { s with sl := s.sl.set i (.val d) }) rfl q1)
theorem simGsw_nil {g : Gl} {vs : List Nat} : SimGsw g vs gNil gsNil := by
  intro p H0 F0 A F s σ H ws ds Q Y r ⟨s', e, k⟩
  cases r with
  | nil => cases e; exact ⟨rfl, k σ A rfl Y⟩
  | cons _ _ => cases e
theorem simGsw_cons {g : Gl} {vs : List Nat} {t : TG} {u : TGs} {m : D → S → Option S} {ms : List D → S → Option S} (h : SimGw g vs t m) (hr : SimGsw g vs u ms) : SimGsw g vs (gCons t u) (gsCons m ms) := by
  intro p H0 F0 A F s σ H ws ds Q Y r ⟨s', e, k⟩
  cases r with
  | nil => cases e
  | cons r1 rr =>
    obtain ⟨s1, e1, e2⟩ := Option.bind_eq_some_iff.mp e
    refine ⟨_, _, rfl, h p H0 F0 A F s σ H _ _ _ Y r1 ⟨s1, e1, fun σ' A' w1 Y' => ?_⟩⟩
    exact hr p H0 F0 A' F s1 σ' H _ _ _ Y' rr ⟨s', e2, fun σ2 A2 w2 Y2 => k σ2 A2 (w2.trans w1) Y2⟩
theorem simGw_tup {g : Gl} {vs : List Nat} {K : PySem.W.Frag} {t : TGs} {n : Nat} {ms : List D → S → Option S} (h : SimGsw g vs t ms) (hK : K = g.K) : SimGw g vs (gTup K n t) (gT n ms) := by
  intro p H0 F0 A F s σ H v d Q Y r ⟨s', e, k⟩
  unfold gT at e
  split at e
  · rename_i l
    split at e
    · rename_i hl
      cases r with
      | tup h1 r1 => exact ⟨_, _, rfl, by rw [hK]; exact ext_t Y.ext h1, by rw [r1.length]; exact hl, h p H0 F0 A F s σ H _ _ _ Y r1 ⟨s', e, k⟩⟩
    · cases e
  · cases e
/-- THE comprehension's reading -/
theorem sim_lc {g : Gl} {W : WX} {vs : List Nat} {wi : TI} {gt : TG} {tt : TT} {te : TE} {mi : AM} {gm : D → S → Option S} {mt : TM} {me : EM} (nd : vs.Nodup)
    (i2 : Sim g W (RepI g) wi mi) (g2 : SimGw g vs gt gm) (t2 : Sim g WF RepB tt mt) (e2 : Sim g WF (RepV g) te me) : SimO g W (tLc wi gt tt te vs) (oLc vs mi gm mt me) := by
  intro p H0 F0 A F s σ H Q Y hp
  refine i2 p H0 F0 A F s σ H _ Y (PostO.bind hp fun items s1 J F1 H1 A1 Y1 e1 r1 hp1 => ?_)
  intro D0 nD
  obtain ⟨k1, k2, k3, k4⟩ := Y1.fresh nD
  have f0 : F0 D0 = none := by
    cases q : F0 D0 with
    | none => rfl
    | some o => rw [Y1.ef0 _ _ q] at k1; cases k1
  have Y2 := Y1.grow (Gr.lay (o := HO.lst []) Y1.ext Y1.tb nD)
  obtain ⟨Aw, mw, qw⟩ := Y2.sl.wipe vs
  have Yw : Rel g p H0 F0 Aw F1 { s1 with sl := wipeS s1.sl vs } (L2.wipe σ vs) (upd H1 D0 (.lst [])) := Y2.slots (s' := { s1 with sl := wipeS s1.sl vs }) rfl qw
  -- what is held at each turn
  let P (i : Nat) (H' : Hp) : Prop := ∃ F3 A3 s3 accV acc, Rel g p H0 F0 A3 F3 s3 (L2.wipe σ vs) H' ∧ Ext F1 F3 ∧ H' D0 = some (.lst accV) ∧ Reps g p F3 accV acc ∧ F3 D0 = none ∧ D0 ∉ A3 ∧
    PostO g W p H0 F0 F3 σ Q ((lcLoop vs gm mt me (items.drop i) acc s3).bind fun acc s2 => .ok (.own acc) { s2 with sl := backS s2.sl s1.sl vs })
  refine ⟨fun i n H' => n = items.length - i ∧ i ≤ items.length ∧ P i H', ⟨items.length, by simp, Nat.zero_le _, F1, Aw, _, [], [], Yw, Ext.refl _, upd_same, .nil, k1, fun z => k4 (mw _ z), by simpa using hp1⟩, ?_⟩
  rintro i n H2 ⟨rfl, hi, F3, A3, s3, accV, acc, Y3, e3, hD, rA, fD, aD, hp3⟩
  by_cases hlt : i < items.length
  · have ed : items.drop i = items[i] :: items.drop (i + 1) := List.drop_eq_getElem_cons hlt
    rw [ed] at hp3
    refine .inr ⟨r1.go i F3 H2 e3 Y3.ext hlt, P (i + 1), fun H' h => ⟨items.length - (i + 1), by omega, rfl, hlt, h⟩, fun x H' hy => ?_⟩
    obtain ⟨d, F4, hd, G4, r4⟩ := r1.yld i F3 H2 x H' e3 Y3.ext Y3.tb hy hlt
    have ee : d = items[i] := by rw [List.getElem?_eq_getElem hlt] at hd; exact (Option.some.inj hd).symm
    subst ee
    have Yp := Y3.protect hD fD k2 aD
    have Y4 := Yp.grow G4
    have e4 := e3.trans G4.ff
    unfold lcLoop at hp3
    cases qg : gm items[i] s3 with
    | none => rw [qg] at hp3; exact hp3.elim
    | some s4 =>
      simp only [qg] at hp3
      refine g2 p _ F0 A3 F4 s3 _ H' x _ _ Y4 r4 ⟨s4, qg, fun σ5 A5 hw0 Y5 => ?_⟩
      have hw : L2.wipe σ5 vs = L2.wipe σ vs := hw0.trans (wipe_wipe σ vs)
      refine ⟨hw, ?_⟩
      have hp5 := PostO.mono hp3 G4.ff
      refine t2 p _ F0 A5 F4 s4 σ5 H' _ Y5 ?_
      cases qt : mt s4 with
      | exc c n s5 => simp only [qt] at hp5; exact hp5.elim
      | stuck => simp only [qt] at hp5; exact hp5.elim
      | ok b s5 =>
        refine fun b' F6 H6 A6 Y6 e6 eb => ?_
        subst eb
        simp only [qt] at hp5
        cases b' with
        | false =>
          obtain ⟨z1, z2, z3, z4⟩ := Y6.unprotect f0 k3 trivial k2
          obtain ⟨A7, m7, q7⟩ := z1.sl.rewipe hw
          exact ⟨F6, A7, { s5 with sl := wipeS s5.sl vs }, accV, acc, z1.slots (s' := { s5 with sl := wipeS s5.sl vs }) rfl q7, e4.trans e6, z2, rA.mono (G4.ff.trans e6), z3, fun z => z4 (m7 _ z), PostO.mono hp5 e6⟩
        | true =>
          refine e2 p _ F0 A6 F6 s5 σ5 H6 _ Y6 ?_
          have hp6 := PostO.mono hp5 e6
          cases qe : me s5 with
          | exc c n s6 => simp only [qe] at hp6; exact hp6.elim
          | stuck => simp only [qe] at hp6; exact hp6.elim
          | ok y s6 =>
            simp only [qe] at hp6
            refine fun v F7 H7 A7 Y7 e7 r7 => ?_
            obtain ⟨z1, z2, z3, z4⟩ := Y7.unprotect f0 k3 trivial k2
            have hl : accV.length = acc.length := rA.length
            by_cases hs : acc.length < sizeLine
            · rw [if_pos hs] at hp6
              refine ⟨accV, z2, by rw [hl]; exact hs, ?_⟩
              -- the list has grown
              have U : Rel g p H0 F0 A7 F7 s6 σ5 (upd H7 D0 (.lst (accV ++ [v]))) := by
                refine ⟨fun b u q => ?_, z1.ef0, z1.fr, fun b u q np no => ?_, fun b q => ?_, ⟨fun b e => ?_, z1.pl.2⟩, g.Tu _ _ _ z1.tb (.inr (.inl ⟨_, z2⟩)), z1.sl.mono (Ext.refl _) fun b hb => ⟨?_, (z1.sl.facts b hb).2.1⟩⟩
                · rw [upd_ne (fun z => by rw [z, z3] at q; cases q)]; exact z1.ext b u q
                · rw [upd_ne (fun z => by rw [z, k2] at q; cases q)]; exact z1.evo b u q np no
                · by_cases hb : b = D0
                  · rw [hb]; exact k2
                  · rw [upd_ne hb] at q; exact z1.al b q
                · obtain ⟨y1, y2⟩ := z1.pl.1 b e
                  exact ⟨y1, by rw [upd_ne (fun z => k3 (by rw [e, z]))]; exact y2⟩
                · rw [upd_ne (fun z => z4 (by rw [← z]; exact hb))]
              obtain ⟨A8, m8, q8⟩ := U.sl.rewipe hw
              exact ⟨F7, A8, { s6 with sl := wipeS s6.sl vs }, _, acc ++ [y], U.slots (s' := { s6 with sl := wipeS s6.sl vs }) rfl q8, (e4.trans e6).trans e7, upd_same, (rA.mono (G4.ff.trans (e6.trans e7))).append (.cons r7 .nil), z3, fun z => z4 (m8 _ z), PostO.mono hp6 e7⟩
            · rw [if_neg hs] at hp6; exact hp6.elim
  · have ei : i = items.length := by omega
    subst ei
    rw [List.drop_length] at hp3
    refine .inl ⟨r1.stop _ F3 H2 e3 Y3.ext (Nat.le_refl _), ?_⟩
    obtain ⟨A4, m4, q4⟩ := Sl.back e3 Y1.sl vs _ A3 nd Y3.sl
    exact hp3 D0 accV F3 H2 A4 (Y3.slots (s' := { s3 with sl := backS s3.sl s1.sl vs }) rfl q4) (Ext.refl _) rA hD fD k2 k3 fun z => aD (m4 _ z)
end Pd

/-! Pd, part E: comprehensions as expressions, defs, calls. -/
namespace Pd
open PySem PySem.Spec PyProof.Rows L2

/-- the reading that a meaning has of itself -/
def can {α β : Type} (g : Gl) (W : WX) (Rp : RPT α β) (m : S → R α) : L2.St → Hp → (β → Hp → Prop) → Prop := fun σ H Q =>
  ∃ (p : Option Addr) (H0 F0 : Hp) (A : List Addr) (F : Hp) (s : S), Rel g p H0 F0 A F s σ H ∧ Post g W Rp p H0 F0 F σ Q (m s)
theorem sim_can {α β : Type} {g : Gl} {W : WX} {Rp : RPT α β} {m : S → R α} : Sim g W Rp (can g W Rp m) m := fun p H0 F0 A F s σ H Q Y hp => ⟨p, H0, F0, A, F, s, Y, hp⟩
def DTs (g : Gl) (X : Cx) (W : WX) (es : List Expr) (m : TM) : Prop := ∃ t, PTs X es t ∧ Sim g W RepB t m
def DGw' (g : Gl) (X : Cx) (vs : List Nat) (e : Expr) (m : D → S → Option S) : Prop := ∃ t, PG X e t ∧ SimGw g vs t m
def DGsw' (g : Gl) (X : Cx) (vs : List Nat) (es : List Expr) (m : List D → S → Option S) : Prop := ∃ t, PGs X es t ∧ SimGsw g vs t m
def canG (g : Gl) (vs : List Nat) (m : D → S → Option S) : TG := fun v σ H Q => ∃ (p : Option Addr) (H0 F0 : Hp) (A : List Addr) (F : Hp) (s : S) (d : D), Rel g p H0 F0 A F s σ H ∧ Rep g p F v d ∧
  ∃ s', m d s = some s' ∧ ∀ σ' A', L2.wipe σ' vs = L2.wipe σ vs → Rel g p H0 F0 A' F s' σ' H → Q σ' H
section
variable {g : Gl} {X : Cx} {W : WX}
theorem DE.can {e : Expr} {m : EM} (h : DE g X W e m) : PE X e (can g W (RepV g) m) := by
  obtain ⟨t, a1, a2⟩ := h
  exact ⟨fun pins s σ H Q I ⟨p, H0, F0, A, F, s', Y, hp⟩ => a1.run pins s σ H Q I (a2 p H0 F0 A F s' σ H Q Y hp)⟩
theorem DTs.can {es : List Expr} {m : TM} (h : DTs g X W es m) : PTs X es (can g W RepB m) := by
  obtain ⟨t, a1, a2⟩ := h
  exact ⟨fun pins s σ H Q I ⟨p, H0, F0, A, F, s', Y, hp⟩ => a1.run pins s σ H Q I (a2 p H0 F0 A F s' σ H Q Y hp)⟩
theorem DI.can {tg e : Expr} {m : AM} (h : DI g X W tg e m) : PI X tg e (can g W (RepI g) m) := by
  obtain ⟨t, a1, a2⟩ := h
  exact ⟨fun pins s σ H Q I ⟨p, H0, F0, A, F, s', Y, hp⟩ => a1.run pins s σ H Q I (a2 p H0 F0 A F s' σ H Q Y hp)⟩
theorem DGw'.can {vs : List Nat} {e : Expr} {m : D → S → Option S} (h : DGw' g X vs e m) : PG X e (canG g vs m) := by
  obtain ⟨t, a1, a2⟩ := h
  exact ⟨fun pins s σ H v u Q I r ⟨p, H0, F0, A, F, s', d, Y, rd, hp⟩ => a1.run pins s σ H v u Q I r (a2 p H0 F0 A F s' σ H v d Q Y rd hp)⟩
theorem simGw_can {vs : List Nat} {m : D → S → Option S} : SimGw g vs (canG g vs m) m := fun p H0 F0 A F s σ H v d Q Y r h => ⟨p, H0, F0, A, F, s, d, Y, r, h⟩
theorem dts_nil : DTs g X W [] tYesM := ⟨_, pts_nil, fun p H0 F0 A F s σ H Q Y hp => hp true F H A Y (Ext.refl _) rfl⟩
theorem dts_one {e : Expr} {m : TM} (h : DT g X W e m) : DTs g X W [e] m := let ⟨_, a1, a2⟩ := h; ⟨_, pts_one a1, a2⟩
theorem dgw_name {i : Nat} {x : Str} {vs : List Nat} {pos : Pos} (hN : X.N.Nodup) (hi : X.N[i]? = some x) (hx : Loc X.env.scope x) (hv : i ∈ vs := by decide) (hf : X.fn x = true ∨ X.env.scope.names.lookup x = some .local := by first | exact .inl rfl | exact .inr rfl | assumption) : DGw' g X vs (.Name x pos) (gN i) :=
  ⟨_, pg_name hN hi hx hf, simGw_name hv⟩
theorem dgsw_nil {vs : List Nat} : DGsw' g X vs [] gsNil := ⟨_, pgs_nil, simGsw_nil⟩
theorem dgsw_cons {vs : List Nat} {e : Expr} {es : List Expr} {m : D → S → Option S} {ms : List D → S → Option S} (h : DGw' g X vs e m) (hr : DGsw' g X vs es ms) (hs : (assignEach (e :: es) X.env).map (·.2) = assign e X.env :: (assignEach es X.env).map (·.2) := by rfl) : DGsw' g X vs (e :: es) (gsCons m ms) :=
  let ⟨_, a1, a2⟩ := h; let ⟨_, b1, b2⟩ := hr; ⟨_, pgs_cons a1 b1 hs, simGsw_cons a2 b2⟩
theorem dgw_tup {vs : List Nat} {es : List Expr} {k : Nat} {pos : Pos} {ms : List D → S → Option S} {n : Nat} (hc : X.calm = true) (h : DGsw' g X vs es ms) (hn : (assignEach es X.env).length = n := by rfl) (hst : (assignEach es X.env).findIdx? (·.1) = none := by rfl) (hK : X.K = g.K := by rfl) : DGw' g X vs (.Tuple es k pos) (gT n ms) :=
  let ⟨_, a1, a2⟩ := h; ⟨_, pg_tup hc a1 hn hst, simGw_tup a2 hK⟩

/-- a list comprehension of one for -/
structure LcOk (g : Gl) (X : Cx) (W : WX) (elt tg iter : Expr) (ifs : List Expr) (scope : Scope) (own : List (Str × Nat)) (mi : AM) (gm : D → S → Option S) (mt : TM) (me : EM) : Prop where
  hc : X.calm = true
  hN : X.N.Nodup
  hi : DI g X W tg iter mi
  ok : BlkOk X.N X.env.scope scope own
  nd : (own.map (·.2)).Nodup
  hg : ∀ (s : Shared) (H : Hp) (C : Addr) (cl : List (Str × Addr)) (fp : List Addr), DGw' g (X.blk s H scope (compEnvC scope cl C X.env) fp) (own.map (·.2)) tg gm
  ht : ∀ (s : Shared) (H : Hp) (C : Addr) (cl : List (Str × Addr)) (fp : List Addr), DTs g (X.blk s H scope (compEnvC scope cl C X.env) fp) WF ifs mt
  he : ∀ (s : Shared) (H : Hp) (C : Addr) (cl : List (Str × Addr)) (fp : List Addr), DE g (X.blk s H scope (compEnvC scope cl C X.env) fp) WF elt me
theorem do_lc {elt tg iter : Expr} {ifs : List Expr} {scope : Scope} {own : List (Str × Nat)} {mi : AM} {gm : D → S → Option S} {mt : TM} {me : EM} {pos : Pos} (L : LcOk g X W elt tg iter ifs scope own mi gm mt me) (hs : ∀ x, foldedSetIterable iter X.env x = pure x := by intro _; rfl) :
    DO g X W (.ListComp elt [⟨tg, iter, ifs, 0⟩] scope pos) (oLc (own.map (·.2)) mi gm mt me) :=
  ⟨_, pe_lc L.hc L.hN L.hi.can L.ok (fun s H C cl fp => (L.hg s H C cl fp).can) (fun s H C cl fp => (L.ht s H C cl fp).can) (fun s H C cl fp => (L.he s H C cl fp).can) hs, sim_lc L.nd sim_can simGw_can sim_can sim_can⟩
theorem ds_setLc {i : Nat} {y : Str} {py : Pos} {elt tg iter : Expr} {ifs : List Expr} {scope : Scope} {own : List (Str × Nat)} {mi : AM} {gm : D → S → Option S} {mt : TM} {me : EM} {pos spos : Pos} (hy : X.N[i]? = some y) (hyl : X.env.scope.names.lookup y = some .local)
    (hsw : swapsWith (.ListComp elt [⟨tg, iter, ifs, 0⟩] scope pos) (some (.Name y py)) spos.line X.env = pure true) (L : LcOk g X W elt tg iter ifs scope own mi gm mt me) (hs : ∀ x, foldedSetIterable iter X.env x = pure x := by intro _; rfl) :
    DS g X W (.Assign [.Name y py] (.ListComp elt [⟨tg, iter, ifs, 0⟩] scope pos) spos) (mSet i (good (oLc (own.map (·.2)) mi gm mt me))) :=
  ⟨_, ps_setLc L.hc L.hN hy hyl hsw L.hi.can L.ok (fun s H C cl fp => (L.hg s H C cl fp).can) (fun s H C cl fp => (L.ht s H C cl fp).can) (fun s H C cl fp => (L.he s H C cl fp).can) hs, sim_set (sim_lc L.nd sim_can simGw_can sim_can sim_can)⟩
end

/-! ### defs -/
inductive FR where
  | ok (r : SV) (n : Int)
  | exc (c : String) (m : Option Int) (n : Int)
  | stuck
abbrev FM := List D → Int → FR
def PostF (g : Gl) (p : Option Addr) (F H : Hp) (Q : VK) (E : XK) : FR → Prop
  | .ok (.val d) n => ∀ v F' H', Gr g p F H F' H' → PileOk p n F' H' → Rep g p F' v d → Q v H'
  | .ok (.own l) n => ∀ a vs F' H', Gr g p F H F' H' → PileOk p n F' H' → Reps g p F' vs l → H' a = some (.lst vs) → F' a = none → H a = none → p ≠ some a → Q (.ref a) H'
  | .ok _ _ => False
  | .exc c m n => ∀ cls d F' H', Gr g p F H F' H' → PileOk p n F' H' → ExcV g c m cls d F' → E cls d H'
  | .stuck => False
/-- what a def promises -/
def spF (g : Gl) (f : FM) : Sp := fun vs H Q E => ∃ (p : Option Addr) (F : Hp) (ds : List D) (n : Int), Reps g p F vs ds ∧ Ext F H ∧ PileOk p n F H ∧ g.T H ∧ PostF g p F H Q E (f ds n)
def outF : RS → FR
  | .nx s => .ok (.val .non) s.pile
  | .rt r s => .ok r s.pile
  | .exc c m s => .exc c m s.pile
  | _ => .stuck
/-- np parameters, n names -/
def mkF (np n : Nat) (b : SM) : FM := fun ds k => if ds.length = np then outF (b ⟨ds.map SV.val ++ List.replicate (n - np) .no, k⟩) else .stuck
theorem sl_start {g : Gl} {p : Option Addr} {H0 F H : Hp} : ∀ {vs : List V} {ds : List D} (k : Nat), Reps g p F vs ds → Sl g p H0 F H [] (ds.map SV.val ++ List.replicate k .no) (vs.map some ++ List.replicate k none)
  | _, _, 0, .nil => .nil
  | _, _, k + 1, .nil => .no (sl_start (vs := []) (ds := []) k .nil)
  | _, _, k, .cons r t => .val r (sl_start k t)
theorem rel_start {g : Gl} {p : Option Addr} {F H : Hp} {vs : List V} {ds : List D} {n : Int} {N : List Str} (r : Reps g p F vs ds) (e : Ext F H) (pl : PileOk p n F H) (t : g.T H) : Rel g p H F [] F ⟨ds.map SV.val ++ List.replicate (N.length - ds.length) .no, n⟩ (start N vs) H where
  ext := e
  ef0 := Ext.refl F
  fr := fun b o q => .inl q
  evo := fun b o q _ _ => q
  al := fun b q => q
  pl := pl
  tb := t
  sl := by
    unfold L2.start
    rw [← r.length]
    exact sl_start _ r
theorem Rel.gr0 {g : Gl} {p : Option Addr} {H0 F0 : Hp} {A : List Addr} {F : Hp} {s : S} {σ : L2.St} {H : Hp} (Y : Rel g p H0 F0 A F s σ H) : Gr g p F0 H0 F H := ⟨Y.evo, Y.al, Y.ef0, Y.fr, Y.ext, Y.tb, fun b ps h => absurd h (Y.pl.2 b ps)⟩
/-- room, and no repr is under way -/
structure RoomG (k : Nat) (A : Around) : Prop where
  rm : Room k A
  gd : A.guards = some []
theorem RoomG.mono {j k : Nat} {A : Around} (r : RoomG k A) (h : j ≤ k) : RoomG j A := ⟨r.rm.mono h, r.gd⟩
theorem RoomG.deeper {k : Nat} {A : Around} (r : RoomG (k + 1) A) (env : Env) : RoomG k (A.deeper env) := ⟨r.rm.deeper env, r.gd⟩
theorem RoomG.un {k : Nat} {A : Around} (r : RoomG k A) : A.units + 16 * k + 200 < cLine := r.rm.un
theorem RoomG.units {k : Nat} {A : Around} (r : RoomG k A) : A.units + 64 < cLine := r.rm.units
theorem RoomG.u1 {k : Nat} {A : Around} (r : RoomG k A) : A.units + 1 < cLine := by have := r.un; omega
/-- a def's promise, where no repr is under way -/
structure FnG (P : Program) (w : World) (K : PySem.W.Frag) (mg : Str → Option Value) (base : Heap) (CX : CXT) (k : Nat) (f : Addr) (fd : FuncData) (ps : List Str) (sp : Sp) : Prop where
  len : ∀ vs H Q E, sp vs H Q E → vs.length = ps.length
  run : ∀ (A : Around) (out : List Env) (sh : Shared) (H : Hp) (ar : Args) (us : List Value) (vs : List V) (Q : VK) (E : XK), RoomG k A → Env0 P w K mg base A out sh H → BindsTo sh fd ar (ps.zip us) → Vals vs us → sp vs H Q E →
    codeAny (model P w) A (.call (.ref f) ar) (CR CX out P w H sh Q E) sh
section
variable {P : Program} {w : World} {K : PySem.W.Frag} {mg : Str → Option Value} {base : Heap}
theorem fnG_of {CX : CXT} {x qual : Str} {params : Arguments} {body : List Stmt} {scope : Scope} {a : Addr} {fd : FuncData} {N ps : List Str} {k : Nat} {sp : Sp} (D : FunD K x qual params body scope [] [] a fd) (S : FnScope N ps scope)
    (hl : ∀ vs H Q E, sp vs H Q E → vs.length = ps.length)
    (hbd : ∀ (cdv : Value) (A : Around) (out : List Env) (sh : Shared) (H : Hp) (vs : List V) (Q : VK) (E : XK), RoomG k (A.deeper (envOfC qual scope sh.heap.objs.size a cdv)) → sp vs H Q E →
      ∃ t, PSs (cxOf CX P w K mg base N qual scope a cdv A out sh H E) body t ∧ t { nx := fun _ H' => Q .non H', rt := Q } (start N vs) H) : FnG P w K mg base CX (k + 1) a fd ps sp := by
  obtain ⟨oc, od, dV, kV, doc, pm, an, cdv, ct, osl, hfd, look, code, _, _⟩ := D.ex
  subst hfd
  refine ⟨hl, fun A out sh H ar us vs Q E room env0 bnd rv prom => ?_⟩
  have n1 := hl _ _ _ _ prom
  have kin : K.In sh.heap := env0.mod.kin.keeps fun b o q => (env0.bs b o q).1
  have nol : sh.heap.NoLimit := env0.mod.nolimit.keeps fun b o q => (env0.bs b o q).1
  have kinds : ∀ y ∈ ps.zip us, scope.names.lookup y.1 = some .local ∨ (scope.names.lookup y.1 = some .cell ∧ ((cellsFrom (sh.heap.objs.size + 1) scope.names []).lookup y.1).isSome = true) := by
    rintro ⟨y, v⟩ hy
    cases S.par y (List.of_mem_zip hy).1 with
    | inl q => exact .inl q
    | inr q => exact .inr ⟨q, PySem.W.cellsFrom_some _ _ _ (.inl q)⟩
  refine codeAny_call_function room.rm.depth (kin _ _ look) rfl S.co S.gen rfl (PySem.W.codeRec_of kin code) (bnd _ _ _ _ ?_)
  refine wpAny_newFunctionEnv_cells S.kind kinds fun nenv hne sh1 call => ?_
  subst hne
  refine ⟨nol.keeps call.toInCall.keep, codeAny_func ?_⟩
  obtain ⟨t, run, post⟩ := hbd cdv A out sh H vs Q E (room.deeper _) prom
  have inv : Inv (cxOf CX P w K mg base N qual scope a cdv A out sh H E) [] (start N vs) H sh1 := inv_start S room.rm.hd env0 n1 rv call
  have ends : ∀ {σ1 : L2.St} {H1 : Hp} {v : V} {u : Value} {sh2 : Shared}, Inv (cxOf CX P w K mg base N qual scope a cdv A out sh H E) [] σ1 H1 sh2 → RelV v u → Q v H1 → CE out P w H sh Q u sh2 :=
    fun {_ H1 v _ _} J ru q => ⟨v, H1, J.os, J.bare, J.base, J.hok, ru, q⟩
  refine wpAny_mono (run.run [] sh1 (start N vs) H _ inv post) (fun fl sh2 done => ?_) fun _ _ z => z
  match fl, done with
  | .ret u, ⟨v, _, _, J, ru, q⟩ => exact ends J ru q
  | .next, ⟨_, _, J, q⟩ => exact ends (v := V.non) (u := Value.none) J rfl q
  | .brk, ⟨_, _, _, q⟩ => exact q.elim
  | .cont, ⟨_, _, _, q⟩ => exact q.elim
end
section
variable {X : Cx} {CX : CXT} {k : Nat} {fa : Addr} {fd : FuncData} {ps : List Str} {sp : Sp} {E : L2.St → XK} {x : Str} {p' pos : Pos} {e : Expr} {es : List Expr} {t : TA}
theorem run_fnG {pins : List (Addr × Obj)} {σ : L2.St} {H : Hp} {sh : Shared} {Q : VK} {us : List Value} {vs : List V} (D : FnG X.prog X.w X.K X.mg X.base CX k fa fd ps sp) (room : RoomG k X.A) (hb : Binds X.K fd ps []) (px : PassesAt CX X σ (E σ))
    (I : Inv X pins σ H sh) (rv : Vals vs us) (prom : sp vs H Q (E σ)) : wpAny (model X.prog X.w) X.A (call (.ref fa) us) (EP X pins σ Q) X.xe sh := by
  have n1 : us.length = ps.length := by rw [← rv.length]; exact D.len _ _ _ _ prom
  have b1 := hb sh us I.kIn (by rw [List.append_nil]; exact n1)
  rw [List.append_nil] at b1
  refine wpAny_call (codeAny_mono (D.run X.A X.stack sh H ⟨us, []⟩ us vs Q (E σ) room I.env0 b1 rv prom) fun r sh' got => ?_)
  match r, got with
  | .error z, got => exact px pins H sh z sh' I got
  | .ok (.ret u), got => exact I.after got
theorem pe_callG (D : FnG X.prog X.w X.K X.mg X.base CX k fa fd ps sp) (room : RoomG k X.A) (hg : L2.Gl X x) (hm : X.mg x = some (.ref fa)) (keep : PySem.W.keepIn X.K (.ref fa) = true) (hb : Binds X.K fd ps []) (px : ∀ σ, PassesAt CX X σ (E σ))
    (ha : PA X (e :: es) t) (hdb : (x == ("__debug__" : Str)) = false := by decide) (he : starEach (e :: es) X.env = (false, eval e X.env) :: starEach es X.env := by rfl) (hpl : (backTo pos (starEach es X.env)).any (·.1) = false := by rfl) :
    PE X (.Call (.Name x p') (e :: es) [] pos) (tCallS sp E t) := by
  refine ⟨fun pins sh σ H Q I h => wpAny_Call_Name_kw (ld_glob I hg hm ?_ hdb)⟩
  refine PySem.W.callWith_K (h₀ := X.base) I.ok.mod.kin keep (thn (ha.run pos pins sh σ H _ I h) ?_) he hpl
  rintro us sh1 ⟨vs, H1, J, rv, q⟩
  exact ⟨J.kIn, run_fnG D room hb (px σ) J rv q⟩
theorem pe_callG0 (D : FnG X.prog X.w X.K X.mg X.base CX k fa fd ps sp) (room : RoomG k X.A) (hg : L2.Gl X x) (hm : X.mg x = some (.ref fa)) (keep : PySem.W.keepIn X.K (.ref fa) = true) (hb : Binds X.K fd ps []) (px : ∀ σ, PassesAt CX X σ (E σ))
    (hdb : (x == ("__debug__" : Str)) = false := by decide) : PE X (.Call (.Name x p') [] [] pos) (tCallS sp E tNil) :=
  ⟨fun pins sh σ H Q I h => wpAny_Call_Name_kw (ld_glob I hg hm (PySem.W.callWith_K0 I.kIn keep (run_fnG (us := []) D room hb (px σ) I .nil h)) hdb)⟩
end
/-- what a def is worth to its callers: where it stands, its promise -/
structure Cal (P : Program) (w : World) (K : PySem.W.Frag) (mg : Str → Option Value) (base : Heap) (g : Gl) (k : Nat) (x : Str) (f : FM) : Prop where
  ex : ∃ (a : Addr) (fd : FuncData) (ps : List Str), FnG P w K mg base (L2.CX P w) k a fd ps (spF g f) ∧ mg x = some (.ref a) ∧ PySem.W.keepIn K (.ref a) = true ∧ Binds K fd ps []
abbrev WD (E : XK) : WX := fun cls d _ H => E cls d H
section
variable {P : Program} {w : World} {K : PySem.W.Frag} {mg : Str → Option Value} {base : Heap} {g : Gl}
/-- THE RULE for a def -/
theorem cal_of {x qual : Str} {params : Arguments} {body : List Stmt} {scope : Scope} {a : Addr} {fd : FuncData} {N ps : List Str} {np n k : Nat} {m : SM} (F : FunD K x qual params body scope [] [] a fd) (gm : mg x = some (.ref a)) (S : FnScope N ps scope)
    (hps : ps.length = np) (hn : N.length = n) (hb : ∀ (kV doc pm : Value) (an : Option Addr) (cdv ct : Value) (us : List Value), us.length = ps.length → bindArgs (PySem.W.fnOf x qual params body scope .none kV doc pm an cdv ct) ⟨us, []⟩ = pure (ps.zip us))
    (h : ∀ (cdv : Value) (A : Around) (outer : List Env) (s : Shared) (H : Hp) (E : XK), RoomG k (A.deeper (envOfC qual scope s.heap.objs.size a cdv)) →
      Takes (cxOf (L2.CX P w) P w K mg base N qual scope a cdv A outer s H E) (WD E) →
      PassesOwn (model P w) (A.deeper (envOfC qual scope s.heap.objs.size a cdv)) (envOfC qual scope s.heap.objs.size a cdv) (cxOf (L2.CX P w) P w K mg base N qual scope a cdv A outer s H E).xe →
      DSs g (cxOf (L2.CX P w) P w K mg base N qual scope a cdv A outer s H E) (WD E) body m) : Cal P w K mg base g (k + 1) x (mkF np n m) := by
  refine ⟨a, fd, ps, ?_, gm, F.kp, F.bindsN hb⟩
  refine fnG_of F S (fun vs H Q E ⟨p, F, ds, n, r, e, pl, t, hp⟩ => ?_) (fun cdv A outer s H vs Q E hr ⟨p, F, ds, nn, r, e, pl, t, hp⟩ => ?_)
  · rw [r.length, hps]
    unfold mkF at hp
    split at hp
    · assumption
    · exact hp.elim
  · have hl : ds.length = np := by
      unfold mkF at hp
      split at hp
      · assumption
      · exact hp.elim
    unfold mkF at hp
    rw [if_pos hl] at hp
    obtain ⟨t1, b1, b2⟩ := h cdv A outer s H E hr (takes_of rfl rfl rfl rfl) (passes_of rfl)
    refine ⟨t1, b1, b2 p H F [] F _ _ H _ (rel_start r e pl t) ?_⟩
    rw [hn, hl]
    generalize hS : m ⟨ds.map SV.val ++ List.replicate (n - np) .no, nn⟩ = rs at hp
    cases rs with
    | nx s' => exact fun σ' F' H' A' Y' e' => hp .non F' H' Y'.gr0 Y'.pl .non
    | bk s' => exact hp.elim
    | ct s' => exact hp.elim
    | exc c m s' => exact fun cls d σ' F' H' A' Y' e' z => hp cls d F' H' Y'.gr0 Y'.pl z
    | stuck => exact hp.elim
    | rt v s' => cases v with
      | val d => exact fun v σ' F' H' A' Y' e' r' => hp v F' H' Y'.gr0 Y'.pl r'
      | own l => exact fun a vs σ' F' H' A' Y' e' r' k1 k2 k3 k4 => hp a vs F' H' Y'.gr0 Y'.pl r' k1 k2 k3 k4
      | no => exact hp.elim
      | dct l => exact hp.elim
end

/-! ### calls -/
/-- the callee at the pile's state -/
def callR (f : FM) (ds : List D) (s : S) : R SV := match f ds s.pile with
  | .ok (.val d) n => .ok (.val d) { s with pile := n }
  | .ok (.own l) n => .ok (.own l) { s with pile := n }
  | .ok _ _ => .stuck
  | .exc c m n => .exc c m { s with pile := n }
  | .stuck => .stuck
def oCall (f : FM) (m : AM) : OM := fun s => (m s).bind fun ds s1 => callR f ds s1
section
variable {g : Gl} {X : Cx} {W : WX} {k : Nat} {f : FM} {x : Str} {p' pos : Pos}
theorem post_call {p : Option Addr} {H0 F0 F : Hp} {A : List Addr} {s : S} {σ : L2.St} {H : Hp} {Q : VK} {ds : List D} {vs : List V} (Y : Rel g p H0 F0 A F s σ H) (r : Reps g p F vs ds) (h : PostO g W p H0 F0 F σ Q (callR f ds s)) : spF g f vs H Q (WE W σ) := by
  refine ⟨p, F, ds, s.pile, r, Y.ext, Y.pl, Y.tb, ?_⟩
  unfold callR at h
  cases q : f ds s.pile with
  | stuck => rw [q] at h; exact h
  | exc c m n =>
    rw [q] at h
    exact fun cls d F' H' G P z => h cls d F' H' A (Y.call G P) G.ff z
  | ok rv n =>
    rw [q] at h
    cases rv with
    | no => exact h
    | dct l => exact h
    | val d => exact fun v F' H' G P z => h v F' H' A (Y.call G P) G.ff z
    | own l =>
      refine fun a vs' F' H' G P z k1 k2 k3 k4 => ?_
      obtain ⟨z1, z2, z3, z4⟩ := Y.fresh k3
      exact h a vs' F' H' A (Y.call G P) G.ff z k1 k2 z2 k4 z4
theorem do_call {e : Expr} {es : List Expr} {m : AM} (C : Cal X.prog X.w X.K X.mg X.base g k x f) (hr : RoomG k X.A) (hg : L2.Gl X x) (tk : Takes X W) (ha : DA g X W (e :: es) m)
    (hdb : (x == ("__debug__" : Str)) = false := by decide) (he : starEach (e :: es) X.env = (false, eval e X.env) :: starEach es X.env := by rfl) (hpl : (backTo pos (starEach es X.env)).any (·.1) = false := by rfl) : DO g X W (.Call (.Name x p') (e :: es) [] pos) (oCall f m) := by
  obtain ⟨a, fd, ps, F, gm, kp, b⟩ := C.ex
  obtain ⟨t, a1, a2⟩ := ha
  refine ⟨_, pe_callG F hr hg gm kp b (fun σ => passAt tk σ) a1 hdb he hpl, fun p H0 F0 A F s σ H Q Y hp => a2 p H0 F0 A F s σ H _ Y (PostO.bind hp fun ds s1 vs F1 H1 A1 Y1 e1 r1 hp1 => ?_)⟩
  exact post_call Y1 r1 hp1
theorem do_call0 (C : Cal X.prog X.w X.K X.mg X.base g k x f) (hr : RoomG k X.A) (hg : L2.Gl X x) (tk : Takes X W) (hdb : (x == ("__debug__" : Str)) = false := by decide) : DO g X W (.Call (.Name x p') [] [] pos) (oCall f aNil) := by
  obtain ⟨a, fd, ps, F, gm, kp, b⟩ := C.ex
  refine ⟨_, pe_callG0 F hr hg gm kp b (fun σ => passAt tk σ) hdb, fun p H0 F0 A F s σ H Q Y hp => ?_⟩
  exact post_call Y .nil hp
end
end Pd

/-! Pd, part F: operations. -/
namespace Pd
open PySem PySem.Spec PyProof.Rows L2

/-! ### results that may be new lists, of operations -/
def OpPO (g : Gl) (p : Option Addr) (F H : Hp) (Q : VK) : Option SV → Prop
  | some (.val d) => ∀ v F' H', Gr g none F H F' H' → Rep g p F' v d → Q v H'
  | some (.own l) => ∀ a vs F' H', Gr g none F H F' H' → Reps g p F' vs l → H' a = some (.lst vs) → F' a = none → H a = none → Q (.ref a) H'
  | _ => False
def good1 : SV → Option SV
  | .val d => some (.val d)
  | .own l => some (.own l)
  | _ => none
theorem PostO.of {g : Gl} {W : WX} {p : Option Addr} {H0 F0 F : Hp} {σ : L2.St} {s : S} {A : List Addr} {H : Hp} {o : Option SV} {Q : VK} (Y : Rel g p H0 F0 A F s σ H) (h : PostO g W p H0 F0 F σ Q (R.of (o.bind good1) s)) : OpPO g p F H Q o := by
  cases o with
  | none => exact h
  | some r => cases r with
    | no => exact h
    | dct l => exact h
    | val d => exact fun v F' H' G r => h v F' H' A (Y.grow G) G.ff r
    | own l =>
      refine fun a vs F' H' G r k1 k2 k3 => ?_
      obtain ⟨z1, z2, z3, z4⟩ := Y.fresh k3
      exact h a vs F' H' A (Y.grow G) G.ff r k1 k2 z2 z3 z4
def ROpO (g : Gl) (r : R2) (f : D → D → Option SV) : Prop := ∀ (p : Option Addr) (F H : Hp) (x y : V) (dx dy : D) (Q : VK), Rep g p F x dx → Rep g p F y dy → Ext F H → g.T H → OpPO g p F H Q (f dx dy) → r x y H Q
def oBin (f : D → D → Option SV) (a b : EM) : OM := fun s => (a s).bind fun x s1 => (b s1).bind fun y s2 => R.of ((f x y).bind good1) s2
section
variable {g : Gl} {X : Cx} {W : WX} {a b : Expr} {ma mb : EM} {pos : Pos}
theorem simO_bin {ta tb : TE} {r : R2} {f : D → D → Option SV} (hr : ROpO g r f) (ha : Sim g W (RepV g) ta ma) (hb : Sim g W (RepV g) tb mb) : SimO g W (tOp r ta tb) (oBin f ma mb) := by
  intro p H0 F0 A F s σ H Q Y hp
  refine ha p H0 F0 A F s σ H _ Y (PostO.bind hp fun x s1 v F1 H1 A1 Y1 e1 r1 hp1 => ?_)
  refine hb p H0 F0 A1 F1 s1 σ H1 _ Y1 (PostO.bind hp1 fun y s2 w F2 H2 A2 Y2 e2 r2 hp2 => ?_)
  exact hr p F2 H2 v w x y Q (r1.mono e2) r2 Y2.ext Y2.tb (PostO.of Y2 hp2)
theorem do_bin {op : Operator} {r : R2} {f : D → D → Option SV} (ho : OpR X (binaryOp op) r) (hr : ROpO g r f) (ha : DE g X W a ma) (hb : DE g X W b mb) : DO g X W (.BinOp a op b pos) (oBin f ma mb) := by
  obtain ⟨ta, a1, a2⟩ := ha
  obtain ⟨tb, b1, b2⟩ := hb
  exact ⟨_, pe_op ho a1 b1, simO_bin hr a2 b2⟩
end

/-! ### list + list, list * int, text * int -/
def rCatS : R2 := fun x y H Q => ∃ l b xs zs, x = .ref l ∧ y = .ref b ∧ Rd H l (.lst xs) ∧ Rd H b (.lst zs) ∧ xs.length + zs.length ≤ sizeLine ∧ ∀ p, H p = none → Q (.ref p) (upd H p (.lst (xs ++ zs)))
theorem rd_lst {X : Cx} {pins : List (Addr × Obj)} {σ : L2.St} {H : Hp} {s : Shared} {l : Addr} {xs : List V} (I : Inv X pins σ H s) (h : Rd H l (.lst xs)) :
    xs.length ≤ sizeLine ∧ ∃ (its : List Value) (n : Nat), Vals xs its ∧ xs.length = its.length ∧ s.heap.get? l = some { cls := .type "list", data := .seq its.toArray n } := by
  obtain ⟨z, its, n, r, e⟩ := h.ok I.hok
  exact ⟨z, its, n, r, r.length, e⟩
theorem op_catS {X : Cx} : OpR X (binaryOp .Add) rCatS := by
  intro pins s σ H x y v u Q I rx ry h
  obtain ⟨l, b, xs, zs, rfl, rfl, hH, hB, hz, q⟩ := h
  cases rx
  cases ry
  obtain ⟨z, its, n, r, hl, e⟩ := rd_lst I hH
  obtain ⟨z2, its2, n2, r2, hl2, e2⟩ := rd_lst I hB
  refine PySem.P.add_list e e2 ?_ (by rw [List.size_toArray, List.size_toArray]; omega)
  have ea : its.toArray ++ its2.toArray = (its ++ its2).toArray := by simp
  rw [ea]
  exact ⟨.ref _, _, I.lnew (t' := s.toks) (r.append r2) (by rw [List.length_append]; omega), rfl, q _ I.fresh⟩
/-- text * int -/
def repS (n : Nat) (l : List Nat) : List Nat := (List.replicate n l).flatten
theorem foldl_cps (c : Array Nat) : ∀ (n : Nat) (acc : Array Nat), ((List.replicate n c).foldl (· ++ ·) acc).toList = acc.toList ++ repS n c.toList
  | 0, acc => by simp [repS]
  | n + 1, acc => by
    rw [List.replicate_succ, List.foldl_cons, foldl_cps c n, Array.toList_append]
    unfold repS
    rw [List.replicate_succ, List.flatten_cons, List.append_assoc]
def rMulS : R2 := fun x y H Q => ∃ (z : Str) (k : Int), x = .str z ∧ y = .int k ∧ -(2 ^ 62) ≤ k ∧ k < 2 ^ 62 ∧ z.length ≤ sizeLine ∧ z.length * k.toNat ≤ sizeLine ∧ Q (.str ⟨(repS k.toNat z.cps.toList).toArray⟩) H
theorem op_mulS {X : Cx} : OpR X (binaryOp .Mult) rMulS := by
  intro pins s σ H x y v u Q I rx ry h
  obtain ⟨z, k, rfl, rfl, h1, h2, h4, h3, q⟩ := h
  obtain ⟨t, rfl⟩ := rx
  obtain ⟨t', rfl⟩ := ry
  have e24 : (sizeLine : Nat) = 16777216 := sizeLine_eq
  refine PySem.P.mul_str (by rw [decide_eq_false (show ¬ k < -(2 ^ 63 : Int) by omega), decide_eq_false (show ¬ k ≥ 2 ^ 63 by omega)]; rfl) (fun k1 k2 => ?_) (fun k1 k2 => ?_) ?_
  · have hk : 0 < k := by omega
    intro hgt
    have h5 : (2 ^ 63 - 1) / k * k ≤ 2 ^ 63 - 1 := Int.ediv_mul_le _ (by omega)
    have h6 : ((z.length * k.toNat : Nat) : Int) ≤ 16777216 := by have h3' := h3; rw [e24] at h3'; omega
    rw [Int.natCast_mul, Int.toNat_of_nonneg (by omega)] at h6
    have h7 : ((2 ^ 63 - 1) / k + 1) * k ≤ (z.length : Int) * k := Int.mul_le_mul_of_nonneg_right (by omega) (by omega)
    have h8 : 2 ^ 63 - 1 < ((2 ^ 63 - 1) / k + 1) * k := Int.lt_ediv_add_one_mul_self _ hk
    omega
  · unfold Builtin.Str.tooLong
    exact decide_eq_false (by omega)
  · by_cases hn : k < 1
    · rw [if_pos hn]
      refine ⟨by show (0 : Nat) ≤ _; omega, ⟨.str ⟨#[]⟩, H, I.tok _, ⟨_, rfl⟩, ?_⟩⟩
      have e0 : k.toNat = 0 := by omega
      rw [e0] at q
      exact q
    · rw [if_neg hn]
      by_cases hc : (k == 1 || z.length == 0) = true
      · rw [if_pos hc]
        refine ⟨.str z, H, I, ⟨_, rfl⟩, ?_⟩
        have ez : (⟨(repS k.toNat z.cps.toList).toArray⟩ : Str) = z := by
          rcases Bool.or_eq_true_iff.mp hc with e | e
          · have e1 : k = 1 := by simpa using e
            subst e1
            show (⟨(List.replicate 1 z.cps.toList).flatten.toArray⟩ : Str) = z
            simp
          · have e1 : z.cps.toList = [] := by
              have : z.length = 0 := by simpa using e
              apply List.eq_nil_of_length_eq_zero
              rw [Array.length_toList]; exact this
            unfold repS
            rw [e1]
            have : ∀ n : Nat, (List.replicate n ([] : List Nat)).flatten = [] := fun n => by induction n with
              | zero => rfl
              | succ n ih => rw [List.replicate_succ, List.flatten_cons, ih]; rfl
            rw [this]
            cases z with | mk c => simp at e1; subst e1; rfl
        rw [ez] at q
        exact q
      · rw [if_neg hc]
        have ef : (List.replicate k.toNat z.cps).foldl (· ++ ·) #[] = (repS k.toNat z.cps.toList).toArray := by
          apply Array.ext'
          rw [foldl_cps]
          simp
        rw [ef]
        refine ⟨?_, ⟨.str ⟨(repS k.toNat z.cps.toList).toArray⟩, H, I.tok _, ⟨_, rfl⟩, q⟩⟩
        show ((repS k.toNat z.cps.toList).toArray).size ≤ sizeLine
        rw [List.size_toArray]
        unfold repS
        rw [List.length_flatten]
        simp
        rw [Nat.mul_comm]
        exact h3

/-! ### the operations on data -/
def dAdd : D → D → Option SV
  | .int i, .int j => some (.val (.int (i + j)))
  | .str s, .str t => if s.length + t.length ≤ sizeLine then some (.val (.str (s ++ t))) else none
  | .lst l, .lst m => if l.length + m.length ≤ sizeLine then some (.own (l ++ m)) else none
  | .tup l, .tup m => if l.length + m.length ≤ sizeLine then some (.val (.tup (l ++ m))) else none
  | _, _ => none
def rAddA (K : PySem.W.Frag) : R2 := fun x y H Q => rI0 (fun i j => .int (i + j)) x y H Q ∨ (∃ i j, x = .str i ∧ y = .str j ∧ i.length + j.length ≤ sizeLine ∧ Q (.str (i ++ j)) H) ∨ rCatS x y H Q ∨ rCatA K x y H Q
theorem op_addA {X : Cx} : OpR X (binaryOp .Add) (rAddA X.K) := op_add.or (op_add_str.or (op_catS.or op_catA))
theorem str_app (s t : List Nat) : (⟨s.toArray⟩ : Str) ++ ⟨t.toArray⟩ = ⟨(s ++ t).toArray⟩ := by
  show (⟨s.toArray ++ t.toArray⟩ : Str) = _
  simp
theorem str_len (s : List Nat) : (⟨s.toArray⟩ : Str).length = s.length := by
  show s.toArray.size = _
  simp
section
variable {g : Gl}
theorem OpP.val {p : Option Addr} {F H : Hp} {Q : VK} {d : D} {v : V} (h : OpP g p F H Q (some d)) (e : Ext F H) (t : g.T H) (r : Rep g p F v d) : Q v H := h v F H (Gr.refl e t) r
theorem OpPO.val {p : Option Addr} {F H : Hp} {Q : VK} {d : D} {v : V} (h : OpPO g p F H Q (some (.val d))) (e : Ext F H) (t : g.T H) (r : Rep g p F v d) : Q v H := h v F H (Gr.refl e t) r
theorem OpPO.own {p : Option Addr} {F H : Hp} {Q : VK} {l : List D} {vs : List V} (h : OpPO g p F H Q (some (.own l))) (e : Ext F H) (t : g.T H) (r : Reps g p F vs l) : ∀ a, H a = none → Q (.ref a) (upd H a (.lst vs)) := fun a na =>
  h a vs F _ (Gr.lay e t na) r upd_same (by cases q : F a with
    | none => rfl
    | some o => rw [e a o q] at na; cases na) na
theorem OpPO.tup {p : Option Addr} {F H : Hp} {Q : VK} {l : List D} {vs : List V} (h : OpPO g p F H Q (some (.val (.tup l)))) (e : Ext F H) (t : g.T H) (r : Reps g p F vs l) : ∀ a, H a = none → Q (.ref a) (upd H a (.tup vs)) := fun a na =>
  h (.ref a) _ _ (Gr.new e t na) (.tup (.inl (.inl upd_same)) (r.mono (Gr.new (g := g) (p := none) e t na).ff))
theorem rop_add : ROpO g (rAddA g.K) dAdd := by
  intro p F H x y dx dy Q rx ry e t h
  unfold dAdd at h
  split at h
  · cases rx; cases ry
    exact .inl ⟨_, _, rfl, rfl, h.val e t (.int _)⟩
  · split at h
    · cases rx; cases ry
      refine .inr (.inl ⟨_, _, rfl, rfl, by rw [str_len, str_len]; assumption, ?_⟩)
      rw [str_app]
      exact h.val e t (.str _)
    · exact h.elim
  · split at h
    · cases rx with | lst h1 r1 => cases ry with | lst h2 r2 =>
      exact .inr (.inr (.inl ⟨_, _, _, _, rfl, rfl, ext_rd e h1, ext_rd e h2, by rw [r1.length, r2.length]; assumption, h.own e t (r1.append r2)⟩))
    · exact h.elim
  · split at h
    · cases rx with | tup h1 r1 => cases ry with | tup h2 r2 =>
      refine .inr (.inr (.inr ⟨_, _, _, _, rfl, rfl, ext_t e h1, ext_t e h2, by rw [r1.length, r2.length]; assumption, fun q => ?_, fun q1 q2 => ?_, fun q1 q2 => h.tup e t (r1.append r2)⟩))
      · subst q
        cases r1
        exact h.val e t (.tup h2 r2)
      · subst q2
        cases r2
        rw [List.append_nil] at h
        exact h.val e t (.tup h1 r1)
    · exact h.elim
  · exact h.elim
def dMul : D → D → Option SV
  | .int i, .int j => if i.natAbs.log2 + j.natAbs.log2 < 1000000 then some (.val (.int (i * j))) else none
  | .str s, .int k => if -(2 ^ 62) ≤ k ∧ k < 2 ^ 62 ∧ s.length ≤ sizeLine ∧ s.length * k.toNat ≤ sizeLine then some (.val (.str (repS k.toNat s))) else none
  | _, _ => none
def rMulA : R2 := fun x y H Q => rI CMulW (fun i j => .int (i * j)) x y H Q ∨ rMulS x y H Q
theorem op_mulA {X : Cx} : OpR X (binaryOp .Mult) rMulA := op_mulW.or op_mulS
theorem rop_mul : ROpO g rMulA dMul := by
  intro p F H x y dx dy Q rx ry e t h
  unfold dMul at h
  split at h
  · split at h
    · cases rx; cases ry
      exact .inl ⟨_, _, rfl, rfl, by assumption, h.val e t (.int _)⟩
    · exact h.elim
  · split at h
    · rename_i hk
      cases rx; cases ry
      refine .inr ⟨_, _, rfl, rfl, hk.1, hk.2.1, by rw [str_len]; exact hk.2.2.1, by rw [str_len]; exact hk.2.2.2, ?_⟩
      exact h.val e t (by simpa using Rep.str (repS _ _))
    · exact h.elim
  · exact h.elim
/-- int operations -/
def dI (C : Int → Int → Bool) (f : Int → Int → D) : D → D → Option D
  | .int i, .int j => if C i j = true then some (f i j) else none
  | _, _ => none
theorem rop_I {C : Int → Int → Prop} {C' : Int → Int → Bool} {gv : Int → Int → V} {f : Int → Int → D} (hC : ∀ i j, C' i j = true → C i j) (hf : ∀ p F i j, Rep g p F (gv i j) (f i j)) : ROp g (rI C gv) (dI C' f) := by
  intro p F H x y dx dy Q rx ry e t h
  unfold dI at h
  split at h
  · split at h
    · cases rx; cases ry
      exact ⟨_, _, rfl, rfl, hC _ _ (by assumption), h.val e t (hf _ _ _ _)⟩
    · exact h.elim
  · exact h.elim
theorem rop_I0 {gv : Int → Int → V} {f : Int → Int → D} (hf : ∀ p F i j, Rep g p F (gv i j) (f i j)) : ROp g (rI0 gv) (dI (fun _ _ => true) f) := by
  intro p F H x y dx dy Q rx ry e t h
  unfold dI at h
  split at h
  · cases rx; cases ry
    exact ⟨_, _, rfl, rfl, h.val e t (hf _ _ _ _)⟩
  · exact h.elim
def dSub : D → D → Option D := dI (fun _ _ => true) fun i j => .int (i - j)
def dMod : D → D → Option D := dI (fun _ j => decide (0 < j)) fun i j => .int (i % j)
def dDiv : D → D → Option D := dI (fun _ j => decide (0 < j ∧ j < 1073741824)) fun i j => .int (i / j)
def dPow : D → D → Option D := dI (fun i j => decide (0 ≤ j ∧ j ≤ 1000000 ∧ i.natAbs < 2 ^ 64)) fun i j => .int (i ^ j.toNat)
theorem rop_sub : ROp g (rI0 fun i j => .int (i - j)) dSub := rop_I0 fun _ _ _ _ => .int _
theorem rop_mod : ROp g (rI (fun _ j => 0 < j) fun i j => .int (i % j)) dMod := rop_I (fun i j h => by simpa using h) fun _ _ _ _ => .int _
theorem cdiv_of (i j : Int) (h : decide (0 < j ∧ j < 1073741824) = true) : CDiv i j := by unfold CDiv; exact of_decide_eq_true h
theorem cpow_of (i j : Int) (h : decide (0 ≤ j ∧ j ≤ 1000000 ∧ i.natAbs < 2 ^ 64) = true) : CPow i j := by unfold CPow; exact of_decide_eq_true h
theorem rop_div : ROp g (rI CDiv fun i j => .int (i / j)) dDiv := rop_I cdiv_of fun _ _ _ _ => .int _
theorem rop_pow : ROp g (rI CPow fun i j => .int (i ^ j.toNat)) dPow := rop_I cpow_of fun _ _ _ _ => .int _

/-! ### == and != -/
mutual
def toP : D → Option PyData
  | .non => some .none
  | .bl b => some (.bool b)
  | .int i => some (.int i)
  | .str s => some (.str ⟨s.toArray⟩)
  | .tup l => (toPs l).map .tuple
  | .lst l => (toPs l).map .list
  | _ => none
def toPs : List D → Option (List PyData)
  | [] => some []
  | d :: r => (toP d).bind fun x => (toPs r).map (x :: ·)
end
mutual
theorem dp_of {p : Option Addr} {F : Hp} : ∀ (d : D) (v : V) (q : PyData), Rep g p F v d → toP d = some q → Dp g.K F v q
  | .non, _, _, h, e => by cases h; cases e; exact .non
  | .bl b, _, _, h, e => by cases h; cases e; exact .bl b
  | .int i, _, _, h, e => by cases h; cases e; exact .int i
  | .str s, _, _, h, e => by cases h; cases e; exact .str _
  | .tup l, _, _, h, e => by
    cases h with
    | tup h1 r1 =>
      unfold toP at e
      obtain ⟨qs, e1, e2⟩ := Option.map_eq_some_iff.mp e
      subst e2
      exact .tup h1 (dps_of l _ _ r1 e1)
  | .lst l, _, _, h, e => by
    cases h with
    | lst h1 r1 =>
      unfold toP at e
      obtain ⟨qs, e1, e2⟩ := Option.map_eq_some_iff.mp e
      subst e2
      exact .lst (.inl h1) (dps_of l _ _ r1 e1)
  | .pile, _, _, h, e => by unfold toP at e; cases e
  | .exc _ _, _, _, h, e => by unfold toP at e; cases e
  | .clo _ _, _, _, h, e => by unfold toP at e; cases e
  | .obj _, _, _, h, e => by unfold toP at e; cases e
  | .ty _, _, _, h, e => by unfold toP at e; cases e
  | .cls _, _, _, h, e => by unfold toP at e; cases e
  | .kst _, _, _, h, e => by unfold toP at e; cases e
theorem dps_of {p : Option Addr} {F : Hp} : ∀ (l : List D) (vs : List V) (qs : List PyData), Reps g p F vs l → toPs l = some qs → DpAll g.K F vs qs
  | [], _, _, h, e => by cases h; cases e; exact .nil
  | d :: r, _, _, h, e => by
    cases h with
    | cons h1 h2 =>
      unfold toPs at e
      obtain ⟨x, e1, e2⟩ := Option.bind_eq_some_iff.mp e
      obtain ⟨xs, e3, e4⟩ := Option.map_eq_some_iff.mp e2
      subst e4
      exact .cons (dp_of d _ _ h1 e1) (dps_of r _ _ h2 e3)
end
mutual
theorem Dp.mono {K : PySem.W.Frag} {F F' : Hp} (e : Ext F F') : ∀ {v : V} {d : PyData}, Dp K F v d → Dp K F' v d
  | _, _, .non => .non
  | _, _, .bl b => .bl b
  | _, _, .int i => .int i
  | _, _, .str x => .str x
  | _, _, .lst h r => .lst (ext_l e h) (DpAll.mono e r)
  | _, _, .tup h r => .tup (ext_t e h) (DpAll.mono e r)
theorem DpAll.mono {K : PySem.W.Frag} {F F' : Hp} (e : Ext F F') : ∀ {v : List V} {d : List PyData}, DpAll K F v d → DpAll K F' v d
  | _, _, .nil => .nil
  | _, _, .cons h r => .cons (Dp.mono e h) (DpAll.mono e r)
end
/-- equality as Python has it -/
def dEq (x y : D) : Option Bool := (toP x).bind fun a => (toP y).bind fun b => if SeqAt.shaped a = true ∧ SeqAt.shaped b = true then some (PyData.eqv a b) else none
def dEqv (x y : D) : Option D := (dEq x y).map .bl
def dNev (x y : D) : Option D := (dEq x y).map fun b => .bl (!b)
theorem dEq_some {x y : D} {k : Bool} (h : dEq x y = some k) : ∃ a b, toP x = some a ∧ toP y = some b ∧ SeqAt.shaped a = true ∧ SeqAt.shaped b = true ∧ k = PyData.eqv a b := by
  unfold dEq at h
  obtain ⟨a, e1, e2⟩ := Option.bind_eq_some_iff.mp h
  obtain ⟨b, e3, e4⟩ := Option.bind_eq_some_iff.mp e2
  split at e4
  · rename_i hs
    exact ⟨a, b, e1, e3, hs.1, hs.2, (Option.some.inj e4).symm⟩
  · cases e4
theorem rop_eq : ROp g (rEqD g.K) dEqv := by
  intro p F H x y dx dy Q rx ry e t h
  unfold dEqv at h
  cases q : dEq dx dy with
  | none => rw [q] at h; exact h.elim
  | some k =>
    rw [q] at h
    obtain ⟨a, b, e1, e2, s1, s2, rfl⟩ := dEq_some q
    exact ⟨a, b, Dp.mono e (dp_of dx x a rx e1), Dp.mono e (dp_of dy y b ry e2), s1, s2, OpP.val (d := .bl _) h e t (.bl _)⟩
theorem rop_ne : ROp g (rNeD g.K) dNev := by
  intro p F H x y dx dy Q rx ry e t h
  unfold dNev at h
  cases q : dEq dx dy with
  | none => rw [q] at h; exact h.elim
  | some k =>
    rw [q] at h
    obtain ⟨a, b, e1, e2, s1, s2, rfl⟩ := dEq_some q
    exact ⟨a, b, Dp.mono e (dp_of dx x a rx e1), Dp.mono e (dp_of dy y b ry e2), s1, s2, OpP.val (d := .bl _) h e t (.bl _)⟩
/-! ### order, in, is -/
def dLt : D → D → Option D
  | .int i, .int j => some (.bl (decide (i < j)))
  | .str s, .str t => some (.bl (decide (s < t)))
  | _, _ => none
def rLtA : R2 := fun x y H Q => rI0 (fun i j => .bl (decide (i < j))) x y H Q ∨ (∃ i j, x = .str i ∧ y = .str j ∧ Q (.bl (decide (i.cps.toList < j.cps.toList))) H)
theorem op_ltA {X : Cx} : OpR X (compareOp .Lt) rLtA := op_lt.or op_lt_str
theorem rop_lt : ROp g rLtA dLt := by
  intro p F H x y dx dy Q rx ry e t h
  unfold dLt at h
  split at h
  · cases rx; cases ry
    exact .inl ⟨_, _, rfl, rfl, h.val e t (.bl _)⟩
  · cases rx; cases ry
    refine .inr ⟨_, _, rfl, rfl, ?_⟩
    exact h.val e t (by simpa using Rep.bl _)
  · exact h.elim
def dLe : D → D → Option D := dI (fun _ _ => true) fun i j => .bl (decide (i ≤ j))
def dGt : D → D → Option D := dI (fun _ _ => true) fun i j => .bl (decide (j < i))
def dGe : D → D → Option D := dI (fun _ _ => true) fun i j => .bl (decide (j ≤ i))
theorem rop_le : ROp g (rI0 fun i j => .bl (decide (i ≤ j))) dLe := rop_I0 fun _ _ _ _ => .bl _
theorem rop_gt : ROp g (rI0 fun i j => .bl (decide (j < i))) dGt := rop_I0 fun _ _ _ _ => .bl _
theorem rop_ge : ROp g (rI0 fun i j => .bl (decide (j ≤ i))) dGe := rop_I0 fun _ _ _ _ => .bl _
/-- what may stand in a list that is searched -/
def dFlat : D → Bool
  | .non => true
  | .bl _ => true
  | .int _ => true
  | .str _ => true
  | _ => false
def dEqF : D → D → Bool
  | .non, .non => true
  | .bl a, .bl b => a == b
  | .bl a, .int j => (if a then 1 else 0) == j
  | .int i, .bl b => i == (if b then 1 else 0)
  | .int i, .int j => i == j
  | .str x, .str y => x == y
  | _, _ => false
def dInL (x : D) (l : List D) : Bool := l.any fun y => dEqF y x
theorem flat_rep {p : Option Addr} {F : Hp} {v : V} {d : D} (r : Rep g p F v d) (h : dFlat d = true) : flatV v = true := by
  cases d <;> first | (cases h; done) | (cases r; rfl)
theorem str_beq (x y : List Nat) : ((⟨x.toArray⟩ : Str) == ⟨y.toArray⟩) = (x == y) := by
  by_cases h : x = y
  · subst h; simp
  · have h1 : ¬ ((⟨x.toArray⟩ : Str) = ⟨y.toArray⟩) := fun e => h (by
      have := congrArg (fun z : Str => z.cps.toList) e
      simpa using this)
    rw [beq_eq_false_iff_ne.mpr h1, beq_eq_false_iff_ne.mpr h]
theorem eqF_rep {p : Option Addr} {F : Hp} {v w : V} {d e : D} (r : Rep g p F v d) (q : Rep g p F w e) (h : dFlat d = true) (h' : dFlat e = true) : eqV v w = dEqF d e := by
  cases d <;> first | (cases h; done) | (cases e <;> first | (cases h'; done) | (cases r; cases q; first | rfl | exact str_beq _ _))
theorem flats_rep {p : Option Addr} {F : Hp} : ∀ {vs : List V} {l : List D}, Reps g p F vs l → l.all dFlat = true → vs.all flatV = true
  | _, _, .nil, _ => rfl
  | _, _, .cons r t, h => by
    rw [List.all_cons, Bool.and_eq_true] at h ⊢
    exact ⟨flat_rep r h.1, flats_rep t h.2⟩
theorem in_rep {p : Option Addr} {F : Hp} {v : V} {x : D} (rv : Rep g p F v x) (hx : dFlat x = true) : ∀ {vs : List V} {l : List D}, Reps g p F vs l → l.all dFlat = true → inV v vs = dInL x l
  | _, _, .nil, _ => rfl
  | _, _, .cons r t, h => by
    rw [List.all_cons, Bool.and_eq_true] at h
    have ih := in_rep rv hx t h.2
    unfold inV dInL at ih ⊢
    rw [List.any_cons, List.any_cons, ih, eqF_rep r rv h.1 hx]
def dIn (neg : Bool) : D → D → Option D
  | .str [c], .str s => some (.bl (if neg then !decide (c ∈ s) else decide (c ∈ s)))
  | x, .lst l => if dFlat x = true ∧ l.all dFlat = true then some (.bl (if neg then !dInL x l else dInL x l)) else none
  | x, .tup l => if dFlat x = true ∧ l.all dFlat = true then some (.bl (if neg then !dInL x l else dInL x l)) else none
  | _, _ => none
def rInA (K : PySem.W.Frag) (neg : Bool) : R2 := fun x y H Q => (∃ (c : Nat) (z : Str), x = .str ⟨#[c]⟩ ∧ y = .str z ∧ Q (.bl (if neg then !decide (c ∈ z.cps.toList) else decide (c ∈ z.cps.toList))) H) ∨ rIn K neg x y H Q
theorem op_inA {X : Cx} : OpR X (compareOp .In) (rInA X.K false) := OpR.or op_in_sign op_in_seq
theorem op_notInA {X : Cx} : OpR X (compareOp .NotIn) (rInA X.K true) := OpR.or op_notIn_sign op_notIn_seq
theorem rop_in {neg : Bool} : ROp g (rInA g.K neg) (dIn neg) := by
  intro p F H x y dx dy Q rx ry e t h
  unfold dIn at h
  split at h
  · cases rx; cases ry
    refine .inl ⟨_, _, rfl, rfl, ?_⟩
    exact h.val e t (by simpa using Rep.bl _)
  · split at h
    · rename_i hf
      cases ry with | lst h1 r1 =>
      refine .inr ⟨_, _, rfl, .inl (.inl (ext_rd e h1)), flat_rep rx hf.1, flats_rep r1 hf.2, ?_⟩
      rw [in_rep rx hf.1 r1 hf.2]
      exact h.val e t (.bl _)
    · exact h.elim
  · split at h
    · rename_i hf
      cases ry with | tup h1 r1 =>
      refine .inr ⟨_, _, rfl, .inr (ext_t e h1), flat_rep rx hf.1, flats_rep r1 hf.2, ?_⟩
      rw [in_rep rx hf.1 r1 hf.2]
      exact h.val e t (.bl _)
    · exact h.elim
  · exact h.elim
/-- is None, is True, is False -/
def dIsN (neg : Bool) : D → D → Option D
  | .pile, .non => none
  | .non, .non => some (.bl (!neg))
  | _, .non => some (.bl neg)
  | _, _ => none
theorem rop_isN : ROp g (fun x y H Q => y = .non ∧ Q (.bl (decide (x = .non))) H) (dIsN false) := by
  intro p F H x y dx dy Q rx ry e t h
  unfold dIsN at h
  split at h
  · exact h.elim
  · cases rx; cases ry
    exact ⟨rfl, h.val e t (.bl _)⟩
  · rename_i hn
    cases ry
    refine ⟨rfl, ?_⟩
    have : decide (x = V.non) = false := by
      apply decide_eq_false
      intro z; subst z
      cases rx
      exact hn rfl
    rw [this]
    exact h.val e t (.bl _)
  · exact h.elim
theorem rop_notN : ROp g (fun x y H Q => y = .non ∧ Q (.bl (!decide (x = .non))) H) (dIsN true) := by
  intro p F H x y dx dy Q rx ry e t h
  unfold dIsN at h
  split at h
  · exact h.elim
  · cases rx; cases ry
    exact ⟨rfl, h.val e t (.bl _)⟩
  · rename_i hn
    cases ry
    refine ⟨rfl, ?_⟩
    have : decide (x = V.non) = false := by
      apply decide_eq_false
      intro z; subst z
      cases rx
      exact hn rfl
    rw [this]
    exact h.val e t (.bl _)
  · exact h.elim
def dIsB (neg : Bool) : D → D → Option D
  | .bl a, .bl b => some (.bl (if neg then !decide (a = b) else decide (a = b)))
  | _, _ => none
theorem rop_isB : ROp g rIsB (dIsB false) := by
  intro p F H x y dx dy Q rx ry e t h
  unfold dIsB at h
  split at h
  · cases rx; cases ry
    exact ⟨_, _, rfl, rfl, h.val e t (.bl _)⟩
  · exact h.elim
theorem rop_notB : ROp g rNotB (dIsB true) := by
  intro p F H x y dx dy Q rx ry e t h
  unfold dIsB at h
  split at h
  · cases rx; cases ry
    exact ⟨_, _, rfl, rfl, h.val e t (.bl _)⟩
  · exact h.elim

/-! ### items -/
def dIx : D → D → Option D
  | .lst l, .int i => atI l i
  | .tup l, .int i => atI l i
  | .kst l, .int i => atI l i
  | .str s, .int i => if s.length ≤ sizeLine then (atI s i).map fun c => .str [c] else none
  | _, _ => none
theorem atI_reps {p : Option Addr} {F : Hp} {vs : List V} {l : List D} {i : Int} {d : D} (r : Reps g p F vs l) (h : atI l i = some d) : ∃ v, atI vs i = some v ∧ Rep g p F v d := by
  unfold atI at h ⊢
  rw [r.length]
  obtain ⟨j, e1, e2⟩ := Option.bind_eq_some_iff.mp h
  rw [e1]
  exact r.get e2
theorem rop_ix : ROp g (rIx g.K) dIx := by
  intro p F H x y dx dy Q rx ry e t h
  unfold dIx at h
  split at h
  · rename_i l i
    cases q : atI l i with
    | none => rw [q] at h; exact h.elim
    | some d =>
      rw [q] at h
      cases rx with | lst h1 r1 =>
      cases ry
      obtain ⟨v, hv, rv⟩ := atI_reps r1 q
      exact .inl ⟨_, _, _, v, rfl, rfl, .inl (ext_rd e h1), hv, h.val e t rv⟩
  · rename_i l i
    cases q : atI l i with
    | none => rw [q] at h; exact h.elim
    | some d =>
      rw [q] at h
      cases rx with | tup h1 r1 =>
      cases ry
      obtain ⟨v, hv, rv⟩ := atI_reps r1 q
      exact .inr (.inl ⟨_, _, _, v, rfl, rfl, ext_t e h1, hv, h.val e t rv⟩)
  · rename_i l i
    cases q : atI l i with
    | none => rw [q] at h; exact h.elim
    | some d =>
      rw [q] at h
      cases rx with | kst h1 r1 =>
      cases ry
      obtain ⟨v, hv, rv⟩ := atI_reps r1 q
      exact .inl ⟨_, _, _, v, rfl, rfl, ext_l e h1, hv, h.val e t rv⟩
  · rename_i s i
    split at h
    · rename_i hl
      cases q : atI s i with
      | none => rw [q] at h; exact h.elim
      | some c =>
        rw [q] at h
        cases rx; cases ry
        exact .inr (.inr ⟨_, _, c, rfl, rfl, by rw [str_len]; exact hl, by simpa using q, OpP.val (d := .str [c]) h e t (.str [c])⟩)
    · exact h.elim
  · exact h.elim
end
section
variable {g : Gl} {X : Cx} {W : WX} {a b : Expr} {ma mb : EM} {pos : Pos}
theorem de_ix (ha : DE g X W a ma) (hb : DE g X W b mb) (hs : PlainIx b := by intro _ _; rfl) (hK : X.K = g.K := by rfl) : DE g X W (.Subscript a b pos) (mBin dIx ma mb) := by
  obtain ⟨ta, a1, a2⟩ := ha
  obtain ⟨tb, b1, b2⟩ := hb
  refine ⟨_, pe_ix ix_seq a1 b1 hs, ?_⟩
  rw [hK]
  exact sim_bin rop_ix a2 b2
/-- a name of the def is the first: its list isn't frozen by that -/
def getB (s : S) (i : Nat) : Option D := match s.sl[i]? with
  | some (.val d) => some d
  | some (.own l) => some (.lst l)
  | _ => none
/-- v stands for d now -/
def RepH (g : Gl) (p : Option Addr) (F H : Hp) (v : V) (d : D) : Prop := Rep g p F v d ∨ ∃ a vs l, v = .ref a ∧ d = .lst l ∧ H a = some (.lst vs) ∧ Reps g p F vs l
theorem Rel.getB {p : Option Addr} {H0 F0 : Hp} {A : List Addr} {F : Hp} {s : S} {σ : L2.St} {H : Hp} {i : Nat} {d : D} (Y : Rel g p H0 F0 A F s σ H) (h : Pd.getB s i = some d) : ∃ v, σ[i]? = some (some v) ∧ RepH g p F H v d := by
  unfold Pd.getB at h
  split at h
  · rename_i q
    cases h
    obtain ⟨v, h1, r⟩ := Y.var q
    exact ⟨v, h1, .inl r⟩
  · rename_i q
    cases h
    obtain ⟨a, vs, h1, _, h3, r⟩ := Y.sl.getOwn q
    exact ⟨_, h1, .inr ⟨a, vs, _, rfl, rfl, h3, r⟩⟩
  · cases h
/-- x[i], x a name -/
def ixAt (i : Nat) (y : D) (s1 : S) : R D := match getB s1 i with
  | some .pile => (match y with
    | .int 0 => .ok (.int s1.pile) s1
    | _ => .stuck)
  | some d => R.of (dIx d y) s1
  | none => .stuck
def mIxV (i : Nat) (b : EM) : EM := fun s => match getB s i with
  | none => .stuck
  | some _ => (b s).bind (ixAt i)
theorem de_ixV {i : Nat} (ha : PE X a (tVar i)) (hb : DE g X W b mb) (hs : PlainIx b := by intro _ _; rfl) (hK : X.K = g.K := by rfl) : DE g X W (.Subscript a b pos) (mIxV i mb) := by
  obtain ⟨tb, b1, b2⟩ := hb
  refine ⟨_, pe_ix ix_seq ha b1 hs, fun p H0 F0 A F s σ H Q Y hp => ?_⟩
  unfold mIxV at hp
  cases q0 : Pd.getB s i with
  | none => rw [q0] at hp; exact hp.elim
  | some d0 =>
    rw [q0] at hp
    obtain ⟨v, hv, _⟩ := Y.getB q0
    refine ⟨v, hv, b2 p H0 F0 A F s σ H _ Y (Post.bind (k := ixAt i) hp fun y s1 w F1 H1 A1 Y1 e1 r1 hp1 => ?_)⟩
    unfold ixAt at hp1
    cases q : Pd.getB s1 i with
    | none => rw [q] at hp1; exact hp1.elim
    | some d =>
      obtain ⟨v', hv', rv⟩ := Y1.getB q
      have ev : v' = v := Option.some.inj (Option.some.inj (hv'.symm.trans hv))
      subst ev
      rw [hK]
      have gen : d ≠ .pile → rIx g.K v' w H1 Q := fun hd => by
        have hp2 : Post g W (RepV g) p H0 F0 F1 σ Q (R.of (dIx d y) s1) := by
          rw [q] at hp1
          cases d <;> first | exact hp1 | exact absurd rfl hd
        rcases rv with rv | ⟨a, vs, l, rfl, rfl, h3, rl⟩
        · exact rop_ix p F1 H1 v' w d y Q rv r1 Y1.ext Y1.tb (Post.of Y1 hp2)
        · have hp3 := Post.of Y1 hp2
          unfold dIx at hp3
          cases y <;> first | exact hp3.elim | skip
          rename_i j
          simp only at hp3
          cases q2 : atI l j with
          | none => rw [q2] at hp3; exact hp3.elim
          | some dd =>
            rw [q2] at hp3
            cases r1
            obtain ⟨z, hz, rz⟩ := atI_reps rl q2
            exact .inl ⟨_, _, _, z, rfl, rfl, .inl (.inl h3), hz, hp3.val Y1.ext Y1.tb rz⟩
      cases d with
      | pile =>
        rw [q] at hp1
        cases y <;> first | exact hp1.elim | skip
        rename_i j
        by_cases hj : j = 0
        · subst hj
          rcases rv with rv | ⟨a, vs, l, _, e, _⟩
          · cases rv with
            | pile hpa =>
              cases r1
              obtain ⟨k1, k2⟩ := Y1.pl.1 _ hpa
              exact .inl ⟨_, _, _, _, rfl, rfl, .inl (.inl k2), rfl, hp1 _ F1 H1 A1 Y1 (Ext.refl _) (.int _)⟩
          · cases e
        · simp only at hp1
          split at hp1
          · rename_i e; cases e; exact absurd rfl hj
          · exact hp1.elim
      | _ => exact gen (by intro z; cases z)

/-! ### slices -/
def cutD {α : Type} (xs : List α) (lo hi : Option Int) : List α := (xs.drop (HT.sIx xs.length 0 lo)).take (HT.sIx xs.length xs.length hi - HT.sIx xs.length 0 lo)
def dSl : D → Option Int → Option Int → Option SV
  | .lst l, lo, hi => some (.own (cutD l lo hi))
  | .tup l, lo, hi => some (.val (.tup (cutD l lo hi)))
  | .str s, lo, hi => if s.length ≤ sizeLine then some (.val (.str (cutD s lo hi))) else none
  | _, _, _ => none
def rSlAll (K : PySem.W.Frag) : V → Option Int → Option Int → Hp → VK → Prop := fun x lo hi H Q => rSlS x lo hi H Q ∨ rSlL K x lo hi H Q ∨ rSlA K x lo hi H Q
theorem sl_all : SlR X (rSlAll X.K) := sl_str.or (sl_list.or sl_tupA)
theorem reps_cut {p : Option Addr} {F : Hp} {vs : List V} {l : List D} (r : Reps g p F vs l) (lo hi : Option Int) : Reps g p F (cutV vs lo hi) (cutD l lo hi) := by
  unfold cutV cutD
  rw [r.length]
  exact (r.drop _).take _
/-- a part of a slice -/
def PO' (g : Gl) (X : Cx) (W : WX) (e : Option Expr) (m : S → R (Option Int)) : Prop := ∃ t, PO X e t ∧ Sim g W (fun _ _ b a => b = a) t m
def pNone : S → R (Option Int) := fun s => .ok none s
def pSome (m : EM) : S → R (Option Int) := fun s => (m s).bind fun d s1 => match d with
  | .int i => .ok (some i) s1
  | _ => .stuck
theorem dpo_none : PO' g X W none pNone := ⟨_, po_none, fun p H0 F0 A F s σ H Q Y hp => hp none F H A Y (Ext.refl _) rfl⟩
theorem dpo_some (h : DE g X W a ma) : PO' g X W (some a) (pSome ma) := by
  obtain ⟨t, a1, a2⟩ := h
  refine ⟨_, po_some a1, fun p H0 F0 A F s σ H Q Y hp => a2 p H0 F0 A F s σ H _ Y (hp.bind fun d s1 v F1 H1 A1 Y1 e1 r1 hp1 => ?_)⟩
  cases d with
  | int i => cases r1; exact ⟨i, rfl, hp1 (some i) F1 H1 A1 Y1 (Ext.refl _) rfl⟩
  | _ => exact hp1.elim
def oSl (m : EM) (lo hi : S → R (Option Int)) : OM := fun s => (m s).bind fun x s1 => (lo s1).bind fun l s2 => (hi s2).bind fun h s3 => R.of ((dSl x l h).bind good1) s3
theorem do_sl {lo hi : Option Expr} {ml mh : S → R (Option Int)} {p2 : Pos} (ha : DE g X W a ma) (hl : PO' g X W lo ml) (hh : PO' g X W hi mh) (hK : X.K = g.K := by rfl) : DO g X W (.Subscript a (.Slice lo hi none p2) pos) (oSl ma ml mh) := by
  obtain ⟨t, a1, a2⟩ := ha
  obtain ⟨tl, l1, l2⟩ := hl
  obtain ⟨th, h1, h2⟩ := hh
  refine ⟨_, pe_slice sl_all a1 l1 h1, fun p H0 F0 A F s σ H Q Y hp => a2 p H0 F0 A F s σ H _ Y (PostO.bind hp fun d s1 v F1 H1 A1 Y1 e1 r1 hp1 => ?_)⟩
  refine l2 p H0 F0 A1 F1 s1 σ H1 _ Y1 (PostO.bind hp1 fun l s2 l' F2 H2 A2 Y2 e2 r2 hp2 => ?_)
  subst r2
  refine h2 p H0 F0 A2 F2 s2 σ H2 _ Y2 (PostO.bind hp2 fun u s3 u' F3 H3 A3 Y3 e3 r3 hp3 => ?_)
  subst r3
  have hp4 := PostO.of Y3 hp3
  have r4 := r1.mono (e2.trans e3)
  rw [hK]
  cases d with
  | lst xs => cases r4 with | lst k1 k2 => exact .inr (.inl ⟨_, _, rfl, .inl (ext_rd Y3.ext k1), hp4.own Y3.ext Y3.tb (reps_cut k2 _ _)⟩)
  | tup xs =>
    cases r4 with
    | tup k1 k2 =>
      refine .inr (.inr ⟨_, _, rfl, ext_t Y3.ext k1, fun hw => ?_, fun _ => hp4.tup Y3.ext Y3.tb (reps_cut k2 _ _)⟩)
      have ew : cutD xs l' u' = xs := by
        rw [k2.length] at hw
        unfold cutD
        rw [hw.1, hw.2, List.drop_zero, Nat.sub_zero]
        exact List.take_length
      have hp4 : OpPO g p F3 H3 Q (some (.val (.tup (cutD xs l' u')))) := hp4
      rw [ew] at hp4
      exact hp4.val Y3.ext Y3.tb (.tup k1 k2)
  | str z =>
    cases r4
    have hp5 : OpPO g p F3 H3 Q (if z.length ≤ sizeLine then some (.val (.str (cutD z l' u'))) else none) := hp4
    split at hp5
    · rename_i hz
      refine .inl ⟨_, rfl, by rw [str_len]; exact hz, ?_⟩
      have es : cutS (⟨z.toArray⟩ : Str) l' u' = ⟨(cutD z l' u').toArray⟩ := by
        unfold cutS cutD
        rw [str_len]
      rw [es]
      exact hp5.val Y3.ext Y3.tb (.str _)
    · exact hp5.elim
  | _ => exact hp4.elim
end
end Pd

/-! Pd, part G: built-ins, methods of lists, the pile handed on, walks. -/
namespace Pd
open PySem PySem.Spec PyProof.Rows L2

/-! ### built-ins of one argument: a list of one's own may be looked at -/
def RC1 (g : Gl) (r : List V → Hp → VK → Prop) (f : D → Option SV) : Prop := ∀ (p : Option Addr) (F H : Hp) (v : V) (d : D) (Q : VK), RepH g p F H v d → Ext F H → g.T H → OpPO g p F H Q (f d) → r [v] H Q
def oB1 (f : D → Option SV) (m : EM) : OM := fun s => (m s).bind fun d s1 => R.of ((f d).bind good1) s1
def oB1V (f : D → Option SV) (i : Nat) : OM := fun s => match getB s i with
  | some d => R.of ((f d).bind good1) s
  | none => .stuck
/-- built-ins of several -/
def RCn (g : Gl) (r : List V → Hp → VK → Prop) (f : List D → Option SV) : Prop := ∀ (p : Option Addr) (F H : Hp) (vs : List V) (ds : List D) (Q : VK), Reps g p F vs ds → Ext F H → g.T H → OpPO g p F H Q (f ds) → r vs H Q
def oBn (f : List D → Option SV) (m : AM) : OM := fun s => (m s).bind fun ds s1 => R.of ((f ds).bind good1) s1
section
variable {g : Gl} {X : Cx} {W : WX} {e : Expr} {es : List Expr} {m : EM} {ms : AM} {pos p' : Pos} {x : Str} {id T : String} {r : List V → Hp → VK → Prop} {f : D → Option SV} {fn : List D → Option SV}
theorem simO_1 {te : TE} (hr : RC1 g r f) (h : Sim g W (RepV g) te m) : SimO g W (tCB r (tCons te tNil)) (oB1 f m) := by
  intro p H0 F0 A F s σ H Q Y hp
  exact h p H0 F0 A F s σ H _ Y (PostO.bind hp fun d s1 v F1 H1 A1 Y1 e1 r1 hp1 => hr p F1 H1 v d Q (.inl r1) Y1.ext Y1.tb (PostO.of Y1 hp1))
theorem simO_1V {i : Nat} (hr : RC1 g r f) : SimO g W (tCB r (tCons (tVar i) tNil)) (oB1V f i) := by
  intro p H0 F0 A F s σ H Q Y hp
  unfold oB1V at hp
  cases q : Pd.getB s i with
  | none => rw [q] at hp; exact hp.elim
  | some d =>
    rw [q] at hp
    obtain ⟨v, hv, rv⟩ := Y.getB q
    exact ⟨v, hv, hr p F H v d Q rv Y.ext Y.tb (PostO.of Y hp)⟩
theorem simO_n {ta : TA} (hr : RCn g r fn) (h : Sim g W (RepA g) ta ms) : SimO g W (tCB r ta) (oBn fn ms) := by
  intro p H0 F0 A F s σ H Q Y hp
  exact h p H0 F0 A F s σ H _ Y (PostO.bind hp fun d s1 v F1 H1 A1 Y1 e1 r1 hp1 => hr p F1 H1 v d Q r1 Y1.ext Y1.tb (PostO.of Y1 hp1))
theorem do_b1 (hc : CallR X (.builtin id) r) (hr : RC1 g r f) (hg : L2.Gl X x) (hm : X.mg x = none) (hv : bootBuiltins x = some (.builtin id)) (h : DE g X W e m) (hn : x ≠ "__name__" := by decide) (hdb : (x == ("__debug__" : Str)) = false := by decide)
    (he : starEach [e] X.env = (false, eval e X.env) :: starEach [] X.env := by rfl) (hpl : (backTo pos (starEach [] X.env)).any (·.1) = false := by rfl) : DO g X W (.Call (.Name x p') [e] [] pos) (oB1 f m) := by
  obtain ⟨t, a1, a2⟩ := h
  exact ⟨_, pe_callB hc hg hm hv (pa_cons a1 pa_nil he) hn hdb he hpl, simO_1 hr a2⟩
theorem do_b1V {i : Nat} (hc : CallR X (.builtin id) r) (hr : RC1 g r f) (hg : L2.Gl X x) (hm : X.mg x = none) (hv : bootBuiltins x = some (.builtin id)) (h : PE X e (tVar i)) (hn : x ≠ "__name__" := by decide) (hdb : (x == ("__debug__" : Str)) = false := by decide)
    (he : starEach [e] X.env = (false, eval e X.env) :: starEach [] X.env := by rfl) (hpl : (backTo pos (starEach [] X.env)).any (·.1) = false := by rfl) : DO g X W (.Call (.Name x p') [e] [] pos) (oB1V f i) :=
  ⟨_, pe_callB hc hg hm hv (pa_cons h pa_nil he) hn hdb he hpl, simO_1V hr⟩
theorem do_t1 (hc : CallR X (.type T) r) (hr : RC1 g r f) (hg : L2.Gl X x) (hm : X.mg x = none) (hv : bootBuiltins x = some (.type T)) (h : DE g X W e m) (hn : x ≠ "__name__" := by decide) (hdb : (x == ("__debug__" : Str)) = false := by decide)
    (he : starEach [e] X.env = (false, eval e X.env) :: starEach [] X.env := by rfl) (hpl : (backTo pos (starEach [] X.env)).any (·.1) = false := by rfl) : DO g X W (.Call (.Name x p') [e] [] pos) (oB1 f m) := by
  obtain ⟨t, a1, a2⟩ := h
  exact ⟨_, pe_callTy hc hg hm hv (pa_cons a1 pa_nil he) hn hdb he hpl, simO_1 hr a2⟩
theorem do_t1V {i : Nat} (hc : CallR X (.type T) r) (hr : RC1 g r f) (hg : L2.Gl X x) (hm : X.mg x = none) (hv : bootBuiltins x = some (.type T)) (h : PE X e (tVar i)) (hn : x ≠ "__name__" := by decide) (hdb : (x == ("__debug__" : Str)) = false := by decide)
    (he : starEach [e] X.env = (false, eval e X.env) :: starEach [] X.env := by rfl) (hpl : (backTo pos (starEach [] X.env)).any (·.1) = false := by rfl) : DO g X W (.Call (.Name x p') [e] [] pos) (oB1V f i) :=
  ⟨_, pe_callTy hc hg hm hv (pa_cons h pa_nil he) hn hdb he hpl, simO_1V hr⟩
theorem do_bn (hc : CallR X (.builtin id) r) (hr : RCn g r fn) (hg : L2.Gl X x) (hm : X.mg x = none) (hv : bootBuiltins x = some (.builtin id)) (h : DA g X W (e :: es) ms) (hn : x ≠ "__name__" := by decide) (hdb : (x == ("__debug__" : Str)) = false := by decide)
    (he : starEach (e :: es) X.env = (false, eval e X.env) :: starEach es X.env := by rfl) (hpl : (backTo pos (starEach es X.env)).any (·.1) = false := by rfl) : DO g X W (.Call (.Name x p') (e :: es) [] pos) (oBn fn ms) := by
  obtain ⟨t, a1, a2⟩ := h
  exact ⟨_, pe_callB hc hg hm hv a1 hn hdb he hpl, simO_n hr a2⟩
theorem de_ty {n : String} (hg : L2.Gl X x) (hm : X.mg x = none) (hv : bootBuiltins x = some (.type n)) (hn : x ≠ "__name__" := by decide) (hdb : (x == ("__debug__" : Str)) = false := by decide) : DE g X W (.Name x pos) (mC (.ty n)) :=
  de_c (pe_bltn (v := .ty n) hg hm hv rfl hn hdb) fun _ _ => .ty n
/-- a module's constant -/
theorem de_glob {v : V} {u : Value} {d : D} (hg : L2.Gl X x) (hm : X.mg x = some u) (rv : RelV v u) (r : ∀ p F, Rep g p F v d) (hdb : (x == ("__debug__" : Str)) = false := by decide) : DE g X W (.Name x pos) (mC d) :=
  de_c (pe_glob hg hm rv hdb) r
end
section
variable {g : Gl}
theorem RepH.lst {p : Option Addr} {F H : Hp} {v : V} {l : List D} (h : RepH g p F H v (.lst l)) (e : Ext F H) : ∃ a vs, v = .ref a ∧ Rd H a (.lst vs) ∧ Reps g p F vs l := by
  rcases h with h | ⟨a, vs, l', rfl, e1, h1, h2⟩
  · cases h with | lst h1 r1 => exact ⟨_, _, rfl, ext_rd e h1, r1⟩
  · cases e1; exact ⟨a, vs, rfl, .inl h1, h2⟩
theorem RepH.rep {p : Option Addr} {F H : Hp} {v : V} {d : D} (h : RepH g p F H v d) (n : ∀ l, d ≠ .lst l) : Rep g p F v d := by
  rcases h with h | ⟨a, vs, l', rfl, e1, h1, h2⟩
  · exact h
  · exact absurd e1 (n l')
/-- len -/
def dLen : D → Option SV
  | .lst l => some (.val (.int l.length))
  | .tup l => some (.val (.int l.length))
  | .kst l => some (.val (.int l.length))
  | .str s => if s.length ≤ sizeLine then some (.val (.int s.length)) else none
  | _ => none
theorem rc_len : RC1 g (fun xs H Q => ∃ x n, xs = [x] ∧ LenV g.K x H n ∧ Q (.int n) H) dLen := by
  intro p F H v d Q r e t h
  cases d with
  | lst l =>
    obtain ⟨a, vs, rfl, h1, r1⟩ := r.lst e
    refine ⟨_, _, rfl, .inl ⟨vs, .inl h1, rfl⟩, ?_⟩
    rw [r1.length]
    exact OpPO.val (d := .int _) h e t (.int _)
  | tup l =>
    cases r.rep (by intro l h; cases h) with | tup h1 r1 =>
    refine ⟨_, _, rfl, .inr ⟨_, ext_t e h1, rfl⟩, ?_⟩
    rw [r1.length]
    exact OpPO.val (d := .int _) h e t (.int _)
  | kst l =>
    cases r.rep (by intro l h; cases h) with | kst h1 r1 =>
    refine ⟨_, _, rfl, .inl ⟨_, ext_l e h1, rfl⟩, ?_⟩
    rw [r1.length]
    exact OpPO.val (d := .int _) h e t (.int _)
  | str s =>
    cases r.rep (by intro l h; cases h)
    have h : OpPO g p F H Q (if s.length ≤ sizeLine then some (.val (.int s.length)) else none) := h
    split at h
    · rename_i hl
      refine ⟨_, _, rfl, ⟨by rw [str_len]; exact hl, rfl⟩, ?_⟩
      rw [str_len]
      exact h.val e t (.int _)
    · exact h.elim
  | _ => exact h.elim
def dInt : D → Option SV
  | .int i => some (.val (.int i))
  | .bl k => some (.val (.int (if k = true then 1 else 0)))
  | _ => none
theorem rc_int : RC1 g (fun xs H Q => (∃ i, xs = [.int i] ∧ Q (.int i) H) ∨ ∃ k, xs = [.bl k] ∧ Q (.int (if k then 1 else 0)) H) dInt := by
  intro p F H v d Q r e t h
  cases d with
  | int i => cases r.rep (by intro l h; cases h); exact .inl ⟨i, rfl, OpPO.val (d := .int _) h e t (.int _)⟩
  | bl k => cases r.rep (by intro l h; cases h); exact .inr ⟨k, rfl, OpPO.val (d := .int _) h e t (.int _)⟩
  | _ => exact h.elim
def bools : List D → Option (List Bool)
  | [] => some []
  | .bl b :: r => (bools r).map (b :: ·)
  | _ :: _ => none
theorem bools_rep {p : Option Addr} {F : Hp} : ∀ {vs : List V} {l : List D} {bs : List Bool}, Reps g p F vs l → bools l = some bs → vs = bs.map V.bl
  | _, _, _, .nil, e => by cases e; rfl
  | _, _, _, .cons (d := d) r t, e => by
    cases d with
    | bl b =>
      cases r
      obtain ⟨bs, e1, e2⟩ := Option.map_eq_some_iff.mp e
      subst e2
      rw [bools_rep t e1]
      rfl
    | _ => cases e
def dAll : D → Option SV
  | .lst l => (bools l).map fun bs => .val (.bl (bs.all id))
  | _ => none
def dAny : D → Option SV
  | .lst l => (bools l).map fun bs => .val (.bl (bs.any id))
  | _ => none
theorem rc_all : RC1 g (rAll g.K) dAll := by
  intro p F H v d Q r e t h
  cases d with
  | lst l =>
    obtain ⟨a, vs, rfl, h1, r1⟩ := r.lst e
    have h : OpPO g p F H Q ((bools l).map fun bs => .val (.bl (bs.all id))) := h
    cases q : bools l with
    | none => rw [q] at h; exact h.elim
    | some bs =>
      rw [q] at h
      have ev := bools_rep r1 q
      subst ev
      exact ⟨a, bs, rfl, .inl h1, OpPO.val (d := .bl _) h e t (.bl _)⟩
  | _ => exact h.elim
theorem rc_any : RC1 g (rAny g.K) dAny := by
  intro p F H v d Q r e t h
  cases d with
  | lst l =>
    obtain ⟨a, vs, rfl, h1, r1⟩ := r.lst e
    have h : OpPO g p F H Q ((bools l).map fun bs => .val (.bl (bs.any id))) := h
    cases q : bools l with
    | none => rw [q] at h; exact h.elim
    | some bs =>
      rw [q] at h
      have ev := bools_rep r1 q
      subst ev
      exact ⟨a, bs, rfl, .inl h1, OpPO.val (d := .bl _) h e t (.bl _)⟩
  | _ => exact h.elim
/-- list(x), tuple(x) -/
def dList : D → Option SV
  | .lst l => some (.own l)
  | .tup l => some (.own l)
  | _ => none
theorem rc_list : RC1 g (fun xs H Q => ∃ p ys, xs = [.ref p] ∧ (SqL g.K H p ys ∨ SqT g.K H p ys) ∧ ∀ l, H l = none → Q (.ref l) (upd H l (.lst ys))) dList := by
  intro p F H v d Q r e t h
  cases d with
  | lst l =>
    obtain ⟨a, vs, rfl, h1, r1⟩ := r.lst e
    exact ⟨a, vs, rfl, .inl (.inl h1), OpPO.own (l := l) h e t r1⟩
  | tup l =>
    cases r.rep (by intro l h; cases h) with | tup h1 r1 =>
    exact ⟨_, _, rfl, .inr (ext_t e h1), OpPO.own (l := l) h e t r1⟩
  | _ => exact h.elim
def dTuple : D → Option SV
  | .lst l => some (.val (.tup l))
  | .tup l => some (.val (.tup l))
  | _ => none
theorem rc_tuple : RC1 g (fun xs H Q => ∃ p ys, xs = [.ref p] ∧ ((SqL g.K H p ys ∧ ∀ l, H l = none → Q (.ref l) (upd H l (.tup ys))) ∨ (SqT g.K H p ys ∧ Q (.ref p) H))) dTuple := by
  intro p F H v d Q r e t h
  cases d with
  | lst l =>
    obtain ⟨a, vs, rfl, h1, r1⟩ := r.lst e
    exact ⟨a, vs, rfl, .inl ⟨.inl h1, OpPO.tup (l := l) h e t r1⟩⟩
  | tup l =>
    cases r.rep (by intro l h; cases h) with | tup h1 r1 =>
    exact ⟨_, _, rfl, .inr ⟨ext_t e h1, OpPO.val (d := .tup l) h e t (.tup h1 r1)⟩⟩
  | _ => exact h.elim
/-- max, min of two ints -/
def dMax2 : List D → Option SV
  | [.int i, .int j] => some (.val (.int (if j > i then j else i)))
  | _ => none
def dMin2 : List D → Option SV
  | [.int i, .int j] => some (.val (.int (if j < i then j else i)))
  | _ => none
theorem rc_max2 : RCn g (fun xs H Q => ∃ i j, xs = [.int i, .int j] ∧ Q (.int (if j > i then j else i)) H) dMax2 := by
  intro p F H vs ds Q r e t h
  unfold dMax2 at h
  split at h
  · obtain ⟨v, w, rfl, rv, rw'⟩ := r.two
    cases rv; cases rw'
    exact ⟨_, _, rfl, h.val e t (.int _)⟩
  · exact h.elim
theorem rc_min2 : RCn g (fun xs H Q => ∃ i j, xs = [.int i, .int j] ∧ Q (.int (if j < i then j else i)) H) dMin2 := by
  intro p F H vs ds Q r e t h
  unfold dMin2 at h
  split at h
  · obtain ⟨v, w, rfl, rv, rw'⟩ := r.two
    cases rv; cases rw'
    exact ⟨_, _, rfl, h.val e t (.int _)⟩
  · exact h.elim
/-- isinstance against a built-in type -/
def tyName : D → Option String
  | .non => some "NoneType"
  | .bl _ => some "bool"
  | .int _ => some "int"
  | .str _ => some "str"
  | .tup _ => some "tuple"
  | .lst _ => some "list"
  | _ => none
theorem tyx_of {p : Option Addr} {F H : Hp} {v : V} {d : D} {n : String} (r : Rep g p F v d) (e : Ext F H) (h : tyName d = some n) : TyX g.K H v (.type n) := by
  cases d with
  | non => cases r; cases h; exact .base .non
  | bl b => cases r; cases h; exact .base (.bl b)
  | int i => cases r; cases h; exact .base (.int i)
  | str s => cases r; cases h; exact .base (.str _)
  | tup l =>
    cases h
    cases r with | tup h1 r1 =>
    rcases h1 with (h1 | ⟨o, h1⟩) | ⟨o, its, n, hk, hc, _⟩
    · exact .base (.tup (e _ _ h1))
    · exact .fTuple (e _ _ h1)
    · exact .kTuple hk hc
  | lst l =>
    cases h
    cases r with | lst h1 r1 =>
    rcases h1 with h1 | ⟨o, h1⟩
    · exact .base (.lst (e _ _ h1))
    · exact .base (.frz (e _ _ h1))
  | _ => cases h
def dIsi : List D → Option SV
  | [d, .ty n] => (tyName d).bind fun t => (kitB t n).map fun b => .val (.bl b)
  | _ => none
theorem rc_isi : RCn g (rIsi g.K) dIsi := by
  intro p F H vs ds Q r e t h
  unfold dIsi at h
  split at h
  · rename_i d n
    obtain ⟨v, w, rfl, rv, rw'⟩ := r.two
    cases rw'
    cases q : tyName d with
    | none => rw [q] at h; exact h.elim
    | some tn =>
      rw [q] at h
      have h : OpPO g p F H Q ((kitB tn n).map fun b => .val (.bl b)) := h
      cases q2 : kitB tn n with
      | none => rw [q2] at h; exact h.elim
      | some b =>
        rw [q2] at h
        exact ⟨v, .ty n, .type tn, .type n, b, rfl, .ty n, tyx_of rv e q, kit_ty q2, OpPO.val (d := .bl b) h e t (.bl b)⟩
  · exact h.elim
/-- repr of None, of an int -/
def codes (x : Str) : List Nat := x.cps.toList
def dRepr : D → Option SV
  | .non => some (.val (.str (codes "None")))
  | .int i => if i.natAbs.log2 < 1920 then some (.val (.str (codes (toString i : String)))) else none
  | _ => none
def rReprA : List V → Hp → VK → Prop := fun xs H Q => (∃ i : Int, xs = [.int i] ∧ i.natAbs.log2 < 1920 ∧ Q (.str (toString i : String)) H) ∨ (xs = [.non] ∧ Q (.str "None") H)
theorem call_reprA {X : Cx} : CallR X (.builtin "repr") rReprA := by
  intro pins s σ H xs us Q I r h
  rcases h with h | ⟨rfl, q⟩
  · exact SkE.call_repr_int pins s σ H xs us Q I r h
  · obtain ⟨u, rfl, hu⟩ := vals1 r
    cases hu
    exact PySem.P.repr_of_none ⟨.str "None", H, I.tok _, ⟨_, rfl⟩, q⟩
theorem rc_repr : RC1 g rReprA dRepr := by
  intro p F H v d Q r e t h
  cases d with
  | non => cases r.rep (by intro l h; cases h); exact .inr ⟨rfl, OpPO.val (d := .str _) h e t (rep_str _)⟩
  | int i =>
    cases r.rep (by intro l h; cases h)
    have h : OpPO g p F H Q (if i.natAbs.log2 < 1920 then some (.val (.str (codes (toString i : String)))) else none) := h
    split at h
    · rename_i hl
      exact .inl ⟨i, rfl, hl, h.val e t (rep_str _)⟩
    · exact h.elim
  | _ => exact h.elim
end

/-! ### lists of one's own: append, insert, xs[i] = e, xs += ys -/
section
variable {g : Gl} {X : Cx} {W : WX} {a b e : Expr} {m mb : EM} {pos p' apos : Pos}
theorem Rel.setList {p : Option Addr} {H0 F0 : Hp} {A : List Addr} {F : Hp} {s : S} {σ : L2.St} {H : Hp} {i : Nat} {l l' : List D} {vs' : List V} (Y : Rel g p H0 F0 A F s σ H) (q : s.sl[i]? = some (.own l)) (r : Reps g p F vs' l') :
    ∃ a vs, σ[i]? = some (some (.ref a)) ∧ H a = some (.lst vs) ∧ Reps g p F vs l ∧ ∃ A', Rel g p H0 F0 A' F { s with sl := s.sl.set i (.own l') } σ (upd H a (.lst vs')) := by
  obtain ⟨a, vs, A1, h1, h2, h3, h4, h5, h6, h7, h8, h9, q1⟩ := Y.sl.takeOwn i l q
  refine ⟨a, vs, h1, h2, h3, ?_⟩
  have q2 : Sl g p H0 F (upd H a (.lst vs')) A1 (s.sl.set i .no) σ := q1.mono (Ext.refl _) fun b hb => ⟨upd_ne fun z => h8 (by rw [← z]; exact hb), (q1.facts b hb).2.1⟩
  obtain ⟨A2, _, q3⟩ := q2.setOwn (a := a) upd_same r h4 h5 h6 h8 i
  rw [set_self h1, List.set_set] at q3
  refine ⟨A2, fun b u q => ?_, Y.ef0, Y.fr, fun b u q np no => ?_, fun b q => ?_, ⟨fun b e => ?_, Y.pl.2⟩, g.Tu _ _ _ Y.tb (.inr (.inl ⟨_, h2⟩)), q3⟩
  · rw [upd_ne (fun z => by rw [z, h4] at q; cases q)]; exact Y.ext b u q
  · rw [upd_ne (fun z => by rw [z, h5] at q; cases q)]; exact Y.evo b u q np no
  · by_cases hb : b = a
    · rw [hb]; exact h5
    · rw [upd_ne hb] at q; exact Y.al b q
  · obtain ⟨y1, y2⟩ := Y.pl.1 b e
    exact ⟨y1, by rw [upd_ne (fun z => h6 (by rw [e, z]))]; exact y2⟩
/-- x.append(e), a statement -/
def mApp (i : Nat) (m : EM) : SM := fun s => match s.sl[i]? with
  | some (.own _) => (m s).bs fun d s1 => match s1.sl[i]? with
    | some (.own l) => if l.length < sizeLine then .nx { s1 with sl := s1.sl.set i (.own (l ++ [d])) } else .stuck
    | _ => .stuck
  | _ => .stuck
theorem ds_app {i : Nat} {pe : Pos} (ha : PE X a (tVar i)) (h : DE g X W e m)
    (hbase : attributeBase a "append" X.env (eval a X.env) = eval a X.env := by rfl)
    (hfew : ((backTo pos (starEach [e] X.env)).all (fun x => !x.1) && (backToKw pos (keywordEach [] X.env)).all (fun x => x.1.isSome)
      && decide ([e].length + ([] : List Keyword).length + (if ([] : List Keyword).isEmpty then 0 else 1) < 30)) = true := by rfl)
    (hline : (apos.endLine == pos.line) = true := by rfl) (hst : starEach [e] X.env = (false, eval e X.env) :: starEach [] X.env := by rfl) (hplain : (backTo pos (starEach [] X.env)).any (·.1) = false := by rfl)
    (hs : swapsWith (.Call (.Attribute a "append" apos) [e] [] pos) none pe.line X.env = pure false := by rfl) : DS g X W (.Expr (.Call (.Attribute a "append" apos) [e] [] pos) pe) (mApp i m) := by
  have hb' := pe_bm (apos := apos) (cpos := pos) PySem.F.plainAttrs_list PySem.F.slot_list_append PySem.F.type_list_append (X := X) mt_append ha (pa_cons h.can pa_nil hst) hbase hfew hline hst hplain
  refine ⟨_, ps_expr hb' hs, fun p H0 F0 A F s σ H Dn Y hp => ?_⟩
  unfold mApp at hp
  cases q : s.sl[i]? with
  | none => rw [q] at hp; exact hp.elim
  | some sv =>
    rw [q] at hp
    cases sv with
    | no => exact hp.elim
    | val d => exact hp.elim
    | dct l => exact hp.elim
    | own l =>
      obtain ⟨a0, vs0, h1, _, h2, r2⟩ := Y.sl.getOwn q
      refine ⟨.ref a0, h1, .inl ⟨rfl, vs0, .inl (.inl h2)⟩, ?_⟩
      refine (sim_can (g := g) (W := W) (m := m)) p H0 F0 A F s σ H _ Y (PostS.bs hp fun d s1 v F1 H1 A1 Y1 e1 r1 hp1 => ?_)
      cases q1 : s1.sl[i]? with
      | none => rw [q1] at hp1; exact hp1.elim
      | some sv1 =>
        rw [q1] at hp1
        cases sv1 with
        | no => exact hp1.elim
        | val d => exact hp1.elim
        | dct l => exact hp1.elim
        | own l1 =>
          obtain ⟨a1, vs1, k1, _, k2, k3⟩ := Y1.sl.getOwn q1
          have ea : a1 = a0 := by
            have := k1.symm.trans h1
            injection (Option.some.inj (Option.some.inj this))
          subst ea
          have hp2 : PostS g W p H0 F0 F1 Dn (if l1.length < sizeLine then .nx { s1 with sl := s1.sl.set i (.own (l1 ++ [d])) } else .stuck) := hp1
          split at hp2
          · rename_i hl
            obtain ⟨a2, vs2, z1, z2, z3, A2, Y2⟩ := Y1.setList q1 (k3.append (.cons r1 .nil))
            have ea2 : a2 = a1 := by
              have := z1.symm.trans k1
              injection (Option.some.inj (Option.some.inj this))
            subst ea2
            exact ⟨a2, vs1, v, rfl, rfl, k2, by rw [k3.length]; exact hl, hp2 σ F1 _ A2 Y2 (Ext.refl _)⟩
          · exact hp2.elim
end
end Pd

/-! Pd, part H: the pile, walks of any kind. -/
namespace Pd
open PySem PySem.Spec PyProof.Rows L2

/-! ### the pile stored to -/
section
variable {g : Gl} {X : Cx} {W : WX} {a b e : Expr} {m mb : EM} {pos p' : Pos}
theorem Rel.setPile {p : Option Addr} {H0 F0 : Hp} {A : List Addr} {F : Hp} {s : S} {σ : L2.St} {H : Hp} {a : Addr} {n : Int} (Y : Rel g p H0 F0 A F s σ H) (ha : p = some a) : Rel g p H0 F0 A F { s with pile := n } σ (upd H a (.lst [.int n])) := by
  obtain ⟨k1, k2⟩ := Y.pl.1 a ha
  refine ⟨fun b u q => ?_, Y.ef0, Y.fr, fun b u q np no => ?_, fun b q => ?_, ⟨fun b e => ?_, Y.pl.2⟩, g.Tu _ _ _ Y.tb (.inr (.inl ⟨_, k2⟩)), Y.sl.mono (Ext.refl _) fun b hb => ⟨upd_ne fun z => (Y.sl.facts b hb).2.2.1 (by rw [ha, z]), (Y.sl.facts b hb).2.1⟩⟩
  · rw [upd_ne (fun z => by rw [z, k1] at q; cases q)]; exact Y.ext b u q
  · rw [upd_ne (fun z => np (by rw [ha, z]))]; exact Y.evo b u q np no
  · by_cases hb : b = a
    · rw [hb, upd_same] at q; cases q
    · rw [upd_ne hb] at q; exact Y.al b q
  · have eb : b = a := by rw [ha] at e; exact (Option.some.inj e).symm
    subst eb
    exact ⟨k1, upd_same⟩
/-- pile[0] = e -/
def mPileSet (i : Nat) (m : EM) : SM := fun s => (m s).bs fun d s1 => match d, s1.sl[i]? with
  | .int n, some (.val .pile) => .nx { s1 with pile := n }
  | _, _ => .stuck
theorem ds_pileSet {i j : Nat} {cp ap : Pos} (h : DE g X W e m) (ha : PE X a (tVar i)) (hass : ∀ v, assign (.Subscript a (.Constant (.int 0) j cp) ap) X.env v = (do
      let ov ← holding [v] (eval a X.env)
      let iv ← holding [v, ov] (eval (.Constant (.int 0) j cp) X.env)
      standAt ap
      holding [v, ov, iv] (setItem ov iv v)
      release [v, ov, iv] []) := by intro _; rfl)
    (hs : swapsWithSole [.Subscript a (.Constant (.int 0) j cp) ap] e pos.line X.env = pure false := by rfl) (hw : swappedStores [.Subscript a (.Constant (.int 0) j cp) ap] e X.env = pure none := by rfl)
    (h1 : (assignEach [.Subscript a (.Constant (.int 0) j cp) ap] X.env).map (·.2) = [assign (.Subscript a (.Constant (.int 0) j cp) ap) X.env] := by rfl) :
    DS g X W (.Assign [.Subscript a (.Constant (.int 0) j cp) ap] e pos) (mPileSet i m) := by
  obtain ⟨t, a1, a2⟩ := h
  refine ⟨_, ps_asg a1 (pg_sub ha pe_int set_list hass) hs hw h1, fun p H0 F0 A F s σ H Dn Y hp => a2 p H0 F0 A F s σ H _ Y (PostS.bs hp fun d s1 v F1 H1 A1 Y1 e1 r1 hp1 => ?_)⟩
  split at hp1
  · rename_i n q
    cases r1
    obtain ⟨w, hw', rw'⟩ := Y1.var q
    cases rw' with
    | pile hpa =>
      obtain ⟨k1, k2⟩ := Y1.pl.1 _ hpa
      exact ⟨_, hw', _, _, 0, 0, rfl, rfl, k2, rfl, hp1 σ F1 _ A1 (Y1.setPile hpa) (Ext.refl _)⟩
  · exact hp1.elim

/-! ### a list of one int handed on as the pile -/
mutual
def noPile : D → Bool
  | .pile => false
  | .tup l => noPiles l
  | .lst l => noPiles l
  | .kst l => noPiles l
  | .clo _ l => noPiles l
  | _ => true
def noPiles : List D → Bool
  | [] => true
  | d :: r => noPile d && noPiles r
end
mutual
theorem Rep.swap {p q : Option Addr} {F : Hp} : ∀ {v : V} {d : D}, Rep g p F v d → noPile d = true → Rep g q F v d
  | _, _, .non, _ => .non
  | _, _, .bl b, _ => .bl b
  | _, _, .int i, _ => .int i
  | _, _, .str s, _ => .str s
  | _, _, .tup h r, n => .tup h (Reps.swap r (by simpa [noPile] using n))
  | _, _, .lst h r, n => .lst h (Reps.swap r (by simpa [noPile] using n))
  | _, _, .kst h r, n => .kst h (Reps.swap r (by simpa [noPile] using n))
  | _, _, .pile h, n => by simp [noPile] at n
  | _, _, .exc h1 h2 h3, _ => .exc h1 h2 h3
  | _, _, .clo h r, n => .clo h (Reps.swap r (by simpa [noPile] using n))
  | _, _, .ty n, _ => .ty n
  | _, _, .cls h, _ => .cls h
theorem Reps.swap {p q : Option Addr} {F : Hp} : ∀ {vs : List V} {ds : List D}, Reps g p F vs ds → noPiles ds = true → Reps g q F vs ds
  | _, _, .nil, _ => .nil
  | _, _, .cons r t, n => by
    simp only [noPiles, Bool.and_eq_true] at n
    exact .cons (Rep.swap r n.1) (Reps.swap t n.2)
end
theorem Rel.callR {p : Option Addr} {H0 F0 : Hp} {A : List Addr} {F F' : Hp} {s : S} {σ : L2.St} {H H' : Hp} {i : Nat} {l : List D} {n' : Int} {a : Addr} (Y : Rel g p H0 F0 A F s σ H) (q : s.sl[i]? = some (.own l)) (ha : σ[i]? = some (some (.ref a))) (hne : ∃ vs, H a = some (.lst vs)) (G : Gr g (some a) F H F' H') (P : PileOk (some a) n' F' H') :
    ∃ A', (∀ b ∈ A', b ∈ A ∨ b = a) ∧ Rel g p H0 F0 A' F' { s with sl := s.sl.set i (.own [.int n']) } σ H' := by
  obtain ⟨a0, vs, A1, h1, h2, h3, h4, h5, h6, h7, h8, h9, q1⟩ := Y.sl.takeOwn i l q
  have ea : a0 = a := by
    have := h1.symm.trans ha
    injection (Option.some.inj (Option.some.inj this))
  subst ea
  obtain ⟨z1, z2⟩ := P.1 a0 rfl
  have q2 : Sl g p H0 F' H' A1 (s.sl.set i .no) σ := q1.mono G.ff fun b hb => by
    obtain ⟨y0, y1, y2, y3⟩ := q1.facts b hb
    have nb : (some a0 : Option Addr) ≠ some b := fun z => h8 (by rw [Option.some.inj z]; exact hb)
    constructor
    · rcases y3 with ⟨vs, y3⟩ | ⟨vs, y3⟩ <;> (rw [y3]; exact G.hh b _ y3 nb trivial)
    · cases w : F' b with
      | none => rfl
      | some o =>
        rcases G.nw b o w with y | y
        · rw [y1] at y; cases y
        · rcases y3 with ⟨vs, y3⟩ | ⟨vs, y3⟩ <;> (rw [y3] at y; cases y)
  obtain ⟨A2, m2, q3⟩ := q2.setOwn (a := a0) (vs := [.int n']) (l := [.int n']) z2 (.cons (.int _) .nil) z1 h5 h6 h8 i
  rw [set_self h1, List.set_set] at q3
  refine ⟨A2, fun b hb => (m2 b hb).elim .inr fun z => .inl (h9 b z), G.fh, Y.ef0.trans G.ff, fun b o w => (G.nw b o w).elim (Y.fr b o) fun z => .inr (Y.al b z), fun b o w np no => ?_, fun b w => Y.al b (G.al b w), ⟨fun b e => ?_, P.2⟩, G.tb, q3⟩
  · exact G.hh b o (Y.evo b o w np no) (fun z => by rw [← Option.some.inj z, h5] at w; cases w) no
  · obtain ⟨y1, y2⟩ := Y.pl.1 b e
    have nb : (some a0 : Option Addr) ≠ some b := fun z => h6 (by rw [e, z])
    refine ⟨?_, G.hh b _ y2 nb trivial⟩
    cases w : F' b with
    | none => rfl
    | some o =>
      rcases G.nw b o w with y | y
      · rw [y1] at y; cases y
      · rw [y2] at y; cases y
def outR (i : Nat) (r : FR) (s : S) : R SV := match r with
  | .ok (.val d) n => if noPile d = true then .ok (.val d) { s with sl := s.sl.set i (.own [.int n]) } else .stuck
  | .ok (.own l) n => if noPiles l = true then .ok (.own l) { s with sl := s.sl.set i (.own [.int n]) } else .stuck
  | .ok _ _ => .stuck
  | .exc c m n => .exc c m { s with sl := s.sl.set i (.own [.int n]) }
  | .stuck => .stuck
def oCallR (i : Nat) (f : FM) (m : AM) : OM := fun s => match s.sl[i]? with
  | some (.own _) => (m s).bind fun ds s1 => match s1.sl[i]? with
    | some (.own [.int n]) => if noPiles ds = true then outR i (f (.pile :: ds) n) s1 else .stuck
    | _ => .stuck
  | _ => .stuck
theorem do_callR {i k : Nat} {f : FM} {x : Str} {es : List Expr} {m : AM} (C : Cal X.prog X.w X.K X.mg X.base g k x f) (hr : RoomG k X.A) (hg : L2.Gl X x) (tk : Takes X W) (ha : PE X a (tVar i)) (hm : DA g X W es m)
    (hdb : (x == ("__debug__" : Str)) = false := by decide) (he : starEach (a :: es) X.env = (false, eval a X.env) :: starEach es X.env := by rfl) (hpl : (backTo pos (starEach es X.env)).any (·.1) = false := by rfl) : DO g X W (.Call (.Name x p') (a :: es) [] pos) (oCallR i f m) := by
  obtain ⟨fa, fd, ps, F, gm, kp, b⟩ := C.ex
  obtain ⟨t, a1, a2⟩ := hm
  refine ⟨_, pe_callG F hr hg gm kp b (fun σ => passAt tk σ) (pa_cons ha a1 he) hdb he hpl, fun p H0 F0 A F0' s σ H Q Y hp => ?_⟩
  unfold oCallR at hp
  cases q : s.sl[i]? with
  | none => rw [q] at hp; exact hp.elim
  | some sv =>
    rw [q] at hp
    cases sv with
    | no => exact hp.elim
    | val d => exact hp.elim
    | dct l => exact hp.elim
    | own l =>
      obtain ⟨a0, vs0, h1, _, h2, r2⟩ := Y.sl.getOwn q
      refine ⟨.ref a0, h1, a2 p H0 F0 A F0' s σ H _ Y (PostO.bind hp fun ds s1 vs F1 H1 A1 Y1 e1 r1 hp1 => ?_)⟩
      cases q1 : s1.sl[i]? with
      | none => rw [q1] at hp1; exact hp1.elim
      | some sv1 =>
        rw [q1] at hp1
        cases sv1 with
        | no => exact hp1.elim
        | val d => exact hp1.elim
        | dct l => exact hp1.elim
        | own l1 =>
          obtain ⟨a1', vs1, k1, km, k2, k3⟩ := Y1.sl.getOwn q1
          have ea : a1' = a0 := by
            have := k1.symm.trans h1
            injection (Option.some.inj (Option.some.inj this))
          subst ea
          obtain ⟨f0, ff, fp, _⟩ := Y1.sl.facts a1' km
          cases l1 with
          | nil => exact hp1.elim
          | cons d0 rr =>
            cases d0 with
            | int n =>
              cases rr with
              | cons _ _ => exact hp1.elim
              | nil =>
                have hp2 : PostO g W p H0 F0 F1 σ Q (if noPiles ds = true then outR i (f (.pile :: ds) n) s1 else .stuck) := hp1
                split at hp2
                · rename_i hn
                  have ev : vs1 = [.int n] := by
                    obtain ⟨w, rfl, rw'⟩ := k3.one
                    cases rw'
                    rfl
                  subst ev
                  refine ⟨some a1', F1, .pile :: ds, n, .cons (.pile rfl) (Reps.swap r1 hn), Y1.ext, ⟨fun b e => ?_, Y1.pl.2⟩, Y1.tb, ?_⟩
                  · cases e; exact ⟨ff, k2⟩
                  unfold outR at hp2
                  cases qf : f (.pile :: ds) n with
                  | stuck => rw [qf] at hp2; exact hp2.elim
                  | exc c mm n' =>
                    rw [qf] at hp2
                    refine fun cls d F' H' G P z => ?_
                    obtain ⟨A', _, Y'⟩ := Y1.callR q1 k1 ⟨_, k2⟩ G P
                    exact hp2 cls d F' H' A' Y' G.ff z
                  | ok rv n' =>
                    rw [qf] at hp2
                    cases rv with
                    | no => exact hp2.elim
                    | dct l => exact hp2.elim
                    | val d =>
                      refine fun v F' H' G P z => ?_
                      obtain ⟨A', _, Y'⟩ := Y1.callR q1 k1 ⟨_, k2⟩ G P
                      have hp3 : PostO g W p H0 F0 F1 σ Q (if noPile d = true then .ok (.val d) { s1 with sl := s1.sl.set i (.own [.int n']) } else .stuck) := hp2
                      split at hp3
                      · exact hp3 v F' H' A' Y' G.ff (Rep.swap z (by assumption))
                      · exact hp3.elim
                    | own l =>
                      refine fun a vs' F' H' G P z w1 w2 w3 w4 => ?_
                      obtain ⟨A', mA, Y'⟩ := Y1.callR q1 k1 ⟨_, k2⟩ G P
                      have hp3 : PostO g W p H0 F0 F1 σ Q (if noPiles l = true then .ok (.own l) { s1 with sl := s1.sl.set i (.own [.int n']) } else .stuck) := hp2
                      split at hp3
                      · obtain ⟨y1, y2, y3, y4⟩ := Y1.fresh w3
                        exact hp3 a vs' F' H' A' Y' G.ff (Reps.swap z (by assumption)) w1 w2 y2 y3 (fun hm => (mA a hm).elim y4 fun e => w4 (by rw [e]))
                      · exact hp3.elim
                · exact hp2.elim
            | _ => exact hp1.elim

/-! ### walks of lists, tuples, texts -/
theorem it_str {p : Option Addr} {F1 : Hp} (s : List Nat) : ItOk g p F1 (signs s) (Its ⟨s.toArray⟩) where
  go := fun i F H e1 e2 hi => by
    show i < s.toArray.size
    unfold signs at hi
    rw [List.length_map] at hi
    simpa using hi
  yld := fun i F H x H' e1 e2 tb hy hi => by
    obtain ⟨rfl, c, hc, rfl⟩ := hy
    have hc' : s[i]? = some c := by simpa using hc
    refine ⟨.str [c], F, ?_, Gr.refl e2 tb, .str [c]⟩
    unfold signs
    rw [List.getElem?_map, hc']
    rfl
  stop := fun i F H e1 e2 hi => by
    show s.toArray.size ≤ i
    unfold signs at hi
    rw [List.length_map] at hi
    simpa using hi
theorem pi_or {tg it : Expr} {w1 w2 : TI} (h1 : PI X tg it w1) (h2 : PI X tg it w2) : PI X tg it (fun σ H R => w1 σ H R ∨ w2 σ H R) :=
  ⟨fun pins s σ H R I h => h.elim (h1.run pins s σ H R I) (h2.run pins s σ H R I)⟩
def items : D → Option (List D)
  | .lst l => some l
  | .tup l => some l
  | .kst l => some l
  | .str s => some (signs s)
  | _ => none
def itA (m : EM) : AM := fun s => (m s).bind fun d s1 => R.of (items d) s1
theorem di_any {tg : Expr} (h : DE g X W e m) (hK : X.K = g.K := by rfl) : DI g X W tg e (itA m) := by
  refine ⟨_, pi_or (pi_list h.can) (pi_or (pi_tup h.can) (pi_str h.can)), fun p H0 F0 A F s σ H Q Y hp => ?_⟩
  have sc := (sim_can (g := g) (W := W) (Rp := RepV g) (m := m)) p H0 F0 A F s σ H
  unfold itA at hp
  cases q : m s with
  | stuck => rw [q] at hp; exact hp.elim
  | exc c n s1 =>
    rw [q] at hp
    left
    refine sc _ Y ?_
    rw [q]
    exact hp
  | ok d s1 =>
    rw [q] at hp
    cases d with
    | lst l =>
      left
      refine sc _ Y ?_
      rw [q]
      intro v F1 H1 A1 Y1 e1 r1
      cases r1 with | lst h1 r1 =>
      exact ⟨_, rfl, ⟨_, ext_l Y1.ext (.inl h1)⟩, hp _ F1 H1 A1 Y1 e1 (it_list (.inl h1) r1)⟩
    | kst l =>
      left
      refine sc _ Y ?_
      rw [q]
      intro v F1 H1 A1 Y1 e1 r1
      cases r1 with | kst h1 r1 =>
      exact ⟨_, rfl, ⟨_, by rw [hK]; exact ext_l Y1.ext h1⟩, hp _ F1 H1 A1 Y1 e1 (it_list (by rw [hK]; exact h1) r1)⟩
    | tup l =>
      right; left
      refine sc _ Y ?_
      rw [q]
      intro v F1 H1 A1 Y1 e1 r1
      cases r1 with | tup h1 r1 =>
      exact ⟨_, rfl, ⟨_, by rw [hK]; exact ext_t Y1.ext h1⟩, hp _ F1 H1 A1 Y1 e1 (it_tup (by rw [hK]; exact h1) r1)⟩
    | str z =>
      right; right
      refine sc _ Y ?_
      rw [q]
      intro v F1 H1 A1 Y1 e1 r1
      cases r1
      exact ⟨_, rfl, hp _ F1 H1 A1 Y1 e1 (it_str z)⟩
    | _ => exact hp.elim
end
end Pd

/-! Pd, part I: the surroundings of a law's text. -/
namespace Pd
open PySem PySem.Spec PyProof.Rows L2

/-- no lambdas -/
abbrev G0 (K : PySem.W.Frag) (mg : Str → Option Value) : Gl := ⟨K, mg, fun _ => True, fun _ _ _ _ _ => trivial, fun _ _ _ _ => False, fun _ _ _ _ _ _ h => h⟩
def GlobS (mg : Str → Option Value) (x : Str) (s : List Nat) : Prop := ∃ t, mg x = some (.str ⟨s.toArray⟩ t)
structure ExcOk (K : PySem.W.Frag) (mg : Str → Option Value) (c : String) (C : Addr) : Prop where
  q : PySem.W.excIn K C [.type "ValueError", .type "Exception", .type "BaseException", .type "object"] "ValueError.__new__" = true
  g : mg (Str.ofString c) = some (.ref C)
  k : PySem.W.keepIn K (.ref C) = true
  s : PySem.W.subIn K (.ref C) (.type "BaseException") = some true
  t : PySem.W.typeIn K (.ref C) = some (.type "type")
section
variable {g : Gl} {X : Cx} {W : WX} {e : Expr} {m : EM} {pos p : Pos} {x : Str}
theorem de_globS {s : List Nat} (hg : L2.Gl X x) (h : GlobS X.mg x s) (hdb : (x == ("__debug__" : Str)) = false := by decide) : DE g X W (.Name x pos) (mC (.str s)) := by
  obtain ⟨t, h⟩ := h
  exact de_c (pe_glob (v := .str ⟨s.toArray⟩) hg h ⟨t, rfl⟩ hdb) fun _ _ => .str s
theorem ds_raiseC {c : String} {C : Addr} {j : Nat} {msg : Str} {p2 p3 : Pos} (tk : Takes X W) (h : ExcOk X.K X.mg c C) (hg : L2.Gl X (Str.ofString c)) (hc : X.calm = true := by rfl) (hm : X.mg = g.mg := by rfl)
    (hdb : (Str.ofString c == ("__debug__" : Str)) = false := by decide) : DS g X W (.Raise (some (.Call (.Name (Str.ofString c) p) [.Constant (.str msg) j p2] [] p3)) none pos) (mRaise c) :=
  ds_raise hc tk (pmk_own PySem.F.excBase_ValueError h.q h.g h.k (raises_own h.s h.t) hg hdb) (by rw [← hm]; exact h.g)
def mNeg (m : EM) : EM := fun s => (m s).bind fun d s1 => match d with
  | .int i => .ok (.int (-i)) s1
  | _ => .stuck
theorem de_neg (h : DE g X W e m) : DE g X W (.UnaryOp .USub e pos) (mNeg m) := by
  obtain ⟨t, a1, a2⟩ := h
  refine ⟨_, pe_un un_neg a1, fun p H0 F0 A F s σ H Q Y hp => a2 p H0 F0 A F s σ H _ Y (hp.bind fun d s1 v F1 H1 A1 Y1 e1 r1 hp1 => ?_)⟩
  cases d with
  | int i => cases r1; exact ⟨i, rfl, hp1 _ F1 H1 A1 Y1 (Ext.refl _) (.int _)⟩
  | _ => exact hp1.elim
end
end Pd

/-! Pd, part J: the end of a law. -/
namespace Pd
open PySem PySem.Spec PyProof.Rows L2

/-- the law's def, called on its script: the promise of a def where no repr is under way -/
theorem law_callG {P : Program} {w : World} {K : PySem.W.Frag} {mg mb : Str → Option Value} {CX : CXT} {k : Nat} {fa a : Addr} {fd : FuncData} {x : Str} {sp : Sp} {sh : Shared} {vs : List Value} {ns : List Int}
    (kin : K.In sh.heap) (gns : sh.heap.Ns mainGlobals mg) (bns : sh.heap.Ns builtinsNs mb) (bb : ∀ x : Str, x ≠ "__name__" → mb x = bootBuiltins x) (nol : sh.heap.NoLimit) (gen : sh.gens = #[])
    (obj : sh.heap.get? a = some { cls := .type "list", data := .seq vs.toArray }) (nums : IntsAre vs ns) (short : ns.length ≤ sizeLine) (room : RoomG k callerA)
    (D : ∀ base : Heap, K.In base → base.Ns mainGlobals mg → FnG P w K mg base CX k fa fd [x] sp) (bind : ∀ (s : Shared) (u : Value), BindsTo s fd ⟨[u], []⟩ [(x, u)])
    (prom : ∀ H : Hp, Only H → SqL K H a (ns.map V.int) → sp [.ref a] H (fun v _ => v = .bl true) fun _ _ _ => False)
    (noX : ∀ H e s', CX [] H sh (fun _ _ _ => False) e s' → False) :
    codeAny (model P w) callerA (.call (.ref fa) ⟨[.ref a], []⟩) (fun r s' => r = .ok (.ret (.bool true)) ∧ OldK sh.heap s'.heap ∧ s'.os = sh.os ∧ AllBare s'.gens) sh := by
  have rvs := vals_ints nums
  have n1 := nums.length
  have main : ∀ H : Hp, Only H → SqL K H a (ns.map V.int) → HOk P w H sh.heap → (∀ b, H b ≠ none → b = a) → (H a ≠ none → K.lookup a = none) →
      codeAny (model P w) callerA (.call (.ref fa) ⟨[.ref a], []⟩) (fun r s' => r = .ok (.ret (.bool true)) ∧ OldK sh.heap s'.heap ∧ s'.os = sh.os ∧ AllBare s'.gens) sh := by
    intro H only seq hok at_a noK
    have free : ∀ {b : Addr}, b ≠ a → H b = none := fun {b} hb => by
      cases q : H b with
      | none => rfl
      | some u => exact absurd (at_a b (by rw [q]; exact Option.some_ne_none _)) hb
    have nsAt : ∀ {b : Addr} {m : Str → Option Value}, sh.heap.Ns b m → (hidT sh.heap H).Ns b m := by
      rintro b m ⟨o, es, ep, q1, q2, q3⟩
      have hb : b ≠ a := by
        rintro rfl
        rw [obj] at q1
        cases q1
        cases (show Data.seq vs.toArray _ = Data.dict es ep from q2)
      exact ⟨o, es, ep, hidT_get q1 (free hb), q2, q3⟩
    have kinB : K.In (hidT sh.heap H) := fun b o q => by
      refine hidT_get (kin b o q) ?_
      by_cases hb : b = a
      · subst hb
        cases z : H b with
        | none => rfl
        | some u => rw [noK (by rw [z]; exact Option.some_ne_none _)] at q; cases q
      · exact free hb
    obtain ⟨mc, lim1, lim2⟩ := nol
    have md : Mod K mg (hidT sh.heap H) := ⟨kinB, nsAt gns, ⟨mb, nsAt bns, bb⟩, ⟨mc, nsAt lim1, lim2⟩⟩
    have env0 : Env0 P w K mg (hidT sh.heap H) callerA [] sh H := ⟨rfl, md, fun b o q => of_hidT q, Nat.le_of_eq (hidT_size _ _), trivial, (fun b hb => by cases hb), hok, .of_eq gen⟩
    have ran := (D _ kinB (nsAt gns)).run callerA [] sh H ⟨[.ref a], []⟩ [.ref a] [.ref a] _ _ room env0 (bind sh (.ref a)) (.cons rfl .nil) (prom H only seq)
    refine codeAny_mono ran ?_
    rintro (e | fl) s' got
    · exact (noX H e s' got).elim
    · cases fl with
      | ret u =>
        obtain ⟨v, H1, os, bare, un, hok1, ru, q⟩ := got
        cases (show v = .bl true from q)
        cases (show u = Value.bool true from ru)
        refine ⟨rfl, OldK.of_keep fun b o gb => ?_, os, bare⟩
        rcases only b with z | ⟨ob, xs, z⟩
        · exact un.keep b o gb z (fun hb => by cases hb) (fun hb => by cases hb)
        · have z1 := un.frzs b ob _ z
          have y1 := (hok b _ z).1
          have y2 := (hok1 b _ z1).1
          rw [gb] at y1
          cases y1
          exact y2
      | next => exact False.elim got
      | brk => exact False.elim got
      | cont => exact False.elim got
  cases own : K.lookup a with
  | some o =>
    have same := kin a o own
    rw [obj] at same
    cases same
    refine main (fun _ => none) (fun _ => .inl rfl) (.inr ⟨_, vs.toArray, _, own, rfl, rfl, rfl, ?_, ?_⟩) (fun b u z => by cases z) (fun b z => (z rfl).elim) fun z => (z rfl).elim
    · rw [List.size_toArray, n1]; exact short
    · simpa using rvs
  | none =>
    let H1 : Hp := fun b => if b = a then some (.frz { cls := .type "list", data := .seq vs.toArray } (.lst (ns.map V.int))) else none
    have h1 : H1 a = some (.frz { cls := .type "list", data := .seq vs.toArray } (.lst (ns.map V.int))) := if_pos rfl
    have h0 : ∀ {b}, b ≠ a → H1 b = none := fun hb => if_neg hb
    refine main H1 (fun b => ?_) (.inl (.inr ⟨_, h1⟩)) (fun b u z => ?_) (fun b z => ?_) fun _ => own
    · by_cases hb : b = a
      · subst hb; exact .inr ⟨_, _, h1⟩
      · exact .inl (h0 hb)
    · by_cases hb : b = a
      · subst hb
        rw [h1] at z
        cases z
        exact ⟨obj, by rw [List.length_map]; exact short, vs, _, rvs, obj⟩
      · rw [h0 hb] at z; cases z
    · by_cases hb : b = a
      · exact hb
      · exact (z (h0 hb)).elim
theorem walk_end {l : PySem.W.OpenLaw} {n k : Nat} {q : Program} {loose : List Str} {XP : (Str → Option Value) → Heap → Prop} {YP : World → Heap → Prop} {d : DefRec} {x : Str} {m : FM}
    (hn : l.most = some n) (hn2 : n ≤ sizeLine) (hdf : d.params.defaults = []) (hr : RoomG k callerA)
    (F : ∀ (w : World) (mg : Str → Option Value) (fa : Addr) (h : Heap), YP w h → h.Ns mainGlobals mg → mg d.name = some (.ref fa) →
      ∃ (K : PySem.W.Frag) (fd : FuncData), K.In h ∧ (∀ (s : Shared) (u : Value), BindsTo s fd ⟨[u], []⟩ [(x, u)]) ∧
        ∀ base : Heap, K.In base → base.Ns mainGlobals mg → FnG l.prog w K mg base (L2.CX l.prog w) k fa fd [x] (spF (G0 K mg) m))
    (law : ∀ ns : List Int, ns.length ≤ n → ∃ z, m [.kst (ns.map .int)] 0 = .ok (.val (.bl true)) z) :
    PySem.W.WalkO q loose XP YP l.row.toRowW d [] (fun f vs => PySem.call f vs) := by
  refine Att.attach_call hn hdf fun w s₀ s₁ mg mb fa o pm cd doc a vs ns G Y ho hd hcd hmg hobj hints hlen hg => ?_
  obtain ⟨K, fd, KX, hb, hF⟩ := F w mg fa _ Y G.T.g hmg
  refine law_callG KX G.T.g G.T.b G.T.builtins G.T.nolimit hg hobj hints (Nat.le_trans hlen hn2) hr hF hb (fun H hO hS => ?_) fun H e s' h => ?_
  · obtain ⟨z, e⟩ := law ns hlen
    have rs : ∀ ns : List Int, Reps (G0 K mg) none H (ns.map V.int) (ns.map D.int) := fun ns => by
      induction ns with
      | nil => exact .nil
      | cons n r ih => exact .cons (.int n) ih
    refine ⟨none, H, [.kst (ns.map .int)], 0, .cons (.kst hS (rs ns)) .nil, Ext.refl _, ⟨fun _ z => (by cases z), fun b ps z => ?_⟩, trivial, ?_⟩
    · rcases hO b with y | ⟨o, xs, y⟩ <;> (rw [y] at z; cases z)
    rw [e]
    intro v F' H' _ _ r
    cases r
    rfl
  · obtain ⟨_, _, _, _, _, _, _, _, _, _, _, _, z⟩ := h
    exact z
/-- the law's def, as its callers have it, without the global name -/
theorem Cal.fn {P : Program} {w : World} {K : PySem.W.Frag} {mg : Str → Option Value} {base : Heap} {g : Gl} {k : Nat} {x : Str} {f : FM} (c : Cal P w K mg base g k x f) : ∃ (a : Addr) (fd : FuncData) (ps : List Str), FnG P w K mg base (L2.CX P w) k a fd ps (spF g f) ∧ mg x = some (.ref a) := by
  obtain ⟨a, fd, ps, h1, h2, _⟩ := c.ex
  exact ⟨a, fd, ps, h1, h2⟩
/-- THE RULE for the law's own def: as cal_of, the promise alone -/
theorem fnok_of {P : Program} {w : World} {K : PySem.W.Frag} {mg : Str → Option Value} {base : Heap} {g : Gl} {x qual : Str} {params : Arguments} {body : List Stmt} {scope : Scope} {a : Addr} {fd : FuncData} {N ps : List Str} {np n k : Nat} {m : SM} (F : FunD K x qual params body scope [] [] a fd) (S : FnScope N ps scope)
    (hps : ps.length = np) (hn : N.length = n)
    (h : ∀ (cdv : Value) (A : Around) (outer : List Env) (s : Shared) (H : Hp) (E : XK), RoomG k (A.deeper (envOfC qual scope s.heap.objs.size a cdv)) →
      Takes (cxOf (L2.CX P w) P w K mg base N qual scope a cdv A outer s H E) (WD E) →
      PassesOwn (model P w) (A.deeper (envOfC qual scope s.heap.objs.size a cdv)) (envOfC qual scope s.heap.objs.size a cdv) (cxOf (L2.CX P w) P w K mg base N qual scope a cdv A outer s H E).xe →
      DSs g (cxOf (L2.CX P w) P w K mg base N qual scope a cdv A outer s H E) (WD E) body m) : FnG P w K mg base (L2.CX P w) (k + 1) a fd ps (spF g (mkF np n m)) := by
  refine fnG_of F S (fun vs H Q E ⟨p, F, ds, n, r, e, pl, t, hp⟩ => ?_) (fun cdv A outer s H vs Q E hr ⟨p, F, ds, nn, r, e, pl, t, hp⟩ => ?_)
  · rw [r.length, hps]
    unfold mkF at hp
    split at hp
    · assumption
    · exact hp.elim
  · have hl : ds.length = np := by
      unfold mkF at hp
      split at hp
      · assumption
      · exact hp.elim
    unfold mkF at hp
    rw [if_pos hl] at hp
    obtain ⟨t1, b1, b2⟩ := h cdv A outer s H E hr (takes_of rfl rfl rfl rfl) (passes_of rfl)
    refine ⟨t1, b1, b2 p H F [] F _ _ H _ (rel_start r e pl t) ?_⟩
    rw [hn, hl]
    generalize hS : m ⟨ds.map SV.val ++ List.replicate (n - np) .no, nn⟩ = rs at hp
    cases rs with
    | nx s' => exact fun σ' F' H' A' Y' e' => hp .non F' H' Y'.gr0 Y'.pl .non
    | bk s' => exact hp.elim
    | ct s' => exact hp.elim
    | exc c m s' => exact fun cls d σ' F' H' A' Y' e' z => hp cls d F' H' Y'.gr0 Y'.pl z
    | stuck => exact hp.elim
    | rt v s' => cases v with
      | val d => exact fun v σ' F' H' A' Y' e' r' => hp v F' H' Y'.gr0 Y'.pl r'
      | own l => exact fun a vs σ' F' H' A' Y' e' r' k1 k2 k3 k4 => hp a vs F' H' Y'.gr0 Y'.pl r' k1 k2 k3 k4
      | no => exact hp.elim
      | dct l => exact hp.elim
theorem excOk_of {K : PySem.W.Frag} {h : Heap} {mg : Str → Option Value} (X : K.In h) (G : h.Ns mainGlobals mg) {c : String} (e : (He.Fa.exc (Str.ofString c)).ok K = true) (q : (He.Fa.glo (Str.ofString c)).ok K = true) : ExcOk K mg c (He.ga K (Str.ofString c)) := by
  obtain ⟨h1, h2, h3, h4⟩ := He.exc_ok e
  exact ⟨h1, He.glo_ok X G q, h2, h3, h4⟩
theorem globS_of {K : PySem.W.Frag} {h : Heap} {mg : Str → Option Value} (X : K.In h) (G : h.Ns mainGlobals mg) {x z : Str} {s : List Nat} (c : (He.Fa.str x z).ok K = true) (e : z = ⟨s.toArray⟩) : GlobS mg x s := by
  obtain ⟨t, h⟩ := He.str_ok X G c
  exact ⟨t, by rw [h, e]⟩
end Pd

/-! Pd, part K: zip, insert, += of lists, order of tuples, two walks in one display. -/
namespace Pd
open PySem PySem.Spec PyProof.Rows L2

/-! ### zip -/
def zipD (a b : List D) : List D := List.zipWith (fun x y => .tup [x, y]) a b
theorem zipD_get {a b : List D} {i : Nat} {x y : D} (hx : a[i]? = some x) (hy : b[i]? = some y) : (zipD a b)[i]? = some (.tup [x, y]) := by
  unfold zipD
  rw [List.getElem?_zipWith, hx, hy]
theorem zipD_len (a b : List D) : (zipD a b).length = min a.length b.length := by unfold zipD; simp
section
variable {g : Gl} {X : Cx} {W : WX}
theorem it_zipL {p : Option Addr} {F1 : Hp} {a b : Addr} {vs us : List V} {l m : List D} (h : SqL g.K F1 a vs) (r : Reps g p F1 vs l) (h' : SqL g.K F1 b us) (r' : Reps g p F1 us m) : ItOk g p F1 (zipD l m) (Itz g.K a b) where
  go := fun i F H e1 e2 hi => by
    rw [zipD_len] at hi
    obtain ⟨v, hv, _⟩ := r.get (i := i) (List.getElem?_eq_getElem (show i < l.length by omega))
    obtain ⟨u, hu, _⟩ := r'.get (i := i) (List.getElem?_eq_getElem (show i < m.length by omega))
    exact ⟨vs, us, v, u, ext_l (e1.trans e2) h, ext_l (e1.trans e2) h', hv, hu⟩
  yld := fun i F H x H' e1 e2 tb hy hi => by
    rw [zipD_len] at hi
    obtain ⟨T, v, u, rfl, hT, rfl, hv, hu⟩ := hy
    obtain ⟨v', hv', rv⟩ := r.get (i := i) (List.getElem?_eq_getElem (show i < l.length by omega))
    obtain ⟨u', hu', ru⟩ := r'.get (i := i) (List.getElem?_eq_getElem (show i < m.length by omega))
    have q1 := hv vs (ext_l (e1.trans e2) h)
    have q2 := hu us (ext_l (e1.trans e2) h')
    rw [hv'] at q1; cases q1
    rw [hu'] at q2; cases q2
    have G := Gr.new (g := g) (p := none) (o := .tup [v, u]) e2 tb hT
    exact ⟨_, _, zipD_get (List.getElem?_eq_getElem (show i < l.length by omega)) (List.getElem?_eq_getElem (show i < m.length by omega)), G,
      .tup (.inl (.inl (upd_same ..))) (.cons (rv.mono (e1.trans G.ff)) (.cons (ru.mono (e1.trans G.ff)) .nil))⟩
  stop := fun i F H e1 e2 hi => by
    rw [zipD_len] at hi
    exact ⟨vs, us, ext_l (e1.trans e2) h, ext_l (e1.trans e2) h', by rw [r.length, r'.length]; omega⟩
theorem it_zipT {p : Option Addr} {F1 : Hp} {a b : Addr} {vs us : List V} {l m : List D} (h : SqT g.K F1 a vs) (r : Reps g p F1 vs l) (h' : SqT g.K F1 b us) (r' : Reps g p F1 us m) : ItOk g p F1 (zipD l m) (RZ.ItzT g.K a b) where
  go := fun i F H e1 e2 hi => by
    rw [zipD_len] at hi
    obtain ⟨v, hv, _⟩ := r.get (i := i) (List.getElem?_eq_getElem (show i < l.length by omega))
    obtain ⟨u, hu, _⟩ := r'.get (i := i) (List.getElem?_eq_getElem (show i < m.length by omega))
    exact ⟨vs, us, v, u, ext_t (e1.trans e2) h, ext_t (e1.trans e2) h', hv, hu⟩
  yld := fun i F H x H' e1 e2 tb hy hi => by
    rw [zipD_len] at hi
    obtain ⟨T, v, u, rfl, hT, rfl, hv, hu⟩ := hy
    obtain ⟨v', hv', rv⟩ := r.get (i := i) (List.getElem?_eq_getElem (show i < l.length by omega))
    obtain ⟨u', hu', ru⟩ := r'.get (i := i) (List.getElem?_eq_getElem (show i < m.length by omega))
    have q1 := hv vs (ext_t (e1.trans e2) h)
    have q2 := hu us (ext_t (e1.trans e2) h')
    rw [hv'] at q1; cases q1
    rw [hu'] at q2; cases q2
    have G := Gr.new (g := g) (p := none) (o := .tup [v, u]) e2 tb hT
    exact ⟨_, _, zipD_get (List.getElem?_eq_getElem (show i < l.length by omega)) (List.getElem?_eq_getElem (show i < m.length by omega)), G,
      .tup (.inl (.inl (upd_same ..))) (.cons (rv.mono (e1.trans G.ff)) (.cons (ru.mono (e1.trans G.ff)) .nil))⟩
  stop := fun i F H e1 e2 hi => by
    rw [zipD_len] at hi
    exact ⟨vs, us, ext_t (e1.trans e2) h, ext_t (e1.trans e2) h', by rw [r.length, r'.length]; omega⟩
def itZ (m : AM) : AM := fun s => (m s).bind fun ds s1 => match ds with
  | [.lst l, .lst k] => .ok (zipD l k) s1
  | [.tup l, .tup k] => .ok (zipD l k) s1
  | _ => .stuck
theorem di_zip {e e2 : Expr} {ma : AM} {p' pos tpos : Pos} {elts : List Expr} {kk : Nat} (hg : L2.Gl X "zip") (hm : X.mg "zip" = none) (ha : DA g X W [e, e2] ma) (hK : X.K = g.K := by rfl)
    (hs : starEach [e, e2] X.env = (false, eval e X.env) :: starEach [e2] X.env := by rfl) (hpl : (backTo pos (starEach [e2] X.env)).any (·.1) = false := by rfl) : DI g X W (.Tuple elts kk tpos) (.Call (.Name "zip" p') [e, e2] [] pos) (itZ ma) := by
  obtain ⟨t, a1, a2⟩ := ha
  refine ⟨_, RZ.pi_zipA hg hm a1 hs hpl, fun p H0 F0 A F s σ H Q Y hp => a2 p H0 F0 A F s σ H _ Y (hp.bind fun ds s1 vs F1 H1 A1 Y1 e1 r1 hp1 => ?_)⟩
  rw [hK]
  split at hp1
  · obtain ⟨v, w, rfl, rv, rw'⟩ := r1.two
    cases rv with | lst h1 q1 =>
    cases rw' with | lst h2 q2 =>
    exact ⟨_, _, _, _, rfl, .inl ⟨ext_l Y1.ext (.inl h1), ext_l Y1.ext (.inl h2), hp1 _ F1 H1 A1 Y1 (Ext.refl _) (it_zipL (.inl h1) q1 (.inl h2) q2)⟩⟩
  · obtain ⟨v, w, rfl, rv, rw'⟩ := r1.two
    cases rv with | tup h1 q1 =>
    cases rw' with | tup h2 q2 =>
    exact ⟨_, _, _, _, rfl, .inr ⟨ext_t Y1.ext h1, ext_t Y1.ext h2, hp1 _ F1 H1 A1 Y1 (Ext.refl _) (it_zipT h1 q1 h2 q2)⟩⟩
  · exact hp1.elim
end

/-! ### insert -/
def kIns (i : Nat) (ds : List D) (s1 : S) : RS := match s1.sl[i]?, ds with
    | some (.own l), [.int k, d] => if l.length < sizeLine ∧ 0 ≤ k ∧ k < 2 ^ 62 then .nx ⟨s1.sl.set i (.own (l.take k.toNat ++ [d] ++ l.drop k.toNat)), s1.pile⟩ else .stuck
    | _, _ => .stuck
def mIns (i : Nat) (m : AM) : SM := fun s => match s.sl[i]? with
  | some (.own _) => (m s).bs (kIns i)
  | _ => .stuck
section
variable {g : Gl} {X : Cx} {W : WX} {a e1 e2 : Expr} {m : AM} {pos p' apos : Pos}
theorem kIns_some {p : Option Addr} {H0 F0 F : Hp} {Dn : Ends} {i : Nat} {ds : List D} {s1 : S} (h : PostS g W p H0 F0 F Dn (kIns i ds s1)) : ∃ l k d, s1.sl[i]? = some (.own l) ∧ ds = [.int k, d] ∧ l.length < sizeLine ∧ 0 ≤ k ∧ k < 2 ^ 62 ∧
    PostS g W p H0 F0 F Dn (.nx ⟨s1.sl.set i (.own (l.take k.toNat ++ [d] ++ l.drop k.toNat)), s1.pile⟩) := by
  unfold kIns at h
  split at h
  · rename_i l k d q1
    split at h
    · rename_i hl
      exact ⟨l, k, d, q1, rfl, hl.1, hl.2.1, hl.2.2, h⟩
    · exact h.elim
  · exact h.elim
theorem ds_ins {i : Nat} {pe : Pos} (ha : PE X a (tVar i)) (h : DA g X W [e1, e2] m)
    (hbase : attributeBase a "insert" X.env (eval a X.env) = eval a X.env := by rfl)
    (hfew : ((backTo pos (starEach [e1, e2] X.env)).all (fun x => !x.1) && (backToKw pos (keywordEach [] X.env)).all (fun x => x.1.isSome)
      && decide ([e1, e2].length + ([] : List Keyword).length + (if ([] : List Keyword).isEmpty then 0 else 1) < 30)) = true := by rfl)
    (hline : (apos.endLine == pos.line) = true := by rfl) (hst : starEach [e1, e2] X.env = (false, eval e1 X.env) :: starEach [e2] X.env := by rfl) (hplain : (backTo pos (starEach [e2] X.env)).any (·.1) = false := by rfl)
    (hs : swapsWith (.Call (.Attribute a "insert" apos) [e1, e2] [] pos) none pe.line X.env = pure false := by rfl) : DS g X W (.Expr (.Call (.Attribute a "insert" apos) [e1, e2] [] pos) pe) (mIns i m) := by
  obtain ⟨ta, t1, t2⟩ := h
  have hb' := pe_bm (apos := apos) (cpos := pos) PySem.F.plainAttrs_list PySem.F.slot_list_insert PySem.F.type_list_insert (X := X) mt_insert ha t1 hbase hfew hline hst hplain
  refine ⟨_, ps_expr hb' hs, fun p H0 F0 A F s σ H Dn Y hp => ?_⟩
  unfold mIns at hp
  cases q : s.sl[i]? with
  | none => rw [q] at hp; exact hp.elim
  | some sv =>
    rw [q] at hp
    cases sv with
    | no => exact hp.elim
    | val d => exact hp.elim
    | dct l => exact hp.elim
    | own l =>
      obtain ⟨a0, vs0, h1, _, h2, r2⟩ := Y.sl.getOwn q
      refine ⟨.ref a0, h1, .inl ⟨rfl, vs0, .inl (.inl h2)⟩, ?_⟩
      refine t2 p H0 F0 A F s σ H _ Y (PostS.bs hp fun ds s1 v F1 H1 A1 Y1 e1 r1 hp1 => ?_)
      obtain ⟨l1, k, d, q1, rfl, hl, h0, hk, hp1⟩ := kIns_some hp1
      obtain ⟨v1, v2, rfl, rk, rd⟩ := Reps.two r1
      cases rk
      obtain ⟨a1, vs1, k1, _, k2, k3⟩ := Y1.sl.getOwn q1
      have ea : a1 = a0 := by
        have := k1.symm.trans h1
        injection (Option.some.inj (Option.some.inj this))
      subst ea
      obtain ⟨a2, vs2, z1, z2, z3, A2, Y2⟩ := Y1.setList q1 (((k3.take k.toNat).append (.cons rd .nil)).append (k3.drop k.toNat))
      have ea2 : a2 = a1 := by
        have := z1.symm.trans k1
        injection (Option.some.inj (Option.some.inj this))
      subst ea2
      exact ⟨a2, vs1, k, v2, rfl, rfl, k2, by rw [k3.length]; exact hl, h0, by omega, hp1 σ F1 _ A2 Y2 (Ext.refl _)⟩
end

/-! ### order of pairs of a number and a text -/
def ltP (i j : Int) (x y : List Nat) : Bool := if i = j then decide (x < y) else decide (i < j)
def rLtP (K : PySem.W.Frag) : R2 := fun x y H Q => ∃ (a b : Addr) (i j : Int) (s t : Str), x = .ref a ∧ y = .ref b ∧ SqT K H a [.int i, .str s] ∧ SqT K H b [.int j, .str t] ∧ Q (.bl (ltP i j s.cps.toList t.cps.toList)) H
theorem op_ltP {X : Cx} (hu : X.A.units < cLine) : OpR X (compareOp .Lt) (rLtP X.K) := by
  intro pins s σ H x y v u Q I rx ry h
  obtain ⟨a, b, i, j, x1, y1, rfl, rfl, ha, hb, q⟩ := h
  cases rx
  cases ry
  obtain ⟨its, r1, p1, _⟩ := I.tuple ha
  obtain ⟨its2, r2, p2, _⟩ := I.tuple hb
  obtain ⟨u1, u2, rfl, ⟨t1, rfl⟩, ⟨t2, rfl⟩⟩ := r1.two
  obtain ⟨w1, w2, rfl, ⟨t3, rfl⟩, ⟨t4, rfl⟩⟩ := r2.two
  have R := Ob.RcOp.tuples_lt (A := X.A) (s := s) (e := fun k => if k = 0 then i == j else x1 == y1) (r := fun k => if k = 0 then decide (i < j) else decide (x1.cps.toList < y1.cps.toList)) p1 p2 hu (fun k h1 h2 => by
    match k, h1 with
    | 0, _ => exact SeqAt.EqAt.int_int _ _ _ _
    | 1, _ => exact SeqAt.EqAt.str_str _ _ _ _) (fun k h1 h2 _ => by
    match k, h1 with
    | 0, _ => exact Ob.RcOp.lt_int _ _ _ _
    | 1, _ => exact fun _ _ _ _ h => PyProof.Rows.lt_str h)
  have ev : Ob.lexAt (fun k => if k = 0 then i == j else x1 == y1) (fun k => if k = 0 then decide (i < j) else decide (x1.cps.toList < y1.cps.toList)) (decide ((#[Value.int i t1, Value.str x1 t2] : Array Value).size < (#[Value.int j t3, Value.str y1 t4] : Array Value).size)) 0 (min (#[Value.int i t1, Value.str x1 t2] : Array Value).size (#[Value.int j t3, Value.str y1 t4] : Array Value).size) = ltP i j x1.cps.toList y1.cps.toList := by
    show (if (i == j) = true then (if (x1 == y1) = true then false else decide (x1.cps.toList < y1.cps.toList)) else decide (i < j)) = _
    unfold ltP
    by_cases h : i = j
    · rw [if_pos (by simp [h]), if_pos h]
      by_cases h' : x1 = y1
      · subst h'
        rw [if_pos (by simp)]
        exact (decide_eq_false (List.lt_irrefl _)).symm
      · rw [if_neg (by simpa using h')]
    · rw [if_neg (by simpa using h), if_neg h]
  rw [ev] at R
  have z : wpAny (model X.prog X.w) X.A (compareOp .Lt (.ref a) (.ref b)) (EP X pins σ Q) X.xe s := R X.prog X.w X.xe (EP X pins σ Q) ⟨.bl _, H, I, rfl, q⟩
  exact z
def rLtB (K : PySem.W.Frag) : R2 := fun x y H Q => rLtA x y H Q ∨ rLtP K x y H Q
theorem op_ltB {X : Cx} (hu : X.A.units + 64 < cLine) : OpR X (compareOp .Lt) (rLtB X.K) := op_ltA.or (op_ltP (by omega))
def dLtB : D → D → Option D
  | .tup [.int i, .str x], .tup [.int j, .str y] => some (.bl (ltP i j x y))
  | x, y => dLt x y
theorem rop_ltB {g : Gl} : ROp g (rLtB g.K) dLtB := by
  intro p F H x y dx dy Q rx ry e t h
  unfold dLtB at h
  split at h
  · cases rx with | tup h1 r1 =>
    cases ry with | tup h2 r2 =>
    obtain ⟨v1, v2, rfl, q1, q2⟩ := r1.two
    obtain ⟨w1, w2, rfl, q3, q4⟩ := r2.two
    cases q1; cases q2; cases q3; cases q4
    exact .inr ⟨_, _, _, _, _, _, rfl, rfl, ext_t e h1, ext_t e h2, by simpa using h.val e t (.bl _)⟩
  · exact .inl (rop_lt p F H x y _ _ Q rx ry e t h)

/-! ### xs += ys, i += j -/
def kExt (i : Nat) (r : SV) (s1 : S) : RS := match s1.sl[i]?, r with
    | some (.own l), .own k => if l.length + k.length ≤ sizeLine then .nx ⟨s1.sl.set i (.own (l ++ k)), s1.pile⟩ else .stuck
    | _, _ => .stuck
def mExt (i : Nat) (m : OM) : SM := fun s => match s.sl[i]? with
  | some (.own _) => (m s).bs (kExt i)
  | _ => .stuck
section
variable {g : Gl} {X : Cx} {W : WX} {e : Expr} {m : OM} {me : EM} {pos pos' : Pos}
theorem ds_ext {i : Nat} {x : Str} (hN : X.N.Nodup) (hi : X.N[i]? = some x) (hx : Loc X.env.scope x) (he : DO g X W e m) (hf : X.fn x = true ∨ X.env.scope.names.lookup x = some .local := by first | exact .inl rfl | exact .inr rfl | assumption) :
    DS g X W (.AugAssign (.Name x pos') .Add e pos) (mExt i m) := by
  obtain ⟨te, t1, t2⟩ := he
  refine ⟨_, ps_aug (ti := rExt2) hN hi hx t1 (fun pins s σ H x y v u Q I rx ry h => iop_ext pins s σ H x y v u Q I rx ry h) hf, fun p H0 F0 A F s σ H Dn Y hp => ?_⟩
  unfold mExt at hp
  cases q : s.sl[i]? with
  | none => rw [q] at hp; exact hp.elim
  | some sv =>
    rw [q] at hp
    cases sv with
    | no => exact hp.elim
    | val d => exact hp.elim
    | dct l => exact hp.elim
    | own l =>
      obtain ⟨a0, vs0, h1, _, h2, r2⟩ := Y.sl.getOwn q
      refine ⟨.ref a0, h1, ?_⟩
      have hp0 : PostS g W p H0 F0 F Dn ((m s).bs (kExt i)) := hp
      refine t2 p H0 F0 A F s σ H _ Y ?_
      cases qm : m s with
      | stuck => rw [qm] at hp0; exact hp0
      | exc c n s1 => rw [qm] at hp0; exact fun cls d F1 H1 A1 Y1 e1 z => hp0 cls d σ F1 H1 A1 Y1 e1 z
      | ok r s1 =>
        rw [qm] at hp0
        have hp1 : PostS g W p H0 F0 F Dn (kExt i r s1) := hp0
        unfold kExt at hp1
        split at hp1
        · rename_i l1 k q1
          split at hp1
          · rename_i hl
            intro a vs F1 H1 A1 Y1 e1 r1 k1 k2 k3 k4 k5
            obtain ⟨a1, vs1, j1, _, j2, j3⟩ := Y1.sl.getOwn q1
            have ea : a1 = a0 := by
              have := j1.symm.trans h1
              injection (Option.some.inj (Option.some.inj this))
            subst ea
            obtain ⟨a2, vs2, z1, z2, z3, A2, Y2⟩ := Y1.setList q1 (j3.append r1)
            have ea2 : a2 = a1 := by
              have := z1.symm.trans j1
              injection (Option.some.inj (Option.some.inj this))
            subst ea2
            refine ⟨a2, a, vs1, vs, rfl, rfl, j2, k1, by rw [j3.length, r1.length]; exact hl, ?_⟩
            show Dn.nx (σ.set i (some (.ref a2))) _
            rw [set_self z1]
            exact PostS.mono hp1 e1 σ F1 _ A2 Y2 (Ext.refl _)
          · exact hp1.elim
        · exact hp1.elim
def kAug (f : Int → Int → Int) (i : Nat) (d : D) (s1 : S) : RS := match s1.sl[i]?, d with
    | some (.val (.int a)), .int b => .nx ⟨s1.sl.set i (.val (.int (f a b))), s1.pile⟩
    | _, _ => .stuck
def mAug (f : Int → Int → Int) (i : Nat) (m : EM) : SM := fun s => match s.sl[i]? with
  | some (.val (.int _)) => (m s).bs (kAug f i)
  | _ => .stuck
theorem ds_aug {i : Nat} {x : Str} {op : Operator} {f : Int → Int → Int} (ho : PIp X op (ipI f)) (hN : X.N.Nodup) (hi : X.N[i]? = some x) (hx : Loc X.env.scope x) (he : DE g X W e me) (hf : X.fn x = true ∨ X.env.scope.names.lookup x = some .local := by first | exact .inl rfl | exact .inr rfl | assumption) :
    DS g X W (.AugAssign (.Name x pos') op e pos) (mAug f i me) := by
  obtain ⟨te, t1, t2⟩ := he
  refine ⟨_, ps_aug (ti := ipI f) hN hi hx t1 ho hf, fun p H0 F0 A F s σ H Dn Y hp => ?_⟩
  unfold mAug at hp
  split at hp
  · rename_i a q
    obtain ⟨v0, h1, rv⟩ := Y.var q
    cases rv
    refine ⟨_, h1, ?_⟩
    refine t2 p H0 F0 A F s σ H _ Y (PostS.bs hp fun d s1 v F1 H1 A1 Y1 e1 r1 hp1 => ?_)
    unfold kAug at hp1
    split at hp1
    · rename_i a2 b q1
      obtain ⟨v1, h2, rv1⟩ := Y1.var q1
      cases rv1
      have ea : a2 = a := by
        have := h2.symm.trans h1
        injection (Option.some.inj (Option.some.inj this))
      subst ea
      have hb : v = .int b := by cases r1; rfl
      obtain ⟨A2, m2, q2⟩ := Y1.sl.setVal (.int (f a2 b)) i
      exact ⟨a2, b, rfl, hb, hp1 _ F1 H1 A2 (Y1.slots (s' := ⟨s1.sl.set i (.val (.int (f a2 b))), s1.pile⟩) rfl q2) (Ext.refl _)⟩
    · exact hp1.elim
  · exact hp.elim
end

/-! ### dicts of one's own -/
def keyD : D → Option Key
  | .int i => some (.inl i)
  | .str s => some (.inr ⟨s.toArray⟩)
  | _ => none
def kD : Key → D
  | .inl i => .int i
  | .inr x => .str x.cps.toList
def putD (l : List (Key × D)) (k : Key) (d : D) : List (Key × D) := if (l.any fun q => decide (q.1 = k)) = true then l.map (fun q => if q.1 = k then (q.1, d) else q) else l ++ [(k, d)]
abbrev RD (g : Gl) (p : Option Addr) (F : Hp) : (Key × V) → (Key × D) → Prop := fun q r => q.1 = r.1 ∧ Rep g p F q.2 r.2
theorem paired_any {g : Gl} {p : Option Addr} {F : Hp} {k : Key} : ∀ {kvs : List (Key × V)} {l : List (Key × D)}, Paired (RD g p F) kvs l → (kvs.any fun q => decide (q.1 = k)) = (l.any fun q => decide (q.1 = k))
  | _, _, .nil => rfl
  | _, _, .cons h t => by
    rw [List.any_cons, List.any_cons, paired_any t, h.1]
theorem paired_map {g : Gl} {p : Option Addr} {F : Hp} {k : Key} {v : V} {d : D} (r : Rep g p F v d) : ∀ {kvs : List (Key × V)} {l : List (Key × D)}, Paired (RD g p F) kvs l →
    Paired (RD g p F) (kvs.map fun q => if q.1 = k then (q.1, v) else q) (l.map fun q => if q.1 = k then (q.1, d) else q)
  | _, _, .nil => .nil
  | _, _, .cons h t => by
    refine .cons ?_ (paired_map r t)
    rename_i a b _ _
    show RD g p F (if a.1 = k then (a.1, v) else a) (if b.1 = k then (b.1, d) else b)
    by_cases q : a.1 = k
    · rw [if_pos q, if_pos (h.1 ▸ q)]; exact ⟨h.1, r⟩
    · rw [if_neg q, if_neg (h.1 ▸ q)]; exact h
theorem paired_snoc {g : Gl} {p : Option Addr} {F : Hp} {k : Key} {v : V} {d : D} (r : Rep g p F v d) : ∀ {kvs : List (Key × V)} {l : List (Key × D)}, Paired (RD g p F) kvs l → Paired (RD g p F) (kvs ++ [(k, v)]) (l ++ [(k, d)])
  | _, _, .nil => .cons ⟨rfl, r⟩ .nil
  | _, _, .cons h t => .cons h (paired_snoc r t)
theorem paired_put {g : Gl} {p : Option Addr} {F : Hp} {k : Key} {v : V} {d : D} {kvs : List (Key × V)} {l : List (Key × D)} (h : Paired (RD g p F) kvs l) (r : Rep g p F v d) : Paired (RD g p F) (putK kvs k v) (putD l k d) := by
  unfold putK putD
  rw [paired_any h]
  split
  · exact paired_map r h
  · exact paired_snoc r h
def oNewD : OM := fun s => .ok (.dct []) s
section
variable {g : Gl} {X : Cx} {W : WX} {e : Expr} {mk mv : EM} {pos pos' : Pos}
theorem do_dnew : DO g X W (.Dict [] [] pos) oNewD := by
  refine ⟨_, pe_dnewK, fun p H0 F0 A F s σ H Q Y hp => fun q nq => ?_⟩
  have G := Gr.lay (g := g) (p := none) (o := HO.dK []) Y.ext Y.tb nq
  obtain ⟨k1, k2, k3, k4⟩ := Y.fresh nq
  exact hp q [] _ _ A (Y.grow G) G.ff .nil upd_same k1 k2 k3 k4
/-- what stands at an own object is changed -/
theorem Rel.chg {p : Option Addr} {H0 F0 : Hp} {A : List Addr} {F : Hp} {s : S} {σ : L2.St} {H : Hp} {a : Addr} {kvs : List (Key × V)} {o : HO} (Y : Rel g p H0 F0 A F s σ H) (h2 : H a = some (.dK kvs)) (h4 : F a = none) (h5 : H0 a = none) (h6 : p ≠ some a) (h8 : a ∉ A) :
    Rel g p H0 F0 A F s σ (upd H a o) where
  ext := fun b u q => by rw [upd_ne (fun z => by rw [z, h4] at q; cases q)]; exact Y.ext b u q
  ef0 := Y.ef0
  fr := Y.fr
  evo := fun b u q np no => by rw [upd_ne (fun z => by rw [z, h5] at q; cases q)]; exact Y.evo b u q np no
  al := fun b q => by
    by_cases hb : b = a
    · rw [hb]; exact h5
    · rw [upd_ne hb] at q; exact Y.al b q
  pl := ⟨fun b e => by
    obtain ⟨y1, y2⟩ := Y.pl.1 b e
    exact ⟨y1, by rw [upd_ne (fun z => h6 (by rw [e, z]))]; exact y2⟩, Y.pl.2⟩
  tb := g.Tu _ _ _ Y.tb (.inr (.inr (.inl ⟨_, h2⟩)))
  sl := Y.sl.mono (Ext.refl _) fun b hb => ⟨upd_ne fun z => h8 (by rw [← z]; exact hb), (Y.sl.facts b hb).2.1⟩
def kPut (i : Nat) (dv dk : D) (s1 : S) : RS := match s1.sl[i]?, keyD dk with
    | some (.dct l), some k => if l.length < sizeLine then .nx ⟨s1.sl.set i (.dct (putD l k dv)), s1.pile⟩ else .stuck
    | _, _ => .stuck
def kPut0 (i : Nat) (mk : EM) (dv : D) (s1 : S) : RS := match s1.sl[i]? with
  | some (.dct _) => (mk s1).bs (kPut i dv)
  | _ => .stuck
def mDPut (i : Nat) (mk mv : EM) : SM := fun s => (mv s).bs (kPut0 i mk)
theorem key_rep {p : Option Addr} {F : Hp} {v : V} {d : D} {k : Key} (r : Rep g p F v d) (h : keyD d = some k) : v = kV k := by
  cases d with
  | int i => cases r; cases h; rfl
  | str s => cases r; cases h; rfl
  | _ => cases h
theorem paired_len {α β : Type} {R : α → β → Prop} : ∀ {l : List α} {m : List β}, Paired R l m → l.length = m.length
  | _, _, .nil => rfl
  | _, _, .cons _ t => congrArg (· + 1) (paired_len t)
theorem ds_dput {i : Nat} {o ek ev : Expr} (hu : X.A.units + 1 < cLine) (ho : PE X o (tVar i)) (hk : DE g X W ek mk) (hv : DE g X W ev mv) (hs : swapsWith ev (some (.Subscript o ek pos')) pos.line X.env = pure false := by rfl) :
    DS g X W (.Assign [.Subscript o ek pos'] ev pos) (mDPut i mk mv) := by
  obtain ⟨tv, v1, v2⟩ := hv
  obtain ⟨tk, k1, k2⟩ := hk
  refine ⟨_, ps_dput hu ho k1 v1 hs, fun p H0 F0 A F s σ H Dn Y hp => ?_⟩
  refine v2 p H0 F0 A F s σ H _ Y (PostS.bs hp fun dv s1 v F1 H1 A1 Y1 e1 r1 hp1 => ?_)
  unfold kPut0 at hp1
  cases q : s1.sl[i]? with
  | none => rw [q] at hp1; exact hp1.elim
  | some sv =>
    rw [q] at hp1
    cases sv with
    | no => exact hp1.elim
    | val d => exact hp1.elim
    | own l => exact hp1.elim
    | dct l =>
      obtain ⟨a0, kvs0, h1, _, h2, r2⟩ := Y1.sl.getDct q
      refine ⟨.ref a0, h1, ?_⟩
      refine k2 p H0 F0 A1 F1 s1 σ H1 _ Y1 (PostS.bs hp1 fun dk s2 y F2 H2 A2 Y2 e2 r3 hp2 => ?_)
      unfold kPut at hp2
      split at hp2
      · rename_i l1 k q1 qk
        split at hp2
        · rename_i hl
          obtain ⟨a, kvs, A3, z1, z2, z3, z4, z5, z6, z7, z8, z9, q3⟩ := Y2.sl.takeDct i l1 q1
          have ea : a = a0 := by
            have := z1.symm.trans h1
            injection (Option.some.inj (Option.some.inj this))
          subst ea
          have X1 : Rel g p H0 F0 A3 F2 { s2 with sl := s2.sl.set i .no } σ H2 := Y2.slots (s' := { s2 with sl := s2.sl.set i .no }) rfl q3
          have X2 := X1.chg (o := .dK (putK kvs k v)) z2 z4 z5 z6 z8
          obtain ⟨A4, m4, q4⟩ := X2.sl.setDct upd_same (paired_put z3 (r1.mono e2)) z4 z5 z6 z8 i
          have q4 : Sl g p H0 F2 (upd H2 a (.dK (putK kvs k v))) A4 ((s2.sl.set i .no).set i (.dct (putD l1 k dv))) (σ.set i (some (.ref a))) := q4
          rw [set_self z1, List.set_set] at q4
          refine ⟨a, _, rfl, ?_, hp2 σ F2 _ A4 (X2.slots (s' := ⟨s2.sl.set i (.dct (putD l1 k dv)), s2.pile⟩) rfl q4) (Ext.refl _)⟩
          rw [key_rep r3 qk]
          exact DPut.k z2 (by rw [paired_len z3]; exact hl)
        · exact hp2.elim
      · exact hp2.elim
/-- the keys of an own dict, walked: it's gone after -/
def itKy (i : Nat) : AM := fun s => match s.sl[i]? with
  | some (.dct l) => .ok (l.map fun q => kD q.1) ⟨s.sl.set i .no, s.pile⟩
  | _ => .stuck
theorem pi_lockP {tg : Expr} {wi : TI} (h : PI X tg e wi) : PI X tg e (fun σ H R => ∃ d u, H d = some u ∧ Mut (some u) ∧ ∀ od, wi σ (upd H d (.frz od u)) R) :=
  ⟨fun pins s σ H R I ⟨d, u, hd, mu, hw⟩ => let ⟨od, I1⟩ := I.lock hd mu; h.run pins s σ _ R I1 (hw od)⟩
theorem rep_kD {p : Option Addr} {F : Hp} (k : Key) : Rep g p F (kV k) (kD k) := by
  cases k with
  | inl i => exact .int i
  | inr x => exact rep_str x
theorem paired_get {p : Option Addr} {F : Hp} : ∀ {kvs : List (Key × V)} {l : List (Key × D)} {i : Nat} {k : Key} {v : V}, Paired (RD g p F) kvs l → kvs[i]? = some (k, v) → (l.map fun q => kD q.1)[i]? = some (kD k)
  | _, _, _, _, _, .nil, h => by simp at h
  | _, _, 0, _, _, .cons h t, e => by
    simp at e
    rw [List.map_cons, List.getElem?_cons_zero, ← h.1, e]
  | _, _, i + 1, _, _, .cons h t, e => by
    rw [List.map_cons, List.getElem?_cons_succ]
    exact paired_get t (by simpa using e)
theorem it_keys {p : Option Addr} {F F1 : Hp} {a : Addr} {od : Obj} {kvs : List (Key × V)} {l : List (Key × D)} (h : F1 a = some (.frz od (.dK kvs))) (r : Paired (RD g p F) kvs l) : ItOk g p F1 (l.map fun q => kD q.1) (Itk a od kvs) where
  go := fun i F2 H e1 e2 hi => ⟨e2 _ _ (e1 _ _ h), by rw [List.length_map] at hi; rw [paired_len r]; exact hi⟩
  yld := fun i F2 H x H' e1 e2 tb hy hi => by
    obtain ⟨rfl, k, v, hk, rfl⟩ := hy
    exact ⟨kD k, F2, paired_get r hk, Gr.refl e2 tb, rep_kD k⟩
  stop := fun i F2 H e1 e2 hi => ⟨e2 _ _ (e1 _ _ h), by rw [List.length_map] at hi; rw [paired_len r]; exact hi⟩
theorem di_keys {i : Nat} {tg : Expr} (h : PE X e (tVar i)) : DI g X W tg e (itKy i) := by
  refine ⟨_, pi_lockP (pi_keys h), fun p H0 F0 A F s σ H Q Y hp => ?_⟩
  unfold itKy at hp
  cases q : s.sl[i]? with
  | none => rw [q] at hp; exact hp.elim
  | some sv =>
    rw [q] at hp
    cases sv with
    | no => exact hp.elim
    | val d => exact hp.elim
    | own l => exact hp.elim
    | dct l =>
      obtain ⟨a, kvs, A3, z1, z2, z3, z4, z5, z6, z7, z8, z9, q3⟩ := Y.sl.takeDct i l q
      refine ⟨a, _, z2, trivial, fun od => ?_⟩
      have X1 : Rel g p H0 F0 A3 F { s with sl := s.sl.set i .no } σ H := Y.slots (s' := { s with sl := s.sl.set i .no }) rfl q3
      have X2 := X1.chg (o := .frz od (.dK kvs)) z2 z4 z5 z6 z8
      have X3 := X2.freeze upd_same z4 z5 z6 z8
      refine ⟨.ref a, z1, a, od, rfl, .inl ⟨kvs, upd_same, ?_⟩⟩
      exact hp _ _ _ A3 X3 (Ext.new z4) (it_keys upd_same z3)
end
end Pd

/-! Pd, part P: a list display with two fors. -/
namespace Pd
open PySem PySem.Spec PyProof.Rows L2

def lcLoop2 (vs vs1 : List Nat) (gm : D → S → Option S) (t : TM) (it1 : AM) (gm1 : D → S → Option S) (t1 : TM) (e : EM) : List D → List D → S → R (List D)
  | [], acc, s => .ok acc s
  | d :: r, acc, s => match gm d s with
    | none => .stuck
    | some s1 => match t s1 with
      | .ok true s2 => (match it1 s2 with
        | .ok l s3 => (lcLoop vs1 gm1 t1 e l acc { s3 with sl := wipeS s3.sl vs1 }).bind fun acc' s4 => lcLoop2 vs vs1 gm t it1 gm1 t1 e r acc' { s4 with sl := wipeS s4.sl vs }
        | _ => .stuck)
      | .ok false s2 => lcLoop2 vs vs1 gm t it1 gm1 t1 e r acc { s2 with sl := wipeS s2.sl vs }
      | _ => .stuck
def oLc2 (vs vs1 : List Nat) (it : AM) (gm : D → S → Option S) (t : TM) (it1 : AM) (gm1 : D → S → Option S) (t1 : TM) (e : EM) : OM := fun s => (it s).bind fun items s1 =>
  (lcLoop2 vs vs1 gm t it1 gm1 t1 e items [] { s1 with sl := wipeS s1.sl vs }).bind fun acc s2 => .ok (.own acc) { s2 with sl := backS s2.sl s1.sl vs }
theorem wipe_in {vs : List Nat} {σ : L2.St} : ∀ {vs1 : List Nat}, (∀ i ∈ vs1, i ∈ vs) → L2.wipe (L2.wipe σ vs1) vs = L2.wipe σ vs
  | [], _ => rfl
  | v :: r, h => by
    show L2.wipe ((L2.wipe σ r).set v none) vs = _
    rw [wipe_hit (h v (List.mem_cons_self ..))]
    exact wipe_in fun i hi => h i (List.mem_cons_of_mem _ hi)
theorem Rel.grown {g : Gl} {p : Option Addr} {H0 F0 : Hp} {A : List Addr} {F : Hp} {s : S} {σ : L2.St} {H : Hp} {D0 : Addr} {l l' : List V} (z1 : Rel g p H0 F0 A F s σ H) (z2 : H D0 = some (.lst l)) (z3 : F D0 = none) (z4 : D0 ∉ A) (k2 : H0 D0 = none) (k3 : p ≠ some D0) :
    Rel g p H0 F0 A F s σ (upd H D0 (.lst l')) := by
  refine ⟨fun b u q => ?_, z1.ef0, z1.fr, fun b u q np no => ?_, fun b q => ?_, ⟨fun b e => ?_, z1.pl.2⟩, g.Tu _ _ _ z1.tb (.inr (.inl ⟨_, z2⟩)), z1.sl.mono (Ext.refl _) fun b hb => ⟨?_, (z1.sl.facts b hb).2.1⟩⟩
  · rw [upd_ne (fun z => by rw [z, z3] at q; cases q)]; exact z1.ext b u q
  · rw [upd_ne (fun z => by rw [z, k2] at q; cases q)]; exact z1.evo b u q np no
  · by_cases hb : b = D0
    · rw [hb]; exact k2
    · rw [upd_ne hb] at q; exact z1.al b q
  · obtain ⟨y1, y2⟩ := z1.pl.1 b e
    exact ⟨y1, by rw [upd_ne (fun z => k3 (by rw [e, z]))]; exact y2⟩
  · rw [upd_ne (fun z => z4 (by rw [← z]; exact hb))]
theorem sim_lc2 {g : Gl} {W : WX} {vs vs1 : List Nat} {wi wi1 : TI} {gt gt1 : TG} {tt tt1 : TT} {te : TE} {mi mi1 : AM} {gm gm1 : D → S → Option S} {mt mt1 : TM} {me : EM} (nd : vs.Nodup) (hv : ∀ i ∈ vs1, i ∈ vs)
    (i2 : Sim g W (RepI g) wi mi) (g2 : SimGw g vs gt gm) (t2 : Sim g WF RepB tt mt) (j2 : Sim g WF (RepI g) wi1 mi1) (g3 : SimGw g vs1 gt1 gm1) (t3 : Sim g WF RepB tt1 mt1) (e2 : Sim g WF (RepV g) te me) : SimO g W (tLc2 wi gt tt wi1 gt1 tt1 te vs vs1) (oLc2 vs vs1 mi gm mt mi1 gm1 mt1 me) := by
  intro p H0 F0 A F s σ H Q Y hp
  refine i2 p H0 F0 A F s σ H _ Y (PostO.bind hp fun items s1 J F1 H1 A1 Y1 e1 r1 hp1 => ?_)
  intro D0 nD
  obtain ⟨k1, k2, k3, k4⟩ := Y1.fresh nD
  have f0 : F0 D0 = none := by
    cases q : F0 D0 with
    | none => rfl
    | some o => rw [Y1.ef0 _ _ q] at k1; cases k1
  have Y2 := Y1.grow (Gr.lay (o := HO.lst []) Y1.ext Y1.tb nD)
  obtain ⟨Aw, mw, qw⟩ := Y2.sl.wipe vs
  have Yw : Rel g p H0 F0 Aw F1 { s1 with sl := wipeS s1.sl vs } (L2.wipe σ vs) (upd H1 D0 (.lst [])) := Y2.slots (s' := { s1 with sl := wipeS s1.sl vs }) rfl qw
  let P (i : Nat) (H' : Hp) : Prop := ∃ F3 A3 s3 accV acc, Rel g p H0 F0 A3 F3 s3 (L2.wipe σ vs) H' ∧ Ext F1 F3 ∧ H' D0 = some (.lst accV) ∧ Reps g p F3 accV acc ∧ F3 D0 = none ∧ D0 ∉ A3 ∧
    PostO g W p H0 F0 F3 σ Q ((lcLoop2 vs vs1 gm mt mi1 gm1 mt1 me (items.drop i) acc s3).bind fun acc s2 => .ok (.own acc) { s2 with sl := backS s2.sl s1.sl vs })
  refine ⟨fun i n H' => n = items.length - i ∧ i ≤ items.length ∧ P i H', ⟨items.length, by simp, Nat.zero_le _, F1, Aw, _, [], [], Yw, Ext.refl _, upd_same, .nil, k1, fun z => k4 (mw _ z), by simpa using hp1⟩, ?_⟩
  rintro i n H2 ⟨rfl, hi, F3, A3, s3, accV, acc, Y3, e3, hD, rA, fD, aD, hp3⟩
  by_cases hlt : i < items.length
  · have ed : items.drop i = items[i] :: items.drop (i + 1) := List.drop_eq_getElem_cons hlt
    rw [ed] at hp3
    refine .inr ⟨r1.go i F3 H2 e3 Y3.ext hlt, P (i + 1), fun H' h => ⟨items.length - (i + 1), by omega, rfl, hlt, h⟩, fun x H' hy => ?_⟩
    obtain ⟨d, F4, hd, G4, r4⟩ := r1.yld i F3 H2 x H' e3 Y3.ext Y3.tb hy hlt
    have ee : d = items[i] := by rw [List.getElem?_eq_getElem hlt] at hd; exact (Option.some.inj hd).symm
    subst ee
    have Yp := Y3.protect hD fD k2 aD
    have Y4 := Yp.grow G4
    have e4 := e3.trans G4.ff
    unfold lcLoop2 at hp3
    cases qg : gm items[i] s3 with
    | none => rw [qg] at hp3; exact hp3.elim
    | some s4 =>
      simp only [qg] at hp3
      refine g2 p _ F0 A3 F4 s3 _ H' x _ _ Y4 r4 ⟨s4, qg, fun σ5 A5 hw0 Y5 => ?_⟩
      have hw : L2.wipe σ5 vs = L2.wipe σ vs := hw0.trans (wipe_wipe σ vs)
      refine ⟨hw, ?_⟩
      have hp5 := PostO.mono hp3 G4.ff
      refine t2 p _ F0 A5 F4 s4 σ5 H' _ Y5 ?_
      cases qt : mt s4 with
      | exc c n s5 => simp only [qt] at hp5; exact hp5.elim
      | stuck => simp only [qt] at hp5; exact hp5.elim
      | ok b s5 =>
        refine fun b' F6 H6 A6 Y6 e6 eb => ?_
        subst eb
        simp only [qt] at hp5
        cases b' with
        | false =>
          obtain ⟨z1, z2, z3, z4⟩ := Y6.unprotect f0 k3 trivial k2
          obtain ⟨A7, m7, q7⟩ := z1.sl.rewipe hw
          exact ⟨F6, A7, { s5 with sl := wipeS s5.sl vs }, accV, acc, z1.slots (s' := { s5 with sl := wipeS s5.sl vs }) rfl q7, e4.trans e6, z2, rA.mono (G4.ff.trans e6), z3, fun z => z4 (m7 _ z), PostO.mono hp5 e6⟩
        | true =>
          have hp6 := PostO.mono hp5 e6
          refine j2 p _ F0 A6 F6 s5 σ5 H6 _ Y6 ?_
          cases qi : mi1 s5 with
          | exc c n s6 => simp only [qi] at hp6; exact hp6.elim
          | stuck => simp only [qi] at hp6; exact hp6.elim
          | ok l1 s6 =>
            simp only [qi] at hp6
            refine fun J1 F7 H7 A7 Y7 e7 r7 => ?_
            obtain ⟨z1, z2, z3, z4⟩ := Y7.unprotect f0 k3 trivial k2
            obtain ⟨A8, m8, q8⟩ := z1.sl.wipe vs1
            have Y8 : Rel g p H0 F0 A8 F7 { s6 with sl := wipeS s6.sl vs1 } (L2.wipe σ5 vs1) H7 := z1.slots (s' := { s6 with sl := wipeS s6.sl vs1 }) rfl q8
            let P1 (j : Nat) (H' : Hp) : Prop := ∃ F9 A9 s9 accV acc, Rel g p H0 F0 A9 F9 s9 (L2.wipe σ5 vs1) H' ∧ Ext F7 F9 ∧ H' D0 = some (.lst accV) ∧ Reps g p F9 accV acc ∧ F9 D0 = none ∧ D0 ∉ A9 ∧
              PostO g W p H0 F0 F9 σ Q (((lcLoop vs1 gm1 mt1 me (l1.drop j) acc s9).bind fun acc' s4 => lcLoop2 vs vs1 gm mt mi1 gm1 mt1 me (items.drop (i + 1)) acc' { s4 with sl := wipeS s4.sl vs }).bind fun acc s2 => .ok (.own acc) { s2 with sl := backS s2.sl s1.sl vs })
            refine ⟨fun j k H' => k = l1.length - j ∧ j ≤ l1.length ∧ P1 j H', ⟨l1.length, by simp, Nat.zero_le _, F7, A8, _, accV, acc, Y8, Ext.refl _, z2, rA.mono ((G4.ff.trans e6).trans e7), z3, fun z => z4 (m8 _ z), by simpa using PostO.mono hp6 e7⟩, ?_⟩
            rintro j k H9 ⟨rfl, hj, F9, A9, s9, accV9, acc9, Y9, e9, hD9, rA9, fD9, aD9, hp9⟩
            by_cases hlt1 : j < l1.length
            · have ed1 : l1.drop j = l1[j] :: l1.drop (j + 1) := List.drop_eq_getElem_cons hlt1
              rw [ed1] at hp9
              refine .inr ⟨r7.go j F9 H9 e9 Y9.ext hlt1, P1 (j + 1), fun H' h => ⟨l1.length - (j + 1), by omega, rfl, hlt1, h⟩, fun x1 H' hy1 => ?_⟩
              obtain ⟨d1, Fa, hd1, Ga, ra⟩ := r7.yld j F9 H9 x1 H' e9 Y9.ext Y9.tb hy1 hlt1
              have ee1 : d1 = l1[j] := by rw [List.getElem?_eq_getElem hlt1] at hd1; exact (Option.some.inj hd1).symm
              subst ee1
              have Ypa := Y9.protect hD9 fD9 k2 aD9
              have Ya := Ypa.grow Ga
              have ea := e9.trans Ga.ff
              unfold lcLoop at hp9
              cases qg1 : gm1 l1[j] s9 with
              | none => rw [qg1] at hp9; exact hp9.elim
              | some sa =>
                simp only [qg1] at hp9
                refine g3 p _ F0 A9 Fa s9 _ H' x1 _ _ Ya ra ⟨sa, qg1, fun σb Ab hwb Yb => ?_⟩
                have hwc : L2.wipe σb vs1 = L2.wipe σ5 vs1 := hwb.trans (wipe_wipe σ5 vs1)
                refine ⟨hwc, ?_⟩
                have hpb := PostO.mono hp9 Ga.ff
                refine t3 p _ F0 Ab Fa sa σb H' _ Yb ?_
                cases qt1 : mt1 sa with
                | exc c n s5 => simp only [qt1] at hpb; exact hpb.elim
                | stuck => simp only [qt1] at hpb; exact hpb.elim
                | ok b1 sc =>
                  refine fun b2 Fc Hc Ac Yc ec eb1 => ?_
                  subst eb1
                  simp only [qt1] at hpb
                  cases b2 with
                  | false =>
                    obtain ⟨y1, y2, y3, y4⟩ := Yc.unprotect f0 k3 trivial k2
                    obtain ⟨Ad, md, qd⟩ := y1.sl.rewipe hwc
                    exact ⟨Fc, Ad, { sc with sl := wipeS sc.sl vs1 }, accV9, acc9, y1.slots (s' := { sc with sl := wipeS sc.sl vs1 }) rfl qd, ea.trans ec, y2, rA9.mono (Ga.ff.trans ec), y3, fun z => y4 (md _ z), PostO.mono hpb ec⟩
                  | true =>
                    refine e2 p _ F0 Ac Fc sc σb Hc _ Yc ?_
                    have hpc := PostO.mono hpb ec
                    cases qe : me sc with
                    | exc c n s6 => simp only [qe] at hpc; exact hpc.elim
                    | stuck => simp only [qe] at hpc; exact hpc.elim
                    | ok y se =>
                      simp only [qe] at hpc
                      refine fun v Fe He Ae Ye ee re => ?_
                      obtain ⟨y1, y2, y3, y4⟩ := Ye.unprotect f0 k3 trivial k2
                      have hl : accV9.length = acc9.length := rA9.length
                      by_cases hs : acc9.length < sizeLine
                      · rw [if_pos hs] at hpc
                        refine ⟨accV9, y2, by rw [hl]; exact hs, ?_⟩
                        have U := y1.grown (l' := accV9 ++ [v]) y2 y3 y4 k2 k3
                        obtain ⟨Af, mf, qf⟩ := U.sl.rewipe hwc
                        exact ⟨Fe, Af, { se with sl := wipeS se.sl vs1 }, _, acc9 ++ [y], U.slots (s' := { se with sl := wipeS se.sl vs1 }) rfl qf, (ea.trans ec).trans ee, upd_same, (rA9.mono (Ga.ff.trans (ec.trans ee))).append (.cons re .nil), y3, fun z => y4 (mf _ z), PostO.mono hpc ee⟩
                      · rw [if_neg hs] at hpc; exact hpc.elim
            · have ej : j = l1.length := by omega
              subst ej
              rw [List.drop_length] at hp9
              refine .inl ⟨r7.stop _ F9 H9 e9 Y9.ext (Nat.le_refl _), ?_⟩
              have hp9' : PostO g W p H0 F0 F9 σ Q ((lcLoop2 vs vs1 gm mt mi1 gm1 mt1 me (items.drop (i + 1)) acc9 { s9 with sl := wipeS s9.sl vs }).bind fun acc s2 => .ok (.own acc) { s2 with sl := backS s2.sl s1.sl vs }) := hp9
              obtain ⟨Ag, mg, qg'⟩ := Y9.sl.rewipe (σ := σ) (vs := vs) ((wipe_in hv).trans hw)
              exact ⟨F9, Ag, { s9 with sl := wipeS s9.sl vs }, accV9, acc9, Y9.slots (s' := { s9 with sl := wipeS s9.sl vs }) rfl qg', ((e4.trans e6).trans e7).trans e9, hD9, rA9, fD9, fun z => aD9 (mg _ z), hp9'⟩
  · have ei : i = items.length := by omega
    subst ei
    rw [List.drop_length] at hp3
    refine .inl ⟨r1.stop _ F3 H2 e3 Y3.ext (Nat.le_refl _), ?_⟩
    obtain ⟨A4, m4, q4⟩ := Sl.back e3 Y1.sl vs _ A3 nd Y3.sl
    exact hp3 D0 accV F3 H2 A4 (Y3.slots (s' := { s3 with sl := backS s3.sl s1.sl vs }) rfl q4) (Ext.refl _) rA hD fD k2 k3 fun z => aD (m4 _ z)
section
variable {g : Gl} {X : Cx} {W : WX}
/-- a list display of two fors -/
structure Lc2Ok (g : Gl) (X : Cx) (W : WX) (elt tg iter tg1 iter1 : Expr) (ifs ifs1 : List Expr) (scope : Scope) (own : List (Str × Nat)) (vs1 : List Nat) (mi : AM) (gm : D → S → Option S) (mt : TM) (mi1 : AM) (gm1 : D → S → Option S) (mt1 : TM) (me : EM) : Prop where
  hc : X.calm = true
  hN : X.N.Nodup
  hi : DI g X W tg iter mi
  ok : BlkOk X.N X.env.scope scope own
  nd : (own.map (·.2)).Nodup
  hv : ∀ i ∈ vs1, i ∈ own.map (·.2)
  hg : ∀ (s : Shared) (H : Hp) (C : Addr) (cl : List (Str × Addr)) (fp : List Addr), DGw' g (X.blk s H scope (compEnvC scope cl C X.env) fp) (own.map (·.2)) tg gm
  ht : ∀ (s : Shared) (H : Hp) (C : Addr) (cl : List (Str × Addr)) (fp : List Addr), DTs g (X.blk s H scope (compEnvC scope cl C X.env) fp) WF ifs mt
  hi1 : ∀ (s : Shared) (H : Hp) (C : Addr) (cl : List (Str × Addr)) (fp : List Addr), DI g (X.blk s H scope (compEnvC scope cl C X.env) fp) WF tg1 iter1 mi1
  hg1 : ∀ (s : Shared) (H : Hp) (C : Addr) (cl : List (Str × Addr)) (fp : List Addr), DGw' g (X.blk s H scope (compEnvC scope cl C X.env) fp) vs1 tg1 gm1
  ht1 : ∀ (s : Shared) (H : Hp) (C : Addr) (cl : List (Str × Addr)) (fp : List Addr), DTs g (X.blk s H scope (compEnvC scope cl C X.env) fp) WF ifs1 mt1
  he : ∀ (s : Shared) (H : Hp) (C : Addr) (cl : List (Str × Addr)) (fp : List Addr), DE g (X.blk s H scope (compEnvC scope cl C X.env) fp) WF elt me
theorem do_lc2 {elt tg iter tg1 iter1 : Expr} {ifs ifs1 : List Expr} {scope : Scope} {own : List (Str × Nat)} {vs1 : List Nat} {mi mi1 : AM} {gm gm1 : D → S → Option S} {mt mt1 : TM} {me : EM} {pos : Pos} (L : Lc2Ok g X W elt tg iter tg1 iter1 ifs ifs1 scope own vs1 mi gm mt mi1 gm1 mt1 me)
    (hs : ∀ x, foldedSetIterable iter X.env x = pure x := by intro _; rfl) (hs1 : ∀ env x, foldedSetIterable iter1 env x = pure x := by intro _ _; rfl) :
    DO g X W (.ListComp elt [⟨tg, iter, ifs, 0⟩, ⟨tg1, iter1, ifs1, 0⟩] scope pos) (oLc2 (own.map (·.2)) vs1 mi gm mt mi1 gm1 mt1 me) :=
  ⟨_, pe_lc2 L.hc L.hN L.hi.can L.ok L.hv (fun s H C cl fp => (L.hg s H C cl fp).can) (fun s H C cl fp => (L.ht s H C cl fp).can) (fun s H C cl fp => (L.hi1 s H C cl fp).can) (fun s H C cl fp => (L.hg1 s H C cl fp).can) (fun s H C cl fp => (L.ht1 s H C cl fp).can) (fun s H C cl fp => (L.he s H C cl fp).can) hs hs1,
    sim_lc2 L.nd L.hv sim_can simGw_can sim_can sim_can simGw_can sim_can sim_can⟩
end

/-! ### max of a list of numbers -/
def intsOf : List D → Option (List Int)
  | [] => some []
  | .int i :: r => (intsOf r).map (i :: ·)
  | _ :: _ => none
theorem intsOf_rep {g : Gl} {p : Option Addr} {F : Hp} : ∀ {vs : List V} {l : List D} {ns : List Int}, Reps g p F vs l → intsOf l = some ns → vs = ns.map V.int
  | _, _, _, .nil, e => by cases e; rfl
  | _, _, _, .cons (d := d) r t, e => by
    cases d with
    | int i =>
      obtain ⟨ns, e1, e2⟩ := Option.map_eq_some_iff.mp e
      subst e2
      cases r
      rw [intsOf_rep t e1]; rfl
    | _ => cases e
def maxI : List Int → Option Int
  | [] => none
  | i :: r => some (r.foldl max i)
theorem foldl_max : ∀ (l : List Int) (a : Int), a ≤ l.foldl max a ∧ (∀ y ∈ l, y ≤ l.foldl max a) ∧ (l.foldl max a = a ∨ l.foldl max a ∈ l)
  | [], a => ⟨Int.le_refl _, (fun _ h => by cases h), .inl rfl⟩
  | b :: r, a => by
    obtain ⟨h1, h2, h3⟩ := foldl_max r (max a b)
    rw [List.foldl_cons]
    refine ⟨Int.le_trans (by omega) h1, fun y hy => ?_, ?_⟩
    · rcases List.mem_cons.mp hy with rfl | hy
      · exact Int.le_trans (by omega) h1
      · exact h2 y hy
    · rcases h3 with h3 | h3
      · rw [h3]
        by_cases q : a ≤ b
        · exact .inr (by rw [show max a b = b by omega]; exact List.mem_cons_self ..)
        · exact .inl (by omega)
      · exact .inr (List.mem_cons_of_mem _ h3)
def dMaxL : D → Option SV
  | .lst l => ((intsOf l).bind maxI).map fun m => .val (.int m)
  | _ => none
theorem rc_maxL {g : Gl} : RC1 g (rMax g.K) dMaxL := by
  intro p F H v d Q r e t h
  cases d with
  | lst l =>
    obtain ⟨a, vs, rfl, h1, r1⟩ := r.lst e
    have h : OpPO g p F H Q (((intsOf l).bind maxI).map fun m => .val (.int m)) := h
    cases q : intsOf l with
    | none => rw [q] at h; exact h.elim
    | some ns =>
      rw [q] at h
      have ev := intsOf_rep r1 q
      subst ev
      cases ns with
      | nil => exact h.elim
      | cons i r =>
        have h : OpPO g p F H Q (some (.val (.int (r.foldl max i)))) := h
        obtain ⟨m1, m2, m3⟩ := foldl_max r i
        refine ⟨a, i :: r, rfl, .inl h1, by simp, fun m hm hle => ?_⟩
        have em : m = r.foldl max i := by
          have k1 : m ≤ r.foldl max i := by
            rcases List.mem_cons.mp hm with rfl | hm
            · exact m1
            · exact m2 m hm
          have k2 : r.foldl max i ≤ m := by
            rcases m3 with m3 | m3
            · rw [m3]; exact hle i (List.mem_cons_self ..)
            · exact hle _ (List.mem_cons_of_mem _ m3)
          omega
        rw [em]
        exact OpPO.val (d := .int _) h e t (.int _)
  | _ => exact h.elim
end Pd

/-! Pd, part Q: isinstance of several types, list(range(..)), sums, .. -/
namespace Pd
open PySem PySem.Spec PyProof.Rows L2

/-! ### isinstance(x, (A, B)) -/
def kitAnyB (t : String) : List D → Option Bool
  | [] => some false
  | .ty n :: r => (kitB t n).bind fun b => (kitAnyB t r).map fun c => b || c
  | _ :: _ => none
def isiAny (d : D) (ts : List D) : Option D := (tyName d).bind fun t => (kitAnyB t ts).map D.bl
theorem kitAny_of {g : Gl} {p : Option Addr} {F : Hp} {t : String} : ∀ {vs : List V} {ts : List D} {b : Bool}, Reps g p F vs ts → kitAnyB t ts = some b → ∃ us, Paired ClsV vs us ∧ PySem.W.kitAny g.K (.type t) us = some b
  | _, _, _, .nil, h => by cases h; exact ⟨[], .nil, kitAny_nil⟩
  | _, _, _, .cons (d := d) r rr, h => by
    cases d with
    | ty n =>
      obtain ⟨b1, h1, h2⟩ := Option.bind_eq_some_iff.mp h
      obtain ⟨c, h3, h4⟩ := Option.map_eq_some_iff.mp h2
      obtain ⟨us, k1, k2⟩ := kitAny_of rr h3
      cases r
      refine ⟨.type n :: us, .cons (.ty n) k1, kitAny_cons (kit_ty h1) (fun e => ?_) fun e => ?_⟩
      · rw [k2, ← h4, e]; rfl
      · rw [← h4, e]; rfl
    | _ => cases h
def mIsiT (m : EM) (ts : AM) : EM := fun s => (m s).bind fun d s1 => (ts s1).bind fun l s2 => if l.length ≤ sizeLine then R.of (isiAny d l) s2 else .stuck
section
variable {g : Gl} {X : Cx} {W : WX} {e : Expr} {es : List Expr} {m : EM} {ms : AM} {p' pos tpos : Pos} {kk : Nat} {x : Str}
theorem de_isiT (hg : L2.Gl X x) (hm : X.mg x = none) (hv : bootBuiltins x = some (.builtin "isinstance")) (h : DE g X W e m) (ht : DA g X W es ms) (hn : x ≠ "__name__" := by decide) (hdb : (x == ("__debug__" : Str)) = false := by decide) (hK : X.K = g.K := by rfl)
    (he : starEach [e, .Tuple es kk tpos] X.env = (false, eval e X.env) :: starEach [.Tuple es kk tpos] X.env := by rfl) (he2 : starEach [.Tuple es kk tpos] X.env = (false, eval (.Tuple es kk tpos) X.env) :: starEach [] X.env := by rfl) (hpl : (backTo pos (starEach [.Tuple es kk tpos] X.env)).any (·.1) = false := by rfl) :
    DE g X W (.Call (.Name x p') [e, .Tuple es kk tpos] [] pos) (mIsiT m ms) := by
  obtain ⟨t, a1, a2⟩ := h
  obtain ⟨tt, b1, b2⟩ := ht
  refine ⟨_, pe_callB call_isiT hg hm hv (pa_cons a1 (pa_cons (pe_tup b1) pa_nil he2) he) hn hdb he hpl, fun p H0 F0 A F s σ H Q Y hp => ?_⟩
  refine a2 p H0 F0 A F s σ H _ Y (hp.bind fun d s1 v F1 H1 A1 Y1 e1 r1 hp1 => ?_)
  refine b2 p H0 F0 A1 F1 s1 σ H1 _ Y1 (hp1.bind fun l s2 vs F2 H2 A2 Y2 e2 r2 hp2 => ?_)
  by_cases hl : l.length ≤ sizeLine
  · rw [if_pos hl] at hp2
    refine ⟨by rw [r2.length]; exact hl, fun q nq => ?_⟩
    have hp3 : Post g W (RepV g) p H0 F0 F2 σ Q (R.of (isiAny d l) s2) := hp2
    unfold isiAny at hp3
    cases q1 : tyName d with
    | none => rw [q1] at hp3; exact hp3.elim
    | some tn =>
      rw [q1] at hp3
      have hp3 : Post g W (RepV g) p H0 F0 F2 σ Q (R.of ((kitAnyB tn l).map D.bl) s2) := hp3
      cases q2 : kitAnyB tn l with
      | none => rw [q2] at hp3; exact hp3.elim
      | some b =>
        rw [q2] at hp3
        obtain ⟨us, k1, k2⟩ := kitAny_of r2 q2
        have G := Gr.lay (g := g) (p := none) (o := HO.tup vs) Y2.ext Y2.tb nq
        have Y3 := Y2.grow G
        refine ⟨v, q, vs, .type tn, us, b, rfl, upd_same, k1, ?_, by rw [hK]; exact k2, hp3 (.bl b) _ _ A2 Y3 G.ff (.bl b)⟩
        rw [hK]
        exact tyx_of (r1.mono e2) Y3.ext q1
  · rw [if_neg hl] at hp2; exact hp2.elim

/-! ### list(range(..)), tuple(range(..)) -/
def kRg (d e : D) (s : S) : R SV := match d, e with
  | .int i, .int j => if -(2 ^ 62) ≤ i ∧ i < 2 ^ 62 ∧ -(2 ^ 62) ≤ j ∧ j < 2 ^ 62 ∧ (j - i).toNat ≤ 2 ^ 24 then .ok (.own (dInts i (j - i).toNat)) s else .stuck
  | _, _ => .stuck
def oRg2 (a b : EM) : OM := fun s => (a s).bind fun d s1 => (b s1).bind fun e s2 => kRg d e s2
def oRg1 (a : EM) : OM := fun s => (a s).bind fun d s1 => kRg (.int 0) d s1
theorem reps_rg {p : Option Addr} {F : Hp} (i : Int) (n : Nat) : Reps g p F ((List.range n).map fun k => V.int (i + (k : Nat))) (dInts i n) := by
  unfold dInts
  generalize List.range n = l
  induction l with
  | nil => exact .nil
  | cons a r ih => exact .cons (.int _) ih
theorem rg_end {p : Option Addr} {H0 F0 : Hp} {A : List Addr} {F : Hp} {s : S} {σ : L2.St} {H : Hp} {Q : VK} {d e : D} (Y : Rel g p H0 F0 A F s σ H) (h : PostO g W p H0 F0 F σ Q (kRg d e s)) : ∃ i j, d = .int i ∧ e = .int j ∧ RgOk i j ∧ ∀ q, H q = none → Q (.ref q) (upd H q (.lst (rgV i j))) := by
  unfold kRg at h
  split at h
  · rename_i i j
    split at h
    · rename_i hc
      refine ⟨i, j, rfl, rfl, hc, fun q nq => ?_⟩
      have G := Gr.lay (g := g) (p := none) (o := HO.lst (rgV i j)) Y.ext Y.tb nq
      obtain ⟨k1, k2, k3, k4⟩ := Y.fresh nq
      exact h q _ _ _ A (Y.grow G) G.ff (reps_rg i _) upd_same k1 k2 k3 k4
    · exact h.elim
  · exact h.elim
theorem do_lrg2 {a b : Expr} {ma mb : EM} {p1 p2 pos2 : Pos} (hc : X.calm = true) (hg : L2.Gl X "list") (hm : X.mg "list" = none) (hg2 : L2.Gl X "range") (hm2 : X.mg "range" = none) (ha : DE g X W a ma) (hb : DE g X W b mb)
    (na : starEach [a, b] X.env = (false, eval a X.env) :: starEach [b] X.env := by rfl) (nb : starEach [b] X.env = (false, eval b X.env) :: starEach [] X.env := by rfl) (hp : (backTo pos2 (starEach [b] X.env)).any (·.1) = false := by rfl)
    (nc : starEach [.Call (.Name "range" p2) [a, b] [] pos2] X.env = (false, eval (.Call (.Name "range" p2) [a, b] [] pos2) X.env) :: starEach [] X.env := by rfl) :
    DO g X W (.Call (.Name "list" p1) [.Call (.Name "range" p2) [a, b] [] pos2] [] pos) (oRg2 ma mb) := by
  obtain ⟨ta, a1, a2⟩ := ha
  obtain ⟨tb, b1, b2⟩ := hb
  refine ⟨_, pe_listRg hc hg hm (prg_2 hg2 hm2 a1 b1 na nb hp) nc, fun p H0 F0 A F s σ H Q Y hp => ?_⟩
  refine a2 p H0 F0 A F s σ H _ Y (PostO.bind hp fun d s1 v F1 H1 A1 Y1 e1 r1 hp1 => ?_)
  refine b2 p H0 F0 A1 F1 s1 σ H1 _ Y1 (PostO.bind hp1 fun e s2 w F2 H2 A2 Y2 e2 r2 hp2 => ?_)
  obtain ⟨i, j, rfl, rfl, ok, k⟩ := rg_end Y2 hp2
  cases r1; cases r2
  exact ⟨i, j, rfl, rfl, ok, k⟩
theorem do_lrg1 {a : Expr} {ma : EM} {p1 p2 pos2 : Pos} (hc : X.calm = true) (hg : L2.Gl X "list") (hm : X.mg "list" = none) (hg2 : L2.Gl X "range") (hm2 : X.mg "range" = none) (ha : DE g X W a ma)
    (na : starEach [a] X.env = (false, eval a X.env) :: starEach [] X.env := by rfl) (nc : starEach [.Call (.Name "range" p2) [a] [] pos2] X.env = (false, eval (.Call (.Name "range" p2) [a] [] pos2) X.env) :: starEach [] X.env := by rfl) :
    DO g X W (.Call (.Name "list" p1) [.Call (.Name "range" p2) [a] [] pos2] [] pos) (oRg1 ma) := by
  obtain ⟨ta, a1, a2⟩ := ha
  refine ⟨_, pe_listRg hc hg hm (prg_1 hg2 hm2 a1 na) nc, fun p H0 F0 A F s σ H Q Y hp => ?_⟩
  refine a2 p H0 F0 A F s σ H _ Y (PostO.bind hp fun d s1 v F1 H1 A1 Y1 e1 r1 hp1 => ?_)
  obtain ⟨i, j, ei, rfl, ok, k⟩ := rg_end Y1 hp1
  cases r1
  cases ei
  exact ⟨j, rfl, ok, k⟩
end
end Pd

/-! Pd, part R: repr of data. -/
namespace Pd
open PySem PySem.Spec PyProof.Rows L2

section
variable {prog : Program} {w : World} {A : Around} {E : Value → Shared → Prop} {s : Shared} {Q : Value → Shared → Prop}
theorem repr_reads : ∀ {v : Value} {d : PyData} {as : List Addr}, Reads s.heap v d as → d.showable = true → d.hasDict = false → d.shown.length ≤ sizeLine → A.guards = some [] → A.units + 1 + d.depth < cLine →
    (∀ h' t tk, (∀ b o, s.heap.get? b = some o → h'.get? b = some o) → Q (.str d.shown t) { s with heap := h', toks := tk }) → wpAny (model prog w) A (PySem.call (.builtin "repr") [v]) Q E s
  | _, _, _, .none, _, _, _, _, _, hQ => by
    simp only [PyData.shown] at hQ
    exact PySem.P.repr_of_none (hQ s.heap _ _ fun _ _ e => e)
  | _, _, _, .bool b, _, _, _, _, _, hQ => by
    simp only [PyData.shown] at hQ
    exact PySem.P.repr_of_bool (hQ s.heap _ _ fun _ _ e => e)
  | _, _, _, .int i t, hs, _, _, _, _, hQ => by
    simp only [PyData.shown] at hQ
    exact PySem.P.repr_of_int (by simpa [PyData.showable] using hs) (hQ s.heap _ _ fun _ _ e => e)
  | _, _, _, .str x t, _, _, hz, _, _, hQ => by
    simp only [PyData.shown] at hQ hz
    exact PySem.P.repr_of_str (hQ s.heap _ _ fun _ _ e => e) hz
  | _, _, _, .list (a := a) (vs := vs) (xs := xs) h1 h2 h3 h4, hs, hn, hz, hg, hu, hQ => by
    have hz' : (listText (PyData.shownAll xs)).length ≤ sizeLine := by simpa only [PyData.shown] using hz
    obtain ⟨bs, hb, hk⟩ := ReprAllK.of_readsAll (prog := prog) (w := w) h4 (by simpa [PyData.showable] using hs) (fun hx hm => by
      have : PyData.hasDictAll xs = false := by simpa [PyData.hasDict] using hn
      rw [this] at hx; cases hx) (fun t ht => Nat.le_trans (listText_mem_le ht) hz')
    have hna : a ∉ bs := not_mem_of_deeper (Reads.list h1 h2 h3 h4) (by simp only [PyData.depth]; omega) hb
    simp only [PyData.depth] at hu
    simp only [PyData.shown] at hQ
    have ty : s.TypeIs (.ref a) "list" := ⟨_, h1, h2⟩
    obtain ⟨l⟩ := vs
    refine call_repr_slot (by omega) ty PySem.F.slot_list_repr.toG ?_
    cases l with
    | nil =>
      have h4' : ReadsAll s.heap [] xs _ := h4
      cases h4'
      simp only [PyData.shownAll, listText_nil] at hQ
      exact call_list_repr_empty ty h1 h3 ⟨_, _, rfl, hQ s.heap _ _ fun _ _ e => e⟩
    | cons x l =>
      exact call_list_reprK h1 h2 h3 hna (by simpa using hk.length_eq) (fun i y e => hk.item i y (by simpa using e)) (A := A.in1) (g := []) hg (fun b _ => Clear.nil b) (by show A.units + 1 + _ < _; omega) (fun _ _ e => e) (fun h' u tk hk' => ⟨_, _, rfl, hQ h' u tk hk'⟩) hz'
  | _, _, _, .tuple (a := a) (xs := xs) h1 h2 h3 h4, hs, hn, hz, hg, hu, hQ => by
    have hz' : (tupleText (PyData.shownAll xs)).length ≤ sizeLine := by simpa only [PyData.shown] using hz
    obtain ⟨bs, hb, hk⟩ := ReprAllK.of_readsAll (prog := prog) (w := w) h4 (by simpa [PyData.showable] using hs) (fun hx hm => by
      have : PyData.hasDictAll xs = false := by simpa [PyData.hasDict] using hn
      rw [this] at hx; cases hx) (fun t ht => Nat.le_trans (tupleText_mem_le ht) hz')
    have hna : a ∉ bs := not_mem_of_deeper (Reads.tuple h1 h2 h3 h4) (by simp only [PyData.depth]; omega) hb
    simp only [PyData.depth] at hu
    simp only [PyData.shown] at hQ
    refine call_repr_slot (by omega) ⟨_, h1, h2⟩ PySem.F.slot_tuple_repr ?_
    exact call_tuple_reprK h1 h2 h3 hna hk (A := A.in1) (g := []) hg (fun b _ => Clear.nil b) (by show A.units + 1 + _ < _; omega) (fun _ _ e => e) (fun h' u tk hk' => ⟨_, _, rfl, hQ h' u tk hk'⟩) hz'
  | _, _, _, .dict _ _ _ _ _, _, hn, _, _, _, _ => by simp [PyData.hasDict] at hn
end
def rReprD (K : PySem.W.Frag) : List V → Hp → VK → Prop := fun xs H Q => ∃ v d, xs = [v] ∧ Dp K H v d ∧ d.showable = true ∧ d.hasDict = false ∧ d.shown.length ≤ sizeLine ∧ d.depth ≤ 60 ∧ Q (.str d.shown) H
theorem call_reprD {X : Cx} (hg : X.A.guards = some []) (hu : X.A.units + 64 < cLine) : CallR X (.builtin "repr") (rReprD X.K) := by
  intro pins s σ H xs us Q I r h
  obtain ⟨v, d, rfl, hd, h1, h2, h3, h4, q⟩ := h
  obtain ⟨u, rfl, ru⟩ := vals1 r
  obtain ⟨as, rd⟩ := Dp.reads I d v u hd ru
  exact repr_reads rd h1 h2 h3 hg (by omega) fun h' t tk hk => ⟨.str d.shown, H, I.kept hk, ⟨t, rfl⟩, q⟩
def dReprD (d : D) : Option SV := (toP d).bind fun q => if q.showable = true ∧ q.hasDict = false ∧ q.shown.length ≤ sizeLine ∧ q.depth ≤ 60 then some (.val (.str q.shown.cps.toList)) else none
theorem rc_reprD {g : Gl} : RC1 g (rReprD g.K) dReprD := by
  intro p F H v d Q r e t h
  unfold dReprD at h
  cases q : toP d with
  | none => rw [q] at h; exact h.elim
  | some pd =>
    rw [q] at h
    have h : OpPO g p F H Q (if pd.showable = true ∧ pd.hasDict = false ∧ pd.shown.length ≤ sizeLine ∧ pd.depth ≤ 60 then some (.val (.str pd.shown.cps.toList)) else none) := h
    split at h
    · rename_i hc
      have dp : Dp g.K H v pd := by
        rcases r with r | ⟨a, vs, l, rfl, rfl, h1, r1⟩
        · exact Pd.Dp.mono e (dp_of d v pd r q)
        · unfold toP at q
          obtain ⟨qs, q1, q2⟩ := Option.map_eq_some_iff.mp q
          subst q2
          exact .lst (.inl (.inl h1)) (Pd.DpAll.mono e (dps_of l _ _ r1 q1))
      exact ⟨v, pd, rfl, dp, hc.1, hc.2.1, hc.2.2.1, hc.2.2.2, OpPO.val (d := .str pd.shown.cps.toList) h e t (rep_str _)⟩
    · exact h.elim

/-! ### == of texts, whatever their signs are -/
def rEqS (K : PySem.W.Frag) : R2 := fun x y H Q => rEq x y H Q ∨ rEqD K x y H Q
def rNeS (K : PySem.W.Frag) : R2 := fun x y H Q => rNe x y H Q ∨ rNeD K x y H Q
theorem op_eqS {X : Cx} (hu : X.A.units + 64 < cLine) : OpR X (compareOp .Eq) (rEqS X.K) := op_eq.or (op_eqD hu)
theorem op_neS {X : Cx} (hu : X.A.units + 64 < cLine) : OpR X (compareOp .NotEq) (rNeS X.K) := op_ne.or (op_neD hu)
def dEqvS : D → D → Option D
  | .str a, .str b => some (.bl (decide (a = b)))
  | x, y => dEqv x y
def dNevS : D → D → Option D
  | .str a, .str b => some (.bl (!decide (a = b)))
  | x, y => dNev x y
theorem str_inj {a b : List Nat} : (V.str ⟨a.toArray⟩ = V.str ⟨b.toArray⟩) ↔ a = b := by
  constructor
  · intro h
    injection h with h
    have := congrArg (fun z : Str => z.cps.toList) h
    simpa using this
  · rintro rfl; rfl
theorem rop_eqS {g : Gl} : ROp g (rEqS g.K) dEqvS := by
  intro p F H x y dx dy Q rx ry e t h
  unfold dEqvS at h
  split at h
  · cases rx; cases ry
    rename_i a b
    refine .inl ⟨rfl, ?_⟩
    have := h.val e t (.bl _)
    rwa [decide_eq_decide.mpr str_inj]
  · exact .inr (rop_eq p F H x y _ _ Q rx ry e t h)
theorem rop_neS {g : Gl} : ROp g (rNeS g.K) dNevS := by
  intro p F H x y dx dy Q rx ry e t h
  unfold dNevS at h
  split at h
  · cases rx; cases ry
    rename_i a b
    refine .inl ⟨rfl, ?_⟩
    have := h.val e t (.bl _)
    rwa [decide_eq_decide.mpr str_inj]
  · exact .inr (rop_ne p F H x y _ _ Q rx ry e t h)
end Pd

/-! Pd, part S: xs[::-1] of tuples. -/
namespace Pd
open PySem PySem.Spec PyProof.Rows L2

section
variable {prog : Program} {w : World} {A : Around} {E : Value → Shared → Prop} {s : Shared}
theorem rev_places (n : Nat) : Builtin.Slice.slicePlaces ((n : Int) - 1) (-1) (-1) = n := by
  unfold Builtin.Slice.slicePlaces
  rw [if_neg (by decide)]
  by_cases h : (n : Int) - 1 > -1
  · rw [if_pos h, show (- -1 : Int) = 1 by decide, Int.ediv_one]
    omega
  · rw [if_neg h]
    omega
theorem sliceApplied_rev {sl : Addr} {vl vu vs : Value} {n : Nat} {Q : Int × Int × Nat → Shared → Prop} (hs : s.heap.IsSliceOf sl vl vu vs) (pl : IsPart vl none) (pu : IsPart vu none) (ps : IsPart vs (some (-1)))
    (h : Q ((n : Int) - 1, -1, n) s) : wpAny (model prog w) A (Builtin.Slice.sliceApplied (.ref sl) (pure (n : Int))) Q E s := by
  obtain ⟨os, k1, k2, k3⟩ := id hs
  unfold Builtin.Slice.sliceApplied Builtin.Slice.sliceFields
  refine wpAny_bind (wpAny_bind (wpAny_field k1 k3 (x := vl) rfl (wpAny_bind (wpAny_field k1 k3 (x := vu) rfl (wpAny_bind (wpAny_field k1 k3 (x := vs) rfl (wpAny_pure ?_)))))))
  refine wpAny_bind (HT.slicePart_ ps ?_)
  show wpAny _ _ (if ((-1 : Int) == 0) = true then _ else _) _ _ s
  rw [if_neg (by decide)]
  refine wpAny_bind (HT.slicePart_ pl (wpAny_bind (HT.slicePart_ pu (wpAny_bind (wpAny_pure ?_)))))
  show wpAny _ _ (pure (((n : Int) - 1), (-1 : Int), Builtin.Slice.slicePlaces ((n : Int) - 1) (-1) (-1))) _ _ s
  rw [rev_places]
  exact wpAny_pure h
theorem fm_congr {α β : Type} {f g : α → Option β} : ∀ {l : List α}, (∀ x ∈ l, f x = g x) → l.filterMap f = l.filterMap g
  | [], _ => rfl
  | a :: r, h => by
    rw [List.filterMap_cons, List.filterMap_cons, h a (List.mem_cons_self ..), fm_congr fun x hx => h x (List.mem_cons_of_mem _ hx)]
theorem rev_pick (xs : Array Value) : ((List.range xs.size).filterMap fun (m : Nat) => xs[((xs.size : Int) - 1 + (m : Int) * -1).toNat]?).toArray = xs.toList.reverse.toArray := by
  have h := PySem.W.krv_pick xs
  unfold slicePick at h
  rw [PySem.W.krv_bounds] at h
  have h' : ((sliceRange ((xs.size : Int) - 1) (-1) (-1)).filterMap (xs[·]?)).toArray = xs.toList.reverse.toArray := h
  rw [PySem.W.krv_sliceRange, List.filterMap_map] at h'
  rw [← h']
  congr 1
  refine fm_congr fun m hm => ?_
  have := List.mem_range.mp hm
  show _ = xs[xs.size - 1 - m]?
  rw [show ((xs.size : Int) - 1 + (m : Int) * -1).toNat = xs.size - 1 - m by omega]
theorem getItem_tuple_rev {t sl : Addr} {items : Array Value} {vl vu vs : Value} {Q : Value → Shared → Prop} (ht : IsTup s.heap t items) (hs : s.heap.IsSliceOf sl vl vu vs) (pl : IsPart vl none) (pu : IsPart vu none) (ps : IsPart vs (some (-1)))
    (h : Q (.ref s.heap.objs.size) { s with heap := s.heap.push { cls := .type "tuple", data := .seq items.toList.reverse.toArray } })
    (hsz : items.size ≤ sizeLine) : wpAny (model prog w) A (getItem (.ref t) (.ref sl)) Q E s := by
  have fits : sizeOk (.seq items.toList.reverse.toArray) := by
    show items.toList.reverse.toArray.size ≤ sizeLine
    rw [List.size_toArray, List.length_reverse, Array.length_toList]
    exact hsz
  obtain ⟨os, k1, k2, k3⟩ := id hs
  have tys : s.TypeIs (.ref sl) "slice" := ⟨os, k1, k2⟩
  unfold getItem
  try with_reducible refine wpAny_holding ?_
  first | refine wpAny_bind (wpAny_pure ?_) | skip
  refine wpAny_bind (wpAny_sequenceKey ht.typeIs (by decide) ?_)
  refine wpAny_bind (wpAny_callSpecial?_slot (name := Str.ofString "__getitem__") ht.typeIs PyProof.Rows.slot_tuple_getitem
    (wpAny_call_entry PyProof.Rows.slot_tuple_getitem ht.typeIs entry_tuple_getitem ?_ (args_tuple_getitem _ _)))
  show wpAny _ _ (Builtin.Tuple.tupleItemsOf (.ref t) >>= _) _ _ s
  refine wpAny_bind (tupleItemsOf_ ht ?_)
  refine wpAny_bind (wpAny_typeOf tys ?_)
  rw [if_pos (by decide)]
  refine wpAny_bind (sliceApplied_rev hs pl pu ps ?_)
  have no : ¬ ((((items.size : Int) - 1) == 0 && (-1 : Int) == 1 && items.size == items.size) = true) := by
    rw [show ((-1 : Int) == 1) = false by decide, Bool.and_false, Bool.false_and]
    decide
  show wpAny _ _ (if (((items.size : Int) - 1) == 0 && (-1 : Int) == 1 && items.size == items.size) = true then _ else _) _ _ s
  rw [if_neg no, rev_pick]
  first
    | exact wpAny_bind (m := Builtin.Tuple.tupleExact _) (wpAny_newObj_type (wpAny_pure ⟨_, rfl, wpAny_pure h⟩) fits)
    | exact wpAny_bind (m := Builtin.Tuple.tupleExact _) (wpAny_newObj_type (wpAny_bind (wpAny_pure (wpAny_pure ⟨_, rfl, wpAny_pure h⟩))) fits)
    | exact wpAny_bind (wpAny_bind (m := Builtin.Tuple.tupleExact _) (wpAny_newObj_type (wpAny_pure (wpAny_pure ⟨_, rfl, wpAny_pure h⟩)) fits))
    | exact wpAny_bind (wpAny_bind (m := Builtin.Tuple.tupleExact _) (wpAny_newObj_type (wpAny_pure ⟨_, rfl, wpAny_pure h⟩) fits))
end
def tRevT (K : PySem.W.Frag) (te : TE) : TE := fun σ H Q => te σ H fun x H1 => ∃ a xs, x = .ref a ∧ SqT K H1 a xs ∧ ∀ p, H1 p = none → Q (.ref p) (upd H1 p (.tup xs.reverse))
theorem pe_revT {X : Cx} {e : Expr} {te : TE} {k : Nat} {p1 p2 p3 pos : Pos} (he : PE X e te) : PE X (.Subscript e (.Slice none none (some (.UnaryOp .USub (.Constant (.int 1) k p1) p2)) p3) pos) (tRevT X.K te) := by
  refine ⟨fun pins s σ H Q I h => Subscript_ (thn (he.run pins s σ H _ I h) ?_)⟩
  rintro v s1 ⟨x, H1, J, rx, a, xs, rfl, hx, q⟩
  cases rx
  have st : PO X (some (.UnaryOp .USub (.Constant (.int 1) k p1) p2)) (tPart (tUn (rU fun i => .int (-i)) (tC (.int 1)))) := po_some (pe_un un_neg pe_int)
  refine wpAny_Slice (thn (po_none.run pins s1 σ H1 (fun o H2 => o = none ∧ H2 = H1) J ⟨rfl, rfl⟩) ?_)
  rintro vl s2 ⟨_, _, J2, pl, rfl, rfl⟩
  refine thn (po_none.run pins s2 σ _ (fun o H3 => o = none ∧ H3 = _) J2 ⟨rfl, rfl⟩) ?_
  rintro vu s3 ⟨_, _, J3, pu, rfl, rfl⟩
  refine thn (st.run pins s3 σ _ (fun o H4 => o = some (-1) ∧ H4 = _) J3 ⟨1, rfl, -1, rfl, rfl, rfl⟩) ?_
  rintro vs s4 ⟨_, _, J4, ps, rfl, rfl⟩
  have J5 := J4.kept (h' := s4.heap.push { cls := .type "slice", data := .fields #[vl, vu, vs] }) (t' := s4.toks) fun b ob z => Heap.get?_push_of_some _ z
  obtain ⟨its, r, ht, hz⟩ := J5.tuple hx
  have hlen := r.length
  show wpAny (model X.prog X.w) X.A (subscriptTail e (.Slice none none (some (.UnaryOp .USub (.Constant (.int 1) k p1) p2)) p3) (.ref a) (.ref s4.heap.objs.size)) (EP X pins σ Q) X.xe { s4 with heap := s4.heap.push { cls := .type "slice", data := .fields #[vl, vu, vs] } }
  refine tail_any (ops := [.ref a, .ref s4.heap.objs.size]) ht.typeIs PyProof.Rows.slot_tuple_getitem.lookup ?_ (by with_unfolding_all rfl)
  refine getItem_tuple_rev ht (Heap.IsSliceOf.new _ vl vu vs) pl pu ps ?_ (by rw [List.size_toArray]; omega)
  refine ⟨.ref _, _, J5.laid (t' := s4.toks) (o := .tup xs.reverse) (fun b ob z => Heap.get?_push_of_some _ z) (Nat.le_refl _) ?_, rfl, q _ (J5.hok.fresh (Nat.le_refl _))⟩
  exact ⟨by rw [List.length_reverse]; exact hz, _, r.reverse, IsTup.new _ _⟩
def kRev (d : D) (s : S) : R D := match d with
  | .tup l => .ok (.tup l.reverse) s
  | _ => .stuck
def mRevT (m : EM) : EM := fun s => (m s).bind kRev
theorem reps_rev {g : Gl} {p : Option Addr} {F : Hp} : ∀ {vs : List V} {l : List D}, Reps g p F vs l → Reps g p F vs.reverse l.reverse
  | _, _, .nil => .nil
  | _, _, .cons r t => by
    rw [List.reverse_cons, List.reverse_cons]
    exact (reps_rev t).append (.cons r .nil)
theorem de_revT {g : Gl} {X : Cx} {W : WX} {e : Expr} {m : EM} {k : Nat} {p1 p2 p3 pos : Pos} (h : DE g X W e m) (hK : X.K = g.K := by rfl) : DE g X W (.Subscript e (.Slice none none (some (.UnaryOp .USub (.Constant (.int 1) k p1) p2)) p3) pos) (mRevT m) := by
  obtain ⟨t, a1, a2⟩ := h
  refine ⟨_, pe_revT a1, fun p H0 F0 A F s σ H Q Y hp => a2 p H0 F0 A F s σ H _ Y (hp.bind fun d s1 v F1 H1 A1 Y1 e1 r1 hp1 => ?_)⟩
  unfold kRev at hp1
  split at hp1
  · cases r1 with | @tup _ us _ h1 r1 =>
    refine ⟨_, _, rfl, by rw [hK]; exact ext_t Y1.ext h1, fun q nq => ?_⟩
    have G := Gr.new (g := g) (p := none) (o := HO.tup us.reverse) Y1.ext Y1.tb nq
    exact hp1 _ _ _ A1 (Y1.grow G) G.ff (.tup (.inl (.inl upd_same)) (reps_rev (r1.mono G.ff)))
  · exact hp1.elim
end Pd

/-! Pd, part T: list(range(..)) with great numbers, nothing in it. -/
namespace Pd
open PySem PySem.Spec PyProof.Rows L2

section
variable {prog : Program} {w : World} {A : Around} {E : Value → Shared → Prop} {s : Shared}
theorem extend_long {R : Result → Shared → Prop} {r : Addr} {a b c : Int} {t u v : Tok} (nh : A.handled = none) (rg : IsRange s.heap r a b c t u v) (big : Builtin.Range.small a b c = false)
    (none0 : Builtin.Range.rangeSize a b c = 0) (L : Addr) (res : Value) (n0 : Nat) (lst : s.heap.get? L = some { cls := .type "list", data := .seq #[] n0 })
    (fin : ∀ h' tk n1, (∀ b o, b ≠ L → s.heap.get? b = some o → h'.get? b = some o) → h'.get? L = some { cls := .type "list", dict := none, data := .seq #[] n1, slots := #[] } → R (.ok (.ret res)) { s with heap := h', toks := tk }) :
    wpAny (model prog w) A.in1 (Builtin.List.listExtendWith (.ref L) (.ref r) res)
      (fun q s' => match q with | .done f => R (.ok f) s' | .again c' => c'.quiet = true ∧ codeAny (model prog w) A c' R s') (fun e s' => R (.error e) s') s := by
  have ne : L ≠ r := by
    rintro rfl
    rw [rg] at lst
    simp at lst
  have small : L < s.heap.objs.size := Heap.lt_size lst
  have ne2 : L ≠ s.heap.objs.size := Nat.ne_of_lt small
  have away : L ∉ [s.heap.objs.size] := fun m => ne2 (List.mem_singleton.mp m)
  have wk := (Walks.longrange (prog := prog) (w := w) (A := A.in1) nh s.heap.objs.size a c 0).toS
  have loop : ∀ (h1 : Heap) (n1 tk : Nat), IsLongIter h1 s.heap.objs.size (a + ((0 : Nat) : Int) * c) (((0 : Nat) : Int) - ((0 : Nat) : Int)) c → (∀ b o, b ≠ L → s.heap.get? b = some o → h1.get? b = some o) →
      h1.get? L = some { cls := .type "list", data := .seq #[] n1 } → codeAny (model prog w) A (.builtin "list.extend.loop" ⟨[.ref L, .ref s.heap.objs.size, res], []⟩) R { s with heap := h1, toks := tk } := by
    intro h1 n1 tk iter kp at0
    refine codeAny_extend_loopS wk (by rw [sizeLine_eq]; omega) L away res 0 0 _ #[] n1 rfl (Nat.zero_le _) iter at0 (ItemsOf.nil _) fun s' acc n2 mv at1 items => ?_
    rw [Moved.eq_with mv]
    have e0 : acc = #[] := Array.eq_empty_of_size_eq_zero items.1
    subst e0
    refine fin s'.heap s'.toks n2 (fun b o hb e => mv.heap b o (fun m => ?_) (kp b o hb e)) at1
    rcases List.mem_cons.mp m with q | m
    · exact hb q
    · exact absurd (Heap.lt_size e) (by rw [List.mem_singleton.mp m]; exact Nat.lt_irrefl _)
  unfold Builtin.List.listExtendWith
  refine wpAny_bind (wpAny_typeOf (T := "range") ⟨_, rg, rfl⟩ ?_)
  have t1 : Builtin.List.listSameRef (.ref L) (.ref r) = false := by simp [Builtin.List.listSameRef, ne]
  have t2 : (Value.type "range" == Value.type "list") = false := by decide
  have t3 : (Value.type "range" == Value.type "tuple") = false := by decide
  simp only [t1, t2, t3, Bool.or_false, Bool.false_eq_true, if_false]
  refine wpAny_bind (wpAny_pyIter_longrange rg big ?_)
  refine wpAny_bind (wpAny_holding (wpAny_hint_range (n := 0) (Heap.get?_push_of_some _ rg) none0 (by omega) ?_))
  have iter : IsLongIter (s.heap.push { cls := .type "longrange_iterator", data := .fields #[rawInt a, rawInt (Builtin.Range.rangeSize a b c), rawInt c] }) s.heap.objs.size (a + ((0 : Nat) : Int) * c) (((0 : Nat) : Int) - ((0 : Nat) : Int)) c := by
    show IsLongIter _ _ _ _ _
    rw [none0]
    simpa using Heap.get?_push_size _ rfl
  have lst1 := Heap.get?_push_of_some { cls := .type "longrange_iterator", data := .fields #[rawInt a, rawInt (Builtin.Range.rangeSize a b c), rawInt c] } lst
  refine wpAny_ite_split (fun _ => ?_) (fun _ => wpAny_pure ⟨plainId_quiet F.plain_extend_loop _, loop _ n0 _ iter (fun b o _ e => Heap.get?_push_of_some _ e) lst1⟩)
  refine wpAny_bind (wpAny_rule (wpAny_bind ?_))
  show wpAny _ _ (updateSeq L (·.push .none) >>= fun _ => updateSeq L (·.pop)) _ _ _
  refine wpAny_bind (wpAny_updateSeq lst1 rfl ?_)
  have lst2 := Heap.get?_update_self (Obj.mapSeq (·.push Value.none)) lst1 rfl
  refine wpAny_updateSeq (hz := by seq_fits) lst2 rfl (wpAny_pure ⟨plainId_quiet F.plain_extend_loop _, loop _ _ _ ?_ (fun b o hb e => ?_) (Heap.get?_update_self (Obj.mapSeq (·.pop)) lst2 rfl)⟩)
  · exact (Heap.get?_update_other _ _ ne2).trans ((Heap.get?_update_other _ _ ne2).trans iter)
  · exact (Heap.get?_update_other _ _ (Ne.symm hb)).trans ((Heap.get?_update_other _ _ (Ne.symm hb)).trans (Heap.get?_push_of_some _ e))
theorem init_long {R : Result → Shared → Prop} {r : Addr} {a b c : Int} {t u v : Tok} (nh : A.handled = none) (rg : IsRange s.heap r a b c t u v) (big : Builtin.Range.small a b c = false)
    (none0 : Builtin.Range.rangeSize a b c = 0) (L : Addr) (lst : s.heap.get? L = some { cls := .type "list", data := .seq #[] })
    (fin : ∀ h' tk n1, (∀ b o, b ≠ L → s.heap.get? b = some o → h'.get? b = some o) → h'.get? L = some { cls := .type "list", dict := none, data := .seq #[] n1, slots := #[] } → R (.ok (.ret .none)) { s with heap := h', toks := tk }) :
    wpAny (model prog w) A.in1 (Builtin.«list.__init__» ⟨[.ref L, .ref r], []⟩)
      (fun q s' => match q with | .done f => R (.ok f) s' | .again c' => c'.quiet = true ∧ codeAny (model prog w) A c' R s') (fun e s' => R (.error e) s') s := by
  have ne : L ≠ r := by
    rintro rfl
    rw [rg] at lst
    simp at lst
  show wpAny _ _ (do let old ← Builtin.List.listItems (.ref L); Builtin.List.listUpdate (.ref L) (fun _ => #[]); letGo old.toList.reverse; Builtin.List.listExtendWith (.ref L) (.ref r) .none) _ _ s
  refine wpAny_bind ?_
  unfold Builtin.List.listItems
  refine wpAny_bind (wpAny_seqItems lst rfl (wpAny_pure ?_))
  show wpAny _ _ (updateSeq L (fun _ => #[]) >>= fun _ => letGo (#[] : Array Value).toList.reverse >>= fun _ => Builtin.List.listExtendWith (.ref L) (.ref r) .none) _ _ s
  refine wpAny_bind (wpAny_updateSeq lst rfl ?_)
  have lst2 := Heap.get?_update_self (Obj.mapSeq (fun _ => (#[] : Array Value))) lst rfl
  have keep : ∀ b o, b ≠ L → s.heap.get? b = some o → (s.heap.update L (Obj.mapSeq (fun _ => (#[] : Array Value)))).get? b = some o := fun b o hb e => (Heap.get?_update_other _ _ (Ne.symm hb)).trans e
  refine wpAny_bind (wpAny_letGo ?_)
  exact extend_long nh (keep r _ (Ne.symm ne) rg) big none0 L .none _ lst2 fun h' tk n1 k1 k2 => fin h' tk n1 (fun b o hb e => k1 b o hb (keep b o hb e)) k2
theorem list_long {Q : Value → Shared → Prop} {r : Addr} {a b c : Int} {t u v : Tok} (nh : A.handled = none) (rg : IsRange s.heap r a b c t u v) (big : Builtin.Range.small a b c = false) (none0 : Builtin.Range.rangeSize a b c = 0)
    (fin : ∀ h' tk n1, (∀ b o, s.heap.get? b = some o → h'.get? b = some o) → h'.get? s.heap.objs.size = some { cls := .type "list", dict := none, data := .seq #[] n1, slots := #[] } → Q (.ref s.heap.objs.size) { s with heap := h', toks := tk }) :
    wpAny (model prog w) A (PySem.call (.type "list") [.ref r]) Q E s := by
  refine callType_codes (Q₁ := fun obj s₁ => obj = .ref s.heap.objs.size ∧ s₁ = { s with heap := s.heap.push { cls := .type "list", data := .seq #[] } }) F.called_list (F.typeCall_list_1 _) F.entry_list_init (code_list_new _ ⟨rfl, rfl⟩) ?_
  rintro obj s1 ⟨rfl, rfl⟩
  have lst : (s.heap.push { cls := .type "list", data := .seq #[] }).get? s.heap.objs.size = some { cls := .type "list", data := .seq #[] } := Heap.get?_push_size _ rfl
  refine ⟨⟨_, lst, rfl⟩, F.args_list_init_2 _ _, init_long (A := A.in1) nh (Heap.get?_push_of_some _ rg) big none0 _ lst fun h' tk n1 k1 k2 => ?_⟩
  exact ⟨rfl, fin h' tk n1 (fun b o e => k1 b o (Nat.ne_of_lt (Heap.lt_size e)) (Heap.get?_push_of_some _ e)) k2⟩
end

/-! ### the rule -/
def kRgA (d e : D) (s : S) : R SV := match d, e with
  | .int i, .int j => if -(2 ^ 62) ≤ i ∧ i < 2 ^ 62 ∧ -(2 ^ 62) ≤ j ∧ j < 2 ^ 62 ∧ (j - i).toNat ≤ 2 ^ 24 then .ok (.own (dInts i (j - i).toNat)) s else if j ≤ i then .ok (.own []) s else .stuck
  | _, _ => .stuck
def oRgA (a b : EM) : OM := fun s => (a s).bind fun d s1 => (b s1).bind fun e s2 => kRgA d e s2
def tLstRgA (te : L2.St → Hp → (Int → Int → Hp → Prop) → Prop) : TE := fun σ H Q => te σ H fun a b H1 => (RgOk a b ∧ ∀ q, H1 q = none → Q (.ref q) (upd H1 q (.lst (rgV a b)))) ∨ (b ≤ a ∧ ∀ q, H1 q = none → Q (.ref q) (upd H1 q (.lst [])))
theorem rgV_nil {a b : Int} (h : b ≤ a) : rgV a b = [] := by
  have : (rgV a b).length = 0 := by rw [rgV_length]; omega
  exact List.eq_nil_of_length_eq_zero this
section
variable {g : Gl} {X : Cx} {W : WX} {pos : Pos}
theorem pe_listRgA {e : Expr} {te : L2.St → Hp → (Int → Int → Hp → Prop) → Prop} {p1 : Pos} (hc : X.calm = true) (hg : L2.Gl X "list") (hm : X.mg "list" = none) (he : PRg X e te) (na : starEach [e] X.env = (false, eval e X.env) :: starEach [] X.env := by rfl) :
    PE X (.Call (.Name "list" p1) [e] [] pos) (tLstRgA te) := by
  refine ⟨fun pins s σ H Q I h => ?_⟩
  refine Call_ (ld_blt I hg hm boot_list (PyProof.Rows.callWith_type1 (args_cons (thn (he pins s σ H _ I h) ?_) na) na))
  rintro x s1 ⟨r, a, b, t, u, v, H1, rfl, rg, J, q⟩
  refine args_nil ?_
  have fin : ∀ (l : List V) (h' : Heap) (tk : Nat) (acc : Array Value) (n1 : Nat), l.length ≤ sizeLine → Vals l acc.toList → (∀ b o, s1.heap.get? b = some o → h'.get? b = some o) →
      h'.get? s1.heap.objs.size = some { cls := .type "list", dict := none, data := .seq acc n1, slots := #[] } → (∀ q, H1 q = none → Q (.ref q) (upd H1 q (.lst l))) → EP X pins σ Q (.ref s1.heap.objs.size) { s1 with heap := h', toks := tk } := by
    intro l h' tk acc n1 hl rv kp at0 hq
    refine ⟨.ref s1.heap.objs.size, upd H1 s1.heap.objs.size (.lst l), J.laid kp (Nat.le_refl _) (show ObjOk X.prog X.w _ _ _ (.lst l) from ⟨hl, acc.toList, n1, rv, ?_⟩), rfl, hq _ (J.hok.fresh (Nat.le_refl _))⟩
    rw [Array.toArray_toList]; exact at0
  rcases q with ⟨ok, q⟩ | ⟨le, q⟩
  · obtain ⟨b1, b2, b3, b4, b5⟩ := ok
    refine call_list_range (n := (b - a).toNat) (J.ok.hd hc) rg (small_one b1 b2 b3 b4) (rangeSize_nat a b) b5 fun h' tk acc c' kp at0 its => ?_
    exact fin (rgV a b) h' tk acc c' (by rw [rgV_length, sizeLine_eq]; omega) (vals_rg its) kp at0 q
  · have n0 : (b - a).toNat = 0 := by omega
    cases sm : Builtin.Range.small a b 1 with
    | true =>
      refine call_list_range (n := (b - a).toNat) (J.ok.hd hc) rg sm (rangeSize_nat a b) (by omega) fun h' tk acc c' kp at0 its => ?_
      have rv := vals_rg its
      rw [rgV_nil le] at rv
      exact fin [] h' tk acc c' (Nat.zero_le _) rv kp at0 q
    | false =>
      refine list_long (J.ok.hd hc) rg sm (by rw [rangeSize_nat a b, n0]; rfl) fun h' tk n1 kp at0 => ?_
      exact fin [] h' tk #[] n1 (Nat.zero_le _) .nil kp at0 q
theorem rg_endA {p : Option Addr} {H0 F0 : Hp} {A : List Addr} {F : Hp} {s : S} {σ : L2.St} {H : Hp} {Q : VK} {d e : D} (Y : Rel g p H0 F0 A F s σ H) (h : PostO g W p H0 F0 F σ Q (kRgA d e s)) :
    ∃ i j, d = .int i ∧ e = .int j ∧ ((RgOk i j ∧ ∀ q, H q = none → Q (.ref q) (upd H q (.lst (rgV i j)))) ∨ (j ≤ i ∧ ∀ q, H q = none → Q (.ref q) (upd H q (.lst [])))) := by
  unfold kRgA at h
  split at h
  · rename_i i j
    refine ⟨i, j, rfl, rfl, ?_⟩
    split at h
    · rename_i hc
      refine .inl ⟨hc, fun q nq => ?_⟩
      have G := Gr.lay (g := g) (p := none) (o := HO.lst (rgV i j)) Y.ext Y.tb nq
      obtain ⟨k1, k2, k3, k4⟩ := Y.fresh nq
      exact h q _ _ _ A (Y.grow G) G.ff (reps_rg i _) upd_same k1 k2 k3 k4
    · split at h
      · rename_i hle
        refine .inr ⟨hle, fun q nq => ?_⟩
        have G := Gr.lay (g := g) (p := none) (o := HO.lst []) Y.ext Y.tb nq
        obtain ⟨k1, k2, k3, k4⟩ := Y.fresh nq
        exact h q _ _ _ A (Y.grow G) G.ff .nil upd_same k1 k2 k3 k4
      · exact h.elim
  · exact h.elim
theorem do_lrgA {a b : Expr} {ma mb : EM} {p1 p2 pos2 : Pos} (hc : X.calm = true) (hg : L2.Gl X "list") (hm : X.mg "list" = none) (hg2 : L2.Gl X "range") (hm2 : X.mg "range" = none) (ha : DE g X W a ma) (hb : DE g X W b mb)
    (na : starEach [a, b] X.env = (false, eval a X.env) :: starEach [b] X.env := by rfl) (nb : starEach [b] X.env = (false, eval b X.env) :: starEach [] X.env := by rfl) (hp : (backTo pos2 (starEach [b] X.env)).any (·.1) = false := by rfl)
    (nc : starEach [.Call (.Name "range" p2) [a, b] [] pos2] X.env = (false, eval (.Call (.Name "range" p2) [a, b] [] pos2) X.env) :: starEach [] X.env := by rfl) :
    DO g X W (.Call (.Name "list" p1) [.Call (.Name "range" p2) [a, b] [] pos2] [] pos) (oRgA ma mb) := by
  obtain ⟨ta, a1, a2⟩ := ha
  obtain ⟨tb, b1, b2⟩ := hb
  refine ⟨_, pe_listRgA hc hg hm (prg_2 hg2 hm2 a1 b1 na nb hp) nc, fun p H0 F0 A F s σ H Q Y hp => ?_⟩
  refine a2 p H0 F0 A F s σ H _ Y (PostO.bind hp fun d s1 v F1 H1 A1 Y1 e1 r1 hp1 => ?_)
  refine b2 p H0 F0 A1 F1 s1 σ H1 _ Y1 (PostO.bind hp1 fun e s2 w F2 H2 A2 Y2 e2 r2 hp2 => ?_)
  obtain ⟨i, j, rfl, rfl, k⟩ := rg_endA Y2 hp2
  cases r1; cases r2
  exact ⟨i, j, rfl, rfl, k⟩
end
end Pd

/-! Pd, part U: a display over a list of one's own, which stays one's own. -/
namespace Pd
open PySem PySem.Spec PyProof.Rows L2

/-- what is walked, by what the states keep -/
structure ItOk2 (g : Gl) (p : Option Addr) (H0 F0 F1 : Hp) (items : List D) (J : It) : Prop where
  go : ∀ i F H A s σ, Rel g p H0 F0 A F s σ H → Ext F1 F → i < items.length → J.go i H
  yld : ∀ i F H A s σ x H', Rel g p H0 F0 A F s σ H → Ext F1 F → J.yld i H x H' → i < items.length → ∃ d F', items[i]? = some d ∧ Gr g none F H F' H' ∧ Rep g p F' x d
  stop : ∀ i F H A s σ, Rel g p H0 F0 A F s σ H → Ext F1 F → items.length ≤ i → J.stop i H
theorem lc_walk {g : Gl} {W : WX} {vs : List Nat} {gt : TG} {tt : TT} {te : TE} {gm : D → S → Option S} {mt : TM} {me : EM} {p : Option Addr} {H0 F0 F1 H1 : Hp} {A1 : List Addr} {s1 : S} {σ : L2.St} {Q : VK} {items : List D} {J : It} (nd : vs.Nodup)
    (g2 : SimGw g vs gt gm) (t2 : Sim g WF RepB tt mt) (e2 : Sim g WF (RepV g) te me) (Y1 : Rel g p H0 F0 A1 F1 s1 σ H1) (r1 : ItOk2 g p H0 F0 F1 items J)
    (hp1 : PostO g W p H0 F0 F1 σ Q ((lcLoop vs gm mt me items [] { s1 with sl := wipeS s1.sl vs }).bind fun acc s2 => .ok (.own acc) { s2 with sl := backS s2.sl s1.sl vs })) :
    ∀ D, H1 D = none → ∃ Wt : Nat → Nat → Hp → Prop, (∃ m, Wt 0 m (upd H1 D (.lst []))) ∧ ∀ i m H, Wt i m H →
      (J.stop i H ∧ Q (.ref D) H) ∨ (J.go i H ∧ ∃ Nx : Hp → Prop, (∀ H', Nx H' → ∃ m', m' < m ∧ Wt (i + 1) m' H') ∧ ∀ x H', J.yld i H x H' → gt x (L2.wipe σ vs) H' fun σ2 H2 => L2.wipe σ2 vs = L2.wipe σ vs ∧ tt σ2 H2 fun b H3 =>
        if b = true then te σ2 H3 fun y H4 => ∃ acc, H4 D = some (.lst acc) ∧ acc.length < sizeLine ∧ Nx (upd H4 D (.lst (acc ++ [y]))) else Nx H3) := by
  intro D0 nD
  obtain ⟨k1, k2, k3, k4⟩ := Y1.fresh nD
  have f0 : F0 D0 = none := by
    cases q : F0 D0 with
    | none => rfl
    | some o => rw [Y1.ef0 _ _ q] at k1; cases k1
  have Y2 := Y1.grow (Gr.lay (o := HO.lst []) Y1.ext Y1.tb nD)
  obtain ⟨Aw, mw, qw⟩ := Y2.sl.wipe vs
  have Yw : Rel g p H0 F0 Aw F1 { s1 with sl := wipeS s1.sl vs } (L2.wipe σ vs) (upd H1 D0 (.lst [])) := Y2.slots (s' := { s1 with sl := wipeS s1.sl vs }) rfl qw
  -- what is held at each turn
  let P (i : Nat) (H' : Hp) : Prop := ∃ F3 A3 s3 accV acc, Rel g p H0 F0 A3 F3 s3 (L2.wipe σ vs) H' ∧ Ext F1 F3 ∧ H' D0 = some (.lst accV) ∧ Reps g p F3 accV acc ∧ F3 D0 = none ∧ D0 ∉ A3 ∧
    PostO g W p H0 F0 F3 σ Q ((lcLoop vs gm mt me (items.drop i) acc s3).bind fun acc s2 => .ok (.own acc) { s2 with sl := backS s2.sl s1.sl vs })
  refine ⟨fun i n H' => n = items.length - i ∧ i ≤ items.length ∧ P i H', ⟨items.length, by simp, Nat.zero_le _, F1, Aw, _, [], [], Yw, Ext.refl _, upd_same, .nil, k1, fun z => k4 (mw _ z), by simpa using hp1⟩, ?_⟩
  rintro i n H2 ⟨rfl, hi, F3, A3, s3, accV, acc, Y3, e3, hD, rA, fD, aD, hp3⟩
  by_cases hlt : i < items.length
  · have ed : items.drop i = items[i] :: items.drop (i + 1) := List.drop_eq_getElem_cons hlt
    rw [ed] at hp3
    refine .inr ⟨r1.go i F3 H2 A3 s3 _ Y3 e3 hlt, P (i + 1), fun H' h => ⟨items.length - (i + 1), by omega, rfl, hlt, h⟩, fun x H' hy => ?_⟩
    obtain ⟨d, F4, hd, G4, r4⟩ := r1.yld i F3 H2 A3 s3 _ x H' Y3 e3 hy hlt
    have ee : d = items[i] := by rw [List.getElem?_eq_getElem hlt] at hd; exact (Option.some.inj hd).symm
    subst ee
    have Yp := Y3.protect hD fD k2 aD
    have Y4 := Yp.grow G4
    have e4 := e3.trans G4.ff
    unfold lcLoop at hp3
    cases qg : gm items[i] s3 with
    | none => rw [qg] at hp3; exact hp3.elim
    | some s4 =>
      simp only [qg] at hp3
      refine g2 p _ F0 A3 F4 s3 _ H' x _ _ Y4 r4 ⟨s4, qg, fun σ5 A5 hw0 Y5 => ?_⟩
      have hw : L2.wipe σ5 vs = L2.wipe σ vs := hw0.trans (wipe_wipe σ vs)
      refine ⟨hw, ?_⟩
      have hp5 := PostO.mono hp3 G4.ff
      refine t2 p _ F0 A5 F4 s4 σ5 H' _ Y5 ?_
      cases qt : mt s4 with
      | exc c n s5 => simp only [qt] at hp5; exact hp5.elim
      | stuck => simp only [qt] at hp5; exact hp5.elim
      | ok b s5 =>
        refine fun b' F6 H6 A6 Y6 e6 eb => ?_
        subst eb
        simp only [qt] at hp5
        cases b' with
        | false =>
          obtain ⟨z1, z2, z3, z4⟩ := Y6.unprotect f0 k3 trivial k2
          obtain ⟨A7, m7, q7⟩ := z1.sl.rewipe hw
          exact ⟨F6, A7, { s5 with sl := wipeS s5.sl vs }, accV, acc, z1.slots (s' := { s5 with sl := wipeS s5.sl vs }) rfl q7, e4.trans e6, z2, rA.mono (G4.ff.trans e6), z3, fun z => z4 (m7 _ z), PostO.mono hp5 e6⟩
        | true =>
          refine e2 p _ F0 A6 F6 s5 σ5 H6 _ Y6 ?_
          have hp6 := PostO.mono hp5 e6
          cases qe : me s5 with
          | exc c n s6 => simp only [qe] at hp6; exact hp6.elim
          | stuck => simp only [qe] at hp6; exact hp6.elim
          | ok y s6 =>
            simp only [qe] at hp6
            refine fun v F7 H7 A7 Y7 e7 r7 => ?_
            obtain ⟨z1, z2, z3, z4⟩ := Y7.unprotect f0 k3 trivial k2
            have hl : accV.length = acc.length := rA.length
            by_cases hs : acc.length < sizeLine
            · rw [if_pos hs] at hp6
              refine ⟨accV, z2, by rw [hl]; exact hs, ?_⟩
              -- the list has grown
              have U : Rel g p H0 F0 A7 F7 s6 σ5 (upd H7 D0 (.lst (accV ++ [v]))) := by
                refine ⟨fun b u q => ?_, z1.ef0, z1.fr, fun b u q np no => ?_, fun b q => ?_, ⟨fun b e => ?_, z1.pl.2⟩, g.Tu _ _ _ z1.tb (.inr (.inl ⟨_, z2⟩)), z1.sl.mono (Ext.refl _) fun b hb => ⟨?_, (z1.sl.facts b hb).2.1⟩⟩
                · rw [upd_ne (fun z => by rw [z, z3] at q; cases q)]; exact z1.ext b u q
                · rw [upd_ne (fun z => by rw [z, k2] at q; cases q)]; exact z1.evo b u q np no
                · by_cases hb : b = D0
                  · rw [hb]; exact k2
                  · rw [upd_ne hb] at q; exact z1.al b q
                · obtain ⟨y1, y2⟩ := z1.pl.1 b e
                  exact ⟨y1, by rw [upd_ne (fun z => k3 (by rw [e, z]))]; exact y2⟩
                · rw [upd_ne (fun z => z4 (by rw [← z]; exact hb))]
              obtain ⟨A8, m8, q8⟩ := U.sl.rewipe hw
              exact ⟨F7, A8, { s6 with sl := wipeS s6.sl vs }, _, acc ++ [y], U.slots (s' := { s6 with sl := wipeS s6.sl vs }) rfl q8, (e4.trans e6).trans e7, upd_same, (rA.mono (G4.ff.trans (e6.trans e7))).append (.cons r7 .nil), z3, fun z => z4 (m8 _ z), PostO.mono hp6 e7⟩
            · rw [if_neg hs] at hp6; exact hp6.elim
  · have ei : i = items.length := by omega
    subst ei
    rw [List.drop_length] at hp3
    refine .inl ⟨r1.stop _ F3 H2 A3 s3 _ Y3 e3 (Nat.le_refl _), ?_⟩
    obtain ⟨A4, m4, q4⟩ := Sl.back e3 Y1.sl vs _ A3 nd Y3.sl
    exact hp3 D0 accV F3 H2 A4 (Y3.slots (s' := { s3 with sl := backS s3.sl s1.sl vs }) rfl q4) (Ext.refl _) rA hD fD k2 k3 fun z => aD (m4 _ z)

/-- over the own list of slot i, which has no value within -/
def lcFinB (i : Nat) (vs : List Nat) (old : List SV) (l : List D) (acc : List D) (s2 : S) : R SV := .ok (.own acc) ⟨(backS s2.sl old vs).set i (.own l), s2.pile⟩
def oLcB (i : Nat) (vs : List Nat) (gm : D → S → Option S) (t : TM) (e : EM) : OM := fun s => match s.sl[i]? with
  | some (.own l) => (lcLoop vs gm t e l [] ⟨wipeS (s.sl.set i .no) vs, s.pile⟩).bind (lcFinB i vs (s.sl.set i .no) l)
  | _ => .stuck
theorem sim_lcB {g : Gl} {W : WX} {i : Nat} {vs : List Nat} {gt : TG} {tt : TT} {te : TE} {gm : D → S → Option S} {mt : TM} {me : EM} (nd : vs.Nodup)
    (g2 : SimGw g vs gt gm) (t2 : Sim g WF RepB tt mt) (e2 : Sim g WF (RepV g) te me) : SimO g W (tLc (iList g.K (tVar i)) gt tt te vs) (oLcB i vs gm mt me) := by
  intro p H0 F0 A F s σ H Q Y hp
  unfold oLcB at hp
  cases q : s.sl[i]? with
  | none => rw [q] at hp; exact hp.elim
  | some sv =>
    rw [q] at hp
    cases sv with
    | no => exact hp.elim
    | val d => exact hp.elim
    | dct l => exact hp.elim
    | own l =>
      have hp : PostO g W p H0 F0 F σ Q ((lcLoop vs gm mt me l [] ⟨wipeS (s.sl.set i .no) vs, s.pile⟩).bind (lcFinB i vs (s.sl.set i .no) l)) := hp
      obtain ⟨a, us, A1, z1, z2, z3, z4, z5, z6, z7, z8, z9, q3⟩ := Y.sl.takeOwn i l q
      have X1 : Rel g p H0 F0 A1 F ⟨s.sl.set i .no, s.pile⟩ σ H := Y.slots (s' := ⟨s.sl.set i .no, s.pile⟩) rfl q3
      have X2 := X1.protect z2 z4 z5 z8
      have f0 : F0 a = none := by
        cases k : F0 a with
        | none => rfl
        | some o => rw [Y.ef0 _ _ k] at z4; cases z4
      have at_a : ∀ {F2 : Hp} {A2 : List Addr} {s2 : S} {σ2 : L2.St} {H2 : Hp}, Rel g p (upd H0 a (.lst us)) F0 A2 F2 s2 σ2 H2 → H2 a = some (.lst us) := fun Z => Z.evo a _ upd_same z6 trivial
      refine ⟨.ref a, z1, a, rfl, ⟨us, .inl (.inl z2)⟩, ?_⟩
      refine lc_walk (W := W) nd g2 t2 e2 X2 (items := l) ⟨fun j F2 H2 A2 s2 σ2 Z e hj => ?_, fun j F2 H2 A2 s2 σ2 x H' Z e hy hj => ?_, fun j F2 H2 A2 s2 σ2 Z e hj => ?_⟩ ?_
      · obtain ⟨v, hv, _⟩ := z3.get (i := j) (List.getElem?_eq_getElem hj)
        exact ⟨us, v, .inl (.inl (at_a Z)), hv⟩
      · obtain ⟨rfl, hy⟩ := hy
        obtain ⟨v, hv, rv⟩ := z3.get (i := j) (List.getElem?_eq_getElem hj)
        have ex := hy us (.inl (.inl (at_a Z)))
        rw [hv] at ex; cases ex
        exact ⟨_, F2, List.getElem?_eq_getElem hj, Gr.refl Z.ext Z.tb, rv.mono e⟩
      · exact ⟨us, .inl (.inl (at_a Z)), by rw [z3.length]; exact hj⟩
      · cases qr : lcLoop vs gm mt me l [] ⟨wipeS (s.sl.set i .no) vs, s.pile⟩ with
        | stuck => rw [qr] at hp; exact hp.elim
        | exc c m s2 =>
          rw [qr] at hp
          exact fun cls d F2 H2 A2 Z e z => hp cls d F2 H2 A2 (Z.unprotect f0 z6 trivial z5).1 e z
        | ok acc s2 =>
          rw [qr] at hp
          have hp : PostO g W p H0 F0 F σ Q (.ok (.own acc) ⟨(backS s2.sl (s.sl.set i .no) vs).set i (.own l), s2.pile⟩) := hp
          intro b ws F2 H2 A2 Z e rw' hb fb hb0 pb nb
          obtain ⟨y1, y2, y3, y4⟩ := Z.unprotect f0 z6 trivial z5
          have ne : b ≠ a := by
            rintro rfl
            rw [upd_same] at hb0
            cases hb0
          have hb1 : H0 b = none := by rw [upd_ne ne] at hb0; exact hb0
          obtain ⟨A3, m3, q4⟩ := y1.sl.setOwn y2 (z3.mono e) y3 z5 z6 y4 i
          rw [set_self z1] at q4
          refine hp b ws F2 H2 A3 (y1.slots (s' := ⟨(backS s2.sl (s.sl.set i .no) vs).set i (.own l), s2.pile⟩) rfl q4) e rw' hb fb hb1 pb fun h => ?_
          rcases m3 _ h with h | h
          · exact ne h
          · exact nb h
section
variable {g : Gl} {X : Cx} {W : WX}
/-- a display of one for over an own list's name -/
structure LcBOk (g : Gl) (X : Cx) (i : Nat) (elt tg iter : Expr) (ifs : List Expr) (scope : Scope) (own : List (Str × Nat)) (gm : D → S → Option S) (mt : TM) (me : EM) : Prop where
  hc : X.calm = true
  hN : X.N.Nodup
  hi : PE X iter (tVar i)
  ok : BlkOk X.N X.env.scope scope own
  nd : (own.map (·.2)).Nodup
  hg : ∀ (s : Shared) (H : Hp) (C : Addr) (cl : List (Str × Addr)) (fp : List Addr), DGw' g (X.blk s H scope (compEnvC scope cl C X.env) fp) (own.map (·.2)) tg gm
  ht : ∀ (s : Shared) (H : Hp) (C : Addr) (cl : List (Str × Addr)) (fp : List Addr), DTs g (X.blk s H scope (compEnvC scope cl C X.env) fp) WF ifs mt
  he : ∀ (s : Shared) (H : Hp) (C : Addr) (cl : List (Str × Addr)) (fp : List Addr), DE g (X.blk s H scope (compEnvC scope cl C X.env) fp) WF elt me
theorem do_lcB {i : Nat} {elt tg iter : Expr} {ifs : List Expr} {scope : Scope} {own : List (Str × Nat)} {gm : D → S → Option S} {mt : TM} {me : EM} {pos : Pos} (L : LcBOk g X i elt tg iter ifs scope own gm mt me) (hK : X.K = g.K := by rfl) (hs : ∀ x, foldedSetIterable iter X.env x = pure x := by intro _; rfl) :
    DO g X W (.ListComp elt [⟨tg, iter, ifs, 0⟩] scope pos) (oLcB i (own.map (·.2)) gm mt me) := by
  refine ⟨_, pe_lc L.hc L.hN (pi_list L.hi) L.ok (fun s H C cl fp => (L.hg s H C cl fp).can) (fun s H C cl fp => (L.ht s H C cl fp).can) (fun s H C cl fp => (L.he s H C cl fp).can) hs, ?_⟩
  rw [hK]
  exact sim_lcB L.nd simGw_can sim_can sim_can
end
end Pd

/-! PmW: words repeated, roots (plain lists of numbers). -/
namespace Pd
open List (range)

/-- the i-th letter of w repeated without end -/
def inf (w : List Nat) (i : Nat) : Nat := w.getD (i % w.length) 0
def beg (w : List Nat) (n : Nat) : List Nat := (List.range n).map (inf w)
theorem beg_len (w : List Nat) (n : Nat) : (beg w n).length = n := by simp [beg]
theorem beg_get {w : List Nat} {n i : Nat} (h : i < n) : (beg w n)[i]? = some (inf w i) := by simp [beg, h]
theorem inf_add (w : List Nat) (i : Nat) : inf w (w.length + i) = inf w i := by simp [inf]
theorem inf_lt {w : List Nat} {i : Nat} (h : i < w.length) : w[i]? = some (inf w i) := by
  unfold inf
  rw [Nat.mod_eq_of_lt h, List.getD_eq_getElem?_getD, List.getElem?_eq_getElem h]
  rfl
theorem beg_self (w : List Nat) : beg w w.length = w := by
  apply List.ext_getElem?
  intro i
  by_cases h : i < w.length
  · rw [beg_get h, inf_lt h]
  · rw [List.getElem?_eq_none (by rw [beg_len]; omega), List.getElem?_eq_none (by omega)]
theorem beg_add (w : List Nat) (m : Nat) : beg w (w.length + m) = w ++ beg w m := by
  apply List.ext_getElem?
  intro i
  by_cases h : i < w.length
  · rw [beg_get (by omega), List.getElem?_append_left h, inf_lt h]
  · rw [List.getElem?_append_right (by omega)]
    by_cases h2 : i < w.length + m
    · rw [beg_get h2, beg_get (by omega), ← inf_add w (i - w.length), show w.length + (i - w.length) = i by omega]
    · rw [List.getElem?_eq_none (by rw [beg_len]; omega), List.getElem?_eq_none (by rw [beg_len]; omega)]
theorem repS_zero (w : List Nat) : repS 0 w = [] := rfl
theorem repS_succ (k : Nat) (w : List Nat) : repS (k + 1) w = w ++ repS k w := by
  unfold repS
  rw [List.replicate_succ, List.flatten_cons]
theorem repS_one (w : List Nat) : repS 1 w = w := by rw [repS_succ, repS_zero, List.append_nil]
theorem repS_beg (w : List Nat) : ∀ k, repS k w = beg w (k * w.length)
  | 0 => by simp [repS_zero, beg]
  | k + 1 => by rw [repS_succ, repS_beg w k, Nat.succ_mul, Nat.add_comm, beg_add]
theorem repS_len (k : Nat) (w : List Nat) : (repS k w).length = k * w.length := by rw [repS_beg, beg_len]
theorem repS_add (w : List Nat) : ∀ a b, repS (a + b) w = repS a w ++ repS b w
  | 0, b => by simp [repS_zero]
  | a + 1, b => by rw [Nat.add_right_comm, repS_succ, repS_succ, repS_add w a b, List.append_assoc]
theorem repS_mul (w : List Nat) (b : Nat) : ∀ a, repS a (repS b w) = repS (a * b) w
  | 0 => by simp [repS_zero]
  | a + 1 => by rw [repS_succ, repS_mul w b a, ← repS_add, Nat.succ_mul, Nat.add_comm]
theorem beg_take (w : List Nat) {m n : Nat} (h : m ≤ n) : (beg w n).take m = beg w m := by
  unfold beg
  rw [← List.map_take, List.take_range, Nat.min_eq_left h]
theorem beg_congr {w o : List Nat} {n : Nat} (h : ∀ i, i < n → inf w i = inf o i) : beg w n = beg o n := by
  apply List.ext_getElem?
  intro i
  by_cases hi : i < n
  · rw [beg_get hi, beg_get hi, h i hi]
  · rw [List.getElem?_eq_none (by rw [beg_len]; omega), List.getElem?_eq_none (by rw [beg_len]; omega)]
theorem inf_of_beg {w o : List Nat} {n : Nat} (h : beg w n = beg o n) : ∀ i, i < n → inf w i = inf o i := fun i hi => by
  have e := congrArg (fun l => l[i]?) h
  simp only [beg_get hi] at e
  exact Option.some.inj e
theorem inf_mod (w : List Nat) (i : Nat) : inf w (i % w.length) = inf w i := by simp [inf]
/-- a repeated word repeats as the word -/
theorem inf_repS {w : List Nat} {k : Nat} (hk : 0 < k) (i : Nat) : inf (repS k w) i = inf w i := by
  by_cases hw : w.length = 0
  · have : w = [] := List.eq_nil_of_length_eq_zero hw
    subst this
    have e : repS k ([] : List Nat) = [] := by rw [repS_beg]; simp [beg]
    rw [e]
  · have hl : 0 < k * w.length := Nat.mul_pos hk (by omega)
    have h1 : i % (repS k w).length < (repS k w).length := Nat.mod_lt _ (by rw [repS_len]; exact hl)
    have h2 := inf_lt h1
    rw [inf_mod] at h2
    rw [repS_len] at h1 h2
    rw [repS_beg, beg_get h1] at h2
    have h3 := Option.some.inj h2
    rw [← repS_beg] at h3
    rw [← h3, ← inf_mod w (i % (k * w.length)), Nat.mod_mul_left_mod, inf_mod]

/-! ### two words that commute -/
theorem comm_root : ∀ (n : Nat) (u v : List Nat), u.length + v.length ≤ n → u ++ v = v ++ u → ∃ z a b, u = repS a z ∧ v = repS b z
  | 0, u, v, hn, _ => by
    have hu : u = [] := List.eq_nil_of_length_eq_zero (by omega)
    have hv : v = [] := List.eq_nil_of_length_eq_zero (by omega)
    exact ⟨[], 0, 0, by rw [hu]; rfl, by rw [hv]; rfl⟩
  | n + 1, u, v, hn, h => by
    by_cases hu : u = []
    · exact ⟨v, 0, 1, hu, (repS_one v).symm⟩
    by_cases hv : v = []
    · exact ⟨u, 1, 0, (repS_one u).symm, hv⟩
    have lu : 0 < u.length := List.length_pos_iff.mpr hu
    have lv : 0 < v.length := List.length_pos_iff.mpr hv
    by_cases hl : u.length ≤ v.length
    · have e1 : v.take u.length = u := by
        have := congrArg (List.take u.length) h
        rw [List.take_left, List.take_append_of_le_length hl] at this
        exact this.symm
      have e2 : v = u ++ v.drop u.length := by
        have := List.take_append_drop u.length v
        rw [e1] at this; exact this.symm
      have e3 : u ++ v.drop u.length = v.drop u.length ++ u := by
        rw [e2] at h
        have h' : u ++ (u ++ List.drop u.length v) = u ++ (List.drop u.length v ++ u) := by
          have h4 := h
          rw [List.append_assoc] at h4
          have e5 : List.drop u.length (u ++ List.drop u.length v) = List.drop u.length v := by simp
          simpa [e5] using h4
        exact List.append_cancel_left h'
      obtain ⟨z, a, b, ha, hb⟩ := comm_root n u (v.drop u.length) (by rw [List.length_drop]; omega) e3
      exact ⟨z, a, a + b, ha, by rw [repS_add, ← ha, ← hb]; exact e2⟩
    · have hl : v.length ≤ u.length := by omega
      have e1 : u.take v.length = v := by
        have := congrArg (List.take v.length) h
        rw [List.take_left, List.take_append_of_le_length hl] at this
        exact this
      have e2 : u = v ++ u.drop v.length := by
        have := List.take_append_drop v.length u
        rw [e1] at this; exact this.symm
      have e3 : u.drop v.length ++ v = v ++ u.drop v.length := by
        have h4 := h
        rw [e2] at h4
        have h5 : v ++ (List.drop v.length u ++ v) = v ++ (v ++ List.drop v.length u) := by
          have e5 : List.drop v.length (v ++ List.drop v.length u) = List.drop v.length u := by simp
          simpa [e5, List.append_assoc] using h4
        exact List.append_cancel_left h5
      obtain ⟨z, a, b, ha, hb⟩ := comm_root n (u.drop v.length) v (by rw [List.length_drop]; omega) e3
      exact ⟨z, b + a, b, by rw [repS_add, ← ha, ← hb]; exact e2, hb⟩
/-- the same for so many letters: they commute -/
theorem comm_of_beg {u v : List Nat} (h : ∀ i, i < u.length + v.length → inf u i = inf v i) : u ++ v = v ++ u := by
  have e1 : beg u (u.length + v.length) = u ++ v := by
    rw [beg_add, beg_congr (o := v) (fun i hi => h i (by omega)), beg_self]
  have e2 : beg v (v.length + u.length) = v ++ u := by
    rw [beg_add, beg_congr (o := u) (fun i hi => (h i (by omega)).symm), beg_self]
  rw [← e1, ← e2, Nat.add_comm v.length, beg_congr h]

/-! ### roots -/
def isRep (w : List Nat) (k : Nat) : Bool := decide (w.length % k = 0) && decide (repS (w.length / k) (w.take k) = w)
/-- the shortest word that repeated makes the word -/
def rootW (w : List Nat) : List Nat := match ((List.range w.length).map (· + 1)).find? (isRep w) with
  | some k => w.take k
  | none => w
theorem isRep_full {w : List Nat} (h : w ≠ []) : isRep w w.length = true := by
  have hl : 0 < w.length := List.length_pos_iff.mpr h
  unfold isRep
  rw [Nat.mod_self, Nat.div_self hl, List.take_length, repS_one]
  simp
theorem rootW_spec {w : List Nat} (h : w ≠ []) : ∃ k, 0 < k ∧ k ≤ w.length ∧ rootW w = w.take k ∧ isRep w k = true ∧ ∀ j, 0 < j → j < k → isRep w j = false := by
  unfold rootW
  have hl : 0 < w.length := List.length_pos_iff.mpr h
  cases q : ((List.range w.length).map (· + 1)).find? (isRep w) with
  | none =>
    exfalso
    have := List.find?_eq_none.mp q w.length (List.mem_map.mpr ⟨w.length - 1, List.mem_range.mpr (by omega), by omega⟩)
    rw [isRep_full h] at this
    exact this rfl
  | some k =>
    have hm := List.mem_of_find?_eq_some q
    obtain ⟨i, hi, e⟩ := List.mem_map.mp hm
    have hi := List.mem_range.mp hi
    refine ⟨k, by omega, by omega, rfl, List.find?_some q, fun j j0 jk => ?_⟩
    obtain ⟨-, as, bs, e1, e2⟩ := List.find?_eq_some_iff_append.mp q
    -- j stands ahead of k
    have hjm : j ∈ as := by
      have hj : ((List.range w.length).map (· + 1))[j - 1]? = some j := by
        rw [List.getElem?_map, List.getElem?_range (by omega)]
        simp; omega
      have hk : ((List.range w.length).map (· + 1))[as.length]? = some k := by rw [e1]; simp
      have hk2 : as.length + 1 = k := by
        rw [List.getElem?_map] at hk
        cases q3 : (List.range w.length)[as.length]? with
        | none => rw [q3] at hk; cases hk
        | some y =>
          rw [q3] at hk
          have hy : y = as.length := by
            have := List.getElem?_eq_some_iff.mp q3
            obtain ⟨h1, h2⟩ := this
            rw [List.getElem_range] at h2
            exact h2.symm
          have h9 : y + 1 = k := Option.some.inj hk
          omega
      rw [e1, List.getElem?_append_left (by omega)] at hj
      exact List.mem_of_getElem? hj
    have := e2 j hjm
    simpa using this
theorem rootW_pow {w : List Nat} (h : w ≠ []) : ∃ k, 0 < k ∧ w = repS k (rootW w) := by
  obtain ⟨k, k0, kl, e, r, _⟩ := rootW_spec h
  unfold isRep at r
  rw [Bool.and_eq_true, decide_eq_true_eq, decide_eq_true_eq] at r
  have hl : 0 < w.length := List.length_pos_iff.mpr h
  refine ⟨w.length / k, Nat.div_pos kl k0, ?_⟩
  rw [e, r.2]
theorem rootW_ne {w : List Nat} (h : w ≠ []) : rootW w ≠ [] := by
  obtain ⟨k, k0, e⟩ := rootW_pow h
  intro z
  rw [z] at e
  apply h
  rw [e, repS_beg]
  simp [beg]
/-- no word repeated twice or more -/
def Prim (w : List Nat) : Prop := w ≠ [] ∧ ∀ z k, w = repS k z → k = 1
theorem rootW_least {w z : List Nat} {k : Nat} (h : w ≠ []) (e : w = repS k z) : (rootW w).length ≤ z.length := by
  obtain ⟨j, j0, jl, e1, r, m⟩ := rootW_spec h
  have hz : z ≠ [] := by
    intro q; subst q
    apply h; rw [e, repS_beg]; simp [beg]
  have hk : k ≠ 0 := by intro q; subst q; exact h e
  have lz : 0 < z.length := List.length_pos_iff.mpr hz
  have lw : w.length = k * z.length := by rw [e, repS_len]
  have hr : isRep w z.length = true := by
    unfold isRep
    rw [Bool.and_eq_true, decide_eq_true_eq, decide_eq_true_eq, lw, Nat.mul_mod_left, Nat.mul_div_cancel _ lz]
    refine ⟨rfl, ?_⟩
    have : w.take z.length = z := by
      rw [e, show k = (k - 1) + 1 by omega, repS_succ, List.take_left]
    rw [this]; exact e.symm
  rw [e1, List.length_take]
  by_cases hj : z.length < j
  · rw [m z.length lz hj] at hr; cases hr
  · omega
theorem rootW_prim {w : List Nat} (h : w ≠ []) : Prim (rootW w) := by
  refine ⟨rootW_ne h, fun z k e => ?_⟩
  obtain ⟨j, j0, ej⟩ := rootW_pow h
  have hk : k ≠ 0 := by intro q; subst q; exact rootW_ne h e
  have e2 : w = repS (j * k) z := by rw [← repS_mul, ← e]; exact ej
  have l := rootW_least h e2
  rw [e, repS_len] at l
  have hz : z ≠ [] := by intro q; subst q; apply rootW_ne h; rw [e, repS_beg]; simp [beg]
  have lz : 0 < z.length := List.length_pos_iff.mpr hz
  have : k ≤ 1 := by
    apply Nat.le_of_mul_le_mul_right (c := z.length) _ lz
    omega
  omega
/-- like roots that are the same for as many letters as both have -/
theorem prim_eq {u v : List Nat} (hu : Prim u) (hv : Prim v) (h : ∀ i, i < u.length + v.length → inf u i = inf v i) : u = v := by
  obtain ⟨z, a, b, ea, eb⟩ := comm_root _ u v (Nat.le_refl _) (comm_of_beg h)
  have h1 := hu.2 z a ea
  have h2 := hv.2 z b eb
  rw [ea, eb, h1, h2]
theorem prim_root {u : List Nat} (hu : Prim u) : rootW u = u := by
  obtain ⟨k, k0, e⟩ := rootW_pow hu.1
  have := hu.2 _ _ e
  rw [this, repS_one] at e
  exact e.symm
theorem root_of_inf {w o : List Nat} (hw : w ≠ []) (ho : o ≠ []) (h : ∀ i, i < (rootW w).length + (rootW o).length → inf w i = inf o i) : rootW w = rootW o := by
  obtain ⟨a, a0, ea⟩ := rootW_pow hw
  obtain ⟨b, b0, eb⟩ := rootW_pow ho
  refine prim_eq (rootW_prim hw) (rootW_prim ho) fun i hi => ?_
  have h1 := h i hi
  have e1 : inf w i = inf (rootW w) i := by
    have := inf_repS (w := rootW w) a0 i
    rw [← ea] at this; exact this
  have e2 : inf o i = inf (rootW o) i := by
    have := inf_repS (w := rootW o) b0 i
    rw [← eb] at this; exact this
  rw [← e1, ← e2]; exact h1
theorem inf_root {w : List Nat} (hw : w ≠ []) (i : Nat) : inf (rootW w) i = inf w i := by
  obtain ⟨a, a0, ea⟩ := rootW_pow hw
  have := inf_repS (w := rootW w) a0 i
  rw [← ea] at this; exact this.symm
theorem inf_of_root {w o : List Nat} (hw : w ≠ []) (ho : o ≠ []) (h : rootW w = rootW o) (i : Nat) : inf w i = inf o i := by
  rw [← inf_root hw, ← inf_root ho, h]
theorem root_rep {w : List Nat} (hw : w ≠ []) {k : Nat} (hk : 0 < k) : rootW (repS k w) = rootW w := by
  have hne : repS k w ≠ [] := by
    intro z
    have := congrArg List.length z
    rw [repS_len] at this
    have lw : 0 < w.length := List.length_pos_iff.mpr hw
    have := Nat.mul_pos hk lw
    simp at *
    omega
  exact root_of_inf hne hw fun i _ => inf_repS hk i
theorem root_len {w : List Nat} (hw : w ≠ []) : (rootW w).length ≤ w.length := by
  obtain ⟨k, _, kl, e, _⟩ := rootW_spec hw
  rw [e, List.length_take]; omega
/-- how many letters two words repeated share -/
def shareW (w o : List Nat) (n : Nat) : Option Nat := (List.range n).find? fun i => decide (inf w i ≠ inf o i)
end Pd

/-! Pd, part N: the meanings worked out by simp, what follows is named, never a function under a binder. -/
namespace Pd
open PySem L2

/-! ### expressions -/
theorem e_bok {α β : Type} (a : α) (s : S) (k : α → S → R β) : (R.ok a s).bind k = k a s := (id rfl)
theorem e_bexc {α β : Type} (c : String) (n : Option Int) (s : S) (k : α → S → R β) : (R.exc c n s : R α).bind k = .exc c n s := (id rfl)
theorem e_bsok {α : Type} (a : α) (s : S) (k : α → S → RS) : (R.ok a s).bs k = k a s := (id rfl)
theorem e_bsexc {α : Type} (c : String) (n : Option Int) (s : S) (k : α → S → RS) : (R.exc c n s : R α).bs k = .exc c n s := (id rfl)
theorem e_ofs {α : Type} (a : α) (s : S) : R.of (some a) s = .ok a s := (id rfl)
theorem e_obs {α β : Type} (a : α) (k : α → Option β) : (some a).bind k = k a := (id rfl)
theorem e_oms {α β : Type} (a : α) (k : α → β) : (some a).map k = some (k a) := (id rfl)
@[simp] theorem eV_val {l : List SV} {n : Int} {i : Nat} {d : D} (h : l[i]? = some (.val d)) : mVar i ⟨l, n⟩ = .ok d ⟨l, n⟩ := by simp [mVar, h]
theorem eV_own {l : List SV} {n : Int} {i : Nat} {d : List D} (h : l[i]? = some (.own d)) : mVar i ⟨l, n⟩ = .ok (.lst d) ⟨l.set i (.val (.lst d)), n⟩ := by simp [mVar, h]
theorem eVo_val {l : List SV} {n : Int} {i : Nat} {d : D} (h : l[i]? = some (.val d)) : oVar i ⟨l, n⟩ = .ok (.val d) ⟨l, n⟩ := by simp [oVar, h]
theorem eVo_own {l : List SV} {n : Int} {i : Nat} {d : List D} (h : l[i]? = some (.own d)) : oVar i ⟨l, n⟩ = .ok (.own d) ⟨l.set i .no, n⟩ := by simp [oVar, h]
theorem eC {d : D} {s : S} : mC d s = .ok d s := (id rfl)
def kBin2 (f : D → D → Option D) (x : D) (y : D) (s : S) : R D := R.of (f x y) s
def kBin (f : D → D → Option D) (b : EM) (x : D) (s : S) : R D := (b s).bind (kBin2 f x)
theorem e_bin {f : D → D → Option D} {a b : EM} {s : S} : mBin f a b s = (a s).bind (kBin f b) := (id rfl)
theorem e_kBin {f : D → D → Option D} {b : EM} {x : D} {s : S} : kBin f b x s = (b s).bind (kBin2 f x) := (id rfl)
theorem e_kBin2 {f : D → D → Option D} {x y : D} {s : S} : kBin2 f x y s = R.of (f x y) s := (id rfl)
def kOBin2 (f : D → D → Option SV) (x : D) (y : D) (s : S) : R SV := R.of ((f x y).bind good1) s
def kOBin (f : D → D → Option SV) (b : EM) (x : D) (s : S) : R SV := (b s).bind (kOBin2 f x)
theorem e_oBin {f : D → D → Option SV} {a b : EM} {s : S} : oBin f a b s = (a s).bind (kOBin f b) := (id rfl)
theorem e_kOBin {f : D → D → Option SV} {b : EM} {x : D} {s : S} : kOBin f b x s = (b s).bind (kOBin2 f x) := (id rfl)
theorem e_kOBin2 {f : D → D → Option SV} {x y : D} {s : S} : kOBin2 f x y s = R.of ((f x y).bind good1) s := (id rfl)
theorem e_good1v {d : D} : good1 (.val d) = some (.val d) := (id rfl)
theorem e_good1o {d : List D} : good1 (.own d) = some (.own d) := (id rfl)
def kTest (d : D) (s : S) : R Bool := match d with
  | .bl k => .ok k s
  | _ => .stuck
theorem e_test {m : EM} {s : S} : mTest m s = (m s).bind kTest := (id rfl)
theorem e_kTest {b : Bool} {s : S} : kTest (.bl b) s = .ok b s := (id rfl)
def kAnd (b : TM) (k : Bool) (s : S) : R Bool := if k = true then b s else .ok false s
def kOr (b : TM) (k : Bool) (s : S) : R Bool := if k = true then .ok true s else b s
def kNot (k : Bool) (s : S) : R Bool := .ok (!k) s
theorem e_and {a b : TM} {s : S} : mAnd a b s = (a s).bind (kAnd b) := (id rfl)
theorem e_or {a b : TM} {s : S} : mOr a b s = (a s).bind (kOr b) := (id rfl)
theorem e_not {a : TM} {s : S} : mNot a s = (a s).bind kNot := (id rfl)
theorem e_kAndT {b : TM} {s : S} : kAnd b true s = b s := (id rfl)
theorem e_kAndF {b : TM} {s : S} : kAnd b false s = .ok false s := (id rfl)
theorem e_kOrT {b : TM} {s : S} : kOr b true s = .ok true s := (id rfl)
theorem e_kOrF {b : TM} {s : S} : kOr b false s = b s := (id rfl)
theorem e_kNot {b : Bool} {s : S} : kNot b s = .ok (!b) s := (id rfl)
def kEAnd (b : EM) (k : Bool) (s : S) : R D := if k = true then b s else .ok (.bl false) s
def kEOr (b : EM) (k : Bool) (s : S) : R D := if k = true then .ok (.bl true) s else b s
def kENot (k : Bool) (s : S) : R D := .ok (.bl (!k)) s
theorem e_eand {a b : EM} {s : S} : eAnd a b s = (mTest a s).bind (kEAnd b) := (id rfl)
theorem e_eor {a b : EM} {s : S} : eOr a b s = (mTest a s).bind (kEOr b) := (id rfl)
theorem e_enot {a : EM} {s : S} : eNot a s = (mTest a s).bind kENot := (id rfl)
theorem e_kEAndT {b : EM} {s : S} : kEAnd b true s = b s := (id rfl)
theorem e_kEAndF {b : EM} {s : S} : kEAnd b false s = .ok (.bl false) s := (id rfl)
theorem e_kEOrT {b : EM} {s : S} : kEOr b true s = .ok (.bl true) s := (id rfl)
theorem e_kEOrF {b : EM} {s : S} : kEOr b false s = b s := (id rfl)
theorem e_kENot {b : Bool} {s : S} : kENot b s = .ok (.bl (!b)) s := (id rfl)
def kIfE (a b : EM) (k : Bool) (s : S) : R D := if k = true then a s else b s
theorem e_ifE {c : TM} {a b : EM} {s : S} : mIf c a b s = (c s).bind (kIfE a b) := (id rfl)
theorem e_kIfET {a b : EM} {s : S} : kIfE a b true s = a s := (id rfl)
theorem e_kIfEF {a b : EM} {s : S} : kIfE a b false s = b s := (id rfl)
def kOV (d : D) (s : S) : R SV := .ok (.val d) s
theorem e_oV {m : EM} {s : S} : oV m s = (m s).bind kOV := (id rfl)
theorem e_kOV {d : D} {s : S} : kOV d s = .ok (.val d) s := (id rfl)
theorem e_eF {m : OM} {s : S} : eF m s = (m s).bind frz := (id rfl)
theorem e_frzv {d : D} {s : S} : frz (.val d) s = .ok d s := (id rfl)
theorem e_frzo {d : List D} {s : S} : frz (.own d) s = .ok (.lst d) s := (id rfl)
def kNeg (d : D) (s : S) : R D := match d with
  | .int i => .ok (.int (-i)) s
  | _ => .stuck
theorem e_neg {m : EM} {s : S} : mNeg m s = (m s).bind kNeg := (id rfl)
theorem e_kNeg {i : Int} {s : S} : kNeg (.int i) s = .ok (.int (-i)) s := (id rfl)
/-! arguments -/
def kCons2 (x : D) (l : List D) (s : S) : R (List D) := .ok (x :: l) s
def kCons (b : AM) (x : D) (s : S) : R (List D) := (b s).bind (kCons2 x)
theorem e_nil {s : S} : aNil s = .ok [] s := (id rfl)
theorem e_cons {a : EM} {b : AM} {s : S} : aCons a b s = (a s).bind (kCons b) := (id rfl)
theorem e_kCons {b : AM} {x : D} {s : S} : kCons b x s = (b s).bind (kCons2 x) := (id rfl)
theorem e_kCons2 {x : D} {l : List D} {s : S} : kCons2 x l s = .ok (x :: l) s := (id rfl)
/-! built-ins -/
def kB1 (f : D → Option SV) (d : D) (s : S) : R SV := R.of ((f d).bind good1) s
theorem e_oB1 {f : D → Option SV} {m : EM} {s : S} : oB1 f m s = (m s).bind (kB1 f) := (id rfl)
theorem e_kB1 {f : D → Option SV} {d : D} {s : S} : kB1 f d s = R.of ((f d).bind good1) s := (id rfl)
theorem e_oB1V {f : D → Option SV} {l : List SV} {n : Int} {i : Nat} {d : D} (h : l[i]? = some (.val d)) : oB1V f i ⟨l, n⟩ = R.of ((f d).bind good1) ⟨l, n⟩ := by simp [oB1V, getB, h]
theorem e_oB1O {f : D → Option SV} {l : List SV} {n : Int} {i : Nat} {d : List D} (h : l[i]? = some (.own d)) : oB1V f i ⟨l, n⟩ = R.of ((f (.lst d)).bind good1) ⟨l, n⟩ := by simp [oB1V, getB, h]
def kBn (f : List D → Option SV) (d : List D) (s : S) : R SV := R.of ((f d).bind good1) s
theorem e_oBn {f : List D → Option SV} {m : AM} {s : S} : oBn f m s = (m s).bind (kBn f) := (id rfl)
theorem e_kBn {f : List D → Option SV} {d : List D} {s : S} : kBn f d s = R.of ((f d).bind good1) s := (id rfl)
theorem e_mIxV {i : Nat} {b : EM} {l : List SV} {n : Int} {d : D} (h : l[i]? = some (.val d)) : mIxV i b ⟨l, n⟩ = (b ⟨l, n⟩).bind (ixAt i) := by simp [mIxV, getB, h]
theorem e_mIxO {i : Nat} {b : EM} {l : List SV} {n : Int} {d : List D} (h : l[i]? = some (.own d)) : mIxV i b ⟨l, n⟩ = (b ⟨l, n⟩).bind (ixAt i) := by simp [mIxV, getB, h]
theorem e_ixS {i : Nat} {y : D} {l : List SV} {n : Int} {d : List Nat} (h : l[i]? = some (.val (.str d))) : ixAt i y ⟨l, n⟩ = R.of (dIx (.str d) y) ⟨l, n⟩ := by simp [ixAt, getB, h]
theorem e_ixL {i : Nat} {y : D} {l : List SV} {n : Int} {d : List D} (h : l[i]? = some (.val (.lst d))) : ixAt i y ⟨l, n⟩ = R.of (dIx (.lst d) y) ⟨l, n⟩ := by simp [ixAt, getB, h]
theorem e_ixT {i : Nat} {y : D} {l : List SV} {n : Int} {d : List D} (h : l[i]? = some (.val (.tup d))) : ixAt i y ⟨l, n⟩ = R.of (dIx (.tup d) y) ⟨l, n⟩ := by simp [ixAt, getB, h]
theorem e_ixK {i : Nat} {y : D} {l : List SV} {n : Int} {d : List D} (h : l[i]? = some (.val (.kst d))) : ixAt i y ⟨l, n⟩ = R.of (dIx (.kst d) y) ⟨l, n⟩ := by simp [ixAt, getB, h]
theorem e_ixO {i : Nat} {y : D} {l : List SV} {n : Int} {d : List D} (h : l[i]? = some (.own d)) : ixAt i y ⟨l, n⟩ = R.of (dIx (.lst d) y) ⟨l, n⟩ := by simp [ixAt, getB, h]
theorem e_ixP {i : Nat} {l : List SV} {n : Int} (h : l[i]? = some (.val .pile)) : ixAt i (.int 0) ⟨l, n⟩ = .ok (.int n) ⟨l, n⟩ := by simp [ixAt, getB, h]
def kSome (d : D) (s : S) : R (Option Int) := match d with
  | .int i => .ok (some i) s
  | _ => .stuck
theorem e_pSome {m : EM} {s : S} : pSome m s = (m s).bind kSome := (id rfl)
theorem e_kSome {i : Int} {s : S} : kSome (.int i) s = .ok (some i) s := (id rfl)
theorem e_pNone {s : S} : pNone s = .ok none s := (id rfl)
def kSl3 (x : D) (l : Option Int) (h : Option Int) (s : S) : R SV := R.of ((dSl x l h).bind good1) s
def kSl2 (x : D) (hi : S → R (Option Int)) (l : Option Int) (s : S) : R SV := (hi s).bind (kSl3 x l)
def kSl (lo hi : S → R (Option Int)) (x : D) (s : S) : R SV := (lo s).bind (kSl2 x hi)
theorem e_oSl {m : EM} {lo hi : S → R (Option Int)} {s : S} : oSl m lo hi s = (m s).bind (kSl lo hi) := (id rfl)
theorem e_kSl {lo hi : S → R (Option Int)} {x : D} {s : S} : kSl lo hi x s = (lo s).bind (kSl2 x hi) := (id rfl)
theorem e_kSl2 {hi : S → R (Option Int)} {x : D} {l : Option Int} {s : S} : kSl2 x hi l s = (hi s).bind (kSl3 x l) := (id rfl)
theorem e_kSl3 {x : D} {l h : Option Int} {s : S} : kSl3 x l h s = R.of ((dSl x l h).bind good1) s := (id rfl)
def kOL (l : List D) (s : S) : R SV := if l.length ≤ sizeLine then .ok (.own l) s else .stuck
theorem e_oLst {m : AM} {s : S} : oLst m s = (m s).bind kOL := (id rfl)
theorem e_kOL {l : List D} {s : S} (h : l.length ≤ 1000) : kOL l s = .ok (.own l) s := if_pos (Nat.le_trans h (by rw [sizeLine_eq]; omega))
def kTup (l : List D) (s : S) : R D := if l.length ≤ sizeLine then .ok (.tup l) s else .stuck
theorem e_tup {m : AM} {s : S} : mTup m s = (m s).bind kTup := (id rfl)
theorem e_kTup {l : List D} {s : S} (h : l.length ≤ 1000) : kTup l s = .ok (.tup l) s := if_pos (Nat.le_trans h (by rw [sizeLine_eq]; omega))
/-! calls -/
theorem e_call {f : FM} {m : AM} {s : S} : oCall f m s = (m s).bind (callR f) := (id rfl)
theorem e_callR {f : FM} {ds : List D} {l : List SV} {n n' : Int} {d : D} (h : f ds n = .ok (.val d) n') : callR f ds ⟨l, n⟩ = .ok (.val d) ⟨l, n'⟩ := by simp [callR, h]
theorem e_callRo {f : FM} {ds : List D} {l : List SV} {n n' : Int} {d : List D} (h : f ds n = .ok (.own d) n') : callR f ds ⟨l, n⟩ = .ok (.own d) ⟨l, n'⟩ := by simp [callR, h]
def kCallP (f : FM) (i : Nat) (ds : List D) (s : S) : R SV := match s.sl[i]? with
    | some (.own [.int n]) => if noPiles ds = true then outR i (f (.pile :: ds) n) s else .stuck
    | _ => .stuck
theorem e_callP {i : Nat} {f : FM} {m : AM} {l : List SV} {n : Int} {d : List D} (h : l[i]? = some (.own d)) : oCallR i f m ⟨l, n⟩ = (m ⟨l, n⟩).bind (kCallP f i) := by simp only [oCallR, h]; rfl
theorem e_kCallP {i : Nat} {f : FM} {l : List SV} {n k k' : Int} {ds : List D} {d : D} (h : l[i]? = some (.own [.int k])) (hp : noPiles ds = true) (hf : f (.pile :: ds) k = .ok (.val d) k') (hd : noPile d = true) : kCallP f i ds ⟨l, n⟩ = .ok (.val d) ⟨l.set i (.own [.int k']), n⟩ := by simp [kCallP, h, hp, hf, outR, hd]
theorem e_kCallPo {i : Nat} {f : FM} {l : List SV} {n k k' : Int} {ds : List D} {d : List D} (h : l[i]? = some (.own [.int k])) (hp : noPiles ds = true) (hf : f (.pile :: ds) k = .ok (.own d) k') (hd : noPiles d = true) : kCallP f i ds ⟨l, n⟩ = .ok (.own d) ⟨l.set i (.own [.int k']), n⟩ := by simp [kCallP, h, hp, hf, outR, hd]

/-! ### statements -/
def kSeq (b : SM) : RS → RS
  | .nx s => b s
  | r => r
theorem e_seq {a b : SM} {s : S} : mSeq a b s = kSeq b (a s) := (id rfl)
theorem e_kSeqN {b : SM} {s : S} : kSeq b (.nx s) = b s := (id rfl)
theorem e_kSeqR {b : SM} {v : SV} {s : S} : kSeq b (.rt v s) = .rt v s := (id rfl)
theorem e_kSeqB {b : SM} {s : S} : kSeq b (.bk s) = .bk s := (id rfl)
theorem e_kSeqC {b : SM} {s : S} : kSeq b (.ct s) = .ct s := (id rfl)
theorem e_kSeqX {b : SM} {c : String} {n : Option Int} {s : S} : kSeq b (.exc c n s) = .exc c n s := (id rfl)
theorem e_next {s : S} : mNext s = .nx s := (id rfl)
def kSet (i : Nat) (r : SV) (s : S) : RS := .nx ⟨s.sl.set i r, s.pile⟩
theorem e_set {i : Nat} {m : OM} {s : S} : mSet i m s = (m s).bs (kSet i) := (id rfl)
theorem e_kSet {i : Nat} {r : SV} {l : List SV} {n : Int} : kSet i r ⟨l, n⟩ = .nx ⟨l.set i r, n⟩ := (id rfl)
def kGood : R SV → R SV
  | .ok .no _ => .stuck
  | r => r
theorem e_good {m : OM} {s : S} : good m s = kGood (m s) := (id rfl)
theorem e_kGoodV {d : D} {s : S} : kGood (.ok (.val d) s) = .ok (.val d) s := (id rfl)
theorem e_kGoodO {d : List D} {s : S} : kGood (.ok (.own d) s) = .ok (.own d) s := (id rfl)
theorem e_kGoodD {d : List (L2.Key × D)} {s : S} : kGood (.ok (.dct d) s) = .ok (.dct d) s := (id rfl)
theorem e_kGoodX {c : String} {n : Option Int} {s : S} : kGood (.exc c n s) = .exc c n s := (id rfl)
def kAsg (gm : D → S → Option S) (d : D) (s : S) : RS := .of (gm d s)
theorem e_asg {m : EM} {gm : D → S → Option S} {s : S} : mAsg m gm s = (m s).bs (kAsg gm) := (id rfl)
theorem e_kAsg {gm : D → S → Option S} {d : D} {s : S} : kAsg gm d s = .of (gm d s) := (id rfl)
theorem e_rsof {s : S} : RS.of (some s) = .nx s := (id rfl)
theorem e_gN {i : Nat} {d : D} {l : List SV} {n : Int} : gN i d ⟨l, n⟩ = some ⟨l.set i (.val d), n⟩ := (id rfl)
def kPar (i j : Nat) (ds : List D) (s : S) : RS := match ds with
  | [d, e] => .nx ⟨(s.sl.set i (.val d)).set j (.val e), s.pile⟩
  | _ => .stuck
theorem e_par {i j : Nat} {m : AM} {s : S} : mPar i j m s = (m s).bs (kPar i j) := (id rfl)
theorem e_kPar {i j : Nat} {d e : D} {l : List SV} {n : Int} : kPar i j [d, e] ⟨l, n⟩ = .nx ⟨(l.set i (.val d)).set j (.val e), n⟩ := (id rfl)
def kRet (r : SV) (s : S) : RS := .rt r s
theorem e_ret {m : OM} {s : S} : mRet m s = (m s).bs kRet := (id rfl)
theorem e_kRet {r : SV} {s : S} : kRet r s = .rt r s := (id rfl)
def kDrop (d : D) (s : S) : RS := .nx s
theorem e_drop {m : EM} {s : S} : mDrop m s = (m s).bs kDrop := (id rfl)
theorem e_kDrop {d : D} {s : S} : kDrop d s = .nx s := (id rfl)
def kIf (a b : SM) (k : Bool) (s : S) : RS := if k = true then a s else b s
theorem e_if {c : TM} {a b : SM} {s : S} : mIfS c a b s = (c s).bs (kIf a b) := (id rfl)
theorem e_kIfT {a b : SM} {s : S} : kIf a b true s = a s := (id rfl)
theorem e_kIfF {a b : SM} {s : S} : kIf a b false s = b s := (id rfl)
theorem e_raise {c : String} {s : S} : mRaise c s = .exc c none s := (id rfl)
def kFor (gm : D → S → Option S) (b : SM) (l : List D) (s : S) : RS := forLoop gm b l s
theorem e_for {it : AM} {gm : D → S → Option S} {b : SM} {s : S} : mFor it gm b s = (it s).bs (kFor gm b) := (id rfl)
theorem e_kFor {gm : D → S → Option S} {b : SM} {l : List D} {s : S} : kFor gm b l s = forLoop gm b l s := (id rfl)
def kItA (d : D) (s : S) : R (List D) := R.of (items d) s
theorem e_itA {m : EM} {s : S} : itA m s = (m s).bind kItA := (id rfl)
theorem e_kItA {d : D} {s : S} : kItA d s = R.of (items d) s := (id rfl)
def kR1 (ds : List D) (s : S) : R (List D) := match ds with
  | [.int j] => if -(2 ^ 62) ≤ j ∧ j < 2 ^ 62 then .ok (dInts 0 j.toNat) s else .stuck
  | _ => .stuck
theorem e_itR1 {m : AM} {s : S} : itR1 m s = (m s).bind kR1 := (id rfl)
theorem e_kR1 {j : Int} {s : S} (h : 0 ≤ j ∧ j < 4000000000000000000) : kR1 [.int j] s = .ok (dInts 0 j.toNat) s := by
  unfold kR1
  exact if_pos ⟨by omega, by omega⟩
def kR2 (ds : List D) (s : S) : R (List D) := match ds with
  | [.int i, .int j] => if -(2 ^ 62) ≤ i ∧ i < 2 ^ 62 ∧ -(2 ^ 62) ≤ j ∧ j < 2 ^ 62 then .ok (dInts i (j - i).toNat) s else .stuck
  | _ => .stuck
theorem e_itR2 {m : AM} {s : S} : itR2 m s = (m s).bind kR2 := (id rfl)
theorem e_kR2 {i j : Int} {s : S} (h : 0 ≤ i ∧ i < 4000000000000000000 ∧ 0 ≤ j ∧ j < 4000000000000000000) : kR2 [.int i, .int j] s = .ok (dInts i (j - i).toNat) s := by
  unfold kR2
  exact if_pos ⟨by omega, by omega, by omega, by omega⟩
def kPile (i : Nat) (d : D) (s : S) : RS := match d, s.sl[i]? with
  | .int n, some (.val .pile) => .nx ⟨s.sl, n⟩
  | _, _ => .stuck
theorem e_pileSet {i : Nat} {m : EM} {s : S} : mPileSet i m s = (m s).bs (kPile i) := (id rfl)
theorem e_kPile {i : Nat} {k n : Int} {l : List SV} (h : l[i]? = some (.val .pile)) : kPile i (.int k) ⟨l, n⟩ = .nx ⟨l, k⟩ := by simp [kPile, h]
def kApp (i : Nat) (d : D) (s : S) : RS := match s.sl[i]? with
    | some (.own l) => if l.length < sizeLine then .nx ⟨s.sl.set i (.own (l ++ [d])), s.pile⟩ else .stuck
    | _ => .stuck
theorem e_app {i : Nat} {m : EM} {l : List SV} {n : Int} {d : List D} (h : l[i]? = some (.own d)) : mApp i m ⟨l, n⟩ = (m ⟨l, n⟩).bs (kApp i) := by simp only [mApp, h]; rfl
theorem e_kApp {i : Nat} {l : List SV} {n : Int} {d : List D} {x : D} (h : l[i]? = some (.own d)) (hl : d.length < sizeLine) : kApp i x ⟨l, n⟩ = .nx ⟨l.set i (.own (d ++ [x])), n⟩ := by simp [kApp, h, hl]

/-! ### loops -/
theorem for_nil {gm : D → S → Option S} {b : SM} {s : S} : forLoop gm b [] s = .nx s := (id rfl)
def kLoop (gm : D → S → Option S) (b : SM) (r : List D) : RS → RS
  | .nx s => forLoop gm b r s
  | .ct s => forLoop gm b r s
  | .bk s => .nx s
  | x => x
theorem for_cons {gm : D → S → Option S} {b : SM} {d : D} {r : List D} {s s1 : S} (h : gm d s = some s1) : forLoop gm b (d :: r) s = kLoop gm b r (b s1) := by
  show (match gm d s with
    | none => RS.stuck
    | some s1 => match b s1 with
      | .nx s2 => forLoop gm b r s2
      | .ct s2 => forLoop gm b r s2
      | .bk s2 => .nx s2
      | r => r) = _
  rw [h]
  show (match b s1 with
      | .nx s2 => forLoop gm b r s2
      | .ct s2 => forLoop gm b r s2
      | .bk s2 => .nx s2
      | r => r) = _
  cases b s1 <;> rfl
theorem e_kLoopN {gm : D → S → Option S} {b : SM} {r : List D} {s : S} : kLoop gm b r (.nx s) = forLoop gm b r s := (id rfl)
theorem e_kLoopC {gm : D → S → Option S} {b : SM} {r : List D} {s : S} : kLoop gm b r (.ct s) = forLoop gm b r s := (id rfl)
theorem e_kLoopB {gm : D → S → Option S} {b : SM} {r : List D} {s : S} : kLoop gm b r (.bk s) = .nx s := (id rfl)
theorem e_kLoopR {gm : D → S → Option S} {b : SM} {r : List D} {v : SV} {s : S} : kLoop gm b r (.rt v s) = .rt v s := (id rfl)
/-- a loop keeps what it keeps -/
theorem for_inv {gm : D → S → Option S} {b : SM} (I : List D → S → Prop) : ∀ (l : List D) (s : S), I l s →
    (∀ d r s, I (d :: r) s → ∃ s1 s2, gm d s = some s1 ∧ (b s1 = .nx s2 ∨ b s1 = .ct s2) ∧ I r s2) → ∃ s2, forLoop gm b l s = .nx s2 ∧ I [] s2
  | [], s, h, _ => ⟨s, rfl, h⟩
  | d :: r, s, h, st => by
    obtain ⟨s1, s2, e1, e2, h2⟩ := st d r s h
    obtain ⟨s3, e3, h3⟩ := for_inv I r s2 h2 st
    refine ⟨s3, ?_, h3⟩
    rw [for_cons e1]
    rcases e2 with e2 | e2 <;> rw [e2] <;> exact e3
theorem bs_congr {α : Type} {r : R α} {a : α} {s : S} {k : α → S → RS} (h : r = .ok a s) : r.bs k = k a s := by rw [h]; rfl
def kWh2 (c : TM) (b : SM) (n : Nat) : RS → RS
  | .nx s => mWhile c b n s
  | .ct s => mWhile c b n s
  | .bk s => .nx s
  | x => x
theorem wh_t {c : TM} {b : SM} {n : Nat} {s s1 : S} (h : c s = .ok true s1) : mWhile c b (n + 1) s = kWh2 c b n (b s1) := by
  unfold mWhile
  rw [h]
  simp only [R.bs_ok, if_pos]
  cases b s1 <;> rfl
theorem wh_f {c : TM} {b : SM} {n : Nat} {s s1 : S} (h : c s = .ok false s1) : mWhile c b (n + 1) s = .nx s1 := by
  unfold mWhile
  rw [h]
  rfl
theorem e_kWhN {c : TM} {b : SM} {n : Nat} {s : S} : kWh2 c b n (.nx s) = mWhile c b n s := (id rfl)
theorem e_kWhC {c : TM} {b : SM} {n : Nat} {s : S} : kWh2 c b n (.ct s) = mWhile c b n s := (id rfl)
theorem e_kWhB {c : TM} {b : SM} {n : Nat} {s : S} : kWh2 c b n (.bk s) = .nx s := (id rfl)
theorem e_kWhR {c : TM} {b : SM} {n : Nat} {v : SV} {s : S} : kWh2 c b n (.rt v s) = .rt v s := (id rfl)

/-! ### comprehensions -/
theorem lc_run {vs : List Nat} {gm : D → S → Option S} {t : TM} {e : EM} {s0 : S} (P : D → Bool) (f : D → D) : ∀ (l acc : List D),
    (∀ d ∈ l, ∃ s1, gm d s0 = some s1 ∧ ((P d = true ∧ ∃ s2 s3, t s1 = .ok true s2 ∧ e s2 = .ok (f d) s3 ∧ S.mk (wipeS s3.sl vs) s3.pile = s0) ∨ (P d = false ∧ ∃ s2, t s1 = .ok false s2 ∧ S.mk (wipeS s2.sl vs) s2.pile = s0))) →
    acc.length + l.length ≤ sizeLine → lcLoop vs gm t e l acc s0 = .ok (acc ++ (l.filter P).map f) s0
  | [], acc, _, _ => by simp [lcLoop]
  | d :: r, acc, h, hl => by
    obtain ⟨s1, e1, h1⟩ := h d (List.mem_cons_self ..)
    have hr : ∀ x ∈ r, _ := fun x hx => h x (List.mem_cons_of_mem _ hx)
    rw [List.length_cons] at hl
    rcases h1 with ⟨p, s2, s3, e2, e3, e4⟩ | ⟨p, s2, e2, e4⟩
    · have ih := lc_run P f r (acc ++ [f d]) hr (by rw [List.length_append, List.length_singleton]; omega)
      unfold lcLoop
      simp only [e1, e2, e3]
      rw [if_pos (by omega), e4, ih, List.filter_cons_of_pos p, List.map_cons, List.append_assoc]
      rfl
    · have ih := lc_run P f r acc hr (by omega)
      unfold lcLoop
      simp only [e1, e2]
      rw [e4, ih, List.filter_cons_of_neg (by simp [p])]
def kLc2 (vs : List Nat) (old : List SV) (acc : List D) (s : S) : R SV := .ok (.own acc) ⟨backS s.sl old vs, s.pile⟩
def kLc (vs : List Nat) (gm : D → S → Option S) (t : TM) (e : EM) (l : List D) (s : S) : R SV := (lcLoop vs gm t e l [] ⟨wipeS s.sl vs, s.pile⟩).bind (kLc2 vs s.sl)
theorem e_oLc {vs : List Nat} {it : AM} {gm : D → S → Option S} {t : TM} {e : EM} {s : S} : oLc vs it gm t e s = (it s).bind (kLc vs gm t e) := (id rfl)
/-- a comprehension with one variable, of no value before -/
theorem lc_one {v : Nat} {t : TM} {e : EM} {l : List SV} {n : Int} {ds : List D} (P : D → Bool) (f : D → D) (hn : l[v]? = some .no) (hl : ds.length ≤ sizeLine)
    (h : ∀ d ∈ ds, (P d = true ∧ t ⟨l.set v (.val d), n⟩ = .ok true ⟨l.set v (.val d), n⟩ ∧ e ⟨l.set v (.val d), n⟩ = .ok (f d) ⟨l.set v (.val d), n⟩) ∨ (P d = false ∧ t ⟨l.set v (.val d), n⟩ = .ok false ⟨l.set v (.val d), n⟩)) :
    kLc [v] (gN v) t e ds ⟨l, n⟩ = .ok (.own ((ds.filter P).map f)) ⟨l, n⟩ := by
  have w : l.set v SV.no = l := by
    apply List.ext_getElem?
    intro i
    rw [List.getElem?_set]
    by_cases hv : v = i
    · subst hv
      rw [if_pos rfl, hn]
      split
      · rfl
      · rename_i q
        rw [List.getElem?_eq_none (by omega)] at hn; cases hn
    · rw [if_neg hv]
  have w2 : ∀ x, (l.set v x).set v SV.no = l := fun x => by rw [List.set_set, w]
  unfold kLc
  show (lcLoop [v] (gN v) t e ds [] ⟨l.set v .no, n⟩).bind _ = _
  rw [w, lc_run P f ds [] (fun d hd => ⟨⟨l.set v (.val d), n⟩, rfl, ?_⟩) (by simpa using hl)]
  · show R.ok _ (S.mk (l.set v (keepV l[v]?)) n) = _
    rw [hn]
    show R.ok _ (S.mk (l.set v .no) n) = _
    rw [w]; rfl
  · rcases h d hd with ⟨p, h1, h2⟩ | ⟨p, h1⟩
    · exact .inl ⟨p, _, _, h1, h2, by show S.mk ((l.set v _).set v .no) n = _; rw [w2]⟩
    · exact .inr ⟨p, _, h1, by show S.mk ((l.set v _).set v .no) n = _; rw [w2]⟩
theorem e_yes {s : S} : tYesM s = .ok true s := (id rfl)
theorem dInts_mem {lo : Int} {n : Nat} {d : D} (h : d ∈ dInts lo n) : ∃ i : Nat, i < n ∧ d = .int (lo + i) := by
  unfold dInts at h
  obtain ⟨i, h1, h2⟩ := List.mem_map.mp h
  exact ⟨i, List.mem_range.mp h1, h2.symm⟩
theorem dInts_zero {lo : Int} : dInts lo 0 = [] := rfl
theorem dInts_succ {lo : Int} {n : Nat} : dInts lo (n + 1) = .int lo :: dInts (lo + 1) n := by
  unfold dInts
  rw [List.range_succ_eq_map, List.map_cons, List.map_map]
  simp
  intro a _
  omega
/-! ### texts -/
theorem out_rt {r : SV} {s : S} : outF (.rt r s) = .ok r s.pile := (id rfl)
theorem out_nx {s : S} : outF (.nx s) = .ok (.val .non) s.pile := (id rfl)
def okS (s : List Nat) : Bool := s.all fun c => decide (c < 1114112)
theorem shaped_str {a : List Nat} (h : okS a = true) : SeqAt.shaped (.str ⟨a.toArray⟩) = true := by
  unfold SeqAt.shaped
  have : PyData.canLay0 (.str ⟨a.toArray⟩) = true := by
    unfold okS at h
    simp [PyData.canLay0, PyData.strOk, okS] at h ⊢
    exact h
  rw [this]; rfl
theorem eqv_str {a b : List Nat} (ha : okS a = true) (hb : okS b = true) : dEqv (.str a) (.str b) = some (.bl (decide (a = b))) := by
  unfold dEqv dEq
  simp only [toP, Option.bind_some]
  rw [if_pos ⟨shaped_str ha, shaped_str hb⟩]
  show some (D.bl ((⟨a.toArray⟩ : Str) == ⟨b.toArray⟩)) = _
  rw [str_beq]
  by_cases q : a = b <;> simp [q]
theorem nev_str {a b : List Nat} (ha : okS a = true) (hb : okS b = true) : dNev (.str a) (.str b) = some (.bl (decide (a ≠ b))) := by
  have h := eqv_str ha hb
  unfold dEqv at h
  unfold dNev
  obtain ⟨k, h1, h2⟩ := Option.map_eq_some_iff.mp h
  rw [h1]
  cases h2
  by_cases q : a = b <;> simp [q]
theorem eqv_int {a b : Int} : dEqv (.int a) (.int b) = some (.bl (decide (a = b))) := by
  unfold dEqv dEq
  simp only [toP, Option.bind_some]
  rw [if_pos ⟨rfl, rfl⟩]
  show some (D.bl (a == b)) = _
  congr 2
theorem nev_int {a b : Int} : dNev (.int a) (.int b) = some (.bl (decide (a ≠ b))) := by
  have h := eqv_int (a := a) (b := b)
  unfold dEqv at h
  unfold dNev
  obtain ⟨k, h1, h2⟩ := Option.map_eq_some_iff.mp h
  rw [h1]
  cases h2
  by_cases q : a = b <;> simp [q]
theorem atI_nat {α : Type} {l : List α} {i : Nat} (h : i < l.length) : atI l (i : Int) = l[i]? := by
  unfold atI ixN
  rw [if_pos (by omega), if_pos (by omega)]
  simp
theorem cut_to {α : Type} {l : List α} {k : Nat} (h : k ≤ l.length) : cutD l none (some (k : Int)) = l.take k := by
  unfold cutD
  rw [HT.sIx_none, HT.sIx_nat, List.drop_zero, Nat.min_eq_left h, Nat.sub_zero]

/-! ### for simp: what a slot holds -/
def kVar (i : Nat) (l : List SV) (n : Int) : Option SV → R D
  | some (.val d) => .ok d ⟨l, n⟩
  | some (.own d) => .ok (.lst d) ⟨l.set i (.val (.lst d)), n⟩
  | _ => .stuck
theorem e_var {i : Nat} {l : List SV} {n : Int} : mVar i ⟨l, n⟩ = kVar i l n l[i]? := (id rfl)
theorem e_kVarV {i : Nat} {l : List SV} {n : Int} {d : D} : kVar i l n (some (.val d)) = .ok d ⟨l, n⟩ := (id rfl)
theorem e_kVarO {i : Nat} {l : List SV} {n : Int} {d : List D} : kVar i l n (some (.own d)) = .ok (.lst d) ⟨l.set i (.val (.lst d)), n⟩ := (id rfl)
def kVo (i : Nat) (l : List SV) (n : Int) : Option SV → R SV
  | some (.val d) => .ok (.val d) ⟨l, n⟩
  | some (.own d) => .ok (.own d) ⟨l.set i .no, n⟩
  | some (.dct d) => .ok (.dct d) ⟨l.set i .no, n⟩
  | _ => .stuck
theorem e_oVar {i : Nat} {l : List SV} {n : Int} : oVar i ⟨l, n⟩ = kVo i l n l[i]? := (id rfl)
theorem e_kVoV {i : Nat} {l : List SV} {n : Int} {d : D} : kVo i l n (some (.val d)) = .ok (.val d) ⟨l, n⟩ := (id rfl)
theorem e_kVoO {i : Nat} {l : List SV} {n : Int} {d : List D} : kVo i l n (some (.own d)) = .ok (.own d) ⟨l.set i .no, n⟩ := (id rfl)
def kGet : Option SV → Option D
  | some (.val d) => some d
  | some (.own l) => some (.lst l)
  | _ => none
def kB1V (f : D → Option SV) (s : S) : Option D → R SV
  | some d => R.of ((f d).bind good1) s
  | none => .stuck
theorem e_b1V {f : D → Option SV} {i : Nat} {l : List SV} {n : Int} : oB1V f i ⟨l, n⟩ = kB1V f ⟨l, n⟩ (kGet l[i]?) := (id rfl)
theorem e_kB1V {f : D → Option SV} {s : S} {d : D} : kB1V f s (some d) = R.of ((f d).bind good1) s := (id rfl)
theorem e_kGetV {d : D} : kGet (some (.val d)) = some d := (id rfl)
theorem e_kGetO {d : List D} : kGet (some (.own d)) = some (.lst d) := (id rfl)
def kIxV (i : Nat) (b : EM) (s : S) : Option D → R D
  | none => .stuck
  | some _ => (b s).bind (ixAt i)
theorem e_ixV {i : Nat} {b : EM} {l : List SV} {n : Int} : mIxV i b ⟨l, n⟩ = kIxV i b ⟨l, n⟩ (kGet l[i]?) := (id rfl)
theorem e_kIxV {i : Nat} {b : EM} {s : S} {d : D} : kIxV i b s (some d) = (b s).bind (ixAt i) := (id rfl)
def kAt (y : D) (s : S) : Option D → R D
  | some .pile => (match y with
    | .int 0 => .ok (.int s.pile) s
    | _ => .stuck)
  | some d => R.of (dIx d y) s
  | none => .stuck
theorem e_ixAt {i : Nat} {y : D} {l : List SV} {n : Int} : ixAt i y ⟨l, n⟩ = kAt y ⟨l, n⟩ (kGet l[i]?) := (id rfl)
theorem e_kAtS {y : D} {s : S} {d : List Nat} : kAt y s (some (.str d)) = R.of (dIx (.str d) y) s := (id rfl)
theorem e_kAtL {y : D} {s : S} {d : List D} : kAt y s (some (.lst d)) = R.of (dIx (.lst d) y) s := (id rfl)
theorem e_kAtT {y : D} {s : S} {d : List D} : kAt y s (some (.tup d)) = R.of (dIx (.tup d) y) s := (id rfl)
theorem e_kAtK {y : D} {s : S} {d : List D} : kAt y s (some (.kst d)) = R.of (dIx (.kst d) y) s := (id rfl)
theorem e_kAtP {l : List SV} {n : Int} : kAt (.int 0) ⟨l, n⟩ (some .pile) = .ok (.int n) ⟨l, n⟩ := (id rfl)
def kRes (l : List SV) : FR → R SV
  | .ok (.val d) n => .ok (.val d) ⟨l, n⟩
  | .ok (.own d) n => .ok (.own d) ⟨l, n⟩
  | .ok _ _ => .stuck
  | .exc c m n => .exc c m ⟨l, n⟩
  | .stuck => .stuck
theorem e_res {f : FM} {ds : List D} {l : List SV} {n : Int} : callR f ds ⟨l, n⟩ = kRes l (f ds n) := by
  unfold callR kRes
  cases f ds n with
  | ok r n => cases r <;> rfl
  | _ => rfl
theorem e_kResV {l : List SV} {n : Int} {d : D} : kRes l (.ok (.val d) n) = .ok (.val d) ⟨l, n⟩ := (id rfl)
theorem e_kResO {l : List SV} {n : Int} {d : List D} : kRes l (.ok (.own d) n) = .ok (.own d) ⟨l, n⟩ := (id rfl)
theorem e_kResX {l : List SV} {n : Int} {c : String} {m : Option Int} : kRes l (.exc c m n) = .exc c m ⟨l, n⟩ := (id rfl)
def kCP (i : Nat) (f : FM) (m : AM) (s : S) : Option SV → R SV
  | some (.own _) => (m s).bind (kCallP f i)
  | _ => .stuck
theorem e_cP {i : Nat} {f : FM} {m : AM} {l : List SV} {n : Int} : oCallR i f m ⟨l, n⟩ = kCP i f m ⟨l, n⟩ l[i]? := (id rfl)
theorem e_kCP {i : Nat} {f : FM} {m : AM} {s : S} {d : List D} : kCP i f m s (some (.own d)) = (m s).bind (kCallP f i) := (id rfl)
def kCQ (i : Nat) (f : FM) (ds : List D) (s : S) : Option SV → R SV
  | some (.own [.int n]) => if noPiles ds = true then outR i (f (.pile :: ds) n) s else .stuck
  | _ => .stuck
theorem e_cQ {i : Nat} {f : FM} {ds : List D} {l : List SV} {n : Int} : kCallP f i ds ⟨l, n⟩ = kCQ i f ds ⟨l, n⟩ l[i]? := (id rfl)
theorem e_kCQ {i : Nat} {f : FM} {ds : List D} {s : S} {n : Int} : kCQ i f ds s (some (.own [.int n])) = if noPiles ds = true then outR i (f (.pile :: ds) n) s else .stuck := (id rfl)
theorem e_outRV {i : Nat} {d : D} {l : List SV} {n k : Int} : outR i (.ok (.val d) k) ⟨l, n⟩ = if noPile d = true then .ok (.val d) ⟨l.set i (.own [.int k]), n⟩ else .stuck := (id rfl)
theorem e_outRO {i : Nat} {d : List D} {l : List SV} {n k : Int} : outR i (.ok (.own d) k) ⟨l, n⟩ = if noPiles d = true then .ok (.own d) ⟨l.set i (.own [.int k]), n⟩ else .stuck := (id rfl)
def kP0 (d : D) (s : S) : Option SV → RS
  | some (.val .pile) => match d with
    | .int n => .nx ⟨s.sl, n⟩
    | _ => .stuck
  | _ => .stuck
theorem e_kP {i : Nat} {k n : Int} {l : List SV} : kPile i (.int k) ⟨l, n⟩ = kP0 (.int k) ⟨l, n⟩ l[i]? := by
  unfold kPile kP0
  cases l[i]? with
  | none => rfl
  | some v => cases v with
    | val d => cases d <;> rfl
    | _ => rfl
theorem e_kP0 {k n : Int} {l : List SV} : kP0 (.int k) ⟨l, n⟩ (some (.val .pile)) = .nx ⟨l, k⟩ := (id rfl)
def kA0 (i : Nat) (m : EM) (s : S) : Option SV → RS
  | some (.own _) => (m s).bs (kApp i)
  | _ => .stuck
theorem e_app' {i : Nat} {m : EM} {l : List SV} {n : Int} : mApp i m ⟨l, n⟩ = kA0 i m ⟨l, n⟩ l[i]? := (id rfl)
theorem e_kA0 {i : Nat} {m : EM} {s : S} {d : List D} : kA0 i m s (some (.own d)) = (m s).bs (kApp i) := (id rfl)
def kA1 (i : Nat) (d : D) (s : S) : Option SV → RS
  | some (.own l) => if l.length < sizeLine then .nx ⟨s.sl.set i (.own (l ++ [d])), s.pile⟩ else .stuck
  | _ => .stuck
theorem e_kApp' {i : Nat} {d : D} {l : List SV} {n : Int} : kApp i d ⟨l, n⟩ = kA1 i d ⟨l, n⟩ l[i]? := (id rfl)
theorem e_kA1 {i : Nat} {d : D} {s : S} {l : List D} (h : l.length < 1000) : kA1 i d s (some (.own l)) = .nx ⟨s.sl.set i (.own (l ++ [d])), s.pile⟩ := if_pos (Nat.lt_trans h (by rw [sizeLine_eq]; omega))
theorem mk_ev {np n : Nat} {b : SM} {ds : List D} {k : Int} (h : ds.length = np) : mkF np n b ds k = outF (b ⟨ds.map SV.val ++ List.replicate (n - np) .no, k⟩) := if_pos h
end Pd

/-! Pd, part O: more to be worked out by simp. -/
namespace Pd
open PySem L2

/-! insert, +=, dicts -/
def kI0 (i : Nat) (m : AM) (s : S) : Option SV → RS
  | some (.own _) => (m s).bs (kIns i)
  | _ => .stuck
theorem e_ins {i : Nat} {m : AM} {l : List SV} {n : Int} : mIns i m ⟨l, n⟩ = kI0 i m ⟨l, n⟩ l[i]? := (id rfl)
theorem e_kI0 {i : Nat} {m : AM} {s : S} {d : List D} : kI0 i m s (some (.own d)) = (m s).bs (kIns i) := (id rfl)
def kI1 (i : Nat) (k : Int) (d : D) (s : S) : Option SV → RS
  | some (.own l) => if l.length < sizeLine ∧ 0 ≤ k ∧ k < 2 ^ 62 then .nx ⟨s.sl.set i (.own (l.take k.toNat ++ [d] ++ l.drop k.toNat)), s.pile⟩ else .stuck
  | _ => .stuck
theorem e_kIns {i : Nat} {k : Int} {d : D} {l : List SV} {n : Int} : kIns i [.int k, d] ⟨l, n⟩ = kI1 i k d ⟨l, n⟩ l[i]? := by
  unfold kIns kI1
  cases l[i]? with
  | none => rfl
  | some v => cases v <;> rfl
theorem e_kI1 {i k : Nat} {d : D} {s : S} {l : List D} (h : l.length < 2000000) (hk : k ≤ l.length) : kI1 i (k : Int) d s (some (.own l)) = .nx ⟨s.sl.set i (.own (l.take k ++ [d] ++ l.drop k)), s.pile⟩ := by
  have e := sizeLine_eq
  have : kI1 i (k : Int) d s (some (.own l)) = if l.length < sizeLine ∧ 0 ≤ (k : Int) ∧ (k : Int) < 2 ^ 62 then .nx ⟨s.sl.set i (.own (l.take (k : Int).toNat ++ [d] ++ l.drop (k : Int).toNat)), s.pile⟩ else .stuck := rfl
  rw [this, if_pos ⟨by omega, by omega, by omega⟩, Int.toNat_natCast]
def kE0 (i : Nat) (m : OM) (s : S) : Option SV → RS
  | some (.own _) => (m s).bs (kExt i)
  | _ => .stuck
theorem e_ext {i : Nat} {m : OM} {l : List SV} {n : Int} : mExt i m ⟨l, n⟩ = kE0 i m ⟨l, n⟩ l[i]? := (id rfl)
theorem e_kE0 {i : Nat} {m : OM} {s : S} {d : List D} : kE0 i m s (some (.own d)) = (m s).bs (kExt i) := (id rfl)
def kE1 (i : Nat) (k : List D) (s : S) : Option SV → RS
  | some (.own l) => if l.length + k.length ≤ sizeLine then .nx ⟨s.sl.set i (.own (l ++ k)), s.pile⟩ else .stuck
  | _ => .stuck
theorem e_kExt {i : Nat} {k : List D} {l : List SV} {n : Int} : kExt i (.own k) ⟨l, n⟩ = kE1 i k ⟨l, n⟩ l[i]? := by
  unfold kExt kE1
  cases l[i]? with
  | none => rfl
  | some v => cases v <;> rfl
theorem e_kE1 {i : Nat} {k : List D} {s : S} {l : List D} (h : l.length + k.length ≤ 4000000) : kE1 i k s (some (.own l)) = .nx ⟨s.sl.set i (.own (l ++ k)), s.pile⟩ := if_pos (by have e := sizeLine_eq; omega)
theorem e_newD {s : S} : oNewD s = .ok (.dct []) s := (id rfl)
theorem e_dput {i : Nat} {mk mv : EM} {s : S} : mDPut i mk mv s = (mv s).bs (kPut0 i mk) := (id rfl)
def kD0 (i : Nat) (mk : EM) (dv : D) (s : S) : Option SV → RS
  | some (.dct _) => (mk s).bs (kPut i dv)
  | _ => .stuck
theorem e_kPut0 {i : Nat} {mk : EM} {dv : D} {l : List SV} {n : Int} : kPut0 i mk dv ⟨l, n⟩ = kD0 i mk dv ⟨l, n⟩ l[i]? := (id rfl)
theorem e_kD0 {i : Nat} {mk : EM} {dv : D} {s : S} {d : List (Key × D)} : kD0 i mk dv s (some (.dct d)) = (mk s).bs (kPut i dv) := (id rfl)
def kD1 (i : Nat) (dv : D) (k : Key) (s : S) : Option SV → RS
  | some (.dct l) => if l.length < sizeLine then .nx ⟨s.sl.set i (.dct (putD l k dv)), s.pile⟩ else .stuck
  | _ => .stuck
theorem e_kPutS {i : Nat} {dv : D} {w : List Nat} {l : List SV} {n : Int} : kPut i dv (.str w) ⟨l, n⟩ = kD1 i dv (.inr ⟨w.toArray⟩) ⟨l, n⟩ l[i]? := by
  unfold kPut kD1
  cases l[i]? with
  | none => rfl
  | some v => cases v <;> rfl
theorem e_kPutI {i : Nat} {dv : D} {w : Int} {l : List SV} {n : Int} : kPut i dv (.int w) ⟨l, n⟩ = kD1 i dv (.inl w) ⟨l, n⟩ l[i]? := by
  unfold kPut kD1
  cases l[i]? with
  | none => rfl
  | some v => cases v <;> rfl
theorem e_kD1 {i : Nat} {dv : D} {k : Key} {s : S} {l : List (Key × D)} (h : l.length < 4000000) : kD1 i dv k s (some (.dct l)) = .nx ⟨s.sl.set i (.dct (putD l k dv)), s.pile⟩ := if_pos (by have e := sizeLine_eq; omega)
def kKy (i : Nat) (s : S) : Option SV → R (List D)
  | some (.dct l) => .ok (l.map fun q => kD q.1) ⟨s.sl.set i .no, s.pile⟩
  | _ => .stuck
theorem e_itKy {i : Nat} {l : List SV} {n : Int} : itKy i ⟨l, n⟩ = kKy i ⟨l, n⟩ l[i]? := by
  unfold itKy kKy
  cases l[i]? with
  | none => rfl
  | some v => cases v <;> rfl
theorem e_kKy {i : Nat} {s : S} {l : List (Key × D)} : kKy i s (some (.dct l)) = .ok (l.map fun q => kD q.1) ⟨s.sl.set i .no, s.pile⟩ := (id rfl)
def kAg (f : Int → Int → Int) (i : Nat) (m : EM) (s : S) : Option SV → RS
  | some (.val (.int _)) => (m s).bs (kAug f i)
  | _ => .stuck
theorem e_aug {f : Int → Int → Int} {i : Nat} {m : EM} {l : List SV} {n : Int} : mAug f i m ⟨l, n⟩ = kAg f i m ⟨l, n⟩ l[i]? := by
  unfold mAug kAg
  cases l[i]? with
  | none => rfl
  | some v => cases v with
    | val d => cases d <;> rfl
    | _ => rfl
theorem e_kAg {f : Int → Int → Int} {i : Nat} {m : EM} {s : S} {k : Int} : kAg f i m s (some (.val (.int k))) = (m s).bs (kAug f i) := (id rfl)
def kAg1 (f : Int → Int → Int) (i : Nat) (b : Int) (s : S) : Option SV → RS
  | some (.val (.int a)) => .nx ⟨s.sl.set i (.val (.int (f a b))), s.pile⟩
  | _ => .stuck
theorem e_kAug {f : Int → Int → Int} {i : Nat} {b : Int} {l : List SV} {n : Int} : kAug f i (.int b) ⟨l, n⟩ = kAg1 f i b ⟨l, n⟩ l[i]? := by
  unfold kAug kAg1
  cases l[i]? with
  | none => rfl
  | some v => cases v with
    | val d => cases d <;> rfl
    | _ => rfl
theorem e_kAg1 {f : Int → Int → Int} {i : Nat} {a b : Int} {s : S} : kAg1 f i b s (some (.val (.int a))) = .nx ⟨s.sl.set i (.val (.int (f a b))), s.pile⟩ := (id rfl)
/-! zip, isinstance of several, ranges, [::-1] -/
def kZ (ds : List D) (s : S) : R (List D) := match ds with
  | [.lst l, .lst k] => .ok (zipD l k) s
  | [.tup l, .tup k] => .ok (zipD l k) s
  | _ => .stuck
theorem e_itZ {m : AM} {s : S} : itZ m s = (m s).bind kZ := (id rfl)
theorem e_kZL {l k : List D} {s : S} : kZ [.lst l, .lst k] s = .ok (zipD l k) s := (id rfl)
theorem e_kZT {l k : List D} {s : S} : kZ [.tup l, .tup k] s = .ok (zipD l k) s := (id rfl)
def kT2 (d : D) (l : List D) (s : S) : R D := if l.length ≤ sizeLine then R.of (isiAny d l) s else .stuck
def kT1 (ts : AM) (d : D) (s : S) : R D := (ts s).bind (kT2 d)
theorem e_isiT {m : EM} {ts : AM} {s : S} : mIsiT m ts s = (m s).bind (kT1 ts) := (id rfl)
theorem e_kT1 {ts : AM} {d : D} {s : S} : kT1 ts d s = (ts s).bind (kT2 d) := (id rfl)
theorem e_kT2 {d : D} {l : List D} {s : S} (h : l.length ≤ 1000) : kT2 d l s = R.of (isiAny d l) s := if_pos (by have e := sizeLine_eq; omega)
def kG1 (b : EM) (d : D) (s : S) : R SV := (b s).bind (kRgA d)
theorem e_rgA {a b : EM} {s : S} : oRgA a b s = (a s).bind (kG1 b) := (id rfl)
theorem e_kG1 {b : EM} {d : D} {s : S} : kG1 b d s = (b s).bind (kRgA d) := (id rfl)
theorem e_kRgA {i j : Int} {s : S} (h : 0 ≤ i ∧ i < 4000000 ∧ 0 ≤ j ∧ j < 4000000) : kRgA (.int i) (.int j) s = .ok (.own (dInts i (j - i).toNat)) s := if_pos ⟨by omega, by omega, by omega, by omega, by omega⟩
theorem e_rev {m : EM} {s : S} : mRevT m s = (m s).bind kRev := (id rfl)
theorem e_kRev {l : List D} {s : S} : kRev (.tup l) s = .ok (.tup l.reverse) s := (id rfl)
/-! targets that are tuples -/
theorem e_gT {k : Nat} {ms : List D → S → Option S} {l : List D} {s : S} (h : l.length = k) : gT k ms (.tup l) s = ms l s := if_pos h
def kGs (ms : List D → S → Option S) (r : List D) (s : S) : Option S := ms r s
theorem e_gsCons {m : D → S → Option S} {ms : List D → S → Option S} {d : D} {r : List D} {s : S} : gsCons m ms (d :: r) s = (m d s).bind (kGs ms r) := (id rfl)
theorem e_kGs {ms : List D → S → Option S} {r : List D} {s : S} : kGs ms r s = ms r s := (id rfl)
theorem e_gsNil {s : S} : gsNil [] s = some s := (id rfl)
/-! two fors -/
def kL2 (vs vs1 : List Nat) (gm : D → S → Option S) (t : TM) (it1 : AM) (gm1 : D → S → Option S) (t1 : TM) (e : EM) (l : List D) (s : S) : R SV := (lcLoop2 vs vs1 gm t it1 gm1 t1 e l [] ⟨wipeS s.sl vs, s.pile⟩).bind (kLc2 vs s.sl)
theorem e_lc2 {vs vs1 : List Nat} {it : AM} {gm : D → S → Option S} {t : TM} {it1 : AM} {gm1 : D → S → Option S} {t1 : TM} {e : EM} {s : S} : oLc2 vs vs1 it gm t it1 gm1 t1 e s = (it s).bind (kL2 vs vs1 gm t it1 gm1 t1 e) := (id rfl)
/-! == -/
theorem e_eqS {a b : List Nat} : dEqvS (.str a) (.str b) = some (.bl (decide (a = b))) := (id rfl)
theorem e_neS {a b : List Nat} : dNevS (.str a) (.str b) = some (.bl (!decide (a = b))) := (id rfl)
theorem e_eqI {a b : Int} : dEqvS (.int a) (.int b) = some (.bl (decide (a = b))) := eqv_int
theorem e_neI {a b : Int} : dNevS (.int a) (.int b) = some (.bl (decide (a ≠ b))) := nev_int
theorem e_ltI {a b : Int} : dLtB (.int a) (.int b) = some (.bl (decide (a < b))) := (id rfl)
theorem e_ltP {i j : Int} {x y : List Nat} : dLtB (.tup [.int i, .str x]) (.tup [.int j, .str y]) = some (.bl (ltP i j x y)) := (id rfl)
end Pd

/-! Pd, part V: max with a default, sum, places in a text. -/
namespace Pd
open PySem PySem.Spec PyProof.Rows L2

/-! ### max(xs, default=d) -/
theorem max_dflt (a v : Value) : argsOk "max" ⟨[a], [(Str.ofString "default", v)]⟩ := by
  unfold argsOk
  kernel_rfl
theorem nm_max : (toString "max" ++ toString ".loop" : String) = "max.loop" := by decide
section
variable {prog : Program} {w : World} {A : Around} {R : Result → Shared → Prop} {I : Addr} {fp wr : List Addr} {n : Nat} {P : Nat → Value → Prop} {St : Nat → Heap → Prop} {dv : Value}
/-- the loop behind the first item -/
theorem maxd_loop (W : Walks prog w A.in1 I fp wr n P St) (bt : Nat → Nat → Bool) (hc : CmpOf prog w A.in1 .Gt P bt) (S : Addr) (hf : S ∉ fp) :
    ∀ (k j : Nat) (s : Shared) (vb : Value) (c : Nat), n - (j + 1) = k → j + 1 ≤ n → St (j + 1) s.heap → P (argBest bt j) vb → s.heap.get? S = some { cls := .type "list", dict := none, data := .seq #[vb, vb] c, slots := #[] } →
    (∀ v h' tk, P (argBest bt (n - 1)) v → (∀ b o, b ∉ wr → b ≠ S → s.heap.get? b = some o → h'.get? b = some o) → R (.ok (.ret v)) { s with heap := h', toks := tk }) →
    codeAny (model prog w) A (.builtin "max.loop" ⟨[.ref I, .none, .ref S], [(Str.ofString "default", dv)]⟩) R s := by
  have hw : S ∉ wr := fun h => hf (W.sub _ h)
  intro k
  induction k with
  | zero =>
    intro j s vb c hk hj hst hb hS hR
    have hin : j + 1 = n := by omega
    refine codeAny_builtin F.entry_max_loop (?_ : _); rw [Around.under_plainId F.plain_max_loop _]
    refine wpAny_bind (m := seqItems? (.ref S)) (wpAny_seqItems hS rfl ?_)
    refine wpAny_bind (wpAny_tryCatch (W.done s _ _ (hin ▸ hst) fun h1 t1 k1 => ?_))
    have hS1 := k1 S _ hw hS
    refine wpAny_bind (m := updateSeq S (fun _ => #[])) (wpAny_updateSeq hS1 rfl (wpAny_bind (wpAny_letGo (wpAny_pure ?_))))
    exact hR vb _ t1 (by rw [← hin]; exact hb) fun b o hbw hbS e => (Heap.get?_update_other _ _ (Ne.symm hbS)).trans (k1 b o hbw e)
  | succ k ih =>
    intro j s vb c hk hj hst hb hS hR
    have hlt : j + 1 < n := by omega
    refine codeAny_builtin F.entry_max_loop (?_ : _); rw [Around.under_plainId F.plain_max_loop _]
    refine wpAny_bind (m := seqItems? (.ref S)) (wpAny_seqItems hS rfl ?_)
    refine wpAny_bind (wpAny_tryCatch (W.item (j + 1) s _ _ hlt hst fun v h1 t1 hP hst1 k1 => ?_))
    have hS1 := k1 S _ hw hS
    show wpAny _ A.in1 (tryCatch (holding [v, v] (richCompare .Gt v vb >>= _)) _ >>= _) _ _ { s with heap := h1, toks := t1 }
    refine wpAny_bind (wpAny_tryCatch (wpAny_holding (wpAny_bind (hc (j + 1) (argBest bt j) v vb _ _ _ hP hb (wpAny_bind (wpAny_holding (wpAny_truthy_bool (wpAny_bind (wpAny_letGo (wpAny_pure ?_))))))))))
    cases q : bt (j + 1) (argBest bt j) with
    | true =>
      simp only [if_true]
      refine wpAny_bind (wpAny_updateSeq hS1 rfl (wpAny_bind (wpAny_letGo ?_))); rw [nm_max]
      refine wpAny_pure ⟨plainId_quiet F.plain_max_loop _, ih (j + 1) _ v _ (by omega) hlt (W.frame _ _ _ hst1 fun b hbf o e => (Heap.get?_update_other _ _ (fun h : S = b => hf (by rw [h]; exact hbf))).trans e) (by simp only [argBest, q, if_true]; exact hP) (Heap.get?_update_self _ hS1 rfl) fun v2 h2 t2 hP2 k2 => ?_⟩
      exact hR v2 h2 t2 hP2 fun b o hbw hbS e => k2 b o hbw hbS ((Heap.get?_update_other _ _ (Ne.symm hbS)).trans (k1 b o hbw e))
    | false =>
      simp only [Bool.false_eq_true, if_false]
      refine wpAny_bind (wpAny_letGo ?_); rw [nm_max]
      exact wpAny_pure ⟨plainId_quiet F.plain_max_loop _, ih (j + 1) _ vb c (by omega) hlt hst1 (by simp only [argBest, q, Bool.false_eq_true, if_false]; exact hb) hS1 fun v2 h2 t2 hP2 k2 => hR v2 h2 t2 hP2 fun b o hbw hbS e => k2 b o hbw hbS (k1 b o hbw e)⟩
/-- the first item -/
theorem maxd_first (W : Walks prog w A.in1 I fp wr n P St) (bt : Nat → Nat → Bool) (hc : CmpOf prog w A.in1 .Gt P bt) (S : Addr) (hf : S ∉ fp) (hn : 0 < n) {s : Shared} {c : Nat} (hst : St 0 s.heap) (hS : s.heap.get? S = some { cls := .type "list", dict := none, data := .seq #[] c, slots := #[] })
    (hR : ∀ v h' tk, P (argBest bt (n - 1)) v → (∀ b o, b ∉ wr → b ≠ S → s.heap.get? b = some o → h'.get? b = some o) → R (.ok (.ret v)) { s with heap := h', toks := tk }) :
    codeAny (model prog w) A (.builtin "max.loop" ⟨[.ref I, .none, .ref S], [(Str.ofString "default", dv)]⟩) R s := by
  have hw : S ∉ wr := fun h => hf (W.sub _ h)
  refine codeAny_builtin F.entry_max_loop (?_ : _); rw [Around.under_plainId F.plain_max_loop _]
  refine wpAny_bind (m := seqItems? (.ref S)) (wpAny_seqItems hS rfl ?_)
  refine wpAny_bind (wpAny_tryCatch (W.item 0 s _ _ hn hst fun v h1 t1 hP hst1 k1 => ?_))
  have hS1 := k1 S _ hw hS
  show wpAny _ A.in1 (updateSeq S (fun _ => #[v, v]) >>= _) _ _ { s with heap := h1, toks := t1 }
  refine wpAny_bind (wpAny_updateSeq hS1 rfl ?_); rw [nm_max]
  refine wpAny_pure ⟨plainId_quiet F.plain_max_loop _, maxd_loop W bt hc S hf _ 0 _ v _ rfl hn (W.frame _ _ _ hst1 fun b hbf o e => (Heap.get?_update_other _ _ (fun h : S = b => hf (by rw [h]; exact hbf))).trans e) hP (Heap.get?_update_self _ hS1 rfl) fun v2 h2 t2 hP2 k2 => ?_⟩
  exact hR v2 h2 t2 hP2 fun b o hbw hbS e => k2 b o hbw hbS ((Heap.get?_update_other _ _ (Ne.symm hbS)).trans (k1 b o hbw e))
/-- no item -/
theorem maxd_none (W : Walks prog w A.in1 I fp wr 0 P St) (S : Addr) (hf : S ∉ fp) {s : Shared} {c : Nat} (hst : St 0 s.heap) (hS : s.heap.get? S = some { cls := .type "list", dict := none, data := .seq #[] c, slots := #[] })
    (hR : ∀ h' tk, (∀ b o, b ∉ wr → b ≠ S → s.heap.get? b = some o → h'.get? b = some o) → R (.ok (.ret dv)) { s with heap := h', toks := tk }) :
    codeAny (model prog w) A (.builtin "max.loop" ⟨[.ref I, .none, .ref S], [(Str.ofString "default", dv)]⟩) R s := by
  refine codeAny_builtin F.entry_max_loop (?_ : _); rw [Around.under_plainId F.plain_max_loop _]
  refine wpAny_bind (m := seqItems? (.ref S)) (wpAny_seqItems hS rfl ?_)
  refine wpAny_bind (wpAny_tryCatch (W.done s _ _ hst fun h1 t1 k1 => ?_))
  exact wpAny_bind (wpAny_rule (wpAny_pure (hR h1 t1 fun b o hbw _ e => k1 b o hbw e)))
end
section
variable {prog : Program} {w : World} {A : Around} {E : Value → Shared → Prop} {s : Shared}
theorem maxd_walk {x dv : Value} {Q : Value → Shared → Prop}
    (h : wpAny (model prog w) A.in1 (pyIter x) (fun it s₂ => ∃ I fp wr n P St bt, it = .ref I ∧ Walks prog w A.in1 I fp wr n P St ∧ St 0 s₂.heap ∧ (∀ b ∈ fp, b < s₂.heap.objs.size) ∧ CmpOf prog w A.in1 .Gt P bt ∧
      (0 < n → ∀ v h' tk, P (argBest bt (n - 1)) v → (∀ b o, b ∉ wr → s₂.heap.get? b = some o → h'.get? b = some o) → Q v { s₂ with heap := h', toks := tk }) ∧
      (n = 0 → ∀ h' tk, (∀ b o, b ∉ wr → s₂.heap.get? b = some o → h'.get? b = some o) → Q dv { s₂ with heap := h', toks := tk })) E s) :
    wpAny (model prog w) A (call (.builtin "max") [x] [(Str.ofString "default", dv)]) Q E s := by
  refine kmk_tree F.kind_max F.plain_max F.entry_max (max_dflt _ _) ?_
  refine wpAny_bind (m := Builtin.Builtins.bindParams "max" ["key", "default"] 0 ⟨[], [(Str.ofString "default", dv)]⟩) (wpAny_of_eq (show Builtin.Builtins.bindParams "max" ["key", "default"] 0 ⟨[], [(Str.ofString "default", dv)]⟩ = pure [none, some dv] from rfl) ?_)
  refine wpAny_bind (wpAny_pure (wpAny_bind (wpAny_mono h (fun it s₂ h₂ => ?_) fun _ _ e => e)))
  obtain ⟨I, fp, wr, n, P, St, bt, rfl, W, hst, hfp, hc, h1, h2⟩ := h₂
  refine wpAny_bind (wpAny_newObj_type ?_); rw [nm_max]
  have hf : s₂.heap.objs.size ∉ fp := fun hm => Nat.lt_irrefl _ (hfp _ hm)
  have st1 := W.frame _ _ _ hst fun b _ o e => Heap.get?_push_of_some { cls := .type "list", dict := none, data := .seq #[] 0, slots := #[] } e
  cases n with
  | zero =>
    exact wpAny_pure ⟨plainId_quiet F.plain_max_loop _, maxd_none W s₂.heap.objs.size hf st1 (Heap.get?_push_size _ rfl) fun h' tk k1 => h2 rfl h' tk fun b o hbw e => k1 b o hbw (Nat.ne_of_lt (Heap.lt_size e)) (Heap.get?_push_of_some _ e)⟩
  | succ n =>
    exact wpAny_pure ⟨plainId_quiet F.plain_max_loop _, maxd_first W bt hc s₂.heap.objs.size hf (Nat.succ_pos n) st1 (Heap.get?_push_size _ rfl) fun v h' tk hP k1 => h1 (Nat.succ_pos n) v h' tk hP fun b o hbw e => k1 b o hbw (Nat.ne_of_lt (Heap.lt_size e)) (Heap.get?_push_of_some _ e)⟩
theorem maxd_ints {l : Addr} {its : List Value} {ns : List Int} {dv : Value} {Q : Value → Shared → Prop} (hh : A.handled = none) (hl : s.heap.IsList l its.toArray) (hi : IntsAre its ns)
    (h : ∀ h' tk M t', (∀ b o, s.heap.get? b = some o → h'.get? b = some o) → M ∈ ns → (∀ a, a ∈ ns → a ≤ M) → Q (.int M t') { s with heap := h', toks := tk })
    (h0 : ns = [] → ∀ h' tk, (∀ b o, s.heap.get? b = some o → h'.get? b = some o) → Q dv { s with heap := h', toks := tk }) : wpAny (model prog w) A (call (.builtin "max") [.ref l] [(Str.ofString "default", dv)]) Q E s := by
  obtain ⟨xs, e⟩ := hi.allInts.items
  have hn : numsOf (intItems xs).toList = ns := (congrArg (fun z : Array Value => numsOf z.toList) e).symm.trans hi.numsOf
  rw [nums_intItems] at hn; subst hn; rw [e] at hl
  refine maxd_walk (iter_intList hl fun s₂ es st hfp hlI => ?_)
  subst es
  refine ⟨_, _, _, _, _, _, _, rfl, Walks.list (A := A.in1) hh _ l hlI (intItems xs), st, hfp, CmpOf.ints_gt (numAt xs) (fun _ _ => intItems_at), fun hne v h' tk hP hk => ?_, fun hz h' tk hk => ?_⟩
  · have hsz : 0 < xs.size := by simpa [intItems] using hne
    have hP' : (intItems xs)[argBest (fun i j => decide (numAt xs i > numAt xs j)) (xs.size - 1)]? = some v := by simpa [intItems] using hP
    obtain ⟨t, rfl⟩ := intItems_at hP'
    obtain ⟨h1, h2⟩ := argBest_gt (numAt xs) (xs.size - 1)
    refine h h' tk _ t (old_kept hk) ?_ fun a ha => ?_
    · rw [numAt_eq]
      exact PySem.getD_mem (by rw [List.length_map, Array.length_toList]; omega)
    · obtain ⟨j, hj, rfl⟩ := mem_getD ha
      rw [List.length_map, Array.length_toList] at hj
      rw [← numAt_eq]
      exact h2 j (by omega)
  · have hx : xs.size = 0 := by simpa [intItems] using hz
    refine h0 ?_ h' tk (old_kept hk)
    have : xs.toList = [] := List.length_eq_zero_iff.mp (by rw [Array.length_toList]; exact hx)
    rw [this]; rfl
end
def rMaxD (K : PySem.W.Frag) : List V → List V → Hp → VK → Prop := fun vs zs H Q => ∃ (a : Addr) (ns : List Int) (d : Int), vs = [V.ref a] ∧ zs = [.int d] ∧ SqL K H a (ns.map V.int) ∧ (∀ m, m ∈ ns → (∀ y, y ∈ ns → y ≤ m) → Q (.int m) H) ∧ (ns = [] → Q (.int d) H)
theorem cr_maxD {X : Cx} (hc : X.calm = true) : CallRK X (.builtin "max") [Str.ofString "default"] (rMaxD X.K) := by
  intro pins s σ H vs zs us ws Q I r r2 h
  obtain ⟨a, ns, d, rfl, rfl, hs, q, q0⟩ := h
  obtain ⟨its, rv, hl, _⟩ := I.list hs
  rw [Vals.ref1 r]
  obtain ⟨wv, rfl, t, rfl⟩ := vals1 r2
  exact maxd_ints (I.ok.hd hc) hl.isList rv.ints (fun h' tk m t' hk h1 h2 => ⟨.int _, H, I.kept hk, ⟨_, rfl⟩, q m h1 h2⟩) (fun h0 h' tk hk => ⟨.int _, H, I.kept hk, ⟨_, rfl⟩, q0 h0⟩)
end Pd

/-! Pd, part X: dict displays with a for, sorted of an own dict, the rules of part V for the layer. -/
namespace Pd
open PySem PySem.Spec PyProof.Rows L2

/-! ### name = {k: v for ..} on one line -/
section
variable {X : Cx}
theorem ps_setDc {i : Nat} {y : Str} {py pos spos : Pos} {kx vx tg iter : Expr} {ifs : List Expr} {scope : Scope} {own : List (Str × Nat)} {wi : TI} {g : TG} {tt : TT} {tk tv : TE}
    (hc : X.calm = true) (hN : X.N.Nodup) (hy : X.N[i]? = some y) (hyl : X.env.scope.names.lookup y = some .local) (hsw : swapsWith (.DictComp kx vx [⟨tg, iter, ifs, 0⟩] scope pos) (some (.Name y py)) spos.line X.env = pure true)
    (hi : PI X tg iter wi) (ok : BlkOk X.N X.env.scope scope own) (hg : ∀ (s : Shared) (H : Hp) (C : Addr) (cl : List (Str × Addr)) (fp : List Addr), PG (X.blk s H scope (compEnvC scope cl C X.env) fp) tg g)
    (ht : ∀ (s : Shared) (H : Hp) (C : Addr) (cl : List (Str × Addr)) (fp : List Addr), PTs (X.blk s H scope (compEnvC scope cl C X.env) fp) ifs tt) (hk : ∀ (s : Shared) (H : Hp) (C : Addr) (cl : List (Str × Addr)) (fp : List Addr), PE (X.blk s H scope (compEnvC scope cl C X.env) fp) kx tk)
    (hv : ∀ (s : Shared) (H : Hp) (C : Addr) (cl : List (Str × Addr)) (fp : List Addr), PE (X.blk s H scope (compEnvC scope cl C X.env) fp) vx tv) (hs : ∀ x, foldedSetIterable iter X.env x = pure x := by intro _; rfl) :
    PS X (.Assign [.Name y py] (.DictComp kx vx [⟨tg, iter, ifs, 0⟩] scope pos) spos) (tAsg (tDc wi g tt tk tv (own.map (·.2))) (gName i)) := by
  refine ⟨fun pins s σ H Dn I h => ?_⟩
  rw [exec_Assign_Name_used _ _ _ _ hsw]; refine wpAny_bind (wpAny_standAt (wpAny_bind (?_ : _)))
  show wpAny _ X.A (do let _ ← comprehension (.DictComp kx vx [⟨tg, iter, ifs, 0⟩] scope pos) scope X.env (firstIterPos [⟨tg, iter, ifs, 0⟩] pos) newDict false (eval iter X.env) (some (assign (.Name y py) X.env))) _ _ s
  have h' : tDc wi g tt tk tv (own.map (·.2)) σ H (fun x H1 => gName i x σ H1 Dn.nx) := h
  refine wpAny_bind (thn (dc_core (Qf := fun _ s' => SP X pins Dn .next s') hc hN I hi ok hg ht hk hv hs h' fun L C s' m H' I' q hn f => ?_) fun _ s' hq => wpAny_pure (wpAny_pure hq))
  refine wpAny_assign_Name (store_ok2 (v := V.ref L) I' hN hy (.inl hyl) rfl (fun s2 I2 ⟨a, sb, ha⟩ => ?_) (.inr hyl))
  obtain ⟨g0, g1, g2, g3, g4, g5⟩ := f
  have hne : C ≠ a := by rcases ha with z | z; exact (z ▸ g1); exact fun e => g4 y a z e.symm
  exact ⟨m, hn.sameBut sb hne, fun h3 sb3 => ⟨_, H', I2.turned (t' := s2.toks) (fun b o hb e => (sb3.2 b hb).trans e) g0 g1 g3 g4 g5, q⟩⟩
theorem sw_trueD {kx vx : Expr} {gs : List Comprehension} {scope : Scope} {pos py : Pos} {y : Str} {l : Nat} {env : Env} (hk : env.scope.kind = .function) (hy : env.scope.names.lookup y = some .local)
    (hl : (py.line == pos.line) = true) (ha : (scope.names.any fun (n, k) => n == y && (k == .local || k == .cell)) = false) : swapsWith (.DictComp kx vx gs scope pos) (some (.Name y py)) l env = pure true := by
  have e1 : env.kindOf y = some .local := hy
  have e2 : env.blockKind = .function := by unfold Env.blockKind; rw [hk] <;> rfl
  unfold swapsWith
  simp only [e2, e1, ha, Expr.pos, hl] <;> rfl
end
theorem paired_mono {g : Gl} {p : Option Addr} {F F' : Hp} (e : Ext F F') : ∀ {kvs : List (Key × V)} {l : List (Key × D)}, Paired (RD g p F) kvs l → Paired (RD g p F') kvs l
  | _, _, .nil => .nil
  | _, _, .cons h t => .cons ⟨h.1, h.2.mono e⟩ (paired_mono e t)
/-! ### its meaning -/
def dcLoop (vs : List Nat) (gm : D → S → Option S) (t : TM) (ek ev : EM) : List D → List (Key × D) → S → R (List (Key × D))
  | [], acc, s => .ok acc s
  | d :: r, acc, s => match gm d s with
    | none => .stuck
    | some s1 => match t s1 with
      | .ok true s2 => (match ek s2 with
        | .ok kd s3 => (match ev s3 with
          | .ok x s4 => (match keyD kd with
            | some k => if acc.length < sizeLine then dcLoop vs gm t ek ev r (putD acc k x) ⟨wipeS s4.sl vs, s4.pile⟩ else .stuck
            | none => .stuck)
          | _ => .stuck)
        | _ => .stuck)
      | .ok false s2 => dcLoop vs gm t ek ev r acc ⟨wipeS s2.sl vs, s2.pile⟩
      | _ => .stuck
def oDc (vs : List Nat) (it : AM) (gm : D → S → Option S) (t : TM) (ek ev : EM) : OM := fun s => (it s).bind fun items s1 =>
  (dcLoop vs gm t ek ev items [] ⟨wipeS s1.sl vs, s1.pile⟩).bind fun acc s2 => .ok (.dct acc) ⟨backS s2.sl s1.sl vs, s2.pile⟩
theorem sim_dc {g : Gl} {W : WX} {vs : List Nat} {wi : TI} {gt : TG} {tt : TT} {tk tv : TE} {mi : AM} {gm : D → S → Option S} {mt : TM} {mk mv : EM} (nd : vs.Nodup)
    (i2 : Sim g W (RepI g) wi mi) (g2 : SimGw g vs gt gm) (t2 : Sim g WF RepB tt mt) (k2' : Sim g WF (RepV g) tk mk) (v2' : Sim g WF (RepV g) tv mv) : SimO g W (tDc wi gt tt tk tv vs) (oDc vs mi gm mt mk mv) := by
  intro p H0 F0 A F s σ H Q Y hp
  refine i2 p H0 F0 A F s σ H _ Y (PostO.bind hp fun items s1 J F1 H1 A1 Y1 e1 r1 hp1 => ?_)
  intro D0 nD
  obtain ⟨k1, k2, k3, k4⟩ := Y1.fresh nD
  have f0 : F0 D0 = none := by
    cases q : F0 D0 with
    | none => rfl
    | some o => rw [Y1.ef0 _ _ q] at k1; cases k1
  have Y2 := Y1.grow (Gr.lay (o := HO.dK []) Y1.ext Y1.tb nD)
  obtain ⟨Aw, mw, qw⟩ := Y2.sl.wipe vs
  have Yw : Rel g p H0 F0 Aw F1 ⟨wipeS s1.sl vs, s1.pile⟩ (L2.wipe σ vs) (upd H1 D0 (.dK [])) := Y2.slots (s' := ⟨wipeS s1.sl vs, s1.pile⟩) rfl qw
  let P (i : Nat) (H' : Hp) : Prop := ∃ F3 A3 s3 accV acc, Rel g p H0 F0 A3 F3 s3 (L2.wipe σ vs) H' ∧ Ext F1 F3 ∧ H' D0 = some (.dK accV) ∧ Paired (RD g p F3) accV acc ∧ F3 D0 = none ∧ D0 ∉ A3 ∧
    PostO g W p H0 F0 F3 σ Q ((dcLoop vs gm mt mk mv (items.drop i) acc s3).bind fun acc s2 => .ok (.dct acc) ⟨backS s2.sl s1.sl vs, s2.pile⟩)
  refine ⟨fun i n H' => n = items.length - i ∧ i ≤ items.length ∧ P i H', ⟨items.length, by simp, Nat.zero_le _, F1, Aw, _, [], [], Yw, Ext.refl _, upd_same, .nil, k1, fun z => k4 (mw _ z), by simpa using hp1⟩, ?_⟩
  rintro i n H2 ⟨rfl, hi, F3, A3, s3, accV, acc, Y3, e3, hD, rA, fD, aD, hp3⟩
  by_cases hlt : i < items.length
  · have ed : items.drop i = items[i] :: items.drop (i + 1) := List.drop_eq_getElem_cons hlt
    rw [ed] at hp3
    refine .inr ⟨r1.go i F3 H2 e3 Y3.ext hlt, P (i + 1), fun H' h => ⟨items.length - (i + 1), by omega, rfl, hlt, h⟩, fun x H' hy => ?_⟩
    obtain ⟨d, F4, hd, G4, r4⟩ := r1.yld i F3 H2 x H' e3 Y3.ext Y3.tb hy hlt
    have ee : d = items[i] := by rw [List.getElem?_eq_getElem hlt] at hd; exact (Option.some.inj hd).symm
    subst ee
    have Yp := Y3.protect hD fD k2 aD
    have Y4 := Yp.grow G4
    have e4 := e3.trans G4.ff
    unfold dcLoop at hp3
    cases qg : gm items[i] s3 with
    | none => rw [qg] at hp3; exact hp3.elim
    | some s4 =>
      simp only [qg] at hp3
      refine g2 p _ F0 A3 F4 s3 _ H' x _ _ Y4 r4 ⟨s4, qg, fun σ5 A5 hw0 Y5 => ?_⟩
      have hw : L2.wipe σ5 vs = L2.wipe σ vs := hw0.trans (wipe_wipe σ vs)
      refine ⟨hw, ?_⟩
      have hp5 := PostO.mono hp3 G4.ff
      refine t2 p _ F0 A5 F4 s4 σ5 H' _ Y5 ?_
      cases qt : mt s4 with
      | exc c n s5 => simp only [qt] at hp5; exact hp5.elim
      | stuck => simp only [qt] at hp5; exact hp5.elim
      | ok b s5 =>
        refine fun b' F6 H6 A6 Y6 e6 eb => ?_
        subst eb
        simp only [qt] at hp5
        cases b' with
        | false =>
          obtain ⟨z1, z2, z3, z4⟩ := Y6.unprotect f0 k3 trivial k2
          obtain ⟨A7, m7, q7⟩ := z1.sl.rewipe hw
          exact ⟨F6, A7, ⟨wipeS s5.sl vs, s5.pile⟩, accV, acc, z1.slots (s' := ⟨wipeS s5.sl vs, s5.pile⟩) rfl q7, e4.trans e6, z2, paired_mono (G4.ff.trans e6) rA, z3, fun z => z4 (m7 _ z), PostO.mono hp5 e6⟩
        | true =>
          refine k2' p _ F0 A6 F6 s5 σ5 H6 _ Y6 ?_
          have hp6 := PostO.mono hp5 e6
          cases qe : mk s5 with
          | exc c n s6 => simp only [qe] at hp6; exact hp6.elim
          | stuck => simp only [qe] at hp6; exact hp6.elim
          | ok kd s6 =>
            simp only [qe] at hp6
            refine fun kv F7 H7 A7 Y7 e7 r7 => ?_
            refine v2' p _ F0 A7 F7 s6 σ5 H7 _ Y7 ?_
            have hp7 := PostO.mono hp6 e7
            cases qv : mv s6 with
            | exc c n s7 => simp only [qv] at hp7; exact hp7.elim
            | stuck => simp only [qv] at hp7; exact hp7.elim
            | ok y s7 =>
              simp only [qv] at hp7
              refine fun v F8 H8 A8 Y8 e8 r8 => ?_
              have hp8 := PostO.mono hp7 e8
              cases qk : keyD kd with
              | none => simp only [qk] at hp8; exact hp8.elim
              | some k =>
                simp only [qk] at hp8
                obtain ⟨z1, z2, z3, z4⟩ := Y8.unprotect f0 k3 trivial k2
                by_cases hs : acc.length < sizeLine
                · rw [if_pos hs] at hp8
                  refine ⟨accV, k, key_rep r7 qk, z2, by rw [paired_len rA]; exact hs, ?_⟩
                  have U := z1.chg (o := .dK (putK accV k v)) z2 z3 k2 k3 z4
                  obtain ⟨A9, m9, q9⟩ := U.sl.rewipe hw
                  exact ⟨F8, A9, ⟨wipeS s7.sl vs, s7.pile⟩, _, putD acc k y, U.slots (s' := ⟨wipeS s7.sl vs, s7.pile⟩) rfl q9, ((e4.trans e6).trans e7).trans e8, upd_same, paired_put (paired_mono (G4.ff.trans (e6.trans (e7.trans e8))) rA) r8, z3, fun z => z4 (m9 _ z), hp8⟩
                · rw [if_neg hs] at hp8; exact hp8.elim
  · have ei : i = items.length := by omega
    subst ei
    rw [List.drop_length] at hp3
    refine .inl ⟨r1.stop _ F3 H2 e3 Y3.ext (Nat.le_refl _), ?_⟩
    obtain ⟨A4, m4, q4⟩ := Sl.back e3 Y1.sl vs _ A3 nd Y3.sl
    exact hp3 D0 accV F3 H2 A4 (Y3.slots (s' := ⟨backS s3.sl s1.sl vs, s3.pile⟩) rfl q4) (Ext.refl _) rA hD fD k2 k3 fun z => aD (m4 _ z)
section
variable {g : Gl} {X : Cx} {W : WX}
structure DcOk (g : Gl) (X : Cx) (W : WX) (kx vx tg iter : Expr) (ifs : List Expr) (scope : Scope) (own : List (Str × Nat)) (mi : AM) (gm : D → S → Option S) (mt : TM) (mk mv : EM) : Prop where
  hc : X.calm = true
  hN : X.N.Nodup
  hi : DI g X W tg iter mi
  ok : BlkOk X.N X.env.scope scope own
  nd : (own.map (·.2)).Nodup
  hg : ∀ (s : Shared) (H : Hp) (C : Addr) (cl : List (Str × Addr)) (fp : List Addr), DGw' g (X.blk s H scope (compEnvC scope cl C X.env) fp) (own.map (·.2)) tg gm
  ht : ∀ (s : Shared) (H : Hp) (C : Addr) (cl : List (Str × Addr)) (fp : List Addr), DTs g (X.blk s H scope (compEnvC scope cl C X.env) fp) WF ifs mt
  hk : ∀ (s : Shared) (H : Hp) (C : Addr) (cl : List (Str × Addr)) (fp : List Addr), DE g (X.blk s H scope (compEnvC scope cl C X.env) fp) WF kx mk
  hv : ∀ (s : Shared) (H : Hp) (C : Addr) (cl : List (Str × Addr)) (fp : List Addr), DE g (X.blk s H scope (compEnvC scope cl C X.env) fp) WF vx mv
variable {kx vx tg iter : Expr} {ifs : List Expr} {scope : Scope} {own : List (Str × Nat)} {mi : AM} {gm : D → S → Option S} {mt : TM} {mk mv : EM} {pos spos py : Pos}
theorem do_dc (L : DcOk g X W kx vx tg iter ifs scope own mi gm mt mk mv) (hs : ∀ x, foldedSetIterable iter X.env x = pure x := by intro _; rfl) : DO g X W (.DictComp kx vx [⟨tg, iter, ifs, 0⟩] scope pos) (oDc (own.map (·.2)) mi gm mt mk mv) :=
  ⟨_, pe_dc L.hc L.hN L.hi.can L.ok (fun s H C cl fp => (L.hg s H C cl fp).can) (fun s H C cl fp => (L.ht s H C cl fp).can) (fun s H C cl fp => (L.hk s H C cl fp).can) (fun s H C cl fp => (L.hv s H C cl fp).can) hs, sim_dc L.nd sim_can simGw_can sim_can sim_can sim_can⟩
theorem ds_setDc {i : Nat} {y : Str} (hy : X.N[i]? = some y) (hyl : X.env.scope.names.lookup y = some .local) (hsw : swapsWith (.DictComp kx vx [⟨tg, iter, ifs, 0⟩] scope pos) (some (.Name y py)) spos.line X.env = pure true)
    (L : DcOk g X W kx vx tg iter ifs scope own mi gm mt mk mv) (hs : ∀ x, foldedSetIterable iter X.env x = pure x := by intro _; rfl) : DS g X W (.Assign [.Name y py] (.DictComp kx vx [⟨tg, iter, ifs, 0⟩] scope pos) spos) (mSet i (good (oDc (own.map (·.2)) mi gm mt mk mv))) :=
  ⟨_, ps_setDc L.hc L.hN hy hyl hsw L.hi.can L.ok (fun s H C cl fp => (L.hg s H C cl fp).can) (fun s H C cl fp => (L.ht s H C cl fp).can) (fun s H C cl fp => (L.hk s H C cl fp).can) (fun s H C cl fp => (L.hv s H C cl fp).can) hs, sim_set (sim_dc L.nd sim_can simGw_can sim_can sim_can sim_can)⟩
end
end Pd

/-! Pd, part Y: sorted of an own dict of texts, sum, max with a default, places in a text, enumerate of a text. -/
namespace Pd
open PySem PySem.Spec PyProof.Rows L2

/-! ### sorted texts -/
def insLex (w : List Nat) : List (List Nat) → List (List Nat)
  | [] => [w]
  | x :: r => if w < x then w :: x :: r else x :: insLex w r
def sortLex (ws : List (List Nat)) : List (List Nat) := ws.foldr insLex []
theorem insLex_perm (w : List Nat) : ∀ l, (insLex w l).Perm (w :: l)
  | [] => .refl _
  | x :: r => by
    unfold insLex
    split
    · exact .refl _
    · exact ((insLex_perm w r).cons x).trans (.swap w x r)
theorem sortLex_perm : ∀ ws, (sortLex ws).Perm ws
  | [] => .refl _
  | w :: r => (insLex_perm w (sortLex r)).trans ((sortLex_perm r).cons w)
def leW (a b : List Nat) : Prop := ¬ b < a
theorem lex_tri : ∀ {a b : List Nat}, a ≠ b → a < b ∨ b < a
  | [], [], h => absurd rfl h
  | [], _ :: _, _ => .inl (List.nil_lt_cons _ _)
  | _ :: _, [], _ => .inr (List.nil_lt_cons _ _)
  | x :: a, y :: b, h => by
    by_cases q : x = y
    · subst q
      rcases lex_tri (fun z => h (by rw [z]) : a ≠ b) with k | k
      · exact .inl (List.cons_lt_cons_iff.mpr (.inr ⟨rfl, k⟩))
      · exact .inr (List.cons_lt_cons_iff.mpr (.inr ⟨rfl, k⟩))
    · by_cases k : x < y
      · exact .inl (List.cons_lt_cons_iff.mpr (.inl k))
      · exact .inr (List.cons_lt_cons_iff.mpr (.inl (by omega)))
theorem leW_of_lt {a b : List Nat} (h : a < b) : leW a b := fun z => List.lt_irrefl a (List.lt_trans h z)
theorem leW_trans {a b c : List Nat} (h1 : leW a b) (h2 : leW b c) : leW a c := fun z => by
  by_cases e : a = b
  · subst e; exact h2 z
  · rcases lex_tri e with k | k
    · exact h2 (List.lt_trans z k)
    · exact h1 k
theorem insLex_asc (w : List Nat) : ∀ {l}, l.Pairwise leW → (insLex w l).Pairwise leW
  | [], _ => List.pairwise_singleton _ _
  | x :: r, h => by
    obtain ⟨h1, h2⟩ := List.pairwise_cons.mp h
    unfold insLex
    split
    · rename_i q
      refine List.pairwise_cons.mpr ⟨fun y hy => ?_, h⟩
      rcases List.mem_cons.mp hy with rfl | hy
      · exact leW_of_lt q
      · exact leW_trans (leW_of_lt q) (h1 y hy)
    · rename_i q
      refine List.pairwise_cons.mpr ⟨fun y hy => ?_, insLex_asc w h2⟩
      rcases List.mem_cons.mp ((insLex_perm w r).mem_iff.mp hy) with rfl | hy
      · exact q
      · exact h1 y hy
theorem sortLex_asc : ∀ ws, (sortLex ws).Pairwise leW
  | [] => .nil
  | w :: r => insLex_asc w (sortLex_asc r)
theorem lex_one {l m : List (List Nat)} (hl : l.Pairwise leW) (hm : m.Pairwise leW) (h : l.Perm m) : l = m :=
  List.Perm.eq_of_pairwise (fun a b _ _ h1 h2 => by
    by_cases e : a = b
    · exact e
    · rcases lex_tri e with k | k
      · exact absurd k h2
      · exact absurd k h1) hl hm h
theorem rising_asc : ∀ {r : List Str} {p : Str}, risingS p r = true → (∀ y ∈ r, leW p.cps.toList y.cps.toList) ∧ r.Pairwise fun a b => leW a.cps.toList b.cps.toList
  | [], p, _ => ⟨(fun _ h => by cases h), .nil⟩
  | x :: r, p, h => by
    have h : (!ltCps x.cps.toList p.cps.toList && risingS x r) = true := h
    rw [Bool.and_eq_true, Bool.not_eq_true', ltCps_eq, decide_eq_false_iff_not] at h
    obtain ⟨h1, h2⟩ := h
    obtain ⟨k1, k2⟩ := rising_asc h2
    refine ⟨fun y hy => ?_, List.pairwise_cons.mpr ⟨k1, k2⟩⟩
    rcases List.mem_cons.mp hy with rfl | hy
    · exact h1
    · exact leW_trans h1 (k1 y hy)
theorem sortedS_asc {l : List Str} (h : sortedS l = true) : (l.map fun x => x.cps.toList).Pairwise leW := by
  cases l with
  | nil => exact .nil
  | cons x r =>
    obtain ⟨k1, k2⟩ := rising_asc (p := x) (r := r) h
    rw [List.pairwise_map]
    exact List.pairwise_cons.mpr ⟨k1, k2⟩
def keysW : List (Key × D) → Option (List (List Nat))
  | [] => some []
  | (.inr x, _) :: r => (keysW r).map (x.cps.toList :: ·)
  | (.inl _, _) :: _ => none
theorem keysW_rep {g : Gl} {p : Option Addr} {F : Hp} : ∀ {kvs : List (Key × V)} {l : List (Key × D)} {ws : List (List Nat)}, Paired (RD g p F) kvs l → keysW l = some ws → ∃ ks : List Str, kvs.map (·.1) = ks.map Sum.inr ∧ ks.map (fun x => x.cps.toList) = ws
  | _, _, _, .nil, e => by cases e; exact ⟨[], rfl, rfl⟩
  | _, (.inl _, _) :: _, _, .cons h t, e => by cases e
  | (a, b) :: _, (.inr x, y) :: _, ws, .cons h t, e => by
    obtain ⟨ws', e1, e2⟩ := Option.map_eq_some_iff.mp e
    obtain ⟨ks, k1, k2⟩ := keysW_rep t e1
    have ha : a = .inr x := h.1
    exact ⟨x :: ks, by rw [List.map_cons, List.map_cons, k1, ha], by rw [List.map_cons, k2, ← e2]⟩
def oSortD (i : Nat) : OM := fun s => match s.sl[i]? with
  | some (.dct l) => (match keysW l with
    | some ws => if ws.length < 64 then .ok (.own ((sortLex ws).map D.str)) s else .stuck
    | none => .stuck)
  | _ => .stuck
theorem reps_strs {g : Gl} {p : Option Addr} {F : Hp} : ∀ ys : List Str, Reps g p F (ys.map V.str) ((ys.map fun x => x.cps.toList).map D.str)
  | [] => .nil
  | y :: r => .cons (rep_str y) (reps_strs r)
section
variable {g : Gl} {X : Cx} {W : WX} {e : Expr} {m : EM} {pos p' : Pos}
theorem do_sortD {i : Nat} (hc : X.calm = true) (hg : L2.Gl X "sorted") (hm : X.mg "sorted" = none) (hv : bootBuiltins "sorted" = some (.builtin "sorted")) (h : PE X e (tVar i))
    (he : starEach [e] X.env = (false, eval e X.env) :: starEach [] X.env := by rfl) (hpl : (backTo pos (starEach [] X.env)).any (·.1) = false := by rfl) : DO g X W (.Call (.Name "sorted" p') [e] [] pos) (oSortD i) := by
  refine ⟨_, pe_callB (call_sortedD hc) hg hm hv (pa_cons h pa_nil he) (by decide) (by decide) he hpl, fun p H0 F0 A F s σ H Q Y hp => ?_⟩
  unfold oSortD at hp
  cases q : s.sl[i]? with
  | none => rw [q] at hp; exact hp.elim
  | some sv =>
    rw [q] at hp
    cases sv with
    | no => exact hp.elim
    | val d => exact hp.elim
    | own l => exact hp.elim
    | dct l =>
      simp only at hp
      cases qk : keysW l with
      | none => rw [qk] at hp; exact hp.elim
      | some ws =>
        rw [qk] at hp
        simp only at hp
        by_cases hw : ws.length < 64
        · rw [if_pos hw] at hp
          obtain ⟨a0, kvs0, h1, _, h2, r2⟩ := Y.sl.getDct q
          obtain ⟨ks, k1, k2⟩ := keysW_rep r2 qk
          refine ⟨.ref a0, h1, a0, kvs0, ks, rfl, .inl h2, k1, by rw [← k2, List.length_map] at hw; exact hw, fun ys q' hperm hsort nq => ?_⟩
          have ey : (ys.map fun x => x.cps.toList) = sortLex ws := by
            refine lex_one (sortedS_asc hsort) (sortLex_asc ws) ?_
            exact ((hperm.map _).trans (k2 ▸ .refl _)).trans (sortLex_perm ws).symm
          have G := Gr.lay (g := g) (p := none) (o := HO.lst (ys.map V.str)) Y.ext Y.tb nq
          obtain ⟨z1, z2, z3, z4⟩ := Y.fresh nq
          refine hp q' _ _ _ A (Y.grow G) G.ff ?_ upd_same z1 z2 z3 z4
          rw [← ey]
          exact reps_strs ys
        · rw [if_neg hw] at hp; exact hp.elim
/-! ### sum, max with a default -/
def dSum : D → Option SV
  | .lst l => (intsOf l).map fun ns => .val (.int ns.sum)
  | _ => none
theorem rc_sum : RC1 g (rSum g.K) dSum := by
  intro p F H v d Q r e t h
  cases d with
  | lst l =>
    obtain ⟨a, vs, rfl, h1, r1⟩ := r.lst e
    have h : OpPO g p F H Q ((intsOf l).map fun ns => .val (.int ns.sum)) := h
    cases q : intsOf l with
    | none => rw [q] at h; exact h.elim
    | some ns =>
      rw [q] at h
      have ev := intsOf_rep r1 q
      subst ev
      exact ⟨a, ns, rfl, .inl h1, OpPO.val (d := .int _) h e t (.int _)⟩
  | _ => exact h.elim
def maxDI (d : Int) : List Int → Int
  | [] => d
  | i :: r => r.foldl max i
def dMaxD (k : Int) : D → Option SV
  | .lst l => (intsOf l).map fun ns => .val (.int (maxDI k ns))
  | _ => none
theorem do_maxD {k : Int} {j : Nat} {cp kp : Pos} (hc : X.calm = true) (hg : L2.Gl X "max") (hm : X.mg "max" = none) (hv : bootBuiltins "max" = some (.builtin "max")) (h : DE g X W e m) (hK : X.K = g.K := by rfl)
    (he : backTo pos (starEach [e] X.env) = (false, eval e X.env) :: backTo pos (starEach [] X.env) := by rfl) (hs : starEach [e] X.env = (false, eval e X.env) :: starEach [] X.env := by rfl) (hpl : (backTo pos (starEach [e] X.env)).any (·.1) = false := by rfl)
    (hall : (backToKw pos (keywordEach [⟨some (Str.ofString "default"), .Constant (.int k) j cp, kp⟩] X.env)).all (·.1.isSome) = true := by rfl) (hnone : (backToKw pos (keywordEach [⟨some (Str.ofString "default"), .Constant (.int k) j cp, kp⟩] X.env)).any (·.1.isNone) = false := by rfl)
    (hks : (backToKw pos (keywordEach [⟨some (Str.ofString "default"), .Constant (.int k) j cp, kp⟩] X.env)).filterMap (·.1) = [Str.ofString "default"] := by rfl) :
    DO g X W (.Call (.Name "max" p') [e] [⟨some (Str.ofString "default"), .Constant (.int k) j cp, kp⟩] pos) (oB1 (dMaxD k) m) := by
  obtain ⟨t, a1, a2⟩ := h
  refine ⟨_, pe_callBK (cr_maxD hc) hg hm hv (pa_cons a1 pa_nil hs) (pk_cons pe_int pk_nil) (by decide) (by decide) he hpl hall hnone hks, fun p H0 F0 A F s σ H Q Y hp => ?_⟩
  refine a2 p H0 F0 A F s σ H _ Y (PostO.bind hp fun d s1 v F1 H1 A1 Y1 e1 r1 hp1 => ?_)
  have ho := PostO.of Y1 hp1
  show rMaxD X.K [v] [.int k] H1 Q
  rw [hK]
  cases d with
  | lst l =>
    obtain ⟨a, vs, rfl, h1, r2⟩ : ∃ a vs, v = .ref a ∧ Rd F1 a (.lst vs) ∧ Reps g p F1 vs l := by
      cases r1 with | lst h1 r2 => exact ⟨_, _, rfl, h1, r2⟩
    have ho : OpPO g p F1 H1 Q ((intsOf l).map fun ns => .val (.int (maxDI k ns))) := ho
    cases q : intsOf l with
    | none => rw [q] at ho; exact ho.elim
    | some ns =>
      rw [q] at ho
      have ev := intsOf_rep r2 q
      subst ev
      have ho : OpPO g p F1 H1 Q (some (.val (.int (maxDI k ns)))) := ho
      refine ⟨a, ns, k, rfl, rfl, .inl (ext_rd Y1.ext h1), fun m hmem hle => ?_, fun hn => ?_⟩
      · cases ns with
        | nil => cases hmem
        | cons i r =>
          obtain ⟨m1, m2, m3⟩ := foldl_max r i
          have em : m = r.foldl max i := by
            have u1 : m ≤ r.foldl max i := by
              rcases List.mem_cons.mp hmem with rfl | hmem
              · exact m1
              · exact m2 m hmem
            have u2 : r.foldl max i ≤ m := by
              rcases m3 with m3 | m3
              · rw [m3]; exact hle i (List.mem_cons_self ..)
              · exact hle _ (List.mem_cons_of_mem _ m3)
            omega
          rw [em]
          exact OpPO.val (d := .int _) ho Y1.ext Y1.tb (.int _)
      · subst hn
        exact OpPO.val (d := .int _) ho Y1.ext Y1.tb (.int _)
  | _ => exact ho.elim
end
end Pd

/-! Pd, part Z: places in a text, enumerate of a text. -/
namespace Pd
open PySem PySem.Spec PyProof.Rows L2

/-! ### // of great ints -/
def dDivW : D → D → Option D := dI (fun _ j => decide (0 < j ∧ j.natAbs.log2 < 9000)) fun i j => .int (i / j)
theorem rop_divW {g : Gl} : ROp g (rI CDivW fun i j => .int (i / j)) dDivW := rop_I (fun i j h => by
  have := of_decide_eq_true h
  exact this) fun _ _ _ _ => .int _
theorem i_divW {i j : Int} (h : 0 < j) (h' : j.natAbs < 2 ^ 1000) : dDivW (.int i) (.int j) = some (.int (i / j)) := by
  have e : j.natAbs.log2 < 9000 := by
    have : j.natAbs.log2 < 1000 := (Nat.log2_lt (by omega)).mpr h'
    omega
  exact if_pos (decide_eq_true ⟨h, e⟩)
/-! ### text.index(sign), found -/
def dFind : D → D → Option D
  | .str a, .str b => match Builtin.Str.occurrences ⟨a.toArray⟩ ⟨b.toArray⟩ 0 (⟨a.toArray⟩ : Str).length 1 with
    | i :: _ => some (.int (i : Nat))
    | [] => none
  | _, _ => none
def kSIx (me : EM) (d : D) (s1 : S) : R D := match d with
  | .str a => (me s1).bind fun c s2 => R.of (dFind (.str a) c) s2
  | _ => .stuck
def mSIx (mo me : EM) : EM := fun s => (mo s).bind (kSIx me)
section
variable {g : Gl} {X : Cx} {W : WX} {o e : Expr} {mo me : EM} {apos cpos : Pos}
theorem de_sindex (ho : DE g X W o mo) (he : DE g X W e me) (hbase : attributeBase o "index" X.env (eval o X.env) = eval o X.env := by rfl)
    (hfew : ((backTo cpos (starEach [e] X.env)).all (fun x => !x.1) && (backToKw cpos (keywordEach [] X.env)).all (fun x => x.1.isSome) && decide ([e].length + ([] : List Keyword).length + (if ([] : List Keyword).isEmpty then 0 else 1) < 30)) = true := by rfl)
    (hline : (apos.endLine == cpos.line) = true := by rfl) (hs : starEach [e] X.env = (false, eval e X.env) :: starEach [] X.env := by rfl) (hpl : (backTo cpos (starEach [] X.env)).any (·.1) = false := by rfl) :
    DE g X W (.Call (.Attribute o "index" apos) [e] [] cpos) (mSIx mo me) := by
  obtain ⟨t, a1, a2⟩ := ho
  obtain ⟨u, b1, b2⟩ := he
  refine ⟨_, pe_bm PySem.F.plainAttrs_str PySem.F.slot_str_index PySem.F.type_str_index mt_sindex a1 (pa_cons b1 pa_nil hs) hbase hfew hline hs hpl, fun p H0 F0 A F s σ H Q Y hp => ?_⟩
  refine a2 p H0 F0 A F s σ H _ Y (hp.bind fun d s1 v F1 H1 A1 Y1 e1 r1 hp1 => ?_)
  unfold kSIx at hp1
  cases d with
  | str w =>
    cases r1
    refine ⟨rfl, b2 p H0 F0 A1 F1 s1 σ H1 _ Y1 (Post.bind hp1 fun c s2 v2 F2 H2 A2 Y2 e2 r2 hp2 => ?_)⟩
    cases c with
    | str z =>
      cases r2
      have hp2 : Post g W (RepV g) p H0 F0 F2 σ Q (R.of (dFind (.str w) (.str z)) s2) := hp2
      unfold dFind at hp2
      cases q : Builtin.Str.occurrences ⟨w.toArray⟩ ⟨z.toArray⟩ 0 (⟨w.toArray⟩ : Str).length 1 with
      | nil => simp only [q] at hp2; exact hp2.elim
      | cons i rest =>
        simp only [q] at hp2
        exact ⟨_, _, i, rest, rfl, rfl, q, hp2 _ F2 H2 A2 Y2 (Ext.refl _) (.int _)⟩
    | _ => exact hp2.elim
  | _ => exact hp1.elim
end
/-! ### enumerate of a text -/
/-- each sign in a new pair with its place -/
def Itet (x : Str) : It := ⟨fun i _ => i < x.cps.size, fun i H v H' => ∃ T c, v = .ref T ∧ H T = none ∧ x.cps[i]? = some c ∧ H' = upd H T (.tup [.int (i : Nat), .str ⟨#[c]⟩]), fun i _ => x.cps.size ≤ i⟩
theorem turn_enT {P : Program} {w : World} {K : PySem.W.Frag} {elts : List Expr} {kk : Nat} {tpos : Pos} (x : Str) (t : Tok) (e it : Addr) :
    Turn P w K (.Tuple elts kk tpos) (Itet x) [e, it] e (fun i h => (∃ old, IsEnum h e it ((i : Nat) : Int) old) ∧ h.IsStrIter it (strIterType x) x t i ∧ e ≠ it ∧ i ≤ x.cps.size) where
  mem := by simp
  obj := fun i h st b hb => by
    obtain ⟨⟨old, he⟩, ⟨o, ho, hc, hd⟩, _⟩ := st
    rcases (show b = e ∨ b = it by simpa using hb) with z | z
    · rw [z]; exact ⟨_, he, fun v q => nomatch q⟩
    · rw [z]; exact ⟨o, ho, fun v q => by rw [hd] at q; cases q⟩
  keep := fun i h h' st k => by
    obtain ⟨⟨old, he⟩, ⟨o, ho, hr⟩, hne, hi⟩ := st
    exact ⟨⟨old, k e (by simp) _ he⟩, ⟨o, k it (by simp) _ ho, hr⟩, hne, hi⟩
  item := by
    intro X hP hw hK hc i pins s σ H E I hf st hg
    subst hP hw hK
    obtain ⟨⟨old, he⟩, hit, hne, _⟩ := st
    have hel : e < s.heap.objs.size := Heap.lt_size he
    have hil : it < s.heap.objs.size := by obtain ⟨_, q, _⟩ := hit; exact Heap.lt_size q
    have DT := Draws.text (prog := X.prog) (w := X.w) (A := X.A.in1) (I.ok.hd hc) it x t
    refine wpAny_pyNext_enum_itemD DT he hit hg hne (by simpa using hne) fun v h1 t1 hv ho hit' hT hsz hk => ?_
    obtain ⟨c, u, hcx, rfl⟩ := hv
    refine ⟨_, rfl, wpAny_letOwnedTupleGo_enum (s := { s with heap := h1, toks := t1 + 1 }) ho fun h2 he' sb => ?_⟩
    have hT2 : h2.get? s.heap.objs.size = some { cls := .type "tuple", data := .seq #[.int i t1, .str ⟨#[c]⟩ u] } := (sb.2 _ (Nat.ne_of_gt hel)).trans hT
    have new : ObjOk X.prog X.w (upd H s.heap.objs.size (.tup [.int (i : Nat), .str ⟨#[c]⟩])) h2 s.heap.objs.size (.tup [.int (i : Nat), .str ⟨#[c]⟩]) :=
      ⟨by show 2 ≤ sizeLine; decide, [.int i t1, .str ⟨#[c]⟩ u], .cons ⟨_, rfl⟩ (.cons ⟨_, rfl⟩ .nil), ⟨_, hT2, rfl, _, rfl⟩⟩
    have I1 : Inv X pins σ (upd H s.heap.objs.size (.tup [.int (i : Nat), .str ⟨#[c]⟩])) { s with heap := h2, toks := t1 + 1 } :=
      I.turnedNew (ch := [e, it]) (fun b ob hb q => (sb.2 b (fun z => hb (by simp [z]))).trans (hk b ob (fun z => hb (by simp [z])) (fun z => hb (by simp [z])) q)) hf (Nat.le_refl _) new
    obtain ⟨oi, g1, g2⟩ := hit'
    refine ⟨.ref s.heap.objs.size, _, I1, rfl, ⟨_, c, rfl, I.hok.fresh (Nat.le_refl _), hcx, rfl⟩, ⟨⟨.str ⟨#[c]⟩ u, by rw [show ((i + 1 : Nat) : Int) = (i : Int) + 1 by omega]; exact he'⟩, ⟨oi, (sb.2 it (Ne.symm hne)).trans g1, g2⟩, hne, hg⟩, fun b hb => ?_⟩
    have hb' : b < s.heap.objs.size := by
      rcases (show b = e ∨ b = it by simpa using hb) with z | z
      · rw [z]; exact hel
      · rw [z]; exact hil
    rw [upd_ne (Nat.ne_of_lt hb')]; exact (hf b hb).1
  done := by
    intro X hP hw hK hc i pins s σ H E I hf st hg
    subst hP hw hK
    obtain ⟨⟨old, he⟩, hit, hne, hi⟩ := st
    have ei : i = x.cps.size := Nat.le_antisymm hi hg
    subst ei
    obtain ⟨f0, f1, f2, f3, f4, f5⟩ := hf it (by simp)
    have DT := Draws.text (prog := X.prog) (w := X.w) (A := X.A.in1) (I.ok.hd hc) it x t
    exact wpAny_pyNext_enum_endD DT he hit fun h' eb => ⟨rfl, I.turned (t' := s.toks) (fun b o hb q => eb b o hb q) f0 f1 f3 f4 f5⟩
  self := fun A i s Q E st h => let ⟨⟨_, he⟩, _⟩ := st; wpAny_pyIter_enum he h
def iEnT (ta : TA) : TI := fun σ H R => ta σ H fun vs H1 => ∃ x, vs = [.str x] ∧ R (Itet x) H1
theorem pi_enT {X : Cx} {e : Expr} {ta : TA} {p pos tpos : Pos} {elts : List Expr} {kk : Nat} (hg : L2.Gl X "enumerate") (hm : X.mg "enumerate" = none) (ha : PA X [e] ta) (hs : starEach [e] X.env = [(false, eval e X.env)] := by rfl) :
    PI X (.Tuple elts kk tpos) (.Call (.Name "enumerate" p) [e] [] pos) (iEnT ta) := by
  refine ⟨fun pins s σ H R I h => ?_⟩
  refine Call_ (ld_blt I hg hm boot_enumerate (PyProof.Rows.callWith_type1 (thn (ha.run pos pins s σ H _ I h) fun us s1 ⟨vs, H1, I1, r1, x, ex, q⟩ => ?_) hs rfl))
  subst ex
  cases r1 with
  | cons r rr =>
    cases rr
    obtain ⟨t, rfl⟩ := r
    refine call_enumerate_str fun h' he hit hsz hk => wpAny_pyIter_enum he ?_
    have I2 : Inv X pins σ H1 { s1 with heap := h' } := I1.kept (t' := s1.toks) hk
    refine ⟨s1.heap.objs.size + 1, [s1.heap.objs.size + 1, s1.heap.objs.size], _, _, H1, rfl, I2, turn_enT x t (s1.heap.objs.size + 1) s1.heap.objs.size, ⟨⟨.none, he⟩, hit, Nat.succ_ne_self _, Nat.zero_le _⟩, fun b hb => ?_, q⟩
    have hle : s1.heap.objs.size ≤ b := by
      rcases (show b = s1.heap.objs.size + 1 ∨ b = s1.heap.objs.size by simpa using hb) with z | z
      · rw [z]; exact Nat.le_succ _
      · rw [z]; exact Nat.le_refl _
    exact I1.fpOk hle (I1.hok.fresh hle)
def enD (w : List Nat) : List D := (List.range w.length).map fun i => .tup [.int ((i : Nat) : Int), .str [w.getD i 0]]
section
variable {g : Gl} {X : Cx} {W : WX}
theorem it_enT {p : Option Addr} {F1 : Hp} (s : List Nat) : ItOk g p F1 (enD s) (Itet ⟨s.toArray⟩) where
  go := fun i F H e1 e2 hi => by
    show i < s.toArray.size
    unfold enD at hi
    rw [List.length_map, List.length_range] at hi
    simpa using hi
  yld := fun i F H x H' e1 e2 tb hy hi => by
    obtain ⟨T, c, rfl, hT, hc, rfl⟩ := hy
    have hc' : s[i]? = some c := by simpa using hc
    have G := Gr.new (g := g) (p := none) (o := .tup [.int (i : Nat), .str ⟨#[c]⟩]) e2 tb hT
    have hl : i < s.length := by
      by_cases q : i < s.length
      · exact q
      · rw [List.getElem?_eq_none (by omega)] at hc'; cases hc'
    refine ⟨.tup [.int ((i : Nat) : Int), .str [c]], _, ?_, G, .tup (.inl (.inl (upd_same ..))) (.cons (.int _) (.cons (.str [c]) .nil))⟩
    unfold enD
    rw [List.getElem?_map, List.getElem?_range hl]
    show some (D.tup [.int (i : Int), .str [s.getD i 0]]) = _
    rw [List.getD_eq_getElem?_getD, hc']
    rfl
  stop := fun i F H e1 e2 hi => by
    show s.toArray.size ≤ i
    unfold enD at hi
    rw [List.length_map, List.length_range] at hi
    simpa using hi
def itEnT (m : AM) : AM := fun s => (m s).bind fun ds s1 => match ds with
  | [.str w] => .ok (enD w) s1
  | _ => .stuck
theorem di_enT {e : Expr} {ma : AM} {p' pos tpos : Pos} {elts : List Expr} {kk : Nat} (hg : L2.Gl X "enumerate") (hm : X.mg "enumerate" = none) (ha : DA g X W [e] ma) (hs : starEach [e] X.env = [(false, eval e X.env)] := by rfl) :
    DI g X W (.Tuple elts kk tpos) (.Call (.Name "enumerate" p') [e] [] pos) (itEnT ma) := by
  obtain ⟨t, a1, a2⟩ := ha
  refine ⟨_, pi_enT hg hm a1 hs, fun p H0 F0 A F s σ H Q Y hp => a2 p H0 F0 A F s σ H _ Y (hp.bind fun ds s1 vs F1 H1 A1 Y1 e1 r1 hp1 => ?_)⟩
  match ds, vs, r1, hp1 with
  | [.str w], [v], .cons r .nil, hp1 =>
    cases r
    exact ⟨_, rfl, hp1 _ F1 H1 A1 Y1 (Ext.refl _) (it_enT w)⟩
  | [], _, _, hp1 => exact hp1.elim
  | [.non], _, _, hp1 => exact hp1.elim
  | [.bl _], _, _, hp1 => exact hp1.elim
  | [.int _], _, _, hp1 => exact hp1.elim
  | [.tup _], _, _, hp1 => exact hp1.elim
  | [.lst _], _, _, hp1 => exact hp1.elim
  | [.pile], _, _, hp1 => exact hp1.elim
  | [.exc _ _], _, _, hp1 => exact hp1.elim
  | [.clo _ _], _, _, hp1 => exact hp1.elim
  | [.obj _], _, _, hp1 => exact hp1.elim
  | [.ty _], _, _, hp1 => exact hp1.elim
  | [.cls _], _, _, hp1 => exact hp1.elim
  | [.kst _], _, _, hp1 => exact hp1.elim
  | a :: b :: r, _, _, hp1 => cases a <;> exact hp1.elim
end
end Pd

/-! Pe, part A: try .. except C as e, the caught exception tracked from then on. -/
namespace Pd
open PySem PySem.Spec PyProof.Rows L2

section
variable {X : Cx} {pins : List (Addr × Obj)} {σ : L2.St} {H : Hp} {sI s' : Shared} {B : Heap} {a C : Addr} {d : Option Addr}
/-- an exception's object that has come down is tracked -/
theorem caught_inv (I : Inv X pins σ H sI) (inB : ∀ b o, sI.heap.get? b = some o → b ∉ frs X.stack → B.get? b = some o)
    (st : B.StaysIn s'.heap) (up : sI.heap.UpToSlots s'.heap) (same : s'.os = sI.os) (ag : AllBare s'.gens)
    (out : B.get? a = none) (nf : a ∉ frs X.stack) (na : H a = none) {oa : Obj} {vs : Array Value}
    (ha : s'.heap.get? a = some oa) (hc : oa.cls = .ref C) (hd : oa.dict = d) (hv : oa.data = .fields vs) :
    Inv X pins σ (upd H a (ExcO a C d)) s' := by
  have J := I.landed inB st up same ag
  have gone : sI.heap.get? a = none := by
    cases q : sI.heap.get? a with
    | none => rfl
    | some o => have z := inB a o q nf; rw [out] at z; cases z
  have ne : ∀ b o, sI.heap.get? b = some o → b ≠ a := fun b o q z => by rw [z, gone] at q; cases q
  have fr : ∀ b ∈ frs X.stack, ∀ o, sI.heap.get? b = some o → ∃ sl, s'.heap.get? b = some { o with slots := sl } := fun b hb o q => by
    obtain ⟨_, o1, q1, hnf⟩ := I.stack.mem hb
    rw [q] at q1; cases q1
    exact up b o q hnf
  refine I.call' (ch := []) same ⟨fun b o q _ hb _ => st b o (inB b o q hb), fun b o q _ hb _ => fr b hb o q, fun b o q n _ => ?_, fun b o q _ => ?_, fun b xs q => ?_, fun b o u q => ?_, fun b ps q => ⟨#[], ?_⟩⟩ ?_ ag (fun _ z => nomatch z)
  · rw [upd_ne (ne b o q)]; exact n
  · by_cases hb : b ∈ frs X.stack
    · obtain ⟨sl, z⟩ := fr b hb o q
      exact ⟨_, z⟩
    · exact ⟨o, st b o (inB b o q hb)⟩
  · rw [upd_ne (ne_of_none q na)]; exact q
  · rw [upd_ne (ne_of_none q na)]; exact q
  · rw [upd_ne (ne_of_none q na), q]; simp
  · intro b u q
    by_cases hb : b = a
    · subst hb
      rw [upd_same] at q
      cases q
      exact ⟨⟨oa, vs, ha, hc, hd, hv⟩, ⟨oa, ha⟩, fun h1 h2 ⟨o, ws, k1, k2, k3, k4⟩ kk => ⟨o, ws, kk o k1, k2, k3, k4⟩⟩
    · rw [upd_ne hb] at q
      refine (J.hok b u q).stay (fun _ _ _ z => z) (fun d z => ?_) fun d xs z => ?_
      · rw [upd_ne (ne_of_none z na)]; exact z
      · rw [upd_ne (ne_of_none z na)]; exact z
end

/-- all that the clause's end forgets: its name -/
abbrev endsNo (i : Nat) (D : Ends) : Ends := { nx := fun σ H => D.nx (σ.set i none) H, rt := D.rt, bk := fun σ H => D.bk (σ.set i none) H, ct := fun σ H => D.ct (σ.set i none) H }
section
variable {X : Cx} {x n : Str} {i : Nat} {body suite : List Stmt} {b₀ : Stmt} {np pos pos' : Pos} {C0 : Addr}
/-- what the clause wants of an exception: that it is caught, and the suite with its object tracked -/
def wCatch (K : PySem.W.Frag) (C0 : Addr) (i : Nat) (ts : Addr → List (Addr × Obj) → TS) (D : Ends) : WX := fun cls d σ H =>
  PySem.W.exmOne K cls (.ref C0) = some true ∧ ∃ C, cls = .ref C ∧ ∀ a pn, H a = none → ts a pn (endsNo i D) (σ.set i (some (.ref a))) (upd H a (ExcO a C d))
abbrev TBody (X : Cx) := (W : WX) → (pn : List (Addr × Obj)) → (xe : Value → Shared → Prop) → Takes (X.tr pn xe) W → PassesOwn (model X.prog X.w) X.A X.env xe → TS
theorem ps_catch {tb : TBody X} {ts : Addr → List (Addr × Obj) → TS} (hs : X.stack = X.env :: X.outer) (hf : X.env.frame = some X.env.locals) (hN : X.N.Nodup) (hi : X.N[i]? = some n) (hln : X.env.kindOf n = some .local)
    (hc : Names X x (.ref C0))
    (hb : ∀ W pn xe tk ow, PSs (X.tr pn xe) body (tb W pn xe tk ow))
    (hsu : ∀ a pn, PSs (X.suite a pn) (b₀ :: suite) (ts a pn)) :
    PS X (.Try body [.ExceptHandler (some (.Name x np)) (some n) (b₀ :: suite) pos'] [] [] pos)
      (fun D σ H => ∀ pn xe tk ow, tb (wCatch X.K C0 i ts D) pn xe tk ow D σ H) := by
  refine ⟨fun pins s σ H D I h => ?_⟩
  have ok := I.ok
  have hfr : X.A.frames = some (X.env :: X.outer) := by rw [ok.frames, hs]
  have lc : Loc X.env.scope n := .inl hln
  refine wpAny_Try_except ?_
  have tk : Takes (X.tr (X.pn ++ pins) (fun e s₁ => wpAny (model X.prog X.w) X.A (noteFrame e X.env) (fun _ s₂ => wpAny (model X.prog X.w) X.A (setFlight e none) (fun _ s₃ =>
      wpAny (model X.prog X.w) X.A (handleBy e X.env [.ExceptHandler (some (.Name x np)) (some n) (b₀ :: suite) pos']) (SP X pins D) X.xe s₃) X.xe s₂) X.xe s₁)) (wCatch X.K C0 i ts D) := by
    rintro u s1 ⟨a, B, sI, pins1, σ1, H1, cls, d, rfl, J0, inB, up, sky, na, same, ag, hm, C, rfl, hyes⟩
    have J : Inv X pins σ1 H1 sI := J0.ofTry ok
    have sky1 : Sky B (X.env :: X.outer) a (Zc (.ref C) d) X.env.locals s1.heap := by rw [← hs]; exact sky
    show wpAny (model X.prog X.w) X.A (noteFrame (.ref a) X.env) _ _ _
    refine Sky.land Zc.steady hfr hf sky1 fun h3 fl3 up3 => ?_
    have J3 : Inv X pins σ1 H1 { s1 with heap := h3 } := J.landed inB fl3.1 (up.trans up3) same ag
    obtain ⟨oe3, vs3, he3, hz3, hd3⟩ := fl3.there
    have nfr : a ∉ frs (X.env :: X.outer) := fun hm => by
      obtain ⟨_, o1, e1, hnf⟩ := fl3.2.2.1.mem hm
      rw [he3] at e1; cases e1
      exact hnf _ hd3
    have nst : a ∉ frs X.stack := by rw [hs]; exact nfr
    have nL : a ≠ X.env.locals := fun z => nfr (List.mem_filterMap.mpr ⟨X.env, List.mem_cons_self, by rw [hf, z]⟩)
    have nF : a ∉ X.fs := fun hm => by
      obtain ⟨e, he, q⟩ := List.mem_filterMap.mp hm
      exact nfr (List.mem_filterMap.mpr ⟨e, List.mem_cons_of_mem _ he, q⟩)
    have S3 := J3.suite he3 hd3 na nL nF
    refine wpAny_handleBy_cons (codeAny_handlers_test ?_) (by intro q; cases q)
    have LT : PySem.W.Looks (model X.prog X.w) h3 (typeOf (.ref a)) (.ref C) := fun A Q E s k q => wpAny_typeOf_ref (k _ _ he3) (by rw [hz3.1]; exact q)
    have LM := PySem.W.exm_one (M := model X.prog X.w) (J3.kIn) LT hm
    have test : ∀ {Q : Value → Shared → Prop} {E : Value → Shared → Prop}, Q (.ref C0) { s1 with heap := h3 } → wpAny (model X.prog X.w) (X.A.mark (some (.ref a))) (eval (.Name x np) X.env) Q E { s1 with heap := h3 } := fun {Q E} q => by
      obtain ⟨hg, hdbg, hm | ⟨hm, hv, hnn⟩⟩ := hc
      · exact ld_glob (X := X.suite a ((a, oe3) :: (X.pn ++ pins))) S3 hg hm q hdbg
      · exact ld_blt (X := X.suite a ((a, oe3) :: (X.pn ++ pins))) S3 hg hm hv q hnn hdbg
    refine test (LM.here ?_)
    refine codeAny_handlers_suite_as ?_
    refine HandSPX.lands_againZ fl3 fun h4 fl4 up4 => ?_
    obtain ⟨oe4, vs4, he4, hz4, hd4⟩ := fl4.there
    have J4 : Inv X pins σ1 (upd H1 a (ExcO a C d)) { s1 with heap := h4 } :=
      caught_inv (s' := { s1 with heap := h4 }) J inB fl4.1 ((up.trans up3).trans up4) same ag fl4.2.1 nst na he4 hz4.1 hz4.2 hd4
    have S4 : Inv (X.suite a (X.pn ++ pins)) [] σ1 (upd H1 a (ExcO a C d)) { s1 with heap := h4 } :=
      ⟨ok.suite _ _, J4.os, J4.bare, J4.base, J4.loc, J4.cell, J4.free, J4.freeC, fun p hp => J4.pin p (by rw [List.append_nil] at hp; exact hp), J4.hok, J4.len⟩
    have un : ∀ {σ6 : L2.St} {H6 : Hp} {s6 : Shared}, Inv (X.suite a (X.pn ++ pins)) [] σ6 H6 s6 → Inv X pins σ6 H6 s6 := fun {σ6 H6 s6} S6 =>
      ⟨ok, S6.os, S6.bare, S6.base, S6.loc, S6.cell, S6.free, S6.freeC, fun p hp => S6.pin p (List.mem_append_left _ hp), S6.hok, S6.len⟩
    refine store_ok (X := X.suite a (X.pn ++ pins)) (v := .ref a) S4 hN hi lc rfl (fun s5 S5 => ?_) (.inr hln)
    refine wpAny_mono ((hsu a (X.pn ++ pins)).run [] s5 _ _ (endsNo i D) S5 (hyes a (X.pn ++ pins) na)) (fun f s6 hsp => ?_) (fun _ _ z => False.elim z)
    have fin : ∀ {σ6 : L2.St} {H6 : Hp} {Q : Shared → Prop}, Inv (X.suite a (X.pn ++ pins)) [] σ6 H6 s6 → (∀ s7, Inv X pins (σ6.set i none) H6 s7 → Q s7) →
        wpAny (model X.prog X.w) X.A (do bindName X.env n .none; unbindBehindTheSuite X.env n pos') (fun _ s7 => Q s7) X.xe s6 := fun {σ6 H6 Q} S6 hq => gone_ok (un S6) hN hi hln hq
    match f, hsp with
    | .next, ⟨_, _, S6, q6⟩ => exact fin S6 fun s7 J7 => ⟨_, _, J7, q6⟩
    | .brk, ⟨_, _, S6, q6⟩ => exact fin S6 fun s7 J7 => ⟨_, _, J7, q6⟩
    | .cont, ⟨_, _, S6, q6⟩ => exact fin S6 fun s7 J7 => ⟨_, _, J7, q6⟩
    | .ret u, ⟨_, _, _, S6, r6, q6⟩ => exact fin S6 fun s7 J7 => ⟨_, _, _, J7, r6, q6⟩
  refine wpAny_mono ((hb _ _ _ tk PassesOwn.looking).run [] s σ H D (I.toTry _) (h _ _ tk PassesOwn.looking)) (fun f s1 hsp => ?_) (fun e s1 he => he)
  match f, hsp with
  | .next, ⟨σ1, H1, J1, q⟩ => exact wpAny_execs_nil ⟨σ1, H1, J1.ofTry ok, q⟩
  | .brk, ⟨σ1, H1, J1, q⟩ => exact ⟨σ1, H1, J1.ofTry ok, q⟩
  | .cont, ⟨σ1, H1, J1, q⟩ => exact ⟨σ1, H1, J1.ofTry ok, q⟩
  | .ret u, ⟨v, σ1, H1, J1, r, q⟩ => exact ⟨v, σ1, H1, J1.ofTry ok, r, q⟩
end

/-! ### the meaning -/
/-- these classes are caught by the clause -/
def noE (i : Nat) (s : S) : S := { s with sl := s.sl.set i .no }
def setE (i : Nat) (c : String) (n : Option Int) (s : S) : S := { s with sl := s.sl.set i (.val (.exc c n)) }
def mTry (cs : List String) (i : Nat) (mb mh : SM) : SM := fun s => match mb s with
  | .exc c n s1 => if c ∈ cs then (match mh (setE i c n s1) with
      | .nx s2 => .nx (noE i s2)
      | .rt v s2 => .rt v s2
      | _ => .stuck) else .stuck
  | r => r
structure Catches (K : PySem.W.Frag) (mg : Str → Option Value) (x : String) (C0 : Addr) (cs : List String) : Prop where
  gl : mg (Str.ofString x) = some (.ref C0)
  all : ∀ c ∈ cs, ∀ C, mg (Str.ofString c) = some (.ref C) → PySem.W.exmOne K (.ref C) (.ref C0) = some true
section
variable {g : Gl} {X : Cx} {W : WX} {x : String} {n : Str} {i : Nat} {body suite : List Stmt} {b₀ : Stmt} {np pos pos' : Pos} {C0 : Addr} {cs : List String} {mb mh : SM}
theorem ds_try (K0 : Catches X.K X.mg x C0 cs) (hN : X.N.Nodup) (hi : X.N[i]? = some n) (hln : X.env.kindOf n = some .local) (hg : L2.Gl X (Str.ofString x))
    (hb : ∀ W pn xe, Takes (X.tr pn xe) W → PassesOwn (model X.prog X.w) X.A X.env xe → DSs g (X.tr pn xe) W body mb)
    (hh : ∀ a pn, DSs g (X.suite a pn) WF (b₀ :: suite) mh)
    (hs : X.stack = X.env :: X.outer := by rfl) (hf : X.env.frame = some X.env.locals := by rfl) (hm : X.mg = g.mg := by rfl) (hdb : (Str.ofString x == ("__debug__" : Str)) = false := by decide) :
    DS g X W (.Try body [.ExceptHandler (some (.Name (Str.ofString x) np)) (some n) (b₀ :: suite) pos'] [] [] pos) (mTry cs i mb mh) := by
  have hb1 := fun W pn xe tk ow => Classical.choose_spec (hb W pn xe tk ow)
  have hh1 := fun a pn => Classical.choose_spec (hh a pn)
  refine ⟨_, ps_catch (tb := fun W pn xe tk ow => Classical.choose (hb W pn xe tk ow)) (ts := fun a pn => Classical.choose (hh a pn)) hs hf hN hi hln ⟨hg, hdb, .inl K0.gl⟩ (fun W pn xe tk ow => (hb1 W pn xe tk ow).1) (fun a pn => (hh1 a pn).1), ?_⟩
  intro p H0 F0 A F s σ H D Y hp pn xe tk ow
  refine (hb1 _ pn xe tk ow).2 p H0 F0 A F s σ H D Y ?_
  unfold mTry at hp
  cases q : mb s with
  | nx s1 => rw [q] at hp; exact hp
  | bk s1 => rw [q] at hp; exact hp
  | ct s1 => rw [q] at hp; exact hp
  | stuck => rw [q] at hp; exact hp
  | rt v s1 =>
    rw [q] at hp
    cases v with
    | val d => exact hp
    | own l => exact hp
    | no => exact hp
    | dct l => exact hp
  | exc c m s1 =>
    rw [q] at hp
    intro cls d σ1 F1 H1 A1 Y1 e1 ⟨C, k1, k2, k3⟩
    by_cases hc : c ∈ cs
    · simp only [if_pos hc] at hp
      subst k2
      refine ⟨K0.all c hc C (by rw [hm]; exact k1), C, rfl, fun a pn1 na => ?_⟩
      have G := Gr.new (p := p) (o := ExcO a C d) Y1.ext Y1.tb na
      have fa : F1 a = none := by
        cases z : F1 a with
        | none => rfl
        | some o => rw [Y1.ext a o z] at na; cases na
      have Y2 := Y1.grow (Gr.new (p := none) (o := ExcO a C d) Y1.ext Y1.tb na)
      have rE : Rep g p (upd F1 a (ExcO a C d)) (.ref a) (.exc c m) := .exc upd_same k1 ⟨k3.1, fun j z => by
        obtain ⟨dd, y1, y2⟩ := k3.2 j z
        exact ⟨dd, y1, Ext.new fa _ _ y2⟩⟩
      obtain ⟨A2, _, q2⟩ := Y2.sl.setVal rE i
      have Y3 : Rel g p H0 F0 A2 (upd F1 a (ExcO a C d)) (setE i c m s1) (σ1.set i (some (.ref a))) (upd H1 a (ExcO a C d)) := Y2.slots (s' := setE i c m s1) rfl q2
      refine (hh1 a pn1).2 p H0 F0 A2 _ _ _ _ _ Y3 ?_
      have e2 : Ext F (upd F1 a (ExcO a C d)) := e1.trans (Ext.new fa)
      have done : ∀ {s4 : S} {σ4 : L2.St} {F4 H4 : Hp} {A4 : List Addr}, Rel g p H0 F0 A4 F4 s4 σ4 H4 → ∃ A5, Rel g p H0 F0 A5 F4 (noE i s4) (σ4.set i none) H4 := fun {s4 σ4 F4 H4 A4} Y4 => by
        obtain ⟨A5, _, q5⟩ := Y4.sl.setNo none i
        exact ⟨A5, Y4.slots (s' := noE i s4) rfl q5⟩
      cases q3 : mh (setE i c m s1) with
      | nx s2 =>
        rw [q3] at hp
        intro σ4 F4 H4 A4 Y4 e4
        obtain ⟨A5, Y5⟩ := done Y4
        exact hp (σ4.set i none) F4 H4 A5 Y5 (e2.trans e4)
      | rt v s2 =>
        rw [q3] at hp
        cases v with
        | val d => exact fun v σ4 F4 H4 A4 Y4 e4 r4 => hp v σ4 F4 H4 A4 Y4 (e2.trans e4) r4
        | own l => exact fun v vs σ4 F4 H4 A4 Y4 e4 r4 => hp v vs σ4 F4 H4 A4 Y4 (e2.trans e4) r4
        | no => exact hp
        | dct l => exact hp
      | bk s2 => rw [q3] at hp; exact hp.elim
      | ct s2 => rw [q3] at hp; exact hp.elim
      | exc c2 m2 s2 => rw [q3] at hp; exact hp.elim
      | stuck => rw [q3] at hp; exact hp.elim
    · simp only [if_neg hc] at hp
      exact hp.elim
end
end Pd

/-! Pe, part B: isinstance of a kept exception, with a dict of its own or without. -/
namespace PySem.W
open PySem PySem.Spec PySem.Calls PyProof.Rows
section
variable {prog : Program} {w : World} {A : Around} {E : Value → Shared → Prop} {s : Shared} {K : Frag} {x D : Addr} {ox : Obj} {od : Option Obj}
theorem findD {C : Addr} {nm : Str} {a b : Value} (c1 : (clsIn K C).isSome = true)
    (c2 : findIn K (.ref C) nm = some (some a)) (c3 : specialIn K a "__get__" = some (some b)) (c4 : takesIn K a = some true) :
    findObj K C od nm = some (.bind b a) := by
  obtain ⟨cd, c1⟩ := Option.isSome_iff_exists.mp c1
  unfold findObj
  rw [c1, Option.bind_some, c2, Option.bind_some]
  simp [c3, c4]
/-- e.__class__ of an exception e, whatever its own dict is -/
theorem exc_cls {Q : Option Value → Shared → Prop} (T : L2.ExcC K D) (KX : K.In s.heap) (I : InstAt s.heap x ox D od)
    (done : Q (some (.ref D)) { s with toks := s.toks + 1 }) :
    wpAny (model prog w) A (getAttr? (.ref x) "__class__") Q E s := by
  have fo : findObj K D od "__class__" = some (.bind (.builtin "getset_descriptor.__get__") (.builtin "object.__class__")) :=
    findD (by obtain ⟨cd, hc, _⟩ := any_some T.hd; rw [hc]; rfl) T.ha T.hn T.ht
  obtain ⟨hp, gs, dr, tk, os⟩ := s
  have LT := I.type (M := model prog w)
  have LG := looks_findIn (M := model prog w) KX T.hg
  have LH := looks_findIn (M := model prog w) KX T.hk
  have LF := looks_find (M := model prog w) KX I fo
  have LS : Looks (model prog w) hp (isInstance (.ref x) (.type "BaseException")) true := LT.andThen (looks_subIn KX T.hs)
  have n0 : (false && onTheHeap (Value.builtin "BaseException.__getattribute__")) = false := rfl
  have n1 : (Value.builtin "BaseException.__getattribute__" == Value.builtin "object.__getattribute__") = false := by
    decide +kernel
  have n2 : (onTheHeap (Value.ref D) && Value.builtin "BaseException.__getattribute__" == Value.builtin "object.__getattribute__") = false := by
    rw [n1]
    rfl
  unfold getAttr? getAttrBy? getAttrBy
  refine wpAny_bind (wpAny_mkText (wpAny_bind (wpAny_attempt (wpAny_holding (wpAny_bind (LT.at (wpAny_bind (LG.at ?q))))))))
  show wpAny _ _ (if (onTheHeap (Value.ref D) && Value.builtin "BaseException.__getattribute__" == Value.builtin "object.__getattribute__") = true
    then _ else _) _ _ _
  rw [n2, if_neg Bool.false_ne_true]
  unfold getAttrByItsOwn hookBefore
  refine wpAny_bind ?_
  rw [if_pos (by rfl : onTheHeap (Value.ref D) = true)]
  refine LH.at (wpAny_bind (wpAny_attempt (wpAny_holding ?_)))
  unfold callGetattribute
  rw [n0, if_neg Bool.false_ne_true]
  unfold boundAndCalled
  rw [PySem.F.excAttr_ValueError.ga.bind (.ref x)]
  refine wpAny_bind (wpAny_pure ?_)
  show wpAny _ _ (call (.builtin "BaseException.__getattribute__")
    [.ref x, .str "__class__" tk]) _ _ _
  refine wpAny_call (codeAny_call_builtin PySem.F.excAttr_ValueError.ga.plain PySem.F.entry_bexc_ga ?_)
  refine @check_slot (model prog w) _ _ ⟨hp, gs, dr, tk + 1, os⟩ "BaseException.__getattribute__" "BaseException" "__getattribute__"
    (.ref x) [.str "__class__" tk] [] _ (by decide +kernel) (by decide +kernel) LS (PySem.F.args_bexc_ga (.ref x) (.str "__class__" tk)) ?_
  unfold Builtin.«object.__getattribute__»
  refine wpAny_bind (wpAny_of_eq (a := ((Value.ref x : Value), [Value.str "__class__" tk]))
    (by first | rfl | (simp only [slotArgs]; rfl)) ?_)
  refine wpAny_bind (wpAny_pure (wpAny_bind (LT.at (wpAny_bind (LF.at ?_)))))
  show wpAny _ _ (holding [Value.builtin "object.__class__"]
    (call (.builtin "getset_descriptor.__get__") [.builtin "object.__class__", .ref x, .ref D]) >>= ret) _ _ _
  refine wpAny_bind (wpAny_holding (wpAny_call (class_get (s := ⟨hp, gs, dr, tk + 1, os⟩) (ox := ox) (od := od) KX I T.hm ?_)))
  refine wpAny_pure ?_
  show wpAny _ _ (handedOut (.ref D)) _ _ _
  rw [handedOut_of (v := .ref D) rfl]
  first
    | exact wpAny_pure (wpAny_pure done)
    | exact wpAny_pure done
    | exact wpAny_pure (wpAny_bind (wpAny_pure (wpAny_pure done)))
theorem kit_exc (T : L2.ExcC K D) : KitX K (.ref x) (.ref D) (fun h => InstAt h x ox D od) where
  ty := fun _ _ _ I => I.type
  it := fun _ _ KX _ => by
    obtain ⟨cd, hc, _⟩ := any_some T.hd
    unfold clsIn at hc
    split at hc
    · rename_i c1 d1 cd1 sl1 ho
      exact fun A1 Q1 E1 s1 k1 q1 => by
        unfold isType loadHead
        exact wpAny_bind (wpAny_loadPart (k1 _ _ (KX _ _ ho)) (wpAny_pure q1))
    · cases hc
  ne := fun h tp dd its n sl KX ht => by
    obtain ⟨cd, hc, _⟩ := any_some T.hd
    refine Bool.eq_false_iff.mpr fun z => ?_
    obtain rfl : D = tp := Value.ref.inj (beq_iff_eq.mp z)
    unfold clsIn at hc
    split at hc
    · rename_i c1 d1 cd1 sl1 ho
      exact nomatch (KX _ _ ho).symm.trans ht
    · cases hc
  ca := fun KX I k => exc_cls T KX I k
end
end PySem.W
namespace Pd
open PySem PySem.Spec PyProof.Rows L2

/-- which classes (by name) are which: rows (c, b): c is one of the asked class iff b -/
def isRow (rows : List (String × Bool)) : D → Option Bool
  | .non => some false
  | .exc c _ => rows.lookup c
  | _ => none
/-- the asked class cV; what the written part says of it and of the classes of the rows -/
structure IsOk (K : PySem.W.Frag) (mg : Str → Option Value) (cV : V) (rows : List (String × Bool)) : Prop where
  ex : ∃ u, ClsV cV u ∧ PySem.W.kitOne K (.type "NoneType") u = some false ∧
    ∀ c b, rows.lookup c = some b → ∀ C, mg (Str.ofString c) = some (.ref C) → ExcC K C ∧ PySem.W.kitOne K (.ref C) u = some b
/-- isinstance(e, x): None or a kept exception -/
def rIsX (g : Gl) (cV : V) (rows : List (String × Bool)) : List V → Hp → VK → Prop := fun xs H Q =>
  (∃ v, xs = [v, cV] ∧ ((v = .non ∧ Q (.bl false) H) ∨ ∃ a C d c b, v = .ref a ∧ H a = some (ExcO a C d) ∧ (d = none ∨ ∃ dd fs, d = some dd ∧ H dd = some (.xd fs)) ∧ g.mg (Str.ofString c) = some (.ref C) ∧ rows.lookup c = some b ∧ Q (.bl b) H))
section
variable {g : Gl} {X : Cx} {cV : V} {rows : List (String × Bool)}
theorem call_isX (T : IsOk X.K X.mg cV rows) (hm : X.mg = g.mg) : CallR X (.builtin "isinstance") (rIsX g cV rows) := by
  intro pins s σ H xs us Q I r h
  obtain ⟨v, rfl, h⟩ := h
  obtain ⟨u1, u2, rfl, r1, r2⟩ := vals2 r
  obtain ⟨u, k1, k2, k3⟩ := T.ex
  have e2 := k1.eq r2
  subst e2
  rcases h with ⟨rfl, q⟩ | ⟨a, C, d, c, b, rfl, ea, ed, ec, er, q⟩
  · cases (show u1 = Value.none from r1)
    exact PySem.W.kia_one PySem.W.kitx_none I.kIn True.intro k2 (fun z => nomatch z) fun tk => ⟨.bl false, H, I.tok tk, rfl, q⟩
  · cases (show u1 = Value.ref a from r1)
    obtain ⟨E, hk⟩ := k3 c b er C (by rw [hm]; exact ec)
    obtain ⟨⟨o, vs, j1, j2, j3, j4⟩, _⟩ := I.hok a _ ea
    have J : ∃ od, PySem.W.InstAt s.heap a o C od := by
      obtain ⟨oc, odi, oda, osl⟩ := o
      dsimp only at j2 j3 j4
      subst j2 j3 j4
      rcases ed with rfl | ⟨dd, fs, rfl, hd⟩
      · exact ⟨none, j1, rfl, rfl, trivial⟩
      · obtain ⟨mA, hN, _⟩ := I.hok dd _ hd
        have : ∃ oo, s.heap.get? dd = some oo := by
          obtain ⟨o1, es, ep, z, _⟩ := hN
          exact ⟨_, z⟩
        obtain ⟨oo, z⟩ := this
        exact ⟨some oo, j1, rfl, rfl, z⟩
    obtain ⟨od, J⟩ := J
    exact PySem.W.kia_one (PySem.W.kit_exc E) I.kIn J hk (fun z => nomatch z) fun tk => ⟨.bl b, H, I.tok tk, rfl, q⟩
end
def mIsX (rows : List (String × Bool)) (m : EM) : EM := fun s => (m s).bind fun d s1 => R.of ((isRow rows d).map D.bl) s1
section
variable {g : Gl} {X : Cx} {W : WX} {x : Str} {cV : V} {rows : List (String × Bool)} {e : Expr} {m : EM} {p' p2 pos : Pos}
/-- isinstance(e, x), x a name that stands for the class cV -/
theorem de_isX (T : IsOk X.K X.mg cV rows) (hg : L2.Gl X "isinstance") (hmi : X.mg "isinstance" = none) (hgx : PE X (.Name x p2) (tC cV)) (h : DE g X W e m) (hm : X.mg = g.mg := by rfl)
    (he : starEach [e, .Name x p2] X.env = (false, eval e X.env) :: starEach [.Name x p2] X.env := by rfl)
    (he2 : starEach [.Name x p2] X.env = (false, eval (.Name x p2) X.env) :: starEach [] X.env := by rfl)
    (hpl : (backTo pos (starEach [.Name x p2] X.env)).any (·.1) = false := by rfl) :
    DE g X W (.Call (.Name "isinstance" p') [e, .Name x p2] [] pos) (mIsX rows m) := by
  obtain ⟨t, a1, a2⟩ := h
  refine ⟨_, pe_callB (call_isX (g := g) T hm) hg hmi rfl (pa_cons a1 (pa_cons hgx pa_nil he2) he) (by decide) (by decide) he hpl, fun p H0 F0 A F s σ H Q Y hp => ?_⟩
  refine a2 p H0 F0 A F s σ H _ Y (hp.bind fun d s1 v F1 H1 A1 Y1 e1 r1 hp1 => ?_)
  have hp2 : Post g W (RepV g) p H0 F0 F1 σ Q (R.of ((isRow rows d).map D.bl) s1) := hp1
  show rIsX g cV rows [v, cV] H1 Q
  refine ⟨v, rfl, ?_⟩
  cases d with
  | non => cases r1; exact .inl ⟨rfl, hp2 (.bl false) F1 H1 A1 Y1 (Ext.refl _) (.bl false)⟩
  | exc c n =>
    have e2 : isRow rows (.exc c n) = rows.lookup c := rfl
    rw [e2] at hp2
    cases q : rows.lookup c with
    | none => rw [q] at hp2; exact hp2.elim
    | some b =>
      rw [q] at hp2
      cases r1 with
      | exc h1 h2 h3 =>
        refine .inr ⟨_, _, _, c, b, rfl, Y1.ext _ _ h1, ?_, h2, q, hp2 (.bl b) F1 H1 A1 Y1 (Ext.refl _) (.bl b)⟩
        cases n with
        | none => exact .inl (h3.1 rfl)
        | some i =>
          obtain ⟨dd, k1, k2⟩ := h3.2 i rfl
          exact .inr ⟨dd, _, k1, Y1.ext _ _ k2⟩
  | _ => exact hp2.elim
end
end Pd

/-! Pe, part C: split, join, str of a number, int of a text. -/
namespace Pd
open PySem PySem.Spec PyProof.Rows L2

/-! ### texts as lists of signs -/
abbrev mkS (l : List Nat) : Str := ⟨l.toArray⟩
def joinN (sep : List Nat) : List (List Nat) → List Nat
  | [] => []
  | [x] => x
  | x :: y :: r => x ++ (sep ++ joinN sep (y :: r))
def splitN (c : Nat) : List Nat → List (List Nat)
  | [] => [[]]
  | d :: r => if d = c then [] :: splitN c r else match splitN c r with
    | [] => [[d]]
    | p :: ps => (d :: p) :: ps
theorem splitN_ne (c : Nat) : ∀ x, splitN c x ≠ []
  | [] => by simp [splitN]
  | d :: r => by
    unfold splitN
    by_cases h : d = c
    · rw [if_pos h]; simp
    · rw [if_neg h]
      cases splitN c r <;> simp
theorem splitN_free (c : Nat) : ∀ x, ∀ p ∈ splitN c x, c ∉ p
  | [], p, h => by simp [splitN] at h; subst h; simp
  | d :: r, p, h => by
    have ih := splitN_free c r
    unfold splitN at h
    by_cases e : d = c
    · rw [if_pos e] at h
      rcases List.mem_cons.mp h with z | z
      · subst z; simp
      · exact ih p z
    · rw [if_neg e] at h
      cases q : splitN c r with
      | nil => exact absurd q (splitN_ne c r)
      | cons a as =>
        rw [q] at h ih
        simp only at h
        rcases List.mem_cons.mp h with z | z
        · subst z
          intro hm
          rcases List.mem_cons.mp hm with y | y
          · exact e y.symm
          · exact ih a List.mem_cons_self y
        · exact ih p (List.mem_cons_of_mem _ z)
theorem joinN_cons (sep x : List Nat) {r : List (List Nat)} (h : r ≠ []) : joinN sep (x :: r) = x ++ (sep ++ joinN sep r) := by
  cases r with
  | nil => exact absurd rfl h
  | cons y r => rfl
theorem joinN_head (sep : List Nat) (d : Nat) (p : List Nat) (ps : List (List Nat)) : joinN sep ((d :: p) :: ps) = d :: joinN sep (p :: ps) := by
  cases ps <;> rfl
theorem join_splitN (c : Nat) : ∀ x, joinN [c] (splitN c x) = x
  | [] => rfl
  | d :: r => by
    have ih := join_splitN c r
    unfold splitN
    by_cases e : d = c
    · rw [if_pos e, joinN_cons _ _ (splitN_ne c r), ih, e]; rfl
    · rw [if_neg e]
      cases q : splitN c r with
      | nil => exact absurd q (splitN_ne c r)
      | cons a as =>
        rw [q] at ih
        simp only
        rw [joinN_head, ih]
theorem splitN_join (c : Nat) : ∀ ps : List (List Nat), ps ≠ [] → (∀ p ∈ ps, c ∉ p) → splitN c (joinN [c] ps) = ps := by
  have one : ∀ (p : List Nat), c ∉ p → splitN c p = [p] := by
    intro p
    induction p with
    | nil => intro _; rfl
    | cons d r ih =>
      intro h
      rw [List.mem_cons, not_or] at h
      unfold splitN
      rw [if_neg (fun z => h.1 z.symm), ih h.2]
  have step : ∀ (p q : List Nat), c ∉ p → splitN c (p ++ c :: q) = p :: splitN c q := by
    intro p q
    induction p with
    | nil => intro _; show splitN c (c :: q) = _; rw [splitN, if_pos rfl]
    | cons d r ih =>
      intro h
      rw [List.mem_cons, not_or] at h
      show splitN c (d :: (r ++ c :: q)) = _
      rw [splitN, if_neg (fun z => h.1 z.symm), ih h.2]
  intro ps
  induction ps with
  | nil => intro h; exact absurd rfl h
  | cons p ps ih =>
    intro _ h
    cases ps with
    | nil => exact one p (h p List.mem_cons_self)
    | cons q r =>
      show splitN c (p ++ ([c] ++ joinN [c] (q :: r))) = _
      rw [show p ++ ([c] ++ joinN [c] (q :: r)) = p ++ c :: joinN [c] (q :: r) from rfl, step _ _ (h p List.mem_cons_self), ih (by simp) fun p hp => h p (List.mem_cons_of_mem _ hp)]
theorem mkS_append (a b : List Nat) : (mkS a ++ mkS b : Str) = mkS (a ++ b) := by
  show (⟨a.toArray ++ b.toArray⟩ : Str) = _
  simp
theorem join_mk (sep : List Nat) : ∀ ys : List (List Nat), Str.join (mkS sep) (ys.map mkS) = mkS (joinN sep ys)
  | [] => rfl
  | [x] => rfl
  | x :: y :: r => by
    have ih := join_mk sep (y :: r)
    show mkS x ++ mkS sep ++ Str.join (mkS sep) ((y :: r).map mkS) = _
    rw [ih, mkS_append, mkS_append, List.append_assoc]
    rfl
theorem txt_join_mk (sep : List Nat) (ys : List (List Nat)) : Txt.join (mkS sep) (ys.map mkS) = mkS (joinN sep ys) := by
  show Builtin.Str.glued _ _ = _
  rw [StrLaws.glued_eq_join, join_mk]
theorem mk_list (x : Str) : mkS x.cps.toList = x := by simp
theorem txt_split_mk (c : Nat) (x : List Nat) : Txt.split (mkS x) (mkS [c]) = (splitN c x).map mkS := by
  have hj := StrLaws.join_split (mkS x) (mkS [c])
  have hf := StrLaws.split_free (mkS x) c
  have hn : Txt.split (mkS x) (mkS [c]) ≠ [] := fun z => by
    have := split_pos (mkS x) (mkS [c])
    rw [z] at this; simp at this
  generalize Txt.split (mkS x) (mkS [c]) = L at hj hf hn
  have eL : L = (L.map fun s => s.cps.toList).map mkS := by
    rw [List.map_map]
    conv => lhs; rw [← List.map_id L]
    exact List.map_congr_left fun s _ => (mk_list s).symm
  have h1 : joinN [c] (L.map fun s => s.cps.toList) = x := by
    rw [eL, join_mk] at hj
    have := congrArg (fun s : Str => s.cps.toList) hj
    simpa using this
  have h2 := splitN_join c (L.map fun s => s.cps.toList) (by simpa using hn) (fun p hp => by
    obtain ⟨s, hs, rfl⟩ := List.mem_map.mp hp
    exact hf s hs)
  rw [h1] at h2
  rw [eL, ← h2]

/-! ### the meanings -/
def strsD : List D → Option (List (List Nat))
  | [] => some []
  | .str s :: r => (strsD r).map (s :: ·)
  | _ :: _ => none
theorem strsD_rep {g : Gl} {p : Option Addr} {F : Hp} : ∀ {vs : List V} {l : List D} {ys : List (List Nat)}, Reps g p F vs l → strsD l = some ys → vs = (ys.map mkS).map V.str
  | _, _, _, .nil, e => by cases e; rfl
  | _, _, _, .cons (d := d) r t, e => by
    cases d with
    | str s =>
      obtain ⟨ys, e1, e2⟩ := Option.map_eq_some_iff.mp e
      subst e2
      cases r
      rw [strsD_rep t e1]
      rfl
    | _ => cases e
def dJoin (a : List Nat) : D → Option D
  | .lst l => (strsD l).bind fun ys => if (ys.map List.length).sum + ys.length * a.length ≤ 16777216 then some (.str (joinN a ys)) else none
  | _ => none
def mJoin (a b : EM) : EM := fun s => (a s).bind fun x s1 => match x with
  | .str z => (b s1).bind fun y s2 => R.of (dJoin z y) s2
  | _ => .stuck
def dSplit (a : List Nat) : D → Option SV
  | .str [c] => if a.length + 2 ≤ sizeLine then some (.own ((splitN c a).map D.str)) else none
  | _ => none
def oSplit (a b : EM) : OM := fun s => (a s).bind fun x s1 => match x with
  | .str z => (b s1).bind fun y s2 => R.of (dSplit z y) s2
  | _ => .stuck
theorem reps_strsC {g : Gl} {p : Option Addr} {F : Hp} : ∀ ys : List (List Nat), Reps g p F ((ys.map mkS).map V.str) (ys.map D.str)
  | [] => .nil
  | y :: r => .cons (.str y) (reps_strsC r)
section
variable {g : Gl} {X : Cx} {W : WX} {a b : Expr} {ma mb : EM} {apos pos : Pos}
theorem de_join (ha : DE g X W a ma) (hb : DE g X W b mb) (hs : starEach [b] X.env = [(false, eval b X.env)] := by rfl)
    (hbase : attributeBase a "join" X.env (eval a X.env) = eval a X.env := by rfl) (hline : (apos.endLine == pos.line) = true := by rfl) :
    DE g X W (.Call (.Attribute a "join" apos) [b] [] pos) (mJoin ma mb) := by
  obtain ⟨ta, a1, a2⟩ := ha
  obtain ⟨tb, b1, b2⟩ := hb
  refine ⟨_, pe_join a1 b1 hs hbase hline, fun p H0 F0 A F s σ H Q Y hp => a2 p H0 F0 A F s σ H _ Y (hp.bind fun d s1 v F1 H1 A1 Y1 e1 r1 hp1 => ?_)⟩
  cases d with
  | str z =>
    cases r1
    refine ⟨⟨_, rfl⟩, b2 p H0 F0 A1 F1 s1 σ H1 _ Y1 (hp1.bind fun y s2 w F2 H2 A2 Y2 e2 r2 hp2 => ?_)⟩
    cases y with
    | lst l =>
      have hp3 : Post g W (RepV g) p H0 F0 F2 σ Q (R.of ((strsD l).bind fun ys => if (ys.map List.length).sum + ys.length * z.length ≤ 16777216 then some (D.str (joinN z ys)) else none) s2) := hp2
      cases q : strsD l with
      | none => rw [q] at hp3; exact hp3.elim
      | some ys =>
        rw [q, Option.bind_some] at hp3
        by_cases hz : (ys.map List.length).sum + ys.length * z.length ≤ 16777216
        · rw [if_pos hz] at hp3
          cases r2 with
          | lst k1 k2 =>
            have ev := strsD_rep k2 q
            subst ev
            refine ⟨_, _, ys.map mkS, rfl, rfl, .inl (.inl (ext_rd Y2.ext k1)), ?_, ?_⟩
            · have e3 : ((ys.map mkS).map (·.length)) = ys.map List.length := by
                rw [List.map_map]
                exact List.map_congr_left fun y _ => by simp [Str.length]
              rw [e3, List.length_map, str_len]
              exact hz
            · rw [txt_join_mk]
              exact hp3 _ F2 H2 A2 Y2 (Ext.refl _) (.str _)
        · rw [if_neg hz] at hp3; exact hp3.elim
    | _ => exact hp2.elim
  | _ => exact hp1.elim
theorem do_split (ha : DE g X W a ma) (hb : DE g X W b mb) (hs : starEach [b] X.env = [(false, eval b X.env)] := by rfl)
    (hbase : attributeBase a "split" X.env (eval a X.env) = eval a X.env := by rfl) (hline : (apos.endLine == pos.line) = true := by rfl) :
    DO g X W (.Call (.Attribute a "split" apos) [b] [] pos) (oSplit ma mb) := by
  obtain ⟨ta, a1, a2⟩ := ha
  obtain ⟨tb, b1, b2⟩ := hb
  refine ⟨_, pe_split a1 b1 hs hbase hline, fun p H0 F0 A F s σ H Q Y hp => a2 p H0 F0 A F s σ H _ Y (PostO.bind hp fun d s1 v F1 H1 A1 Y1 e1 r1 hp1 => ?_)⟩
  cases d with
  | str z =>
    cases r1
    refine ⟨⟨_, rfl⟩, b2 p H0 F0 A1 F1 s1 σ H1 _ Y1 (PostO.bind hp1 fun y s2 w F2 H2 A2 Y2 e2 r2 hp2 => ?_)⟩
    have hp3 : PostO g W p H0 F0 F2 σ Q (R.of (dSplit z y) s2) := hp2
    unfold dSplit at hp3
    split at hp3
    · rename_i c
      split at hp3
      · rename_i hz
        cases r2
        refine ⟨_, _, rfl, rfl, by simp [Str.length], by rw [str_len]; exact hz, ?_⟩
        have e3 : Txt.split (mkS z) (mkS [c]) = (splitN c z).map mkS := txt_split_mk c z
        intro q nq
        rw [e3]
        obtain ⟨k1, k2, k3, k4⟩ := Y2.fresh nq
        have G := Gr.lay (g := g) (p := none) (o := HO.lst (((splitN c z).map mkS).map V.str)) Y2.ext Y2.tb nq
        exact hp3 q _ F2 _ A2 (Y2.grow G) G.ff (reps_strsC _) upd_same k1 k2 k3 k4
      · exact hp3.elim
    · exact hp3.elim
  | _ => exact hp1.elim
end

/-! ### str(n), int(text) -/
def dStr : D → Option SV
  | .int i => if i.natAbs.log2 < 1920 then some (.val (.str (codes (toString i : String)))) else none
  | _ => none
section
variable {g : Gl}
theorem rc_str : RC1 g (fun xs H Q => ∃ i : Int, xs = [.int i] ∧ i.natAbs.log2 < 1920 ∧ Q (.str (toString i : String)) H) dStr := by
  intro p F H v d Q r e t h
  cases d with
  | int i =>
    cases r.rep (by intro l h; cases h)
    have h : OpPO g p F H Q (if i.natAbs.log2 < 1920 then some (.val (.str (codes (toString i : String)))) else none) := h
    split at h
    · rename_i hl
      exact ⟨i, rfl, hl, h.val e t (rep_str _)⟩
    · exact h.elim
  | _ => exact h.elim
def dIntT : D → Option SV
  | .str s => if s.length ≤ 640 then (PySem.intText? (mkS s)).map fun i => .val (.int i) else none
  | _ => none
theorem rc_intT : RC1 g (fun xs H Q => ∃ a n, xs = [.str a] ∧ PySem.intText? a = some n ∧ a.length ≤ 640 ∧ Q (.int n) H) dIntT := by
  intro p F H v d Q r e t h
  cases d with
  | str s =>
    cases r.rep (by intro l h; cases h)
    have h : OpPO g p F H Q (if s.length ≤ 640 then (PySem.intText? (mkS s)).map fun i => SV.val (.int i) else none) := h
    split at h
    · rename_i hl
      cases q : PySem.intText? (mkS s) with
      | none => rw [q] at h; exact h.elim
      | some n =>
        rw [q] at h
        exact ⟨_, n, rfl, q, by rw [str_len]; exact hl, OpPO.val (d := .int n) h e t (.int n)⟩
    · exact h.elim
  | _ => exact h.elim
end
end Pd

/-! Pe, part D: enumerate(a list, a number). -/
namespace Pd
open PySem PySem.Spec PyProof.Rows L2

/-- the list at a as it stands at each turn, each item in a new pair with its number from k on -/
def Itek (K : PySem.W.Frag) (a : Addr) (k : Int) : It where
  go := fun i H => ∃ (xs : List V) (x : V), SqL K H a xs ∧ xs[i]? = some x
  yld := fun i H v H' => ∃ T x, v = .ref T ∧ H T = none ∧ H' = upd H T (.tup [.int (k + (i : Nat)), x]) ∧ ∀ xs, SqL K H a xs → xs[i]? = some x
  stop := fun i H => ∃ xs : List V, SqL K H a xs ∧ xs.length ≤ i
section
variable {prog : Program} {w : World} {A : Around} {E : Value → Shared → Prop} {s : Shared}
theorem enk_end {e it l : Addr} {i : Nat} {c : Int} {items : Array Value} {old : Value} {Q : Option Value → Shared → Prop} (hh : A.handled = none)
    (he : IsEnum s.heap e it c old) (hit : s.heap.IsListIter it l i) (hl : s.heap.IsList l items) (hx : items[i]? = none)
    (hQ : ∀ h1, Heap.ExtBut it s.heap h1 → Q none { s with heap := h1 }) : wpAny (model prog w) A (pyNext (.ref e)) Q E s := by
  have ty : s.TypeIs (.ref e) "enumerate" := ⟨_, he, rfl⟩
  unfold pyNext
  refine wpAny_bind (wpAny_attempt (wpAny_callSpecial?_slot (name := Str.ofString "__next__") ty PySem.F.slot_enumerate_next
    (wpAny_call_entry PySem.F.slot_enumerate_next ty PySem.F.entry_enumerate_next ?_ (PySem.F.args_enumerate_next_1 _))))
  show wpAny _ _ (field (.ref e) 2 >>= _) _ _ _
  refine wpAny_bind (wpAny_field he rfl (x := .ref it) rfl ?_)
  refine wpAny_bind (wpAny_nextOf_list_end hh hit hl hx fun h1 x ee ⟨o, ho, hc⟩ => ?_)
  exact wpAny_bind (wpAny_isInstance (T := "StopIteration") (b := true) ⟨o, ho, hc⟩ isSubtype_stop (wpAny_pure (hQ _ ee)))
end
theorem turn_enk {P : Program} {w : World} {K : PySem.W.Frag} {elts : List Expr} {kk : Nat} {tpos : Pos} (a e it : Addr) (k : Int) :
    Turn P w K (.Tuple elts kk tpos) (Itek K a k) [e, it] e (fun i h => (∃ old, IsEnum h e it (k + ((i : Nat) : Int)) old) ∧ h.IsListIter it a i ∧ e ≠ it) where
  mem := by simp
  obj := fun i h st b hb => by
    obtain ⟨⟨old, he⟩, ⟨o, ho, hc, hd⟩, _⟩ := st
    have hb1 : b = e ∨ b = it := by simpa using hb
    rcases hb1 with z | z
    · subst z; exact ⟨_, he, fun v q => nomatch q⟩
    · subst z; exact ⟨o, ho, fun v q => by rw [hd] at q; cases q⟩
  keep := fun i h h' ⟨⟨old, he⟩, hi, hne⟩ kp => ⟨⟨old, kp e (by simp) _ he⟩, hi.at fun o q => kp it (by simp) o q, hne⟩
  item := by
    intro X hP hw hK hc i pins s σ H E I hf st hg
    subst hP hw hK
    obtain ⟨⟨old, he⟩, hit, hne⟩ := st
    obtain ⟨xs, x, hq, hx⟩ := hg
    obtain ⟨its, rv, pl, hz⟩ := I.list hq
    obtain ⟨u, hu, ru⟩ := rv.get hx
    have hel : e < s.heap.objs.size := Heap.lt_size he
    have hil : it < s.heap.objs.size := by obtain ⟨_, q, _⟩ := hit; exact Heap.lt_size q
    have hae : a ≠ e := fun z => by
      obtain ⟨o, ho, hcl, _⟩ := pl.isList
      rw [z, he] at ho
      cases ho
      have z2 : Value.type "enumerate" = Value.type "list" := hcl
      injection z2 with z3
      exact absurd z3 (by decide)
    have hai : a ≠ it := fun z => by
      obtain ⟨o, ho, hcl, _⟩ := pl.isList
      obtain ⟨o2, ho2, hc2, _⟩ := hit
      rw [z, ho2] at ho
      cases ho
      rw [hc2] at hcl
      injection hcl with z3
      exact absurd z3 (by decide)
    have DT := Draws.list (prog := X.prog) (w := X.w) (A := X.A.in1) (I.ok.hd hc) it a hai its.toArray
    have hlt : i < its.toArray.size := by
      have : its[i]? = some u := hu
      have h2 := (List.getElem?_eq_some_iff.mp this).1
      simpa using h2
    refine wpAny_pyNext_enum_itemC DT he ⟨hit, pl.isList⟩ hlt hne (by simp [hne, Ne.symm hae]) fun v h1 t1 hv ho hst hT hsz hk => ?_
    have ev : v = u := by
      have h2 : its[i]? = some v := by simpa using hv
      rw [hu] at h2
      exact (Option.some.inj h2).symm
    subst ev
    refine ⟨_, rfl, wpAny_letOwnedTupleGo_enum (s := { s with heap := h1, toks := t1 + 1 }) ho fun h2 he' sb => ?_⟩
    have hT2 : h2.get? s.heap.objs.size = some { cls := .type "tuple", data := .seq #[.int (k + (i : Int)) t1, v] } := (sb.2 _ (Nat.ne_of_gt hel)).trans hT
    have new : ObjOk X.prog X.w (upd H s.heap.objs.size (.tup [.int (k + (i : Nat)), x])) h2 s.heap.objs.size (.tup [.int (k + (i : Nat)), x]) :=
      ⟨by show 2 ≤ sizeLine; decide, [.int (k + (i : Int)) t1, v], .cons ⟨_, rfl⟩ (.cons ru .nil), ⟨_, hT2, rfl, _, rfl⟩⟩
    have I1 : Inv X pins σ (upd H s.heap.objs.size (.tup [.int (k + (i : Nat)), x])) { s with heap := h2, toks := t1 + 1 } :=
      I.turnedNew (ch := [e, it]) (fun b ob hb q => (sb.2 b (fun z => hb (by simp [z]))).trans (hk b ob (fun z => hb (by simp [z])) (fun z => hb (by simp [z])) q)) hf (Nat.le_refl _) new
    refine ⟨.ref s.heap.objs.size, _, I1, rfl, ⟨_, x, rfl, I.hok.fresh (Nat.le_refl _), rfl, fun ys hy => by rw [I.list_inj hy hq]; exact hx⟩,
      ⟨⟨v, by rw [show k + ((i + 1 : Nat) : Int) = k + (i : Int) + 1 by omega]; exact he'⟩, hst.1.at fun o q => (sb.2 it (Ne.symm hne)).trans q, hne⟩, fun b hb => ?_⟩
    have hb1 : b < s.heap.objs.size := by
      rcases (show b = e ∨ b = it by simpa using hb) with z | z
      · subst z; exact hel
      · subst z; exact hil
    rw [upd_ne (Nat.ne_of_lt hb1)]
    exact (hf b hb).1
  done := by
    intro X hP hw hK hc i pins s σ H E I hf st hg
    subst hP hw hK
    obtain ⟨⟨old, he⟩, hit, hne⟩ := st
    obtain ⟨xs, hq, hx⟩ := hg
    obtain ⟨its, rv, pl, hz⟩ := I.list hq
    obtain ⟨f0, f1, f2, f3, f4, f5⟩ := hf it (by simp)
    have hl := rv.length
    have hai : a ≠ it := fun z => by
      obtain ⟨o, ho, hcl, _⟩ := pl.isList
      obtain ⟨o2, ho2, hc2, _⟩ := hit
      rw [z, ho2] at ho
      cases ho
      rw [hc2] at hcl
      injection hcl with z3
      exact absurd z3 (by decide)
    exact enk_end (I.ok.hd hc) he hit pl.isList (by simp; omega) fun h1 eb => ⟨rfl, I.turned (t' := s.toks) (fun b o hb q => eb b o hb q) f0 f1 f3 f4 f5⟩
  self := fun A i s Q E st h => let ⟨⟨_, he⟩, _⟩ := st; wpAny_pyIter_enum he h
def iEnk (K : PySem.W.Frag) (ta : TA) : TI := fun σ H R => ta σ H fun vs H1 => ∃ a xs k, vs = [.ref a, .int k] ∧ SqL K H1 a xs ∧ -(2 ^ 63) ≤ k ∧ k < 2 ^ 63 ∧ R (Itek K a k) H1
theorem pi_enk {X : Cx} {e e2 : Expr} {ta : TA} {p pos tpos : Pos} {elts : List Expr} {kk : Nat} (hg : L2.Gl X "enumerate") (hm : X.mg "enumerate" = none) (ha : PA X [e, e2] ta)
    (hs : starEach [e, e2] X.env = (false, eval e X.env) :: starEach [e2] X.env := by rfl) (hpl : (backTo pos (starEach [e2] X.env)).any (·.1) = false := by rfl) :
    PI X (.Tuple elts kk tpos) (.Call (.Name "enumerate" p) [e, e2] [] pos) (iEnk X.K ta) := by
  refine ⟨fun pins s σ H R I h => ?_⟩
  refine Call_ (ld_blt I hg hm boot_enumerate (PyProof.Rows.callWith_type1 (thn (ha.run pos pins s σ H _ I h) fun us s1 ⟨vs, H1, I1, r1, a, xs, k, ex, hq, k0, k1, q⟩ => ?_) hs hpl))
  subst ex
  obtain ⟨u1, u2, rfl, ra, rk⟩ := vals2 r1
  cases (show u1 = Value.ref a from ra)
  obtain ⟨t, rfl⟩ := (show ∃ t, u2 = Value.int k t from rk)
  obtain ⟨its, rv, pl, hz⟩ := I1.list hq
  refine enum_begins (begins_list a its.toArray) pl.isList k0 k1 fun h1 he hit hsz hk => wpAny_pyIter_enum he ?_
  have I2 : Inv X pins σ H1 { s1 with heap := h1 } := I1.kept (t' := s1.toks) hk
  have it0 : h1.IsListIter s1.heap.objs.size a 0 := ⟨_, hit, rfl, rfl⟩
  refine ⟨s1.heap.objs.size + 1, [s1.heap.objs.size + 1, s1.heap.objs.size], _, _, H1, rfl, I2, turn_enk a (s1.heap.objs.size + 1) s1.heap.objs.size k, ⟨⟨.none, by rw [show k + ((0 : Nat) : Int) = k by omega]; exact he⟩, it0, Nat.succ_ne_self _⟩, fun b hb => ?_, q⟩
  have hle : s1.heap.objs.size ≤ b := by
    rcases (show b = s1.heap.objs.size + 1 ∨ b = s1.heap.objs.size by simpa using hb) with z | z
    · rw [z]; exact Nat.le_succ _
    · rw [z]; exact Nat.le_refl _
  exact I1.fpOk hle (I1.hok.fresh hle)
def enK : Int → List D → List D
  | _, [] => []
  | k, d :: r => .tup [.int k, d] :: enK (k + 1) r
theorem enK_length : ∀ (k : Int) (l : List D), (enK k l).length = l.length
  | _, [] => rfl
  | k, _ :: r => congrArg (· + 1) (enK_length (k + 1) r)
theorem enK_get : ∀ (k : Int) (l : List D) (i : Nat), (enK k l)[i]? = l[i]?.map fun d => D.tup [.int (k + (i : Int)), d]
  | _, [], i => by simp [enK]
  | k, d :: r, 0 => by simp [enK]
  | k, d :: r, i + 1 => by
    show (enK (k + 1) r)[i]? = _
    rw [enK_get (k + 1) r i, List.getElem?_cons_succ, show k + 1 + (i : Int) = k + ((i + 1 : Nat) : Int) by omega]
section
variable {g : Gl} {X : Cx} {W : WX}
theorem it_enk {p : Option Addr} {F1 : Hp} {a : Addr} {vs : List V} {l : List D} {K : PySem.W.Frag} {k : Int} (h : SqL K F1 a vs) (r : Reps g p F1 vs l) : ItOk g p F1 (enK k l) (Itek K a k) where
  go := fun i F H e1 e2 hi => by
    rw [enK_length] at hi
    obtain ⟨v, hv, _⟩ := r.get (i := i) (List.getElem?_eq_getElem hi)
    exact ⟨vs, v, ext_l (e1.trans e2) h, hv⟩
  yld := fun i F H x H' e1 e2 tb hy hi => by
    obtain ⟨T, x1, rfl, hT, rfl, hy⟩ := hy
    rw [enK_length] at hi
    obtain ⟨v, hv, rv⟩ := r.get (i := i) (List.getElem?_eq_getElem hi)
    have ex := hy vs (ext_l (e1.trans e2) h)
    rw [hv] at ex
    obtain rfl : v = x1 := Option.some.inj ex
    have G := Gr.new (g := g) (p := none) (o := .tup [.int (k + (i : Nat)), v]) e2 tb hT
    refine ⟨.tup [.int (k + (i : Int)), l[i]], _, ?_, G, .tup (.inl (.inl (upd_same ..))) (.cons (.int _) (.cons ((rv.mono e1).mono G.ff) .nil))⟩
    rw [enK_get, List.getElem?_eq_getElem hi]
    rfl
  stop := fun i F H e1 e2 hi => by
    rw [enK_length] at hi
    exact ⟨vs, ext_l (e1.trans e2) h, by rw [r.length]; exact hi⟩
def itEnK (m : AM) : AM := fun s => (m s).bind fun ds s1 => match ds with
  | [.lst l, .int k] => if -(2 ^ 63) ≤ k ∧ k < 2 ^ 63 then .ok (enK k l) s1 else .stuck
  | _ => .stuck
theorem di_enk {e e2 : Expr} {ma : AM} {p' pos tpos : Pos} {elts : List Expr} {kk : Nat} (hg : L2.Gl X "enumerate") (hm : X.mg "enumerate" = none) (ha : DA g X W [e, e2] ma)
    (hs : starEach [e, e2] X.env = (false, eval e X.env) :: starEach [e2] X.env := by rfl) (hpl : (backTo pos (starEach [e2] X.env)).any (·.1) = false := by rfl) :
    DI g X W (.Tuple elts kk tpos) (.Call (.Name "enumerate" p') [e, e2] [] pos) (itEnK ma) := by
  obtain ⟨t, a1, a2⟩ := ha
  refine ⟨_, pi_enk hg hm a1 hs hpl, fun p H0 F0 A F s σ H Q Y hp => a2 p H0 F0 A F s σ H _ Y (hp.bind fun ds s1 vs F1 H1 A1 Y1 e1 r1 hp1 => ?_)⟩
  split at hp1
  · rename_i l k
    obtain ⟨v, w, rfl, rv, rw'⟩ := r1.two
    cases rw'
    cases rv with
    | lst h1 r1 =>
      split at hp1
      · rename_i hj
        exact ⟨_, _, k, rfl, ext_l Y1.ext (.inl h1), hj.1, hj.2, hp1 _ F1 H1 A1 Y1 (Ext.refl _) (it_enk (.inl h1) r1)⟩
      · exact hp1.elim
  · exact hp1.elim
end
end Pd

/-! Pe, part E: an exception that bears a number: its __init__, its raise. -/
namespace Pd
open PySem PySem.Spec PyProof.Rows L2

/-- what __init__(self, line) of the class at C does -/
def spLine (K : PySem.W.Frag) (C : Addr) : Sp := fun vs H Q _ => ∃ a i, vs = [.ref a, .int i] ∧ H a = some (exo a C none) ∧ OexC K C ∧ PySem.W.findIn K (.ref C) "line" = some none ∧
  ∀ dx, H dx = none → dx ≠ a → Q .non (upd (upd H dx (exd dx [("line", .int i)])) a (exo a C (some dx)))
structure ExN (P : Program) (w : World) (K : PySem.W.Frag) (mg : Str → Option Value) (base : Heap) (k : Nat) (c : String) (C : Addr) : Prop where
  gl : mg (Str.ofString c) = some (.ref C)
  ox : OexC K C
  no : PySem.W.findIn K (.ref C) "line" = some none
  ini : ∃ fI fd, PySem.W.findIn K (.ref C) "__init__" = some (some (.ref fI)) ∧ PySem.W.typeIn K (.ref fI) = some (.type "function") ∧ FnOk P w K mg base (L2.CX P w) k fI fd ["self", "line"] (spLine K C) ∧ Binds K fd ["self", "line"] []
section
variable {P : Program} {w : World} {K : PySem.W.Frag} {mg : Str → Option Value} {base : Heap} {N ps : List Str} {k : Nat} {C f : Addr}
theorem init_of {name qual : Str} {params : Arguments} {scope : Scope} {dV kV doc pm cdv ct oc : Value} {an od : Option Addr} {osl : Array (Option Value)} {p1 p2 p3 p4 : Pos}
    (lk : K.lookup f = some ⟨oc, od, .func (PySem.W.fnOf name qual params [.Assign [.Attribute (.Name "self" p1) "line" p2] (.Name "line" p3) p4] scope dV kV doc pm an cdv ct), osl⟩) (hcd : PySem.W.codeIn K cdv qual = true) (S : FnScope ["self", "line"] ["self", "line"] scope)
    (h0 : ∀ cdv A outer s H E, PE (cxOf (L2.CX P w) P w K mg base ["self", "line"] qual scope f cdv A outer s H E) (.Name "self" p1) (tVar 0))
    (h1 : ∀ cdv A outer s H E, PE (cxOf (L2.CX P w) P w K mg base ["self", "line"] qual scope f cdv A outer s H E) (.Name "line" p3) (tVar 1))
    (hs : ∀ cdv A outer s H E, swapsWith (.Name "line" p3) (some (.Attribute (.Name "self" p1) "line" p2)) p4.line (cxOf (L2.CX P w) P w K mg base ["self", "line"] qual scope f cdv A outer s H E).env = pure false) :
    FnOk P w K mg base (L2.CX P w) (k + 1) f (PySem.W.fnOf name qual params [.Assign [.Attribute (.Name "self" p1) "line" p2] (.Name "line" p3) p4] scope dV kV doc pm an cdv ct) ["self", "line"] (spLine K C) := by
  refine fn_of lk hcd S (fun vs H Q E ⟨a, i, e, _⟩ => by rw [e]; rfl) (fun A outer s H vs Q E hr ⟨a, i, e, ea, ox, no, q⟩ => ?_)
  subst e
  exact ⟨_, pss_one (ps_ost (h0 _ _ _ _ _ _) (h1 _ _ _ _ _ _) (hs _ _ _ _ _ _)), .int i, rfl, .ref a, rfl, a, C, rfl, ox, no, .inl ⟨ea, fun dx hd hne => q dx hd hne⟩⟩
end
def mRaiseN (c : String) (m : EM) : SM := fun s => (m s).bs fun d s1 => match d with
  | .int i => .exc c (some i) s1
  | _ => .stuck
section
variable {g : Gl} {X : Cx} {W : WX} {e : Expr} {m : EM} {k : Nat} {c : String} {C : Addr} {p p3 pos : Pos}
theorem ds_raiseN (tk : Takes X W) (h : ExN X.prog X.w X.K X.mg X.base k c C) (hr : Room (k + 1) X.A) (hgc : L2.Gl X (Str.ofString c)) (he : DE g X W e m) (hc : X.calm = true := by rfl) (hm : X.mg = g.mg := by rfl)
    (hdb : (Str.ofString c == ("__debug__" : Str)) = false := by decide) (hs : starEach [e] X.env = (false, eval e X.env) :: starEach [] X.env := by rfl) (hpl : (backTo p3 (starEach [] X.env)).any (·.1) = false := by rfl) :
    DS g X W (.Raise (some (.Call (.Name (Str.ofString c) p) [e] [] p3)) none pos) (mRaiseN c m) := by
  obtain ⟨t, a1, a2⟩ := he
  obtain ⟨fI, fd, iC, tI, F1, hb⟩ := h.ini
  have hx : Passes (L2.CX X.prog X.w) X (fun _ _ _ => False) := fun pins σ H sh x s' I z => by
    obtain ⟨_, _, _, _, _, _, _, _, _, _, _, _, y⟩ := z
    exact y.elim
  refine ⟨_, ps_raise hc tk (pmk_oex h.ox iC tI F1 hr hb .nil hx hgc h.gl (pa_cons a1 pa_nil hs) hdb hs hpl), fun q H0 F0 A F s σ H D Y hp => ?_⟩
  refine a2 q H0 F0 A F s σ H _ Y (PostS.bs hp fun d s1 v F1 H1 A1 Y1 e1 r1 hp1 => ?_)
  cases d with
  | int i =>
    cases r1
    refine ⟨by show 1 ≤ 1000; omega, fun a na => ⟨a, i, rfl, upd_same, h.ox, h.no, fun dx hd hne => ?_⟩⟩
    have nd : H1 dx = none := by rw [upd_ne hne] at hd; exact hd
    refine ⟨rfl, dx, [("line", .int i)], upd_same, by rw [upd_ne hne, upd_same], nd, ?_⟩
    have same : upd (del (upd (upd (upd H1 a (exo a C none)) dx (exd dx [("line", V.int i)])) a (exo a C (some dx))) a) dx (.xd [("line", V.int i)]) = upd H1 dx (.xd [("line", V.int i)]) := by
      funext b
      by_cases hb : b = dx
      · subst hb; rw [upd_same, upd_same]
      · rw [upd_ne hb, upd_ne hb]
        by_cases ha : b = a
        · subst ha; rw [del_same, na]
        · rw [del_ne ha, upd_ne ha, upd_ne hb, upd_ne ha]
    rw [same]
    have fd : F1 dx = none := by
      cases z : F1 dx with
      | none => rfl
      | some o => rw [Y1.ext dx o z] at nd; cases nd
    have Y2 := Y1.grow (Gr.new (p := none) (o := .xd [("line", V.int i)]) Y1.ext Y1.tb nd)
    exact hp1 (.ref C) (some dx) σ _ _ A1 Y2 (Ext.new fd) ⟨C, by rw [← hm]; exact h.gl, rfl, (fun z => by cases z), fun j z => by cases z; exact ⟨dx, rfl, upd_same⟩⟩
  | _ => exact hp1.elim
end
end Pd

/-! Pe, part F: a list of one's own compared as it stands; two lists of one's own at once. -/
namespace Pd
open PySem PySem.Spec PyProof.Rows L2

theorem dp_now {g : Gl} {p : Option Addr} {F H : Hp} {v : V} {d : D} {q : PyData} (r : RepH g p F H v d) (e : Ext F H) (h : toP d = some q) : Dp g.K H v q := by
  rcases r with r | ⟨a, vs, l, rfl, rfl, h1, r1⟩
  · exact Pd.Dp.mono e (dp_of d v q r h)
  · unfold toP at h
    obtain ⟨qs, q1, q2⟩ := Option.map_eq_some_iff.mp h
    subst q2
    exact .lst (.inl (.inl h1)) (Pd.DpAll.mono e (dps_of l _ _ r1 q1))
def eqAt (i : Nat) (y : D) (s1 : S) : R D := match getB s1 i with
  | some d => R.of (dEqv d y) s1
  | none => .stuck
/-- x == e, x a name of the def: its list isn't frozen by that -/
def mEqV (i : Nat) (b : EM) : EM := fun s => match getB s i with
  | none => .stuck
  | some _ => (b s).bind (eqAt i)
section
variable {g : Gl} {X : Cx} {W : WX} {a b : Expr} {ma mb : EM} {pos : Pos} {i : Nat}
theorem sim_eqV {tb : TE} (b2 : Sim g W (RepV g) tb mb) : Sim g W (RepV g) (tOp (rEqD g.K) (tVar i) tb) (mEqV i mb) := by
  intro p H0 F0 A F s σ H Q Y hp
  unfold mEqV at hp
  cases q0 : Pd.getB s i with
  | none => rw [q0] at hp; exact hp.elim
  | some d0 =>
    rw [q0] at hp
    obtain ⟨v, hv, _⟩ := Y.getB q0
    refine ⟨v, hv, b2 p H0 F0 A F s σ H _ Y (Post.bind (k := eqAt i) hp fun y s1 w F1 H1 A1 Y1 e1 r1 hp1 => ?_)⟩
    unfold eqAt at hp1
    cases q : Pd.getB s1 i with
    | none => rw [q] at hp1; exact hp1.elim
    | some d =>
      obtain ⟨v1, hv1, rv⟩ := Y1.getB q
      obtain rfl : v1 = v := Option.some.inj (Option.some.inj (hv1.symm.trans hv))
      have hp2 : Post g W (RepV g) p H0 F0 F1 σ Q (R.of (dEqv d y) s1) := by
        rw [q] at hp1
        exact hp1
      have hp3 := Post.of Y1 hp2
      unfold dEqv at hp3
      cases q2 : dEq d y with
      | none => rw [q2] at hp3; exact hp3.elim
      | some k =>
        rw [q2] at hp3
        obtain ⟨da, db, e2, e3, z1, z2, rfl⟩ := dEq_some q2
        exact ⟨da, db, dp_now rv Y1.ext e2, Pd.Dp.mono Y1.ext (dp_of y w db r1 e3), z1, z2, OpP.val (d := .bl _) hp3 Y1.ext Y1.tb (.bl _)⟩
theorem de_eqV (hu : X.A.units + 64 < cLine) (ha : PE X a (tVar i)) (hb : DE g X W b mb) (hm : behindInMarks .Eq b = false) (hK : X.K = g.K := by rfl) : DE g X W (.Compare a [.Eq] [b] pos) (mEqV i mb) := by
  obtain ⟨tb, b1, b2⟩ := hb
  have h := pe_cmpR (pos := pos) (op_eqD (X := X) hu) ha b1 hm
  rw [hK] at h
  exact ⟨_, h, sim_eqV b2⟩
theorem dt_eqV (hu : X.A.units + 64 < cLine) (ha : PE X a (tVar i)) (hb : DE g X W b mb) (hm : behindInMarks .Eq b = false) (hK : X.K = g.K := by rfl) : DT g X W (.Compare a [.Eq] [b] pos) (mTest (mEqV i mb)) := by
  obtain ⟨tb, b1, b2⟩ := hb
  have h := pt_cmpR (pos := pos) (op_eqD (X := X) hu) ha b1 hm
  rw [hK] at h
  exact ⟨_, h, sim_test (sim_eqV b2)⟩
end

/-! ### x, y = [..], [..] -/
def mParO (i j : Nat) (m n : OM) : SM := fun s => (m s).bs fun r1 s1 => match r1 with
  | .own l1 => (n s1).bs fun r2 s2 => match r2 with
    | .own l2 => .nx { s2 with sl := (s2.sl.set i (.own l1)).set j (.own l2) }
    | _ => .stuck
  | _ => .stuck
section
variable {g : Gl} {X : Cx} {W : WX} {x y : Str} {a b : Expr} {ma mb : OM} {px py pt pos pt2 : Pos} {kt k2 : Nat} {i j : Nat}
theorem ds_parO (hc : X.calm = true) (hN : X.N.Nodup) (hi : X.N[i]? = some x) (hj : X.N[j]? = some y) (hij : i ≠ j) (hx : X.env.scope.names.lookup x = some .local) (hy : X.env.scope.names.lookup y = some .local)
    (ha : DO g X W a ma) (hb : DO g X W b mb)
    (hw : swappedStores [.Tuple [.Name x px, .Name y py] kt pt] (.Tuple [a, b] k2 pt2) X.env = pure (some [x, y]))
    (hs : swapsWithSole [.Tuple [.Name x px, .Name y py] kt pt] (.Tuple [a, b] k2 pt2) pos.line X.env = pure false := by rfl)
    (h1 : starEach [a, b] X.env = (false, eval a X.env) :: starEach [b] X.env := by rfl) (h2 : starEach [b] X.env = (false, eval b X.env) :: starEach [] X.env := by rfl) :
    DS g X W (.Assign [.Tuple [.Name x px, .Name y py] kt pt] (.Tuple [a, b] k2 pt2) pos) (mParO i j ma mb) := by
  obtain ⟨ta, a1, a2⟩ := ha
  obtain ⟨tb, b1, b2⟩ := hb
  refine ⟨_, ps_par hc hN hi hj hij hx hy (pa_cons a1 (pa_cons b1 pa_nil h2) h1) hw hs, fun p H0 F0 A F s σ H D Y hp => ?_⟩
  refine a2 p H0 F0 A F s σ H _ Y ?_
  unfold mParO at hp
  cases q1 : ma s with
  | exc c n s1 => rw [q1] at hp; exact fun cls d F1 H1 A1 Y1 e1 x => hp cls d σ F1 H1 A1 Y1 e1 x
  | stuck => rw [q1] at hp; exact hp.elim
  | ok r s1 =>
    rw [q1] at hp
    cases r with
    | no => exact hp.elim
    | val d => exact hp.elim
    | dct l => exact hp.elim
    | own l1 =>
      intro aa vs F1 H1 A1 Y1 e1 r1 k1 k2 k3 k4 k5
      have hp1 : PostS g W p H0 F0 F D ((mb s1).bs fun r2 s2 => match r2 with
        | .own l2 => .nx { s2 with sl := (s2.sl.set i (.own l1)).set j (.own l2) }
        | _ => .stuck) := hp
      have f0 : F0 aa = none := by
        cases z : F0 aa with
        | none => rfl
        | some o => rw [Y1.ef0 _ _ z] at k2; cases k2
      have Yp := Y1.protect k1 k2 k3 k5
      refine b2 p _ F0 A1 F1 s1 σ H1 _ Yp ?_
      cases q2 : mb s1 with
      | exc c n s2 =>
        rw [q2] at hp1
        intro cls d F2 H2 A2 Y2 e2 x
        obtain ⟨z1, _⟩ := Y2.unprotect f0 k4 trivial k3
        exact hp1 cls d σ F2 H2 A2 z1 (e1.trans e2) x
      | stuck => rw [q2] at hp1; exact hp1.elim
      | ok r2 s2 =>
        rw [q2] at hp1
        cases r2 with
        | no => exact hp1.elim
        | val d => exact hp1.elim
        | dct l => exact hp1.elim
        | own l2 =>
          intro ab ws F2 H2 A2 Y2 e2 r2 j1 j2 j3 j4 j5
          obtain ⟨z1, z2, z3, z4⟩ := Y2.unprotect f0 k4 trivial k3
          have ne : ab ≠ aa := fun z => by rw [z, upd_same] at j3; cases j3
          rw [upd_ne ne] at j3
          obtain ⟨B1, m1, y1⟩ := z1.sl.setOwn z2 (r1.mono e2) z3 k3 k4 z4 i
          have nb : ab ∉ B1 := fun z => (m1 _ z).elim ne j5
          obtain ⟨B2, m2, y2⟩ := y1.setOwn j1 r2 j2 j3 j4 nb j
          exact ⟨.ref aa, .ref ab, rfl, hp1 _ F2 H2 B2 (z1.slots (s' := { s2 with sl := (s2.sl.set i (.own l1)).set j (.own l2) }) rfl y2) (e1.trans e2)⟩
end
end Pd
namespace Pd
open PySem PySem.Spec PyProof.Rows L2
/-! ### [..] * a written number -/
def oRep (n : Int) (m : OM) : OM := fun s => (m s).bind fun r s1 => match r with
  | .own l => if -(2 ^ 62) ≤ n ∧ n < 2 ^ 62 ∧ l.length * n.toNat ≤ sizeLine then .ok (.own (List.replicate n.toNat l).flatten) s1 else .stuck
  | _ => .stuck
theorem reps_rep {g : Gl} {p : Option Addr} {F : Hp} {vs : List V} {l : List D} (r : Reps g p F vs l) : ∀ n : Nat, Reps g p F (List.replicate n vs).flatten (List.replicate n l).flatten
  | 0 => .nil
  | n + 1 => by
    rw [List.replicate_succ, List.replicate_succ, List.flatten_cons, List.flatten_cons]
    exact r.append (reps_rep r n)
section
variable {g : Gl} {X : Cx} {W : WX} {a b : Expr} {m : OM} {pos : Pos} {n : Int}
theorem do_rep (ha : DO g X W a m) (hb : PE X b (tC (.int n))) : DO g X W (.BinOp a .Mult b pos) (oRep n m) := by
  obtain ⟨ta, a1, a2⟩ := ha
  refine ⟨_, pe_op op_rep a1 hb, fun p H0 F0 A F s σ H Q Y hp => a2 p H0 F0 A F s σ H _ Y ?_⟩
  unfold oRep at hp
  cases q : m s with
  | exc c k s1 => rw [q] at hp; exact hp
  | stuck => rw [q] at hp; exact hp
  | ok r s1 =>
    rw [q] at hp
    cases r with
    | no => exact hp.elim
    | val d => exact hp.elim
    | dct l => exact hp.elim
    | own l =>
      have hp1 : PostO g W p H0 F0 F σ Q (if -(2 ^ 62) ≤ n ∧ n < 2 ^ 62 ∧ l.length * n.toNat ≤ sizeLine then .ok (.own (List.replicate n.toNat l).flatten) s1 else .stuck) := hp
      split at hp1
      · rename_i hn
        intro aa vs F1 H1 A1 Y1 e1 r1 k1 k2 k3 k4 k5
        refine ⟨aa, n, vs, rfl, rfl, k1, by omega, by omega, by rw [r1.length]; exact hn.2.2, fun q nq => ?_⟩
        obtain ⟨j1, j2, j3, j4⟩ := Y1.fresh nq
        have G := Gr.lay (g := g) (p := none) (o := HO.lst (List.replicate n.toNat vs).flatten) Y1.ext Y1.tb nq
        exact hp1 q _ F1 _ A1 (Y1.grow G) (e1.trans G.ff) (reps_rep r1 _) upd_same j1 j2 j3 j4
      · exact hp1.elim
end
end Pd

/-! Pe, part G: further facts of the head: which class is which, what is caught, a class with __init__. -/
namespace Pd
open PySem PySem.Spec PyProof.Rows L2 He

def gloB (K : PySem.W.Frag) (x : Str) : Bool := eqO (PySem.W.nsIn K mainGlobals x) (some (some (.ref (ga K x))))
theorem gloB_ok {K : PySem.W.Frag} {h : Heap} {mg : Str → Option Value} (X : K.In h) (G : h.Ns mainGlobals mg) {x : Str} (c : gloB K x = true) : mg x = some (.ref (ga K x)) := PySem.W.mg_of X G (eqO_ok c)
def excCB (K : PySem.W.Frag) (C : Addr) : Bool :=
  (eqO (PySem.W.findIn K (.ref C) "__getattribute__") (some (some (.builtin "BaseException.__getattribute__"))) && eqO (PySem.W.findIn K (.ref C) "__getattr__") (some none)) &&
  ((decide (PySem.W.subIn K (.ref C) (.type "BaseException") = some true) && PySem.W.hasDictIn K C) &&
  ((eqO (PySem.W.findIn K (.ref C) "__class__") (some (some (.builtin "object.__class__"))) && eqO (PySem.W.specialIn K (.builtin "object.__class__") "__get__") (some (some (.builtin "getset_descriptor.__get__")))) &&
  (decide (PySem.W.takesIn K (.builtin "object.__class__") = some true) && decide (PySem.W.mroIn K C (.type "object") = some true))))
theorem excCB_ok {K : PySem.W.Frag} {C : Addr} (h : excCB K C = true) : ExcC K C := by
  obtain ⟨h1, h⟩ := ba h
  obtain ⟨a1, a2⟩ := ba h1
  obtain ⟨h2, h⟩ := ba h
  obtain ⟨a3, a4⟩ := ba h2
  obtain ⟨h3, h4⟩ := ba h
  obtain ⟨a5, a6⟩ := ba h3
  obtain ⟨a7, a8⟩ := ba h4
  exact ⟨eqO_ok a1, eqO_ok a2, of_decide_eq_true a3, a4, eqO_ok a5, eqO_ok a6, of_decide_eq_true a7, of_decide_eq_true a8⟩
def oexB (K : PySem.W.Frag) (C : Addr) : Bool :=
  (match K.lookup C with
    | some ⟨.type t, _, .cls cd, sl⟩ => decide (t = "type") && (match cd.mro, sl.toList with
      | .ref C1 :: bm, [_, _, _, _, some (.builtin n), _] => (decide (C1 = C) && decide (n = "ValueError.__new__")) && ((!cd.hasDel && cd.hasDict) && PySem.HandSPX.refsVE bm)
      | _, _ => false)
    | _ => false) &&
  ((eqO (PySem.W.findIn K (.ref C) "__setattr__") (some (some (.builtin "object.__setattr__"))) && decide (PySem.W.subIn K (.ref C) (.type "BaseException") = some true)) &&
  (decide (PySem.W.typeIn K (.ref C) = some (.type "type")) && PySem.W.keepIn K (.ref C)))
theorem oexB_ok {K : PySem.W.Frag} {C : Addr} (h : oexB K C = true) : OexC K C := by
  obtain ⟨h1, h⟩ := ba h
  obtain ⟨h2, h3⟩ := ba h
  obtain ⟨a1, a2⟩ := ba h2
  obtain ⟨a3, a4⟩ := ba h3
  refine ⟨?_, eqO_ok a1, of_decide_eq_true a2, of_decide_eq_true a3, a4⟩
  cases q : K.lookup C with
  | none => rw [q] at h1; cases h1
  | some o =>
    obtain ⟨oc, od, dt, sl⟩ := o
    rw [q] at h1
    cases oc with
    | type t =>
      cases dt with
      | cls cd =>
        have h5 : (decide (t = "type") && (match cd.mro, sl.toList with
          | .ref C1 :: bm, [_, _, _, _, some (.builtin n), _] => (decide (C1 = C) && decide (n = "ValueError.__new__")) && ((!cd.hasDel && cd.hasDict) && PySem.HandSPX.refsVE bm)
          | _, _ => false)) = true := h1
        obtain ⟨b1, b2⟩ := ba h5
        obtain rfl : t = "type" := of_decide_eq_true b1
        obtain ⟨nm, bs, mro, ns, qn, hd, sn, sub, ab, col, del⟩ := cd
        obtain ⟨l⟩ := sl
        dsimp only at b2
        split at b2
        · rename_i _ _ C1 bm k0 k1 k2 k3 n k5
          obtain ⟨c1, c2⟩ := ba b2
          obtain ⟨c3, c4⟩ := ba c1
          obtain ⟨c5, c6⟩ := ba c2
          obtain ⟨c7, c8⟩ := ba c5
          obtain rfl : C1 = C := of_decide_eq_true c3
          obtain rfl : n = "ValueError.__new__" := of_decide_eq_true c4
          have e3 : del = false := by cases del with
            | false => rfl
            | true => cases c7
          have e4 : hd = true := c8
          subst e3 e4
          exact ⟨_, _, _, _, _, _, _, _, _, _, _, _, _, _, _, rfl, c6⟩
        · cases b2
      | _ => cases h1
    | _ => cases h1
/-- what is asked of the written part -/
inductive Ck where
  /-- isinstance(e, x): the classes of the rows -/
  | rows (x : String) (l : List (String × Bool))
  | rowsT (T : String) (l : List (String × Bool))
  /-- except x: catches these -/
  | catch_ (x : String) (l : List String)
  /-- a class with its own __init__ that keeps a number -/
  | oex (c : String)
def rowB (K : PySem.W.Frag) (u : Value) (q : String × Bool) : Bool :=
  gloB K (Str.ofString q.1) && (excCB K (ga K (Str.ofString q.1)) && decide (PySem.W.kitOne K (.ref (ga K (Str.ofString q.1))) u = some q.2))
def Ck.ok (K : PySem.W.Frag) : Ck → Bool
  | .rows x l => gloB K (Str.ofString x) && (decide (PySem.W.kitOne K (.type "NoneType") (.ref (ga K (Str.ofString x))) = some false) && l.all (rowB K (.ref (ga K (Str.ofString x)))))
  | .rowsT T l => decide (PySem.W.kitOne K (.type "NoneType") (.type T) = some false) && l.all (rowB K (.type T))
  | .catch_ x l => gloB K (Str.ofString x) && l.all fun c => gloB K (Str.ofString c) && decide (PySem.W.exmOne K (.ref (ga K (Str.ofString c))) (.ref (ga K (Str.ofString x))) = some true)
  | .oex c => gloB K (Str.ofString c) && (oexB K (ga K (Str.ofString c)) && (eqO (PySem.W.findIn K (.ref (ga K (Str.ofString c))) "line") (some none) &&
      (eqO (PySem.W.findIn K (.ref (ga K (Str.ofString c))) "__init__") (some (some (.ref (ma K (ga K (Str.ofString c)) "__init__")))) && decide (PySem.W.typeIn K (.ref (ma K (ga K (Str.ofString c)) "__init__")) = some (.type "function")))))
section
variable {K : PySem.W.Frag} {h : Heap} {mg : Str → Option Value}
theorem lookup_memS {x : String} {b : Bool} : ∀ {l : List (String × Bool)}, l.lookup x = some b → (x, b) ∈ l
  | [], e => by cases e
  | (y, c) :: r, e => by
    rw [List.lookup_cons] at e
    cases q : (x == y) with
    | true =>
      rw [q] at e
      cases e
      rw [beq_iff_eq.mp q]
      exact List.mem_cons_self
    | false =>
      rw [q] at e
      exact List.mem_cons_of_mem _ (lookup_memS e)
theorem rows_of (X : K.In h) (G : h.Ns mainGlobals mg) {u : Value} {l : List (String × Bool)} (c : l.all (rowB K u) = true) :
    ∀ x b, l.lookup x = some b → ∀ C, mg (Str.ofString x) = some (.ref C) → ExcC K C ∧ PySem.W.kitOne K (.ref C) u = some b := by
  intro x b hl C hC
  have hm := lookup_memS hl
  obtain ⟨h1, h2⟩ := ba (List.all_eq_true.mp c (x, b) hm)
  obtain ⟨h3, h4⟩ := ba h2
  have e := gloB_ok X G h1
  rw [hC] at e
  cases e
  exact ⟨excCB_ok h3, of_decide_eq_true h4⟩
theorem isOk_of (X : K.In h) (G : h.Ns mainGlobals mg) {x : String} {l : List (String × Bool)} (c : (Ck.rows x l).ok K = true) : mg (Str.ofString x) = some (.ref (ga K (Str.ofString x))) ∧ IsOk K mg (.ref (ga K (Str.ofString x))) l := by
  obtain ⟨h1, h2⟩ := ba c
  obtain ⟨h3, h4⟩ := ba h2
  exact ⟨gloB_ok X G h1, ⟨_, .own _, of_decide_eq_true h3, rows_of X G h4⟩⟩
theorem isOkT_of (X : K.In h) (G : h.Ns mainGlobals mg) {T : String} {l : List (String × Bool)} (c : (Ck.rowsT T l).ok K = true) : IsOk K mg (.ty T) l := by
  obtain ⟨h3, h4⟩ := ba c
  exact ⟨_, .ty _, of_decide_eq_true h3, rows_of X G h4⟩
theorem catches_of (X : K.In h) (G : h.Ns mainGlobals mg) {x : String} {l : List String} (c : (Ck.catch_ x l).ok K = true) : Catches K mg x (ga K (Str.ofString x)) l := by
  obtain ⟨h1, h2⟩ := ba c
  refine ⟨gloB_ok X G h1, fun y hy C hC => ?_⟩
  obtain ⟨h3, h4⟩ := ba (List.all_eq_true.mp h2 y hy)
  have e := gloB_ok X G h3
  rw [hC] at e
  cases e
  exact of_decide_eq_true h4
theorem exN_of {P : Program} {w : World} {base : Heap} {k : Nat} (X : K.In h) (G : h.Ns mainGlobals mg) {c : String} (ck : (Ck.oex c).ok K = true) {fd : FuncData}
    (F : FnOk P w K mg base (L2.CX P w) k (ma K (ga K (Str.ofString c)) "__init__") fd ["self", "line"] (spLine K (ga K (Str.ofString c)))) (hb : Binds K fd ["self", "line"] []) : ExN P w K mg base k c (ga K (Str.ofString c)) := by
  obtain ⟨h1, h2⟩ := ba ck
  obtain ⟨h3, h4⟩ := ba h2
  obtain ⟨h5, h6⟩ := ba h4
  obtain ⟨h7, h8⟩ := ba h6
  exact ⟨gloB_ok X G h1, oexB_ok h3, eqO_ok h5, _, fd, eqO_ok h7, of_decide_eq_true h8, F, hb⟩
end
/-! ### the hook -/
abbrev AlX : Type := Bool × AlD
def obsX (ck : List Ck) (fa : List Fa) (fn : List DefD) (K : PySem.W.Frag) : AlX := (ck.all fun c => c.ok K, obsD fa fn K)
def SaysX (ck : List Ck) (fa : List Fa) (fn : List DefD) (K : PySem.W.Frag) : Prop := obsX ck fa fn K = (true, valD fn)
def obsXG (n : Nat) (ck : List Ck) (fa : List Fa) (fn : List DefD) (g : Addr → Option Obj) : AlX := obsX ck fa fn (frG g (asD g n))
def hookX (n : Nat) (ck : List Ck) (fa : List Fa) (fn : List DefD) : PySem.W.Hook where
  α := AlX
  obs := fun s => obsXG n ck fa fn s.heap.get?
  val := fun _ => (true, valD fn)
  says := fun _ h => ∃ K : PySem.W.Frag, K.In h ∧ SaysX ck fa fn K
  of := fun _ _ e => ⟨_, frG_in, e⟩
  keeps := fun _ _ _ ⟨K, hK, c⟩ k => ⟨K, PySem.W.Frag.In.keeps hK k, c⟩
theorem obsXG_eq {n : Nat} {ck : List Ck} {fa : List Fa} {fn : List DefD} {g : Addr → Option Obj} {s : Shared} (h : ∀ a, g a = s.heap.get? a) : obsXG n ck fa fn g = (hookX n ck fa fn).obs s := by
  have e : g = s.heap.get? := funext h
  rw [e] <;> rfl
section
variable {cks : List Ck} {fa : List Fa} {fn : List DefD} {K : PySem.W.Frag}
theorem SaysX.says (c : SaysX cks fa fn K) : SaysD fa fn K := congrArg (fun z : AlX => z.2) c
theorem SaysX.ck (c : SaysX cks fa fn K) (i : Nat) {f : Ck} (h : cks[i]? = some f := by rfl) : f.ok K = true :=
  List.all_eq_true.mp (congrArg (fun z : AlX => z.1) c) f (List.mem_of_getElem? h)
end
def clsBody : Stmt → List Stmt
  | .ClassDef _ _ _ b _ _ _ _ _ _ _ => b
  | _ => []
end Pd

/-! Pe, part H: the number that a kept exception bears. -/
namespace Pd
open PySem PySem.Spec PyProof.Rows L2

structure LineOk (K : PySem.W.Frag) (mg : Str → Option Value) (c : String) : Prop where
  ex : ∃ C, mg (Str.ofString c) = some (.ref C) ∧ ExcC K C ∧ PySem.W.findIn K (.ref C) "line" = some none
def mLine (c : String) (m : EM) : EM := fun s => (m s).bind fun d s1 => match d with
  | .exc k (some i) => if k = c then .ok (.int i) s1 else .stuck
  | _ => .stuck
/-- e.line -/
def tLine0 (C : Addr) (te : TE) : TE := fun σ H Q => te σ H fun x H1 => ∃ a dd fs v, x = .ref a ∧ H1 a = some (ExcO a C (some dd)) ∧ H1 dd = some (.xd fs) ∧ fs.lookup ("line" : Str) = some v ∧ Q v H1
section
variable {g : Gl} {X : Cx} {W : WX} {e : Expr} {m : EM} {pos : Pos} {c : String} {C : Addr} {te : TE}
theorem pe_line (T : ExcC X.K C) (hno : PySem.W.findIn X.K (.ref C) "line" = some none) (he : PE X e te) (hb : attributeBase e "line" X.env (eval e X.env) = eval e X.env) : PE X (.Attribute e "line" pos) (tLine0 C te) := by
  refine ⟨fun pins s σ H Q I h => ?_⟩
  refine attr_of hb (thn (he.run pins s σ H _ I h) fun u s1 ⟨x, H1, I1, rx, a, dd, fs, v, ex, ea, ed, l, q⟩ => ?_)
  subst ex
  obtain rfl : u = Value.ref a := rx
  obtain ⟨⟨o, vs, j1, j2, j3, j4⟩, _⟩ := I1.hok a _ ea
  obtain ⟨mA, hns, hr⟩ := I1.hok dd _ ed
  obtain ⟨od, ho, hl⟩ := lookIn_ns hns
  obtain ⟨u, hu, ru⟩ := RelO.some_of (v := v) (o := mA "line") (by rw [← l]; exact hr "line")
  have J : PySem.W.InstAt s1.heap a o C (some od) := ⟨j1, j2, by unfold PySem.W.notCls; rw [j4] <;> rfl, by rw [j3]; exact ho⟩
  exact HandSPX.exc_get I1.kIn J T.hg T.hk T.hs (PySem.W.findObj_own T.hd hno rfl (by rw [hl, hu])) (handed_of ru) ⟨v, H1, I1.tok _, ru, q⟩
theorem de_line (T : LineOk X.K X.mg c) (h : DE g X W e m) (hm : X.mg = g.mg := by rfl) (hb : attributeBase e "line" X.env (eval e X.env) = eval e X.env := by rfl) : DE g X W (.Attribute e "line" pos) (mLine c m) := by
  obtain ⟨t, a1, a2⟩ := h
  obtain ⟨C, k1, k2, k3⟩ := T.ex
  refine ⟨_, pe_line (pos := pos) k2 k3 a1 hb, fun p H0 F0 A F s σ H Q Y hp => ?_⟩
  refine a2 p H0 F0 A F s σ H _ Y (hp.bind fun d s1 v F1 H1 A1 Y1 e1 r1 hp1 => ?_)
  cases d with
  | exc k n =>
    cases n with
    | none => exact hp1.elim
    | some i =>
      have hp2 : Post g W (RepV g) p H0 F0 F1 σ Q (if k = c then .ok (.int i) s1 else .stuck) := hp1
      by_cases hk : k = c
      · rw [if_pos hk] at hp2
        subst hk
        cases r1 with
        | exc h1 h2 h3 =>
          obtain ⟨dd, y1, y2⟩ := h3.2 i rfl
          subst y1
          rw [hm] at k1
          rw [k1] at h2
          cases h2
          exact ⟨_, dd, _, .int i, rfl, Y1.ext _ _ h1, Y1.ext _ _ y2, rfl, hp2 (.int i) F1 H1 A1 Y1 (Ext.refl _) (.int i)⟩
      · rw [if_neg hk] at hp2
        exact hp2.elim
  | _ => exact hp1.elim
end
open He in
/-- what the head says for it -/
theorem lineOk_of {K : PySem.W.Frag} {h : Heap} {mg : Str → Option Value} (X : K.In h) (G : h.Ns mainGlobals mg) {c : String} (ck : (Ck.oex c).ok K = true) (I : ∃ rows cV, IsOk K mg cV rows ∧ (rows.lookup c).isSome = true) : LineOk K mg c := by
  obtain ⟨h1, h2⟩ := ba ck
  obtain ⟨h3, h4⟩ := ba h2
  obtain ⟨h5, h6⟩ := ba h4
  obtain ⟨rows, cV, I, hr⟩ := I
  obtain ⟨u, k1, k2, k3⟩ := I.ex
  cases q : rows.lookup c with
  | none => rw [q] at hr; cases hr
  | some b => exact ⟨_, gloB_ok X G h1, (k3 c b q _ (gloB_ok X G h1)).1, eqO_ok h5⟩
end Pd

/-! Pf, part A: lambdas as values: what is known of them, heaps with some addresses taken out. -/
namespace Pd
open PySem PySem.Spec PyProof.Rows L2 LamX NdefX

/-- exactly the object o; k tells what it is in the proof: 0 a cell, k + 1 the lambda number k -/
abbrev Ob (o : Obj) (k : Nat) : HO := .frz o (.own k)
/-- a lambda of the text: its parameters, the names that it captures -/
structure LamD where
  qual : Str
  params : Arguments
  body : Expr
  scope : Scope
  ps : List Str
  fr : List Str
def lamO (d : LamD) (cl : List (Str × Addr)) (pm : Value) (c' : Addr) (ctv : Value) : Obj := PySem.W.kla_obj "<lambda>" d.qual d.params d.body d.scope cl pm c' ctv
structure CloAt (L : Nat → Option LamD) (F : Hp) (a : Addr) (k : Nat) (vs : List V) (d : LamD) (cl : List (Str × Addr)) (c' : Addr) (pm ctv : Value) : Prop where
  lam : L k = some d
  fn : F a = some (Ob (lamO d cl pm c' ctv) (k + 1))
  code : F c' = some (CodeO c' d.qual)
  len : vs.length = d.fr.length
  all : ∀ y c, cl.lookup y = some c → y ∈ d.fr
  inj : ∀ x y c, cl.lookup x = some c → cl.lookup y = some c → x = y
  has : ∀ (i : Nat) (y : Str) (v : V), d.fr[i]? = some y → vs[i]? = some v → ∃ c o u, cl.lookup y = some c ∧ F c = some (Ob o 0) ∧ o.data = .cell (some u) ∧ RelV v u
/-- F tells the lambda number k at a; vs: what it captured -/
def CLof (L : Nat → Option LamD) (F : Hp) (a : Addr) (k : Nat) (vs : List V) : Prop := ∃ d cl c' pm ctv, CloAt L F a k vs d cl c' pm ctv
theorem CLof.mono {L : Nat → Option LamD} (F F' : Hp) (a : Addr) (k : Nat) (vs : List V) (e : Ext F F') : CLof L F a k vs → CLof L F' a k vs := by
  rintro ⟨d, cl, c', pm, ctv, z⟩
  refine ⟨d, cl, c', pm, ctv, z.lam, e _ _ z.fn, e _ _ z.code, z.len, z.all, z.inj, fun i y v h1 h2 => ?_⟩
  obtain ⟨c, o, u, k1, k2, k3, k4⟩ := z.has i y v h1 h2
  exact ⟨c, o, u, k1, e _ _ k2, k3, k4⟩

/-! ### tables -/
theorem codeO_ne_lst {c : Addr} {q : Str} {u : HO} (h : CodeO c q = u) : ∃ φ, u = .ext φ := ⟨_, h.symm⟩
theorem tabs_upd {T : List (Addr × Str)} (H : Hp) (a : Addr) (o : HO) (t : Tabs T H) (h : H a = none ∨ (∃ xs, H a = some (.lst xs)) ∨ (∃ kvs, H a = some (.dK kvs)) ∨ (∃ C d fs, H a = some (.ins C d fs))) : Tabs T (upd H a o) := by
  intro q hq
  obtain ⟨ps, h1, h2, h3⟩ := t q hq
  have n1 : q.1 ≠ a := fun z => by
    rw [z] at h1
    rcases h with h | ⟨_, h⟩ | ⟨_, h⟩ | ⟨_, _, _, h⟩ <;> (rw [h] at h1; cases h1)
  refine ⟨ps, by rw [upd_ne n1]; exact h1, h2, fun pos cv hc => ?_⟩
  obtain ⟨c, e1, e2⟩ := h3 pos cv hc
  refine ⟨c, e1, ?_⟩
  have n2 : c ≠ a := fun z => by
    rw [z] at e2
    rcases h with h | ⟨_, h⟩ | ⟨_, h⟩ | ⟨_, _, _, h⟩
    · rw [h] at e2; cases e2
    all_goals (rw [h] at e2; obtain ⟨φ, y⟩ := codeO_ne_lst (Option.some.inj e2).symm; cases y)
  rw [upd_ne n2]; exact e2
/-- the surroundings of a text with lambdas -/
abbrev GL (K : PySem.W.Frag) (mg : Str → Option Value) (L : Nat → Option LamD) (T : List (Addr × Str)) : Gl := ⟨K, mg, Tabs T, tabs_upd, CLof L, CLof.mono⟩

/-! ### addresses taken out -/
def strip (C : List Addr) (H : Hp) : Hp := fun b => if b ∈ C then none else H b
def over (C : List Addr) (H0 H : Hp) : Hp := fun b => if b ∈ C then H0 b else H b
section
variable {C : List Addr} {H H0 H1 : Hp} {b : Addr} {o : HO}
theorem strip_in (h : b ∈ C) : strip C H b = none := if_pos h
theorem strip_out (h : b ∉ C) : strip C H b = H b := if_neg h
theorem strip_some (h : strip C H b = some o) : b ∉ C ∧ H b = some o := by
  by_cases hb : b ∈ C
  · rw [strip_in hb] at h; cases h
  · rw [strip_out hb] at h; exact ⟨hb, h⟩
theorem strip_none (h : strip C H b = none) (hb : b ∉ C) : H b = none := by rw [strip_out hb] at h; exact h
theorem over_in (h : b ∈ C) : over C H0 H b = H0 b := if_pos h
theorem over_out (h : b ∉ C) : over C H0 H b = H b := if_neg h
def AllOb (C : List Addr) (H : Hp) : Prop := ∀ c ∈ C, ∃ o k, H c = some (Ob o k)
theorem AllOb.out (h : AllOb C H) (e : H b = some o) (n : ∀ ob k, o ≠ Ob ob k) : b ∉ C := fun hb => by
  obtain ⟨ob, k, z⟩ := h b hb
  rw [e] at z
  exact n ob k (Option.some.inj z)
theorem codeO_out {c : Addr} {q : Str} (ob : Obj) (k : Nat) : CodeO c q ≠ Ob ob k := fun z => by
  obtain ⟨φ, y⟩ := codeO_ne_lst z
  cases y
theorem strip_tabs {T : List (Addr × Str)} (h : AllOb C H) (t : Tabs T H) : Tabs T (strip C H) := by
  intro q hq
  obtain ⟨ps, h1, h2, h3⟩ := t q hq
  refine ⟨ps, by rw [strip_out (h.out h1 (by intro _ _ z; cases z))]; exact h1, h2, fun pos cv hc => ?_⟩
  obtain ⟨c, e1, e2⟩ := h3 pos cv hc
  exact ⟨c, e1, by rw [strip_out (h.out e2 codeO_out)]; exact e2⟩
theorem over_tabs {T : List (Addr × Str)} (hn : ∀ c ∈ C, H1 c = none) (t : Tabs T H1) : Tabs T (over C H0 H1) := by
  have out : ∀ {b o}, H1 b = some o → b ∉ C := fun {b o} e hb => by rw [hn b hb] at e; cases e
  intro q hq
  obtain ⟨ps, h1, h2, h3⟩ := t q hq
  refine ⟨ps, by rw [over_out (out h1)]; exact h1, h2, fun pos cv hc => ?_⟩
  obtain ⟨c, e1, e2⟩ := h3 pos cv hc
  exact ⟨c, e1, by rw [over_out (out e2)]; exact e2⟩
end
section
variable {P : Program} {w : World} {C : List Addr} {H H0 H1 : Hp} {h : Heap}
theorem hok_strip (ok : HOk P w H h) (hc : AllOb C H) : HOk P w (strip C H) h := fun b u e => by
  obtain ⟨_, e⟩ := strip_some e
  refine (ok b u e).stay (fun _ _ _ q => q) (fun x hx => ?_) fun x xs hx => ?_
  · rw [strip_out (hc.out hx (by intro _ _ z; cases z))]; exact hx
  · rw [strip_out (hc.out hx (by intro _ _ z; cases z))]; exact hx
theorem hok_over (ok : HOk P w H1 h) (h0 : ∀ c ∈ C, ∃ o k, H0 c = some (Ob o k) ∧ h.get? c = some o) (hn : ∀ c ∈ C, H1 c = none) : HOk P w (over C H0 H1) h := fun b u e => by
  have out : ∀ {b o}, H1 b = some o → b ∉ C := fun {b o} e hb => by rw [hn b hb] at e; cases e
  by_cases hb : b ∈ C
  · rw [over_in hb] at e
    obtain ⟨o, k, z1, z2⟩ := h0 b hb
    rw [z1] at e
    cases e
    exact ⟨z2, _, z2⟩
  · rw [over_out hb] at e
    refine (ok b u e).stay (fun _ _ _ q => q) (fun x hx => ?_) fun x xs hx => ?_
    · rw [over_out (out hx)]; exact hx
    · rw [over_out (out hx)]; exact hx
end

/-! ### data without lambdas but plain ones -/
mutual
def lv (k0 : Nat → Bool) : D → Bool
  | .clo k l => k0 k && l.isEmpty
  | .exc _ _ => false
  | .tup l => lvs k0 l
  | .lst l => lvs k0 l
  | .kst l => lvs k0 l
  | _ => true
def lvs (k0 : Nat → Bool) : List D → Bool
  | [] => true
  | d :: r => lv k0 d && lvs k0 r
end
/-- what is taken out is no data -/
structure NoDat (C : List Addr) (F : Hp) (k0 : Nat → Bool) : Prop where
  l : ∀ c ∈ C, ∀ xs, ¬ Rd F c (.lst xs)
  t : ∀ c ∈ C, ∀ xs, ¬ Rd F c (.tup xs)
  f : ∀ c ∈ C, ∀ o k, k0 k = true → F c ≠ some (Ob o (k + 1))
  c : ∀ c ∈ C, ∀ k q, k0 k = true → F c ≠ some (CodeO c q)
theorem NoDat.ob {C : List Addr} {F : Hp} {k0 : Nat → Bool} (h : ∀ c ∈ C, ∃ o j, F c = some (Ob o j) ∧ ∀ k, k0 k = true → j ≠ k + 1) : NoDat C F k0 := by
  refine ⟨fun c hc xs z => ?_, fun c hc xs z => ?_, fun c hc o k hk z => ?_, fun c hc k q hk z => ?_⟩
  · obtain ⟨o, j, e, _⟩ := h c hc
    rcases z with z | ⟨_, z⟩ <;> (rw [e] at z; cases z)
  · obtain ⟨o, j, e, _⟩ := h c hc
    rcases z with z | ⟨_, z⟩ <;> (rw [e] at z; cases z)
  · obtain ⟨o', j, e, n⟩ := h c hc
    rw [e] at z
    injection z with z
    injection z with z1 z2
    injection z2 with z3
    exact n k hk z3
  · obtain ⟨o', j, e, _⟩ := h c hc
    rw [e] at z
    exact codeO_out _ _ (Option.some.inj z).symm
section
variable {K : PySem.W.Frag} {mg : Str → Option Value} {L : Nat → Option LamD} {T : List (Addr × Str)} {p : Option Addr} {F : Hp} {C : List Addr} {k0 : Nat → Bool}
theorem rd_strip {a : Addr} {u : HO} (h : Rd F a u) (n : a ∉ C) : Rd (strip C F) a u := by
  unfold Rd at h ⊢
  rw [strip_out n]; exact h
mutual
theorem Rep.strip (hC : NoDat C F k0) : ∀ {v : V} {d : D}, Rep (GL K mg L T) p F v d → lv k0 d = true → Rep (GL K mg L T) p (strip C F) v d
  | _, _, .non, _ => .non
  | _, _, .bl b, _ => .bl b
  | _, _, .int i, _ => .int i
  | _, _, .str s, _ => .str s
  | _, _, .tup h r, q => .tup (by
      rcases h with h | h
      · exact .inl (rd_strip h fun hm => hC.t _ hm _ h)
      · exact .inr h) (Reps.strip hC r q)
  | _, _, .lst h r, q => .lst (rd_strip h fun hm => hC.l _ hm _ h) (Reps.strip hC r q)
  | _, _, .kst h r, q => .kst (by
      rcases h with h | h
      · exact .inl (rd_strip h fun hm => hC.l _ hm _ h)
      · exact .inr h) (Reps.strip hC r q)
  | _, _, .pile h, _ => .pile h
  | _, _, .exc _ _ _, q => by cases q
  | _, _, .clo (k := k) (l := l) h r, q => by
    have q' : (k0 k && l.isEmpty) = true := q
    rw [Bool.and_eq_true, List.isEmpty_iff] at q'
    obtain ⟨q1, q2⟩ := q'
    subst q2
    cases r
    obtain ⟨d, cl, c', pm, ctv, z⟩ := h
    have fr0 : d.fr = [] := List.length_eq_zero_iff.mp z.len.symm
    exact .clo ⟨d, cl, c', pm, ctv, z.lam, by rw [strip_out fun hm => hC.f _ hm _ _ q1 z.fn]; exact z.fn, by rw [strip_out fun hm => hC.c _ hm _ _ q1 z.code]; exact z.code, z.len, z.all, z.inj, fun i y v h1 _ => by rw [fr0] at h1; simp at h1⟩ .nil
  | _, _, .ty n, _ => .ty n
  | _, _, .cls h, _ => .cls h
theorem Reps.strip (hC : NoDat C F k0) : ∀ {vs : List V} {ds : List D}, Reps (GL K mg L T) p F vs ds → lvs k0 ds = true → Reps (GL K mg L T) p (strip C F) vs ds
  | _, _, .nil, _ => .nil
  | _, _, .cons (d := d) (ds := ds) r t, q => by
    have q' : (lv k0 d && lvs k0 ds) = true := q
    rw [Bool.and_eq_true] at q'
    exact .cons (Rep.strip hC r q'.1) (Reps.strip hC t q'.2)
end
end
end Pd

/-! Pf, part B: what a lambda promises, shown by its body; a local name that holds one, called. -/
namespace Pd
open PySem PySem.Spec PyProof.Rows L2 LamX NdefX

/-- what the lambdas promise to those who call them: app i l is the lambda number i, that captured l -/
structure CloOk (P : Program) (w : World) (K : PySem.W.Frag) (mg : Str → Option Value) (base : Heap) (g : Gl) (k : Nat) (app : Nat → List D → FM) : Prop where
  run : ∀ (A : Around) (out : List Env) (sh : Shared) (H : Hp) (us : List Value) (vs : List V) (Q : VK) (E : XK) (p : Option Addr) (F : Hp) (a : Addr) (i : Nat) (cv : List V) (l ds : List D) (n : Int), RoomG k A → Env0 P w K mg base A out sh H → Vals vs us →
    g.CL F a i cv → Reps g p F cv l → Reps g p F vs ds → Ext F H → PileOk p n F H → g.T H → PostF g p F H Q E (app i l ds n) → codeAny (model P w) A (.call (.ref a) ⟨us, []⟩) (CR (L2.CX P w) out P w H sh Q E) sh
theorem CloOk.mono {P : Program} {w : World} {K : PySem.W.Frag} {mg : Str → Option Value} {base : Heap} {g : Gl} {j k : Nat} {app : Nat → List D → FM} (c : CloOk P w K mg base g j app) (h : j ≤ k) : CloOk P w K mg base g k app :=
  ⟨fun A out sh H us vs Q E p F a i cv l ds n r => c.run A out sh H us vs Q E p F a i cv l ds n (r.mono h)⟩
/-- a lambda's meaning: np parameters, nf captured names -/
def appL (k0 : Nat → Bool) (np nf : Nat) (m : EM) (l : List D) : FM := fun ds n =>
  if (ds.length = np ∧ l.length = nf) ∧ (lvs k0 ds = true ∧ lvs k0 l = true) then (match m ⟨ds.map SV.val ++ l.map SV.val, n⟩ with
    | .ok d s => .ok (.val d) s.pile
    | _ => .stuck) else .stuck
abbrev nfO (d : LamD) (cl : List (Str × Addr)) (c' : Addr) : NF := ⟨"<lambda>", d.qual, d.params, [], d.scope, cl, c'⟩
section
variable {P : Program} {w : World} {K : PySem.W.Frag} {mg : Str → Option Value} {base : Heap} {L : Nat → Option LamD} {T : List (Addr × Str)} {k i : Nat} {d : LamD} {k0 : Nat → Bool} {m : EM}
theorem sl_vals {g : Gl} {p : Option Addr} {H0 F H : Hp} {vs cv : List V} {ds l : List D} (r : Reps g p F vs ds) (q : Reps g p F cv l) : Sl g p H0 F H [] (ds.map SV.val ++ l.map SV.val) (vs.map some ++ (cv.map some ++ [])) := by
  have h := sl_start (H0 := H0) (H := H) 0 (r.append q)
  simpa using h
theorem fm_mem {fr : List Str} {cl : List (Str × Addr)} {c : Addr} : c ∈ fr.filterMap (fun y => cl.lookup y) ↔ ∃ y ∈ fr, cl.lookup y = some c := List.mem_filterMap
theorem noCX {out : List Env} {H : Hp} {sh s' : Shared} {e : Value} (z : L2.CX P w out H sh (fun _ _ _ => False) e s') : False := by
  obtain ⟨_, _, _, _, _, _, _, _, _, _, _, _, y⟩ := z
  exact y
/-- THE RULE of a lambda: by its body -/
theorem clo_run (hL : L i = some d) (S : NScope (d.ps ++ d.fr) d.ps d.fr d.scope) (hk : k0 i = false)
    (hb : ∀ (cl : List (Str × Addr)) (pm cv ctv : Value) (us : List Value), us.length = d.ps.length → bindArgs (PySem.W.kla_fn "<lambda>" d.qual d.params d.body d.scope cl pm cv ctv) ⟨us, []⟩ = pure (d.ps.zip us))
    (hbody : ∀ (A : Around) (out : List Env) (sh : Shared) (H : Hp) (E : XK) (cl : List (Str × Addr)) (a c' : Addr), RoomG k (A.deeper (envF (nfO d cl c') a sh.heap.objs.size)) →
      DE (GL K mg L T) (ncx (L2.CX P w) P w K mg base (d.ps ++ d.fr) (nfO d cl c') a A out sh H E) WF d.body m)
    {A : Around} {out : List Env} {sh : Shared} {H : Hp} {us : List Value} {vs : List V} {Q : VK} {E : XK} {p : Option Addr} {F : Hp} {a : Addr} {cv : List V} {l ds : List D} {n : Int} (room : RoomG (k + 1) A) (env0 : Env0 P w K mg base A out sh H) (rv : Vals vs us)
    (hcl : CLof L F a i cv) (rl : Reps (GL K mg L T) p F cv l) (rd : Reps (GL K mg L T) p F vs ds) (ext : Ext F H) (pl : PileOk p n F H) (tb : Tabs T H) (hp : PostF (GL K mg L T) p F H Q E (appL k0 d.ps.length d.fr.length m l ds n)) :
    codeAny (model P w) A (.call (.ref a) ⟨us, []⟩) (CR (L2.CX P w) out P w H sh Q E) sh := by
  obtain ⟨d1, cl, c', pm, ctv, Z⟩ := hcl
  obtain rfl : d1 = d := by have := Z.lam; rw [hL] at this; exact (Option.some.inj this).symm
  unfold appL at hp
  by_cases hc : (ds.length = d1.ps.length ∧ l.length = d1.fr.length) ∧ (lvs k0 ds = true ∧ lvs k0 l = true)
  · rw [if_pos hc] at hp
    obtain ⟨⟨n1, n2⟩, q1, q2⟩ := hc
    have nv : vs.length = d1.ps.length := by rw [rd.length]; exact n1
    have ncv : cv.length = d1.fr.length := by rw [rl.length]; exact n2
    -- what is taken out: the lambda, its cells
    let C : List Addr := a :: d1.fr.filterMap fun y => cl.lookup y
    have cell : ∀ y c, cl.lookup y = some c → ∃ o u, F c = some (Ob o 0) ∧ o.data = .cell (some u) ∧ c ∈ C := fun y c e => by
      have hy := Z.all y c e
      obtain ⟨j, hj⟩ := List.mem_iff_getElem?.mp hy
      have lj : j < cv.length := by
        have := (List.getElem?_eq_some_iff.mp hj).1
        omega
      obtain ⟨c1, o, u, k1, k2, k3, _⟩ := Z.has j y cv[j] hj (List.getElem?_eq_getElem lj)
      rw [e] at k1
      cases k1
      exact ⟨o, u, k2, k3, List.mem_cons_of_mem _ (fm_mem.mpr ⟨y, hy, e⟩)⟩
    have inC : ∀ c ∈ C, ∃ o j, F c = some (Ob o j) ∧ ∀ k, k0 k = true → j ≠ k + 1 := fun c hc => by
      rcases List.mem_cons.mp hc with rfl | hc
      · exact ⟨_, _, Z.fn, fun k hk0 z => by
          have : i = k := by omega
          rw [← this, hk] at hk0
          cases hk0⟩
      · obtain ⟨y, _, e⟩ := fm_mem.mp hc
        obtain ⟨o, u, k2, _, _⟩ := cell y c e
        exact ⟨o, 0, k2, fun k _ z => by omega⟩
    have obF : AllOb C F := fun c hc => let ⟨o, j, e, _⟩ := inC c hc; ⟨o, j, e⟩
    have obH : AllOb C H := fun c hc => let ⟨o, j, e⟩ := obF c hc; ⟨o, j, ext _ _ e⟩
    have nd := NoDat.ob inC
    have at_ : ∀ c ∈ C, ∃ o k, H c = some (Ob o k) ∧ sh.heap.get? c = some o := fun c hc => by
      obtain ⟨o, j, e⟩ := obH c hc
      exact ⟨o, j, e, (env0.hok c _ e).1⟩
    have lim : sh.heap.NoLimit := env0.mod.nolimit.keeps fun b o q => (env0.bs b o q).1
    have e1 : Env0 P w K mg base A out sh (strip C H) := ⟨env0.frames, env0.mod, fun b o q => ⟨(env0.bs b o q).1, by
        unfold strip
        split
        · rfl
        · exact (env0.bs b o q).2⟩, env0.bsz, env0.funs, fun b hb => by
        unfold strip
        split
        · rfl
        · exact env0.frf b hb, hok_strip env0.hok obH, env0.bare⟩
    have fo : sh.heap.get? a = some (lamO d1 cl pm c' ctv) := (env0.hok a _ (ext _ _ Z.fn)).1
    refine PySem.W.kla_callFunE room.rm.depth fo rfl S.co S.gen rfl (codeO_at env0.hok (ext _ _ Z.code)) ?_
    have nu : us.length = d1.ps.length := by rw [← rv.length]; exact nv
    have hb1 := hb cl pm (.ref c') ctv us nu
    have hb2 : bindArgs (PySem.W.kla_fn "<lambda>" d1.qual d1.params d1.body d1.scope cl pm (.ref c') ctv) ⟨us, []⟩ = pure (d1.ps.zip us) := hb1
    rw [hb2]
    refine wpAny_pure (wpAny_newFunctionEnv S.nocell (fun ⟨x, _⟩ hy => S.par x (List.of_mem_zip hy).1) (fun h1 hns hsb => ⟨lim.fresh _ hsb, ?_⟩) S.kind)
    show codeAny _ _ (.expr d1.body (envF (nfO d1 cl c') a sh.heap.objs.size)) _ _
    have kp : ∀ b o, sh.heap.get? b = some o → h1.get? b = some o := fun b o e => hsb.extBut b o (Nat.ne_of_lt (Heap.lt_size e)) (Heap.get?_push_of_some _ e)
    have ca : CellsAt (nfO d1 cl c').cl d1.fr (cv.map some) sh.heap (strip C H) := by
      refine ⟨by rw [List.length_map]; exact ncv, fun y c e => ?_, Z.inj, fun j y hj => ?_⟩
      · obtain ⟨o, u, k2, k3, k4⟩ := cell y c e
        exact ⟨strip_in k4, _, o, (env0.hok c _ (ext _ _ k2)).1, k3⟩
      · have lj : j < cv.length := by
          have := (List.getElem?_eq_some_iff.mp hj).1
          omega
        obtain ⟨c, o, u, k1, k2, k3, k4⟩ := Z.has j y cv[j] hj (List.getElem?_eq_getElem lj)
        refine ⟨c, k1, fun v hv => ?_⟩
        rw [List.getElem?_map, List.getElem?_eq_getElem lj] at hv
        cases hv
        exact ⟨u, k4, o, (env0.hok c _ (ext _ _ k2)).1, k3⟩
    have inv : Inv (ncx (L2.CX P w) P w K mg base (d1.ps ++ d1.fr) (nfO d1 cl c') a A out sh (strip C H) fun _ _ _ => False) [] (startF (d1.ps ++ d1.fr) vs (cv.map some)) (strip C H) { sh with heap := h1, toks := sh.toks + (d1.ps.zip us).length } :=
      inv_startN S room.rm.hd e1 nv rv ca hns kp
    obtain ⟨t, a1, a2⟩ := hbody A out sh (strip C H) (fun _ _ _ => False) cl a c' (room.deeper _)
    have est : startF (d1.ps ++ d1.fr) vs (cv.map some) = vs.map some ++ (cv.map some ++ []) := by
      unfold startF
      have : (d1.ps ++ d1.fr).length - vs.length - (cv.map some).length = 0 := by rw [List.length_append, List.length_map]; omega
      rw [this]; rfl
    have Y : Rel (GL K mg L T) p (strip C H) (strip C F) [] (strip C F) ⟨ds.map SV.val ++ l.map SV.val, n⟩ (startF (d1.ps ++ d1.fr) vs (cv.map some)) (strip C H) := by
      refine ⟨fun b o q => ?_, Ext.refl _, fun b o q => .inl q, fun b o q _ _ => q, fun b q => q, ⟨fun b e => ?_, fun b ps q => ?_⟩, strip_tabs obH tb, ?_⟩
      · obtain ⟨z1, z2⟩ := strip_some q
        rw [strip_out z1]; exact ext b o z2
      · obtain ⟨z1, z2⟩ := pl.1 b e
        refine ⟨?_, ?_⟩
        · unfold strip
          split
          · rfl
          · exact z1
        · rw [strip_out (obH.out z2 (by intro _ _ z; cases z))]; exact z2
      · exact pl.2 b ps (strip_some q).2
      · rw [est]
        exact sl_vals (Reps.strip nd rd q1) (Reps.strip nd rl q2)
    let Q1 : VK := fun v H1 => (∀ c ∈ C, H1 c = none) → Q v (over C H H1)
    have hpost : Post (GL K mg L T) WF (RepV (GL K mg L T)) p (strip C H) (strip C F) (strip C F) (startF (d1.ps ++ d1.fr) vs (cv.map some)) Q1 (m ⟨ds.map SV.val ++ l.map SV.val, n⟩) := by
      generalize hm : m ⟨ds.map SV.val ++ l.map SV.val, n⟩ = rs at hp
      cases rs with
      | stuck => exact hp.elim
      | exc c x s => exact hp.elim
      | ok dd s1 =>
        have hp1 : ∀ v F' H', Gr (GL K mg L T) p F H F' H' → PileOk p s1.pile F' H' → Rep (GL K mg L T) p F' v dd → Q v H' := hp
        intro v F' H' A' Y' e' r' hn
        have nF : ∀ c ∈ C, F' c = none := fun c hc => by
          cases q : F' c with
          | none => rfl
          | some o => have := Y'.ext c o q; rw [hn c hc] at this; cases this
        refine hp1 v (over C F F') (over C H H') ⟨fun b o q np no => ?_, fun b q => ?_, fun b o q => ?_, fun b o q => ?_, fun b o q => ?_, over_tabs hn Y'.tb, fun b ps q => ?_⟩ ⟨fun b e => ?_, fun b ps q => ?_⟩ (r'.mono fun b o q => ?_)
        · by_cases hb : b ∈ C
          · rw [over_in hb]; exact q
          · rw [over_out hb]; exact Y'.evo b o (by rw [strip_out hb]; exact q) np no
        · by_cases hb : b ∈ C
          · rw [over_in hb] at q; exact q
          · rw [over_out hb] at q; exact strip_none (Y'.al b q) hb
        · by_cases hb : b ∈ C
          · rw [over_in hb]; exact q
          · rw [over_out hb]; exact Y'.ef0 b o (by rw [strip_out hb]; exact q)
        · by_cases hb : b ∈ C
          · rw [over_in hb] at q; exact .inl q
          · rw [over_out hb] at q
            rcases Y'.fr b o q with z | z
            · exact .inl (strip_some z).2
            · exact .inr (strip_none z hb)
        · by_cases hb : b ∈ C
          · rw [over_in hb] at q ⊢; exact ext b o q
          · rw [over_out hb] at q ⊢; exact Y'.ext b o q
        · by_cases hb : b ∈ C
          · rw [over_in hb] at q; exact q
          · rw [over_out hb] at q; exact absurd q (Y'.pl.2 b ps)
        · obtain ⟨z1, z2⟩ := pl.1 b e
          have hb : b ∉ C := obH.out z2 (by intro _ _ z; cases z)
          rw [over_out hb, over_out hb]
          exact Y'.pl.1 b e
        · by_cases hb : b ∈ C
          · rw [over_in hb] at q; exact pl.2 b ps q
          · rw [over_out hb] at q; exact Y'.pl.2 b ps q
        · by_cases hb : b ∈ C
          · rw [nF b hb] at q; cases q
          · rw [over_out hb]; exact q
    have hq := a2 p (strip C H) (strip C F) [] (strip C F) _ _ (strip C H) Q1 Y hpost
    refine PySem.W.kla_codeExpr (wpAny_mono (a1.run [] _ _ _ Q1 inv hq) (fun u s' got => ?_) fun e s' got => wpAny_mono got (fun _ s2 z => (noCX z).elim) fun _ s2 z => (noCX z).elim)
    obtain ⟨v, H1, J, ru, q⟩ := got
    have jb : Un (frs out) [] (strip C H) H1 sh.heap s'.heap := J.base
    have hn : ∀ c ∈ C, H1 c = none := fun c hc => by
      obtain ⟨o, _, _, z⟩ := at_ c hc
      exact jb.free c o z (strip_in hc) (by simp)
    have nfr : ∀ c ∈ C, c ∉ frs out := fun c hc z => by
      obtain ⟨o, k, e, _⟩ := at_ c hc
      rw [env0.frf c z] at e; cases e
    have still : ∀ c ∈ C, ∃ o k, H c = some (Ob o k) ∧ s'.heap.get? c = some o := fun c hc => by
      obtain ⟨o, k, e, z⟩ := at_ c hc
      exact ⟨o, k, e, jb.keep c o z (strip_in hc) (nfr c hc) (by simp)⟩
    have so : ∀ {b : Addr}, b ∉ C → ∀ {x : Option HO}, H b = x → strip C H b = x := fun {b} hb {x} e => by rw [strip_out hb]; exact e
    have noC : ∀ {b : Addr}, H b = none → b ∉ C := fun {b} e hb => by
      obtain ⟨o, k, z⟩ := obH _ hb
      rw [e] at z; cases z
    refine ⟨v, over C H H1, J.os, J.bare, ⟨fun b o g0 n0 nf nx => jb.keep b o g0 (so (noC n0) n0) nf nx, fun b o g0 n0 nf nx => jb.slot b o g0 (so (noC n0) n0) nf nx, fun b o g0 n0 nx => ?_, jb.there, fun b xs e => ?_, fun b o x e => ?_, fun b ps e => ?_⟩, hok_over J.hok still hn, ru, q hn⟩
    · rw [over_out (noC n0)]; exact jb.free b o g0 (so (noC n0) n0) nx
    · have hb : b ∉ C := obH.out e (by intro _ _ z; cases z)
      rw [over_out hb]; exact jb.tups b xs (so hb e)
    · by_cases hb : b ∈ C
      · rw [over_in hb]; exact e
      · rw [over_out hb]; exact jb.frzs b o x (so hb e)
    · have hb : b ∉ C := obH.out e (by intro _ _ z; cases z)
      rw [over_out hb]; exact jb.tbls b ps (so hb e)
  · rw [if_neg hc] at hp
    exact hp.elim
end
end Pd

/-! Pf, part C: a name that holds a lambda, called; a lambda made. -/
namespace Pd
open PySem PySem.Spec PyProof.Rows L2 LamX NdefX

/-! ### a call of a name that holds a lambda -/
def oCallV (app : Nat → List D → FM) (i : Nat) (m : AM) : OM := fun s => match s.sl[i]? with
  | some (.val (.clo k l)) => (m s).bind fun ds s1 => callR (app k l) ds s1
  | _ => .stuck
def IsFn (o : Obj) : Prop := ∃ d cl pm c' ctv, o = lamO d cl pm c' ctv
/-- what the call asks -/
def tCallV (g : Gl) (app : Nat → List D → FM) (i : Nat) (E : L2.St → XK) (t : TA) : TE := fun σ H Q => ∃ a o k, σ[i]? = some (some (.ref a)) ∧ H a = some (Ob o k) ∧ IsFn o ∧
  t σ H fun vs H1 => H1 a = some (Ob o k) ∧ ∃ p F j cv l ds n, g.CL F a j cv ∧ Reps g p F cv l ∧ Reps g p F vs ds ∧ Ext F H1 ∧ PileOk p n F H1 ∧ g.T H1 ∧ PostF g p F H1 Q (E σ) (app j l ds n)
section
variable {g : Gl} {X : Cx} {W : WX} {k i : Nat} {app : Nat → List D → FM} {x : Str} {p' pos : Pos} {e : Expr} {es : List Expr} {t : TA} {m : AM} {E : L2.St → XK}
theorem pe_callV (C : CloOk X.prog X.w X.K X.mg X.base g k app) (hr : RoomG k X.A) (hN : X.N[i]? = some x) (hv : Vis X.env.scope x) (px : ∀ σ, PassesAt (L2.CX X.prog X.w) X σ (E σ)) (ha : PA X (e :: es) t)
    (hd : (x == ("__debug__" : Str)) = false := by decide) (hcd : (x == ("__classdict__" : Str)) = false := by decide)
    (he : starEach (e :: es) X.env = (false, eval e X.env) :: starEach es X.env := by rfl) (hpl : (backTo pos (starEach es X.env)).any (·.1) = false := by rfl) :
    PE X (.Call (.Name x p') (e :: es) [] pos) (tCallV g app i E t) := by
  refine ⟨fun pins s σ H Q I h => ?_⟩
  obtain ⟨a, o, kk, hs, hf, ⟨d0, cl0, pm0, c0, ctv0, rfl⟩, ht⟩ := h
  refine wpAny_Call_Name_kw (thn ((pe_var (pos := p') hN hv hd hcd).run pins s σ H (fun v H1 => v = .ref a ∧ H1 = H) I ⟨.ref a, hs, rfl, rfl⟩) ?_)
  rintro u s1 ⟨v, H1, I1, r1, rfl, rfl⟩
  cases (show u = Value.ref a from r1)
  have at1 : PySem.W.FnAt a s1.heap := ⟨_, _, _, _, (I1.hok a _ hf).1⟩
  refine PySem.W.callWith_F (first := []) at1 (thn (ha.run pos pins s1 σ _ _ I1 ht) ?_) he hpl
  rintro us s2 ⟨vs, H2, I2, rv, h1, p, F, j, cv, l, ds, n, k1, k2, k3, k4, k5, k6, k7⟩
  refine ⟨⟨_, _, _, _, (I2.hok a _ h1).1⟩, ?_⟩
  show wpAny _ _ (call (.ref a) us) _ _ _
  refine wpAny_call (codeAny_mono (C.run X.A X.stack s2 H2 us vs Q (E σ) p F a j cv l ds n hr I2.env0 rv k1 k2 k3 k4 k5 k6 k7) fun r s' got => ?_)
  match r, got with
  | .error z, got => exact px σ pins H2 s2 z s' I2 got
  | .ok (.ret u), got => exact I2.after got
theorem postF_call {p : Option Addr} {H0 F0 F : Hp} {A : List Addr} {s : S} {σ : L2.St} {H : Hp} {Q : VK} {ds : List D} {f : FM} (Y : Rel g p H0 F0 A F s σ H) (h : PostO g W p H0 F0 F σ Q (callR f ds s)) : PostF g p F H Q (WE W σ) (f ds s.pile) := by
  unfold callR at h
  cases q : f ds s.pile with
  | stuck => rw [q] at h; exact h
  | exc c x n =>
    rw [q] at h
    exact fun cls d F' H' G P z => h cls d F' H' A (Y.call G P) G.ff z
  | ok rv n =>
    rw [q] at h
    cases rv with
    | no => exact h
    | dct l => exact h
    | val d => exact fun v F' H' G P z => h v F' H' A (Y.call G P) G.ff z
    | own l =>
      intro a vs' F' H' G P z k1 k2 k3 k4
      obtain ⟨z1, z2, z3, z4⟩ := Y.fresh k3
      exact h a vs' F' H' A (Y.call G P) G.ff z k1 k2 z2 k4 z4
end
section
variable {X : Cx} {W : WX} {k i : Nat} {app : Nat → List D → FM} {x : Str} {p' pos : Pos} {e : Expr} {es : List Expr} {m : AM} {K : PySem.W.Frag} {mg : Str → Option Value} {L : Nat → Option LamD} {T : List (Addr × Str)}
theorem do_callV (C : CloOk X.prog X.w X.K X.mg X.base (GL K mg L T) k app) (hr : RoomG k X.A) (hN : X.N[i]? = some x) (hv : Vis X.env.scope x) (tk : Takes X W) (ha : DA (GL K mg L T) X W (e :: es) m)
    (hd : (x == ("__debug__" : Str)) = false := by decide) (hcd : (x == ("__classdict__" : Str)) = false := by decide)
    (he : starEach (e :: es) X.env = (false, eval e X.env) :: starEach es X.env := by rfl) (hpl : (backTo pos (starEach es X.env)).any (·.1) = false := by rfl) :
    DO (GL K mg L T) X W (.Call (.Name x p') (e :: es) [] pos) (oCallV app i m) := by
  obtain ⟨t, a1, a2⟩ := ha
  refine ⟨_, pe_callV C hr hN hv (fun σ => passAt tk σ) a1 hd hcd he hpl, fun p H0 F0 A F s σ H Q Y hp => ?_⟩
  unfold oCallV at hp
  split at hp
  · rename_i j l q
    obtain ⟨v, hv1, rv⟩ := Y.sl.getVal q
    cases rv with
    | clo hc rl =>
      rename_i a vs
      obtain ⟨d, cl, c', pm, ctv, Z⟩ := id hc
      refine ⟨a, _, _, hv1, Y.ext _ _ Z.fn, ⟨_, _, _, _, _, rfl⟩, ?_⟩
      refine a2 p H0 F0 A F s σ H _ Y (PostO.bind hp fun ds s1 vs1 F1 H1 A1 Y1 e1 r1 hp1 => ?_)
      exact ⟨Y1.ext _ _ (e1 _ _ Z.fn), p, F1, j, vs, l, ds, s1.pile, CLof.mono _ _ _ _ _ e1 hc, rl.mono e1, r1, Y1.ext, Y1.pl, Y1.tb, postF_call Y1 hp1⟩
  · exact hp.elim
end

/-! ### a lambda made -/
/-- the reading: a new function, tracked from then on -/
def tLam (X : Cx) (T : List (Addr × Str)) (d : LamD) (k : Nat) : TE := fun _ H Q => Tabs T H ∧ ∀ (a c' : Addr) (pm ctv : Value) (H1 : Hp), ExtN H H1 → (∀ b, H1 b = none → H b = none) → Tabs T H1 → H a = none →
  H1 a = some (Ob (lamO d (cloFrom X.env.cells d.scope.names []) pm c' ctv) (k + 1)) → H1 c' = some (CodeO c' d.qual) → Q (.ref a) H1
section
variable {X : Cx} {T : List (Addr × Str)} {d : LamD} {k : Nat} {c P : Addr} {pos : Pos}
theorem none_upd {H : Hp} {a b : Addr} {o : HO} (e : upd H a o b = none) : H b = none := by
  by_cases hb : b = a
  · subst hb; rw [upd_same] at e; cases e
  · rw [upd_ne hb] at e; exact e
theorem tabs_ext {H H' : Hp} (t : Tabs T H) (e : ∀ b o, H b = some o → H' b = some o) : Tabs T H' := Tabs.ext t e
theorem pe_lam (TB : TabB X.base X.mg c P) (hcode : X.env.code = .ref c) (hm : (P, d.qual) ∈ T) (hu : ∀ q ∈ T, q.1 = P → q.2 = d.qual) (hq : X.env.qual ++ "<lambda>" = d.qual) (hdef : defaultsOf d.params X.env = ([], []))
    (hfree : ∀ y ∈ d.scope.names, y.2 = .free → X.env.scope.names.lookup y.1 = some .cell ∨ X.env.scope.names.lookup y.1 = some .free) : PE X (.Lambda d.params d.body d.scope pos) (tLam X T d k) := by
  refine ⟨fun pins s σ H Q I h => ?_⟩
  obtain ⟨tabs, h⟩ := h
  obtain ⟨ps, hP, good, among⟩ := tabs _ hm
  have cells : ∀ y ∈ d.scope.names, y.2 = .free → ∃ c, X.env.cells.lookup y.1 = some c := fun y hy e => (hfree y hy e).elim (fun z => I.ok.has _ (.inl z)) fun z => I.ok.has _ (.inr z)
  refine PySem.W.kla_eval hdef ?_
  rw [hq]
  have built : s.heap.BuiltinsAt X.mg P := TB.bm.keeps I.bk
  have objP : s.heap.get? P = some { cls := .none, data := .fields ps } := I.hok P _ hP
  -- the function's object is laid and tracked
  have done : ∀ (c' : Addr) (ctv : Value) (hh : Heap) (tk : Nat) (H1 : Hp), Inv X pins σ H1 { s with heap := hh, toks := tk } → ExtN H H1 → (∀ b, H1 b = none → H b = none) → Tabs T H1 → H1 c' = some (CodeO c' d.qual) →
      EP X pins σ Q (.ref hh.objs.size) { s with heap := hh.push (lamO d (cloFrom X.env.cells d.scope.names []) ((X.mg "__name__").getD .none) c' ctv), toks := tk } := by
    intro c' ctv hh tk H1 J eN back T1 hc
    have new : H1 hh.objs.size = none := J.hok.fresh (Nat.le_refl _)
    have J2 := J.laid (t' := tk) (a := hh.objs.size) (o := Ob (lamO d (cloFrom X.env.cells d.scope.names []) ((X.mg "__name__").getD .none) c' ctv) (k + 1)) (h' := hh.push (lamO d (cloFrom X.env.cells d.scope.names []) ((X.mg "__name__").getD .none) c' ctv))
      (fun b u e => Heap.get?_push_of_some _ e) (Nat.le_refl _) ⟨Heap.get?_push_size _ rfl, _, Heap.get?_push_size _ rfl⟩
    have grows : ∀ b o, H1 b = some o → upd H1 hh.objs.size (Ob (lamO d (cloFrom X.env.cells d.scope.names []) ((X.mg "__name__").getD .none) c' ctv) (k + 1)) b = some o := fun b o e => by
      rw [upd_ne (ne_of_none e new)]; exact e
    refine ⟨.ref hh.objs.size, _, J2, rfl, h hh.objs.size c' _ ctv _ (fun b o e n => grows b o (eN b o e n)) (fun b e => back b (none_upd e)) (tabs_ext T1 grows) (back _ new) upd_same (grows _ _ hc)⟩
  cases look : codeAmong pos ps.toList with
  | some cv =>
    obtain ⟨c', rfl, hco⟩ := among pos cv look
    refine PySem.W.kla_makeFunctionHit (mg := X.mg) (c := c) (P := P) (ps := ps) (closure_ok cells) I.ok.glob (I.mod.glob.keeps I.bk) hcode (TB.code.keeps I.bk) objP good look built ?_
    intro ctv hh tk keeps _
    exact done c' ctv hh tk H (I.kept keeps) (ExtN.refl H) (fun _ e => e) tabs hco
  | none =>
    refine PySem.W.kla_makeFunction (mg := X.mg) (c := c) (P := P) (ps := ps) (closure_ok cells) I.ok.glob (I.mod.glob.keeps I.bk) hcode (TB.code.keeps I.bk) objP good look TB.gP built ?_
    rintro c' ctv hh tk hx hge hlt ⟨c2, oc, vs, t, e2, hoc, hd, hv⟩ htb
    cases e2
    have newC : H c' = none := I.hok.fresh hge
    have J := inv_table (t' := tk) (more := #[rawInt pos.line, rawInt pos.col, .ref c']) (h' := hh) I hP (fun b o hb e => hx b o hb e) htb hge ⟨oc, vs, t, hoc, hd, hv⟩
    have nP : c' ≠ P := fun z => by rw [z, hP] at newC; cases newC
    have stays : ExtN H (upd (upd H P (.tbl (ps ++ #[rawInt pos.line, rawInt pos.col, .ref c']))) c' (CodeO c' d.qual)) := by
      intro b o e n
      have hb : b ≠ P := fun z => by rw [z, hP] at e; exact n ps (Option.some.inj e).symm
      rw [upd_ne (ne_of_none e newC), upd_ne hb]; exact e
    have tabs1 : Tabs T (upd (upd H P (.tbl (ps ++ #[rawInt pos.line, rawInt pos.col, .ref c']))) c' (CodeO c' d.qual)) := by
      intro q hq2
      by_cases hb : q.1 = P
      · rw [hu q hq2 hb, hb]
        refine ⟨ps ++ #[rawInt pos.line, rawInt pos.col, .ref c'], by rw [upd_ne nP.symm, upd_same], ?_, fun p2 cv hcv => ?_⟩
        · rw [show (ps ++ #[rawInt pos.line, rawInt pos.col, Value.ref c']).toList = ps.toList ++ [rawInt pos.line, rawInt pos.col, Value.ref c'] by simp]
          exact PySem.TriplesOk_snoc _ _ _ _ good
        · rw [show (ps ++ #[rawInt pos.line, rawInt pos.col, Value.ref c']).toList = ps.toList ++ [rawInt pos.line, rawInt pos.col, Value.ref c'] by simp] at hcv
          rcases among_app _ good hcv with z | rfl
          · obtain ⟨c0, y1, y2⟩ := among p2 cv z
            exact ⟨c0, y1, stays _ _ y2 codeO_ne⟩
          · exact ⟨c', rfl, upd_same⟩
      · obtain ⟨ps2, y1, y2, y3⟩ := tabs q hq2
        refine ⟨ps2, by rw [upd_ne (ne_of_none y1 newC), upd_ne hb]; exact y1, y2, fun p2 cv hcv => ?_⟩
        obtain ⟨c0, w1, w2⟩ := y3 p2 cv hcv
        exact ⟨c0, w1, stays _ _ w2 codeO_ne⟩
    exact done c' ctv hh tk _ J stays (fun b e => none_upd (none_upd e)) tabs1 upd_same
end
end Pd

/-! Pf, part D: a def called with a lambda as its last argument. -/
namespace Pd
open PySem PySem.Spec PyProof.Rows L2 LamX NdefX

/-- arguments, the last one a lambda -/
def PostL (g : Gl) (X : Cx) (W : WX) (d : LamD) (k : Nat) (p : Option Addr) (H0 F0 F : Hp) (σ : L2.St) (Q : List V → Hp → Prop) : R (List D) → Prop
  | .ok ds s' => ∀ vs a c' pm ctv F' H' A', Rel g p H0 F0 A' F' s' σ H' → Ext F F' → Reps g p F' vs ds → H' a = some (Ob (lamO d (cloFrom X.env.cells d.scope.names []) pm c' ctv) (k + 1)) → H' c' = some (CodeO c' d.qual) → Q (vs ++ [.ref a]) H'
  | .exc c n s' => ∀ cls dd F' H' A', Rel g p H0 F0 A' F' s' σ H' → Ext F F' → ExcV g c n cls dd F' → W cls dd σ H'
  | .stuck => False
def DL (g : Gl) (X : Cx) (W : WX) (d : LamD) (k : Nat) (es : List Expr) (m : AM) : Prop := ∃ t, PA X es t ∧ ∀ (p : Option Addr) (H0 F0 : Hp) (A : List Addr) (F : Hp) (s : S) (σ : L2.St) (H : Hp) (Q : List V → Hp → Prop), Rel g p H0 F0 A F s σ H → PostL g X W d k p H0 F0 F σ Q (m s) → t σ H Q
section
variable {X : Cx} {W : WX} {K : PySem.W.Frag} {mg : Str → Option Value} {L : Nat → Option LamD} {T : List (Addr × Str)} {d : LamD} {k : Nat} {c P : Addr} {pos : Pos}
theorem dl_lam (TB : TabB X.base X.mg c P) (hcode : X.env.code = .ref c) (hm : (P, d.qual) ∈ T) (hu : ∀ q ∈ T, q.1 = P → q.2 = d.qual) (hq : X.env.qual ++ "<lambda>" = d.qual) (hdef : defaultsOf d.params X.env = ([], []))
    (hfree : ∀ y ∈ d.scope.names, y.2 = .free → X.env.scope.names.lookup y.1 = some .cell ∨ X.env.scope.names.lookup y.1 = some .free)
    (hs : starEach [.Lambda d.params d.body d.scope pos] X.env = (false, eval (.Lambda d.params d.body d.scope pos) X.env) :: starEach [] X.env := by rfl) :
    DL (GL K mg L T) X W d k [.Lambda d.params d.body d.scope pos] aNil := by
  refine ⟨_, pa_cons (pe_lam (T := T) (k := k) TB hcode hm hu hq hdef hfree) pa_nil hs, fun p H0 F0 A F s σ H Q Y hp => ?_⟩
  refine ⟨Y.tb, fun a c' pm ctv H1 eN back T1 h0 h1 h2 => ?_⟩
  have G : Gr (GL K mg L T) none F H F H1 := ⟨fun b o e _ n => eN b o e (fun ps z => by rw [z] at n; exact n), back, Ext.refl F, fun b o e => .inl e, fun b o e => eN b o (Y.ext b o e) (fun ps z => Y.pl.2 b ps (by rw [← z]; exact e)), T1, fun _ _ e => e⟩
  exact hp [] a c' pm ctv F H1 A (Y.grow G) (Ext.refl F) .nil h1 h2
theorem dl_cons {g : Gl} {e : Expr} {es : List Expr} {m : EM} {ms : AM} (h : DE g X W e m) (hr : DL g X W d k es ms) (hs : starEach (e :: es) X.env = (false, eval e X.env) :: starEach es X.env := by rfl) : DL g X W d k (e :: es) (aCons m ms) := by
  obtain ⟨t, a1, a2⟩ := h
  obtain ⟨u, b1, b2⟩ := hr
  refine ⟨_, pa_cons a1 b1 hs, fun p H0 F0 A F s σ H Q Y hp => ?_⟩
  have hp0 : PostL g X W d k p H0 F0 F σ Q ((m s).bind fun x s1 => (ms s1).bind fun xs s2 => .ok (x :: xs) s2) := hp
  refine a2 p H0 F0 A F s σ H _ Y ?_
  cases q : m s with
  | stuck => rw [q] at hp0; exact hp0
  | exc c n s1 => rw [q] at hp0; exact hp0
  | ok x s1 =>
    rw [q] at hp0
    intro v F1 H1 A1 Y1 e1 r1
    refine b2 p H0 F0 A1 F1 s1 σ H1 _ Y1 ?_
    have hp1 : PostL g X W d k p H0 F0 F σ Q ((ms s1).bind fun xs s2 => .ok (x :: xs) s2) := hp0
    cases q1 : ms s1 with
    | stuck => rw [q1] at hp1; exact hp1
    | exc c n s2 => rw [q1] at hp1; exact fun cls dd F2 H2 A2 Y2 e2 z => hp1 cls dd F2 H2 A2 Y2 (e1.trans e2) z
    | ok xs s2 =>
      rw [q1] at hp1
      exact fun vs a c' pm ctv F2 H2 A2 Y2 e2 r2 k1 k2 => hp1 (v :: vs) a c' pm ctv F2 H2 A2 Y2 (e1.trans e2) (.cons (r1.mono e2) r2) k1 k2
end

/-! ### what the names hold that it captures -/
def capsOf (sl : List SV) : List Nat → Option (List D)
  | [] => some []
  | j :: r => match sl[j]? with
    | some (.val d) => (capsOf sl r).map (d :: ·)
    | _ => none
theorem caps_rep {g : Gl} {p : Option Addr} {H0 F H : Hp} {A : List Addr} {sl : List SV} {σ : L2.St} (x : Sl g p H0 F H A sl σ) : ∀ {js : List Nat} {l : List D}, capsOf sl js = some l → ∃ cv : List V, Reps g p F cv l ∧ js.map (fun j => σ[j]?) = cv.map fun v => some (some v)
  | [], l, e => by cases e; exact ⟨[], .nil, rfl⟩
  | j :: r, l, e => by
    unfold capsOf at e
    split at e
    · rename_i d q
      obtain ⟨l1, e1, e2⟩ := Option.map_eq_some_iff.mp e
      subst e2
      obtain ⟨cv, r1, q1⟩ := caps_rep x e1
      obtain ⟨v, hv, rv⟩ := x.getVal q
      exact ⟨v :: cv, .cons rv r1, by rw [List.map_cons, List.map_cons, q1, hv]⟩
    · cases e
def oCallL (f : FM) (k : Nat) (js : List Nat) (m : AM) : OM := fun s => (m s).bind fun ds s1 => match capsOf s1.sl js with
  | some l => (match f (ds ++ [.clo k l]) s1.pile with
    | .ok (.val d) n => if lv (fun _ => false) d = true then .ok (.val d) { s1 with pile := n } else .stuck
    | _ => .stuck)
  | none => .stuck
/-- what the call asks -/
def tCallL (X : Cx) (g : Gl) (f : FM) (d : LamD) (k : Nat) (js : List Nat) (t : TA) : TE := fun σ H Q => t σ H fun vs H1 => ∃ us a c' pm ctv p F ds l cv n dd n', vs = us ++ [.ref a] ∧ H1 a = some (Ob (lamO d (cloFrom X.env.cells d.scope.names []) pm c' ctv) (k + 1)) ∧ H1 c' = some (CodeO c' d.qual) ∧
  js.map (fun j => σ[j]?) = cv.map (fun v => some (some v)) ∧ Reps g p F cv l ∧ Reps g p F us ds ∧ Ext F H1 ∧ PileOk p n F H1 ∧ g.T H1 ∧ f (ds ++ [.clo k l]) n = .ok (.val dd) n' ∧ lv (fun _ => false) dd = true ∧
  ∀ v F' H', Gr g p F H1 F' H' → PileOk p n' F' H' → Rep g p F' v dd → Q v H'
theorem filt_mem {F : Hp} {l : List Addr} {b : Addr} : b ∈ l.filter (fun b => (F b).isNone) ↔ b ∈ l ∧ F b = none := by
  rw [List.mem_filter, Option.isNone_iff_eq_none]
theorem Reps.snoc {g : Gl} {p : Option Addr} {F : Hp} {vs : List V} {ds : List D} {v : V} {d : D} (r : Reps g p F vs ds) (q : Rep g p F v d) : Reps g p F (vs ++ [v]) (ds ++ [d]) := r.append (.cons q .nil)
section
variable {X : Cx} {K : PySem.W.Frag} {mg : Str → Option Value} {L : Nat → Option LamD} {T : List (Addr × Str)} {d : LamD} {k kk : Nat} {fa : Addr} {fd : FuncData} {ps : List Str} {f : FM} {x : Str} {p' pos : Pos} {e : Expr} {es : List Expr} {t : TA} {js : List Nat}
theorem pe_callL (D : FnG X.prog X.w X.K X.mg X.base (L2.CX X.prog X.w) k fa fd ps (spF (GL K mg L T) f)) (room : RoomG k X.A) (hg : L2.Gl X x) (hm : X.mg x = some (.ref fa)) (keep : PySem.W.keepIn X.K (.ref fa) = true) (hb : Binds X.K fd ps [])
    (hL : L kk = some d) (hk0 : ∀ y ∈ d.fr, (y, NameKind.free) ∈ d.scope.names) (hk1 : ∀ y ∈ d.scope.names, y.2 = .free → y.1 ∈ d.fr) (hfree : ∀ y ∈ d.scope.names, y.2 = .free → X.env.scope.names.lookup y.1 = some .cell) (hjs : js.map (fun j => X.N[j]?) = d.fr.map some) (hfn : ∀ y, X.fn y = true)
    (ha : PA X (e :: es) t) (hdb : (x == ("__debug__" : Str)) = false := by decide) (he : starEach (e :: es) X.env = (false, eval e X.env) :: starEach es X.env := by rfl) (hpl : (backTo pos (starEach es X.env)).any (·.1) = false := by rfl) :
    PE X (.Call (.Name x p') (e :: es) [] pos) (tCallL X (GL K mg L T) f d kk js t) := by
  refine ⟨fun pins sh σ H Q I h => wpAny_Call_Name_kw (ld_glob I hg hm ?_ hdb)⟩
  refine PySem.W.callWith_K (h₀ := X.base) I.ok.mod.kin keep (thn (ha.run pos pins sh σ H _ I h) ?_) he hpl
  rintro us1 s1 ⟨vs, H1, J, rv, us, a, c', pm, ctv, p, F, ds, l, cv, n, dd, n', rfl, hA, hC', hcv, rl, rd, ext, pl, tb, hf, hdd, q⟩
  refine ⟨J.kIn, ?_⟩
  -- the captured cells
  have cells : ∀ y ∈ d.scope.names, y.2 = .free → ∃ c, X.env.cells.lookup y.1 = some c := fun y hy e => J.ok.has _ (.inl (hfree y hy e))
  let cl := cloFrom X.env.cells d.scope.names []
  let C : List Addr := d.fr.filterMap fun y => cl.lookup y
  have clX : ∀ {y c}, cl.lookup y = some c → X.env.cells.lookup y = some c := fun {y c} e => clo_cm cells e
  have clIn : ∀ {y c}, cl.lookup y = some c → y ∈ d.fr := fun {y c} e => by
    rcases cloFrom_mem (PySem.mem_of_lookup e) with hm | ⟨h1, _⟩
    · cases hm
    · exact hk1 _ h1 rfl
  have cell : ∀ c ∈ C, ∃ y, cl.lookup y = some c ∧ X.env.cells.lookup y = some c ∧ H1 c = none ∧ ∃ o, s1.heap.get? c = some o := fun c hc => by
    obtain ⟨y, _, e⟩ := fm_mem.mp hc
    obtain ⟨v, o, z, _⟩ := J.cell y c (clX e)
    exact ⟨y, e, clX e, J.freeC y c (clX e), o, z⟩
  have noC : ∀ {b : Addr} {o : HO}, H1 b = some o → b ∉ C := fun {b o} e hb => by
    obtain ⟨_, _, _, z, _⟩ := cell b hb
    rw [e] at z; cases z
  have holds : ∀ (i : Nat) (y : Str) (v : V), d.fr[i]? = some y → cv[i]? = some v → ∃ c o u, cl.lookup y = some c ∧ s1.heap.get? c = some o ∧ o.data = .cell (some u) ∧ RelV v u ∧ c ∈ C := fun i y v h1 h2 => by
    have hy : y ∈ d.fr := List.mem_of_getElem? h1
    have e1 : (js.map fun j => X.N[j]?)[i]? = some (some y) := by rw [hjs, List.getElem?_map, h1]; rfl
    have e2 : (js.map fun j => σ[j]?)[i]? = some (some (some v)) := by rw [hcv, List.getElem?_map, h2]; rfl
    rw [List.getElem?_map] at e1 e2
    cases ej : js[i]? with
    | none => rw [ej] at e1; cases e1
    | some j =>
      rw [ej] at e1 e2
      have hN : X.N[j]? = some y := Option.some.inj e1
      have hσ : σ[j]? = some (some v) := Option.some.inj e2
      have hk : X.env.scope.names.lookup y = some .cell := hfree (y, .free) (hk0 y hy) rfl
      obtain ⟨m, hns, hl⟩ := J.loc
      obtain ⟨u, r, z⟩ := hl j y v hN hσ (.inr (.inl hk))
      rcases z with ⟨z, _⟩ | ⟨_, c, hc, o, ho, hd⟩
      · have z' : X.env.scope.names.lookup y = some .local := z
        rw [hk] at z'; cases z'
      · have hcl : cl.lookup y = some c := clo_has cells (hk0 y hy) hc
        exact ⟨c, o, u, hcl, ho, hd, r, fm_mem.mpr ⟨y, hy, hcl⟩⟩
  -- the heap with the cells told
  let H2 : Hp := fun b => if b ∈ C then (s1.heap.get? b).map fun o => Ob o 0 else H1 b
  let F2 : Hp := fun b => if b ∈ C then (s1.heap.get? b).map fun o => Ob o 0 else if b = a ∨ b = c' then H1 b else F b
  have H2in : ∀ c ∈ C, ∃ o, H2 c = some (Ob o 0) ∧ s1.heap.get? c = some o := fun c hc => by
    obtain ⟨_, _, _, _, o, z⟩ := cell c hc
    exact ⟨o, by show (if c ∈ C then _ else _) = _; rw [if_pos hc, z]; rfl, z⟩
  have H2out : ∀ {b : Addr}, b ∉ C → H2 b = H1 b := fun {b} hb => if_neg hb
  have F2in : ∀ c ∈ C, F2 c = H2 c := fun c hc => by
    show (if c ∈ C then _ else _) = (if c ∈ C then _ else _)
    rw [if_pos hc, if_pos hc]
  have F2a : ∀ {b : Addr}, b = a ∨ b = c' → F2 b = H1 b := fun {b} hb => by
    have nb : b ∉ C := by
      rcases hb with rfl | rfl
      · exact noC hA
      · exact noC hC'
    show (if b ∈ C then _ else _) = _
    rw [if_neg nb, if_pos hb]
  have F2out : ∀ {b : Addr}, b ∉ C → ¬ (b = a ∨ b = c') → F2 b = F b := fun {b} h1 h2 => by
    show (if b ∈ C then _ else _) = _
    rw [if_neg h1, if_neg h2]
  have up : ∀ {b o}, H1 b = some o → H2 b = some o := fun {b o} e => by rw [H2out (noC e)]; exact e
  have eFF : Ext F F2 := fun b o e => by
    have e1 := ext b o e
    by_cases hb : b = a ∨ b = c'
    · rw [F2a hb]; exact e1
    · rw [F2out (noC e1) hb]; exact e
  have eFH : Ext F2 H2 := fun b o e => by
    by_cases hb : b ∈ C
    · rw [F2in b hb] at e; exact e
    · by_cases hb2 : b = a ∨ b = c'
      · rw [F2a hb2] at e; exact up e
      · rw [F2out hb hb2] at e; exact up (ext b o e)
  have hok2 : HOk X.prog X.w H2 s1.heap := fun b u e => by
    by_cases hb : b ∈ C
    · obtain ⟨o, z1, z2⟩ := H2in b hb
      rw [z1] at e; cases e
      exact ⟨z2, _, z2⟩
    · rw [H2out hb] at e
      exact (J.hok b u e).stay (fun _ _ _ q => q) (fun x hx => up hx) fun x xs hx => up hx
  have big : ∀ c ∈ C, X.s_0.heap.objs.size ≤ c := fun c hc => by
    obtain ⟨y, _, e, _⟩ := cell c hc
    exact J.ok.cab y c (hfn y) e
  have e0 := J.env0
  have nstk : ∀ b ∈ frs X.stack, b ∉ C := fun b hb hc => by
    obtain ⟨y, _, e, _⟩ := cell b hc
    rcases List.mem_cons.mp (J.stkSub b hb) with z | z
    · exact J.cne y b e z
    · obtain ⟨_, o, ho, _⟩ := J.ok.funs.mem z
      exact absurd (Nat.lt_of_lt_of_le (Heap.lt_size ho) (big b hc)) (Nat.lt_irrefl _)
  have env2 : Env0 X.prog X.w X.K X.mg X.base X.A X.stack s1 H2 := ⟨e0.frames, e0.mod, fun b o e => ⟨(e0.bs b o e).1, by
      have nb : b ∉ C := fun hc => by
        have h1 := Heap.lt_size (J.ok.bs b o e).1
        exact absurd (Nat.lt_of_lt_of_le h1 (big b hc)) (Nat.lt_irrefl _)
      rw [H2out nb]; exact (e0.bs b o e).2⟩, e0.bsz, e0.funs, fun b hb => by rw [H2out (nstk b hb)]; exact e0.frf b hb, hok2, e0.bare⟩
  have tabs2 : Tabs T H2 := tabs_ext tb fun b o e => up e
  have pl2 : PileOk p n F2 H2 := by
    refine ⟨fun b e => ?_, fun b pz e => ?_⟩
    · obtain ⟨z1, z2⟩ := pl.1 b e
      have nb : ¬ (b = a ∨ b = c') := by
        rintro (rfl | rfl)
        · rw [hA] at z2; cases z2
        · rw [hC'] at z2
          obtain ⟨φ, y⟩ := codeO_ne_lst (Option.some.inj z2)
          cases y
      exact ⟨by rw [F2out (noC z2) nb]; exact z1, up z2⟩
    · by_cases hb : b ∈ C
      · obtain ⟨o, z1, _⟩ := H2in b hb
        rw [F2in b hb, z1] at e; cases e
      · by_cases hb2 : b = a ∨ b = c'
        · rw [F2a hb2] at e
          rcases hb2 with rfl | rfl
          · rw [hA] at e; cases e
          · rw [hC'] at e
            obtain ⟨φ, y⟩ := codeO_ne_lst (Option.some.inj e)
            cases y
        · rw [F2out hb hb2] at e; exact pl.2 b pz e
  have clo : CLof L F2 a kk cv := by
    refine ⟨d, cl, c', pm, ctv, hL, by rw [F2a (.inl rfl)]; exact hA, by rw [F2a (.inr rfl)]; exact hC', ?_, fun y c e => clIn e, fun y z c e1 e2 => J.ok.inj y z c (clX e1) (clX e2), fun i y v h1 h2 => ?_⟩
    · have h1 := congrArg List.length hcv
      have h2 := congrArg List.length hjs
      simp only [List.length_map] at h1 h2
      omega
    · obtain ⟨c, o, u, k1, k2, k3, k4, k5⟩ := holds i y v h1 h2
      refine ⟨c, o, u, k1, ?_, k3, k4⟩
      obtain ⟨o2, z1, z2⟩ := H2in c k5
      rw [k2] at z2; cases z2
      rw [F2in c k5]; exact z1
  let Q2 : VK := fun v H3 => ∃ F3, Gr (GL K mg L T) p F2 H2 F3 H3 ∧ PileOk p n' F3 H3 ∧ Rep (GL K mg L T) p F3 v dd
  have prom : spF (GL K mg L T) f (us ++ [.ref a]) H2 Q2 (fun _ _ _ => False) := by
    refine ⟨p, F2, ds ++ [.clo kk l], n, Reps.snoc (rd.mono eFF) (.clo clo (rl.mono eFF)), eFH, pl2, tabs2, ?_⟩
    rw [hf]
    exact fun v F3 H3 G P3 r3 => ⟨F3, G, P3, r3⟩
  have n1 : us1.length = ps.length := by rw [← rv.length]; exact D.len _ _ _ _ prom
  have b1 := hb s1 us1 J.kIn (by rw [List.append_nil]; exact n1)
  rw [List.append_nil] at b1
  refine wpAny_call (codeAny_mono (D.run X.A X.stack s1 H2 ⟨us1, []⟩ us1 _ Q2 _ room env2 b1 rv prom) fun r s2 got => ?_)
  match r, got with
  | .error z, got => exact (noCX got).elim
  | .ok (.ret u), got =>
    obtain ⟨v, H3, os, bare, un, hok3, ru, F3, G, P3, r3⟩ := got
    have same : ∀ c ∈ C, ∃ o, H3 c = some (Ob o 0) ∧ s1.heap.get? c = some o ∧ s2.heap.get? c = some o := fun c hc => by
      obtain ⟨o, z1, z2⟩ := H2in c hc
      have z3 := un.frzs c o _ z1
      exact ⟨o, z3, z2, (hok3 c _ z3).1⟩
    have ob3 : AllOb C H3 := fun c hc => let ⟨o, z, _⟩ := same c hc; ⟨o, 0, z⟩
    let C2 : List Addr := C ++ [a, c'].filter fun b => (F b).isNone
    have ct : ∀ {b : Addr}, b ∈ C2 ↔ b ∈ C ∨ ((b = a ∨ b = c') ∧ F b = none) := fun {b} => by
      show b ∈ C ++ _ ↔ _
      rw [List.mem_append, filt_mem]
      simp
    have H3a : ∀ {b}, b = a ∨ b = c' → H3 b = H1 b := fun {b} hb => by
      rcases hb with rfl | rfl
      · rw [hA]; exact un.frzs _ _ _ (up hA)
      · rw [hC']; exact G.hh _ _ (up hC') (by
          rintro rfl
          obtain ⟨_, z2⟩ := pl.1 _ rfl
          rw [hC'] at z2
          obtain ⟨φ, y⟩ := codeO_ne_lst (Option.some.inj z2)
          cases y) (by rw [show CodeO b d.qual = HO.ext _ from rfl]; trivial)
    have J2 : Inv X pins σ (strip C H3) s2 := by
      refine J.call' (ch := []) os ⟨fun b o g0 n0 nf nx => ?_, fun b o g0 n0 nf nx => ?_, fun b o g0 n0 nx => ?_, un.there, fun b xs e => ?_, fun b o u e => ?_, fun b pz e => ?_⟩ (hok_strip hok3 ob3) bare (fun _ z => nomatch z)
      · by_cases hb : b ∈ C
        · obtain ⟨o2, _, z2, z3⟩ := same b hb
          rw [g0] at z2; cases z2
          exact z3
        · exact un.keep b o g0 (by rw [H2out hb]; exact n0) nf nx
      · exact un.slot b o g0 (by rw [H2out (nstk b nf)]; exact n0) nf nx
      · by_cases hb : b ∈ C
        · exact strip_in hb
        · rw [strip_out hb]; exact un.free b o g0 (by rw [H2out hb]; exact n0) nx
      · rw [strip_out (noC e)]; exact un.tups b xs (up e)
      · rw [strip_out (noC e)]; exact un.frzs b o u (up e)
      · rw [strip_out (noC e)]; exact un.tbls b pz (up e)
    have nt2 : ∀ b pz, F3 b ≠ some (.tbl pz) := P3.2
    have Gr2 : Gr (GL K mg L T) p F H1 (strip C2 F3) (strip C H3) := by
      refine ⟨fun b o e np no => ?_, fun b e => ?_, fun b o e => ?_, fun b o e => ?_, fun b o e => ?_, strip_tabs ob3 G.tb, fun b pz e => absurd (strip_some e).2 (nt2 b pz)⟩
      · rw [strip_out (noC e)]; exact G.hh b o (up e) np no
      · by_cases hb : b ∈ C
        · obtain ⟨_, _, _, z, _⟩ := cell b hb
          exact z
        · have := G.al b (strip_none e hb)
          rw [H2out hb] at this; exact this
      · have nb : b ∉ C2 := fun hb => by
          rcases ct.mp hb with z | ⟨_, z⟩
          · exact noC (ext b o e) z
          · rw [e] at z; cases z
        rw [strip_out nb]; exact G.ff b o (eFF b o e)
      · obtain ⟨nb, e⟩ := strip_some e
        have nbC : b ∉ C := fun z => nb (ct.mpr (.inl z))
        rcases G.nw b o e with z | z
        · by_cases hb : b = a ∨ b = c'
          · rw [F2a hb] at z
            cases q : F b with
            | none => exact absurd (ct.mpr (.inr ⟨hb, q⟩)) nb
            | some o2 =>
              have := ext b o2 q
              rw [z] at this
              exact .inl this.symm
          · rw [F2out nbC hb] at z; exact .inl z
        · rw [H2out nbC] at z; exact .inr z
      · obtain ⟨nb, e⟩ := strip_some e
        rw [strip_out fun z => nb (ct.mpr (.inl z))]; exact G.fh b o e
    have pile2 : PileOk p n' (strip C2 F3) (strip C H3) := by
      refine ⟨fun b e => ?_, fun b pz e => nt2 b pz (strip_some e).2⟩
      obtain ⟨z1, z2⟩ := P3.1 b e
      refine ⟨?_, by rw [strip_out (ob3.out z2 (by intro _ _ z; cases z))]; exact z2⟩
      unfold strip
      split
      · rfl
      · exact z1
    have nod : NoDat C2 F3 fun _ => false := by
      have inH : ∀ c ∈ C2, ∀ u, Rd F3 c u → (∃ o k, some (Ob o k) = H3 c ∧ (u = Ob o k ∨ u = .own k)) ∨ ∃ q, H3 c = some (CodeO c q) ∧ u = CodeO c q := by
        intro c hc u hu
        have kind : (∃ o k, H3 c = some (Ob o k)) ∨ ∃ q, H3 c = some (CodeO c q) := by
          rcases ct.mp hc with z | ⟨z, _⟩
          · obtain ⟨o, y, _⟩ := same c z
            exact .inl ⟨o, 0, y⟩
          · rw [H3a z]
            rcases z with rfl | rfl
            · exact .inl ⟨_, _, hA⟩
            · exact .inr ⟨_, hC'⟩
        rcases hu with hu | ⟨o2, hu⟩
        · have h3 := G.fh c _ hu
          rcases kind with ⟨o, k, y⟩ | ⟨q, y⟩
          · rw [h3] at y
            exact .inl ⟨o, k, (h3.trans y).symm, .inl (Option.some.inj y)⟩
          · rw [h3] at y
            exact .inr ⟨q, h3.trans y, Option.some.inj y⟩
        · have h3 := G.fh c _ hu
          rcases kind with ⟨o, k, y⟩ | ⟨q, y⟩
          · rw [h3] at y
            have y1 := Option.some.inj y
            injection y1 with y2 y3
            exact .inl ⟨o, k, (h3.trans y).symm, .inr y3⟩
          · rw [h3] at y
            exact absurd (Option.some.inj y).symm (by
              intro z
              obtain ⟨φ, w⟩ := codeO_ne_lst z
              cases w)
      refine ⟨fun c hc xs z => ?_, fun c hc xs z => ?_, fun _ _ _ _ h => (by cases h), fun _ _ _ _ h => (by cases h)⟩
      · rcases inH c hc _ z with ⟨o, k, _, y | y⟩ | ⟨q, _, y⟩
        · cases y
        · cases y
        · obtain ⟨φ, w⟩ := codeO_ne_lst y.symm
          cases w
      · rcases inH c hc _ z with ⟨o, k, _, y | y⟩ | ⟨q, _, y⟩
        · cases y
        · cases y
        · obtain ⟨φ, w⟩ := codeO_ne_lst y.symm
          cases w
    exact ⟨v, strip C H3, J2, ru, q v _ _ Gr2 pile2 (Rep.strip nod r3 hdd)⟩
theorem do_callL {W : WX} {m : AM} (C : Cal X.prog X.w X.K X.mg X.base (GL K mg L T) k x f) (hr : RoomG k X.A) (hg : L2.Gl X x) (hL : L kk = some d) (hk0 : ∀ y ∈ d.fr, (y, NameKind.free) ∈ d.scope.names) (hk1 : ∀ y ∈ d.scope.names, y.2 = .free → y.1 ∈ d.fr)
    (hfree : ∀ y ∈ d.scope.names, y.2 = .free → X.env.scope.names.lookup y.1 = some .cell) (hjs : js.map (fun j => X.N[j]?) = d.fr.map some) (hfn : ∀ y, X.fn y = true) (ha : DL (GL K mg L T) X W d kk (e :: es) m)
    (hdb : (x == ("__debug__" : Str)) = false := by decide) (he : starEach (e :: es) X.env = (false, eval e X.env) :: starEach es X.env := by rfl) (hpl : (backTo pos (starEach es X.env)).any (·.1) = false := by rfl) :
    DO (GL K mg L T) X W (.Call (.Name x p') (e :: es) [] pos) (oCallL f kk js m) := by
  obtain ⟨fa, fd, ps, F, gm, kp, b⟩ := C.ex
  obtain ⟨t, a1, a2⟩ := ha
  refine ⟨_, pe_callL F hr hg gm kp b hL hk0 hk1 hfree hjs hfn a1 hdb he hpl, fun p H0 F0 A F s σ H Q Y hp => ?_⟩
  refine a2 p H0 F0 A F s σ H _ Y ?_
  unfold oCallL at hp
  cases q : m s with
  | stuck => rw [q] at hp; exact hp
  | exc c n s1 => rw [q] at hp; exact fun cls dd F' H' A' Y' e' z => hp cls dd F' H' A' Y' e' z
  | ok ds s1 =>
    rw [q] at hp
    intro us a c' pm ctv F1 H1 A1 Y1 e1 r1 k1 k2
    have hp1 : PostO (GL K mg L T) W p H0 F0 F σ Q (match capsOf s1.sl js with
      | some l => (match f (ds ++ [.clo kk l]) s1.pile with
        | .ok (.val d) n => if lv (fun _ => false) d = true then .ok (.val d) { s1 with pile := n } else .stuck
        | _ => .stuck)
      | none => .stuck) := hp
    cases q1 : capsOf s1.sl js with
    | none => rw [q1] at hp1; exact hp1.elim
    | some l =>
      simp only [q1] at hp1
      obtain ⟨cv, rl, hcv⟩ := caps_rep Y1.sl q1
      cases q2 : f (ds ++ [.clo kk l]) s1.pile with
      | stuck => simp only [q2] at hp1; exact hp1.elim
      | exc c x n => simp only [q2] at hp1; exact hp1.elim
      | ok rv n =>
        simp only [q2] at hp1
        cases rv with
        | no => exact hp1.elim
        | own l => exact hp1.elim
        | dct l => exact hp1.elim
        | val dd =>
          simp only at hp1
          by_cases hdd : lv (fun _ => false) dd = true
          · rw [if_pos hdd] at hp1
            exact ⟨us, a, c', pm, ctv, p, F1, ds, l, cv, s1.pile, dd, n, rfl, k1, k2, hcv, rl, r1, Y1.ext, Y1.pl, Y1.tb, q2, hdd, fun v F' H' G P r => hp1 v F' H' A1 (Y1.call G P) (e1.trans G.ff) r⟩
          · rw [if_neg hdd] at hp1
            exact hp1.elim
end
end Pd

/-! Pf, part E: sorted(words, key=f), f an own def that tells (len(word), word). -/
namespace Pd
open PySem PySem.Spec PyProof.Rows L2 LamX NdefX

def ordD (w : List Nat) : D := .tup [.int (w.length : Int), .str w]
def keyP (w : List Nat) : PyData := .tuple [.int (w.length : Int), .str (mkS w)]
def sortO (ws : List (List Nat)) : List (List Nat) := ws.mergeSort (PySem.W.dataLe false keyP)

/-! ### midway through a built-in's work -/
structure Mid (X : Cx) (H : Hp) (s : Shared) (Hi : Hp) (si : Shared) : Prop where
  os : si.os = s.os
  bare : AllBare si.gens
  un : Un (frs X.stack) [] H Hi s.heap si.heap
  hok : HOk X.prog X.w Hi si.heap
section
variable {X : Cx} {pins : List (Addr × Obj)} {σ : L2.St} {H Hi : Hp} {s si : Shared}
theorem Mid.refl (I : Inv X pins σ H s) : Mid X H s H s := ⟨rfl, I.bare, Un.refl, I.hok⟩
theorem Mid.inv (m : Mid X H s Hi si) (I : Inv X pins σ H s) : Inv X pins σ Hi si := I.call' (ch := []) m.os m.un m.hok m.bare (fun _ z => nomatch z)
theorem Mid.heap {C : List Addr} {h' : Heap} {t : Nat} (m : Mid X H s Hi si) (k : ∀ b o, b ∉ C → si.heap.get? b = some o → h'.get? b = some o) (hC : ∀ c ∈ C, s.heap.objs.size ≤ c ∧ Hi c = none) : Mid X H s Hi { si with heap := h', toks := t } := by
  have old : ∀ {b o}, s.heap.get? b = some o → b ∉ C := fun {b o} e hb => absurd (Nat.lt_of_lt_of_le (Heap.lt_size e) (hC b hb).1) (Nat.lt_irrefl _)
  have trk : ∀ {b o}, Hi b = some o → b ∉ C := fun {b o} e hb => by rw [(hC b hb).2] at e; cases e
  refine ⟨m.os, m.bare, ⟨fun b o g n nf nx => k b o (old g) (m.un.keep b o g n nf nx), fun b o g n nf nx => ?_, m.un.free, fun b o g nx => ?_, m.un.tups, m.un.frzs, m.un.tbls⟩, fun b u e => ?_⟩
  · obtain ⟨sl, z⟩ := m.un.slot b o g n nf nx
    exact ⟨sl, k b _ (old g) z⟩
  · obtain ⟨o', z⟩ := m.un.there b o g nx
    exact ⟨o', k b _ (old g) z⟩
  · refine (m.hok b u e).stay (fun c v hc q => k c v ?_ q) (fun _ z => z) fun _ _ z => z
    rcases hc with rfl | hc
    · exact trk e
    · exact trk hc
theorem Mid.fresh (m : Mid X H s Hi si) {a : Addr} (h : si.heap.objs.size ≤ a) : Hi a = none := m.hok.fresh h
theorem Mid.size (m : Mid X H s Hi si) (I : Inv X pins σ H s) {b : Addr} {o : Obj} (e : s.heap.get? b = some o) : b < si.heap.objs.size := by
  obtain ⟨o', z⟩ := m.un.there b o e (fun z => nomatch z)
  exact Heap.lt_size z
theorem stack_old (I : Inv X pins σ H s) {b : Addr} (hb : b ∈ frs X.stack) : b < s.heap.objs.size := by
  obtain ⟨_, o, ho, _⟩ := I.stack.mem hb
  exact Heap.lt_size ho
end
theorem RoomG.in1 {k : Nat} {A : Around} (r : RoomG (k + 1) A) : RoomG k A.in1 := ⟨r.rm.in1, r.gd⟩
theorem gone_at {h : Heap} {a : Addr} {o : Obj} (e : h.get? a = some o) : (h.update a fun o => { o with data := .freed }).get? a = none := by
  obtain ⟨h1, _⟩ := (Heap.get?_eq_some h a o).mp e
  unfold Heap.get?
  rw [Heap.objs_update_self, h1]
  rfl
theorem each_of_reps {g : Gl} {p : Option Addr} {F H : Hp} {X : Cx} {pins : List (Addr × Obj)} {σ : L2.St} {s : Shared} (I : Inv X pins σ H s) (hK : X.K = g.K) (e : Ext F H) : ∀ {ws : List (List Nat)} {kv : List V} {us : List Value}, Reps g p F kv (ws.map ordD) → Vals kv us →
    PySem.W.EachIs (fun v k => ∃ as, Reads s.heap v k as) us (ws.map keyP)
  | [], _, _, .nil, .nil => .nil
  | w :: ws, _, _, .cons r t, .cons rv rt => by
    refine .cons ?_ (each_of_reps I hK e t rt)
    cases r with
    | tup h1 r1 =>
      cases rv
      rw [← hK] at h1
      obtain ⟨its, rr, ⟨o, ho, hc, n, hd⟩, _⟩ := I.tuple (ext_t e h1)
      obtain ⟨v1, v2, rfl, q1, q2⟩ := r1.two
      cases q1
      cases q2
      obtain ⟨u1, u2, rfl, ⟨t1, rfl⟩, ⟨t2, rfl⟩⟩ := rr.two
      exact ⟨_, .tuple ho hc hd (.cons (.int _ t1) (.cons (.str _ t2) .nil))⟩
theorem vals_each : ∀ {ws : List (List Nat)} {us : List Value}, Vals (ws.map fun w => V.str (mkS w)) us → PySem.W.EachIs (fun v w => RelV (.str (mkS w)) v) us ws
  | [], _, .nil => .nil
  | _ :: _, _, .cons r t => .cons r (vals_each t)
theorem each_vals : ∀ {ws : List (List Nat)} {us : List Value}, PySem.W.EachIs (fun v w => RelV (.str (mkS w)) v) us ws → Vals (ws.map fun w => V.str (mkS w)) us
  | _, _, .nil => .nil
  | _, _, .cons r t => .cons r (each_vals t)
section
variable {X : Cx} {pins : List (Addr × Obj)} {σ : L2.St} {H F : Hp} {s : Shared} {g : Gl} {p : Option Addr} {k : Nat} {f : FM} {fa : Addr} {fd : FuncData} {x : Str} {n0 : Int} {ws : List (List Nat)} {vs : List Value} {P : PySem.Fin → Shared → Prop} {E : Value → Shared → Prop}
theorem sort_tree (I : Inv X pins σ H s) (hK : X.K = g.K) (D : FnG X.prog X.w X.K X.mg X.base (L2.CX X.prog X.w) k fa fd [x] (spF g f)) (room : RoomG (k + 2) X.A) (hb : Binds X.K fd [x] [])
    {s0 : Shared} {a : Addr} {n : Nat} (m0 : Mid X H s H s0) (ha : s0.heap.get? a = some (seqObj "list" vs.toArray n)) (new : s.heap.objs.size ≤ a) (rv : Vals (ws.map fun w => V.str (mkS w)) vs) (hl : ws.length ≤ 100000)
    (key : ∀ w ∈ ws, f [.str w] n0 = .ok (.val (ordD w)) n0) (ext : Ext F H) (pl : PileOk p n0 F H) (tb : g.T H)
    (fin : ∀ Fi Hi s1 out c, Mid X H s Hi s1 → Gr g p F H Fi Hi → PileOk p n0 Fi Hi → Hi a = none → s1.heap.get? a = some (seqObj "list" (List.toArray out) c) → Vals ((sortO ws).map fun w => V.str (mkS w)) out → P (.done (.ret .none)) s1) :
    wpAny (model X.prog X.w) X.A.in1.in1 (ksk_tree a (.ref fa) false) P E s0 := by
  have lv : vs.length = ws.length := by rw [← rv.length, List.length_map]
  have sl : vs.length ≤ sizeLine := by rw [lv]; exact Nat.le_trans hl (by decide)
  have room2 : RoomG k X.A.in1.in1 := (room.in1).in1
  have a0 : a < s0.heap.objs.size := Heap.lt_size ha
  have nf : ∀ {b : Addr}, s.heap.objs.size ≤ b → b ∉ frs X.stack := fun {b} hb hm => absurd (Nat.lt_of_lt_of_le (stack_old I hm) hb) (Nat.lt_irrefl _)
  have s1 := Heap.SameBut.update s0.heap a (Obj.mapSeq fun _ => (#[] : Array Value))
  obtain ⟨e1, ha1⟩ : ∃ e1, (s0.heap.update a (Obj.mapSeq fun _ => (#[] : Array Value))).get? a = some (seqObj "list" #[] e1) := ⟨_, get?_update_seq ha fun _ => #[]⟩
  unfold ksk_tree
  refine wpAny_bind (listItems_at ha rfl (wpAny_bind (listUpdate_at ha rfl ?_ (by rw [List.size_toArray]; exact sl) (Nat.zero_le _))))
  refine wpAny_bind (seqEpoch_at ha1 rfl (wpAny_bind (wpAny_newTuple ?_ (by show vs.length ≤ _; exact sl))))
  refine wpAny_bind (wpAny_newList (wpAny_holding ?_) (Nat.zero_le _))
  let h1 : Heap := ((s0.heap.update a (Obj.mapSeq fun _ => (#[] : Array Value))).push (seqObj "tuple" vs.toArray 0)).push (seqObj "list" #[] 0)
  let kS : Addr := ((s0.heap.update a (Obj.mapSeq fun _ => (#[] : Array Value))).push (seqObj "tuple" vs.toArray 0)).objs.size
  show wpAny _ _ (ksk_rest a (.ref fa) false vs.toArray e1 (.ref kS)) _ _ { s0 with heap := h1 }
  have kSz : kS = s0.heap.objs.size + 1 := by
    show (Heap.push _ _).objs.size = _
    rw [size_push', Heap.size_update]
  have kNew : s.heap.objs.size ≤ kS := by rw [kSz]; exact Nat.le_succ_of_le (Nat.le_of_lt (Nat.lt_of_le_of_lt new a0))
  have kA : kS ≠ a := by rw [kSz]; exact Nat.ne_of_gt (Nat.lt_succ_of_lt a0)
  have keep1 : ∀ b o, b ∉ [a] → s0.heap.get? b = some o → h1.get? b = some o := fun b o hb e => by
    rw [List.mem_singleton] at hb
    exact Heap.get?_push_of_some _ (Heap.get?_push_of_some _ ((s1.2 b hb).trans e))
  have Ha : H a = none := I.hok.fresh new
  have HkS : H kS = none := I.hok.fresh kNew
  have m1 : Mid X H s H { s0 with heap := h1 } := by
    have := m0.heap (C := [a]) (h' := h1) (t := s0.toks) keep1 (fun c hc => by rw [List.mem_singleton.mp hc]; exact ⟨new, Ha⟩)
    exact this
  unfold ksk_rest
  refine wpAny_bind (wpAny_rule ?_)
  first
    | rw [List.forIn_toArray]
    | (rw [← Array.forIn_toList]; simp only [List.toList_toArray])
    | rw [← Array.forIn_toList]
  refine wpAny_bind (ksk_fold (fun j s' => ∃ Fi Hi kA e, Mid X H s Hi s' ∧ Gr g p F H Fi Hi ∧ PileOk p n0 Fi Hi ∧ Hi kS = none ∧ Hi a = none ∧ s'.heap.get? kS = some (seqObj "list" kA e) ∧ s'.heap.get? a = some (seqObj "list" #[] e1) ∧ ∃ kv, Vals kv kA.toList ∧ Reps g p Fi kv ((ws.take j).map ordD)) vs 0 { s0 with heap := h1 }
    ⟨F, H, #[], 0, m1, Gr.refl ext tb, pl, HkS, Ha, Heap.get?_push_size _ rfl, Heap.get?_push_of_some _ (Heap.get?_push_of_some _ ha1), [], .nil, by rw [List.take_zero]; exact .nil⟩ ?step ?done)
  case step =>
    rintro j u0 s2 hu ⟨Fi, Hi, kA', e, m2, G2, P2, z1, z2, z3, z4, kv, z5, z6⟩
    rw [Nat.zero_add] at z6 ⊢
    have hj : j < vs.length := (List.getElem?_eq_some_iff.mp hu).1
    have hw : ws[j]? = some ws[j] := List.getElem?_eq_getElem (by omega)
    have hwm : ws[j] ∈ ws := List.mem_of_getElem? hw
    obtain ⟨u1, hu1, ru⟩ := rv.get (i := j) (x := .str (mkS ws[j])) (by rw [List.getElem?_map, hw]; rfl)
    rw [hu] at hu1
    cases hu1
    have J := m2.inv I
    have hk := key _ hwm
    let Q2 : VK := fun v H3 => ∃ F3, Gr g p Fi Hi F3 H3 ∧ PileOk p n0 F3 H3 ∧ Rep g p F3 v (ordD ws[j])
    have prom : spF g f [.str (mkS ws[j])] Hi Q2 (fun _ _ _ => False) := by
      refine ⟨p, Fi, [.str ws[j]], n0, .cons (.str _) .nil, G2.fh, P2, G2.tb, ?_⟩
      rw [hk]
      exact fun v F3 H3 G P3 r3 => ⟨F3, G, P3, r3⟩
    have b1 := hb s2 [u0] J.kIn rfl
    rw [List.append_nil] at b1
    have hz : kA'.size ≤ ws.length := by
      have q1 : kv.length = kA'.toList.length := z5.length
      have q2 : kv.length = ((ws.take j).map ordD).length := z6.length
      rw [List.length_map, List.length_take] at q2
      have q3 : kA'.toList.length = kA'.size := by simp
      rw [← q3, ← q1, q2]
      exact Nat.min_le_right _ _
    refine wpAny_bind (wpAny_attempt (wpAny_call (codeAny_mono (D.run X.A.in1.in1 X.stack s2 Hi ⟨[u0], []⟩ [u0] _ Q2 _ room2 J.env0.in1.in1 b1 (.cons ru .nil) prom) fun r s3 got => ?_)))
    match r, got with
    | .error z, got => exact (noCX got).elim
    | .ok (.ret u), got =>
      obtain ⟨v, H3, os, bare, un, hok3, ruv, F3, G3, P3, r3⟩ := got
      have m3 : Mid X H s H3 s3 := ⟨os.trans m2.os, bare, m2.un.trans un, hok3⟩
      have k1 : s3.heap.get? kS = some (seqObj "list" kA' e) := un.keep kS _ z3 z1 (nf kNew) (fun z => nomatch z)
      have k2 : s3.heap.get? a = some (seqObj "list" #[] e1) := un.keep a _ z4 z2 (nf new) (fun z => nomatch z)
      have k3 : H3 kS = none := un.free kS _ z3 z1 (fun z => nomatch z)
      have k4 : H3 a = none := un.free a _ z4 z2 (fun z => nomatch z)
      have sb := Heap.SameBut.update s3.heap kS (Obj.mapSeq (·.push u))
      obtain ⟨c2, hc2⟩ : ∃ c2, (s3.heap.update kS (Obj.mapSeq (·.push u))).get? kS = some (seqObj "list" (kA'.push u) c2) := ⟨_, get?_update_seq k1 (·.push u)⟩
      have m4 : Mid X H s H3 { s3 with heap := s3.heap.update kS (Obj.mapSeq (·.push u)) } :=
        m3.heap (C := [kS]) (t := s3.toks) (fun b o hb e => by rw [List.mem_singleton] at hb; exact (sb.2 b hb).trans e) (fun c hc => by rw [List.mem_singleton.mp hc]; exact ⟨kNew, k3⟩)
      have big : (100001 : Nat) ≤ sizeLine := by decide
      refine wpAny_bind (listUpdate_at k1 rfl ?_ (by omega) (by rw [Array.size_push]; omega))
      refine wpAny_pure ⟨rfl, F3, H3, kA'.push u, c2, m4, G2.trans G3, P3, k3, k4, hc2, (sb.2 a kA.symm).trans k2, kv ++ [v], ?_, ?_⟩
      · rw [Array.toList_push]
        exact z5.append (.cons ruv .nil)
      · rw [List.take_add_one, hw]
        simp only [Option.toList_some, List.map_append, List.map_cons, List.map_nil]
        exact (z6.mono G3.ff).append (.cons r3 .nil)
  case done =>
    rintro s2 ⟨Fi, Hi, kA', e, m2, G2, P2, z1, z2, z3, z4, kv, z5, z6⟩
    rw [Nat.zero_add, lv, List.take_length] at z6
    have J := m2.inv I
    have ea := each_of_reps J hK G2.fh z6 z5
    have hz : kA'.size = vs.length := by
      have q1 : kv.length = kA'.toList.length := z5.length
      have q2 : kv.length = (ws.map ordD).length := z6.length
      rw [List.length_map] at q2
      have q3 : kA'.toList.length = kA'.size := by simp
      rw [← q3, ← q1, q2, lv]
    refine wpAny_bind (listItems_at z3 rfl ?_)
    have al : PySem.W.AllAlike (ws.map keyP) := .of fun b b' => by simp [keyP, PySem.W.alike, PySem.W.alikeAll]
    have so : PySem.W.Sortable (ws.map keyP) := .tuples fun b => ⟨_, _, rfl⟩
    have hu : ∀ d ∈ ws.map keyP, X.A.in1.in1.units + d.depth < cLine := fun d hd => by
      obtain ⟨w, _, rfl⟩ := List.mem_map.mp hd
      have h2 : (keyP w).depth ≤ 2 := by simp [keyP, PyData.depth, PyData.depthAll]
      have := room2.units
      omega
    have sb := Heap.SameBut.update s2.heap kS (fun o => ({ o with data := .freed } : Obj))
    have ne1 : ∀ b o, b ≠ kS → (s2.heap.update kS (fun o => ({ o with data := .freed } : Obj))).get? b = some o → s2.heap.get? b = some o := fun b o hb e => by
      rw [sb.2 b hb] at e; exact e
    refine PySem.W.keyH_end (κ := PySem.W.dataKind s2.heap (ws.map keyP)) (h₁ := s2.heap.update kS (fun o => ({ o with data := .freed } : Obj))) (fun b o hb e => ?_) (gone_at z3) z3 z4 kA (PySem.W.SortsAt.data ea al so hu) hz sl fun h' tk c kb hD => ?_
    · by_cases q : b = kS
      · rw [q, gone_at z3] at e; cases e
      · exact ne1 b o q e
    · have m3 : Mid X H s Hi { s2 with heap := h', toks := tk } := m2.heap (C := [a, kS]) (fun b o hb e => by
        rw [List.mem_cons, List.mem_singleton, not_or] at hb
        exact kb b o hb.1 ((sb.2 b hb.2).trans e)) (fun c hc => by
        rcases List.mem_cons.mp hc with rfl | hc
        · exact ⟨new, z2⟩
        · rw [List.mem_singleton.mp hc]; exact ⟨kNew, z1⟩)
      refine fin Fi Hi _ _ c m3 G2 P2 z2 hD ?_
      exact each_vals (PySem.W.keyedOut_each keyP ⟨s2.heap, kA'.toList, al, rfl, ea⟩ (vals_each rv))
end
end Pd

/-! Pf, part F: sorted(.., key=f) as expressions; list(d) of a dict of one's own; [*a, *b]. -/
namespace Pd
open PySem PySem.Spec PyProof.Rows L2 LamX NdefX

section
variable {X : Cx} {g : Gl} {k : Nat} {f : FM} {fa : Addr} {fd : FuncData} {x : Str}
/-- sorted by f: what is sorted is told by src -/
def rSortK (g : Gl) (f : FM) (fa : Addr) (src : Hp → Addr → List (List Nat) → Prop) : List V → List V → Hp → VK → Prop := fun vs zs H Q => ∃ l ws p F n0, vs = [.ref l] ∧ zs = [.ref fa] ∧ src H l ws ∧ ws.length ≤ 100000 ∧ (∀ w ∈ ws, f [.str w] n0 = .ok (.val (ordD w)) n0) ∧ Ext F H ∧ PileOk p n0 F H ∧ g.T H ∧
  ∀ Fi Hi q, Gr g p F H Fi Hi → PileOk p n0 Fi Hi → Hi q = none → Q (.ref q) (upd Hi q (.lst ((sortO ws).map fun w => V.str (mkS w))))
theorem sortO_len (ws : List (List Nat)) : (sortO ws).length = ws.length := List.length_mergeSort ws
/-- the sorted list is tracked -/
theorem sorted_fin {pins : List (Addr × Obj)} {σ : L2.St} {H Hi : Hp} {s s1 : Shared} {a : Addr} {c : Nat} {ws : List (List Nat)} {out : List Value} {Q : VK} (I : Inv X pins σ H s) (new : s.heap.objs.size ≤ a) (m : Mid X H s Hi s1) (ha : Hi a = none) (ho : s1.heap.get? a = some (seqObj "list" (List.toArray out) c)) (hl : ws.length ≤ 100000)
    (rv : Vals ((sortO ws).map fun w => V.str (mkS w)) out) (q : Q (.ref a) (upd Hi a (.lst ((sortO ws).map fun w => V.str (mkS w))))) : EP X pins σ Q (.ref a) s1 := by
  have old : ∀ {b o}, s.heap.get? b = some o → b ≠ a := fun {b o} e z => by
    rw [z] at e
    exact absurd (Nat.lt_of_lt_of_le (Heap.lt_size e) new) (Nat.lt_irrefl _)
  refine ⟨.ref a, _, I.call' (ch := []) m.os ⟨m.un.keep, m.un.slot, fun b o g0 n0 nx => ?_, m.un.there, fun b xs e => ?_, fun b o u e => ?_, fun b ps e => ?_⟩ (fun b u e => ?_) m.bare (fun _ z => nomatch z), rfl, q⟩
  · rw [upd_ne (old g0)]; exact m.un.free b o g0 n0 nx
  · have z := m.un.tups b xs e
    rw [upd_ne (ne_of_none z ha)]; exact z
  · have z := m.un.frzs b o u e
    rw [upd_ne (ne_of_none z ha)]; exact z
  · obtain ⟨more, z⟩ := m.un.tbls b ps e
    exact ⟨more, by rw [upd_ne (ne_of_none z ha)]; exact z⟩
  · by_cases hb : b = a
    · subst hb
      rw [upd_same] at e
      cases e
      refine ⟨?_, out, c, rv, ho⟩
      rw [List.length_map, sortO_len]
      exact Nat.le_trans hl (by decide)
    · rw [upd_ne hb] at e
      refine (m.hok b u e).stay (fun _ _ _ z => z) (fun d z => ?_) fun d xs z => ?_
      · rw [upd_ne (ne_of_none z ha)]; exact z
      · rw [upd_ne (ne_of_none z ha)]; exact z
theorem args_key_s (a v : Value) : argsOk "sorted" ⟨[a], [(Str.ofString "key", v)]⟩ := ksk_s1 a v
theorem cr_sortKL (hK : X.K = g.K) (D : FnG X.prog X.w X.K X.mg X.base (L2.CX X.prog X.w) k fa fd [x] (spF g f)) (room : RoomG (k + 2) X.A) (hb : Binds X.K fd [x] []) : CallRK X (.builtin "sorted") [Str.ofString "key"] (rSortK g f fa fun H l ws => SqL X.K H l (ws.map fun w => V.str (mkS w))) := by
  intro pins s σ H xs zs us ks Q I rx rz h
  obtain ⟨l, ws, p, F, n0, rfl, rfl, src, hl, key, ext, pl, tb, q⟩ := h
  obtain ⟨u, rfl, ru⟩ := vals1 rx
  obtain ⟨u2, rfl, ru2⟩ := vals1 rz
  cases ru
  cases ru2
  obtain ⟨vs, rv, hL, hz⟩ := I.list src
  show wpAny _ _ (call (.builtin "sorted") [.ref l] [(Str.ofString "key", .ref fa)]) _ _ s
  refine call_function_entry_kw kind_sorted plain_sorted entry_sorted (args_key_s _ _) ?_
  unfold Builtin.«sorted»
  refine wpAny_bind (m := checkCount "sorted" 1 1 _) (wpAny_pure ?_)
  have lv : vs.length = ws.length := by rw [← rv.length, List.length_map]
  have sl : vs.length ≤ sizeLine := by rw [lv]; exact Nat.le_trans hl (by decide)
  refine wpAny_bind (collect_list hL.isList ?_ sl)
  refine wpAny_bind (wpAny_newList ?_ sl)
  let h1 : Heap := (s.heap.push (seqObj "list" #[] 0)).update s.heap.objs.size (Obj.mapSeq (· ++ vs.toArray))
  have hsz : h1.objs.size = s.heap.objs.size + 1 := by
    show (Heap.update _ _ _).objs.size = _
    rw [Heap.size_update, size_push']
  have hoL : (h1.push (seqObj "list" vs.toArray 0)).get? h1.objs.size = some (seqObj "list" vs.toArray 0) := Heap.get?_push_size _ rfl
  have new : s.heap.objs.size ≤ h1.objs.size := by rw [hsz]; exact Nat.le_succ _
  have kp : ∀ b o, b ∉ ([] : List Addr) → s.heap.get? b = some o → (h1.push (seqObj "list" vs.toArray 0)).get? b = some o := fun b o _ e => by
    refine Heap.get?_push_of_some _ ?_
    show (Heap.update _ _ _).get? b = _
    rw [(Heap.SameBut.update _ _ _).2 b (Nat.ne_of_lt (Heap.lt_size e))]
    exact Heap.get?_push_of_some _ e
  have m0 : Mid X H s H { s with heap := h1.push (seqObj "list" vs.toArray 0) } := (Mid.refl I).heap (t := s.toks) kp (fun c hc => nomatch hc)
  show wpAny _ _ _ _ _ { s with heap := h1.push (seqObj "list" vs.toArray 0) }
  refine wpAny_bind (wpAny_holding (wpAny_call_entry_kw slot_list_sort ⟨_, hoL, rfl⟩ entry_list_sort ?_ (ksk_l1 _ _)))
  rw [ksk_t1]
  refine sort_tree I hK D room hb m0 hoL new rv hl key ext pl tb fun Fi Hi s1 out c m1 G P3 ha ho r3 => ⟨_, rfl, ?_⟩
  exact wpAny_pure ⟨_, rfl, sorted_fin I new m1 ha ho hl r3 (q Fi Hi _ G P3 ha)⟩
theorem cr_sortKD (hc : X.calm = true) (hK : X.K = g.K) (D : FnG X.prog X.w X.K X.mg X.base (L2.CX X.prog X.w) k fa fd [x] (spF g f)) (room : RoomG (k + 2) X.A) (hb : Binds X.K fd [x] []) :
    CallRK X (.builtin "sorted") [Str.ofString "key"] (rSortK g f fa fun H l ws => ∃ kvs : List (Key × V), Rd H l (.dK kvs) ∧ kvs.map (·.1) = ws.map fun w => Sum.inr (mkS w)) := by
  intro pins s σ H xs zs us ks Q I rx rz h
  obtain ⟨l, ws, p, F, n0, rfl, rfl, ⟨kvs, hd, hkw⟩, hl, key, ext, pl, tb, q⟩ := h
  obtain ⟨u, rfl, ru⟩ := vals1 rx
  obtain ⟨u2, rfl, ru2⟩ := vals1 rz
  cases ru
  cases ru2
  obtain ⟨z, lo, vs, rel, dd⟩ := dk_rd I.hok hd
  obtain ⟨ep, hat⟩ := dd.dictAt
  have hkeys : vs.map (·.1) = ws.map fun w => Sum.inr (mkS w) := rel.keys.symm.trans hkw
  have lv : vs.length = ws.length := by
    have e := congrArg List.length hkeys
    rwa [List.length_map, List.length_map] at e
  have sl : vs.length ≤ sizeLine := by rw [lv]; exact Nat.le_trans hl (by decide)
  show wpAny _ _ (call (.builtin "sorted") [.ref l] [(Str.ofString "key", .ref fa)]) _ _ s
  refine call_function_entry_kw kind_sorted plain_sorted entry_sorted (args_key_s _ _) ?_
  unfold Builtin.«sorted»
  refine wpAny_bind (m := checkCount "sorted" 1 1 _) (wpAny_pure ?_)
  refine wpAny_bind (PySem.W.kdu_collect (A := X.A.in1) (PySem.W.kdl_dict (knd := mixKind X.prog X.w) (kvs := vs) (ep := ep) lo) (I.ok.hd hc) hat sl fun h' tk acc hk hacc => ?_)
  have al : acc.toList.length = ws.length := by rw [← lv, ← hacc.1]; simp
  have rv : Vals (ws.map fun w => V.str (mkS w)) acc.toList := by
    refine vals_of_at (by rw [List.length_map, al]) fun j v u h1 h2 => ?_
    obtain ⟨ky, xx, e1, e2⟩ := hacc.2 j u (by rw [← Array.getElem?_toList]; exact h2)
    have e3 : (vs.map (·.1))[j]? = some ky := by rw [List.getElem?_map, e1]; rfl
    rw [hkeys, List.getElem?_map] at e3
    rw [List.getElem?_map] at h1
    cases e4 : ws[j]? with
    | none => rw [e4] at e3; cases e3
    | some y =>
      rw [e4] at e3 h1
      have e5 : Sum.inr (mkS y) = ky := Option.some.inj e3
      have e6 : V.str (mkS y) = v := Option.some.inj h1
      subst e5 e6
      exact keyIs_rel (k := Sum.inr (mkS y)) (show keyIs (Sum.inr (mkS y)) u = true from e2)
  refine wpAny_bind (wpAny_newList ?_ (by rw [al, ← lv]; exact sl))
  have hoL : (h'.push (seqObj "list" acc.toList.toArray 0)).get? h'.objs.size = some (seqObj "list" acc.toList.toArray 0) := Heap.get?_push_size _ rfl
  have I1 : Inv X pins σ H { s with heap := h', toks := tk } := I.kept hk
  have m0 : Mid X H { s with heap := h', toks := tk } H { s with heap := h'.push (seqObj "list" acc.toList.toArray 0), toks := tk } :=
    (Mid.refl I1).heap (C := []) (t := tk) (fun b o _ e => Heap.get?_push_of_some _ e) (fun c hc => nomatch hc)
  show wpAny _ _ _ _ _ { s with heap := h'.push (seqObj "list" acc.toList.toArray 0), toks := tk }
  refine wpAny_bind (wpAny_holding (wpAny_call_entry_kw slot_list_sort ⟨_, hoL, rfl⟩ entry_list_sort ?_ (ksk_l1 _ _)))
  rw [ksk_t1]
  refine sort_tree I1 hK D room hb m0 hoL (Nat.le_refl _) rv hl key ext pl tb fun Fi Hi s1 out c m1 G P3 ha ho r3 => ⟨_, rfl, ?_⟩
  exact wpAny_pure ⟨_, rfl, sorted_fin I1 (Nat.le_refl _) m1 ha ho hl r3 (q Fi Hi _ G P3 ha)⟩
end
end Pd

/-! Pf, part G: the meanings: sorted(.., key=f), list(d), [*a, *b]. -/
namespace Pd
open PySem PySem.Spec PyProof.Rows L2 LamX NdefX

def keyOk (f : FM) (w : List Nat) (n : Int) : Bool := match f [.str w] n with
  | .ok (.val (.tup [.int k, .str v])) n' => decide (k = (w.length : Int)) && (decide (v = w) && decide (n' = n))
  | _ => false
theorem keyOk_eq {f : FM} {w : List Nat} {n : Int} (h : keyOk f w n = true) : f [.str w] n = .ok (.val (ordD w)) n := by
  unfold keyOk at h
  split at h
  · rename_i k v n' e
    rw [Bool.and_eq_true, Bool.and_eq_true, decide_eq_true_eq, decide_eq_true_eq, decide_eq_true_eq] at h
    obtain ⟨rfl, rfl, rfl⟩ := h
    exact e
  · cases h
def sortR (f : FM) (ws : List (List Nat)) (s : S) : R SV := if ws.length ≤ 100000 ∧ ws.all (fun w => keyOk f w s.pile) = true then .ok (.own ((sortO ws).map D.str)) s else .stuck
def oSortK (f : FM) (m : EM) : OM := fun s => (m s).bind fun d s1 => match d with
  | .lst l => (match strsD l with
    | some ws => sortR f ws s1
    | none => .stuck)
  | _ => .stuck
def oSortKD (f : FM) (i : Nat) : OM := fun s => match s.sl[i]? with
  | some (.dct l) => (match keysW l with
    | some ws => sortR f ws s
    | none => .stuck)
  | _ => .stuck
theorem reps_words {g : Gl} {p : Option Addr} {F : Hp} : ∀ ws : List (List Nat), Reps g p F (ws.map fun w => V.str (mkS w)) (ws.map D.str)
  | [] => .nil
  | w :: r => .cons (.str w) (reps_words r)
/-- what a def of one parameter is worth to those who hand it on -/
structure Cal1 (P : Program) (w : World) (K : PySem.W.Frag) (mg : Str → Option Value) (base : Heap) (g : Gl) (k : Nat) (x : Str) (f : FM) : Prop where
  ex : ∃ (a : Addr) (fd : FuncData) (y : Str), FnG P w K mg base (L2.CX P w) k a fd [y] (spF g f) ∧ mg x = some (.ref a) ∧ PySem.W.keepIn K (.ref a) = true ∧ Binds K fd [y] []
theorem Cal1.cal {P : Program} {w : World} {K : PySem.W.Frag} {mg : Str → Option Value} {base : Heap} {g : Gl} {k : Nat} {x : Str} {f : FM} (c : Cal1 P w K mg base g k x f) : Cal P w K mg base g k x f := by
  obtain ⟨a, fd, y, h⟩ := c.ex
  exact ⟨a, fd, [y], h⟩
theorem cal1_of {P : Program} {w : World} {K : PySem.W.Frag} {mg : Str → Option Value} {base : Heap} {g : Gl} {x qual y : Str} {params : Arguments} {body : List Stmt} {scope : Scope} {a : Addr} {fd : FuncData} {N : List Str} {np n k : Nat} {m : SM} (F : FunD K x qual params body scope [] [] a fd) (gm : mg x = some (.ref a)) (S : FnScope N [y] scope)
    (hps : [y].length = np) (hn : N.length = n) (hb : ∀ (kV doc pm : Value) (an : Option Addr) (cdv ct : Value) (us : List Value), us.length = [y].length → bindArgs (PySem.W.fnOf x qual params body scope .none kV doc pm an cdv ct) ⟨us, []⟩ = pure ([y].zip us))
    (h : ∀ (cdv : Value) (A : Around) (outer : List Env) (s : Shared) (H : Hp) (E : XK), RoomG k (A.deeper (envOfC qual scope s.heap.objs.size a cdv)) →
      Takes (cxOf (L2.CX P w) P w K mg base N qual scope a cdv A outer s H E) (WD E) →
      PassesOwn (model P w) (A.deeper (envOfC qual scope s.heap.objs.size a cdv)) (envOfC qual scope s.heap.objs.size a cdv) (cxOf (L2.CX P w) P w K mg base N qual scope a cdv A outer s H E).xe →
      DSs g (cxOf (L2.CX P w) P w K mg base N qual scope a cdv A outer s H E) (WD E) body m) : Cal1 P w K mg base g (k + 1) x (mkF np n m) :=
  ⟨a, fd, y, fnok_of F S hps hn h, gm, F.kp, F.bindsN hb⟩
section
variable {g : Gl} {X : Cx} {W : WX} {e : Expr} {m : EM} {pos p' kp np : Pos} {x : Str} {k : Nat} {f : FM}
/-- behind the sort -/
theorem post_sort {p : Option Addr} {H0 F0 F : Hp} {A : List Addr} {s : S} {σ : L2.St} {H : Hp} {Q : VK} {ws : List (List Nat)} (Y : Rel g p H0 F0 A F s σ H) (h : PostO g W p H0 F0 F σ Q (sortR f ws s)) :
    ws.length ≤ 100000 ∧ (∀ w ∈ ws, f [.str w] s.pile = .ok (.val (ordD w)) s.pile) ∧ ∀ Fi Hi q, Gr g p F H Fi Hi → PileOk p s.pile Fi Hi → Hi q = none → Q (.ref q) (upd Hi q (.lst ((sortO ws).map fun w => V.str (mkS w)))) := by
  unfold sortR at h
  split at h
  · rename_i c
    refine ⟨c.1, fun w hw => keyOk_eq (List.all_eq_true.mp c.2 w hw), fun Fi Hi q G P hq => ?_⟩
    have Y1 := Y.call G P
    obtain ⟨z1, z2, z3, z4⟩ := Y1.fresh hq
    have G2 := Gr.lay (g := g) (p := none) (o := HO.lst ((sortO ws).map fun w => V.str (mkS w))) Y1.ext Y1.tb hq
    exact h q _ _ _ A (Y1.grow G2) (G.ff.trans G2.ff) (reps_words _) upd_same z1 z2 z3 z4
  · exact h.elim
theorem do_sortK (C : Cal1 X.prog X.w X.K X.mg X.base g k x f) (hr : RoomG (k + 2) X.A) (hg : L2.Gl X "sorted") (hm : X.mg "sorted" = none) (hv : bootBuiltins "sorted" = some (.builtin "sorted")) (hgx : L2.Gl X x) (h : DE g X W e m) (hK : X.K = g.K := by rfl)
    (he : backTo pos (starEach [e] X.env) = (false, eval e X.env) :: backTo pos (starEach [] X.env) := by rfl) (hs : starEach [e] X.env = (false, eval e X.env) :: starEach [] X.env := by rfl) (hpl : (backTo pos (starEach [e] X.env)).any (·.1) = false := by rfl)
    (hall : (backToKw pos (keywordEach [⟨some (Str.ofString "key"), .Name x np, kp⟩] X.env)).all (·.1.isSome) = true := by rfl) (hnone : (backToKw pos (keywordEach [⟨some (Str.ofString "key"), .Name x np, kp⟩] X.env)).any (·.1.isNone) = false := by rfl)
    (hks : (backToKw pos (keywordEach [⟨some (Str.ofString "key"), .Name x np, kp⟩] X.env)).filterMap (·.1) = [Str.ofString "key"] := by rfl) (hdb : (x == ("__debug__" : Str)) = false := by decide) :
    DO g X W (.Call (.Name "sorted" p') [e] [⟨some (Str.ofString "key"), .Name x np, kp⟩] pos) (oSortK f m) := by
  obtain ⟨fa, fd, y, D, gm, keep, b⟩ := C.ex
  obtain ⟨t, a1, a2⟩ := h
  refine ⟨_, pe_callBK (cr_sortKL hK D hr b) hg hm hv (pa_cons a1 pa_nil hs) (pk_cons (pe_glob (v := .ref fa) hgx gm rfl hdb) pk_nil) (by decide) (by decide) he hpl hall hnone hks, fun p H0 F0 A F s σ H Q Y hp => ?_⟩
  refine a2 p H0 F0 A F s σ H _ Y (PostO.bind hp fun d s1 v F1 H1 A1 Y1 e1 r1 hp2 => ?_)
  cases d with
  | lst l =>
    cases r1 with
    | lst h2 r2 =>
      rename_i a vs
      cases q : strsD l with
      | none => simp only [q] at hp2; exact hp2.elim
      | some ws =>
        simp only [q] at hp2
        obtain ⟨z1, z2, z3⟩ := post_sort Y1 hp2
        have ev := strsD_rep r2 q
        refine ⟨a, ws, p, F1, s1.pile, rfl, rfl, ?_, z1, z2, Y1.ext, Y1.pl, Y1.tb, z3⟩
        rw [List.map_map] at ev
        have ev2 : vs = ws.map fun w => V.str (mkS w) := ev
        show SqL X.K H1 a (ws.map fun w => V.str (mkS w))
        rw [← ev2]
        exact .inl (ext_rd Y1.ext h2)
  | _ => exact hp2.elim
theorem keys_words : ∀ {ks : List Str} {ws : List (List Nat)}, ks.map (fun x => x.cps.toList) = ws → ks.map Sum.inr = ws.map fun w => (Sum.inr (mkS w) : Key)
  | [], _, e => by subst e; rfl
  | k :: ks, _, e => by
    subst e
    have := keys_words (ks := ks) rfl
    simp only [List.map_cons, this]
theorem do_sortKD {i : Nat} (C : Cal1 X.prog X.w X.K X.mg X.base g k x f) (hr : RoomG (k + 2) X.A) (hc : X.calm = true) (hg : L2.Gl X "sorted") (hm : X.mg "sorted" = none) (hv : bootBuiltins "sorted" = some (.builtin "sorted")) (hgx : L2.Gl X x) (h : PE X e (tVar i)) (hK : X.K = g.K := by rfl)
    (he : backTo pos (starEach [e] X.env) = (false, eval e X.env) :: backTo pos (starEach [] X.env) := by rfl) (hs : starEach [e] X.env = (false, eval e X.env) :: starEach [] X.env := by rfl) (hpl : (backTo pos (starEach [e] X.env)).any (·.1) = false := by rfl)
    (hall : (backToKw pos (keywordEach [⟨some (Str.ofString "key"), .Name x np, kp⟩] X.env)).all (·.1.isSome) = true := by rfl) (hnone : (backToKw pos (keywordEach [⟨some (Str.ofString "key"), .Name x np, kp⟩] X.env)).any (·.1.isNone) = false := by rfl)
    (hks : (backToKw pos (keywordEach [⟨some (Str.ofString "key"), .Name x np, kp⟩] X.env)).filterMap (·.1) = [Str.ofString "key"] := by rfl) (hdb : (x == ("__debug__" : Str)) = false := by decide) :
    DO g X W (.Call (.Name "sorted" p') [e] [⟨some (Str.ofString "key"), .Name x np, kp⟩] pos) (oSortKD f i) := by
  obtain ⟨fa, fd, y, D, gm, keep, b⟩ := C.ex
  refine ⟨_, pe_callBK (cr_sortKD hc hK D hr b) hg hm hv (pa_cons h pa_nil hs) (pk_cons (pe_glob (v := .ref fa) hgx gm rfl hdb) pk_nil) (by decide) (by decide) he hpl hall hnone hks, fun p H0 F0 A F s σ H Q Y hp => ?_⟩
  unfold oSortKD at hp
  split at hp
  · rename_i l q
    cases qk : keysW l with
    | none => simp only [qk] at hp; exact hp.elim
    | some ws =>
      simp only [qk] at hp
      obtain ⟨z1, z2, z3⟩ := post_sort Y hp
      obtain ⟨a0, kvs0, h1, _, h2, r2⟩ := Y.sl.getDct q
      obtain ⟨ks, k1, k2⟩ := keysW_rep r2 qk
      exact ⟨.ref a0, h1, a0, ws, p, F, s.pile, rfl, rfl, ⟨kvs0, .inl h2, k1.trans (keys_words k2)⟩, z1, z2, Y.ext, Y.pl, Y.tb, z3⟩
  · exact hp.elim
/-- list(d), d a dict of one's own: its keys -/
def oListD (i : Nat) : OM := fun s => match s.sl[i]? with
  | some (.dct l) => .ok (.own (l.map fun q => kD q.1)) s
  | _ => .stuck
theorem paired_keys {p : Option Addr} {F : Hp} : ∀ {kvs : List (Key × V)} {l : List (Key × D)}, Paired (RD g p F) kvs l → Reps g p F (kvs.map fun kv => kV kv.1) (l.map fun q => kD q.1)
  | _, _, .nil => .nil
  | _ :: _, _ :: _, .cons h t => .cons (by show Rep g p F (kV _) (kD _); rw [h.1]; exact rep_kD _) (paired_keys t)
theorem do_listD {i : Nat} (hc : X.calm = true) (hg : L2.Gl X "list") (hm : X.mg "list" = none) (hv : bootBuiltins "list" = some (.type "list")) (h : PE X e (tVar i))
    (he : starEach [e] X.env = (false, eval e X.env) :: starEach [] X.env := by rfl) (hpl : (backTo pos (starEach [] X.env)).any (·.1) = false := by rfl) : DO g X W (.Call (.Name "list" p') [e] [] pos) (oListD i) := by
  refine ⟨_, pe_callTy (call_listD hc) hg hm hv (pa_cons h pa_nil he) (by decide) (by decide) he hpl, fun p H0 F0 A F s σ H Q Y hp => ?_⟩
  unfold oListD at hp
  split at hp
  · rename_i l q
    obtain ⟨a0, kvs0, h1, _, h2, r2⟩ := Y.sl.getDct q
    refine ⟨.ref a0, h1, a0, kvs0, rfl, .inl h2, fun q' nq => ?_⟩
    have G := Gr.lay (g := g) (p := none) (o := HO.lst (kvs0.map fun kv => kV kv.1)) Y.ext Y.tb nq
    obtain ⟨z1, z2, z3, z4⟩ := Y.fresh nq
    exact hp q' _ _ _ A (Y.grow G) G.ff (paired_keys r2) upd_same z1 z2 z3 z4
  · exact hp.elim
/-- *e in a display -/
def aStar (m : EM) (r : AM) : AM := fun s => (m s).bind fun d s1 => match d with
  | .lst l => (r s1).bind fun xs s2 => .ok (l ++ xs) s2
  | .tup l => (r s1).bind fun xs s2 => .ok (l ++ xs) s2
  | _ => .stuck
theorem post_app {p : Option Addr} {H0 F0 F : Hp} {A : List Addr} {s : S} {σ : L2.St} {H : Hp} {Q : List V → Hp → Prop} {t : TA} {ms : AM} {l : List D} {vs : List V} (b2 : Sim g W (RepA g) t ms) (Y : Rel g p H0 F0 A F s σ H) (r : Reps g p F vs l)
    (h : Post g W (RepA g) p H0 F0 F σ Q ((ms s).bind fun xs s2 => .ok (l ++ xs) s2)) : t σ H fun ys H2 => Q (vs ++ ys) H2 := by
  refine b2 p H0 F0 A F s σ H _ Y (h.bind fun xs s1 ys F1 H1 A1 Y1 e1 r1 hp1 => ?_)
  exact hp1 (vs ++ ys) F1 H1 A1 Y1 (Ext.refl _) ((r.mono e1).append r1)
theorem da_star {es : List Expr} {sp : Pos} {ms : AM} (h : DE g X W e m) (hr : DA g X W es ms) (hs : starEach (.Starred e sp :: es) X.env = (true, eval e X.env) :: starEach es X.env := by rfl) (hK : X.K = g.K := by rfl) : DA g X W (.Starred e sp :: es) (aStar m ms) := by
  obtain ⟨t, a1, a2⟩ := h
  obtain ⟨u, b1, b2⟩ := hr
  refine ⟨_, StX.pa_star a1 b1 hs, fun p H0 F0 A F s σ H Q Y hp => ?_⟩
  refine a2 p H0 F0 A F s σ H _ Y (Post.bind (k := fun d s1 => match d with
    | .lst l => (ms s1).bind fun xs s2 => .ok (l ++ xs) s2
    | .tup l => (ms s1).bind fun xs s2 => .ok (l ++ xs) s2
    | _ => .stuck) hp fun d s1 v F1 H1 A1 Y1 e1 r1 hp1 => ?_)
  cases d with
  | lst l =>
    cases r1 with
    | lst h2 r2 => exact ⟨_, _, rfl, .inr (.inl (ext_rd Y1.ext h2)), post_app b2 Y1 r2 hp1⟩
  | tup l =>
    cases r1 with
    | tup h2 r2 =>
      rw [← hK] at h2
      exact ⟨_, _, rfl, .inl (ext_t Y1.ext h2), post_app b2 Y1 r2 hp1⟩
  | _ => exact hp1.elim
end
end Pd

/-! Pf, part H: defs that make lambdas; a law's end with tables of code objects; the hook. -/
namespace Pd
open PySem PySem.Spec PyProof.Rows L2 LamX NdefX

/-- the def at a has the code object cdv -/
def CodeVal (K : PySem.W.Frag) (a : Addr) (cdv : Value) : Prop := ∃ oc od fd osl, K.lookup a = some ⟨oc, od, .func fd, osl⟩ ∧ fd.code = cdv
/-- what is known of a def that makes a lambda of the name qual -/
structure MkL (K : PySem.W.Frag) (mg : Str → Option Value) (base : Heap) (a : Addr) (T : List (Addr × Str)) (qual : Str) : Prop where
  ex : ∃ c P, (∀ cdv, CodeVal K a cdv → cdv = .ref c) ∧ TabB base mg c P ∧ (P, qual) ∈ T ∧ ∀ q ∈ T, q.1 = P → q.2 = qual
section
variable {P : Program} {w : World} {K : PySem.W.Frag} {mg : Str → Option Value} {base : Heap}
theorem fnG_ofC {CX : CXT} {x qual : Str} {params : Arguments} {body : List Stmt} {scope : Scope} {a : Addr} {fd : FuncData} {N ps : List Str} {k : Nat} {sp : Sp} (D : FunD K x qual params body scope [] [] a fd) (S : FnScope N ps scope)
    (hl : ∀ vs H Q E, sp vs H Q E → vs.length = ps.length)
    (hbd : ∀ (cdv : Value) (A : Around) (out : List Env) (sh : Shared) (H : Hp) (vs : List V) (Q : VK) (E : XK), CodeVal K a cdv → RoomG k (A.deeper (envOfC qual scope sh.heap.objs.size a cdv)) → sp vs H Q E →
      ∃ t, PSs (cxOf CX P w K mg base N qual scope a cdv A out sh H E) body t ∧ t { nx := fun _ H' => Q .non H', rt := Q } (start N vs) H) : FnG P w K mg base CX (k + 1) a fd ps sp := by
  obtain ⟨oc, od, dV, kV, doc, pm, an, cdv, ct, osl, hfd, look, code, _, _⟩ := D.ex
  subst hfd
  refine ⟨hl, fun A out sh H ar us vs Q E room env0 bnd rv prom => ?_⟩
  have n1 := hl _ _ _ _ prom
  have kin : K.In sh.heap := env0.mod.kin.keeps fun b o q => (env0.bs b o q).1
  have nol : sh.heap.NoLimit := env0.mod.nolimit.keeps fun b o q => (env0.bs b o q).1
  have kinds : ∀ y ∈ ps.zip us, scope.names.lookup y.1 = some .local ∨ (scope.names.lookup y.1 = some .cell ∧ ((cellsFrom (sh.heap.objs.size + 1) scope.names []).lookup y.1).isSome = true) := by
    rintro ⟨y, v⟩ hy
    cases S.par y (List.of_mem_zip hy).1 with
    | inl q => exact .inl q
    | inr q => exact .inr ⟨q, PySem.W.cellsFrom_some _ _ _ (.inl q)⟩
  refine codeAny_call_function room.rm.depth (kin _ _ look) rfl S.co S.gen rfl (PySem.W.codeRec_of kin code) (bnd _ _ _ _ ?_)
  refine wpAny_newFunctionEnv_cells S.kind kinds fun nenv hne sh1 call => ?_
  subst hne
  refine ⟨nol.keeps call.toInCall.keep, codeAny_func ?_⟩
  obtain ⟨t, run, post⟩ := hbd cdv A out sh H vs Q E ⟨_, _, _, _, look, rfl⟩ (room.deeper _) prom
  have inv : Inv (cxOf CX P w K mg base N qual scope a cdv A out sh H E) [] (start N vs) H sh1 := inv_start S room.rm.hd env0 n1 rv call
  have ends : ∀ {σ1 : L2.St} {H1 : Hp} {v : V} {u : Value} {sh2 : Shared}, Inv (cxOf CX P w K mg base N qual scope a cdv A out sh H E) [] σ1 H1 sh2 → RelV v u → Q v H1 → CE out P w H sh Q u sh2 :=
    fun {_ H1 v _ _} J ru q => ⟨v, H1, J.os, J.bare, J.base, J.hok, ru, q⟩
  refine wpAny_mono (run.run [] sh1 (start N vs) H _ inv post) (fun fl sh2 done => ?_) fun _ _ z => z
  match fl, done with
  | .ret u, ⟨v, _, _, J, ru, q⟩ => exact ends J ru q
  | .next, ⟨_, _, J, q⟩ => exact ends (v := V.non) (u := Value.none) J rfl q
  | .brk, ⟨_, _, _, q⟩ => exact q.elim
  | .cont, ⟨_, _, _, q⟩ => exact q.elim
/-- THE RULE for a def that makes lambdas: its code object is told -/
theorem cal_ofC {g : Gl} {x qual : Str} {params : Arguments} {body : List Stmt} {scope : Scope} {a : Addr} {fd : FuncData} {N ps : List Str} {np n k : Nat} {m : SM} (F : FunD K x qual params body scope [] [] a fd) (gm : mg x = some (.ref a)) (S : FnScope N ps scope)
    (hps : ps.length = np) (hn : N.length = n) (hb : ∀ (kV doc pm : Value) (an : Option Addr) (cdv ct : Value) (us : List Value), us.length = ps.length → bindArgs (PySem.W.fnOf x qual params body scope .none kV doc pm an cdv ct) ⟨us, []⟩ = pure (ps.zip us))
    (h : ∀ (cdv : Value) (A : Around) (outer : List Env) (s : Shared) (H : Hp) (E : XK), CodeVal K a cdv → RoomG k (A.deeper (envOfC qual scope s.heap.objs.size a cdv)) →
      Takes (cxOf (L2.CX P w) P w K mg base N qual scope a cdv A outer s H E) (WD E) →
      PassesOwn (model P w) (A.deeper (envOfC qual scope s.heap.objs.size a cdv)) (envOfC qual scope s.heap.objs.size a cdv) (cxOf (L2.CX P w) P w K mg base N qual scope a cdv A outer s H E).xe →
      DSs g (cxOf (L2.CX P w) P w K mg base N qual scope a cdv A outer s H E) (WD E) body m) : Cal P w K mg base g (k + 1) x (mkF np n m) := by
  refine ⟨a, fd, ps, ?_, gm, F.kp, F.bindsN hb⟩
  refine fnG_ofC F S (fun vs H Q E ⟨p, F, ds, n, r, e, pl, t, hp⟩ => ?_) (fun cdv A outer s H vs Q E hcv hr ⟨p, F, ds, nn, r, e, pl, t, hp⟩ => ?_)
  · rw [r.length, hps]
    unfold mkF at hp
    split at hp
    · assumption
    · exact hp.elim
  · have hl : ds.length = np := by
      unfold mkF at hp
      split at hp
      · assumption
      · exact hp.elim
    unfold mkF at hp
    rw [if_pos hl] at hp
    obtain ⟨t1, b1, b2⟩ := h cdv A outer s H E hcv hr (takes_of rfl rfl rfl rfl) (passes_of rfl)
    refine ⟨t1, b1, b2 p H F [] F _ _ H _ (rel_start r e pl t) ?_⟩
    rw [hn, hl]
    generalize hS : m ⟨ds.map SV.val ++ List.replicate (n - np) .no, nn⟩ = rs at hp
    cases rs with
    | nx s' => exact fun σ' F' H' A' Y' e' => hp .non F' H' Y'.gr0 Y'.pl .non
    | bk s' => exact hp.elim
    | ct s' => exact hp.elim
    | exc c m s' => exact fun cls d σ' F' H' A' Y' e' z => hp cls d F' H' Y'.gr0 Y'.pl z
    | stuck => exact hp.elim
    | rt v s' => cases v with
      | val d => exact fun v σ' F' H' A' Y' e' r' => hp v F' H' Y'.gr0 Y'.pl r'
      | own l => exact fun a vs σ' F' H' A' Y' e' r' k1 k2 k3 k4 => hp a vs F' H' Y'.gr0 Y'.pl r' k1 k2 k3 k4
      | no => exact hp.elim
      | dct l => exact hp.elim
end

/-! ### the end -/
/-- the law's def, called on its script; cs: code objects and their tables, still empty -/
theorem law_callT {P : Program} {w : World} {K : PySem.W.Frag} {mg mb : Str → Option Value} {CX : CXT} {k : Nat} {fa a : Addr} {cs : List (Addr × Addr)} {fd : FuncData} {x : Str} {sp : Sp} {sh : Shared} {vs : List Value} {ns : List Int}
    (kin : K.In sh.heap) (gns : sh.heap.Ns mainGlobals mg) (bns : sh.heap.Ns builtinsNs mb) (bb : ∀ x : Str, x ≠ "__name__" → mb x = bootBuiltins x) (nol : sh.heap.NoLimit) (gen : sh.gens = #[])
    (tabs : ∀ q ∈ cs, sh.heap.get? q.2 = some { cls := .none, data := .fields #[] }) (noT : ∀ q ∈ cs, K.lookup q.2 = none) (heads : ∀ q ∈ cs, PySem.W.CodeHd sh.heap q.1 q.2)
    (bm : ∃ (bm : Addr) (ob : Obj), mg "__builtins__" = some (.ref bm) ∧ bm ≠ builtinsNs ∧ sh.heap.get? bm = some ob ∧ ob.cls = .type "module" ∧ ob.dict = some builtinsNs ∧ ob.data = .plain)
    (obj : sh.heap.get? a = some { cls := .type "list", data := .seq vs.toArray }) (nums : IntsAre vs ns) (short : ns.length ≤ sizeLine) (room : RoomG k callerA)
    (D : ∀ base : Heap, K.In base → base.Ns mainGlobals mg → (∀ q ∈ cs, TabB base mg q.1 q.2) → FnG P w K mg base CX k fa fd [x] sp) (bind : ∀ (s : Shared) (u : Value), BindsTo s fd ⟨[u], []⟩ [(x, u)])
    (prom : ∀ H : Hp, (∀ q ∈ cs, H q.2 = some (.tbl #[])) → (∀ b, H b = none ∨ b ∈ cs.map (·.2) ∨ ∃ o xs, H b = some (.frz o (.lst xs))) → SqL K H a (ns.map V.int) → sp [.ref a] H (fun v _ => v = .bl true) fun _ _ _ => False)
    (noX : ∀ H e s', CX [] H sh (fun _ _ _ => False) e s' → False) :
    codeAny (model P w) callerA (.call (.ref fa) ⟨[.ref a], []⟩) (fun r s' => r = .ok (.ret (.bool true)) ∧ OldK sh.heap s'.heap ∧ s'.os = sh.os ∧ AllBare s'.gens) sh := by
  have rvs := vals_ints nums
  have n1 := nums.length
  have tabAt : ∀ b ∈ cs.map (·.2), sh.heap.get? b = some { cls := .none, data := .fields #[] } := by
    intro b hb
    obtain ⟨q, hq, rfl⟩ := List.mem_map.mp hb
    exact tabs q hq
  have tabIn : ∀ q ∈ cs, q.2 ∈ cs.map (·.2) := fun q hq => List.mem_map_of_mem hq
  have aOut : a ∉ cs.map (·.2) := by
    intro hm
    have z := tabAt a hm
    rw [obj] at z
    cases z
  have main : ∀ H : Hp, (∀ q ∈ cs, H q.2 = some (.tbl #[])) → (∀ b, H b = none ∨ b ∈ cs.map (·.2) ∨ ∃ o xs, H b = some (.frz o (.lst xs))) → SqL K H a (ns.map V.int) → HOk P w H sh.heap → (∀ b, H b ≠ none → b = a ∨ b ∈ cs.map (·.2)) → (H a ≠ none → K.lookup a = none) →
      codeAny (model P w) callerA (.call (.ref fa) ⟨[.ref a], []⟩) (fun r s' => r = .ok (.ret (.bool true)) ∧ OldK sh.heap s'.heap ∧ s'.os = sh.os ∧ AllBare s'.gens) sh := by
    intro H htab hkind seq hok at_ noK
    -- what is no list and no empty table is in the base
    have free : ∀ {b : Addr} {o : Obj}, sh.heap.get? b = some o → (∀ us n, o.data ≠ .seq us n) → o.data ≠ .fields #[] → H b = none := by
      intro b o e d1 d2
      cases q : H b with
      | none => rfl
      | some u =>
        exfalso
        rcases at_ b (by rw [q]; exact Option.some_ne_none _) with rfl | hm
        · rw [obj] at e; cases e; exact d1 _ _ rfl
        · rw [tabAt b hm] at e; cases e; exact d2 rfl
    have nsAt : ∀ {b : Addr} {m : Str → Option Value}, sh.heap.Ns b m → (hidT sh.heap H).Ns b m := by
      rintro b m ⟨o, es, ep, q1, q2, q3⟩
      exact ⟨o, es, ep, hidT_get q1 (free q1 (fun us n z => by rw [q2] at z; cases z) (fun z => by rw [q2] at z; cases z)), q2, q3⟩
    have kinB : K.In (hidT sh.heap H) := fun b o q => by
      refine hidT_get (kin b o q) ?_
      cases z : H b with
      | none => rfl
      | some u =>
        rcases at_ b (by rw [z]; exact Option.some_ne_none _) with rfl | hm
        · rw [noK (by rw [z]; exact Option.some_ne_none _)] at q; cases q
        · obtain ⟨t, ht, rfl⟩ := List.mem_map.mp hm
          rw [noT t ht] at q; cases q
    obtain ⟨mc, lim1, lim2⟩ := nol
    have md : Mod K mg (hidT sh.heap H) := ⟨kinB, nsAt gns, ⟨mb, nsAt bns, bb⟩, ⟨mc, nsAt lim1, lim2⟩⟩
    have tb : ∀ q ∈ cs, TabB (hidT sh.heap H) mg q.1 q.2 := by
      intro q hq
      have eT := tabs q hq
      obtain ⟨bm0, ob, b1, b2, b3, b4, b5, b6⟩ := bm
      obtain ⟨oG, esG, epG, g1, g2, _⟩ := gns
      refine ⟨?_, ⟨bm0, ob, b1, b2, fun z => ?_, fun z => ?_, hidT_get b3 (free b3 (fun us n z => by rw [b6] at z; cases z) (fun z => by rw [b6] at z; cases z)), b4, b5, b6⟩, fun z => ?_⟩
      · obtain ⟨o, us, file, tf, flags, tg, inF, text, tt, c1, c2, c3, c4, c5, c6, c7, c8, c9, c10⟩ := heads q hq
        refine ⟨o, us, file, tf, flags, tg, inF, text, tt, hidT_get c1 (free c1 (fun us n z => ?_) (fun z => ?_)), c2, c3, c4, c5, c6, c7, c8, c9, c10⟩
        · rw [c3] at z; cases z
        · rw [c3] at z
          cases z
          simp at c4
      · rw [z, g1] at b3
        cases b3
        rw [g2] at b6; cases b6
      · rw [z, eT] at b3
        cases b3
        cases b6
      · rw [z, eT] at g1
        cases g1
        cases g2
    have env0 : Env0 P w K mg (hidT sh.heap H) callerA [] sh H := ⟨rfl, md, fun b o q => of_hidT q, Nat.le_of_eq (hidT_size _ _), trivial, (fun b hb => by cases hb), hok, .of_eq gen⟩
    have ran := (D _ kinB (nsAt gns) tb).run callerA [] sh H ⟨[.ref a], []⟩ [.ref a] [.ref a] _ _ room env0 (bind sh (.ref a)) (.cons rfl .nil) (prom H htab hkind seq)
    refine codeAny_mono ran ?_
    rintro (e | fl) s' got
    · exact (noX H e s' got).elim
    · cases fl with
      | ret u =>
        obtain ⟨v, H1, os, bare, un, hok1, ru, q⟩ := got
        cases (show v = .bl true from q)
        cases (show u = Value.bool true from ru)
        have kept : ∀ b o, b ∉ cs.map (·.2) → sh.heap.get? b = some o → s'.heap.get? b = some o := by
          intro b o nb gb
          rcases hkind b with z | z | ⟨ob, xs, z⟩
          · exact un.keep b o gb z (fun hb => by cases hb) (fun hb => by cases hb)
          · exact absurd z nb
          · have y1 := (hok b _ z).1
            have y2 := (hok1 b _ (un.frzs b ob _ z)).1
            rw [gb] at y1
            cases y1
            exact y2
        have grew : ∀ t ∈ cs, ∃ more : Array Value, s'.heap.get? t.2 = some { cls := .none, data := .fields more } := by
          intro t ht
          obtain ⟨more, z⟩ := un.tbls t.2 #[] (htab t ht)
          exact ⟨_, hok1 t.2 _ z⟩
        refine ⟨rfl, ⟨fun b o e => ?_, fun b o e => ?_⟩, os, bare⟩
        · by_cases hb : b ∈ cs.map (·.2)
          · obtain ⟨t, ht, rfl⟩ := List.mem_map.mp hb
            obtain ⟨more, hm⟩ := grew t ht
            rw [tabs t ht] at e
            cases e
            exact .inr (.inl ⟨((heads t ht).tab (tabs t ht)).isCodeTable, rfl, #[], more, rfl, by rw [Array.empty_append]; exact hm⟩)
          · exact .inl (kept b o hb e)
        · by_cases hb : b ∈ cs.map (·.2)
          · obtain ⟨t, ht, rfl⟩ := List.mem_map.mp hb
            obtain ⟨more, hm⟩ := grew t ht
            exact ⟨_, hm⟩
          · exact ⟨o, kept b o hb e⟩
      | next => exact False.elim got
      | brk => exact False.elim got
      | cont => exact False.elim got
  let H0 : Hp := fun b => if b ∈ cs.map (·.2) then some (.tbl #[]) else none
  have h0i : ∀ {b}, b ∈ cs.map (·.2) → H0 b = some (.tbl #[]) := fun hb => if_pos hb
  have h0o : ∀ {b}, b ∉ cs.map (·.2) → H0 b = none := fun hb => if_neg hb
  have tbOk : ∀ {H : Hp} {b : Addr}, b ∈ cs.map (·.2) → ObjOk P w H sh.heap b (.tbl #[]) := fun {H b} hb => tabAt b hb
  cases own : K.lookup a with
  | some o =>
    have same := kin a o own
    rw [obj] at same
    cases same
    refine main H0 (fun q hq => h0i (tabIn q hq)) (fun b => ?_) (.inr ⟨_, vs.toArray, _, own, rfl, rfl, rfl, ?_, ?_⟩) (fun b u z => ?_) (fun b z => ?_) fun z => (z (h0o aOut)).elim
    · by_cases hb : b ∈ cs.map (·.2)
      · exact .inr (.inl hb)
      · exact .inl (h0o hb)
    · rw [List.size_toArray, n1]; exact short
    · simpa using rvs
    · by_cases hb : b ∈ cs.map (·.2)
      · rw [h0i hb] at z; cases z; exact tbOk hb
      · rw [h0o hb] at z; cases z
    · by_cases hb : b ∈ cs.map (·.2)
      · exact .inr hb
      · exact (z (h0o hb)).elim
  | none =>
    let H1 : Hp := upd H0 a (.frz { cls := .type "list", data := .seq vs.toArray } (.lst (ns.map V.int)))
    have ne : ∀ {b}, b ∈ cs.map (·.2) → b ≠ a := fun hb z => aOut (by rw [← z]; exact hb)
    refine main H1 (fun q hq => (upd_ne (ne (tabIn q hq))).trans (h0i (tabIn q hq))) (fun b => ?_) (.inl (.inr ⟨_, upd_same⟩)) (fun b u z => ?_) (fun b z => ?_) fun _ => own
    · by_cases hb : b = a
      · subst hb; exact .inr (.inr ⟨_, _, upd_same⟩)
      · by_cases hb2 : b ∈ cs.map (·.2)
        · exact .inr (.inl hb2)
        · exact .inl ((upd_ne hb).trans (h0o hb2))
    · by_cases hb : b = a
      · subst hb
        have z1 := upd_same.symm.trans z
        cases z1
        exact ⟨obj, by rw [List.length_map]; exact short, vs, _, rvs, obj⟩
      · have z1 := (upd_ne hb).symm.trans z
        by_cases hb2 : b ∈ cs.map (·.2)
        · rw [h0i hb2] at z1; cases z1; exact tbOk hb2
        · rw [h0o hb2] at z1; cases z1
    · by_cases hb : b = a
      · exact .inl hb
      · by_cases hb2 : b ∈ cs.map (·.2)
        · exact .inr hb2
        · exact (z ((upd_ne hb).trans (h0o hb2))).elim
theorem walk_endT {l : PySem.W.OpenLaw} {n k : Nat} {q : Program} {loose : List Str} {XP : (Str → Option Value) → Heap → Prop} {YP : World → Heap → Prop} {d : DefRec} {x : Str} {m : FM} {L : Nat → Option LamD}
    (hn : l.most = some n) (hn2 : n ≤ sizeLine) (hdf : d.params.defaults = []) (hr : RoomG k callerA)
    (F : ∀ (w : World) (mg : Str → Option Value) (fa : Addr) (h : Heap), YP w h → h.Ns mainGlobals mg → mg d.name = some (.ref fa) →
      ∃ (K : PySem.W.Frag) (fd : FuncData) (cs : List (Addr × Addr)) (T : List (Addr × Str)), K.In h ∧ (∀ t ∈ T, t.1 ∈ cs.map (·.2)) ∧ (∀ q ∈ cs, h.get? q.2 = some { cls := .none, data := .fields #[] }) ∧ (∀ q ∈ cs, K.lookup q.2 = none) ∧ (∀ q ∈ cs, PySem.W.CodeHd h q.1 q.2) ∧ (∀ (s : Shared) (u : Value), BindsTo s fd ⟨[u], []⟩ [(x, u)]) ∧
        ∀ base : Heap, K.In base → base.Ns mainGlobals mg → (∀ q ∈ cs, TabB base mg q.1 q.2) → FnG l.prog w K mg base (L2.CX l.prog w) k fa fd [x] (spF (GL K mg L T) m))
    (law : ∀ ns : List Int, ns.length ≤ n → ∃ z, m [.kst (ns.map .int)] 0 = .ok (.val (.bl true)) z) :
    PySem.W.WalkO q loose XP YP l.row.toRowW d [] (fun f vs => PySem.call f vs) := by
  refine Att.attach_call hn hdf fun w s₀ s₁ mg mb fa o pm cd doc a vs ns G Y ho hd hcd hmg hobj hints hlen hg => ?_
  obtain ⟨K, fd, cs, T, KX, hT, t1, t2, t3, hb, hF⟩ := F w mg fa _ Y G.T.g hmg
  refine law_callT KX G.T.g G.T.b G.T.builtins G.T.nolimit hg t1 t2 t3 G.T.bmain hobj hints (Nat.le_trans hlen hn2) hr hF hb (fun H htab hkind hS => ?_) fun H e s' h => noCX h
  obtain ⟨z, e⟩ := law ns hlen
  have rs : ∀ {F : Hp} (ns : List Int), Reps (GL K mg L T) none F (ns.map V.int) (ns.map D.int) := fun {F} ns => by
    induction ns with
    | nil => exact .nil
    | cons n r ih => exact .cons (.int n) ih
  have out : ∀ {b : Addr} {o : Obj} {xs : List V}, H b = some (.frz o (.lst xs)) → b ∉ cs.map (·.2) := fun {b o xs} e hm => by
    obtain ⟨t, ht, rfl⟩ := List.mem_map.mp hm
    rw [htab t ht] at e; cases e
  refine ⟨none, strip (cs.map (·.2)) H, [.kst (ns.map .int)], 0, .cons (.kst ?_ (rs ns)) .nil, fun b o e => (strip_some e).2, ⟨fun _ z => (by cases z), fun b ps z => ?_⟩, fun t ht => ?_, ?_⟩
  · rcases hS with (h1 | ⟨ob, h1⟩) | h1
    · rcases hkind a with y | y | ⟨ob, xs, y⟩
      · rw [h1] at y; cases y
      · obtain ⟨t, ht, e2⟩ := List.mem_map.mp y
        rw [← e2, htab t ht] at h1; cases h1
      · rw [h1] at y; cases y
    · exact .inl (.inr ⟨ob, by rw [strip_out (out h1)]; exact h1⟩)
    · exact .inr h1
  · obtain ⟨z1, z2⟩ := strip_some z
    rcases hkind b with y | y | ⟨ob, xs, y⟩
    · rw [z2] at y; cases y
    · exact z1 y
    · rw [z2] at y; cases y
  · obtain ⟨t2, ht2, e2⟩ := List.mem_map.mp (hT t ht)
    rw [← e2]
    exact TabS.nil (htab t2 ht2)
  · rw [e]
    intro v F' H' _ _ r
    cases r
    rfl
end Pd

/-! Pf, part I: the hook with tables of code objects. -/
namespace Pd
open PySem PySem.Spec PyProof.Rows L2 He LamX

structure SaysL (ck : List Ck) (fa : List Fa) (fn : List DefD) (tf : List Defn) (h : Heap) (K : PySem.W.Frag) : Prop where
  x : Pd.SaysX ck fa fn K
  hd : ∀ p ∈ tf, PySem.W.codeHdIn K (cT K p).1 (cT K p).2 = true
  out : ∀ p ∈ tf, K.lookup (cT K p).2 = none
  empty : ∀ p ∈ tf, h.get? (cT K p).2 = some { cls := .none, data := .fields #[] }
  nd : (tf.map fun p => (cT K p).2).Nodup
abbrev AlL : Type := Pd.AlX × Bool
def obsLK (ck : List Ck) (fa : List Fa) (fn : List DefD) (tf : List Defn) (g : Addr → Option Obj) (K : PySem.W.Frag) : AlL := (Pd.obsX ck fa fn K, tabsB g tf K && decide (tf.map fun p => (cT K p).2).Nodup)
def obsL (n : Nat) (ck : List Ck) (fa : List Fa) (fn : List DefD) (tf : List Defn) (g : Addr → Option Obj) : AlL := obsLK ck fa fn tf g (frT g (asD g n))
theorem saysL_of {n : Nat} {ck : List Ck} {fa : List Fa} {fn : List DefD} {tf : List Defn} {h : Heap} (e : obsL n ck fa fn tf h.get? = ((true, valD fn), true)) : SaysL ck fa fn tf h (frT h.get? (asD h.get? n)) := by
  have e1 : Pd.obsX ck fa fn (frT h.get? (asD h.get? n)) = (true, valD fn) := congrArg (fun z : AlL => z.1) e
  have e2 : (tabsB h.get? tf (frT h.get? (asD h.get? n)) && decide (tf.map fun p => (cT (frT h.get? (asD h.get? n)) p).2).Nodup) = true := congrArg (fun z : AlL => z.2) e
  obtain ⟨h1, h2⟩ := ba e2
  have one : ∀ p ∈ tf, PySem.W.codeHdIn (frT h.get? (asD h.get? n)) (cT (frT h.get? (asD h.get? n)) p).1 (cT (frT h.get? (asD h.get? n)) p).2 = true ∧ ∃ o, h.get? (cT (frT h.get? (asD h.get? n)) p).2 = some o ∧ emptyTab o = true := fun p hp => by
    obtain ⟨h3, h4⟩ := ba (List.all_eq_true.mp h1 p hp)
    refine ⟨h3, ?_⟩
    cases q : h.get? (cT (frT h.get? (asD h.get? n)) p).2 with
    | some o => rw [q] at h4; exact ⟨o, rfl, h4⟩
    | none => rw [q] at h4; cases h4
  refine ⟨e1, fun p hp => (one p hp).1, fun p hp => ?_, fun p hp => ?_, of_decide_eq_true h2⟩
  · obtain ⟨_, o, q, z⟩ := one p hp
    exact frT_none q z
  · obtain ⟨_, o, q, z⟩ := one p hp
    rw [q, emptyTab_eq z]
def hookL (n : Nat) (ck : List Ck) (fa : List Fa) (fn : List DefD) (tf : List Defn) : PySem.W.Hook where
  α := AlL
  obs := fun s => obsL n ck fa fn tf s.heap.get?
  val := fun _ => ((true, valD fn), true)
  says := fun _ h => ∃ K : PySem.W.Frag, K.In h ∧ SaysL ck fa fn tf h K
  of := fun _ _ e => ⟨_, frT_in, saysL_of e⟩
  keeps := fun _ _ _ ⟨K, hK, c⟩ k => ⟨K, PySem.W.Frag.In.keeps hK k, ⟨c.x, c.hd, c.out, fun p hp => k _ _ (c.empty p hp), c.nd⟩⟩
theorem obsL_eq {n : Nat} {ck : List Ck} {fa : List Fa} {fn : List DefD} {tf : List Defn} {g : Addr → Option Obj} {s : Shared} (h : ∀ a, g a = s.heap.get? a) : obsL n ck fa fn tf g = (hookL n ck fa fn tf).obs s := by
  have e : g = s.heap.get? := funext h
  rw [e] <;> rfl
/-- the tables of the defs that make lambdas, each with its lambda's name -/
def tabsT (K : PySem.W.Frag) (l : List (Defn × Str)) : List (Addr × Str) := l.map fun q => ((cT K q.1).2, q.2)
def tabsC (K : PySem.W.Frag) (tf : List Defn) : List (Addr × Addr) := tf.map (cT K)
theorem nodup_one {α β : Type} {f : α → β} : ∀ {l : List α}, (l.map f).Nodup → ∀ {x y : α}, x ∈ l → y ∈ l → f x = f y → x = y
  | z :: r, hn, x, y, hx, hy, e => by
    rw [List.map_cons, List.nodup_cons] at hn
    rcases List.mem_cons.mp hx with hx | hx <;> rcases List.mem_cons.mp hy with hy | hy
    · rw [hx, hy]
    · exact absurd (by rw [← hx, e]; exact List.mem_map_of_mem hy) hn.1
    · exact absurd (by rw [← hy, ← e]; exact List.mem_map_of_mem hx) hn.1
    · exact nodup_one hn.2 hx hy e
section
variable {ck : List Ck} {fa : List Fa} {fn : List DefD} {K : PySem.W.Frag} {h base : Heap} {mg : Str → Option Value} {l : List (Defn × Str)} {p : Defn} {qual x q0 : Str} {params : Arguments} {body : List Stmt} {scope : Scope} {fd : FuncData}
theorem mkL_of (c : SaysL ck fa fn (l.map (·.1)) h K) (one : (l.map (·.1)).Nodup) (hm : (p, qual) ∈ l) (F : FunD K x q0 params body scope [] [] (fAd K p) fd) (tb : ∀ q ∈ tabsC K (l.map (·.1)), TabB base mg q.1 q.2) : MkL K mg base (fAd K p) (tabsT K l) qual := by
  have hp : p ∈ l.map (·.1) := List.mem_map_of_mem (f := (·.1)) hm
  obtain ⟨oc, od, dV, kV, doc, pm, an, cdv, ct, osl, hfd, look, code, _, _⟩ := F.ex
  obtain ⟨c1, rfl⟩ := codeIn_ref code
  subst hfd
  have e1 := codeOf_eq look (c := c1) rfl
  refine ⟨c1, (cT K p).2, ?_, ?_, List.mem_map.mpr ⟨(p, qual), hm, rfl⟩, fun q hq e => ?_⟩
  · rintro cdv ⟨oc2, od2, fd2, osl2, k1, k2⟩
    rw [look] at k1
    cases k1
    exact k2.symm
  · have z := tb (cT K p) (List.mem_map_of_mem hp)
    have e2 : (cT K p).1 = c1 := e1
    rw [e2] at z
    exact z
  · obtain ⟨⟨p2, q2⟩, hq2, rfl⟩ := List.mem_map.mp hq
    have hp2 : p2 ∈ l.map (·.1) := List.mem_map_of_mem (f := (·.1)) hq2
    have e2 : p2 = p := nodup_one c.nd hp2 hp e
    subst e2
    have e3 := nodup_one one hq2 hm rfl
    exact congrArg (·.2) e3
theorem tabs_facts (c : SaysL ck fa fn (l.map (·.1)) h K) (kin : K.In h) : (∀ t ∈ tabsT K l, t.1 ∈ (tabsC K (l.map (·.1))).map (·.2)) ∧ (∀ q ∈ tabsC K (l.map (·.1)), h.get? q.2 = some { cls := .none, data := .fields #[] }) ∧ (∀ q ∈ tabsC K (l.map (·.1)), K.lookup q.2 = none) ∧ ∀ q ∈ tabsC K (l.map (·.1)), PySem.W.CodeHd h q.1 q.2 := by
  refine ⟨fun t ht => ?_, fun q hq => ?_, fun q hq => ?_, fun q hq => ?_⟩
  · obtain ⟨⟨p, s⟩, hp, rfl⟩ := List.mem_map.mp ht
    exact List.mem_map_of_mem (List.mem_map_of_mem (List.mem_map_of_mem (f := (·.1)) hp))
  · obtain ⟨p, hp, rfl⟩ := List.mem_map.mp hq
    exact c.empty p hp
  · obtain ⟨p, hp, rfl⟩ := List.mem_map.mp hq
    exact c.out p hp
  · obtain ⟨p, hp, rfl⟩ := List.mem_map.mp hq
    exact PySem.W.codeHd_of_K kin (c.hd p hp)
end
end Pd

/-! Pf, part J: a list of one's own added to, or handed to a def, as it stands: it isn't frozen by that. -/
namespace Pd
open PySem PySem.Spec PyProof.Rows L2

def ownOf (s : S) (i : Nat) : Option (List D) := match s.sl[i]? with
  | some (.own l) => some l
  | _ => none
theorem ownOf_some {s : S} {i : Nat} {l : List D} (h : ownOf s i = some l) : s.sl[i]? = some (.own l) := by
  unfold ownOf at h
  split at h
  · rename_i l' q
    cases h
    exact q
  · cases h
def addAt (i : Nat) (y : D) (s1 : S) : R SV := match ownOf s1 i, y with
  | some l, .lst m => if l.length + m.length ≤ sizeLine then .ok (.own (l ++ m)) s1 else .stuck
  | _, _ => .stuck
/-- x + e, x a name of the def that holds a list of its own -/
def oAddV (i : Nat) (b : EM) : OM := fun s => match ownOf s i with
  | none => .stuck
  | some _ => (b s).bind (addAt i)
section
variable {g : Gl} {X : Cx} {W : WX} {a b : Expr} {mb : EM} {pos : Pos} {i : Nat}
theorem simO_addV {tb : TE} (b2 : Sim g W (RepV g) tb mb) : SimO g W (tOp rCatS (tVar i) tb) (oAddV i mb) := by
  intro p H0 F0 A F s σ H Q Y hp
  unfold oAddV at hp
  cases q0 : ownOf s i with
  | none => rw [q0] at hp; exact hp.elim
  | some l0 =>
    rw [q0] at hp
    obtain ⟨a0, vs0, hv, _⟩ := Y.sl.getOwn (ownOf_some q0)
    refine ⟨_, hv, b2 p H0 F0 A F s σ H _ Y (PostO.bind (k := addAt i) hp fun y s1 w F1 H1 A1 Y1 e1 r1 hp1 => ?_)⟩
    unfold addAt at hp1
    cases q : ownOf s1 i with
    | none => rw [q] at hp1; exact hp1.elim
    | some l =>
      rw [q] at hp1
      cases y with
      | lst m =>
        obtain ⟨a1, vs1, hv1, _, h3, rl⟩ := Y1.sl.getOwn (ownOf_some q)
        obtain rfl : a1 = a0 := by
          have := hv1.symm.trans hv
          cases this; rfl
        have hp2 : PostO g W p H0 F0 F1 σ Q (if l.length + m.length ≤ sizeLine then .ok (.own (l ++ m)) s1 else .stuck) := hp1
        by_cases hl : l.length + m.length ≤ sizeLine
        · rw [if_pos hl] at hp2
          cases r1 with
          | lst k1 k2 =>
            refine ⟨a1, _, vs1, _, rfl, rfl, .inl h3, ext_rd Y1.ext k1, by rw [rl.length, k2.length]; exact hl, fun q nq => ?_⟩
            have G := fun zs => Gr.lay (g := g) (p := none) (o := HO.lst zs) Y1.ext Y1.tb nq
            obtain ⟨j1, j2, j3, j4⟩ := Y1.fresh nq
            exact hp2 q _ _ _ A1 (Y1.grow (G _)) (Ext.refl _) (rl.append k2) upd_same j1 j2 j3 j4
        · rw [if_neg hl] at hp2; exact hp2.elim
      | _ => exact hp1.elim
theorem do_addV (ha : PE X a (tVar i)) (hb : DE g X W b mb) : DO g X W (.BinOp a .Add b pos) (oAddV i mb) := by
  obtain ⟨tb, b1, b2⟩ := hb
  exact ⟨_, pe_op op_catS ha b1, simO_addV b2⟩
end
/-! ### a call -/
def pln : D → Bool
  | .non | .bl _ | .int _ | .str _ => true
  | _ => false
theorem Rep.pln {g : Gl} {p p' : Option Addr} {F F' : Hp} {v : V} {d : D} (r : Rep g p F v d) (h : Pd.pln d = true) : Rep g p' F' v d := by
  cases d <;> first | (cases h; done) | (cases r; constructor)
def callB (f : FM) (i : Nat) (ds : List D) (s1 : S) : R SV := match ownOf s1 i with
  | some l => (match f (.lst l :: ds) s1.pile with
    | .ok (.val d) n => if pln d = true then .ok (.val d) { s1 with pile := n } else .stuck
    | _ => .stuck)
  | none => .stuck
/-- f(x, ..), x a name of the def that holds a list of its own; what comes back is plain -/
def oCallB (f : FM) (i : Nat) (m : AM) : OM := fun s => match ownOf s i with
  | none => .stuck
  | some _ => (m s).bind (callB f i)
section
variable {g : Gl} {X : Cx} {W : WX} {k : Nat} {f : FM} {x : Str} {p' pos : Pos} {e0 : Expr} {es : List Expr} {m : AM} {i : Nat}
theorem do_callB (C : Cal X.prog X.w X.K X.mg X.base g k x f) (hr : RoomG k X.A) (hg : L2.Gl X x) (tk : Takes X W) (h0 : PE X e0 (tVar i)) (ha : DA g X W es m)
    (hdb : (x == ("__debug__" : Str)) = false := by decide) (he : starEach (e0 :: es) X.env = (false, eval e0 X.env) :: starEach es X.env := by rfl) (hpl : (backTo pos (starEach es X.env)).any (·.1) = false := by rfl) : DO g X W (.Call (.Name x p') (e0 :: es) [] pos) (oCallB f i m) := by
  obtain ⟨a, fd, ps, FF, gm, kp, b⟩ := C.ex
  obtain ⟨t, a1, a2⟩ := ha
  refine ⟨_, pe_callG FF hr hg gm kp b (fun σ => passAt tk σ) (pa_cons h0 a1 he) hdb he hpl, fun p H0 F0 A F s σ H Q Y hp => ?_⟩
  unfold oCallB at hp
  cases q0 : ownOf s i with
  | none => rw [q0] at hp; exact hp.elim
  | some l0 =>
    rw [q0] at hp
    obtain ⟨a0, vs0, hv, _⟩ := Y.sl.getOwn (ownOf_some q0)
    refine ⟨_, hv, a2 p H0 F0 A F s σ H _ Y (PostO.bind (k := callB f i) hp fun ds s1 vs F1 H1 A1 Y1 e1 r1 hp1 => ?_)⟩
    unfold callB at hp1
    cases q : ownOf s1 i with
    | none => rw [q] at hp1; exact hp1.elim
    | some l =>
      rw [q] at hp1
      obtain ⟨b0, vs1, hv1, mA, h3, rl⟩ := Y1.sl.getOwn (ownOf_some q)
      obtain rfl : b0 = a0 := by
        have := hv1.symm.trans hv
        cases this; rfl
      obtain ⟨_, fn, np, _⟩ := Y1.sl.facts b0 mA
      have e2 : Ext F1 (upd F1 b0 (.lst vs1)) := Ext.new fn
      have e3 : Ext (upd F1 b0 (.lst vs1)) H1 := fun c o z => by
        by_cases h : c = b0
        · subst h
          rw [upd_same] at z
          cases z; exact h3
        · rw [upd_ne h] at z; exact Y1.ext c o z
      have pl2 : PileOk p s1.pile (upd F1 b0 (.lst vs1)) H1 := by
        refine ⟨fun c z => ?_, fun c ps z => ?_⟩
        · obtain ⟨z1, z2⟩ := Y1.pl.1 c z
          exact ⟨by rw [upd_ne (fun w => np (by rw [z, w]))]; exact z1, z2⟩
        · by_cases h : c = b0
          · subst h
            rw [upd_same] at z; cases z
          · rw [upd_ne h] at z; exact Y1.pl.2 c ps z
      refine ⟨p, upd F1 b0 (.lst vs1), .lst l :: ds, s1.pile, .cons (.lst (.inl upd_same) (rl.mono e2)) (r1.mono e2), e3, pl2, Y1.tb, ?_⟩
      have hp2 : PostO g W p H0 F0 F1 σ Q (match f (.lst l :: ds) s1.pile with
        | .ok (.val d) n => if pln d = true then .ok (.val d) { s1 with pile := n } else .stuck
        | _ => .stuck) := hp1
      cases q2 : f (.lst l :: ds) s1.pile with
      | stuck => rw [q2] at hp2; exact hp2
      | exc c y n => rw [q2] at hp2; exact hp2.elim
      | ok rv n =>
        rw [q2] at hp2
        cases rv with
        | no => exact hp2
        | dct l => exact hp2.elim
        | own l => exact hp2.elim
        | val d =>
          have hp3 : PostO g W p H0 F0 F1 σ Q (if pln d = true then .ok (.val d) { s1 with pile := n } else .stuck) := hp2
          by_cases hd : pln d = true
          · rw [if_pos hd] at hp3
            intro v F3 H3 G P3 r3
            let F4 : Hp := fun c => if c = b0 then none else F3 c
            have f4 : ∀ {c : Addr}, c ≠ b0 → F4 c = F3 c := fun h => if_neg h
            have f4s : ∀ {c : Addr} {o : HO}, F4 c = some o → c ≠ b0 ∧ F3 c = some o := fun {c o} z => by
              by_cases h : c = b0
              · have : F4 c = none := if_pos h
                rw [this] at z; cases z
              · exact ⟨h, by rw [← f4 h]; exact z⟩
            have nf : ∀ {c : Addr} {o : HO}, F1 c = some o → c ≠ b0 := fun {c o} z h => by
              subst h
              rw [fn] at z; cases z
            have G4 : Gr g p F1 H1 F4 H3 := by
              refine ⟨G.hh, G.al, fun c o z => ?_, fun c o z => ?_, fun c o z => G.fh c o (f4s z).2, G.tb, fun c ps z => ?_⟩
              · rw [f4 (nf z)]
                exact G.ff c o (e2 c o z)
              · obtain ⟨h, z1⟩ := f4s z
                rcases G.nw c o z1 with y | y
                · rw [upd_ne h] at y; exact .inl y
                · exact .inr y
              · obtain ⟨h, z1⟩ := f4s z
                have := G.nn c ps z1
                rw [upd_ne h] at this
                exact this
            have P4 : PileOk p n F4 H3 := by
              refine ⟨fun c z => ?_, fun c ps z => P3.2 c ps (f4s z).2⟩
              obtain ⟨z1, z2⟩ := P3.1 c z
              refine ⟨?_, z2⟩
              by_cases h : c = b0
              · exact if_pos h
              · rw [f4 h]; exact z1
            exact hp3 v F4 H3 A1 (Y1.call G4 P4) G4.ff (r3.pln hd)
          · rw [if_neg hd] at hp3; exact hp3.elim
end
end Pd

/-! Pf, part K: min(words, key=f); min of whole numbers; what is never reached. -/
namespace Pd
open PySem PySem.Spec PyProof.Rows L2 LamX NdefX

/-! ### what is never reached -/
def oStuck : OM := fun _ => .stuck
theorem do_stuck {g : Gl} {X : Cx} {W : WX} {e : Expr} : DO g X W e oStuck :=
  ⟨fun _ _ _ => False, ⟨fun _ _ _ _ _ _ h => h.elim⟩, fun _ _ _ _ _ _ _ _ _ _ hp => hp⟩

/-! ### min of whole numbers -/
def minI : List Int → Option Int
  | [] => none
  | i :: r => some (r.foldl min i)
theorem foldl_min : ∀ (l : List Int) (a : Int), l.foldl min a ≤ a ∧ (∀ y ∈ l, l.foldl min a ≤ y) ∧ (l.foldl min a = a ∨ l.foldl min a ∈ l)
  | [], a => ⟨Int.le_refl _, (fun _ h => by cases h), .inl rfl⟩
  | b :: r, a => by
    obtain ⟨h1, h2, h3⟩ := foldl_min r (min a b)
    rw [List.foldl_cons]
    refine ⟨Int.le_trans h1 (by omega), fun y hy => ?_, ?_⟩
    · rcases List.mem_cons.mp hy with rfl | hy
      · exact Int.le_trans h1 (by omega)
      · exact h2 y hy
    · rcases h3 with h3 | h3
      · rw [h3]
        by_cases q : b ≤ a
        · exact .inr (by rw [show min a b = b by omega]; exact List.mem_cons_self ..)
        · exact .inl (by omega)
      · exact .inr (List.mem_cons_of_mem _ h3)
def dMinL : D → Option SV
  | .lst l => ((intsOf l).bind minI).map fun m => .val (.int m)
  | _ => none
theorem rc_minL {g : Gl} : RC1 g (rMin g.K) dMinL := by
  intro p F H v d Q r e t h
  cases d with
  | lst l =>
    obtain ⟨a, vs, rfl, h1, r1⟩ := r.lst e
    have h : OpPO g p F H Q (((intsOf l).bind minI).map fun m => .val (.int m)) := h
    cases q : intsOf l with
    | none => rw [q] at h; exact h.elim
    | some ns =>
      rw [q] at h
      have ev := intsOf_rep r1 q
      subst ev
      cases ns with
      | nil => exact h.elim
      | cons i r =>
        have h : OpPO g p F H Q (some (.val (.int (r.foldl min i)))) := h
        obtain ⟨m1, m2, m3⟩ := foldl_min r i
        refine ⟨a, i :: r, rfl, .inl h1, by simp, fun m hm hle => ?_⟩
        have em : m = r.foldl min i := by
          have k1 : r.foldl min i ≤ m := by
            rcases List.mem_cons.mp hm with rfl | hm
            · exact m1
            · exact m2 m hm
          have k2 : m ≤ r.foldl min i := by
            rcases m3 with m3 | m3
            · rw [m3]; exact hle i (List.mem_cons_self ..)
            · exact hle _ (List.mem_cons_of_mem _ m3)
          omega
        rw [em]
        exact OpPO.val (d := .int _) h e t (.int _)
  | _ => exact h.elim

/-! ### the first least by a key -/
def lessO (u b : List Nat) : Bool := PySem.W.dataLt (keyP u) (keyP b)
def minO (b : List Nat) (r : List (List Nat)) : List Nat := r.foldl (fun b u => if lessO u b = true then u else b) b
theorem minO_mem : ∀ (r : List (List Nat)) (b : List Nat), minO b r ∈ b :: r
  | [], b => List.mem_cons_self ..
  | u :: r, b => by
    show minO (if lessO u b = true then u else b) r ∈ _
    have h := minO_mem r (if lessO u b = true then u else b)
    rcases List.mem_cons.mp h with h | h
    · rw [h]
      split
      · exact List.mem_cons_of_mem _ (List.mem_cons_self ..)
      · exact List.mem_cons_self ..
    · exact List.mem_cons_of_mem _ (List.mem_cons_of_mem _ h)
section
variable {X : Cx} {pins : List (Addr × Obj)} {σ : L2.St} {H F : Hp} {s : Shared} {g : Gl} {p : Option Addr} {k : Nat} {f : FM} {fa : Addr} {fd : FuncData} {x : Str} {n0 : Int} {w0 : List Nat} {ws : List (List Nat)} {l it st : Addr} {Q : VK} {E : Value → Shared → Prop} {kw : List (Str × Value)}
/-- what holds midway: the list is walked from place j on -/
structure At (X : Cx) (g : Gl) (p : Option Addr) (n0 : Int) (F H : Hp) (s : Shared) (l it st : Addr) (j : Nat) (Fi Hi : Hp) (s1 : Shared) : Prop where
  mid : Mid X H s Hi s1
  gr : Gr g p F H Fi Hi
  pl : PileOk p n0 Fi Hi
  z1 : Hi it = none
  z2 : Hi st = none
  walk : s1.heap.IsListIter it l j
theorem words_at {ws : List (List Nat)} {us : List Value} (r : Vals (ws.map fun w => V.str (mkS w)) us) {j : Nat} {w : List Nat} (h : ws[j]? = some w) : ∃ u t, us[j]? = some u ∧ u = Value.str (mkS w) t := by
  obtain ⟨u, h1, h2⟩ := r.get (i := j) (x := .str (mkS w)) (by rw [List.getElem?_map, h]; rfl)
  obtain ⟨t, e⟩ := h2
  exact ⟨u, t, h1, e⟩
/-- the next of the list -/
theorem at_next (I : Inv X pins σ H s) (src : Rd F l (.lst (ws.map fun w => V.str (mkS w)))) (old : l < s.heap.objs.size) (new : s.heap.objs.size ≤ it) (ne : it ≠ st) {j : Nat} {Fi Hi : Hp} {s1 : Shared} (a : At X g p n0 F H s l it st j Fi Hi s1) {w : List Nat} (hw : ws[j]? = some w) {A : Around} {P : Option Value → Shared → Prop} {so : Obj} (hs : s1.heap.get? st = some so)
    (fin : ∀ t s2, At X g p n0 F H s l it st (j + 1) Fi Hi s2 → s2.heap.get? st = some so → P (some (.str (mkS w) t)) s2) : wpAny (model X.prog X.w) A (pyNext (.ref it)) P E s1 := by
  have J := a.mid.inv I
  obtain ⟨us, rv, hL, hz⟩ := J.list (.inl (ext_rd (a.gr.ff.trans a.gr.fh) src))
  obtain ⟨u, t, hu, rfl⟩ := words_at rv hw
  refine wpAny_pyNext_list_item a.walk hL.isList (x := .str (mkS w) t) (by simpa using hu) fun h' hit hb => ?_
  refine fin t _ ⟨a.mid.heap (C := [it]) (t := s1.toks) (fun b o hn e => ?_) (fun c hc => ?_), a.gr, a.pl, a.z1, a.z2, hit⟩ ((hb.2 st (fun z => ne z.symm)).trans hs)
  · rw [List.mem_singleton] at hn
    exact (hb.2 b hn).trans e
  · rw [List.mem_singleton.mp hc]
    exact ⟨new, a.z1⟩
/-- the key of one -/
theorem at_key (I : Inv X pins σ H s) (hK : X.K = g.K) (D : FnG X.prog X.w X.K X.mg X.base (L2.CX X.prog X.w) k fa fd [x] (spF g f)) (room : RoomG (k + 2) X.A) (hb : Binds X.K fd [x] []) (newI : s.heap.objs.size ≤ it) (newS : s.heap.objs.size ≤ st)
    {w : List Nat} (key : f [.str w] n0 = .ok (.val (ordD w)) n0) {j : Nat} {Fi Hi : Hp} {s1 : Shared} (a : At X g p n0 F H s l it st j Fi Hi s1) {t : Tok} {P : Value → Shared → Prop} {so : Obj} (hs : s1.heap.get? st = some so)
    (fin : ∀ u v F3 H3 s2, At X g p n0 F H s l it st j F3 H3 s2 → s2.heap.get? st = some so → Ext Fi F3 → RelV v u → Rep g p F3 v (ordD w) → P u s2) : wpAny (model X.prog X.w) X.A.in1 (call (.ref fa) [.str (mkS w) t]) P E s1 := by
  have J := a.mid.inv I
  have nf : ∀ {b : Addr}, s.heap.objs.size ≤ b → b ∉ frs X.stack := fun {b} hb hm => absurd (Nat.lt_of_lt_of_le (stack_old I hm) hb) (Nat.lt_irrefl _)
  let Q2 : VK := fun v H3 => ∃ F3, Gr g p Fi Hi F3 H3 ∧ PileOk p n0 F3 H3 ∧ Rep g p F3 v (ordD w)
  have prom : spF g f [.str (mkS w)] Hi Q2 (fun _ _ _ => False) := by
    refine ⟨p, Fi, [.str w], n0, .cons (.str _) .nil, a.gr.fh, a.pl, a.gr.tb, ?_⟩
    rw [key]
    exact fun v F3 H3 G P3 r3 => ⟨F3, G, P3, r3⟩
  have b1 := hb s1 [.str (mkS w) t] J.kIn rfl
  rw [List.append_nil] at b1
  refine wpAny_call (codeAny_mono (D.run X.A.in1 X.stack s1 Hi ⟨[.str (mkS w) t], []⟩ [.str (mkS w) t] _ Q2 _ (room.in1.mono (Nat.le_succ k)) J.env0.in1 b1 (.cons (show RelV (.str (mkS w)) _ from ⟨t, rfl⟩) .nil) prom) fun r s3 got => ?_)
  match r, got with
  | .error z, got => exact (noCX got).elim
  | .ok (.ret u), got =>
    obtain ⟨v, H3, os, bare, un, hok3, ruv, F3, G3, P3, r3⟩ := got
    obtain ⟨oi, e1, e2, e3⟩ := id a.walk
    refine fin u v F3 H3 s3 ⟨⟨os.trans a.mid.os, bare, a.mid.un.trans un, hok3⟩, a.gr.trans G3, P3, un.free it _ e1 a.z1 (fun z => nomatch z), un.free st _ hs a.z2 (fun z => nomatch z), ⟨oi, un.keep it _ e1 a.z1 (nf newI) (fun z => nomatch z), e2, e3⟩⟩ (un.keep st _ hs a.z2 (nf newS) (fun z => nomatch z)) G3.ff ruv r3
/-- a key that is tracked reads as its data -/
theorem key_reads (I : Inv X pins σ H s) (hK : X.K = g.K) (e : Ext F H) {w : List Nat} {v : V} {u : Value} (r : Rep g p F v (ordD w)) (q : RelV v u) : ∃ as, Reads s.heap u (keyP w) as := by
  have h := each_of_reps (ws := [w]) I hK e (.cons r .nil) (.cons q .nil)
  cases h with
  | cons a _ => exact a
/-- one more is shown -/
theorem at_seq {j : Nat} {Fi Hi : Hp} {s1 : Shared} (a : At X g p n0 F H s l it st j Fi Hi s1) (new : s.heap.objs.size ≤ st) (ne : it ≠ st) (fn : Obj → Obj) : At X g p n0 F H s l it st j Fi Hi { s1 with heap := s1.heap.update st fn } := by
  have sb := Heap.SameBut.update s1.heap st fn
  obtain ⟨oi, e1, e2, e3⟩ := id a.walk
  refine ⟨a.mid.heap (C := [st]) (t := s1.toks) (fun b o hn e => ?_) (fun c hc => ?_), a.gr, a.pl, a.z1, a.z2, ⟨oi, (sb.2 it ne).trans e1, e2, e3⟩⟩
  · rw [List.mem_singleton] at hn
    exact (sb.2 b hn).trans e
  · rw [List.mem_singleton.mp hc]
    exact ⟨new, a.z2⟩
theorem min_turns (I : Inv X pins σ H s) (hc : X.calm = true) (hK : X.K = g.K) (D : FnG X.prog X.w X.K X.mg X.base (L2.CX X.prog X.w) k fa fd [x] (spF g f)) (room : RoomG (k + 2) X.A) (hb : Binds X.K fd [x] []) (src : Rd F l (.lst (ws.map fun w => V.str (mkS w)))) (old : l < s.heap.objs.size) (newI : s.heap.objs.size ≤ it) (newS : s.heap.objs.size ≤ st) (ne : it ≠ st)
    (key : ∀ w ∈ ws, f [.str w] n0 = .ok (.val (ordD w)) n0) {R : Result → Shared → Prop} :
    ∀ (m j : Nat) (b : List Nat) (Fi Hi : Hp) (s1 : Shared) (vb kb : Value) (v : V) (c : Nat), ws.length - j = m → j ≤ ws.length → At X g p n0 F H s l it st j Fi Hi s1 → s1.heap.get? st = some (seqObj "list" #[vb, kb] c) → RelV (.str (mkS b)) vb → RelV v kb → Rep g p Fi v (ordD b) →
      (∀ F2 H2 s2 u, Mid X H s H2 s2 → Gr g p F H F2 H2 → PileOk p n0 F2 H2 → RelV (.str (mkS (minO b (ws.drop j)))) u → R (.ok (.ret u)) s2) → codeAny (model X.prog X.w) X.A (.builtin "min.loop" ⟨[.ref it, .ref fa, .ref st], kw⟩) R s1 := by
  have nm : (toString "min" ++ toString ".loop" : String) = "min.loop" := by decide
  intro m
  induction m with
  | zero =>
    intro j b Fi Hi s1 vb kb v c hm hj a hs rb rk rv fin
    have ej : j = ws.length := by omega
    have J := a.mid.inv I
    obtain ⟨us, ru, hL, hz⟩ := J.list (.inl (ext_rd (a.gr.ff.trans a.gr.fh) src))
    have lu : us.length = ws.length := by rw [← ru.length, List.length_map]
    refine codeAny_builtin PySem.F.entry_min_loop ?_; rw [Around.under_plainId PySem.F.plain_min_loop _]
    show wpAny _ X.A.in1 (seqItems? (.ref st) >>= _) _ _ s1
    refine wpAny_bind (wpAny_seqItems hs rfl (wpAny_bind (m := tryCatch (pyNext (.ref it)) _) (wpAny_tryCatch ?_)))
    refine wpAny_pyNext_list_end (show X.A.in1.handled = none from J.ok.hd hc) a.walk hL.isList (by rw [List.getElem?_toArray, List.getElem?_eq_none (by omega)]) fun h' hx => ?_
    have ks := hx st _ (fun z => ne z.symm) hs
    have m2 : Mid X H s Hi { s1 with heap := h' } := a.mid.heap (C := [it]) (t := s1.toks) (fun b o hn e => hx b o (fun z => hn (List.mem_singleton.mpr z)) e) (fun c hc => by rw [List.mem_singleton.mp hc]; exact ⟨newI, a.z1⟩)
    have sb := Heap.SameBut.update h' st (Obj.mapSeq fun _ => (#[] : Array Value))
    show wpAny _ X.A.in1 (updateSeq st (fun _ => #[]) >>= _) _ _ _
    refine wpAny_bind (wpAny_updateSeq ks rfl (wpAny_bind (wpAny_letGo (wpAny_pure ?_))))
    refine fin Fi Hi _ vb (m2.heap (C := [st]) (t := s1.toks) (fun b o hn e => ?_) (fun c hc => ?_)) a.gr a.pl ?_
    · rw [List.mem_singleton] at hn
      exact (sb.2 b hn).trans e
    · rw [List.mem_singleton.mp hc]
      exact ⟨newS, a.z2⟩
    · rw [ej, List.drop_length]
      exact rb
  | succ m ih =>
    intro j b Fi Hi s1 vb kb v c hm hj a hs rb rk rv fin
    have hlt : j < ws.length := by omega
    have hw : ws[j]? = some ws[j] := List.getElem?_eq_getElem hlt
    have hd : ws.drop j = ws[j] :: ws.drop (j + 1) := List.drop_eq_getElem_cons hlt
    rw [hd] at fin
    refine codeAny_builtin PySem.F.entry_min_loop ?_; rw [Around.under_plainId PySem.F.plain_min_loop _]
    show wpAny _ X.A.in1 (seqItems? (.ref st) >>= _) _ _ s1
    refine wpAny_bind (wpAny_seqItems hs rfl (wpAny_bind (m := tryCatch (pyNext (.ref it)) _) (wpAny_tryCatch ?_)))
    refine at_next I src old newI ne a hw hs fun t s2 a2 hs2 => ?_
    show wpAny _ X.A.in1 (tryCatch (holding [.str (mkS ws[j]) t] (call (.ref fa) [.str (mkS ws[j]) t])) _ >>= _) _ _ s2
    refine wpAny_bind (wpAny_tryCatch (wpAny_holding (at_key I hK D room hb newI newS (key _ (List.getElem_mem hlt)) a2 hs2 fun u v3 F3 H3 s3 a3 hs3 ex ru r3 => ?_)))
    obtain ⟨a1s, rd1⟩ := key_reads (a3.mid.inv I) hK a3.gr.fh r3 ru
    obtain ⟨a2s, rd2⟩ := key_reads (a3.mid.inv I) hK a3.gr.fh (rv.mono ex) rk
    have al : PySem.W.alike (keyP ws[j]) (keyP b) = true := by simp [keyP, PySem.W.alike, PySem.W.alikeAll]
    have dp : ∀ w : List Nat, (keyP w).depth = 1 := fun w => by simp [keyP, PyData.depth, PyData.depthAll]
    show wpAny _ X.A.in1 (tryCatch (holding [.str (mkS ws[j]) t, u] (richCompare .Lt u kb >>= _)) _ >>= _) _ _ s3
    refine wpAny_bind (wpAny_tryCatch (wpAny_holding (wpAny_bind (PySem.W.rcLt_alike _ _ X.A.in1 s3 u kb a1s a2s rd1 rd2 al (by simp [keyP]) (by rw [dp, dp]; have := room.units; show X.A.units + 1 + _ < _; omega) _ _ _ _ ?_))))
    refine wpAny_bind (wpAny_holding (wpAny_truthy_bool (wpAny_bind (wpAny_letGo (wpAny_pure ?_)))))
    have fin' : ∀ (b' : List Nat), b' = (if lessO ws[j] b = true then ws[j] else b) → ∀ F2 H2 s2 u, Mid X H s H2 s2 → Gr g p F H F2 H2 → PileOk p n0 F2 H2 → RelV (.str (mkS (minO b' (ws.drop (j + 1))))) u → R (.ok (.ret u)) s2 := fun b' e => by
      rw [e]
      exact fin
    cases q : PySem.W.dataLt (keyP ws[j]) (keyP b) with
    | true =>
      simp only [if_true]
      refine wpAny_bind (wpAny_updateSeq hs3 rfl (wpAny_bind (wpAny_letGo ?_)))
      rw [nm]
      have a4 := at_seq a3 newS ne (Obj.mapSeq fun _ => #[.str (mkS ws[j]) t, u])
      obtain ⟨c2, hc2⟩ : ∃ c2, (s3.heap.update st (Obj.mapSeq fun _ => #[.str (mkS ws[j]) t, u])).get? st = some (seqObj "list" #[.str (mkS ws[j]) t, u] c2) := ⟨_, get?_update_seq hs3 fun _ => #[.str (mkS ws[j]) t, u]⟩
      exact wpAny_pure ⟨plainId_quiet PySem.F.plain_min_loop _, ih (j + 1) ws[j] F3 H3 _ _ _ v3 c2 (by omega) (by omega) a4 hc2 ⟨t, rfl⟩ ru r3 (fin' _ (by unfold lessO; rw [q, if_pos rfl]))⟩
    | false =>
      simp only [Bool.false_eq_true, if_false]
      refine wpAny_bind (wpAny_letGo ?_)
      rw [nm]
      exact wpAny_pure ⟨plainId_quiet PySem.F.plain_min_loop _, ih (j + 1) b F3 H3 _ _ _ v c (by omega) (by omega) a3 hs3 rb rk (rv.mono ex) (fin' _ (by unfold lessO; rw [q, if_neg Bool.false_ne_true]))⟩
end
end Pd

/-! Pf, part L: min(words, key=f) as an expression. -/
namespace Pd
open PySem PySem.Spec PyProof.Rows L2 LamX NdefX

section
variable {X : Cx} {g : Gl} {k : Nat} {f : FM} {fa : Addr} {fd : FuncData} {x : Str}
def rMinO (g : Gl) (f : FM) (fa : Addr) : List V → List V → Hp → VK → Prop := fun vs zs H Q => ∃ l w ws p F n0, vs = [.ref l] ∧ zs = [.ref fa] ∧ Rd F l (.lst ((w :: ws).map fun w => V.str (mkS w))) ∧ (∀ u ∈ w :: ws, f [.str u] n0 = .ok (.val (ordD u)) n0) ∧ Ext F H ∧ PileOk p n0 F H ∧ g.T H ∧
  ∀ Fi Hi, Gr g p F H Fi Hi → PileOk p n0 Fi Hi → Q (.str (mkS (minO w ws))) Hi
theorem cr_minO (hc : X.calm = true) (hK : X.K = g.K) (D : FnG X.prog X.w X.K X.mg X.base (L2.CX X.prog X.w) k fa fd [x] (spF g f)) (room : RoomG (k + 2) X.A) (hb : Binds X.K fd [x] []) : CallRK X (.builtin "min") [Str.ofString "key"] (rMinO g f fa) := by
  intro pins s σ H xs zs us ks Q I rx rz h
  obtain ⟨l, w, ws, p, F, n0, rfl, rfl, src, key, ext, pl, tb, q⟩ := h
  obtain ⟨u, rfl, ru⟩ := vals1 rx
  obtain ⟨u2, rfl, ru2⟩ := vals1 rz
  cases ru
  cases ru2
  obtain ⟨vs, rv, hL, hz⟩ := I.list (.inl (ext_rd ext src))
  obtain ⟨ol, hol, _⟩ := id hL.isList
  have old : l < s.heap.objs.size := Heap.lt_size hol
  have nm : (toString "min" ++ toString ".loop" : String) = "min.loop" := by decide
  show wpAny _ _ (call (.builtin "min") [.ref l] [(Str.ofString "key", .ref fa)]) _ _ s
  refine kmk_tree PySem.F.kind_min PySem.F.plain_min PySem.F.entry_min (kmk_min_key _ _) ?_
  refine wpAny_bind (m := Builtin.Builtins.bindParams "min" ["key", "default"] 0 ⟨[], [(Str.ofString "key", .ref fa)]⟩) (wpAny_of_eq (show _ = pure [some (.ref fa), none] from rfl) (wpAny_bind (wpAny_pure ?_)))
  refine wpAny_bind (wpAny_pyIter_list hL.isList (wpAny_bind (wpAny_newObj_type ?_)))
  rw [nm]
  let it : Addr := s.heap.objs.size
  let h1 : Heap := s.heap.push { cls := .type "list_iterator", data := .fields #[.ref l, .int 0 0] }
  let st : Addr := h1.objs.size
  let h2 : Heap := h1.push { cls := .type "list", data := .seq #[] 0 }
  have est : st = s.heap.objs.size + 1 := size_push' ..
  have ne : it ≠ st := by rw [est]; exact Nat.ne_of_lt (Nat.lt_succ_self _)
  have newS : s.heap.objs.size ≤ st := by rw [est]; exact Nat.le_succ _
  have newI : s.heap.objs.size ≤ it := Nat.le_refl _
  have hs : h2.get? st = some (seqObj "list" #[] 0) := Heap.get?_push_size _ rfl
  have m0 : Mid X H s H { s with heap := h2 } := (Mid.refl I).heap (C := []) (t := s.toks) (fun b o _ e => Heap.get?_push_of_some _ (Heap.get?_push_of_some _ e)) (fun c hc => nomatch hc)
  have a0 : At X g p n0 F H s l it st 0 F H { s with heap := h2 } := ⟨m0, Gr.refl ext tb, pl, I.hok.fresh newI, I.hok.fresh newS, ⟨_, Heap.get?_push_of_some _ (Heap.get?_push_size _ rfl), rfl, rfl⟩⟩
  refine wpAny_pure ⟨plainId_quiet PySem.F.plain_min_loop _, ?_⟩
  show codeAny _ X.A (.builtin "min.loop" ⟨[.ref it, .ref fa, .ref st], _⟩) _ { s with heap := h2 }
  refine codeAny_builtin PySem.F.entry_min_loop ?_; rw [Around.under_plainId PySem.F.plain_min_loop _]
  show wpAny _ X.A.in1 (seqItems? (.ref st) >>= _) _ _ _
  refine wpAny_bind (wpAny_seqItems hs rfl (wpAny_bind (m := tryCatch (pyNext (.ref it)) _) (wpAny_tryCatch ?_)))
  refine at_next I src old newI ne a0 (w := w) rfl hs fun t s2 a2 hs2 => ?_
  show wpAny _ X.A.in1 (tryCatch (holding [.str (mkS w) t] (call (.ref fa) [.str (mkS w) t])) _ >>= _) _ _ s2
  refine wpAny_bind (wpAny_tryCatch (wpAny_holding (at_key I hK D room hb newI newS (key _ (List.mem_cons_self ..)) a2 hs2 fun u v3 F3 H3 s3 a3 hs3 ex ru r3 => ?_)))
  show wpAny _ X.A.in1 (updateSeq st (fun _ => #[.str (mkS w) t, u]) >>= _) _ _ _
  refine wpAny_bind (wpAny_updateSeq hs3 rfl ?_)
  rw [nm]
  have a4 := at_seq a3 newS ne (Obj.mapSeq fun _ => #[.str (mkS w) t, u])
  obtain ⟨c2, hc2⟩ : ∃ c2, (s3.heap.update st (Obj.mapSeq fun _ => #[.str (mkS w) t, u])).get? st = some (seqObj "list" #[.str (mkS w) t, u] c2) := ⟨_, get?_update_seq hs3 fun _ => #[.str (mkS w) t, u]⟩
  refine wpAny_pure ⟨plainId_quiet PySem.F.plain_min_loop _, min_turns I hc hK D room hb src old newI newS ne key _ 1 w F3 H3 _ _ _ v3 c2 rfl (by simp) a4 hc2 ⟨t, rfl⟩ ru r3 fun F2 H2 s4 u4 m4 G4 P4 r4 => ?_⟩
  exact ⟨.str (mkS (minO w ws)), H2, m4.inv I, r4, q F2 H2 G4 P4⟩
end
def minR (f : FM) (ws : List (List Nat)) (s : S) : R SV := match ws with
  | [] => .stuck
  | w :: r => if (w :: r).all (fun w => keyOk f w s.pile) = true then .ok (.val (.str (minO w r))) s else .stuck
def oMinK (f : FM) (m : EM) : OM := fun s => (m s).bind fun d s1 => match d with
  | .lst l => (match strsD l with
    | some ws => minR f ws s1
    | none => .stuck)
  | _ => .stuck
section
variable {g : Gl} {X : Cx} {W : WX} {e : Expr} {m : EM} {pos p' kp np : Pos} {x : Str} {k : Nat} {f : FM}
theorem do_minK (C : Cal1 X.prog X.w X.K X.mg X.base g k x f) (hr : RoomG (k + 2) X.A) (hc : X.calm = true) (hg : L2.Gl X "min") (hm : X.mg "min" = none) (hv : bootBuiltins "min" = some (.builtin "min")) (hgx : L2.Gl X x) (h : DE g X W e m) (hK : X.K = g.K := by rfl)
    (he : backTo pos (starEach [e] X.env) = (false, eval e X.env) :: backTo pos (starEach [] X.env) := by rfl) (hs : starEach [e] X.env = (false, eval e X.env) :: starEach [] X.env := by rfl) (hpl : (backTo pos (starEach [e] X.env)).any (·.1) = false := by rfl)
    (hall : (backToKw pos (keywordEach [⟨some (Str.ofString "key"), .Name x np, kp⟩] X.env)).all (·.1.isSome) = true := by rfl) (hnone : (backToKw pos (keywordEach [⟨some (Str.ofString "key"), .Name x np, kp⟩] X.env)).any (·.1.isNone) = false := by rfl)
    (hks : (backToKw pos (keywordEach [⟨some (Str.ofString "key"), .Name x np, kp⟩] X.env)).filterMap (·.1) = [Str.ofString "key"] := by rfl) (hdb : (x == ("__debug__" : Str)) = false := by decide) :
    DO g X W (.Call (.Name "min" p') [e] [⟨some (Str.ofString "key"), .Name x np, kp⟩] pos) (oMinK f m) := by
  obtain ⟨fa, fd, y, D, gm, keep, b⟩ := C.ex
  obtain ⟨t, a1, a2⟩ := h
  refine ⟨_, pe_callBK (cr_minO hc hK D hr b) hg hm hv (pa_cons a1 pa_nil hs) (pk_cons (pe_glob (v := .ref fa) hgx gm rfl hdb) pk_nil) (by decide) (by decide) he hpl hall hnone hks, fun p H0 F0 A F s σ H Q Y hp => ?_⟩
  refine a2 p H0 F0 A F s σ H _ Y (PostO.bind hp fun d s1 v F1 H1 A1 Y1 e1 r1 hp2 => ?_)
  cases d with
  | lst l =>
    cases r1 with
    | lst h2 r2 =>
      rename_i a vs
      cases q : strsD l with
      | none => simp only [q] at hp2; exact hp2.elim
      | some ws =>
        simp only [q] at hp2
        cases ws with
        | nil => exact hp2.elim
        | cons w r =>
          unfold minR at hp2
          simp only [] at hp2
          split at hp2
          · rename_i c
            have ev := strsD_rep r2 q
            rw [List.map_map] at ev
            have ev2 : vs = (w :: r).map fun w => V.str (mkS w) := ev
            subst ev2
            exact ⟨a, w, r, p, F1, s1.pile, rfl, rfl, h2, fun u hu => keyOk_eq (List.all_eq_true.mp c u hu), Y1.ext, Y1.pl, Y1.tb, fun Fi Hi G P => hp2 (.str (mkS (minO w r))) Fi Hi A1 (Y1.call G P) G.ff (.str _)⟩
          · exact hp2.elim
  | _ => exact hp2.elim
end
end Pd

/-! Tk, part A: a run has one end; two promises of one run hold together. -/
namespace PySem

theorem Runs.det {M : Model} {Γ : Ctx} {p : Pos} {t : Sem Fin} {fs : List Frame} {s s1 : Shared} {e1 : End} (h1 : Runs M Γ p t fs s e1 s1) :
    ∀ {e2 : End} {s2 : Shared}, Runs M Γ p t fs s e2 s2 → e1 = e2 ∧ s1 = s2 := by
  induction h1 with
  | done => intro e2 s2 h; cases h; exact ⟨rfl, rfl⟩
  | raise => intro e2 s2 h; cases h; exact ⟨rfl, rfl⟩
  | again _ _ ih => intro e2 s2 h; cases h; rename_i h; exact ih h
  | rule _ ih => intro e2 s2 h; cases h; rename_i h; exact ih h
  | «at» _ ih => intro e2 s2 h; cases h; rename_i h; exact ih h
  | load ho _ ih =>
    intro e2 s2 h; cases h; rename_i o' ho' h
    rw [ho] at ho'; cases ho'; exact ih h
  | update _ _ ih => intro e2 s2 h; cases h; rename_i h; exact ih h
  | loadIfAlive _ ih => intro e2 s2 h; cases h; rename_i h; exact ih h
  | point _ ih => intro e2 s2 h; cases h; rename_i h; exact ih h
  | alloc _ ih => intro e2 s2 h; cases h; rename_i h; exact ih h
  | fresh _ ih => intro e2 s2 h; cases h; rename_i h; exact ih h
  | ask _ ih => intro e2 s2 h; cases h; rename_i h; exact ih h
  | choose _ _ ih => intro e2 s2 h; cases h; rename_i h; exact ih h
  | os _ ih => intro e2 s2 h; cases h; rename_i h; exact ih h
  | handled _ ih => intro e2 s2 h; cases h; rename_i h; exact ih h
  | genState hg _ ih =>
    intro e2 s2 h; cases h; rename_i st' hg' h
    rw [hg] at hg'; cases hg'; exact ih h
  | stack _ ih => intro e2 s2 h; cases h; rename_i h; exact ih h
  | thread _ ih => intro e2 s2 h; cases h; rename_i h; exact ih h
  | newGen _ ih => intro e2 s2 h; cases h; rename_i h; exact ih h
  | call _ _ iha ihb =>
    intro e2 s2 h
    cases h with
    | call ha hb =>
      obtain ⟨q1, q2⟩ := iha ha
      cases q1; subst q2
      exact ihb hb
    | callSusp ha => exact nomatch (iha ha).1
  | callSusp _ iha =>
    intro e2 s2 h
    cases h with
    | call ha hb => exact nomatch (iha ha).1
    | callSusp ha =>
      obtain ⟨q1, q2⟩ := iha ha
      cases q1; subst q2
      exact ⟨rfl, rfl⟩
  | yield => intro e2 s2 h; cases h; exact ⟨rfl, rfl⟩
  | resumeFresh hg _ _ _ iha ihb =>
    intro e2 s2 h
    cases h with
    | resumeFresh hg' ha _ hb =>
      rw [hg] at hg'; cases hg'
      obtain ⟨q1, q2⟩ := iha ha
      subst q1; subst q2
      exact ihb hb
    | resumeSuspended hg' _ _ _ => rw [hg] at hg'; cases hg'
    | resumeJustStarted hg' hv _ => exact absurd rfl hv
    | resumeRunning hg' _ => rw [hg] at hg'; cases hg'
    | resumeFinished hg' _ => rw [hg] at hg'; cases hg'
  | resumeSuspended hg _ _ _ iha ihb =>
    intro e2 s2 h
    cases h with
    | resumeFresh hg' ha _ hb => rw [hg] at hg'; cases hg'
    | resumeSuspended hg' ha _ hb =>
      rw [hg] at hg'; cases hg'
      obtain ⟨q1, q2⟩ := iha ha
      subst q1; subst q2
      exact ihb hb
    | resumeJustStarted hg' hv _ => rw [hg] at hg'; cases hg'
    | resumeThrowFresh hg' _ => rw [hg] at hg'; cases hg'
    | resumeRunning hg' _ => rw [hg] at hg'; cases hg'
    | resumeFinished hg' _ => rw [hg] at hg'; cases hg'
  | resumeJustStarted hg hv _ ih =>
    intro e2 s2 h
    cases h with
    | resumeFresh hg' ha _ hb => exact absurd rfl hv
    | resumeSuspended hg' ha _ hb => rw [hg] at hg'; cases hg'
    | resumeJustStarted hg' hv h => exact ih h
    | resumeRunning hg' _ => rw [hg] at hg'; cases hg'
    | resumeFinished hg' _ => rw [hg] at hg'; cases hg'
  | resumeThrowFresh hg _ ih =>
    intro e2 s2 h
    cases h with
    | resumeSuspended hg' ha _ hb => rw [hg] at hg'; cases hg'
    | resumeThrowFresh hg' h => exact ih h
    | resumeRunning hg' _ => rw [hg] at hg'; cases hg'
    | resumeFinished hg' _ => rw [hg] at hg'; cases hg'
  | resumeRunning hg _ ih =>
    intro e2 s2 h
    cases h with
    | resumeFresh hg' ha _ hb => rw [hg] at hg'; cases hg'
    | resumeSuspended hg' ha _ hb => rw [hg] at hg'; cases hg'
    | resumeJustStarted hg' hv h => rw [hg] at hg'; cases hg'
    | resumeThrowFresh hg' h => rw [hg] at hg'; cases hg'
    | resumeRunning hg' h => exact ih h
    | resumeFinished hg' _ => rw [hg] at hg'; cases hg'
  | resumeFinished hg _ ih =>
    intro e2 s2 h
    cases h with
    | resumeFresh hg' ha _ hb => rw [hg] at hg'; cases hg'
    | resumeSuspended hg' ha _ hb => rw [hg] at hg'; cases hg'
    | resumeJustStarted hg' hv h => rw [hg] at hg'; cases hg'
    | resumeThrowFresh hg' h => rw [hg] at hg'; cases hg'
    | resumeRunning hg' _ => rw [hg] at hg'; cases hg'
    | resumeFinished hg' h => exact ih h
  | segRet _ _ iha ihb =>
    intro e2 s2 h
    cases h with
    | segRet ha hb =>
      obtain ⟨q1, q2⟩ := iha ha
      cases q1; subst q2
      exact ihb hb
    | segSuspOut _ ha => exact nomatch (iha ha).1
    | segSuspGen _ ha _ _ => exact nomatch (iha ha).1
  | segGen _ _ iha ihb =>
    intro e2 s2 h
    cases h with
    | segGen ha hb =>
      obtain ⟨q1, q2⟩ := iha ha
      cases q1; subst q2
      exact ihb hb
    | segSuspOut _ ha => exact nomatch (iha ha).1
    | segSuspGen _ ha _ _ => exact nomatch (iha ha).1
  | segSuspOut hs _ iha =>
    intro e2 s2 h
    cases h with
    | segRet ha hb => exact nomatch (iha ha).1
    | segGen ha hb => exact nomatch (iha ha).1
    | segSuspOut _ ha =>
      obtain ⟨q1, q2⟩ := iha ha
      cases q1; subst q2
      exact ⟨rfl, rfl⟩
    | segSuspGen hs' ha _ _ => rw [hs] at hs'; cases hs'
  | segSuspGen hs _ _ _ iha ihb =>
    intro e2 s2 h
    cases h with
    | segRet ha hb => exact nomatch (iha ha).1
    | segGen ha hb => exact nomatch (iha ha).1
    | segSuspOut hs' ha => rw [hs] at hs'; cases hs'
    | segSuspGen hs' ha _ hb =>
      rw [hs] at hs'; cases hs'
      obtain ⟨q1, q2⟩ := iha ha
      cases q1; subst q2
      exact ihb hb

theorem Returns.det {M : Model} {Γ : Ctx} {p : Pos} {s s1 s2 : Shared} {r1 r2 : Result} (h1 : Returns M Γ p s r1 s1) (h2 : Returns M Γ p s r2 s2) : r1 = r2 ∧ s1 = s2 := by
  obtain ⟨q1, q2⟩ := Runs.det h1 h2
  cases q1
  exact ⟨rfl, q2⟩

theorem Wakes.det {M : Model} {Γ : Ctx} {p : Pos} {g : Nat} {r : Resume} {s s1 s2 : Shared} {r1 r2 : GenResult} (h1 : Wakes M Γ p g r s r1 s1) (h2 : Wakes M Γ p g r s r2 s2) : r1 = r2 ∧ s1 = s2 := by
  unfold Wakes at h1 h2
  split at h1
  · exact h1.elim
  · split at h1
    · obtain ⟨e, t, ha, _, rfl, rfl⟩ := h1
      simp only [*] at h2
      obtain ⟨e', t', ha', _, rfl, rfl⟩ := h2
      obtain ⟨q1, q2⟩ := Runs.det ha ha'
      subst q1; subst q2
      exact ⟨rfl, rfl⟩
    · rename_i w hv
      obtain ⟨rfl, rfl⟩ := h1
      simp only [*] at h2
      cases w
      case none => exact absurd rfl hv
      all_goals
        obtain ⟨rfl, rfl⟩ := h2
        exact ⟨rfl, rfl⟩
    · obtain ⟨rfl, rfl⟩ := h1
      simp only [*] at h2
      obtain ⟨rfl, rfl⟩ := h2
      exact ⟨rfl, rfl⟩
  · obtain ⟨e, t, ha, _, rfl, rfl⟩ := h1
    simp only [*] at h2
    obtain ⟨e', t', ha', _, rfl, rfl⟩ := h2
    obtain ⟨q1, q2⟩ := Runs.det ha ha'
    subst q1; subst q2
    exact ⟨rfl, rfl⟩
  · obtain ⟨rfl, rfl⟩ := h1
    simp only [*] at h2
    obtain ⟨rfl, rfl⟩ := h2
    exact ⟨rfl, rfl⟩
  · obtain ⟨rfl, rfl⟩ := h1
    simp only [*] at h2
    obtain ⟨rfl, rfl⟩ := h2
    exact ⟨rfl, rfl⟩

namespace Sem
theorem wp_and {α : Type} (M : Model) (Γ : Ctx) (t : Sem α) : ∀ (Q Q' : α → Pos → Shared → Prop) (E E' : Value → Pos → Shared → Prop) (p : Pos) (s : Shared), wp M Γ t Q E p s → wp M Γ t Q' E' p s →
    wp M Γ t (fun a p' s' => Q a p' s' ∧ Q' a p' s') (fun e p' s' => E e p' s' ∧ E' e p' s') p s := by
  induction t with
  | pure a => intro Q Q' E E' p s h h'; exact ⟨h, h'⟩
  | raise e => intro Q Q' E E' p s h h'; exact ⟨h, h'⟩
  | unsupported _ => intro Q Q' E E' p s h h'; exact h
  | finish _ => intro Q Q' E E' p s h h'; exact h
  | rule _ k ih => intro Q Q' E E' p s h h'; exact ih () Q Q' E E' p s h h'
  | «at» p' k ih => intro Q Q' E E' p s h h'; exact ih () Q Q' E E' p' s h h'
  | load a _ k ih =>
    intro Q Q' E E' p s h h'
    obtain ⟨o, ho, h⟩ := h
    obtain ⟨o', ho', h'⟩ := h'
    rw [ho] at ho'; cases ho'
    exact ⟨o, ho, ih o Q Q' E E' p s h h'⟩
  | update a _ f k ih => intro Q Q' E E' p s h h'; exact ⟨h.1, ih () Q Q' E E' p _ h.2 h'.2⟩
  | loadIfAlive a k ih => intro Q Q' E E' p s h h'; exact ih _ Q Q' E E' p s h h'
  | point _ k ih => intro Q Q' E E' p s h h'; exact ih () Q Q' E E' p s h h'
  | register _ _ => intro Q Q' E E' p s h h'; exact h
  | alloc o k ih => intro Q Q' E E' p s h h'; exact ih _ Q Q' E E' p _ h h'
  | fresh k ih => intro Q Q' E E' p s h h'; exact ih _ Q Q' E E' p _ h h'
  | ask k ih => intro Q Q' E E' p s h h'; exact ih _ Q Q' E E' p s h h'
  | choose src m k ih => intro Q Q' E E' p s h h'; exact ⟨h.1, ih _ Q Q' E E' p _ h.2 h'.2⟩
  | os q _ k ih => intro Q Q' E E' p s h h'; exact ih _ Q Q' E E' p _ h h'
  | call c hd _ _ k ih =>
    intro Q Q' E E' p s h h'
    obtain ⟨r, s', hr, h⟩ := h
    obtain ⟨r2, s2, hr2, h'⟩ := h'
    obtain ⟨q1, q2⟩ := Returns.det hr hr2
    subst q1; subst q2
    exact ⟨r, s', hr, ih r Q Q' E E' p s' h h'⟩
  | handled own k ih => intro Q Q' E E' p s h h'; exact ih _ Q Q' E E' p s h h'
  | genState g k ih =>
    intro Q Q' E E' p s h h'
    obtain ⟨o, ho, h⟩ := h
    obtain ⟨o', ho', h'⟩ := h'
    rw [ho] at ho'; cases ho'
    exact ⟨o, ho, ih _ Q Q' E E' p s h h'⟩
  | newGen c k ih => intro Q Q' E E' p s h h'; exact ih _ Q Q' E E' p _ h h'
  | resume g r _ k ih =>
    intro Q Q' E E' p s h h'
    obtain ⟨r1, s1, hr, h⟩ := h
    obtain ⟨r2, s2, hr2, h'⟩ := h'
    obtain ⟨q1, q2⟩ := Wakes.det hr hr2
    subst q1; subst q2
    exact ⟨r1, s1, hr, ih r1 Q Q' E E' p s1 h h'⟩
  | yield _ _ _ _ => intro Q Q' E E' p s h h'; exact h
  | stack k ih => intro Q Q' E E' p s h h'; exact ih _ Q Q' E E' p s h h'
  | fork _ _ => intro Q Q' E E' p s h h'; exact h
  | thread k ih => intro Q Q' E E' p s h h'; exact ih _ Q Q' E E' p s h h'
  | await _ _ _ _ _ => intro Q Q' E E' p s h h'; exact h
end Sem

theorem wpAny_both {α : Type} {M : Model} {A : Around} {s : Shared} {t : Sem α} {Q Q' : α → Shared → Prop} {E E' : Value → Shared → Prop} (h : wpAny M A t Q E s) (h' : wpAny M A t Q' E' s) :
    wpAny M A t (fun a s' => Q a s' ∧ Q' a s') (fun e s' => E e s' ∧ E' e s') s :=
  fun Γ p hΓ => Sem.wp_and M Γ t _ _ _ _ p s (h Γ p hΓ) (h' Γ p hΓ)

theorem codeAny_both {M : Model} {A : Around} {c : Code} {s : Shared} {R R' : Result → Shared → Prop} (h : codeAny M A c R s) (h' : codeAny M A c R' s) : codeAny M A c (fun r s' => R r s' ∧ R' r s') s := by
  intro Γ p hc hb
  obtain ⟨r, s1, a, b⟩ := h Γ p hc hb
  obtain ⟨r', s1', a', b'⟩ := h' Γ p hc hb
  obtain ⟨q1, q2⟩ := Returns.det a a'
  subst q1; subst q2
  exact ⟨r, s1, a, b, b'⟩
end PySem

/-! Tk, part B: what an operation leaves of the running def's frame, seen from a context whose frame lies behind it. -/
namespace Tk
open PySem PySem.Spec PyProof.Rows L2

/-- the heap below an address -/
def cutH (h : Heap) (n : Nat) : Heap := ⟨h.objs.extract 0 n, h.life⟩
theorem cutH_size {h : Heap} {n : Nat} (hn : n ≤ h.objs.size) : (cutH h n).objs.size = n := by
  show (h.objs.extract 0 n).size = n
  rw [Array.size_extract]; omega
theorem cutH_get {h : Heap} {n b : Nat} (hb : b < n) : (cutH h n).get? b = h.get? b := by
  have e : (cutH h n).objs[b]? = h.objs[b]? := by
    show (h.objs.extract 0 n)[b]? = h.objs[b]?
    rw [Array.getElem?_extract]
    by_cases hc : b < h.objs.size
    · rw [if_pos (by omega), Nat.zero_add]
    · rw [if_neg (by omega), Array.getElem?_eq_none (by omega)]
  unfold Heap.get?
  rw [e]
theorem cutH_of {h : Heap} {n b : Nat} {o : Obj} (hn : n ≤ h.objs.size) (e : (cutH h n).get? b = some o) : b < n ∧ h.get? b = some o := by
  have hb : b < n := by have := Heap.lt_size e; rw [cutH_size hn] at this; exact this
  exact ⟨hb, by rw [← cutH_get hb]; exact e⟩

/-- an object that is a map of names -/
def NsO (o : Obj) : Prop := ∃ es ep, o.data = .dict es ep ∧ StrKeys es
theorem NsO.ns {h : Heap} {a : Addr} {o : Obj} (n : NsO o) (e : h.get? a = some o) : ∃ m, h.Ns a m := by
  obtain ⟨es, ep, hd, hk⟩ := n
  exact ⟨fun x => nsFind es x, o, es, ep, e, hd, hk, fun _ => rfl⟩
theorem NsO.cell {o : Obj} (n : NsO o) : ∀ v, o.data ≠ .cell v := fun v e => by
  obtain ⟨es, ep, hd, _⟩ := n
  rw [hd] at e; cases e

/-- a map of names behind the frame, pinned -/
def Gh (X : Cx) (pins : List (Addr × Obj)) : Prop := ∃ a o, (a, o) ∈ pins ∧ X.env.locals < a ∧ NsO o

/-- the context whose frame is the map at a: the running def's frame is a caller's -/
def gho (X : Cx) (s : Shared) (H : Hp) (a : Addr) : Cx :=
  { X with N := [], s_0 := { s with heap := cutH s.heap a }, H_0 := fun b => if b < a then H b else none,
           env := { scope := ⟨.function, [], false, false, []⟩, locals := a, globals := mainGlobals, cells := [], builtins := builtinsNs },
           outer := X.stack, ex := [], fn := fun _ => true, pn := [] }

theorem funs_cut {h base : Heap} {a : Addr} : ∀ (l : List Env), (∀ b ∈ frs l, b < a) → h.FunFrames base l → (cutH h a).FunFrames base l
  | [], _, _ => trivial
  | env :: r, hs, hl => by
    obtain ⟨hk, ⟨L, o, hf, hn, ho, hd⟩, hr⟩ := hl
    have hL : L < a := hs L (by unfold frs; rw [List.filterMap_cons, hf]; exact List.mem_cons_self)
    exact ⟨hk, ⟨L, o, hf, hn, by rw [cutH_get hL]; exact ho, hd⟩, funs_cut r (fun b hb => hs b (by unfold frs; rw [List.filterMap_cons, hf]; exact List.mem_cons_of_mem _ hb)) hr⟩

section
variable {X : Cx} {pins : List (Addr × Obj)} {σ : L2.St} {H : Hp} {s : Shared} {a : Addr} {o : Obj}
theorem inv_gho (I : Inv X pins σ H s) (hm : (a, o) ∈ pins) (hl : X.env.locals < a) (hn : NsO o) : Inv (gho X s H a) [] [] H s := by
  obtain ⟨ha, hf, _, _, _⟩ := I.pin (a, o) (List.mem_append_right _ hm)
  have hsz : a ≤ s.heap.objs.size := Nat.le_of_lt (Heap.lt_size ha)
  have hlow : ∀ b ∈ frs X.stack, b < a := fun b hb => by
    rcases List.mem_cons.mp (I.stkSub b hb) with e | hb
    · rw [e]; exact hl
    · obtain ⟨_, ob, ho, _⟩ := I.ok.funs.mem hb
      exact Nat.lt_of_lt_of_le (Heap.lt_size ho) (Nat.le_trans I.ok.above (Nat.le_of_lt hl))
  have hbase : ∀ b ob, X.base.get? b = some ob → b < a := fun b ob e =>
    Nat.lt_of_lt_of_le (Heap.lt_size e) (Nat.le_trans I.ok.bsz (Nat.le_trans I.ok.above (Nat.le_of_lt hl)))
  have hif : ∀ {b : Addr}, b < a → (if b < a then H b else none) = H b := fun hb => if_pos hb
  refine ⟨?_, rfl, I.bare, ?_, ?_, ?_, hf, ?_, ?_, I.hok, rfl⟩
  · refine { mod := I.ok.mod, kind := rfl, glob := rfl, blt := rfl, above := ?_, inj := ?_, has := ?_, cab := ?_, hd := I.ok.hd, frames := I.ok.frames, stk := .inl rfl, exf := ?_, bs := ?_, bsz := ?_, noex := ?_, exfs := ?_, funs := ?_, frf := ?_ }
    · exact Nat.le_of_eq (cutH_size hsz)
    · intro x y c e; exact nomatch e
    · intro x e
      have e' : (none : Option NameKind) = some .cell ∨ (none : Option NameKind) = some .free := e
      rcases e' with e | e <;> cases e
    · intro x c _ e; exact nomatch e
    · intro b hb; exact nomatch hb
    · intro b ob e
      have hb := hbase b ob e
      exact ⟨(cutH_get hb).trans (I.bs b ob e).1, (hif hb).trans (I.bs b ob e).2⟩
    · show X.base.objs.size ≤ (cutH s.heap a).objs.size
      rw [cutH_size hsz]
      exact Nat.le_trans I.ok.bsz (Nat.le_trans I.ok.above (Nat.le_of_lt hl))
    · intro b ob _ hb; exact nomatch hb
    · intro b hb; exact nomatch hb
    · exact funs_cut _ hlow I.stack
    · intro b hb
      exact (hif (hlow b hb)).trans (I.stkFree b hb)
  · refine ⟨fun b ob e _ _ _ => (cutH_of hsz e).2, fun b ob e _ _ _ => ⟨ob.slots, (cutH_of hsz e).2⟩, fun b ob e n _ => ?_, fun b ob e _ => ⟨ob, (cutH_of hsz e).2⟩, fun b xs e => ?_, fun b ob u e => ?_, fun b ps e => ⟨#[], ?_⟩⟩
    · exact (hif (cutH_of hsz e).1).symm.trans n
    · have e' : (if b < a then H b else none) = some (.tup xs) := e
      split at e'
      · exact e'
      · cases e'
    · have e' : (if b < a then H b else none) = some (.frz ob u) := e
      split at e'
      · exact e'
      · cases e'
    · have e' : (if b < a then H b else none) = some (.tbl ps) := e
      split at e'
      · rw [e']; simp
      · cases e'
  · obtain ⟨m, hm'⟩ := hn.ns ha
    exact ⟨m, hm', fun i x v e => by simp [gho] at e⟩
  · intro x c e; exact nomatch e
  · intro x c e; exact nomatch e
  · intro p hp; exact nomatch hp

/-- behind a code that keeps the other context's invariant, the frame's map is kept -/
theorem ns_gho {H2 : Hp} {σ2 : L2.St} {s' : Shared} {m : Str → Option Value} (I : Inv X pins σ H s) (hm : (a, o) ∈ pins) (hl : X.env.locals < a) (J : Inv (gho X s H a) [] σ2 H2 s') (hn : s.heap.Ns X.env.locals m) : s'.heap.Ns X.env.locals m := by
  obtain ⟨ob, es, ep, ho, hd, hr⟩ := hn
  obtain ⟨ha, hf, _, _, _⟩ := I.pin (a, o) (List.mem_append_right _ hm)
  obtain ⟨sl, e⟩ := J.base.any (b := X.env.locals) (ob := ob) ((cutH_get hl).trans ho) ((if_pos hl : (if X.env.locals < a then H X.env.locals else none) = _).trans I.free) (fun z => nomatch z)
  exact ⟨_, es, ep, e, hd, hr⟩
end

/-- the watched names; is there a map of names behind the frame? -/
structure Wt where
  names : List Str
  gh : Bool
/-- the watched names hold texts whose tokens are out -/
def Watch (X : Cx) (κ : Wt) (s : Shared) : Prop := ∃ m, s.heap.Ns X.env.locals m ∧ ∀ x ∈ κ.names, ∃ z t, m x = some (.str z t) ∧ 1 ≤ t ∧ t < s.toks
theorem Watch.step {X : Cx} {κ : Wt} {s s' : Shared} (w : Watch X κ s) (ht : s.toks ≤ s'.toks) (hn : ∀ m, s.heap.Ns X.env.locals m → s'.heap.Ns X.env.locals m) : Watch X κ s' := by
  obtain ⟨m, h1, h2⟩ := w
  exact ⟨m, hn m h1, fun x hx => let ⟨z, t, a, b, c⟩ := h2 x hx; ⟨z, t, a, b, Nat.lt_of_lt_of_le c ht⟩⟩
theorem Watch.tok {X : Cx} {κ : Wt} {s : Shared} {n : Nat} (w : Watch X κ s) (h : s.toks ≤ n) : Watch X κ { s with toks := n } := w.step h fun _ h => h
theorem Watch.kept {X : Cx} {κ : Wt} {s s' : Shared} (w : Watch X κ s) (ht : s.toks ≤ s'.toks) (k : ∀ o, s.heap.get? X.env.locals = some o → ∃ sl, s'.heap.get? X.env.locals = some { o with slots := sl }) : Watch X κ s' :=
  w.step ht fun m ⟨o, es, ep, ho, hd, hr⟩ => let ⟨sl, e⟩ := k o ho; ⟨_, es, ep, e, hd, hr⟩

/-- THE RULE: an end that is promised in both contexts keeps the watch -/
theorem frame {X : Cx} {pins : List (Addr × Obj)} {σ : L2.St} {H : Hp} {s : Shared} {κ : Wt} {α : Type} {t : Sem α} {P : α → Shared → Prop} {E : Value → Shared → Prop} (I : Inv X pins σ H s) (G : Gh X pins) (w : Watch X κ s)
    (h2 : ∀ a, Inv (gho X s H a) [] [] H s → wpAny (model X.prog X.w) X.A t (fun _ s' => ∃ σ2 H2, Inv (gho X s H a) [] σ2 H2 s') E s) (h1 : wpAny (model X.prog X.w) X.A t P E s) :
    wpAny (model X.prog X.w) X.A t (fun u s' => P u s' ∧ Watch X κ s') E s := by
  obtain ⟨a, o, hm, hl, hn⟩ := G
  refine wpAny_mono (wpAny_both (wpAny_toks h1) (h2 a (inv_gho I hm hl hn))) (fun u s' q => ?_) fun _ _ z => z.1.2
  obtain ⟨⟨q1, q2⟩, σ2, H2, J⟩ := q
  exact ⟨q2, w.step q1 fun m hm' => ns_gho I hm hl J hm'⟩
end Tk

/-! Tk, part C: readings that keep the watch. -/
namespace Tk
open PySem PySem.Spec PyProof.Rows L2 Pd

def PEk (X : Cx) (κ : Wt) (e : Expr) (t : TE) : Prop :=
  ∀ (pins : List (Addr × Obj)) (s : Shared) (σ : L2.St) (H : Hp) (Q : VK), (κ.gh = true → Gh X pins) → Watch X κ s → Inv X pins σ H s → t σ H Q → wpAny (model X.prog X.w) X.A (eval e X.env) (fun u s' => EP X pins σ Q u s' ∧ Watch X κ s') X.xe s
def PTk (X : Cx) (κ : Wt) (e : Expr) (t : TT) : Prop :=
  ∀ (pins : List (Addr × Obj)) (s : Shared) (σ : L2.St) (H : Hp) (Q : Bool → Hp → Prop), (κ.gh = true → Gh X pins) → Watch X κ s → Inv X pins σ H s → t σ H Q → wpAny (model X.prog X.w) X.A (isTrue e X.env (eval e X.env)) (fun u s' => TP X pins σ Q u s' ∧ Watch X κ s') X.xe s
def PWk (X : Cx) (κ : Wt) (e : Expr) (t : TT) : Prop :=
  ∀ (whole : Sem Value) (pins : List (Addr × Obj)) (s : Shared) (σ : L2.St) (H : Hp) (Q : Bool → Hp → Prop), (κ.gh = true → Gh X pins) → Watch X κ s → Inv X pins σ H s → t σ H Q → wpAny (model X.prog X.w) X.A (isTrue e X.env whole) (fun u s' => TP X pins σ Q u s' ∧ Watch X κ s') X.xe s
def PAk (X : Cx) (κ : Wt) (es : List Expr) (t : TA) : Prop :=
  ∀ (pos : Pos) (pins : List (Addr × Obj)) (s : Shared) (σ : L2.St) (H : Hp) (Q : List V → Hp → Prop), (κ.gh = true → Gh X pins) → Watch X κ s → Inv X pins σ H s → t σ H Q → wpAny (model X.prog X.w) X.A (spliced (backTo pos (starEach es X.env))) (fun u s' => AP X pins σ Q u s' ∧ Watch X κ s') X.xe s
def PSk (X : Cx) (κ : Wt) (st : Stmt) (t : TS) : Prop :=
  ∀ (pins : List (Addr × Obj)) (s : Shared) (σ : L2.St) (H : Hp) (D : Ends), (κ.gh = true → Gh X pins) → Watch X κ s → Inv X pins σ H s → t D σ H → wpAny (model X.prog X.w) X.A (exec st X.env) (fun f s' => SP X pins D f s' ∧ Watch X κ s') X.xe s
def PSsk (X : Cx) (κ : Wt) (st : List Stmt) (t : TS) : Prop :=
  ∀ (pins : List (Addr × Obj)) (s : Shared) (σ : L2.St) (H : Hp) (D : Ends), (κ.gh = true → Gh X pins) → Watch X κ s → Inv X pins σ H s → t D σ H → wpAny (model X.prog X.w) X.A (execs st X.env) (fun f s' => SP X pins D f s' ∧ Watch X κ s') X.xe s
def PIEk (X : Cx) (pins : List (Addr × Obj)) (σ : L2.St) (tg : Expr) (R : It → Hp → Prop) (itv : Value) (s2 : Shared) : Prop :=
  ∃ (it : Addr) (fp : List Addr) (tn : Nat → Heap → Prop) (J : It) (H' : Hp), itv = .ref it ∧ Inv X pins σ H' s2 ∧ Turn X.prog X.w X.K tg J fp it tn ∧ tn 0 s2.heap ∧ (∀ b ∈ fp, FpOk X pins H' b ∧ ∀ p ∈ pins, p.1 ≤ b) ∧ R J H'
def PIk (X : Cx) (κ : Wt) (tg iter : Expr) (wi : TI) : Prop :=
  ∀ (pins : List (Addr × Obj)) (s : Shared) (σ : L2.St) (H : Hp) (R : It → Hp → Prop), (κ.gh = true → Gh X pins) → Watch X κ s → Inv X pins σ H s → wi σ H R →
    wpAny (model X.prog X.w) X.A (eval iter X.env) (fun v s1 => wpAny (model X.prog X.w) X.A (pyIter v) (fun itv s2 => PIEk X pins σ tg R itv s2 ∧ Watch X κ s2) X.xe s1) X.xe s

section
variable {X : Cx} {κ : Wt} {a b e : Expr} {es : List Expr} {ta tb te : TE} {t u : TT} {pos : Pos}
theorem kpe_var {i : Nat} {x : Str} (hN : X.N[i]? = some x) (hv : Vis X.env.scope x) (hd : (x == ("__debug__" : Str)) = false := by decide) (hcd : (x == ("__classdict__" : Str)) = false := by decide) : PEk X κ (.Name x pos) (tVar i) := by
  intro pins s σ H Q G w I h
  obtain ⟨v, e, h⟩ := h
  exact raw_name hN hv I e (fun u r => ⟨⟨v, H, I, r, h⟩, w⟩) hd hcd
theorem kpe_int {i j} : PEk X κ (.Constant (.int i) j pos) (tC (.int i)) := fun _ s _ H _ _ w I h => wpAny_Constant_int ⟨⟨.int i, H, I.tok _, ⟨_, rfl⟩, h⟩, w.tok (Nat.le_succ _)⟩
theorem kpe_str {x j} : PEk X κ (.Constant (.str x) j pos) (tC (.str x)) := fun _ s _ H _ _ w I h => Calls.Constant_str ⟨⟨.str x, H, I.tok _, ⟨_, rfl⟩, h⟩, w.tok (Nat.le_succ _)⟩
theorem kpe_bl {b j} : PEk X κ (.Constant (.bool b) j pos) (tC (.bl b)) := fun _ _ _ H _ _ w I h => Constant_bool ⟨⟨.bl b, H, I, rfl, h⟩, w⟩
theorem kpe_non {j} : PEk X κ (.Constant .none j pos) (tC .non) := fun _ _ _ H _ _ w I h => Constant_none ⟨⟨.non, H, I, rfl, h⟩, w⟩

/-- an operation that is promised in every such context -/
abbrev OpK (X : Cx) (f : Value → Value → Sem Value) (r : R2) : Prop := OpR X f r ∧ ∀ s H a, OpR (gho X s H a) f r
theorem opk {f : Value → Value → Sem Value} {r : R2} (ho : OpK X f r) {pins : List (Addr × Obj)} {s : Shared} {σ : L2.St} {H : Hp} {x y : V} {v u : Value} {Q : VK} (G : κ.gh = true → Gh X pins) (hgh : κ.gh = true) (w : Watch X κ s) (I : Inv X pins σ H s) (rx : RelV x v) (ry : RelV y u) (h : r x y H Q) :
    wpAny (model X.prog X.w) X.A (f v u) (fun z s' => EP X pins σ Q z s' ∧ Watch X κ s') X.xe s :=
  frame I (G hgh) w (fun a J => thn (ho.2 s H a [] s [] H x y v u Q J rx ry h) fun _ s' ⟨_, H2, J2, _, _⟩ => ⟨[], H2, J2⟩) (ho.1 pins s σ H x y v u Q I rx ry h)
theorem kpe_op (hgh : κ.gh = true) {op : Operator} {r : R2} (ho : OpK X (binaryOp op) r) (ha : PEk X κ a ta) (hb : PEk X κ b tb) : PEk X κ (.BinOp a op b pos) (tOp r ta tb) := by
  intro pins s σ H Q G w I h
  refine wpAny_BinOp (thn (ha pins s σ H _ G w I h) fun v s1 ⟨⟨x, H1, I1, r1, q1⟩, w1⟩ => ?_)
  exact thn (hb pins s1 σ H1 _ G w1 I1 q1) fun u s2 ⟨⟨y, H2, I2, r2, q2⟩, w2⟩ => opk ho G hgh w2 I2 r1 r2 q2
theorem kpe_cmp (hgh : κ.gh = true) {op : CmpOp} {r : R2} (ho : OpK X (compareOp op) r) (ha : PEk X κ a ta) (hb : PEk X κ b tb) (hm : behindInMarks op b = false) : PEk X κ (.Compare a [op] [b] pos) (tOp r ta tb) := by
  intro pins s σ H Q G w I h
  refine wpAny_Compare1 (thn (ha pins s σ H _ G w I h) fun v s1 ⟨⟨x, H1, I1, r1, q1⟩, w1⟩ => ?_) hm
  exact thn (hb pins s1 σ H1 _ G w1 I1 q1) fun u s2 ⟨⟨y, H2, I2, r2, q2⟩, w2⟩ => opk ho G hgh w2 I2 r1 r2 q2
theorem kpt_cmp (hgh : κ.gh = true) {op : CmpOp} {r : R2} (ho : OpK X (compareOp op) r) (ha : PEk X κ a ta) (hb : PEk X κ b tb) (hm : behindInMarks op b = false) : PTk X κ (.Compare a [op] [b] pos) (tTest (tOp r ta tb)) := by
  intro pins s σ H Q G w I h
  refine wpAny_isTrue_Compare1 (thn (ha pins s σ H _ G w I h) fun v s1 ⟨⟨x, H1, I1, r1, q1⟩, w1⟩ => thn (hb pins s1 σ H1 _ G w1 I1 q1) fun u s2 ⟨⟨y, H2, I2, r2, q2⟩, w2⟩ =>
    thn (opk ho G hgh w2 I2 r1 r2 q2) fun c s3 ⟨⟨z, H3, I3, r3, k, e, q3⟩, w3⟩ => ?_) hm
  subst e
  cases r3
  exact wpAny_truthy_bool ⟨⟨H3, I3, q3⟩, w3⟩
theorem kpw_and1 (ha : PTk X κ a t) : PWk X κ (.BoolOp .And [a] pos) t := by
  intro wh pins s σ H Q G w I h
  refine isTrue_and (thn (ha pins s σ H Q G w I h) fun c s1 e => ?_)
  cases c with
  | true => exact isTrue_and_nil e
  | false => exact e
theorem kpw_or1 (ha : PTk X κ a t) : PWk X κ (.BoolOp .Or [a] pos) t := by
  intro wh pins s σ H Q G w I h
  refine isTrue_or (thn (ha pins s σ H Q G w I h) fun c s1 e => ?_)
  cases c with
  | false => exact isTrue_or_nil e
  | true => exact e
theorem kpw_and {rest : List Expr} (ha : PTk X κ a t) (hb : PWk X κ (.BoolOp .And (b :: rest) pos) u) : PWk X κ (.BoolOp .And (a :: b :: rest) pos) (tAnd t u) := by
  intro wh pins s σ H Q G w I h
  refine isTrue_and (thn (ha pins s σ H _ G w I h) fun c s1 ⟨⟨H1, I1, q1⟩, w1⟩ => ?_)
  cases c with
  | true => exact hb wh pins s1 σ H1 Q G w1 I1 q1
  | false => exact ⟨⟨H1, I1, q1⟩, w1⟩
theorem kpw_or {rest : List Expr} (ha : PTk X κ a t) (hb : PWk X κ (.BoolOp .Or (b :: rest) pos) u) : PWk X κ (.BoolOp .Or (a :: b :: rest) pos) (tOr t u) := by
  intro wh pins s σ H Q G w I h
  refine isTrue_or (thn (ha pins s σ H _ G w I h) fun c s1 ⟨⟨H1, I1, q1⟩, w1⟩ => ?_)
  cases c with
  | true => exact ⟨⟨H1, I1, q1⟩, w1⟩
  | false => exact hb wh pins s1 σ H1 Q G w1 I1 q1
theorem PWk.pt (h : PWk X κ a t) : PTk X κ a t := h _
theorem kpa_nil : PAk X κ [] tNil := fun _ _ _ _ H _ _ w I h => Calls.spliced_nil ⟨⟨[], H, I, .nil, h⟩, w⟩
theorem kpa_cons {tr : TA} (ha : PEk X κ e te) (hr : PAk X κ es tr) (hs : starEach (e :: es) X.env = (false, eval e X.env) :: starEach es X.env := by rfl) : PAk X κ (e :: es) (tCons te tr) := by
  intro pos pins s σ H Q G w I h
  rw [hs]
  show wpAny _ _ (spliced ((false, eval e X.env) :: backTo pos (starEach es X.env))) _ _ s
  refine Calls.spliced_cons (thn (ha pins s σ H _ G w I h) fun u s1 ⟨⟨x, H1, I1, r1, q1⟩, w1⟩ => ?_)
  exact thn (hr pos pins s1 σ H1 _ G w1 I1 q1) fun us s2 ⟨⟨xs, H2, I2, r2, q2⟩, w2⟩ => ⟨⟨x :: xs, H2, I2, .cons r1 r2, q2⟩, w2⟩
theorem kpe_lst {tr : TA} (h : PAk X κ es tr) : PEk X κ (.List es pos) (tLst tr) := by
  intro pins s σ H Q G w I hq
  refine wpAny_List_spliced (thn (h pos pins s σ H _ G w I hq) fun us s1 ⟨⟨xs, H1, I1, r, z, q⟩, w1⟩ => ⟨by rw [← r.length]; exact z, ?_⟩)
  have hf : H1 s1.heap.objs.size = none := I1.hok.fresh (Nat.le_refl _)
  refine ⟨⟨.ref s1.heap.objs.size, upd H1 s1.heap.objs.size (.lst xs), I1.laid (t' := s1.toks) (fun b u e => Heap.get?_push_of_some _ e) (Nat.le_refl _) ?_, rfl, q _ hf⟩, ?_⟩
  · exact ⟨z, us, 0, r, Heap.get?_push_size _ rfl⟩
  · exact w1.kept (Nat.le_refl _) fun o e => ⟨o.slots, Heap.get?_push_of_some _ e⟩
end

section
variable {X : Cx} {κ : Wt} {CX : CXT} {k : Nat} {fa : Addr} {fd : FuncData} {ps : List Str} {sp : Sp} {E : L2.St → XK} {x : Str} {p' pos : Pos} {e : Expr} {es : List Expr} {t : TA}
theorem run_fnGk {pins : List (Addr × Obj)} {σ : L2.St} {H : Hp} {sh : Shared} {Q : VK} {us : List Value} {vs : List V} (D : FnG X.prog X.w X.K X.mg X.base CX k fa fd ps sp) (room : RoomG k X.A) (hb : Binds X.K fd ps []) (px : PassesAt CX X σ (E σ))
    (w : Watch X κ sh) (I : Inv X pins σ H sh) (rv : Vals vs us) (prom : sp vs H Q (E σ)) : wpAny (model X.prog X.w) X.A (call (.ref fa) us) (fun u s' => EP X pins σ Q u s' ∧ Watch X κ s') X.xe sh := by
  have n1 : us.length = ps.length := by rw [← rv.length]; exact D.len _ _ _ _ prom
  have b1 := hb sh us I.kIn (by rw [List.append_nil]; exact n1)
  rw [List.append_nil] at b1
  refine wpAny_mono (PySem.wpAny_toks (wpAny_call (Q := fun u s' => EP X pins σ Q u s' ∧ (∀ m, sh.heap.Ns X.env.locals m → s'.heap.Ns X.env.locals m)) (codeAny_mono (D.run X.A X.stack sh H ⟨us, []⟩ us vs Q (E σ) room I.env0 b1 rv prom) fun r sh' got => ?_))) (fun u s' q => ⟨q.2.1, w.step q.1 q.2.2⟩) fun _ _ z => z.2
  match r, got with
  | .error z, got => exact px pins H sh z sh' I got
  | .ok (.ret u), got =>
    refine ⟨I.after got, fun m ⟨o, es, ep, ho, hd, hr⟩ => ?_⟩
    obtain ⟨_, _, _, _, un, _⟩ := got
    obtain ⟨sl, e⟩ := un.any ho I.free (fun z => nomatch z)
    exact ⟨_, es, ep, e, hd, hr⟩
theorem kpe_callG (D : FnG X.prog X.w X.K X.mg X.base CX k fa fd ps sp) (room : RoomG k X.A) (hg : L2.Gl X x) (hm : X.mg x = some (.ref fa)) (keep : PySem.W.keepIn X.K (.ref fa) = true) (hb : Binds X.K fd ps []) (px : ∀ σ, PassesAt CX X σ (E σ))
    (ha : PAk X κ (e :: es) t) (hdb : (x == ("__debug__" : Str)) = false := by decide) (he : starEach (e :: es) X.env = (false, eval e X.env) :: starEach es X.env := by rfl) (hpl : (backTo pos (starEach es X.env)).any (·.1) = false := by rfl) :
    PEk X κ (.Call (.Name x p') (e :: es) [] pos) (tCallS sp E t) := by
  intro pins sh σ H Q G w I h
  refine wpAny_Call_Name_kw (ld_glob I hg hm ?_ hdb)
  refine PySem.W.callWith_K (h₀ := X.base) I.ok.mod.kin keep (thn (ha pos pins sh σ H _ G w I h) ?_) he hpl
  rintro us sh1 ⟨⟨vs, H1, J, rv, q⟩, w1⟩
  exact ⟨J.kIn, run_fnGk D room hb (px σ) w1 J rv q⟩
theorem kpe_callG0 (D : FnG X.prog X.w X.K X.mg X.base CX k fa fd ps sp) (room : RoomG k X.A) (hg : L2.Gl X x) (hm : X.mg x = some (.ref fa)) (keep : PySem.W.keepIn X.K (.ref fa) = true) (hb : Binds X.K fd ps []) (px : ∀ σ, PassesAt CX X σ (E σ))
    (hdb : (x == ("__debug__" : Str)) = false := by decide) : PEk X κ (.Call (.Name x p') [] [] pos) (tCallS sp E tNil) :=
  fun pins sh σ H Q G w I h => wpAny_Call_Name_kw (ld_glob I hg hm (PySem.W.callWith_K0 I.kIn keep (run_fnGk (us := []) D room hb (px σ) w I .nil h)) hdb)
end

/-! ### statements -/
section
variable {X : Cx} {κ : Wt} {st : Stmt} {rest : List Stmt} {t u : TS} {e : Expr} {te : TE} {pos : Pos}
theorem kpss_nil : PSsk X κ [] tNext := fun _ _ σ H _ _ w I h => wpAny_execs_nil ⟨⟨σ, H, I, h⟩, w⟩
theorem kpss_cons (h1 : PSk X κ st t) (h2 : PSsk X κ rest u) : PSsk X κ (st :: rest) (tSeq t u) := by
  intro pins s σ H D G w I h
  refine wpAny_execs_cons (thn (h1 pins s σ H { D with nx := u D } G w I h) fun f s1 q => ?_)
  cases f with
  | next =>
    obtain ⟨⟨σ', H', I', q⟩, w'⟩ := q
    exact h2 pins s1 σ' H' D G w' I' q
  | ret v => exact q
  | brk => exact q
  | cont => exact q
theorem kpss_one (h1 : PSk X κ st t) : PSsk X κ [st] t := by
  intro pins s σ H D G w I h
  refine wpAny_execs_cons (thn (h1 pins s σ H D G w I h) fun f s1 q => ?_)
  cases f with
  | next => exact wpAny_execs_nil q
  | ret v => exact q
  | brk => exact q
  | cont => exact q
theorem kps_ret (he : PEk X κ e te) : PSk X κ (.Return (some e) pos) (tRet te) := by
  intro pins s σ H D G w I h
  exact wpAny_Return_some (thn (he pins s σ H _ G w I h) fun v s1 ⟨⟨x, H1, I1, r1, q1⟩, w1⟩ => ⟨⟨x, σ, H1, I1, r1, q1⟩, w1⟩)
theorem kps_if {c : Expr} {a b : List Stmt} {tc : TT} (hc : PTk X κ c tc) (ha : PSsk X κ a t) (hb : PSsk X κ b u) : PSk X κ (.If c a b pos) (tIfS tc t u) := by
  intro pins s σ H D G w I h
  refine wpAny_If (thn (hc pins s σ H _ G w I h) fun d s1 ⟨⟨H1, I1, q1⟩, w1⟩ => ?_)
  cases d with
  | true => exact ha pins s1 σ H1 D G w1 I1 q1
  | false => exact hb pins s1 σ H1 D G w1 I1 q1
/-- a name that is not watched is stored -/
theorem kstore {i : Nat} {x : Str} {v : V} {u : Value} {pins : List (Addr × Obj)} {σ : L2.St} {H : Hp} {s : Shared} {P : Unit → Shared → Prop} {E : Value → Shared → Prop} (I : Inv X pins σ H s) (w : Watch X κ s) (hN : X.N.Nodup) (hi : X.N[i]? = some x) (hx : X.env.scope.names.lookup x = some .local) (hn : κ.names.contains x = false) (r : RelV v u)
    (h : ∀ s', Inv X pins (σ.set i (some v)) H s' → Watch X κ s' → P () s') : wpAny (model X.prog X.w) X.A (storeName X.env x u) P E s := by
  obtain ⟨m, h1, h2⟩ := w
  have hcls : (X.env.scope.kind == .class || (X.env.scope.kind == .module && X.env.locals != X.env.globals)) = false := by rw [I.ok.kind]; rfl
  have A := store_ok (M := model X.prog X.w) (A := X.A) (E := E) (Q := fun _ s' => Inv X pins (σ.set i (some v)) H s') I hN hi (.inl hx) r (fun s' I' => I') (.inr hx)
  have B : wpAny (model X.prog X.w) X.A (storeName X.env x u) (fun _ s' => Watch X κ s') E s := by
    refine wpAny_storeName_local hx h1 (fun h' hn' hs => ⟨_, hn', fun y hy => ?_⟩) hcls
    obtain ⟨z, t, a, b, c⟩ := h2 y hy
    refine ⟨z, t, ?_, b, Nat.lt_succ_of_lt c⟩
    have hne : y ≠ x := by
      rintro rfl
      rw [List.contains_iff_mem.mpr hy] at hn
      cases hn
    show (if y = x then some u else m y) = _
    rw [if_neg hne]; exact a
  exact wpAny_mono (wpAny_both A B) (fun _ s' q => h s' q.1 q.2) fun _ _ z => z.1
theorem kps_set {i : Nat} {x : Str} {pos' : Pos} (hN : X.N.Nodup) (hi : X.N[i]? = some x) (hx : X.env.scope.names.lookup x = some .local) (hn : κ.names.contains x = false) (he : PEk X κ e te) (hs : swapsWith e (some (.Name x pos')) pos.line X.env = pure false := by rfl) :
    PSk X κ (.Assign [.Name x pos'] e pos) (tAsg te (gName i)) := by
  intro pins s σ H D G w I h
  refine wpAny_Assign_Name (thn (he pins s σ H _ G w I h) fun v s1 ⟨⟨y, H1, I1, r1, q1⟩, w1⟩ => ?_) hs
  exact kstore I1 w1 hN hi hx hn r1 fun s2 I2 w2 => ⟨⟨_, H1, I2, q1⟩, w2⟩
/-- a list's walk -/
theorem kpi_list {tg l : Expr} {tl : TE} (hl : PEk X κ l tl) : PIk X κ tg l (iList X.K tl) := by
  intro pins s σ H R G w I h
  refine thn (hl pins s σ H _ G w I h) fun v s1 ⟨⟨x, H1, I1, r1, q1⟩, w1⟩ => ?_
  obtain ⟨a, e, ⟨xs, hq⟩, q⟩ := q1
  subst e
  cases r1
  obtain ⟨its, rv, p, hz⟩ := I1.list hq
  refine wpAny_pyIter_list p.isList ?_
  refine ⟨⟨s1.heap.objs.size, [s1.heap.objs.size], _, _, H1, rfl, I1.kept (t' := s1.toks) fun b o e => Heap.get?_push_of_some _ e, turn_list a _, ⟨_, Heap.get?_push_size _ rfl, rfl, rfl⟩, fun b hb => ?_, q⟩, w1.kept (Nat.le_refl _) fun o e => ⟨o.slots, Heap.get?_push_of_some _ e⟩⟩
  have e : b = s1.heap.objs.size := by simpa using hb
  subst e
  exact ⟨I1.fpOk (Nat.le_refl _) (I1.hok.fresh (Nat.le_refl _)), fun p hp => Nat.le_of_lt (Heap.lt_size (I1.pin p (List.mem_append_right _ hp)).1)⟩
theorem fp_gho {pins : List (Addr × Obj)} {σ : L2.St} {H : Hp} {s : Shared} {a b : Addr} {o : Obj} (I : Inv X pins σ H s) (hm : (a, o) ∈ pins) (h : FpOk X pins H b) (hp : ∀ p ∈ pins, p.1 ≤ b) : FpOk (gho X s H a) [] H b := by
  obtain ⟨f0, f1, f2, _, _, f5⟩ := h
  have ha := (I.pin (a, o) (List.mem_append_right _ hm)).1
  refine ⟨f0, fun z => f5 (a, o) (List.mem_append_right _ hm) z.symm, fun z => ?_, .inr ?_, fun x c e => (nomatch e), fun p hp => (nomatch hp)⟩
  · rcases List.mem_cons.mp (I.stkSub b z) with e | e
    · exact f1 e
    · exact f2 e
  · show (cutH s.heap a).objs.size ≤ b
    rw [cutH_size (Nat.le_of_lt (Heap.lt_size ha))]
    exact hp _ hm
/-- a turn that ends -/
theorem kdone {P : Program} {w0 : World} {K : PySem.W.Frag} {tg : Expr} {J : It} {fp : List Addr} {it : Addr} {tn : Nat → Heap → Prop} (T : Turn P w0 K tg J fp it tn) (h1 : X.prog = P) (h2 : X.w = w0) (h3 : X.K = K) (hc : X.calm = true) {i : Nat} {pins : List (Addr × Obj)} {s : Shared} {σ : L2.St} {H : Hp} {E : Value → Shared → Prop}
    (G : κ.gh = true → Gh X pins) (hgh : κ.gh = true) (w : Watch X κ s) (I : Inv X pins σ H s) (hf : ∀ b ∈ fp, FpOk X pins H b ∧ ∀ p ∈ pins, p.1 ≤ b) (st : tn i s.heap) (stop : J.stop i H) :
    wpAny (model P w0) X.A (pyNext (.ref it)) (fun r s1 => (r = none ∧ Inv X pins σ H s1) ∧ Watch X κ s1) E s := by
  obtain ⟨a, o, hm, hl, hn⟩ := G hgh
  have A := T.done X h1 h2 h3 hc i pins s σ H E I (fun b hb => (hf b hb).1) st stop
  have B := T.done (gho X s H a) h1 h2 h3 hc i [] s [] H E (inv_gho I hm hl hn) (fun b hb => fp_gho I hm (hf b hb).1 (hf b hb).2) st stop
  refine wpAny_mono (wpAny_both (wpAny_toks A) B) (fun r s1 q => ?_) fun _ _ z => z.1.2
  obtain ⟨⟨q1, q2⟩, _, J2⟩ := q
  exact ⟨q2, w.step q1 fun m hm' => ns_gho I hm hl J2 hm'⟩
/-- a turn that goes on -/
theorem kitem {P : Program} {w0 : World} {K : PySem.W.Frag} {tg : Expr} {J : It} {fp : List Addr} {it : Addr} {tn : Nat → Heap → Prop} (T : Turn P w0 K tg J fp it tn) (h1 : X.prog = P) (h2 : X.w = w0) (h3 : X.K = K) (hc : X.calm = true) {i : Nat} {pins : List (Addr × Obj)} {s : Shared} {σ : L2.St} {H : Hp} {E : Value → Shared → Prop}
    (G : κ.gh = true → Gh X pins) (hgh : κ.gh = true) (w : Watch X κ s) (I : Inv X pins σ H s) (hf : ∀ b ∈ fp, FpOk X pins H b ∧ ∀ p ∈ pins, p.1 ≤ b) (st : tn i s.heap) (go : J.go i H) :
    wpAny (model P w0) X.A (pyNext (.ref it)) (fun r s1 => ∃ u, r = some u ∧
      wpAny (model P w0) X.A (letOwnedTupleGo tg (.ref it) u) (fun _ s2 => (∃ x H', Inv X pins σ H' s2 ∧ RelV x u ∧ J.yld i H x H' ∧ tn (i + 1) s2.heap ∧ ∀ b ∈ fp, H' b = none) ∧ Watch X κ s2) E s1) E s := by
  obtain ⟨a, o, hm, hl, hn⟩ := G hgh
  have A := T.item X h1 h2 h3 hc i pins s σ H E I (fun b hb => (hf b hb).1) st go
  have B := T.item (gho X s H a) h1 h2 h3 hc i [] s [] H E (inv_gho I hm hl hn) (fun b hb => fp_gho I hm (hf b hb).1 (hf b hb).2) st go
  refine wpAny_mono (wpAny_both (wpAny_toks A) B) (fun r s1 q => ?_) fun _ _ z => z.1.2
  obtain ⟨⟨q1, u, e1, q2⟩, u', e2, q3⟩ := q
  subst e1
  cases e2
  refine ⟨_, rfl, wpAny_mono (wpAny_both (wpAny_toks q2) q3) (fun _ s2 q => ?_) fun _ _ z => z.1.2⟩
  obtain ⟨⟨t1, y1⟩, _, _, J2, _⟩ := q
  exact ⟨y1, w.step (Nat.le_trans q1 t1) fun m hm' => ns_gho I hm hl J2 hm'⟩
theorem Gh.app {pins ps : List (Addr × Obj)} (G : Gh X pins) : Gh X (pins ++ ps) := let ⟨a, o, h1, h2⟩ := G; ⟨a, o, List.mem_append_left _ h1, h2⟩
theorem kps_for (hgh : κ.gh = true) {tg : Expr} {i : Nat} {x : Str} {np : Pos} {iter : Expr} {body : List Stmt} {wi : TI} {tb : TS} (htg : tg = .Name x np) (hp : PassesOwn (model X.prog X.w) X.A X.env X.xe) (hc : X.calm = true) (hN : X.N.Nodup) (hix : X.N[i]? = some x) (hx : X.env.scope.names.lookup x = some .local) (hn : κ.names.contains x = false) (hi : PIk X κ tg iter wi) (hb : PSsk X κ body tb)
    (hs : ∀ x, foldedSetIterable iter X.env x = pure x := by intro _; rfl) : PSk X κ (.For tg iter body [] pos) (tFor wi (gName i) tb) := by
  subst htg
  intro pins s σ H D G w I h
  refine wpAny_For (thn (hi pins s σ H _ G w I h) fun v s1 h1 => thn h1 fun itv s2 h2 => ?_) hs
  obtain ⟨⟨it, fp, tn, J, H2, e, I2, T, st2, f2, W, ⟨m0, w0⟩, turn⟩, w2⟩ := h2
  subst e
  have stat : ∀ {H' : Hp}, (∀ b ∈ fp, H' b = none) → ∀ b ∈ fp, FpOk X pins H' b ∧ ∀ p ∈ pins, p.1 ≤ b := fun hn b hb => ⟨⟨hn b hb, (f2 b hb).1.2⟩, (f2 b hb).2⟩
  refine codeAny_forLoop_any (fun n s' => ∃ i σ' H', Inv X pins σ' H' s' ∧ Watch X κ s' ∧ tn i s'.heap ∧ (∀ b ∈ fp, H' b = none) ∧ W i n σ' H') ?_ m0 ⟨0, σ, H2, I2, w2, st2, fun b hb => (f2 b hb).1.1, w0⟩
  rintro n s3 ⟨i3, σ3, H3, I3, wk3, st3, fr3, w3⟩
  rcases turn i3 n σ3 H3 w3 with ⟨stop, qn⟩ | ⟨go, N, hNN, step⟩
  · refine wpAny_passesOwn hp (thn (kdone T rfl rfl rfl hc G hgh wk3 I3 (stat fr3) st3 stop) fun r s4 ⟨⟨hr, I4⟩, w4⟩ => ?_)
    subst hr
    exact wpAny_execs_nil ⟨⟨σ3, H3, I4, qn⟩, w4⟩
  · refine wpAny_passesOwn hp (thn (kitem T rfl rfl rfl hc G hgh wk3 I3 (stat fr3) st3 go) fun r s4 ⟨u, hr, h4⟩ => ?_)
    subst hr
    refine wpAny_passesOwn hp (thn h4 fun _ s5 ⟨⟨x5, H5, I5, r5, y5, st5, fr5⟩, w5⟩ => ?_)
    have I5' := I5.pinned (fun b hb => (stat fr5 b hb).1) (T.obj _ _ st5)
    refine wpAny_passesOwn hp (wpAny_assign_Name (kstore I5' w5 hN hix hx hn r5 fun s6 I6 w6 => ?_))
    refine wpAny_passesOwn hp (thn (hb _ s6 _ H5 _ (fun h => (G h).app) w6 I6 (step x5 H5 y5)) fun f s7 q7 => ?_)
    have again : ∀ {σ7 : L2.St} {H7 : Hp}, Inv X (pins ++ pinsAt fp s5.heap) σ7 H7 s7 → Watch X κ s7 → N σ7 H7 → ∃ m, m < n ∧ ∃ i σ' H', Inv X pins σ' H' s7 ∧ Watch X κ s7 ∧ tn i s7.heap ∧ (∀ b ∈ fp, H' b = none) ∧ W i m σ' H' := fun {σ7 H7} I7 w7 n7 => by
      obtain ⟨m', hm, y7⟩ := hNN σ7 H7 n7
      refine ⟨m', hm, i3 + 1, σ7, H7, I7.unpinned, w7, T.keep _ _ _ st5 fun b hb o e => (I7.pin (b, o) (List.mem_append_right _ (List.mem_append_right _ (mem_pinsAt hb e)))).1, fun b hb => ?_, y7⟩
      obtain ⟨o, e, d⟩ := T.obj _ _ st5 b hb
      exact (I7.pin (b, o) (List.mem_append_right _ (List.mem_append_right _ (mem_pinsAt hb e)))).2.1
    obtain ⟨q7, w7⟩ := q7
    cases f with
    | next => obtain ⟨σ7, H7, I7, n7⟩ := q7; exact again I7 w7 n7
    | cont => obtain ⟨σ7, H7, I7, n7⟩ := q7; exact again I7 w7 n7
    | brk => obtain ⟨σ7, H7, I7, q7⟩ := q7; exact ⟨⟨σ7, H7, I7.unpinned, q7⟩, w7⟩
    | ret v => obtain ⟨x7, σ7, H7, I7, r7, q7⟩ := q7; exact ⟨⟨x7, σ7, H7, I7.unpinned, r7, q7⟩, w7⟩
end
end Tk

/-! Tk, part D: the rules of the own layer, for readings that keep the watch. -/
namespace Tk
open PySem PySem.Spec PyProof.Rows L2 Pd
def KE (g : Pd.Gl) (X : Cx) (W : WX) (κ : Wt) (e : Expr) (m : EM) : Prop := ∃ t, PEk X κ e t ∧ Sim g W (RepV g) t m
def KT (g : Pd.Gl) (X : Cx) (W : WX) (κ : Wt) (e : Expr) (m : TM) : Prop := ∃ t, PTk X κ e t ∧ Sim g W RepB t m
def KA (g : Pd.Gl) (X : Cx) (W : WX) (κ : Wt) (es : List Expr) (m : AM) : Prop := ∃ t, PAk X κ es t ∧ Sim g W (RepA g) t m
def KW (g : Pd.Gl) (X : Cx) (W : WX) (κ : Wt) (e : Expr) (m : TM) : Prop := ∃ t, PWk X κ e t ∧ Sim g W RepB t m
def KO (g : Pd.Gl) (X : Cx) (W : WX) (κ : Wt) (e : Expr) (m : OM) : Prop := ∃ t, PEk X κ e t ∧ SimO g W t m
def KS (g : Pd.Gl) (X : Cx) (W : WX) (κ : Wt) (st : Stmt) (m : SM) : Prop := ∃ t, PSk X κ st t ∧ SimS g W t m
def KSs (g : Pd.Gl) (X : Cx) (W : WX) (κ : Wt) (st : List Stmt) (m : SM) : Prop := ∃ t, PSsk X κ st t ∧ SimS g W t m
def KI (g : Pd.Gl) (X : Cx) (W : WX) (κ : Wt) (tg iter : Expr) (m : AM) : Prop := ∃ wi, PIk X κ tg iter wi ∧ Sim g W (RepI g) wi m
section

theorem ko_of {g : Pd.Gl} {X : Cx} {W : WX} {κ : Wt} {e : Expr} {m : EM} (h : KE g X W κ e m) : KO g X W κ e (oV m) := by
  obtain ⟨t, h1, h2⟩ := h
  refine ⟨t, h1, fun p H0 F0 A F s σ H Q Y hp => h2 p H0 F0 A F s σ H Q Y (PostO.bind hp fun d s' b F' H' A' X' e' r' k => k b F' H' A' X' (Ext.refl _) r')⟩
theorem ke_frz {g : Pd.Gl} {X : Cx} {W : WX} {κ : Wt} {e : Expr} {m : OM} (h : KO g X W κ e m) : KE g X W κ e (eF m) := by
  obtain ⟨t, h1, h2⟩ := h
  refine ⟨t, h1, fun p H0 F0 A F s σ H Q Y hp => h2 p H0 F0 A F s σ H Q Y ?_⟩
  unfold eF at hp
  cases q : m s with
  | ok r s' =>
    rw [q] at hp
    cases r with
    | no => exact hp
    | val d => exact fun v F' H' A' X' e' r' => hp v F' H' A' X' e' r'
    | own l =>
      refine fun a vs F' H' A' X' e' r' k1 k2 k3 k4 k5 => hp (.ref a) _ H' A' (X'.freeze k1 k2 k3 k4 k5) (e'.trans (Ext.new k2)) (.lst (.inl upd_same) (r'.mono (Ext.new k2)))
    | dct l => exact hp.elim
  | exc c n s' => rw [q] at hp; exact hp
  | stuck => rw [q] at hp; exact hp
theorem ke_var {g : Pd.Gl} {X : Cx} {W : WX} {κ : Wt} {e : Expr} {i : Nat} (h : PEk X κ e (tVar i)) : KE g X W κ e (mVar i) := by
  refine ⟨_, h, fun p H0 F0 A F s σ H Q Y hp => ?_⟩
  unfold mVar at hp
  cases q : s.sl[i]? with
  | none => rw [q] at hp; exact hp.elim
  | some x =>
    rw [q] at hp
    cases x with
    | no => exact hp.elim
    | dct l => exact hp.elim
    | val d =>
      obtain ⟨v, h1, r⟩ := Y.var q
      exact ⟨v, h1, hp v F H A Y (Ext.refl _) r⟩
    | own l =>
      obtain ⟨a, F', A', h1, e1, r, Y'⟩ := Y.frzSlot q
      exact ⟨_, h1, hp _ F' H A' Y' e1 r⟩
theorem ko_var {g : Pd.Gl} {X : Cx} {W : WX} {κ : Wt} {e : Expr} {i : Nat} (h : PEk X κ e (tVar i)) : KO g X W κ e (oVar i) := by
  refine ⟨_, h, fun p H0 F0 A F s σ H Q Y hp => ?_⟩
  unfold oVar at hp
  cases q : s.sl[i]? with
  | none => rw [q] at hp; exact hp.elim
  | some x =>
    rw [q] at hp
    cases x with
    | no => exact hp.elim
    | dct l =>
      obtain ⟨a, vs, A1, h1, h2, h3, h4, h5, h6, h7, h8, h9, q⟩ := Y.sl.takeDct i l q
      exact ⟨_, h1, hp a vs F H A1 (Y.slots (s' := { s with sl := s.sl.set i .no }) rfl q) (Ext.refl _) h3 h2 h4 h5 h6 h8⟩
    | val d =>
      obtain ⟨v, h1, r⟩ := Y.var q
      exact ⟨v, h1, hp v F H A Y (Ext.refl _) r⟩
    | own l =>
      obtain ⟨a, vs, A1, h1, h2, h3, h4, h5, h6, h7, h8, h9, q⟩ := Y.sl.takeOwn i l q
      exact ⟨_, h1, hp a vs F H A1 (Y.slots (s' := { s with sl := s.sl.set i .no }) rfl q) (Ext.refl _) h3 h2 h4 h5 h6 h8⟩
theorem ke_c {g : Pd.Gl} {X : Cx} {W : WX} {κ : Wt} {e : Expr} {v : V} {d : D} (h : PEk X κ e (tC v)) (r : ∀ p F, Rep g p F v d) : KE g X W κ e (mC d) :=
  ⟨_, h, fun p H0 F0 A F s σ H Q Y hp => hp v F H A Y (Ext.refl _) (r p F)⟩
end
section
variable {g : Pd.Gl} {X : Cx} {W : WX} {κ : Wt} {a b : Expr} {ma mb : EM} {pos : Pos} {ta tb : TM} {rest : List Expr}
theorem ke_int {i j pos} : KE g X W κ (.Constant (.int i) j pos) (mC (.int i)) := ke_c kpe_int fun _ _ => .int i
theorem ke_bl {b j pos} : KE g X W κ (.Constant (.bool b) j pos) (mC (.bl b)) := ke_c kpe_bl fun _ _ => .bl b
theorem ke_non {j pos} : KE g X W κ (.Constant .none j pos) (mC .non) := ke_c kpe_non fun _ _ => .non
theorem ke_str {x : Str} {s : List Nat} {j pos} (h : x.cps.toList = s := by rfl) : KE g X W κ (.Constant (.str x) j pos) (mC (.str s)) := ke_c kpe_str fun _ _ => by rw [← h]; exact rep_str x
theorem ke_cmp (hgh : κ.gh = true) {op : CmpOp} {r : R2} {f : D → D → Option D} (ho : OpK X (compareOp op) r) (hr : ROp g r f) (ha : KE g X W κ a ma) (hb : KE g X W κ b mb) (hm : behindInMarks op b = false) : KE g X W κ (.Compare a [op] [b] pos) (mBin f ma mb) := by
  obtain ⟨ta, a1, a2⟩ := ha
  obtain ⟨tb, b1, b2⟩ := hb
  exact ⟨_, kpe_cmp hgh ho a1 b1 hm, sim_bin hr a2 b2⟩
theorem ke_bin (hgh : κ.gh = true) {op : Operator} {r : R2} {f : D → D → Option D} (ho : OpK X (binaryOp op) r) (hr : ROp g r f) (ha : KE g X W κ a ma) (hb : KE g X W κ b mb) : KE g X W κ (.BinOp a op b pos) (mBin f ma mb) := by
  obtain ⟨ta, a1, a2⟩ := ha
  obtain ⟨tb, b1, b2⟩ := hb
  exact ⟨_, kpe_op hgh ho a1 b1, sim_bin hr a2 b2⟩
theorem kt_cmp (hgh : κ.gh = true) {op : CmpOp} {r : R2} {f : D → D → Option D} (ho : OpK X (compareOp op) r) (hr : ROp g r f) (ha : KE g X W κ a ma) (hb : KE g X W κ b mb) (hm : behindInMarks op b = false) : KT g X W κ (.Compare a [op] [b] pos) (mTest (mBin f ma mb)) := by
  obtain ⟨ta, a1, a2⟩ := ha
  obtain ⟨tb, b1, b2⟩ := hb
  exact ⟨_, kpt_cmp hgh ho a1 b1 hm, sim_test (sim_bin hr a2 b2)⟩
theorem kw_and1 (h : KT g X W κ a ta) : KW g X W κ (.BoolOp .And [a] pos) ta := let ⟨_, a1, a2⟩ := h; ⟨_, kpw_and1 a1, a2⟩
theorem kw_or1 (h : KT g X W κ a ta) : KW g X W κ (.BoolOp .Or [a] pos) ta := let ⟨_, a1, a2⟩ := h; ⟨_, kpw_or1 a1, a2⟩
theorem kw_and (ha : KT g X W κ a ta) (hb : KW g X W κ (.BoolOp .And (b :: rest) pos) tb) : KW g X W κ (.BoolOp .And (a :: b :: rest) pos) (mAnd ta tb) := by
  obtain ⟨t1, a1, a2⟩ := ha
  obtain ⟨t2, b1, b2⟩ := hb
  refine ⟨_, kpw_and a1 b1, fun p H0 F0 A F s σ H Q Y hp => a2 p H0 F0 A F s σ H _ Y (hp.bind fun k s1 k' F1 H1 A1 Y1 e1 r1 hp1 => ?_)⟩
  cases r1
  cases k with
  | true => exact b2 p H0 F0 A1 F1 s1 σ H1 Q Y1 hp1
  | false => exact hp1 false F1 H1 A1 Y1 (Ext.refl _) rfl
theorem kw_or (ha : KT g X W κ a ta) (hb : KW g X W κ (.BoolOp .Or (b :: rest) pos) tb) : KW g X W κ (.BoolOp .Or (a :: b :: rest) pos) (mOr ta tb) := by
  obtain ⟨t1, a1, a2⟩ := ha
  obtain ⟨t2, b1, b2⟩ := hb
  refine ⟨_, kpw_or a1 b1, fun p H0 F0 A F s σ H Q Y hp => a2 p H0 F0 A F s σ H _ Y (hp.bind fun k s1 k' F1 H1 A1 Y1 e1 r1 hp1 => ?_)⟩
  cases r1
  cases k with
  | true => exact hp1 true F1 H1 A1 Y1 (Ext.refl _) rfl
  | false => exact b2 p H0 F0 A1 F1 s1 σ H1 Q Y1 hp1
theorem kw_t (h : KW g X W κ a ta) : KT g X W κ a ta := let ⟨_, a1, a2⟩ := h; ⟨_, PWk.pt a1, a2⟩
theorem ka_nil : KA g X W κ [] aNil := ⟨_, kpa_nil, fun p H0 F0 A F s σ H Q Y hp => hp [] F H A Y (Ext.refl _) .nil⟩
theorem ka_cons {e : Expr} {es : List Expr} {m : EM} {ms : AM} (h : KE g X W κ e m) (hr : KA g X W κ es ms) (hs : starEach (e :: es) X.env = (false, eval e X.env) :: starEach es X.env := by rfl) : KA g X W κ (e :: es) (aCons m ms) := by
  obtain ⟨t1, a1, a2⟩ := h
  obtain ⟨t2, b1, b2⟩ := hr
  refine ⟨_, kpa_cons a1 b1 hs, fun p H0 F0 A F s σ H Q Y hp => a2 p H0 F0 A F s σ H _ Y (hp.bind fun x s1 v F1 H1 A1 Y1 e1 r1 hp1 => ?_)⟩
  refine b2 p H0 F0 A1 F1 s1 σ H1 _ Y1 (hp1.bind fun xs s2 vs F2 H2 A2 Y2 e2 r2 hp2 => ?_)
  exact hp2 (v :: vs) F2 H2 A2 Y2 (Ext.refl _) (.cons (r1.mono e2) r2)
theorem ko_lst {es : List Expr} {m : AM} (h : KA g X W κ es m) : KO g X W κ (.List es pos) (oLst m) := by
  obtain ⟨t1, a1, a2⟩ := h
  refine ⟨_, kpe_lst a1, fun p H0 F0 A F s σ H Q Y hp => a2 p H0 F0 A F s σ H _ Y (PostO.bind hp fun xs s1 vs F1 H1 A1 Y1 e1 r1 hp1 => ?_)⟩
  by_cases hl : xs.length ≤ sizeLine
  · rw [if_pos hl] at hp1
    refine ⟨by rw [r1.length]; exact hl, fun q nq => ?_⟩
    have G := Gr.lay (g := g) (p := none) (o := HO.lst vs) Y1.ext Y1.tb nq
    obtain ⟨k1, k2, k3, k4⟩ := Y1.fresh nq
    exact hp1 q vs _ _ A1 (Y1.grow G) G.ff r1 upd_same k1 k2 k3 k4
  · rw [if_neg hl] at hp1; exact hp1.elim
end
section
variable {g : Pd.Gl} {X : Cx} {W : WX} {κ : Wt} {a b : Expr} {ma mb : EM} {pos : Pos}
theorem ko_bin (hgh : κ.gh = true) {op : Operator} {r : R2} {f : D → D → Option SV} (ho : OpK X (binaryOp op) r) (hr : ROpO g r f) (ha : KE g X W κ a ma) (hb : KE g X W κ b mb) : KO g X W κ (.BinOp a op b pos) (oBin f ma mb) := by
  obtain ⟨ta, a1, a2⟩ := ha
  obtain ⟨tb, b1, b2⟩ := hb
  exact ⟨_, kpe_op hgh ho a1 b1, simO_bin hr a2 b2⟩
end
section
variable {g : Pd.Gl} {X : Cx} {W : WX} {κ : Wt} {st : Stmt} {rest : List Stmt} {m n : SM} {pos : Pos}
theorem kss_nil : KSs g X W κ [] mNext := ⟨_, kpss_nil, fun p H0 F0 A F s σ H D Y hp => hp σ F H A Y (Ext.refl _)⟩
theorem kss_one (h : KS g X W κ st m) : KSs g X W κ [st] m := let ⟨_, a1, a2⟩ := h; ⟨_, kpss_one a1, a2⟩
theorem kss_cons (h : KS g X W κ st m) (hr : KSs g X W κ rest n) : KSs g X W κ (st :: rest) (mSeq m n) := by
  obtain ⟨t1, a1, a2⟩ := h
  obtain ⟨t2, b1, b2⟩ := hr
  exact ⟨_, kpss_cons a1 b1, sim_seq a2 b2⟩
theorem ks_ret {e : Expr} {mo : OM} (he : KO g X W κ e mo) : KS g X W κ (.Return (some e) pos) (mRet mo) := by
  obtain ⟨t, a1, a2⟩ := he
  refine ⟨_, kps_ret a1, fun p H0 F0 A F s σ H D Y hp => ?_⟩
  refine a2 p H0 F0 A F s σ H _ Y ?_
  unfold mRet at hp
  cases q : mo s with
  | ok a s1 => cases a with
    | no => rw [q] at hp; exact hp
    | val d => rw [q] at hp; exact fun v F' H' A' Y' e' r' => hp v σ F' H' A' Y' e' r'
    | own l => rw [q] at hp; exact fun a vs F' H' A' Y' e' r' k1 k2 k3 k4 _ => hp a vs σ F' H' A' Y' e' r' k1 k2 k3 k4
    | dct l => rw [q] at hp; exact hp.elim
  | exc c n s1 => rw [q] at hp; exact fun cls d F' H' A' Y' e' x => hp cls d σ F' H' A' Y' e' x
  | stuck => rw [q] at hp; exact hp
theorem ks_if {c : Expr} {a b : List Stmt} {mc : TM} (hc : KT g X W κ c mc) (ha : KSs g X W κ a m) (hb : KSs g X W κ b n) : KS g X W κ (.If c a b pos) (mIfS mc m n) := by
  obtain ⟨t0, c1, c2⟩ := hc
  obtain ⟨t1, a1, a2⟩ := ha
  obtain ⟨t2, b1, b2⟩ := hb
  refine ⟨_, kps_if c1 a1 b1, fun p H0 F0 A F s σ H D Y hp => c2 p H0 F0 A F s σ H _ Y (PostS.bs hp fun k s1 k' F1 H1 A1 Y1 e1 r1 hp1 => ?_)⟩
  cases r1
  cases k with
  | true => exact a2 p H0 F0 A1 F1 s1 σ H1 D Y1 hp1
  | false => exact b2 p H0 F0 A1 F1 s1 σ H1 D Y1 hp1
end
section
variable {g : Pd.Gl} {X : Cx} {W : WX} {κ : Wt} {k : Nat} {f : FM} {x : Str} {p' pos : Pos}
theorem ko_call {e : Expr} {es : List Expr} {m : AM} (C : Cal X.prog X.w X.K X.mg X.base g k x f) (hr : RoomG k X.A) (hg : L2.Gl X x) (tk : Takes X W) (ha : KA g X W κ (e :: es) m)
    (hdb : (x == ("__debug__" : Str)) = false := by decide) (he : starEach (e :: es) X.env = (false, eval e X.env) :: starEach es X.env := by rfl) (hpl : (backTo pos (starEach es X.env)).any (·.1) = false := by rfl) : KO g X W κ (.Call (.Name x p') (e :: es) [] pos) (oCall f m) := by
  obtain ⟨a, fd, ps, F, gm, kp, b⟩ := C.ex
  obtain ⟨t, a1, a2⟩ := ha
  refine ⟨_, kpe_callG F hr hg gm kp b (fun σ => passAt tk σ) a1 hdb he hpl, fun p H0 F0 A F s σ H Q Y hp => a2 p H0 F0 A F s σ H _ Y (PostO.bind hp fun ds s1 vs F1 H1 A1 Y1 e1 r1 hp1 => ?_)⟩
  exact post_call Y1 r1 hp1
theorem ko_call0 (C : Cal X.prog X.w X.K X.mg X.base g k x f) (hr : RoomG k X.A) (hg : L2.Gl X x) (tk : Takes X W) (hdb : (x == ("__debug__" : Str)) = false := by decide) : KO g X W κ (.Call (.Name x p') [] [] pos) (oCall f aNil) := by
  obtain ⟨a, fd, ps, F, gm, kp, b⟩ := C.ex
  refine ⟨_, kpe_callG0 F hr hg gm kp b (fun σ => passAt tk σ) hdb, fun p H0 F0 A F s σ H Q Y hp => ?_⟩
  exact post_call Y .nil hp
end
section
variable {g : Pd.Gl} {X : Cx} {W : WX} {κ : Wt} {a : Expr} {p' pos : Pos}
theorem ko_callR {i k : Nat} {f : FM} {x : Str} {es : List Expr} {m : AM} (C : Cal X.prog X.w X.K X.mg X.base g k x f) (hr : RoomG k X.A) (hg : L2.Gl X x) (tk : Takes X W) (ha : PEk X κ a (tVar i)) (hm : KA g X W κ es m)
    (hdb : (x == ("__debug__" : Str)) = false := by decide) (he : starEach (a :: es) X.env = (false, eval a X.env) :: starEach es X.env := by rfl) (hpl : (backTo pos (starEach es X.env)).any (·.1) = false := by rfl) : KO g X W κ (.Call (.Name x p') (a :: es) [] pos) (oCallR i f m) := by
  obtain ⟨fa, fd, ps, F, gm, kp, b⟩ := C.ex
  obtain ⟨t, a1, a2⟩ := hm
  refine ⟨_, kpe_callG F hr hg gm kp b (fun σ => passAt tk σ) (kpa_cons ha a1 he) hdb he hpl, fun p H0 F0 A F0' s σ H Q Y hp => ?_⟩
  unfold oCallR at hp
  cases q : s.sl[i]? with
  | none => rw [q] at hp; exact hp.elim
  | some sv =>
    rw [q] at hp
    cases sv with
    | no => exact hp.elim
    | val d => exact hp.elim
    | dct l => exact hp.elim
    | own l =>
      obtain ⟨a0, vs0, h1, _, h2, r2⟩ := Y.sl.getOwn q
      refine ⟨.ref a0, h1, a2 p H0 F0 A F0' s σ H _ Y (PostO.bind hp fun ds s1 vs F1 H1 A1 Y1 e1 r1 hp1 => ?_)⟩
      cases q1 : s1.sl[i]? with
      | none => rw [q1] at hp1; exact hp1.elim
      | some sv1 =>
        rw [q1] at hp1
        cases sv1 with
        | no => exact hp1.elim
        | val d => exact hp1.elim
        | dct l => exact hp1.elim
        | own l1 =>
          obtain ⟨a1', vs1, k1, km, k2, k3⟩ := Y1.sl.getOwn q1
          have ea : a1' = a0 := by
            have := k1.symm.trans h1
            injection (Option.some.inj (Option.some.inj this))
          subst ea
          obtain ⟨f0, ff, fp, _⟩ := Y1.sl.facts a1' km
          cases l1 with
          | nil => exact hp1.elim
          | cons d0 rr =>
            cases d0 with
            | int n =>
              cases rr with
              | cons _ _ => exact hp1.elim
              | nil =>
                have hp2 : PostO g W p H0 F0 F1 σ Q (if noPiles ds = true then outR i (f (.pile :: ds) n) s1 else .stuck) := hp1
                split at hp2
                · rename_i hn
                  have ev : vs1 = [.int n] := by
                    obtain ⟨w, rfl, rw'⟩ := k3.one
                    cases rw'
                    rfl
                  subst ev
                  refine ⟨some a1', F1, .pile :: ds, n, .cons (.pile rfl) (Reps.swap r1 hn), Y1.ext, ⟨fun b e => ?_, Y1.pl.2⟩, Y1.tb, ?_⟩
                  · cases e; exact ⟨ff, k2⟩
                  unfold outR at hp2
                  cases qf : f (.pile :: ds) n with
                  | stuck => rw [qf] at hp2; exact hp2.elim
                  | exc c mm n' =>
                    rw [qf] at hp2
                    refine fun cls d F' H' G P z => ?_
                    obtain ⟨A', _, Y'⟩ := Y1.callR q1 k1 ⟨_, k2⟩ G P
                    exact hp2 cls d F' H' A' Y' G.ff z
                  | ok rv n' =>
                    rw [qf] at hp2
                    cases rv with
                    | no => exact hp2.elim
                    | dct l => exact hp2.elim
                    | val d =>
                      refine fun v F' H' G P z => ?_
                      obtain ⟨A', _, Y'⟩ := Y1.callR q1 k1 ⟨_, k2⟩ G P
                      have hp3 : PostO g W p H0 F0 F1 σ Q (if noPile d = true then .ok (.val d) { s1 with sl := s1.sl.set i (.own [.int n']) } else .stuck) := hp2
                      split at hp3
                      · exact hp3 v F' H' A' Y' G.ff (Rep.swap z (by assumption))
                      · exact hp3.elim
                    | own l =>
                      refine fun a vs' F' H' G P z w1 w2 w3 w4 => ?_
                      obtain ⟨A', mA, Y'⟩ := Y1.callR q1 k1 ⟨_, k2⟩ G P
                      have hp3 : PostO g W p H0 F0 F1 σ Q (if noPiles l = true then .ok (.own l) { s1 with sl := s1.sl.set i (.own [.int n']) } else .stuck) := hp2
                      split at hp3
                      · obtain ⟨y1, y2, y3, y4⟩ := Y1.fresh w3
                        exact hp3 a vs' F' H' A' Y' G.ff (Reps.swap z (by assumption)) w1 w2 y2 y3 (fun hm => (mA a hm).elim y4 fun e => w4 (by rw [e]))
                      · exact hp3.elim
                · exact hp2.elim
            | _ => exact hp1.elim
end
end Tk

/-! Tk, part E: texts whose token is out; str.replace; defs that are promised such a text. -/
namespace Tk
open PySem PySem.Spec PyProof.Rows L2 Pd

def GoodV (n : Nat) (u : Value) : Prop := ∃ z t, u = .str z t ∧ 1 ≤ t ∧ t < n
theorem GoodV.mono {n m : Nat} {u : Value} (h : GoodV n u) (e : n ≤ m) : GoodV m u := let ⟨z, t, a, b, c⟩ := h; ⟨z, t, a, b, Nat.lt_of_lt_of_le c e⟩
/-- two maps of one object -/
theorem ns_eq {h : Heap} {a : Addr} {m m' : Str → Option Value} (x : h.Ns a m) (y : h.Ns a m') : m = m' := by
  obtain ⟨o, es, ep, h1, h2, _, h3⟩ := x
  obtain ⟨o', es', ep', h1', h2', _, h3'⟩ := y
  rw [h1] at h1'; cases h1'
  rw [h2] at h2'; cases h2'
  funext n
  rw [← h3, ← h3']

def PEg (X : Cx) (κ : Wt) (e : Expr) (t : TE) : Prop :=
  ∀ (pins : List (Addr × Obj)) (s : Shared) (σ : L2.St) (H : Hp) (Q : VK), (κ.gh = true → Gh X pins) → Watch X κ s → Inv X pins σ H s → t σ H Q → wpAny (model X.prog X.w) X.A (eval e X.env) (fun u s' => (EP X pins σ Q u s' ∧ Watch X κ s') ∧ GoodV s'.toks u) X.xe s
section
variable {X : Cx} {κ : Wt} {a b e : Expr} {es : List Expr} {ta tb te : TE} {pos : Pos}
theorem kpg_name {i : Nat} {x : Str} (hN : X.N[i]? = some x) (hl : X.env.scope.names.lookup x = some .local) (hx : κ.names.contains x = true) (hd : (x == ("__debug__" : Str)) = false := by decide) : PEg X κ (.Name x pos) (tVar i) := by
  intro pins s σ H Q G w I h
  obtain ⟨v, e, h⟩ := h
  obtain ⟨m, h1, h2⟩ := id w
  obtain ⟨z, t, q1, q2, q3⟩ := h2 x (List.contains_iff_mem.mp hx)
  obtain ⟨m', hn, hlk⟩ := I.loc
  have em := ns_eq hn h1
  subst em
  obtain ⟨u, r, l⟩ := hlk i x v hN e (.inl hl)
  rcases l with ⟨hk, hm⟩ | ⟨hk, _⟩
  · rw [q1] at hm
    cases hm
    exact wpAny_Name (wpAny_loadName_local I.ok.kind hk hn q1 ⟨⟨⟨v, H, I, r, h⟩, w⟩, z, t, rfl, q2, q3⟩) hd
  · have hk' : X.env.scope.names.lookup x = some .cell ∨ X.env.scope.names.lookup x = some .free := hk
    rw [hl] at hk'
    rcases hk' with z | z <;> cases z
/-- a written text: some token is out already -/
theorem kpg_str {x : Str} {j : Nat} (hx : κ.names ≠ []) : PEg X κ (.Constant (.str x) j pos) (tC (.str x)) := by
  intro pins s σ H Q G w I h
  have h1 : 1 ≤ s.toks := by
    obtain ⟨m, _, h2⟩ := w
    obtain ⟨y, hy⟩ := List.exists_mem_of_ne_nil _ hx
    obtain ⟨z, t, _, a, b⟩ := h2 y hy
    exact Nat.le_of_lt (Nat.lt_of_le_of_lt a b)
  exact Calls.Constant_str ⟨⟨⟨.str x, H, I.tok _, ⟨_, rfl⟩, h⟩, w.tok (Nat.le_succ _)⟩, x, s.toks, rfl, h1, Nat.lt_succ_self _⟩
end

/-! ### str.replace -/
/-- template.replace("?", word): the slots i and j -/
def tRepl (i : Nat) (y : Str) (j : Nat) : TE := fun σ H Q => ∃ x z, σ[i]? = some (some (.str x)) ∧ σ[j]? = some (some (.str z)) ∧ (y == z) = false ∧ x.length + (x.length + 1) * z.length ≤ 16777216 ∧ Q (.str (Txt.replace x y z)) H
section
variable {X : Cx} {κ : Wt}
theorem kpe_repl {i j jc : Nat} {kx kz y : Str} {p1 p2 cp apos pos : Pos} (hNx : X.N[i]? = some kx) (hvx : Vis X.env.scope kx) (hNz : X.N[j]? = some kz) (hlz : X.env.scope.names.lookup kz = some .local) (hz : κ.names.contains kz = true)
    (hdx : (kx == ("__debug__" : Str)) = false := by decide) (hcx : (kx == ("__classdict__" : Str)) = false := by decide) (hdz : (kz == ("__debug__" : Str)) = false := by decide)
    (hst : starEach [.Constant (.str y) jc cp, .Name kz p2] X.env = [(false, eval (.Constant (.str y) jc cp) X.env), (false, eval (.Name kz p2) X.env)] := by rfl)
    (hbase : attributeBase (.Name kx p1) "replace" X.env (eval (.Name kx p1) X.env) = eval (.Name kx p1) X.env := by rfl) (hline : (apos.endLine == pos.line) = true := by rfl) :
    PEk X κ (.Call (.Attribute (.Name kx p1) "replace" apos) [.Constant (.str y) jc cp, .Name kz p2] [] pos) (tRepl i y j) := by
  intro pins s σ H Q G w I h
  obtain ⟨x, z, hx, hsz, hyz, hb, q⟩ := h
  obtain ⟨m, h1, h2⟩ := id w
  obtain ⟨z', t, q1, q2, q3⟩ := h2 kz (List.contains_iff_mem.mp hz)
  have em : z' = z := by
    obtain ⟨m', hn, hlk⟩ := I.loc
    have em := ns_eq hn h1
    subst em
    obtain ⟨u, r, l⟩ := hlk j kz _ hNz hsz (.inl hlz)
    rcases l with ⟨hk, hm⟩ | ⟨hk, _⟩
    · rw [q1] at hm
      cases hm
      obtain ⟨_, e⟩ := r
      cases e; rfl
    · have hk' : X.env.scope.names.lookup kz = some .cell ∨ X.env.scope.names.lookup kz = some .free := hk
      rw [hlz] at hk'
      rcases hk' with z | z <;> cases z
  subst em
  refine PySem.Call_method2 hbase hst hline (raw_name hNx hvx I hx (fun v r => ?_) hdx hcx)
  obtain ⟨tx, e⟩ := r
  subst e
  refine ⟨"str", _, PySem.F.plainAttrs_str, PySem.F.slot_str_replace, PySem.F.type_str_replace, typeIs_str _ _ _, (fun _ e => nomatch e), Calls.callWith_builtin rfl (Calls.evalArgs_plain (Calls.spliced_cons ?_))⟩
  refine Calls.Constant_str (Calls.spliced_cons (wpAny_Name (wpAny_loadName_local I.ok.kind hlz (s := { s with toks := s.toks + 1 }) h1 q1 (Calls.spliced_nil ?_)) hdz))
  have main : wpAny (model X.prog X.w) X.A (call (.builtin "str.replace") [.str x tx, .str y s.toks, .str z' t]) (fun u s' => EP X pins σ Q u s' ∧ (∀ m, s.heap.Ns X.env.locals m → s'.heap.Ns X.env.locals m)) X.xe { s with toks := s.toks + 1 } :=
    PySem.SC.replace (Nat.ne_of_gt (Nat.lt_of_le_of_lt (Nat.zero_le _) q3)) (Nat.ne_of_gt q2) (Nat.ne_of_gt q3) hyz hb fun t' k => ⟨⟨.str (Txt.replace x y z'), H, I.tok k, ⟨t', rfl⟩, q⟩, fun m h => h⟩
  exact wpAny_mono (PySem.wpAny_toks main) (fun u s' q => ⟨q.2.1, w.step (Nat.le_trans (Nat.le_succ _) q.1) q.2.2⟩) fun _ _ z => z.2
end

/-! ### defs whose last argument is a text with its token out -/
structure FnT (P : Program) (w : World) (K : PySem.W.Frag) (mg : Str → Option Value) (base : Heap) (CX : CXT) (k : Nat) (f : Addr) (fd : FuncData) (ps : List Str) (j : Nat) (sp : Sp) : Prop where
  len : ∀ vs H Q E, sp vs H Q E → vs.length = ps.length
  run : ∀ (A : Around) (out : List Env) (sh : Shared) (H : Hp) (ar : Args) (us : List Value) (vs : List V) (Q : VK) (E : XK), RoomG k A → Env0 P w K mg base A out sh H → BindsTo sh fd ar (ps.zip us) → Vals vs us → (∃ u, us[j]? = some u ∧ GoodV sh.toks u) → sp vs H Q E →
    codeAny (model P w) A (.call (.ref f) ar) (CR CX out P w H sh Q E) sh
def PSsw (X : Cx) (κ : Wt) (st : List Stmt) (t : TS) : Prop :=
  ∀ (pins : List (Addr × Obj)) (s : Shared) (σ : L2.St) (H : Hp) (D : Ends), (κ.gh = true → Gh X pins) → Watch X κ s → Inv X pins σ H s → t D σ H → wpAny (model X.prog X.w) X.A (execs st X.env) (SP X pins D) X.xe s
theorem PSsk.w {X : Cx} {κ : Wt} {st : List Stmt} {t : TS} (h : PSsk X κ st t) : PSsw X κ st t := fun pins s σ H D G w I q => thn (h pins s σ H D G w I q) fun _ _ z => z.1
section
variable {P : Program} {w : World} {K : PySem.W.Frag} {mg : Str → Option Value} {base : Heap}
theorem fnT_of {CX : CXT} {x qual : Str} {params : Arguments} {body : List Stmt} {scope : Scope} {a : Addr} {fd : FuncData} {N ps : List Str} {k j : Nat} {pj : Str} {sp : Sp} (D : FunD K x qual params body scope [] [] a fd) (S : FnScope N ps scope)
    (hj : ps[j]? = some pj) (hlj : scope.names.lookup pj = some .local) (hl : ∀ vs H Q E, sp vs H Q E → vs.length = ps.length)
    (hbd : ∀ (cdv : Value) (A : Around) (out : List Env) (sh : Shared) (H : Hp) (vs : List V) (Q : VK) (E : XK), RoomG k (A.deeper (envOfC qual scope sh.heap.objs.size a cdv)) → sp vs H Q E →
      ∃ t, PSsw (cxOf CX P w K mg base N qual scope a cdv A out sh H E) ⟨[pj], false⟩ body t ∧ t { nx := fun _ H' => Q .non H', rt := Q } (start N vs) H) : FnT P w K mg base CX (k + 1) a fd ps j sp := by
  obtain ⟨oc, od, dV, kV, doc, pm, an, cdv, ct, osl, hfd, look, code, _, _⟩ := D.ex
  subst hfd
  refine ⟨hl, fun A out sh H ar us vs Q E room env0 bnd rv gd prom => ?_⟩
  have n1 := hl _ _ _ _ prom
  have kin : K.In sh.heap := env0.mod.kin.keeps fun b o q => (env0.bs b o q).1
  have nol : sh.heap.NoLimit := env0.mod.nolimit.keeps fun b o q => (env0.bs b o q).1
  have kinds : ∀ y ∈ ps.zip us, scope.names.lookup y.1 = some .local ∨ (scope.names.lookup y.1 = some .cell ∧ ((cellsFrom (sh.heap.objs.size + 1) scope.names []).lookup y.1).isSome = true) := by
    rintro ⟨y, v⟩ hy
    cases S.par y (List.of_mem_zip hy).1 with
    | inl q => exact .inl q
    | inr q => exact .inr ⟨q, PySem.W.cellsFrom_some _ _ _ (.inl q)⟩
  refine codeAny_call_function room.rm.depth (kin _ _ look) rfl S.co S.gen rfl (PySem.W.codeRec_of kin code) (bnd _ _ _ _ ?_)
  refine PySem.wpAny_with_toks (n := sh.toks) (Nat.le_refl _) (wpAny_newFunctionEnv_cells S.kind kinds fun nenv hne sh1 call htk => ?_)
  subst hne
  refine ⟨nol.keeps call.toInCall.keep, codeAny_func ?_⟩
  obtain ⟨t, run, post⟩ := hbd cdv A out sh H vs Q E (room.deeper _) prom
  have inv : Inv (cxOf CX P w K mg base N qual scope a cdv A out sh H E) [] (start N vs) H sh1 := inv_start S room.rm.hd env0 n1 rv call
  have nd : ps.Nodup := by
    have e : ps = N.take ps.length := S.pre.symm
    rw [e]
    exact S.nd.sublist (List.take_sublist _ _)
  have wt : Watch (cxOf CX P w K mg base N qual scope a cdv A out sh H E) ⟨[pj], false⟩ sh1 := by
    obtain ⟨u, hu, z, t, rfl, h1, h2⟩ := gd
    refine ⟨_, call.toInCall.ns, fun y hy => ?_⟩
    have ey : y = pj := by simpa using hy
    subst ey
    exact ⟨z, t, bindL_get nd hj hu hlj, h1, Nat.lt_of_lt_of_le h2 htk⟩
  have ends : ∀ {σ1 : L2.St} {H1 : Hp} {v : V} {u : Value} {sh2 : Shared}, Inv (cxOf CX P w K mg base N qual scope a cdv A out sh H E) [] σ1 H1 sh2 → RelV v u → Q v H1 → CE out P w H sh Q u sh2 :=
    fun {_ H1 v _ _} J ru q => ⟨v, H1, J.os, J.bare, J.base, J.hok, ru, q⟩
  refine wpAny_mono (run [] sh1 (start N vs) H _ (fun z => by cases z) wt inv post) (fun fl sh2 done => ?_) fun _ _ z => z
  match fl, done with
  | .ret u, ⟨v, _, _, J, ru, q⟩ => exact ends J ru q
  | .next, ⟨_, _, J, q⟩ => exact ends (v := V.non) (u := Value.none) J rfl q
  | .brk, ⟨_, _, _, q⟩ => exact q.elim
  | .cont, ⟨_, _, _, q⟩ => exact q.elim
end
end Tk

/-! Tk, part F: calls of such defs; the replacing as a meaning. -/
namespace Tk
open PySem PySem.Spec PyProof.Rows L2 Pd

/-- arguments whose number j is a text with its token out -/
def PAg (X : Cx) (κ : Wt) (j : Nat) (es : List Expr) (t : TA) : Prop :=
  ∀ (pos : Pos) (pins : List (Addr × Obj)) (s : Shared) (σ : L2.St) (H : Hp) (Q : List V → Hp → Prop), (κ.gh = true → Gh X pins) → Watch X κ s → Inv X pins σ H s → t σ H Q → wpAny (model X.prog X.w) X.A (spliced (backTo pos (starEach es X.env))) (fun us s' => (AP X pins σ Q us s' ∧ Watch X κ s') ∧ ∃ u, us[j]? = some u ∧ GoodV s'.toks u) X.xe s
section
variable {X : Cx} {κ : Wt} {e : Expr} {es : List Expr} {te : TE} {tr : TA} {j : Nat}
theorem kpag_last (ha : PEg X κ e te) (hs : starEach [e] X.env = [(false, eval e X.env)] := by rfl) : PAg X κ 0 [e] (tCons te tNil) := by
  intro pos pins s σ H Q G w I h
  rw [hs]
  show wpAny _ _ (spliced ((false, eval e X.env) :: [])) _ _ s
  refine Calls.spliced_cons (thn (ha pins s σ H _ G w I h) fun u s1 ⟨⟨⟨x, H1, I1, r1, q1⟩, w1⟩, gd⟩ => ?_)
  exact Calls.spliced_nil ⟨⟨⟨[x], H1, I1, .cons r1 .nil, q1⟩, w1⟩, u, rfl, gd⟩
theorem kpag_cons (ha : PEk X κ e te) (hr : PAg X κ j es tr) (hs : starEach (e :: es) X.env = (false, eval e X.env) :: starEach es X.env := by rfl) : PAg X κ (j + 1) (e :: es) (tCons te tr) := by
  intro pos pins s σ H Q G w I h
  rw [hs]
  show wpAny _ _ (spliced ((false, eval e X.env) :: backTo pos (starEach es X.env))) _ _ s
  refine Calls.spliced_cons (thn (ha pins s σ H _ G w I h) fun u s1 ⟨⟨x, H1, I1, r1, q1⟩, w1⟩ => ?_)
  exact thn (hr pos pins s1 σ H1 _ G w1 I1 q1) fun us s2 ⟨⟨⟨xs, H2, I2, r2, q2⟩, w2⟩, u', gu, gd⟩ => ⟨⟨⟨x :: xs, H2, I2, .cons r1 r2, q2⟩, w2⟩, u', by simpa using gu, gd⟩
/-- two written texts: no watch is wanted -/
theorem pag_strs {x y : Str} {j1 j2 : Nat} {p1 p2 : Pos} {pos : Pos} {pins : List (Addr × Obj)} {s : Shared} {σ : L2.St} {H : Hp} {Q : List V → Hp → Prop} (I : Inv X pins σ H s) (h : Q [.str x, .str y] H)
    (hs : starEach [.Constant (.str x) j1 p1, .Constant (.str y) j2 p2] X.env = [(false, eval (.Constant (.str x) j1 p1) X.env), (false, eval (.Constant (.str y) j2 p2) X.env)] := by rfl) :
    wpAny (model X.prog X.w) X.A (spliced (backTo pos (starEach [.Constant (.str x) j1 p1, .Constant (.str y) j2 p2] X.env))) (fun us s' => AP X pins σ Q us s' ∧ ∃ u, us[1]? = some u ∧ GoodV s'.toks u) X.xe s := by
  rw [hs]
  show wpAny _ _ (spliced ((false, eval (.Constant (.str x) j1 p1) X.env) :: (false, eval (.Constant (.str y) j2 p2) X.env) :: [])) _ _ s
  refine Calls.spliced_cons (Calls.Constant_str (Calls.spliced_cons (Calls.Constant_str (Calls.spliced_nil ?_))))
  exact ⟨⟨[.str x, .str y], H, I.tok _, .cons ⟨_, rfl⟩ (.cons ⟨_, rfl⟩ .nil), h⟩, _, rfl, y, s.toks + 1, rfl, Nat.succ_le_succ (Nat.zero_le _), Nat.lt_succ_self _⟩
end
section
variable {X : Cx} {κ : Wt} {CX : CXT} {k : Nat} {fa : Addr} {fd : FuncData} {ps : List Str} {j : Nat} {sp : Sp} {E : L2.St → XK} {x : Str} {p' pos : Pos} {e : Expr} {es : List Expr} {t : TA}
theorem run_fnT {pins : List (Addr × Obj)} {σ : L2.St} {H : Hp} {sh : Shared} {Q : VK} {us : List Value} {vs : List V} (D : FnT X.prog X.w X.K X.mg X.base CX k fa fd ps j sp) (room : RoomG k X.A) (hb : Binds X.K fd ps []) (px : PassesAt CX X σ (E σ))
    (I : Inv X pins σ H sh) (rv : Vals vs us) (gd : ∃ u, us[j]? = some u ∧ GoodV sh.toks u) (prom : sp vs H Q (E σ)) : wpAny (model X.prog X.w) X.A (call (.ref fa) us) (fun u s' => EP X pins σ Q u s' ∧ sh.toks ≤ s'.toks ∧ (∀ m, sh.heap.Ns X.env.locals m → s'.heap.Ns X.env.locals m)) X.xe sh := by
  have n1 : us.length = ps.length := by rw [← rv.length]; exact D.len _ _ _ _ prom
  have b1 := hb sh us I.kIn (by rw [List.append_nil]; exact n1)
  rw [List.append_nil] at b1
  refine wpAny_mono (PySem.wpAny_toks (wpAny_call (Q := fun u s' => EP X pins σ Q u s' ∧ (∀ m, sh.heap.Ns X.env.locals m → s'.heap.Ns X.env.locals m)) (codeAny_mono (D.run X.A X.stack sh H ⟨us, []⟩ us vs Q (E σ) room I.env0 b1 rv gd prom) fun r sh' got => ?_))) (fun u s' q => ⟨q.2.1, q.1, q.2.2⟩) fun _ _ z => z.2
  match r, got with
  | .error z, got => exact px pins H sh z sh' I got
  | .ok (.ret u), got =>
    refine ⟨I.after got, fun m ⟨o, es, ep, ho, hd, hr⟩ => ?_⟩
    obtain ⟨_, _, _, _, un, _⟩ := got
    obtain ⟨sl, e⟩ := un.any ho I.free (fun z => nomatch z)
    exact ⟨_, es, ep, e, hd, hr⟩
theorem kpe_callT (D : FnT X.prog X.w X.K X.mg X.base CX k fa fd ps j sp) (room : RoomG k X.A) (hg : L2.Gl X x) (hm : X.mg x = some (.ref fa)) (keep : PySem.W.keepIn X.K (.ref fa) = true) (hb : Binds X.K fd ps []) (px : ∀ σ, PassesAt CX X σ (E σ))
    (ha : PAg X κ j (e :: es) t) (hdb : (x == ("__debug__" : Str)) = false := by decide) (he : starEach (e :: es) X.env = (false, eval e X.env) :: starEach es X.env := by rfl) (hpl : (backTo pos (starEach es X.env)).any (·.1) = false := by rfl) :
    PEk X κ (.Call (.Name x p') (e :: es) [] pos) (tCallS sp E t) := by
  intro pins sh σ H Q G w I h
  refine wpAny_Call_Name_kw (ld_glob I hg hm ?_ hdb)
  refine PySem.W.callWith_K (h₀ := X.base) I.ok.mod.kin keep (thn (ha pos pins sh σ H _ G w I h) ?_) he hpl
  rintro us sh1 ⟨⟨⟨vs, H1, J, rv, q⟩, w1⟩, gd⟩
  exact ⟨J.kIn, thn (run_fnT D room hb (px σ) J rv gd q) fun u s' ⟨q1, q2, q3⟩ => ⟨q1, w1.step q2 q3⟩⟩
/-- f("..", "..") -/
theorem pe_callTT {y z : Str} {j1 j2 : Nat} {p1 p2 : Pos} (hj : j = 1) (D : FnT X.prog X.w X.K X.mg X.base CX k fa fd ps j sp) (room : RoomG k X.A) (hg : L2.Gl X x) (hm : X.mg x = some (.ref fa)) (keep : PySem.W.keepIn X.K (.ref fa) = true) (hb : Binds X.K fd ps []) (px : ∀ σ, PassesAt CX X σ (E σ))
    (hdb : (x == ("__debug__" : Str)) = false := by decide)
    (hs : starEach [.Constant (.str y) j1 p1, .Constant (.str z) j2 p2] X.env = [(false, eval (.Constant (.str y) j1 p1) X.env), (false, eval (.Constant (.str z) j2 p2) X.env)] := by rfl)
    (he : starEach [.Constant (.str y) j1 p1, .Constant (.str z) j2 p2] X.env = (false, eval (.Constant (.str y) j1 p1) X.env) :: starEach [.Constant (.str z) j2 p2] X.env := by rfl) (hpl : (backTo pos (starEach [.Constant (.str z) j2 p2] X.env)).any (·.1) = false := by rfl) :
    PE X (.Call (.Name x p') [.Constant (.str y) j1 p1, .Constant (.str z) j2 p2] [] pos) (tCallS sp E (tCons (tC (.str y)) (tCons (tC (.str z)) tNil))) := by
  subst hj
  refine ⟨fun pins sh σ H Q I h => ?_⟩
  refine wpAny_Call_Name_kw (ld_glob I hg hm ?_ hdb)
  refine PySem.W.callWith_K (h₀ := X.base) I.ok.mod.kin keep (thn (pag_strs (pins := pins) (σ := σ) (H := H) (Q := fun vs H1 => sp vs H1 Q (E σ)) I h hs) ?_) he hpl
  rintro us sh1 ⟨⟨vs, H1, J, rv, q⟩, gd⟩
  exact ⟨J.kIn, thn (run_fnT D room hb (px σ) J rv gd q) fun u s' z => z.1⟩
end
/-- what such a def is worth to its callers -/
structure CalT (P : Program) (w : World) (K : PySem.W.Frag) (mg : Str → Option Value) (base : Heap) (g : Pd.Gl) (k : Nat) (x : Str) (j : Nat) (f : FM) : Prop where
  ex : ∃ (a : Addr) (fd : FuncData) (ps : List Str), FnT P w K mg base (L2.CX P w) k a fd ps j (spF g f) ∧ mg x = some (.ref a) ∧ PySem.W.keepIn K (.ref a) = true ∧ Binds K fd ps []
def KSw (g : Pd.Gl) (X : Cx) (W : WX) (κ : Wt) (st : List Stmt) (m : SM) : Prop := ∃ t, PSsw X κ st t ∧ SimS g W t m
theorem KSs.w {g : Pd.Gl} {X : Cx} {W : WX} {κ : Wt} {st : List Stmt} {m : SM} (h : KSs g X W κ st m) : KSw g X W κ st m := let ⟨t, a, b⟩ := h; ⟨t, a.w, b⟩
section
variable {P : Program} {w : World} {K : PySem.W.Frag} {mg : Str → Option Value} {base : Heap} {g : Pd.Gl}
/-- the end of a def's meaning -/
theorem sp_end {m : SM} {p : Option Addr} {F H : Hp} {np n : Nat} {ds : List D} {nn : Int} {Q : VK} {E : XK} {t : TS} {σ : L2.St} (b2 : SimS g (WD E) t m) (hl : ds.length = np)
    (Y : Rel g p H F [] F ⟨ds.map SV.val ++ List.replicate (n - np) .no, nn⟩ σ H) (hp : PostF g p F H Q E (mkF np n m ds nn)) : t { nx := fun _ H' => Q .non H', rt := Q } σ H := by
  unfold mkF at hp
  rw [if_pos hl] at hp
  refine b2 p H F [] F _ σ H _ Y ?_
  generalize hS : m ⟨ds.map SV.val ++ List.replicate (n - np) .no, nn⟩ = rs at hp
  cases rs with
  | nx s' => exact fun σ' F' H' A' Y' e' => hp .non F' H' Y'.gr0 Y'.pl .non
  | bk s' => exact hp.elim
  | ct s' => exact hp.elim
  | exc c m s' => exact fun cls d σ' F' H' A' Y' e' z => hp cls d F' H' Y'.gr0 Y'.pl z
  | stuck => exact hp.elim
  | rt v s' => cases v with
    | val d => exact fun v σ' F' H' A' Y' e' r' => hp v F' H' Y'.gr0 Y'.pl r'
    | own l => exact fun a vs σ' F' H' A' Y' e' r' k1 k2 k3 k4 => hp a vs F' H' Y'.gr0 Y'.pl r' k1 k2 k3 k4
    | no => exact hp.elim
    | dct l => exact hp.elim
theorem sp_len {np n : Nat} {m : SM} {vs : List V} {H : Hp} {Q : VK} {E : XK} (h : spF g (mkF np n m) vs H Q E) : vs.length = np := by
  obtain ⟨p, F, ds, nn, r, e, pl, t, hp⟩ := h
  rw [r.length]
  unfold mkF at hp
  split at hp
  · assumption
  · exact hp.elim
/-- THE RULE for a def that is promised a good text -/
theorem calT_of {x qual : Str} {params : Arguments} {body : List Stmt} {scope : Scope} {a : Addr} {fd : FuncData} {N ps : List Str} {np n k j : Nat} {pj : Str} {m : SM} (F : FunD K x qual params body scope [] [] a fd) (gm : mg x = some (.ref a)) (S : FnScope N ps scope)
    (hps : ps.length = np) (hn : N.length = n) (hj : ps[j]? = some pj) (hlj : scope.names.lookup pj = some .local) (hb : ∀ (kV doc pm : Value) (an : Option Addr) (cdv ct : Value) (us : List Value), us.length = ps.length → bindArgs (PySem.W.fnOf x qual params body scope .none kV doc pm an cdv ct) ⟨us, []⟩ = pure (ps.zip us))
    (h : ∀ (cdv : Value) (A : Around) (outer : List Env) (s : Shared) (H : Hp) (E : XK), RoomG k (A.deeper (envOfC qual scope s.heap.objs.size a cdv)) →
      Takes (cxOf (L2.CX P w) P w K mg base N qual scope a cdv A outer s H E) (WD E) →
      PassesOwn (model P w) (A.deeper (envOfC qual scope s.heap.objs.size a cdv)) (envOfC qual scope s.heap.objs.size a cdv) (cxOf (L2.CX P w) P w K mg base N qual scope a cdv A outer s H E).xe →
      KSw g (cxOf (L2.CX P w) P w K mg base N qual scope a cdv A outer s H E) (WD E) ⟨[pj], false⟩ body m) : CalT P w K mg base g (k + 1) x j (mkF np n m) := by
  refine ⟨a, fd, ps, ?_, gm, F.kp, F.bindsN hb⟩
  refine fnT_of F S hj hlj (fun vs H Q E q => by rw [sp_len q, hps]) (fun cdv A outer s H vs Q E hr q => ?_)
  have hvl := sp_len q
  obtain ⟨p, F, ds, nn, r, e, pl, t, hp⟩ := q
  obtain ⟨t1, b1, b2⟩ := h cdv A outer s H E hr (takes_of rfl rfl rfl rfl) (passes_of rfl)
  have hl : ds.length = np := by rw [← r.length]; exact hvl
  refine ⟨t1, b1, sp_end b2 hl ?_ hp⟩
  have := rel_start (N := N) r e pl t
  rw [hn, hl] at this
  exact this
end
section
variable {g : Pd.Gl} {X : Cx} {W : WX} {κ : Wt} {k j : Nat} {f : FM} {x : Str} {p' pos : Pos}
def KAg (g : Pd.Gl) (X : Cx) (W : WX) (κ : Wt) (j : Nat) (es : List Expr) (m : AM) : Prop := ∃ t, PAg X κ j es t ∧ Sim g W (RepA g) t m
def KEg (g : Pd.Gl) (X : Cx) (W : WX) (κ : Wt) (e : Expr) (m : EM) : Prop := ∃ t, PEg X κ e t ∧ Sim g W (RepV g) t m
theorem sim_cons {te : TE} {tr : TA} {m : EM} {ms : AM} (a2 : Sim g W (RepV g) te m) (b2 : Sim g W (RepA g) tr ms) : Sim g W (RepA g) (tCons te tr) (aCons m ms) := by
  intro p H0 F0 A F s σ H Q Y hp
  refine a2 p H0 F0 A F s σ H _ Y (hp.bind fun x s1 v F1 H1 A1 Y1 e1 r1 hp1 => ?_)
  refine b2 p H0 F0 A1 F1 s1 σ H1 _ Y1 (hp1.bind fun xs s2 vs F2 H2 A2 Y2 e2 r2 hp2 => ?_)
  exact hp2 (v :: vs) F2 H2 A2 Y2 (Ext.refl _) (.cons (r1.mono e2) r2)
theorem sim_nil : Sim g W (RepA g) tNil aNil := fun p H0 F0 A F s σ H Q Y hp => hp [] F H A Y (Ext.refl _) .nil
theorem kag_last {e : Expr} {m : EM} (h : KEg g X W κ e m) (hs : starEach [e] X.env = [(false, eval e X.env)] := by rfl) : KAg g X W κ 0 [e] (aCons m aNil) :=
  let ⟨_, a1, a2⟩ := h; ⟨_, kpag_last a1 hs, sim_cons a2 sim_nil⟩
theorem kag_cons {e : Expr} {es : List Expr} {m : EM} {ms : AM} (h : KE g X W κ e m) (hr : KAg g X W κ j es ms) (hs : starEach (e :: es) X.env = (false, eval e X.env) :: starEach es X.env := by rfl) : KAg g X W κ (j + 1) (e :: es) (aCons m ms) :=
  let ⟨_, a1, a2⟩ := h; let ⟨_, b1, b2⟩ := hr; ⟨_, kpag_cons a1 b1 hs, sim_cons a2 b2⟩
theorem sim_var {i : Nat} : Sim g W (RepV g) (tVar i) (mVar i) := by
  intro p H0 F0 A F s σ H Q Y hp
  unfold mVar at hp
  cases q : s.sl[i]? with
  | none => rw [q] at hp; exact hp.elim
  | some x =>
    rw [q] at hp
    cases x with
    | no => exact hp.elim
    | dct l => exact hp.elim
    | val d =>
      obtain ⟨v, h1, r⟩ := Y.var q
      exact ⟨v, h1, hp v F H A Y (Ext.refl _) r⟩
    | own l =>
      obtain ⟨a, F', A', h1, e1, r, Y'⟩ := Y.frzSlot q
      exact ⟨_, h1, hp _ F' H A' Y' e1 r⟩
theorem keg_name {i : Nat} {y : Str} (hN : X.N[i]? = some y) (hl : X.env.scope.names.lookup y = some .local) (hx : κ.names.contains y = true) (hd : (y == ("__debug__" : Str)) = false := by decide) : KEg g X W κ (.Name y pos) (mVar i) :=
  ⟨_, kpg_name hN hl hx hd, sim_var⟩
theorem keg_str {y : Str} {s : List Nat} {jc : Nat} (hx : κ.names ≠ [] := by exact List.cons_ne_nil _ _) (h : y.cps.toList = s := by rfl) : KEg g X W κ (.Constant (.str y) jc pos) (mC (.str s)) :=
  ⟨_, kpg_str hx, fun p H0 F0 A F s' σ H Q Y hp => hp _ F H A Y (Ext.refl _) (by rw [← h]; exact rep_str y)⟩
theorem ko_callT {e : Expr} {es : List Expr} {m : AM} (C : CalT X.prog X.w X.K X.mg X.base g k x j f) (hr : RoomG k X.A) (hg : L2.Gl X x) (tk : Takes X W) (ha : KAg g X W κ j (e :: es) m)
    (hdb : (x == ("__debug__" : Str)) = false := by decide) (he : starEach (e :: es) X.env = (false, eval e X.env) :: starEach es X.env := by rfl) (hpl : (backTo pos (starEach es X.env)).any (·.1) = false := by rfl) : KO g X W κ (.Call (.Name x p') (e :: es) [] pos) (oCall f m) := by
  obtain ⟨a, fd, ps, F, gm, kp, b⟩ := C.ex
  obtain ⟨t, a1, a2⟩ := ha
  refine ⟨_, kpe_callT F hr hg gm kp b (fun σ => passAt tk σ) a1 hdb he hpl, fun p H0 F0 A F s σ H Q Y hp => a2 p H0 F0 A F s σ H _ Y (PostO.bind hp fun ds s1 vs F1 H1 A1 Y1 e1 r1 hp1 => ?_)⟩
  exact post_call Y1 r1 hp1
theorem do_callTT {y z : Str} {ys zs : List Nat} {j1 j2 : Nat} {p1 p2 : Pos} (C : CalT X.prog X.w X.K X.mg X.base g k x 1 f) (hr : RoomG k X.A) (hg : L2.Gl X x) (tk : Takes X W)
    (hy : y.cps.toList = ys := by rfl) (hz : z.cps.toList = zs := by rfl) (hdb : (x == ("__debug__" : Str)) = false := by decide)
    (hs : starEach [.Constant (.str y) j1 p1, .Constant (.str z) j2 p2] X.env = [(false, eval (.Constant (.str y) j1 p1) X.env), (false, eval (.Constant (.str z) j2 p2) X.env)] := by rfl)
    (he : starEach [.Constant (.str y) j1 p1, .Constant (.str z) j2 p2] X.env = (false, eval (.Constant (.str y) j1 p1) X.env) :: starEach [.Constant (.str z) j2 p2] X.env := by rfl) (hpl : (backTo pos (starEach [.Constant (.str z) j2 p2] X.env)).any (·.1) = false := by rfl) :
    DO g X W (.Call (.Name x p') [.Constant (.str y) j1 p1, .Constant (.str z) j2 p2] [] pos) (oCall f (aCons (mC (.str ys)) (aCons (mC (.str zs)) aNil))) := by
  obtain ⟨a, fd, ps, F, gm, kp, b⟩ := C.ex
  have sc : ∀ (u : Str) (us : List Nat), u.cps.toList = us → Sim g W (RepV g) (tC (.str u)) (mC (.str us)) := fun u us e p H0 F0 A F s' σ H Q Y hp => hp _ F H A Y (Ext.refl _) (by rw [← e]; exact rep_str u)
  refine ⟨_, pe_callTT rfl F hr hg gm kp b (fun σ => passAt tk σ) hdb hs he hpl, fun p H0 F0 A F s σ H Q Y hp => (sim_cons (sc y ys hy) (sim_cons (sc z zs hz) sim_nil)) p H0 F0 A F s σ H _ Y (PostO.bind hp fun ds s1 vs F1 H1 A1 Y1 e1 r1 hp1 => ?_)⟩
  exact post_call Y1 r1 hp1
/-! ### an expression whose value is dropped; the replacing -/
theorem kps_expr {e : Expr} {te : TE} (he : PEk X κ e te) (hs : swapsWith e none pos.line X.env = pure false := by rfl) : PSk X κ (.Expr e pos) (tDrop te) := by
  intro pins s σ H D G w I h
  exact wpAny_Expr_any (thn (he pins s σ H _ G w I h) fun v s1 ⟨⟨x, H1, I1, r1, q1⟩, w1⟩ => ⟨⟨σ, H1, I1, q1⟩, w1⟩) I.quiet hs
theorem ks_expr {e : Expr} {m : EM} (he : KE g X W κ e m) (hs : swapsWith e none pos.line X.env = pure false := by rfl) : KS g X W κ (.Expr e pos) (mDrop m) := by
  obtain ⟨t, a1, a2⟩ := he
  refine ⟨_, kps_expr a1 hs, fun p H0 F0 A F s σ H D Y hp => ?_⟩
  exact a2 p H0 F0 A F s σ H _ Y (PostS.bs hp fun d s1 v F1 H1 A1 Y1 e1 r1 hp1 => hp1 σ F1 H1 A1 Y1 (Ext.refl _))
end
/-- each sign c is replaced by z -/
def repl1 (c : Nat) (z : List Nat) : List Nat → List Nat
  | [] => []
  | k :: r => (if k = c then z else [k]) ++ repl1 c z r
theorem replL_one (c : Nat) (z : List Nat) : ∀ (l : List Nat), PySem.StrLaws.replL [c] z l = repl1 c z l
  | [] => rfl
  | k :: r => by
    by_cases h : k = c
    · subst h
      rw [PySem.StrLaws.replL_hit (by simp) (by simp)]
      simp only [List.length_singleton, List.drop_succ_cons, List.drop_zero, repl1, if_true]
      rw [replL_one]
    · rw [PySem.StrLaws.replL_miss (by simpa using h), replL_one]
      simp [repl1, h]
/-- x.replace(y, z) of the slots i and j; y a written text of one sign -/
def oRepl (i c j : Nat) : OM := fun s => match s.sl[i]?, s.sl[j]? with
  | some (.val (.str x)), some (.val (.str z)) => if z ≠ [c] ∧ x.length + (x.length + 1) * z.length ≤ 16777216 then .ok (.val (.str (repl1 c z x))) s else .stuck
  | _, _ => .stuck
section
variable {g : Pd.Gl} {X : Cx} {W : WX} {κ : Wt} {pos : Pos}
theorem ko_repl {i j jc c : Nat} {kx kz y : Str} {p1 p2 cp apos : Pos} (hNx : X.N[i]? = some kx) (hvx : Vis X.env.scope kx) (hNz : X.N[j]? = some kz) (hlz : X.env.scope.names.lookup kz = some .local) (hz : κ.names.contains kz = true) (hy : y.cps.toList = [c] := by rfl)
    (hdx : (kx == ("__debug__" : Str)) = false := by decide) (hcx : (kx == ("__classdict__" : Str)) = false := by decide) (hdz : (kz == ("__debug__" : Str)) = false := by decide)
    (hst : starEach [.Constant (.str y) jc cp, .Name kz p2] X.env = [(false, eval (.Constant (.str y) jc cp) X.env), (false, eval (.Name kz p2) X.env)] := by rfl)
    (hbase : attributeBase (.Name kx p1) "replace" X.env (eval (.Name kx p1) X.env) = eval (.Name kx p1) X.env := by rfl) (hline : (apos.endLine == pos.line) = true := by rfl) :
    KO g X W κ (.Call (.Attribute (.Name kx p1) "replace" apos) [.Constant (.str y) jc cp, .Name kz p2] [] pos) (oRepl i c j) := by
  refine ⟨_, kpe_repl hNx hvx hNz hlz hz hdx hcx hdz hst hbase hline, fun p H0 F0 A F s σ H Q Y hp => ?_⟩
  unfold oRepl at hp
  split at hp
  · rename_i x z q1 q2
    split at hp
    · rename_i hc
      obtain ⟨v1, h1, r1⟩ := Y.var q1
      obtain ⟨v2, h2, r2⟩ := Y.var q2
      cases r1
      cases r2
      have ey : y = ⟨#[c]⟩ := by
        obtain ⟨⟨l⟩⟩ := y
        have : l = [c] := hy
        subst this
        rfl
      refine ⟨⟨x.toArray⟩, ⟨z.toArray⟩, h1, h2, ?_, hc.2, ?_⟩
      · rw [ey]
        refine beq_eq_false_iff_ne.mpr fun e => hc.1 ?_
        injection e with e1
        have := congrArg Array.toList e1
        simpa using this.symm
      · have e := PySem.StrLaws.replace_list (x := ⟨x.toArray⟩) (y := y) (z := ⟨z.toArray⟩) (by rw [ey]; exact Nat.le_refl 1)
        refine hp _ F H A Y (Ext.refl _) ?_
        have e2 : repl1 c z x = (PySem.Txt.replace ⟨x.toArray⟩ y ⟨z.toArray⟩).cps.toList := by
          rw [e, hy, replL_one]
        rw [e2]
        exact rep_str _
    · exact hp.elim
  · exact hp.elim
end
end Tk

/-! Tk, part G: defs whose end shows a map of names behind the frame, and a text whose token is out. -/
namespace Tk
open PySem PySem.Spec PyProof.Rows L2 Pd

def CEn (gd : Bool) (out : List Env) (P : Program) (w : World) (H : Hp) (s : Shared) (Q : VK) (u : Value) (s' : Shared) : Prop :=
  ∃ v H', s'.os = s.os ∧ AllBare s'.gens ∧ Un (frs out) [] H H' s.heap s'.heap ∧ HOk P w H' s'.heap ∧ RelV v u ∧ Q v H' ∧ (∃ a o, s.heap.objs.size ≤ a ∧ s'.heap.get? a = some o ∧ NsO o ∧ H' a = none) ∧ (gd = true → GoodV s'.toks u)
def CRn (gd : Bool) (CX : CXT) (out : List Env) (P : Program) (w : World) (H : Hp) (s : Shared) (Q : VK) (E : XK) (r : Result) (s' : Shared) : Prop :=
  match r with
  | .ok (.ret u) => CEn gd out P w H s Q u s'
  | .ok _ => False
  | .error e => CX out H s E e s'
structure FnN (gd : Bool) (P : Program) (w : World) (K : PySem.W.Frag) (mg : Str → Option Value) (base : Heap) (CX : CXT) (k : Nat) (f : Addr) (fd : FuncData) (ps : List Str) (sp : Sp) : Prop where
  len : ∀ vs H Q E, sp vs H Q E → vs.length = ps.length
  run : ∀ (A : Around) (out : List Env) (sh : Shared) (H : Hp) (ar : Args) (us : List Value) (vs : List V) (Q : VK) (E : XK), RoomG k A → Env0 P w K mg base A out sh H → BindsTo sh fd ar (ps.zip us) → Vals vs us → (gd = true → 1 ≤ sh.toks) → sp vs H Q E →
    codeAny (model P w) A (.call (.ref f) ar) (CRn gd CX out P w H sh Q E) sh
def PSsn (X : Cx) (gd : Bool) (st : List Stmt) (t : TS) : Prop :=
  ∀ (pins : List (Addr × Obj)) (s : Shared) (σ : L2.St) (H : Hp) (D : Ends), (gd = true → 1 ≤ s.toks) → Inv X pins σ H s → t D σ H → wpAny (model X.prog X.w) X.A (execs st X.env) (fun fl s' => SP X pins D fl s' ∧ (gd = true → ∃ u, fl = .ret u ∧ GoodV s'.toks u)) X.xe s
theorem PSsn.of {X : Cx} {st : List Stmt} {t : TS} (h : PSs X st t) : PSsn X false st t := fun pins s σ H D _ I q => thn (h.run pins s σ H D I q) fun _ _ z => ⟨z, fun e => by cases e⟩
section
variable {P : Program} {w : World} {K : PySem.W.Frag} {mg : Str → Option Value} {base : Heap}
theorem fnN_of {gd : Bool} {CX : CXT} {x qual : Str} {params : Arguments} {body : List Stmt} {scope : Scope} {a : Addr} {fd : FuncData} {N ps : List Str} {k : Nat} {sp : Sp} (D : FunD K x qual params body scope [] [] a fd) (S : FnScope N ps scope)
    (hl : ∀ vs H Q E, sp vs H Q E → vs.length = ps.length)
    (hbd : ∀ (cdv : Value) (A : Around) (out : List Env) (sh : Shared) (H : Hp) (vs : List V) (Q : VK) (E : XK), RoomG k (A.deeper (envOfC qual scope sh.heap.objs.size a cdv)) → sp vs H Q E →
      ∃ t, PSsn (cxOf CX P w K mg base N qual scope a cdv A out sh H E) gd body t ∧ t { nx := fun _ H' => Q .non H', rt := Q } (start N vs) H) : FnN gd P w K mg base CX (k + 1) a fd ps sp := by
  obtain ⟨oc, od, dV, kV, doc, pm, an, cdv, ct, osl, hfd, look, code, _, _⟩ := D.ex
  subst hfd
  refine ⟨hl, fun A out sh H ar us vs Q E room env0 bnd rv tk1 prom => ?_⟩
  have n1 := hl _ _ _ _ prom
  have kin : K.In sh.heap := env0.mod.kin.keeps fun b o q => (env0.bs b o q).1
  have nol : sh.heap.NoLimit := env0.mod.nolimit.keeps fun b o q => (env0.bs b o q).1
  have kinds : ∀ y ∈ ps.zip us, scope.names.lookup y.1 = some .local ∨ (scope.names.lookup y.1 = some .cell ∧ ((cellsFrom (sh.heap.objs.size + 1) scope.names []).lookup y.1).isSome = true) := by
    rintro ⟨y, v⟩ hy
    cases S.par y (List.of_mem_zip hy).1 with
    | inl q => exact .inl q
    | inr q => exact .inr ⟨q, PySem.W.cellsFrom_some _ _ _ (.inl q)⟩
  refine codeAny_call_function room.rm.depth (kin _ _ look) rfl S.co S.gen rfl (PySem.W.codeRec_of kin code) (bnd _ _ _ _ ?_)
  refine PySem.wpAny_with_toks (n := sh.toks) (Nat.le_refl _) (wpAny_newFunctionEnv_cells S.kind kinds fun nenv hne sh1 call htk => ?_)
  subst hne
  refine ⟨nol.keeps call.toInCall.keep, codeAny_func ?_⟩
  obtain ⟨t, run, post⟩ := hbd cdv A out sh H vs Q E (room.deeper _) prom
  have inv : Inv (cxOf CX P w K mg base N qual scope a cdv A out sh H E) [] (start N vs) H sh1 := inv_start S room.rm.hd env0 n1 rv call
  have ends : ∀ {σ1 : L2.St} {H1 : Hp} {v : V} {u : Value} {sh2 : Shared}, Inv (cxOf CX P w K mg base N qual scope a cdv A out sh H E) [] σ1 H1 sh2 → RelV v u → Q v H1 → (gd = true → GoodV sh2.toks u) → CEn gd out P w H sh Q u sh2 :=
    fun {_ H1 v _ sh2} J ru q g => ⟨v, H1, J.os, J.bare, J.base, J.hok, ru, q, (by
      obtain ⟨m, ⟨o, es, ep, ho, hd, hk, _⟩, _⟩ := J.loc
      exact ⟨_, o, Nat.le_refl _, ho, ⟨es, ep, hd, hk⟩, J.free⟩), g⟩
  refine wpAny_mono (run [] sh1 (start N vs) H _ (fun z => Nat.le_trans (tk1 z) htk) inv post) (fun fl sh2 done => ?_) fun _ _ z => z
  match fl, done with
  | .ret u, ⟨⟨v, _, _, J, ru, q⟩, g⟩ => exact ends J ru q fun z => by obtain ⟨u', e, g'⟩ := g z; cases e; exact g'
  | .next, ⟨⟨_, _, J, q⟩, g⟩ => exact ends (v := V.non) (u := Value.none) J rfl q fun z => by obtain ⟨u', e, _⟩ := g z; cases e
  | .brk, ⟨⟨_, _, _, q⟩, _⟩ => exact q.elim
  | .cont, ⟨⟨_, _, _, q⟩, _⟩ => exact q.elim
structure CalN (gd : Bool) (P : Program) (w : World) (K : PySem.W.Frag) (mg : Str → Option Value) (base : Heap) (g : Pd.Gl) (k : Nat) (x : Str) (f : FM) : Prop where
  ex : ∃ (a : Addr) (fd : FuncData) (ps : List Str), FnN gd P w K mg base (L2.CX P w) k a fd ps (spF g f) ∧ mg x = some (.ref a) ∧ PySem.W.keepIn K (.ref a) = true ∧ Binds K fd ps []
theorem CalN.mono {gd : Bool} {g : Pd.Gl} {j k : Nat} {x : Str} {f : FM} (C : CalN gd P w K mg base g j x f) (h : j ≤ k) : CalN gd P w K mg base g k x f :=
  let ⟨a, fd, ps, F, h1⟩ := C.ex; ⟨a, fd, ps, ⟨F.len, fun A out sh H ar us vs Q E room => F.run A out sh H ar us vs Q E (room.mono h)⟩, h1⟩
def KSn (g : Pd.Gl) (X : Cx) (W : WX) (gd : Bool) (st : List Stmt) (m : SM) : Prop := ∃ t, PSsn X gd st t ∧ SimS g W t m
theorem KSn.of {g : Pd.Gl} {X : Cx} {W : WX} {st : List Stmt} {m : SM} (h : DSs g X W st m) : KSn g X W false st m := let ⟨t, a, b⟩ := h; ⟨t, .of a, b⟩
theorem calN_of {gd : Bool} {g : Pd.Gl} {x qual : Str} {params : Arguments} {body : List Stmt} {scope : Scope} {a : Addr} {fd : FuncData} {N ps : List Str} {np n k : Nat} {m : SM} (F : FunD K x qual params body scope [] [] a fd) (gm : mg x = some (.ref a)) (S : FnScope N ps scope)
    (hps : ps.length = np) (hn : N.length = n) (hb : ∀ (kV doc pm : Value) (an : Option Addr) (cdv ct : Value) (us : List Value), us.length = ps.length → bindArgs (PySem.W.fnOf x qual params body scope .none kV doc pm an cdv ct) ⟨us, []⟩ = pure (ps.zip us))
    (h : ∀ (cdv : Value) (A : Around) (outer : List Env) (s : Shared) (H : Hp) (E : XK), RoomG k (A.deeper (envOfC qual scope s.heap.objs.size a cdv)) →
      Takes (cxOf (L2.CX P w) P w K mg base N qual scope a cdv A outer s H E) (WD E) →
      PassesOwn (model P w) (A.deeper (envOfC qual scope s.heap.objs.size a cdv)) (envOfC qual scope s.heap.objs.size a cdv) (cxOf (L2.CX P w) P w K mg base N qual scope a cdv A outer s H E).xe →
      KSn g (cxOf (L2.CX P w) P w K mg base N qual scope a cdv A outer s H E) (WD E) gd body m) : CalN gd P w K mg base g (k + 1) x (mkF np n m) := by
  refine ⟨a, fd, ps, ?_, gm, F.kp, F.bindsN hb⟩
  refine fnN_of F S (fun vs H Q E q => by rw [sp_len q, hps]) (fun cdv A outer s H vs Q E hr q => ?_)
  have hvl := sp_len q
  obtain ⟨p, F, ds, nn, r, e, pl, t, hp⟩ := q
  obtain ⟨t1, b1, b2⟩ := h cdv A outer s H E hr (takes_of rfl rfl rfl rfl) (passes_of rfl)
  have hl : ds.length = np := by rw [← r.length]; exact hvl
  refine ⟨t1, b1, sp_end b2 hl ?_ hp⟩
  have := rel_start (N := N) r e pl t
  rw [hn, hl] at this
  exact this
end

/-! ### such a call -/
section
variable {X : Cx} {κ : Wt} {CX : CXT} {k : Nat} {fa : Addr} {fd : FuncData} {ps : List Str} {gd : Bool} {sp : Sp} {E : L2.St → XK} {x : Str} {p' pos : Pos} {e : Expr} {es : List Expr} {t : TA}
/-- behind the call: the invariant with one more pin, a map of names behind the frame -/
def EPn (X : Cx) (pins : List (Addr × Obj)) (σ : L2.St) (gd : Bool) (sh : Shared) (Q : VK) (u : Value) (s' : Shared) : Prop :=
  (∃ v H' pl, Inv X (pins ++ pl) σ H' s' ∧ Gh X (pins ++ pl) ∧ RelV v u ∧ Q v H') ∧ (gd = true → GoodV s'.toks u) ∧ sh.toks ≤ s'.toks ∧ (∀ m, sh.heap.Ns X.env.locals m → s'.heap.Ns X.env.locals m)
theorem run_fnN {pins : List (Addr × Obj)} {σ : L2.St} {H : Hp} {sh : Shared} {Q : VK} {us : List Value} {vs : List V} (D : FnN gd X.prog X.w X.K X.mg X.base CX k fa fd ps sp) (room : RoomG k X.A) (hb : Binds X.K fd ps []) (px : PassesAt CX X σ (E σ))
    (I : Inv X pins σ H sh) (rv : Vals vs us) (tk : gd = true → 1 ≤ sh.toks) (prom : sp vs H Q (E σ)) : wpAny (model X.prog X.w) X.A (call (.ref fa) us) (EPn X pins σ gd sh Q) X.xe sh := by
  have n1 : us.length = ps.length := by rw [← rv.length]; exact D.len _ _ _ _ prom
  have b1 := hb sh us I.kIn (by rw [List.append_nil]; exact n1)
  rw [List.append_nil] at b1
  refine wpAny_mono (PySem.wpAny_toks (wpAny_call (Q := fun u s' => (∃ v H' pl, Inv X (pins ++ pl) σ H' s' ∧ Gh X (pins ++ pl) ∧ RelV v u ∧ Q v H') ∧ (gd = true → GoodV s'.toks u) ∧ (∀ m, sh.heap.Ns X.env.locals m → s'.heap.Ns X.env.locals m)) (codeAny_mono (D.run X.A X.stack sh H ⟨us, []⟩ us vs Q (E σ) room I.env0 b1 rv tk prom) fun r sh' got => ?_))) (fun u s' q => ⟨q.2.1, q.2.2.1, q.1, q.2.2.2⟩) fun _ _ z => z.2
  match r, got with
  | .error z, got => exact px pins H sh z sh' I got
  | .ok (.ret u), got =>
    obtain ⟨v, H', os, bare, un, hok, r, q, ⟨a, o, ha, ho, hn, hf⟩, g⟩ := got
    have J : Inv X pins σ H' sh' := I.call' os un hok bare fun b z => nomatch z
    have hl : X.env.locals < a := Nat.lt_of_lt_of_le I.lt ha
    refine ⟨⟨v, H', [(a, o)], J.pins_of fun p hp => ?_, ⟨a, o, List.mem_append_right _ (List.mem_singleton.mpr rfl), hl, hn⟩, r, q⟩, g, fun m ⟨ol, es, ep, hol, hd, hr⟩ => ?_⟩
    · rcases List.mem_append.mp hp with hp | hp
      · exact J.pin p (List.mem_append_right _ hp)
      · have ep : p = (a, o) := List.mem_singleton.mp hp
        subst ep
        exact ⟨ho, hf, Nat.ne_of_gt hl, I.nofs ha, hn.cell⟩
    · obtain ⟨sl, e⟩ := un.any hol I.free (fun z => nomatch z)
      exact ⟨_, es, ep, e, hd, hr⟩
/-- name = f(..), then the rest under the watch -/
def PAt (X : Cx) (es : List Expr) (t : TA) : Prop :=
  ∀ (pos : Pos) (pins : List (Addr × Obj)) (s : Shared) (σ : L2.St) (H : Hp) (Q : List V → Hp → Prop), Inv X pins σ H s → t σ H Q → wpAny (model X.prog X.w) X.A (spliced (backTo pos (starEach es X.env))) (fun us s' => AP X pins σ Q us s' ∧ 1 ≤ s'.toks) X.xe s
theorem pat_int {i : Int} {j : Nat} {p : Pos} (hs : starEach [.Constant (.int i) j p] X.env = [(false, eval (.Constant (.int i) j p) X.env)] := by rfl) : PAt X [.Constant (.int i) j p] (tCons (tC (.int i)) tNil) := by
  intro pos pins s σ H Q I h
  rw [hs]
  show wpAny _ _ (spliced ((false, eval (.Constant (.int i) j p) X.env) :: [])) _ _ s
  exact Calls.spliced_cons (wpAny_Constant_int (Calls.spliced_nil ⟨⟨[.int i], H, I.tok _, .cons ⟨_, rfl⟩ .nil, h⟩, Nat.succ_le_succ (Nat.zero_le _)⟩))
theorem pat_step {te : TE} {tr : TA} (ha : PE X e te) (hr : PAt X es tr) (hs : starEach (e :: es) X.env = (false, eval e X.env) :: starEach es X.env := by rfl) : PAt X (e :: es) (tCons te tr) := by
  intro pos pins s σ H Q I h
  rw [hs]
  show wpAny _ _ (spliced ((false, eval e X.env) :: backTo pos (starEach es X.env))) _ _ s
  refine Calls.spliced_cons (thn (ha.run pins s σ H _ I h) fun u s1 ⟨x, H1, I1, r1, q1⟩ => ?_)
  exact thn (hr pos pins s1 σ H1 _ I1 q1) fun us s2 ⟨⟨xs, H2, I2, r2, q2⟩, tk⟩ => ⟨⟨x :: xs, H2, I2, .cons r1 r2, q2⟩, tk⟩
/-- a good text is stored under a watched name -/
theorem kstoreG {i : Nat} {y : Str} {v : V} {u : Value} {pins : List (Addr × Obj)} {σ : L2.St} {H : Hp} {s : Shared} {R : Unit → Shared → Prop} {E : Value → Shared → Prop} {κ' : Wt} (I : Inv X pins σ H s) (w : Watch X κ s) (hN : X.N.Nodup) (hi : X.N[i]? = some y) (hx : X.env.scope.names.lookup y = some .local) (r : RelV v u) (g : GoodV s.toks u)
    (hk : ∀ z ∈ κ'.names, z = y ∨ z ∈ κ.names) (h : ∀ s', Inv X pins (σ.set i (some v)) H s' → Watch X κ' s' → R () s') : wpAny (model X.prog X.w) X.A (storeName X.env y u) R E s := by
  obtain ⟨m, h1, h2⟩ := w
  have hcls : (X.env.scope.kind == .class || (X.env.scope.kind == .module && X.env.locals != X.env.globals)) = false := by rw [I.ok.kind]; rfl
  have A := store_ok (M := model X.prog X.w) (A := X.A) (E := E) (Q := fun _ s' => Inv X pins (σ.set i (some v)) H s') I hN hi (.inl hx) r (fun s' I' => I') (.inr hx)
  have B : wpAny (model X.prog X.w) X.A (storeName X.env y u) (fun _ s' => Watch X κ' s') E s := by
    refine wpAny_storeName_local hx h1 (fun h' hn' hs => ⟨_, hn', fun z hz => ?_⟩) hcls
    by_cases e : z = y
    · subst e
      obtain ⟨w, t, rfl, b, c⟩ := g
      exact ⟨w, t, if_pos rfl, b, Nat.lt_succ_of_lt c⟩
    · obtain ⟨w, t, a, b, c⟩ := h2 z ((hk z hz).resolve_left e)
      exact ⟨w, t, (if_neg e).trans a, b, Nat.lt_succ_of_lt c⟩
  exact wpAny_mono (wpAny_both A B) (fun _ s' q => h s' q.1 q.2) fun _ _ z => z.1
theorem SP.unpin {pins pl : List (Addr × Obj)} {D : Ends} {f : Flow} {s : Shared} (h : SP X (pins ++ pl) D f s) : SP X pins D f s := by
  cases f with
  | next => obtain ⟨σ, H, I, q⟩ := h; exact ⟨σ, H, I.unpinned, q⟩
  | cont => obtain ⟨σ, H, I, q⟩ := h; exact ⟨σ, H, I.unpinned, q⟩
  | brk => obtain ⟨σ, H, I, q⟩ := h; exact ⟨σ, H, I.unpinned, q⟩
  | ret v => obtain ⟨x, σ, H, I, r, q⟩ := h; exact ⟨x, σ, H, I.unpinned, r, q⟩
theorem pss_start {rest : List Stmt} {i : Nat} {y : Str} {yp sp' : Pos} {u : TS} (D : FnN true X.prog X.w X.K X.mg X.base CX k fa fd ps sp) (room : RoomG k X.A) (hg : L2.Gl X x) (hm : X.mg x = some (.ref fa)) (keep : PySem.W.keepIn X.K (.ref fa) = true) (hb : Binds X.K fd ps []) (px : ∀ σ, PassesAt CX X σ (E σ))
    (ha : PAt X (e :: es) t) (hN : X.N.Nodup) (hi : X.N[i]? = some y) (hx : X.env.scope.names.lookup y = some .local) (h2 : PSsk X ⟨[y], true⟩ rest u)
    (hs : swapsWith (.Call (.Name x p') (e :: es) [] pos) (some (.Name y yp)) sp'.line X.env = pure false := by rfl)
    (hdb : (x == ("__debug__" : Str)) = false := by decide) (he : starEach (e :: es) X.env = (false, eval e X.env) :: starEach es X.env := by rfl) (hpl : (backTo pos (starEach es X.env)).any (·.1) = false := by rfl) :
    PSs X (.Assign [.Name y yp] (.Call (.Name x p') (e :: es) [] pos) sp' :: rest) (tSeq (tAsg (tCallS sp E t) (gName i)) u) := by
  refine ⟨fun pins sh σ H D0 I h => ?_⟩
  refine wpAny_execs_cons (wpAny_Assign_Name ?_ hs)
  refine wpAny_Call_Name_kw (ld_glob I hg hm ?_ hdb)
  refine PySem.W.callWith_K (h₀ := X.base) I.ok.mod.kin keep (thn (ha pos pins sh σ H _ I h) ?_) he hpl
  rintro us sh1 ⟨⟨vs, H1, J, rv, q⟩, tk⟩
  refine ⟨J.kIn, thn (run_fnN D room hb (px σ) J rv (fun _ => tk) q) fun v s' ⟨⟨x', H', pl, J', G, ru, qv⟩, g, ht, hn⟩ => ?_⟩
  have w0 : Watch X ⟨[], true⟩ s' := by
    obtain ⟨m, hm', _⟩ := J'.loc
    exact ⟨m, hm', fun z hz => nomatch hz⟩
  refine kstoreG (κ' := ⟨[y], true⟩) J' w0 hN hi hx ru (g rfl) (fun z hz => .inl (List.mem_singleton.mp hz)) fun s2 I2 w2 => ?_
  exact thn (h2 _ s2 _ H' D0 (fun _ => G) w2 I2 qv) fun f s3 q3 => SP.unpin q3.1
end
end Tk

/-! Tk, part H: texts put together under the watch; a walk of range(f(..)) that brings its own map of names; a def that gives out a good text. -/
namespace Tk
open PySem PySem.Spec PyProof.Rows L2 Pd

section
variable {X : Cx} {κ : Wt} {a b e : Expr} {es : List Expr} {ta tb te : TE} {pos : Pos}
theorem kpe_addI (ha : PEk X κ a ta) (hb : PEk X κ b tb) : PEk X κ (.BinOp a .Add b pos) (tOp (rI0 fun i j => .int (i + j)) ta tb) := by
  intro pins s σ H Q G w I h
  refine wpAny_BinOp (thn (ha pins s σ H _ G w I h) fun v s1 ⟨⟨x, H1, I1, r1, q1⟩, w1⟩ => ?_)
  refine thn (hb pins s1 σ H1 _ G w1 I1 q1) fun u s2 ⟨⟨y, H2, I2, r2, q2⟩, w2⟩ => ?_
  obtain ⟨i, j, rfl, rfl, q⟩ := q2
  obtain ⟨t, rfl⟩ := r1
  obtain ⟨t', rfl⟩ := r2
  exact add_int ⟨⟨.int (i + j), H2, I2.tok _, ⟨_, rfl⟩, q⟩, w2.tok (Nat.le_succ _)⟩
/-- the sum of two texts -/
def rAddT : R2 := fun x y H Q => ∃ i j, x = .str i ∧ y = .str j ∧ i.length + j.length ≤ sizeLine ∧ Q (.str (i ++ j)) H
theorem kpg_add (ha : PEg X κ a ta) (hb : PEg X κ b tb) : PEg X κ (.BinOp a .Add b pos) (tOp rAddT ta tb) := by
  intro pins s σ H Q G w I h
  refine wpAny_BinOp (thn (ha pins s σ H _ G w I h) fun v s1 ⟨⟨⟨x, H1, I1, r1, q1⟩, w1⟩, g1⟩ => ?_)
  refine wpAny_mono (PySem.wpAny_toks (hb pins s1 σ H1 _ G w1 I1 q1)) (fun u s2 q => ?_) fun _ _ z => z.2
  obtain ⟨ht, ⟨⟨y, H2, I2, r2, q2⟩, w2⟩, g2⟩ := q
  obtain ⟨i, j, rfl, rfl, hz, q⟩ := q2
  have g1' := g1.mono ht
  obtain ⟨t, rfl⟩ := r1
  obtain ⟨t', rfl⟩ := r2
  obtain ⟨_, _, e1, p1, p2⟩ := g1'
  obtain ⟨_, _, e2, p3, p4⟩ := g2
  cases e1
  cases e2
  refine PySem.P.add_str ?_
  have e0 : ∀ {z : Str}, (z.length == 0) = true → z = ⟨#[]⟩ := fun {z} h => by
    obtain ⟨l⟩ := z
    have : l.size = 0 := eq_of_beq h
    rw [Array.eq_empty_of_size_eq_zero this]
  split
  · rename_i h0
    have e := e0 h0
    subst e
    have ej : (⟨#[]⟩ : Str) ++ j = j := by
      show (⟨#[] ++ j.cps⟩ : Str) = j
      rw [Array.empty_append]
    rw [ej] at q
    exact ⟨⟨⟨.str j, H2, I2, ⟨_, rfl⟩, q⟩, w2⟩, j, _, rfl, p3, p4⟩
  split
  · rename_i h0
    have e := e0 h0
    subst e
    have ei : i ++ (⟨#[]⟩ : Str) = i := by
      show (⟨i.cps ++ #[]⟩ : Str) = i
      rw [Array.append_empty]
    rw [ei] at q
    exact ⟨⟨⟨.str i, H2, I2, ⟨_, rfl⟩, q⟩, w2⟩, i, _, rfl, p1, p2⟩
  · have hl : (i ++ j).length ≤ sizeLine := by
      have : (i ++ j).length = i.length + j.length := Array.size_append ..
      rw [this]; exact hz
    exact ⟨hl, ⟨⟨.str (i ++ j), H2, I2.tok _, ⟨_, rfl⟩, q⟩, w2.tok (Nat.le_succ _)⟩, i ++ j, s2.toks, rfl, Nat.le_of_lt (Nat.lt_of_le_of_lt p3 p4), Nat.lt_succ_self _⟩
/-- a sign of a text -/
theorem kpg_ix (hx : κ.names ≠ []) (ha : PEk X κ a ta) (hb : PEk X κ b tb) (hs : PlainIx b) : PEg X κ (.Subscript a b pos) (tOp rIxS ta tb) := by
  intro pins s σ H Q G w I h
  refine Subscript_ (thn (ha pins s σ H _ G w I h) fun v s1 ⟨⟨x, H1, I1, r1, q1⟩, w1⟩ => ?_)
  refine thn (hb pins s1 σ H1 _ G w1 I1 q1) fun u s2 ⟨⟨y, H2, I2, r2, q2⟩, w2⟩ => ?_
  obtain ⟨z, i, c, rfl, rfl, hz, he, q⟩ := q2
  obtain ⟨t, rfl⟩ := r1
  obtain ⟨t', rfl⟩ := r2
  have h1 : 1 ≤ s2.toks := by
    obtain ⟨m, _, h2⟩ := w2
    obtain ⟨y, hy⟩ := List.exists_mem_of_ne_nil _ hx
    obtain ⟨z, t, _, a, b⟩ := h2 y hy
    exact Nat.le_of_lt (Nat.lt_of_le_of_lt a b)
  obtain ⟨j, k1, k2, k3, k4, k5⟩ := atI_get he
  have hl : z.cps.toList.length = z.length := by simp [Str.length]
  rw [hl] at k1 k4 k5
  have hn := line63
  exact tail_any (typeIs_str s2 z t) slot_str_getitem.lookup (getItem_str (c := c) (by
    have e1 : decide (i < -(2 ^ 63 : Int)) = false := decide_eq_false (by omega)
    have e2 : decide (i ≥ 2 ^ 63) = false := decide_eq_false (by omega)
    rw [e1, e2, Bool.or_false]) (by rw [k1]; simpa using k2) ⟨⟨⟨.str ⟨#[c]⟩, H2, I2.tok _, ⟨_, rfl⟩, q⟩, w2.tok (Nat.le_succ _)⟩, ⟨#[c]⟩, s2.toks, rfl, h1, Nat.lt_succ_self _⟩) (hs _ _)
/-- a watched name is stored again -/
theorem kps_setG {i : Nat} {x : Str} {pos' : Pos} (hN : X.N.Nodup) (hi : X.N[i]? = some x) (hx : X.env.scope.names.lookup x = some .local) (he : PEg X κ e te) (hs : swapsWith e (some (.Name x pos')) pos.line X.env = pure false := by rfl) :
    PSk X κ (.Assign [.Name x pos'] e pos) (tAsg te (gName i)) := by
  intro pins s σ H D G w I h
  refine wpAny_Assign_Name (thn (he pins s σ H _ G w I h) fun v s1 ⟨⟨⟨y, H1, I1, r1, q1⟩, w1⟩, g1⟩ => ?_) hs
  exact kstoreG (κ' := κ) I1 w1 hN hi hx r1 g1 (fun z hz => .inr hz) fun s2 I2 w2 => ⟨⟨_, H1, I2, q1⟩, w2⟩
end

section
variable {X : Cx} {κ : Wt} {CX : CXT} {k : Nat} {fa : Addr} {fd : FuncData} {ps : List Str} {sp : Sp} {E : L2.St → XK} {x : Str} {p' pos : Pos} {e : Expr} {es : List Expr} {t : TA}
/-- a call that brings a map of names behind the frame -/
theorem keval_callN (D : FnN false X.prog X.w X.K X.mg X.base CX k fa fd ps sp) (room : RoomG k X.A) (hg : L2.Gl X x) (hm : X.mg x = some (.ref fa)) (keep : PySem.W.keepIn X.K (.ref fa) = true) (hb : Binds X.K fd ps []) (px : ∀ σ, PassesAt CX X σ (E σ))
    (ha : PAk X κ (e :: es) t) (hdb : (x == ("__debug__" : Str)) = false) (he : starEach (e :: es) X.env = (false, eval e X.env) :: starEach es X.env) (hpl : (backTo pos (starEach es X.env)).any (·.1) = false)
    {pins : List (Addr × Obj)} {s : Shared} {σ : L2.St} {H : Hp} {Q : VK} (G : κ.gh = true → Gh X pins) (w : Watch X κ s) (I : Inv X pins σ H s) (h : tCallS sp E t σ H Q) :
    wpAny (model X.prog X.w) X.A (eval (.Call (.Name x p') (e :: es) [] pos) X.env) (fun u s' => (∃ v H' pl, Inv X (pins ++ pl) σ H' s' ∧ Gh X (pins ++ pl) ∧ RelV v u ∧ Q v H') ∧ Watch X κ s') X.xe s := by
  refine wpAny_Call_Name_kw (ld_glob I hg hm ?_ hdb)
  refine PySem.W.callWith_K (h₀ := X.base) I.ok.mod.kin keep (thn (ha pos pins s σ H _ G w I h) ?_) he hpl
  rintro us sh1 ⟨⟨vs, H1, J, rv, q⟩, w1⟩
  exact ⟨J.kIn, thn (run_fnN D room hb (px σ) J rv (fun z => by cases z) q) fun u s' ⟨q1, _, ht, hn⟩ => ⟨q1, w1.step ht hn⟩⟩
/-- a range object just made, walked -/
theorem range_itk {tg : Expr} {pins : List (Addr × Obj)} {σ : L2.St} {H : Hp} {s : Shared} {R : It → Hp → Prop} {E : Value → Shared → Prop} {lo hi : Int} {t u v : Tok} {tk : Nat} (htk : s.toks ≤ tk) (w : Watch X κ s) (I : Inv X pins σ H s) (h1 : -(2 ^ 62) ≤ lo) (h2 : lo < 2 ^ 62) (h3 : -(2 ^ 62) ≤ hi) (h4 : hi < 2 ^ 62)
    (q : R (Itr lo (hi - lo).toNat) H) : wpAny (model X.prog X.w) X.A (pyIter (.ref s.heap.objs.size)) (fun itv s2 => PIEk X pins σ tg R itv s2 ∧ Watch X κ s2) E { s with heap := s.heap.push { cls := .type "range", data := .fields #[.int lo t, .int hi u, .int 1 v] }, toks := tk } := by
  refine wpAny_pyIter_range (IsRange.new ..) (small_one h1 h2 h3 h4) ?_
  have I1 : Inv X pins σ H { s with heap := s.heap.push { cls := .type "range", data := .fields #[.int lo t, .int hi u, .int 1 v] }, toks := tk } := I.kept fun b o e => Heap.get?_push_of_some _ e
  have w1 : Watch X κ { s with heap := s.heap.push { cls := .type "range", data := .fields #[.int lo t, .int hi u, .int 1 v] }, toks := tk } := w.kept htk fun o e => ⟨o.slots, Heap.get?_push_of_some _ e⟩
  refine ⟨⟨(s.heap.push { cls := .type "range", data := .fields #[.int lo t, .int hi u, .int 1 v] }).objs.size, [(s.heap.push { cls := .type "range", data := .fields #[.int lo t, .int hi u, .int 1 v] }).objs.size], _, _, H, rfl,
    I1.kept (t' := tk) fun b o e => Heap.get?_push_of_some _ e, turn_range _ lo (hi - lo).toNat, ?_, fun b hb => ?_, q⟩, w1.kept (Nat.le_refl _) fun o e => ⟨o.slots, Heap.get?_push_of_some _ e⟩⟩
  · have e1 : lo + ((0 : Nat) : Int) * 1 = lo := by simp
    have e2 : (((hi - lo).toNat : Nat) : Int) - ((0 : Nat) : Int) = PySem.Builtin.Range.rangeSize lo hi 1 := by rw [rangeSize_one]; split <;> omega
    show IsRangeIter _ _ (lo + ((0 : Nat) : Int) * 1) ((((hi - lo).toNat : Nat) : Int) - ((0 : Nat) : Int)) 1
    rw [e1, e2]
    exact Heap.get?_push_size _ rfl
  · have e : b = (s.heap.push { cls := .type "range", data := .fields #[.int lo t, .int hi u, .int 1 v] }).objs.size := by simpa using hb
    subst e
    exact ⟨I1.fpOk (Nat.le_refl _) (I1.hok.fresh (Nat.le_refl _)), fun p hp => Nat.le_of_lt (Heap.lt_size (I1.pin p (List.mem_append_right _ hp)).1)⟩
/-- an iterator and a map of names behind the frame -/
def PIn (X : Cx) (κ : Wt) (tg iter : Expr) (wi : TI) : Prop :=
  ∀ (pins : List (Addr × Obj)) (s : Shared) (σ : L2.St) (H : Hp) (R : It → Hp → Prop), (κ.gh = true → Gh X pins) → Watch X κ s → Inv X pins σ H s → wi σ H R →
    wpAny (model X.prog X.w) X.A (eval iter X.env) (fun v s1 => wpAny (model X.prog X.w) X.A (pyIter v) (fun itv s2 => ∃ pl, Gh X (pins ++ pl) ∧ PIEk X (pins ++ pl) σ tg R itv s2 ∧ Watch X κ s2) X.xe s1) X.xe s
theorem kpi_rangeN {tg : Expr} {p2 pos2 : Pos} (D : FnN false X.prog X.w X.K X.mg X.base CX k fa fd ps sp) (room : RoomG k X.A) (hg : L2.Gl X x) (hm : X.mg x = some (.ref fa)) (keep : PySem.W.keepIn X.K (.ref fa) = true) (hb : Binds X.K fd ps []) (px : ∀ σ, PassesAt CX X σ (E σ))
    (ha : PAk X κ (e :: es) t) (hrg : L2.Gl X "range") (hrm : X.mg "range" = none)
    (hs : starEach [.Call (.Name x p') (e :: es) [] pos] X.env = [(false, eval (.Call (.Name x p') (e :: es) [] pos) X.env)] := by rfl)
    (hdb : (x == ("__debug__" : Str)) = false := by decide) (he : starEach (e :: es) X.env = (false, eval e X.env) :: starEach es X.env := by rfl) (hpl : (backTo pos (starEach es X.env)).any (·.1) = false := by rfl) :
    PIn X κ tg (.Call (.Name "range" p2) [.Call (.Name x p') (e :: es) [] pos] [] pos2) (iRng1 (tCons (tCallS sp E t) tNil)) := by
  intro pins s σ H R G w I h
  refine Call_ (ld_blt I hrg hrm boot_range (PyProof.Rows.callWith_type1 ?_ hs rfl))
  rw [hs]
  show wpAny _ _ (spliced ((false, eval (.Call (.Name x p') (e :: es) [] pos) X.env) :: [])) _ _ s
  refine Calls.spliced_cons (thn (keval_callN D room hg hm keep hb px ha hdb he hpl G w I h) fun u s1 ⟨⟨v, H1, pl, I1, G1, r1, q1⟩, w1⟩ => Calls.spliced_nil ?_)
  obtain ⟨j, e1, q2, q3, q⟩ := q1
  cases e1
  obtain ⟨tj, rfl⟩ := r1
  refine call_range_1 (thn (range_itk (R := R) (Nat.le_succ_of_le (Nat.le_succ _)) w1 I1 (by omega) (by omega) q2 q3 (by simpa using q)) fun itv s2 z => ⟨pl, G1, z⟩)
theorem kps_forN {tg : Expr} {i : Nat} {y : Str} {np : Pos} {iter : Expr} {body : List Stmt} {wi : TI} {tb : TS} (htg : tg = .Name y np) (hp : PassesOwn (model X.prog X.w) X.A X.env X.xe) (hc : X.calm = true) (hN : X.N.Nodup) (hix : X.N[i]? = some y) (hx : X.env.scope.names.lookup y = some .local) (hn : κ.names.contains y = false) (hi : PIn X κ tg iter wi) (hb : PSsk X ⟨κ.names, true⟩ body tb)
    (hs : ∀ x, foldedSetIterable iter X.env x = pure x := by intro _; rfl) : PSk X κ (.For tg iter body [] pos) (tFor wi (gName i) tb) := by
  subst htg
  intro pins0 s σ H D G0 w I h
  refine wpAny_For (thn (hi pins0 s σ H _ G0 w I h) fun v s1 h1 => thn h1 fun itv s2 h2 => ?_) hs
  obtain ⟨pl, G, ⟨it, fp, tn, J, H2, e, I2, T, st2, f2, W, ⟨m0, w0⟩, turn⟩, w2⟩ := h2
  subst e
  generalize hpins : pins0 ++ pl = pins at *
  have stat : ∀ {H' : Hp}, (∀ b ∈ fp, H' b = none) → ∀ b ∈ fp, FpOk X pins H' b ∧ ∀ p ∈ pins, p.1 ≤ b := fun hn b hb => ⟨⟨hn b hb, (f2 b hb).1.2⟩, (f2 b hb).2⟩
  have w2' : Watch X ⟨κ.names, true⟩ s2 := w2
  have back : ∀ {f : Flow} {s' : Shared}, SP X pins D f s' → Watch X ⟨κ.names, true⟩ s' → SP X pins0 D f s' ∧ Watch X κ s' := fun h1 h2 => by
    subst hpins
    exact ⟨SP.unpin h1, h2⟩
  refine codeAny_forLoop_any (fun n s' => ∃ i σ' H', Inv X pins σ' H' s' ∧ Watch X ⟨κ.names, true⟩ s' ∧ tn i s'.heap ∧ (∀ b ∈ fp, H' b = none) ∧ W i n σ' H') ?_ m0 ⟨0, σ, H2, I2, w2', st2, fun b hb => (f2 b hb).1.1, w0⟩
  rintro n s3 ⟨i3, σ3, H3, I3, wk3, st3, fr3, w3⟩
  rcases turn i3 n σ3 H3 w3 with ⟨stop, qn⟩ | ⟨go, N, hNN, step⟩
  · refine wpAny_passesOwn hp (thn (kdone T rfl rfl rfl hc (fun _ => G) rfl wk3 I3 (stat fr3) st3 stop) fun r s4 ⟨⟨hr, I4⟩, w4⟩ => ?_)
    subst hr
    exact wpAny_execs_nil (back (f := .next) ⟨σ3, H3, I4, qn⟩ w4)
  · refine wpAny_passesOwn hp (thn (kitem T rfl rfl rfl hc (fun _ => G) rfl wk3 I3 (stat fr3) st3 go) fun r s4 ⟨u, hr, h4⟩ => ?_)
    subst hr
    refine wpAny_passesOwn hp (thn h4 fun _ s5 ⟨⟨x5, H5, I5, r5, y5, st5, fr5⟩, w5⟩ => ?_)
    have I5' := I5.pinned (fun b hb => (stat fr5 b hb).1) (T.obj _ _ st5)
    refine wpAny_passesOwn hp (wpAny_assign_Name (kstore I5' w5 hN hix hx hn r5 fun s6 I6 w6 => ?_))
    refine wpAny_passesOwn hp (thn (hb _ s6 _ H5 _ (fun _ => G.app) w6 I6 (step x5 H5 y5)) fun f s7 q7 => ?_)
    have again : ∀ {σ7 : L2.St} {H7 : Hp}, Inv X (pins ++ pinsAt fp s5.heap) σ7 H7 s7 → Watch X ⟨κ.names, true⟩ s7 → N σ7 H7 → ∃ m, m < n ∧ ∃ i σ' H', Inv X pins σ' H' s7 ∧ Watch X ⟨κ.names, true⟩ s7 ∧ tn i s7.heap ∧ (∀ b ∈ fp, H' b = none) ∧ W i m σ' H' := fun {σ7 H7} I7 w7 n7 => by
      obtain ⟨m', hm, y7⟩ := hNN σ7 H7 n7
      refine ⟨m', hm, i3 + 1, σ7, H7, I7.unpinned, w7, T.keep _ _ _ st5 fun b hb o e => (I7.pin (b, o) (List.mem_append_right _ (List.mem_append_right _ (mem_pinsAt hb e)))).1, fun b hb => ?_, y7⟩
      obtain ⟨o, e, d⟩ := T.obj _ _ st5 b hb
      exact (I7.pin (b, o) (List.mem_append_right _ (List.mem_append_right _ (mem_pinsAt hb e)))).2.1
    obtain ⟨q7, w7⟩ := q7
    cases f with
    | next => obtain ⟨σ7, H7, I7, n7⟩ := q7; exact again I7 w7 n7
    | cont => obtain ⟨σ7, H7, I7, n7⟩ := q7; exact again I7 w7 n7
    | brk => obtain ⟨σ7, H7, I7, q7⟩ := q7; exact back (f := .next) ⟨σ7, H7, I7.unpinned, q7⟩ w7
    | ret v => obtain ⟨x7, σ7, H7, I7, r7, q7⟩ := q7; exact back (f := .ret v) ⟨x7, σ7, H7, I7.unpinned, r7, q7⟩ w7
/-- name = ".."; a statement; return name -/
theorem psn_word {i : Nat} {y z : Str} {jc : Nat} {p1 p2 p3 p4 p5 : Pos} {st : Stmt} {ts : TS} (hN : X.N.Nodup) (hi : X.N[i]? = some y) (hx : X.env.scope.names.lookup y = some .local) (h2 : PSk X ⟨[y], false⟩ st ts)
    (hs : swapsWith (.Constant (.str z) jc p1) (some (.Name y p2)) p3.line X.env = pure false := by rfl) (hd : (y == ("__debug__" : Str)) = false := by decide) :
    PSsn X true [.Assign [.Name y p2] (.Constant (.str z) jc p1) p3, st, .Return (some (.Name y p4)) p5] (tSeq (tAsg (tC (.str z)) (gName i)) (tSeq (fun D σ H => ts { D with rt := fun _ _ => False, bk := fun _ _ => False, ct := fun _ _ => False } σ H) (tRet (tVar i)))) := by
  intro pins s σ H D tk I h
  have h1 := tk rfl
  refine wpAny_execs_cons (wpAny_Assign_Name (Calls.Constant_str ?_) hs)
  have w0 : Watch X ⟨[], false⟩ { s with toks := s.toks + 1 } := by
    obtain ⟨m, hm, _⟩ := I.loc
    exact ⟨m, hm, fun z hz => nomatch hz⟩
  refine kstoreG (κ' := ⟨[y], false⟩) (v := .str z) (I.tok (s.toks + 1)) w0 hN hi hx ⟨_, rfl⟩ ⟨z, s.toks, rfl, h1, Nat.lt_succ_self _⟩ (fun z hz => .inl (List.mem_singleton.mp hz)) fun s2 I2 w2 => ?_
  refine wpAny_execs_cons (thn (h2 pins s2 _ H _ (fun z => by cases z) w2 I2 h) fun f s3 q => ?_)
  cases f with
  | next =>
    obtain ⟨⟨σ3, H3, I3, q3⟩, w3⟩ := q
    refine wpAny_execs_cons (wpAny_Return_some (thn (kpg_name (pos := p4) (κ := ⟨[y], false⟩) hi hx (by simp) hd pins s3 σ3 H3 _ (fun z => by cases z) w3 I3 q3) fun u s4 q4 => ?_))
    obtain ⟨⟨⟨v, H4, I4, r4, q4⟩, _⟩, g4⟩ := q4
    exact ⟨⟨v, σ3, H4, I4, r4, q4⟩, fun _ => ⟨u, rfl, g4⟩⟩
  | ret v => obtain ⟨⟨_, _, _, _, _, q⟩, _⟩ := q; exact q.elim
  | brk => obtain ⟨⟨_, _, _, q⟩, _⟩ := q; exact q.elim
  | cont => obtain ⟨⟨_, _, _, q⟩, _⟩ := q; exact q.elim
end
end Tk

/-! Tk, part I: the same over the own layer's states. -/
namespace Tk
open PySem PySem.Spec PyProof.Rows L2 Pd

section
variable {g : Pd.Gl} {X : Cx} {W : WX} {κ : Wt} {a b e : Expr} {ma mb : EM} {pos : Pos}
def dAddI : D → D → Option D := dI (fun _ _ => true) fun i j => .int (i + j)
theorem ke_addI (ha : KE g X W κ a ma) (hb : KE g X W κ b mb) : KE g X W κ (.BinOp a .Add b pos) (mBin dAddI ma mb) :=
  let ⟨_, a1, a2⟩ := ha; let ⟨_, b1, b2⟩ := hb; ⟨_, kpe_addI a1 b1, sim_bin (rop_I0 fun _ _ _ _ => .int _) a2 b2⟩
def dAddT : D → D → Option D
  | .str x, .str y => if x.length + y.length ≤ sizeLine then some (.str (x ++ y)) else none
  | _, _ => none
theorem rop_addT : ROp g rAddT dAddT := by
  intro p F H x y dx dy Q rx ry e t h
  unfold dAddT at h
  split at h
  · split at h
    · cases rx; cases ry
      refine ⟨_, _, rfl, rfl, by rw [str_len, str_len]; assumption, ?_⟩
      rw [str_app]
      exact h.val e t (.str _)
    · exact h.elim
  · exact h.elim
theorem keg_add (ha : KEg g X W κ a ma) (hb : KEg g X W κ b mb) : KEg g X W κ (.BinOp a .Add b pos) (mBin dAddT ma mb) :=
  let ⟨_, a1, a2⟩ := ha; let ⟨_, b1, b2⟩ := hb; ⟨_, kpg_add a1 b1, sim_bin rop_addT a2 b2⟩
def dIxT : D → D → Option D
  | .str s, .int i => if s.length ≤ sizeLine then (atI s i).map fun c => .str [c] else none
  | _, _ => none
theorem rop_ixT : ROp g rIxS dIxT := by
  intro p F H x y dx dy Q rx ry e t h
  unfold dIxT at h
  split at h
  · rename_i s i
    split at h
    · rename_i hl
      cases q : atI s i with
      | none => rw [q] at h; exact h.elim
      | some c =>
        rw [q] at h
        cases rx; cases ry
        exact ⟨_, _, c, rfl, rfl, by rw [str_len]; exact hl, by simpa using q, OpP.val (d := .str [c]) h e t (.str [c])⟩
    · exact h.elim
  · exact h.elim
theorem keg_ix (ha : KE g X W κ a ma) (hb : KE g X W κ b mb) (hx : κ.names ≠ [] := by exact List.cons_ne_nil _ _) (hs : PlainIx b := by intro _ _; rfl) : KEg g X W κ (.Subscript a b pos) (mBin dIxT ma mb) :=
  let ⟨_, a1, a2⟩ := ha; let ⟨_, b1, b2⟩ := hb; ⟨_, kpg_ix hx a1 b1 hs, sim_bin rop_ixT a2 b2⟩
theorem sim_oV {t : TE} {m : EM} (h2 : Sim g W (RepV g) t m) : SimO g W t (oV m) := fun p H0 F0 A F s σ H Q Y hp => h2 p H0 F0 A F s σ H Q Y (PostO.bind hp fun d s' b F' H' A' X' e' r' k => k b F' H' A' X' (Ext.refl _) r')
theorem sim_eF {t : TE} {m : OM} (h2 : SimO g W t m) : Sim g W (RepV g) t (eF m) := by
  -- through de_frz in a context of no state
  intro p H0 F0 A F s σ H Q Y hp
  refine h2 p H0 F0 A F s σ H Q Y ?_
  unfold eF at hp
  cases q : m s with
  | ok r s' =>
    rw [q] at hp
    cases r with
    | no => exact hp
    | val d => exact fun v F' H' A' X' e' r' => hp v F' H' A' X' e' r'
    | own l => exact fun a vs F' H' A' X' e' r' k1 k2 k3 k4 k5 => hp (.ref a) _ H' A' (X'.freeze k1 k2 k3 k4 k5) (e'.trans (Ext.new k2)) (.lst (.inl upd_same) (r'.mono (Ext.new k2)))
    | dct l => exact hp.elim
  | exc c n s' => rw [q] at hp; exact hp
  | stuck => rw [q] at hp; exact hp
theorem ks_setG {i : Nat} {x : Str} {pos' : Pos} {m : EM} (hN : X.N.Nodup) (hi : X.N[i]? = some x) (hx : X.env.scope.names.lookup x = some .local) (he : KEg g X W κ e m) (hs : swapsWith e (some (.Name x pos')) pos.line X.env = pure false := by rfl) :
    KS g X W κ (.Assign [.Name x pos'] e pos) (mSet i (good (oV m))) :=
  let ⟨_, a1, a2⟩ := he; ⟨_, kps_setG hN hi hx a1 hs, sim_set (sim_oV a2)⟩
theorem ks_set {i : Nat} {x : Str} {pos' : Pos} {m : OM} (hN : X.N.Nodup) (hi : X.N[i]? = some x) (hx : X.env.scope.names.lookup x = some .local) (hn : κ.names.contains x = false) (he : KO g X W κ e m) (hs : swapsWith e (some (.Name x pos')) pos.line X.env = pure false := by rfl) :
    KS g X W κ (.Assign [.Name x pos'] e pos) (mSet i (good m)) :=
  let ⟨_, a1, a2⟩ := he; ⟨_, kps_set hN hi hx hn a1 hs, sim_set a2⟩
end

/-! ### calls -/
section
variable {g : Pd.Gl} {X : Cx} {W : WX} {κ : Wt} {f : FM}
theorem simO_call {t : TA} {m : AM} (a2 : Sim g W (RepA g) t m) : SimO g W (tCallS (spF g f) (WE W) t) (oCall f m) := fun p H0 F0 A F s σ H Q Y hp =>
  a2 p H0 F0 A F s σ H _ Y (PostO.bind hp fun ds s1 vs F1 H1 A1 Y1 e1 r1 hp1 => post_call Y1 r1 hp1)
theorem simO_callR {i : Nat} {t : TA} {m : AM} (a2 : Sim g W (RepA g) t m) : SimO g W (tCallS (spF g f) (WE W) (tCons (tVar i) t)) (oCallR i f m) := by
  intro p H0 F0 A F0' s σ H Q Y hp
  unfold oCallR at hp
  cases q : s.sl[i]? with
  | none => rw [q] at hp; exact hp.elim
  | some sv =>
    rw [q] at hp
    cases sv with
    | no => exact hp.elim
    | val d => exact hp.elim
    | dct l => exact hp.elim
    | own l =>
      obtain ⟨a0, vs0, h1, _, h2, r2⟩ := Y.sl.getOwn q
      refine ⟨.ref a0, h1, a2 p H0 F0 A F0' s σ H _ Y (PostO.bind hp fun ds s1 vs F1 H1 A1 Y1 e1 r1 hp1 => ?_)⟩
      cases q1 : s1.sl[i]? with
      | none => rw [q1] at hp1; exact hp1.elim
      | some sv1 =>
        rw [q1] at hp1
        cases sv1 with
        | no => exact hp1.elim
        | val d => exact hp1.elim
        | dct l => exact hp1.elim
        | own l1 =>
          obtain ⟨a1', vs1, k1, km, k2, k3⟩ := Y1.sl.getOwn q1
          have ea : a1' = a0 := by
            have := k1.symm.trans h1
            injection (Option.some.inj (Option.some.inj this))
          subst ea
          obtain ⟨f0, ff, fp, _⟩ := Y1.sl.facts a1' km
          cases l1 with
          | nil => exact hp1.elim
          | cons d0 rr =>
            cases d0 with
            | int n =>
              cases rr with
              | cons _ _ => exact hp1.elim
              | nil =>
                have hp2 : PostO g W p H0 F0 F1 σ Q (if noPiles ds = true then outR i (f (.pile :: ds) n) s1 else .stuck) := hp1
                split at hp2
                · rename_i hn
                  have ev : vs1 = [.int n] := by
                    obtain ⟨w, rfl, rw'⟩ := k3.one
                    cases rw'
                    rfl
                  subst ev
                  refine ⟨some a1', F1, .pile :: ds, n, .cons (.pile rfl) (Reps.swap r1 hn), Y1.ext, ⟨fun b e => ?_, Y1.pl.2⟩, Y1.tb, ?_⟩
                  · cases e; exact ⟨ff, k2⟩
                  unfold outR at hp2
                  cases qf : f (.pile :: ds) n with
                  | stuck => rw [qf] at hp2; exact hp2.elim
                  | exc c mm n' =>
                    rw [qf] at hp2
                    refine fun cls d F' H' G P z => ?_
                    obtain ⟨A', _, Y'⟩ := Y1.callR q1 k1 ⟨_, k2⟩ G P
                    exact hp2 cls d F' H' A' Y' G.ff z
                  | ok rv n' =>
                    rw [qf] at hp2
                    cases rv with
                    | no => exact hp2.elim
                    | dct l => exact hp2.elim
                    | val d =>
                      refine fun v F' H' G P z => ?_
                      obtain ⟨A', _, Y'⟩ := Y1.callR q1 k1 ⟨_, k2⟩ G P
                      have hp3 : PostO g W p H0 F0 F1 σ Q (if noPile d = true then .ok (.val d) { s1 with sl := s1.sl.set i (.own [.int n']) } else .stuck) := hp2
                      split at hp3
                      · exact hp3 v F' H' A' Y' G.ff (Rep.swap z (by assumption))
                      · exact hp3.elim
                    | own l =>
                      refine fun a vs' F' H' G P z w1 w2 w3 w4 => ?_
                      obtain ⟨A', mA, Y'⟩ := Y1.callR q1 k1 ⟨_, k2⟩ G P
                      have hp3 : PostO g W p H0 F0 F1 σ Q (if noPiles l = true then .ok (.own l) { s1 with sl := s1.sl.set i (.own [.int n']) } else .stuck) := hp2
                      split at hp3
                      · obtain ⟨y1, y2, y3, y4⟩ := Y1.fresh w3
                        exact hp3 a vs' F' H' A' Y' G.ff (Reps.swap z (by assumption)) w1 w2 y2 y3 (fun hm => (mA a hm).elim y4 fun e => w4 (by rw [e]))
                      · exact hp3.elim
                · exact hp2.elim
            | _ => exact hp1.elim
def DAt (g : Pd.Gl) (X : Cx) (W : WX) (es : List Expr) (m : AM) : Prop := ∃ t, PAt X es t ∧ Sim g W (RepA g) t m
theorem dat_int {i : Int} {j : Nat} {p : Pos} (hs : starEach [.Constant (.int i) j p] X.env = [(false, eval (.Constant (.int i) j p) X.env)] := by rfl) : DAt g X W [.Constant (.int i) j p] (aCons (mC (.int i)) aNil) :=
  ⟨_, pat_int hs, sim_cons (fun p H0 F0 A F s' σ H Q Y hp => hp _ F H A Y (Ext.refl _) (.int i)) sim_nil⟩
theorem dat_cons {e : Expr} {es : List Expr} {m : EM} {ms : AM} (h : DE g X W e m) (hr : DAt g X W es ms) (hs : starEach (e :: es) X.env = (false, eval e X.env) :: starEach es X.env := by rfl) : DAt g X W (e :: es) (aCons m ms) :=
  let ⟨_, a1, a2⟩ := h; let ⟨_, b1, b2⟩ := hr; ⟨_, pat_step a1 b1 hs, sim_cons a2 b2⟩
/-- name = f(pile, ..), then the rest under the watch of the name -/
theorem dss_startR {ip i k : Nat} {x y : Str} {ep : Expr} {es : List Expr} {m : AM} {n : SM} {rest : List Stmt} {p' pos yp sp' : Pos} (C : CalN true X.prog X.w X.K X.mg X.base g k x f) (hr : RoomG k X.A) (hg : L2.Gl X x) (tk : Takes X W) (hv : PE X ep (tVar ip)) (ha : DAt g X W es m)
    (hN : X.N.Nodup) (hi : X.N[i]? = some y) (hx : X.env.scope.names.lookup y = some .local) (h2 : KSs g X W ⟨[y], true⟩ rest n)
    (hs : swapsWith (.Call (.Name x p') (ep :: es) [] pos) (some (.Name y yp)) sp'.line X.env = pure false := by rfl)
    (hdb : (x == ("__debug__" : Str)) = false := by decide) (he : starEach (ep :: es) X.env = (false, eval ep X.env) :: starEach es X.env := by rfl) (hpl : (backTo pos (starEach es X.env)).any (·.1) = false := by rfl) :
    DSs g X W (.Assign [.Name y yp] (.Call (.Name x p') (ep :: es) [] pos) sp' :: rest) (mSeq (mSet i (good (oCallR ip f m))) n) := by
  obtain ⟨fa, fd, ps, F, gm, kp, b⟩ := C.ex
  obtain ⟨t, a1, a2⟩ := ha
  obtain ⟨u, c1, c2⟩ := h2
  exact ⟨_, pss_start F hr hg gm kp b (fun σ => passAt tk σ) (pat_step hv a1 he) hN hi hx c1 hs hdb he hpl, sim_seq (sim_set (simO_callR a2)) c2⟩
end

/-! ### walks -/
section
variable {g : Pd.Gl} {X : Cx} {W : WX} {κ : Wt} {pos : Pos} {m : SM}
theorem sim_name {i : Nat} : SimG g (gName i) (gN i) := by
  intro p H0 F0 A F s σ H v d Q Y r ⟨s', e, k⟩
  cases e
  obtain ⟨A1, m1, q1⟩ := Y.sl.setVal r i
  exact k _ A1 (Y.slots (s' := { s with sl := s.sl.set i (.val d) }) rfl q1)
theorem sim_for {wi : TI} {tg' : TG} {t1 : TS} {mi : AM} {gm : D → S → Option S} (i2 : Sim g W (RepI g) wi mi) (g2 : SimG g tg' gm) (a2 : SimS g W t1 m) : SimS g W (tFor wi tg' t1) (mFor mi gm m) := by
  intro p H0 F0 A F s σ H D Y hp
  refine i2 p H0 F0 A F s σ H _ Y (PostS.bs hp fun items s1 J F1 H1 A1 Y1 e1 r1 hp1 => ?_)
  refine ⟨fun i n σ' H' => n = items.length - i ∧ i ≤ items.length ∧ ∃ F2 A2 s2, Rel g p H0 F0 A2 F2 s2 σ' H' ∧ Ext F1 F2 ∧ PostS g W p H0 F0 F2 D (forLoop gm m (items.drop i) s2), ⟨items.length, by simp, Nat.zero_le _, F1, A1, s1, Y1, Ext.refl _, by simpa using hp1⟩, ?_⟩
  rintro i n σ2 H2 ⟨rfl, hi, F2, A2, s2, Y2, e2, hp2⟩
  by_cases hlt : i < items.length
  · have ed : items.drop i = items[i] :: items.drop (i + 1) := List.drop_eq_getElem_cons hlt
    rw [ed] at hp2
    refine .inr ⟨r1.go i F2 H2 e2 Y2.ext hlt, fun σ' H' => ∃ F3 A3 s3, Rel g p H0 F0 A3 F3 s3 σ' H' ∧ Ext F1 F3 ∧ PostS g W p H0 F0 F3 D (forLoop gm m (items.drop (i + 1)) s3), fun σ' H' h => ⟨items.length - (i + 1), by omega, rfl, hlt, h⟩, fun x H' hy => ?_⟩
    obtain ⟨d, F3, hd, G3, r3⟩ := r1.yld i F2 H2 x H' e2 Y2.ext Y2.tb hy hlt
    have ee : d = items[i] := by rw [List.getElem?_eq_getElem hlt] at hd; exact (Option.some.inj hd).symm
    subst ee
    have Y3 := Y2.grow G3
    unfold forLoop at hp2
    cases qg : gm items[i] s2 with
    | none => rw [qg] at hp2; exact hp2.elim
    | some s3 =>
      rw [qg] at hp2
      refine g2 p H0 F0 A2 F3 s2 σ2 H' x _ _ Y3 r3 ⟨s3, qg, fun σ4 A4 Y4 => ?_⟩
      refine a2 p H0 F0 A4 F3 s3 σ4 H' _ Y4 ?_
      have e3 : Ext F1 F3 := e2.trans G3.ff
      have hp3 : PostS g W p H0 F0 F3 D (match m s3 with | .nx s2 => forLoop gm m (items.drop (i + 1)) s2 | .ct s2 => forLoop gm m (items.drop (i + 1)) s2 | .bk s2 => .nx s2 | r => r) := PostS.mono hp2 G3.ff
      cases q : m s3 with
      | nx s5 => rw [q] at hp3; exact fun σ5 F5 H5 A5 Y5 e5 => ⟨F5, A5, s5, Y5, e3.trans e5, PostS.mono hp3 e5⟩
      | ct s5 => rw [q] at hp3; exact fun σ5 F5 H5 A5 Y5 e5 => ⟨F5, A5, s5, Y5, e3.trans e5, PostS.mono hp3 e5⟩
      | bk s5 => rw [q] at hp3; exact hp3
      | exc c n s5 => rw [q] at hp3; exact hp3
      | stuck => rw [q] at hp3; exact hp3
      | rt v s5 =>
        rw [q] at hp3
        cases v with
        | val d => exact hp3
        | own l => exact hp3
        | no => exact hp3
        | dct l => exact hp3
  · have ei : i = items.length := by omega
    subst ei
    rw [List.drop_length] at hp2
    exact .inl ⟨r1.stop _ F2 H2 e2 Y2.ext (Nat.le_refl _), hp2 σ2 F2 H2 A2 Y2 (Ext.refl _)⟩
/-- over a list -/
def itL (m : EM) : AM := fun s => (m s).bind fun d s1 => match d with
  | .lst l => .ok l s1
  | _ => .stuck
theorem ki_list {tg e : Expr} {m : EM} (h : KE g X W κ e m) : KI g X W κ tg e (itL m) := by
  obtain ⟨t, a1, a2⟩ := h
  refine ⟨_, kpi_list a1, fun p H0 F0 A F s σ H Q Y hp => a2 p H0 F0 A F s σ H _ Y (hp.bind fun d s1 v F1 H1 A1 Y1 e1 r1 hp1 => ?_)⟩
  cases d with
  | lst l =>
    cases r1 with | lst h1 r1 =>
    exact ⟨_, rfl, ⟨_, ext_l Y1.ext (.inl h1)⟩, hp1 _ F1 H1 A1 Y1 (Ext.refl _) (it_list (.inl h1) r1)⟩
  | _ => exact hp1.elim
theorem ks_for (hgh : κ.gh = true) {i : Nat} {x : Str} {np : Pos} {iter : Expr} {body : List Stmt} {mi : AM} (hp : PassesOwn (model X.prog X.w) X.A X.env X.xe) (hc : X.calm = true) (hN : X.N.Nodup) (hix : X.N[i]? = some x) (hx : X.env.scope.names.lookup x = some .local) (hn : κ.names.contains x = false) (hi : KI g X W κ (.Name x np) iter mi) (hb : KSs g X W κ body m)
    (hs : ∀ x, foldedSetIterable iter X.env x = pure x := by intro _; rfl) : KS g X W κ (.For (.Name x np) iter body [] pos) (mFor mi (gN i) m) :=
  let ⟨_, i1, i2⟩ := hi; let ⟨_, b1, b2⟩ := hb; ⟨_, kps_for hgh rfl hp hc hN hix hx hn i1 b1 hs, sim_for i2 sim_name b2⟩
def KIn (g : Pd.Gl) (X : Cx) (W : WX) (κ : Wt) (tg iter : Expr) (m : AM) : Prop := ∃ wi, PIn X κ tg iter wi ∧ Sim g W (RepI g) wi m
theorem sim_range1 {ta : TA} {ma : AM} (a2 : Sim g W (RepA g) ta ma) : Sim g W (RepI g) (iRng1 ta) (itR1 ma) := by
  refine fun p H0 F0 A F s σ H Q Y hp => a2 p H0 F0 A F s σ H _ Y (hp.bind fun ds s1 vs F1 H1 A1 Y1 e1 r1 hp1 => ?_)
  split at hp1
  · rename_i j
    obtain ⟨v, rfl, rv⟩ := r1.one
    cases rv
    split at hp1
    · rename_i hj
      exact ⟨_, rfl, hj.1, hj.2, hp1 _ F1 H1 A1 Y1 (Ext.refl _) it_range⟩
    · exact hp1.elim
  · exact hp1.elim
theorem kin_range {k : Nat} {f : FM} {x : Str} {tg e : Expr} {es : List Expr} {ma : AM} {p' p2 pos2 : Pos} (C : CalN false X.prog X.w X.K X.mg X.base g k x f) (hr : RoomG k X.A) (hg : L2.Gl X x) (tk : Takes X W) (ha : KA g X W κ (e :: es) ma) (hrg : L2.Gl X "range") (hrm : X.mg "range" = none)
    (hs : starEach [.Call (.Name x p') (e :: es) [] pos] X.env = [(false, eval (.Call (.Name x p') (e :: es) [] pos) X.env)] := by rfl)
    (hdb : (x == ("__debug__" : Str)) = false := by decide) (he : starEach (e :: es) X.env = (false, eval e X.env) :: starEach es X.env := by rfl) (hpl : (backTo pos (starEach es X.env)).any (·.1) = false := by rfl) :
    KIn g X W κ tg (.Call (.Name "range" p2) [.Call (.Name x p') (e :: es) [] pos] [] pos2) (itR1 (aCons (eF (oCall f ma)) aNil)) := by
  obtain ⟨fa, fd, ps, F, gm, kp, b⟩ := C.ex
  obtain ⟨t, a1, a2⟩ := ha
  exact ⟨_, kpi_rangeN F hr hg gm kp b (fun σ => passAt tk σ) a1 hrg hrm hs hdb he hpl, sim_range1 (sim_cons (sim_eF (simO_call a2)) sim_nil)⟩
theorem ks_forN {i : Nat} {x : Str} {np : Pos} {iter : Expr} {body : List Stmt} {mi : AM} (hp : PassesOwn (model X.prog X.w) X.A X.env X.xe) (hc : X.calm = true) (hN : X.N.Nodup) (hix : X.N[i]? = some x) (hx : X.env.scope.names.lookup x = some .local) (hn : κ.names.contains x = false) (hi : KIn g X W κ (.Name x np) iter mi) (hb : KSs g X W ⟨κ.names, true⟩ body m)
    (hs : ∀ x, foldedSetIterable iter X.env x = pure x := by intro _; rfl) : KS g X W κ (.For (.Name x np) iter body [] pos) (mFor mi (gN i) m) :=
  let ⟨_, i1, i2⟩ := hi; let ⟨_, b1, b2⟩ := hb; ⟨_, kps_forN rfl hp hc hN hix hx hn i1 b1 hs, sim_for i2 sim_name b2⟩
/-- a statement that goes on to the next -/
def onlyNx (m : SM) : SM := fun s => match m s with
  | .nx s' => .nx s'
  | .exc c n s' => .exc c n s'
  | _ => .stuck
theorem sim_onlyNx {t : TS} (h : SimS g W t m) : SimS g W (fun D σ H => t { D with rt := fun _ _ => False, bk := fun _ _ => False, ct := fun _ _ => False } σ H) (onlyNx m) := by
  intro p H0 F0 A F s σ H D Y hp
  refine h p H0 F0 A F s σ H _ Y ?_
  unfold onlyNx at hp
  cases q : m s with
  | nx s' => rw [q] at hp; exact hp
  | exc c n s' => rw [q] at hp; exact hp
  | bk s' => rw [q] at hp; exact hp.elim
  | ct s' => rw [q] at hp; exact hp.elim
  | rt v s' => rw [q] at hp; exact hp.elim
  | stuck => rw [q] at hp; exact hp.elim
theorem sim_ret {t : TE} {mo : OM} (a2 : SimO g W t mo) : SimS g W (tRet t) (mRet mo) := by
  intro p H0 F0 A F s σ H D Y hp
  refine a2 p H0 F0 A F s σ H _ Y ?_
  unfold mRet at hp
  cases q : mo s with
  | ok a s1 => cases a with
    | no => rw [q] at hp; exact hp
    | val d => rw [q] at hp; exact fun v F' H' A' Y' e' r' => hp v σ F' H' A' Y' e' r'
    | own l => rw [q] at hp; exact fun a vs F' H' A' Y' e' r' k1 k2 k3 k4 _ => hp a vs σ F' H' A' Y' e' r' k1 k2 k3 k4
    | dct l => rw [q] at hp; exact hp.elim
  | exc c n s1 => rw [q] at hp; exact fun cls d F' H' A' Y' e' x => hp cls d σ F' H' A' Y' e' x
  | stuck => rw [q] at hp; exact hp
theorem ksn_word {i : Nat} {y z : Str} {zs : List Nat} {jc : Nat} {p1 p2 p3 p4 p5 : Pos} {st : Stmt} (hN : X.N.Nodup) (hi : X.N[i]? = some y) (hx : X.env.scope.names.lookup y = some .local) (h2 : KS g X W ⟨[y], false⟩ st m) (hz : z.cps.toList = zs := by rfl)
    (hs : swapsWith (.Constant (.str z) jc p1) (some (.Name y p2)) p3.line X.env = pure false := by rfl) (hd : (y == ("__debug__" : Str)) = false := by decide) :
    KSn g X W true [.Assign [.Name y p2] (.Constant (.str z) jc p1) p3, st, .Return (some (.Name y p4)) p5] (mSeq (mSet i (good (oV (mC (.str zs))))) (mSeq (onlyNx m) (mRet (oV (mVar i))))) := by
  obtain ⟨t, b1, b2⟩ := h2
  refine ⟨_, psn_word hN hi hx b1 hs hd, sim_seq (sim_set (sim_oV ?_)) (sim_seq (sim_onlyNx b2) (sim_ret (sim_oV sim_var)))⟩
  exact fun p H0 F0 A F s' σ H Q Y hp => hp _ F H A Y (Ext.refl _) (by rw [← hz]; exact rep_str z)
end
end Tk

/-! Tk, part J: a built-in function called under the watch. -/
namespace Tk
open PySem PySem.Spec PyProof.Rows L2 Pd
theorem kpv {X : Cx} {κ : Wt} (i : Nat) {x : Str} {pos : Pos} (hN : X.N[i]? = some x := by rfl) (hv : Vis X.env.scope x := by first | exact Or.inl rfl | exact Or.inr (Or.inl rfl) | exact Or.inr (Or.inr rfl)) (hd : (x == ("__debug__" : Str)) = false := by decide)
    (hcd : (x == ("__classdict__" : Str)) = false := by decide) : PEk X κ (.Name x pos) (tVar i) := kpe_var hN hv hd hcd
abbrev CallK (X : Cx) (f : Value) (r : List V → Hp → VK → Prop) : Prop := CallR X f r ∧ ∀ s H a, CallR (gho X s H a) f r
section
variable {X : Cx} {κ : Wt} {x : Str} {id : String} {r : List V → Hp → VK → Prop} {e : Expr} {es : List Expr} {t : TA} {p pos : Pos}
theorem kpe_callB (hgh : κ.gh = true) (hc : CallK X (.builtin id) r) (hg : L2.Gl X x) (hm : X.mg x = none) (hv : bootBuiltins x = some (.builtin id)) (ha : PAk X κ (e :: es) t) (hn : x ≠ "__name__" := by decide) (hdb : (x == ("__debug__" : Str)) = false := by decide)
    (he : starEach (e :: es) X.env = (false, eval e X.env) :: starEach es X.env := by rfl) (hpl : (backTo pos (starEach es X.env)).any (·.1) = false := by rfl) : PEk X κ (.Call (.Name x p) (e :: es) [] pos) (tCB r t) := by
  intro pins s σ H Q G w I h
  refine wpAny_Call_Name_kw (ld_blt I hg hm hv ?_ hn hdb)
  exact PyProof.Rows.callWith_builtin1 (thn (ha pos pins s σ H _ G w I h) fun us s1 ⟨⟨vs, H1, I1, r1, q1⟩, w1⟩ =>
    frame I1 (G hgh) w1 (fun a J => thn (hc.2 s1 H1 a [] s1 [] H1 vs us Q J r1 q1) fun _ s' ⟨_, H2, J2, _, _⟩ => ⟨[], H2, J2⟩) (hc.1 pins s1 σ H1 vs us Q I1 r1 q1)) he hpl
end
section
variable {g : Pd.Gl} {X : Cx} {W : WX} {κ : Wt} {e : Expr} {m : EM} {pos p' : Pos} {x : Str} {id : String} {r : List V → Hp → VK → Prop} {f : D → Option SV}
theorem ko_b1V (hgh : κ.gh = true) {i : Nat} (hc : CallK X (.builtin id) r) (hr : RC1 g r f) (hg : L2.Gl X x) (hm : X.mg x = none) (hv : bootBuiltins x = some (.builtin id)) (h : PEk X κ e (tVar i)) (hn : x ≠ "__name__" := by decide) (hdb : (x == ("__debug__" : Str)) = false := by decide)
    (he : starEach [e] X.env = (false, eval e X.env) :: starEach [] X.env := by rfl) (hpl : (backTo pos (starEach [] X.env)).any (·.1) = false := by rfl) : KO g X W κ (.Call (.Name x p') [e] [] pos) (oB1V f i) :=
  ⟨_, kpe_callB hgh hc hg hm hv (kpa_cons h kpa_nil he) hn hdb he hpl, simO_1V hr⟩
end
end Tk

/-! Pe, part N: how the later meanings unfold. -/
namespace Pd
open PySem L2

def kJn2 (z : List Nat) (y : D) (s : S) : R D := R.of (dJoin z y) s
def kJn (b : EM) (x : D) (s1 : S) : R D := match x with
  | .str z => (b s1).bind (kJn2 z)
  | _ => .stuck
theorem e_join {a b : EM} {s : S} : mJoin a b s = (a s).bind (kJn b) := (id rfl)
theorem e_kJn {b : EM} {z : List Nat} {s : S} : kJn b (.str z) s = (b s).bind (kJn2 z) := (id rfl)
theorem e_kJn2 {z : List Nat} {y : D} {s : S} : kJn2 z y s = R.of (dJoin z y) s := (id rfl)
def kSp2 (z : List Nat) (y : D) (s : S) : R SV := R.of (dSplit z y) s
def kSp (b : EM) (x : D) (s1 : S) : R SV := match x with
  | .str z => (b s1).bind (kSp2 z)
  | _ => .stuck
theorem e_split {a b : EM} {s : S} : oSplit a b s = (a s).bind (kSp b) := (id rfl)
theorem e_kSp {b : EM} {z : List Nat} {s : S} : kSp b (.str z) s = (b s).bind (kSp2 z) := (id rfl)
theorem e_kSp2 {z : List Nat} {y : D} {s : S} : kSp2 z y s = R.of (dSplit z y) s := (id rfl)
def kEq0 (i : Nat) (b : EM) (s : S) : Option D → R D
  | none => .stuck
  | some _ => (b s).bind (eqAt i)
def kEq1 (y : D) (s : S) : Option D → R D
  | none => .stuck
  | some d => R.of (dEqv d y) s
theorem e_eqV {i : Nat} {b : EM} {l : List SV} {n : Int} : mEqV i b ⟨l, n⟩ = kEq0 i b ⟨l, n⟩ (kGet l[i]?) := by
  show (match kGet l[i]? with
    | none => R.stuck
    | some _ => (b ⟨l, n⟩).bind (eqAt i)) = _
  cases kGet l[i]? <;> rfl
theorem e_kEq0 {i : Nat} {b : EM} {s : S} {d : D} : kEq0 i b s (some d) = (b s).bind (eqAt i) := (id rfl)
theorem e_eqAt {i : Nat} {y : D} {l : List SV} {n : Int} : eqAt i y ⟨l, n⟩ = kEq1 y ⟨l, n⟩ (kGet l[i]?) := by
  show (match kGet l[i]? with
    | some d => R.of (dEqv d y) ⟨l, n⟩
    | none => R.stuck) = _
  cases kGet l[i]? <;> rfl
theorem e_kEq1 {y : D} {s : S} {d : D} : kEq1 y s (some d) = R.of (dEqv d y) s := (id rfl)
def kPO2 (i j : Nat) (l1 : List D) (r : SV) (s : S) : RS := match r with
  | .own l2 => .nx { s with sl := (s.sl.set i (.own l1)).set j (.own l2) }
  | _ => .stuck
def kPO (i j : Nat) (n : OM) (r : SV) (s : S) : RS := match r with
  | .own l1 => (n s).bs (kPO2 i j l1)
  | _ => .stuck
theorem e_parO {i j : Nat} {a b : OM} {s : S} : mParO i j a b s = (a s).bs (kPO i j b) := (id rfl)
theorem e_kPO {i j : Nat} {b : OM} {l : List D} {s : S} : kPO i j b (.own l) s = (b s).bs (kPO2 i j l) := (id rfl)
theorem e_kPO2 {i j : Nat} {l1 l2 : List D} {l : List SV} {n : Int} : kPO2 i j l1 (.own l2) ⟨l, n⟩ = .nx ⟨(l.set i (.own l1)).set j (.own l2), n⟩ := (id rfl)
def kRN (c : String) (d : D) (s : S) : RS := match d with
  | .int i => .exc c (some i) s
  | _ => .stuck
theorem e_raiseN {c : String} {m : EM} {s : S} : mRaiseN c m s = (m s).bs (kRN c) := (id rfl)
theorem e_kRN {c : String} {i : Int} {s : S} : kRN c (.int i) s = .exc c (some i) s := (id rfl)
def kTH (i : Nat) : RS → RS
  | .nx s2 => .nx (noE i s2)
  | .rt v s2 => .rt v s2
  | _ => .stuck
def kTr (cs : List String) (i : Nat) (mh : SM) : RS → RS
  | .exc c n s1 => if c ∈ cs then kTH i (mh (setE i c n s1)) else .stuck
  | r => r
theorem e_try {cs : List String} {i : Nat} {mb mh : SM} {s : S} : mTry cs i mb mh s = kTr cs i mh (mb s) := by
  unfold mTry
  cases mb s <;> rfl
theorem e_kTrN {cs : List String} {i : Nat} {mh : SM} {s : S} : kTr cs i mh (.nx s) = .nx s := (id rfl)
theorem e_kTrX {cs : List String} {i : Nat} {mh : SM} {c : String} {m : Option Int} {l : List SV} {n : Int} (h : c ∈ cs) : kTr cs i mh (.exc c m ⟨l, n⟩) = kTH i (mh ⟨l.set i (.val (.exc c m)), n⟩) := if_pos h
theorem e_kTH {i : Nat} {l : List SV} {n : Int} : kTH i (.nx ⟨l, n⟩) = .nx ⟨l.set i .no, n⟩ := (id rfl)
def kIE (ds : List D) (s : S) : R (List D) := match ds with
  | [.lst l, .int k] => if -(2 ^ 63) ≤ k ∧ k < 2 ^ 63 then .ok (enK k l) s else .stuck
  | _ => .stuck
theorem e_itEnK {m : AM} {s : S} : itEnK m s = (m s).bind kIE := (id rfl)
theorem e_kIE {l : List D} {s : S} : kIE [.lst l, .int 2] s = .ok (enK 2 l) s := by
  show (if -(2 ^ 63) ≤ (2 : Int) ∧ (2 : Int) < 2 ^ 63 then R.ok (enK 2 l) s else .stuck) = _
  rw [if_pos (by decide)]
def kRp (n : Int) (r : SV) (s : S) : R SV := match r with
  | .own l => if -(2 ^ 62) ≤ n ∧ n < 2 ^ 62 ∧ l.length * n.toNat ≤ sizeLine then .ok (.own (List.replicate n.toNat l).flatten) s else .stuck
  | _ => .stuck
theorem e_rep {n : Int} {m : OM} {s : S} : oRep n m s = (m s).bind (kRp n) := (id rfl)
def kIX (rows : List (String × Bool)) (d : D) (s : S) : R D := R.of ((isRow rows d).map D.bl) s
theorem e_isX {rows : List (String × Bool)} {m : EM} {s : S} : mIsX rows m s = (m s).bind (kIX rows) := (id rfl)
theorem e_kIX {rows : List (String × Bool)} {d : D} {s : S} : kIX rows d s = R.of ((isRow rows d).map D.bl) s := (id rfl)
end Pd

/-! the meanings of the defs, printed by gen.py -/
namespace Pd
open PySem Tk
abbrev fuel : Nat := 4000000
def k_LETTERS : List Nat := [97, 98, 99, 100, 101, 102, 103, 104, 105, 106, 107, 108, 109, 110, 111, 112, 113, 114, 115, 116, 117, 118, 119, 120, 121, 122]
def b_is_of : SM := (mRet (oV (eAnd (eF (oBn dIsi (aCons (mVar 0) (aCons (mC (.ty "str")) aNil)))) (eF (oB1 dAll (eF (oLc [2] (itA (mVar 0)) (gN 2) tYesM (mBin (dIn false) (mVar 2) (mVar 1)))))))))
def m_is_of : FM := mkF 2 3 b_is_of
def b_is_template : SM := (mRet (oCall m_is_of (aCons (mVar 0) (aCons (eF (oBin dAdd (mC (.str k_LETTERS)) (mC (.str [63])))) aNil))))
def m_is_template : FM := mkF 1 1 b_is_template
def b_is_word : SM := (mRet (oCall m_is_of (aCons (mVar 0) (aCons (mC (.str k_LETTERS)) aNil))))
def m_is_word : FM := mkF 1 1 b_is_word
def b_look_at_word : SM := (mIfS (mNot (mTest (eF (oCall m_is_word (aCons (mVar 0) aNil))))) (mRaise "NoWord") mNext)
def m_look_at_word : FM := mkF 1 1 b_look_at_word
def b_look_at_template : SM := (mIfS (mNot (mTest (eF (oCall m_is_template (aCons (mVar 0) aNil))))) (mRaise "NoTemplate") mNext)
def m_look_at_template : FM := mkF 1 1 b_look_at_template
def b_fill : SM := (mSeq (mDrop (eF (oCall m_look_at_template (aCons (mVar 0) aNil)))) (mSeq (mDrop (eF (oCall m_look_at_word (aCons (mVar 1) aNil)))) (mSeq (mRet (oRepl 0 63 1)) mNext)))
def m_fill : FM := mkF 2 2 b_fill
def b__law_mixed : SM := (mSeq (mSet 2 (good (oV (mBin dMod (eF (oB1 dInt (eF (oBin dAdd (eF (oBin dAdd (eF (oBin dMul (mBin dMod (eF (oB1V dInt 0)) (mC (.int 2147483647))) (mC (.int 48271)))) (eF (oBin dMul (mVar 1) (mC (.int 69621)))))) (mC (.int 1048583)))))) (mC (.int 2147483629))))))
  (mSeq (mSet 2 (good (oV (mBin dMod (eF (oB1 dInt (eF (oBin dMul (mVar 2) (mVar 2))))) (mC (.int 2147483587))))))
  (mRet (oV (mBin dMod (eF (oB1 dInt (eF (oBin dMul (mVar 2) (eF (oBin dAdd (mVar 2) (mC (.int 2)))))))) (mC (.int 2147483579)))))))
def m__law_mixed : FM := mkF 2 3 b__law_mixed
def b__law_pile : SM := (mSeq (mSet 2 (good (oV (mC (.int 0)))))
  (mSeq (mIfS (mTest (mBin dLtB (mVar 1) (eF (oB1V dLen 0)))) (mSet 2 (good (oV (mIxV 0 (mVar 1))))) mNext)
  (mSeq (mIfS (mTest (mBin dGe (mVar 2) (mBin dPow (mC (.int 10)) (mC (.int 18))))) (mRet (oLst (aCons (mBin dMod (eF (oB1 dInt (mBin dSub (mVar 2) (mBin dPow (mC (.int 10)) (mC (.int 18)))))) (eF (oBin dMul (eF (oBin dMul (eF (oBin dMul (mBin dPow (mC (.int 10)) (mC (.int 60))) (mBin dPow (mC (.int 10)) (mC (.int 60))))) (mBin dPow (mC (.int 10)) (mC (.int 60))))) (mBin dPow (mC (.int 10)) (mC (.int 60)))))) aNil))) mNext)
  (mSeq (mSet 3 (good (oV (mC (.int 0)))))
  (mSeq (mFor (itR1 (aCons (mC (.int 24)) aNil)) (gN 4) (mSet 3 (good (oBin dAdd (eF (oBin dMul (mVar 3) (mC (.int 2147483579)))) (eF (oCall m__law_mixed (aCons (mVar 2) (aCons (eF (oBin dAdd (eF (oBin dAdd (eF (oBin dMul (mC (.int 7)) (mVar 1))) (eF (oBin dMul (mC (.int 100)) (mVar 4))))) (eF (oBin dMul (mVar 4) (mVar 4))))) aNil))))))))
  (mRet (oLst (aCons (mVar 3) aNil))))))))
def m__law_pile : FM := mkF 2 5 b__law_pile
def b__law_take : SM := (mSeq (mSet 2 (good (oV (mBin dMod (eF (oB1 dInt (mIxV 0 (mC (.int 0))))) (mVar 1)))))
  (mSeq (mPileSet 0 (mBin dDiv (mIxV 0 (mC (.int 0))) (mVar 1)))
  (mRet (oVar 2))))
def m__law_take : FM := mkF 2 3 b__law_take
def b__law_word : SM := (mSeq (mSet 3 (good (oV (mC (.str [])))))
  (mSeq (mFor (itR1 (aCons (eF (oCall m__law_take (aCons (mVar 0) (aCons (eF (oBin dAdd (mVar 2) (mC (.int 1)))) aNil)))) aNil)) (gN 4) (mSet 3 (good (oBin dAdd (mVar 3) (mIxV 1 (eF (oCall m__law_take (aCons (mVar 0) (aCons (eF (oB1V dLen 1)) aNil)))))))))
  (mRet (oVar 3))))
def m__law_word : FM := mkF 3 5 b__law_word
def bK__law_word : SM := (mSeq (mSet 3 (good (oV (mC (.str []))))) (mSeq (onlyNx (mFor (itR1 (aCons (eF (oCall m__law_take (aCons (mVar 0) (aCons (mBin dAddI (mVar 2) (mC (.int 1))) aNil)))) aNil)) (gN 4) (mSeq (mSet 3 (good (oV (mBin dAddT (mVar 3) (mBin dIxT (mVar 1) (eF (oCall m__law_take (aCons (mVar 0) (aCons (eF (oB1V dLen 1)) aNil))))))))) mNext))) (mRet (oV (mVar 3)))))
def mK__law_word : FM := mkF 3 5 bK__law_word
def b__law_letters : SM := (mRet (oV (mBin dIx (eF (oLst (aCons (mC (.str [97, 98])) (aCons (mC (.str [97, 98])) (aCons (mC (.str [97, 98])) (aCons (mC (.str [97, 98, 99])) (aCons (mC (.str [97])) (aCons (mC (.str [107, 109, 122])) aNil)))))))) (eF (oCall m__law_take (aCons (mVar 0) (aCons (mC (.int 6)) aNil)))))))
def m__law_letters : FM := mkF 1 1 b__law_letters
def b__law_loose : SM := (mSeq (mSet 4 (good (oCall m__law_word (aCons (mVar 0) (aCons (mVar 1) (aCons (mVar 3) aNil))))))
  (mSeq (mFor (itR1 (aCons (mVar 2) aNil)) (gN 5) (mSet 4 (good (oBin dAdd (eF (oBin dAdd (mVar 4) (mC (.str [63])))) (eF (oCall m__law_word (aCons (mVar 0) (aCons (mVar 1) (aCons (mVar 3) aNil)))))))))
  (mRet (oVar 4))))
def m__law_loose : FM := mkF 4 6 b__law_loose
def b__law_bad_templates : SM := (mRet (oLst (aCons (mC .non) (aCons (mC (.int 0)) (aCons (mC (.bl true)) (aCons (mTup aNil) (aCons (eF (oLst aNil)) (aCons (eF (oLst (aCons (mC (.str [63])) aNil))) (aCons (mTup (aCons (mC (.str [97])) (aCons (mC (.str [63])) aNil))) (aCons (mC (.str [65, 63])) (aCons (mC (.str [97, 32, 63])) (aCons (mC (.str [63, 49])) (aCons (mC (.str [63, 10])) (aCons (mC (.str [32])) (aCons (mC (.str [42])) (aCons (mC (.str [97, 95, 98])) (aCons (mC (.str [63, 63, 46])) aNil)))))))))))))))))
def m__law_bad_templates : FM := mkF 0 0 b__law_bad_templates
def b__law_filled : SM := (mSeq (mSet 2 (good (oV (mC (.str [])))))
  (mSeq (mFor (itA (mVar 0)) (gN 3) (mSet 2 (good (oBin dAdd (mVar 2) (mBin dIx (eF (oLst (aCons (mVar 3) (aCons (mVar 1) aNil)))) (eF (oB1 dInt (mBin dEqvS (mVar 3) (mC (.str [63]))))))))))
  (mRet (oVar 2))))
def m__law_filled : FM := mkF 2 4 b__law_filled
def b_law : SM := (mSeq (mFor (itR1 (aCons (eF (oBn dMax2 (aCons (mC (.int 2)) (aCons (eF (oBn dMin2 (aCons (eF (oB1V dLen 0)) (aCons (mC (.int 8)) aNil)))) aNil)))) aNil)) (gN 1) (mSeq (mSet 2 (good (oCall m__law_pile (aCons (mVar 0) (aCons (mVar 1) aNil)))))
  (mSeq (mSet 3 (good (oCallR 2 m__law_letters aNil)))
  (mFor (itR1 (aCons (mC (.int 6)) aNil)) (gN 4) (mSeq (mSet 5 (good (oCallR 2 m__law_loose (aCons (mVar 3) (aCons (eF (oCallR 2 m__law_take (aCons (mC (.int 5)) aNil))) (aCons (mC (.int 4)) aNil))))))
  (mSeq (mSet 6 (good (oCallR 2 mK__law_word (aCons (mVar 3) (aCons (mC (.int 6)) aNil)))))
  (mSeq (mIfS (mOr (mTest (mBin (dIsB true) (eF (oCall m_is_template (aCons (mVar 5) aNil))) (mC (.bl true)))) (mTest (mBin (dIsB true) (eF (oCall m_is_template (aCons (mVar 6) aNil))) (mC (.bl true))))) (mRet (oV (mC (.bl false)))) mNext)
  (mFor (itL (eF (oLst (aCons (mVar 5) (aCons (mVar 6) (aCons (eF (oBin dMul (mC (.str [63])) (eF (oCallR 2 m__law_take (aCons (mC (.int 4)) aNil))))) (aCons (eF (oBin dAdd (mVar 5) (mVar 5))) aNil))))))) (gN 7) (mIfS (mOr (mTest (mBin dNevS (eF (oCall m_fill (aCons (mVar 7) (aCons (mVar 6) aNil)))) (eF (oCall m__law_filled (aCons (mVar 7) (aCons (mVar 6) aNil)))))) (mTest (mBin dNevS (eF (oCall m_fill (aCons (mVar 7) (aCons (mC (.str [])) aNil)))) (eF (oCall m__law_filled (aCons (mVar 7) (aCons (mC (.str [])) aNil))))))) (mRet (oV (mC (.bl false)))) mNext)))))))))
  (mSeq (mIfS (mTest (mBin dNevS (eF (oLc [8] (itA (eF (oCall m__law_bad_templates aNil))) (gN 8) (mTest (mBin (dIsB true) (eF (oCall m_is_template (aCons (mVar 8) aNil))) (mC (.bl false)))) (mVar 8))) (eF (oLst aNil)))) (mRet (oV (mC (.bl false)))) mNext)
  (mRet (oV (eAnd (mBin dEqvS (eF (oCall m_fill (aCons (mC (.str [63, 97, 63])) (aCons (mC (.str [97, 98])) aNil)))) (mC (.str [97, 98, 97, 97, 98]))) (eAnd (mBin dEqvS (eF (oCall m_fill (aCons (mC (.str [])) (aCons (mC (.str [97, 98])) aNil)))) (mC (.str []))) (mBin (dIsB false) (eF (oCall m_is_template (aCons (mC (.str [])) aNil))) (mC (.bl true)))))))))
def m_law : FM := mkF 1 9 b_law
end Pd

/-! the walks, printed by gen.py -/
namespace Pd
open PySem PySem.Spec PyProof.Rows L2 Tk
def topS (i : Nat) : Stmt := PySem.Challenge.pw_holewords_k02_templates_filled.main.body.getD i (.Pass ⟨0, 0, 0, 0⟩)
section
variable {P : Program} {w : World} {K : PySem.W.Frag} {mg : Str → Option Value} {base : Heap}
abbrev s_is_of : Stmt := topS 6
abbrev n_is_of : List Str := ["thing", "signs", "sign"]
theorem sc_is_of : FnScope n_is_of ["thing", "signs"] (defScope s_is_of) := ⟨rfl, rfl, rfl, by decide +kernel, rfl, by decide +kernel, by decide +kernel⟩
theorem ok_is_of {a : Addr} {fd : FuncData} (F : FunD K "is_of" "is_of" (defArgs s_is_of) (defBody s_is_of) (defScope s_is_of) [] [] a fd) (gm : mg "is_of" = some (.ref a)) (B_all : mg "all" = none) (B_isinstance : mg "isinstance" = none) (B_str : mg "str" = none) : Cal P w K mg base (G0 K mg) 1 "is_of" m_is_of :=
  cal_of (m := b_is_of) F gm sc_is_of rfl rfl (fun _ _ _ _ _ _ us hl => match us, hl with | [_, _], _ => rfl) fun cdv A outer s H E hr tk ow => by
  have nd := sc_is_of.nd
  exact (dss_one (ds_ret (do_of (de_and (de_frz (do_bn call_isi rc_isi (by rfl) B_isinstance (by decide +kernel) (da_cons (de_var (pv 0)) (da_cons (de_ty (by rfl) B_str boot_str) da_nil)))) (de_one (de_frz (do_b1 (cr_all rfl) rc_all (by rfl) B_all (by decide +kernel) (de_frz (do_lc (own := [("sign", 2)]) { hc := rfl, hN := nd, hi := (di_any (de_var (pv 0))), ok := blkOk_by (own := [("sign", 2)]) (N := n_is_of) (sc := defScope s_is_of) (by decide +kernel), nd := by decide, hg := fun _ _ _ _ _ => (dgw_name (i := 2) nd rfl (by first | exact Or.inl rfl | exact Or.inr rfl)), ht := fun _ _ _ _ _ => dts_nil, he := fun _ _ _ _ _ => (de_cmp op_inA rop_in (de_var (pv 2)) (de_var (pv 1)) (by rfl)) })))))))))
abbrev s_is_template : Stmt := topS 8
abbrev n_is_template : List Str := ["thing"]
theorem sc_is_template : FnScope n_is_template ["thing"] (defScope s_is_template) := ⟨rfl, rfl, rfl, by decide +kernel, rfl, by decide +kernel, by decide +kernel⟩
theorem ok_is_template {a : Addr} {fd : FuncData} (F : FunD K "is_template" "is_template" (defArgs s_is_template) (defBody s_is_template) (defScope s_is_template) [] [] a fd) (gm : mg "is_template" = some (.ref a)) (G_LETTERS : GlobS mg "LETTERS" k_LETTERS) (C_is_of : Cal P w K mg base (G0 K mg) 1 "is_of" m_is_of) : Cal P w K mg base (G0 K mg) 2 "is_template" m_is_template :=
  cal_of (m := b_is_template) F gm sc_is_template rfl rfl (fun _ _ _ _ _ _ us hl => match us, hl with | [_], _ => rfl) fun cdv A outer s H E hr tk ow => by
  have nd := sc_is_template.nd
  exact (dss_one (ds_ret (do_call C_is_of (hr.mono (by decide)) (by rfl) tk (da_cons (de_var (pv 0)) (da_cons (de_frz (do_bin op_addA rop_add (de_globS (by rfl) G_LETTERS) (de_str (by first | rfl | decide)))) da_nil)))))
abbrev s_is_word : Stmt := topS 7
abbrev n_is_word : List Str := ["thing"]
theorem sc_is_word : FnScope n_is_word ["thing"] (defScope s_is_word) := ⟨rfl, rfl, rfl, by decide +kernel, rfl, by decide +kernel, by decide +kernel⟩
theorem ok_is_word {a : Addr} {fd : FuncData} (F : FunD K "is_word" "is_word" (defArgs s_is_word) (defBody s_is_word) (defScope s_is_word) [] [] a fd) (gm : mg "is_word" = some (.ref a)) (G_LETTERS : GlobS mg "LETTERS" k_LETTERS) (C_is_of : Cal P w K mg base (G0 K mg) 1 "is_of" m_is_of) : Cal P w K mg base (G0 K mg) 2 "is_word" m_is_word :=
  cal_of (m := b_is_word) F gm sc_is_word rfl rfl (fun _ _ _ _ _ _ us hl => match us, hl with | [_], _ => rfl) fun cdv A outer s H E hr tk ow => by
  have nd := sc_is_word.nd
  exact (dss_one (ds_ret (do_call C_is_of (hr.mono (by decide)) (by rfl) tk (da_cons (de_var (pv 0)) (da_cons (de_globS (by rfl) G_LETTERS) da_nil)))))
abbrev s_look_at_word : Stmt := topS 9
abbrev n_look_at_word : List Str := ["word"]
theorem sc_look_at_word : FnScope n_look_at_word ["word"] (defScope s_look_at_word) := ⟨rfl, rfl, rfl, by decide +kernel, rfl, by decide +kernel, by decide +kernel⟩
theorem ok_look_at_word {a : Addr} {fd : FuncData} {C_NoWord : Addr} (F : FunD K "look_at_word" "look_at_word" (defArgs s_look_at_word) (defBody s_look_at_word) (defScope s_look_at_word) [] [] a fd) (gm : mg "look_at_word" = some (.ref a)) (X_NoWord : ExcOk K mg "NoWord" C_NoWord) (C_is_word : Cal P w K mg base (G0 K mg) 2 "is_word" m_is_word) : Cal P w K mg base (G0 K mg) 3 "look_at_word" m_look_at_word :=
  cal_of (m := b_look_at_word) F gm sc_look_at_word rfl rfl (fun _ _ _ _ _ _ us hl => match us, hl with | [_], _ => rfl) fun cdv A outer s H E hr tk ow => by
  have nd := sc_look_at_word.nd
  exact (dss_one (ds_if (dt_not (dt_val (de_frz (do_call C_is_word (hr.mono (by decide)) (by rfl) tk (da_cons (de_var (pv 0)) da_nil))))) (dss_one (ds_raiseC tk X_NoWord (by rfl))) dss_nil))
abbrev s_look_at_template : Stmt := topS 10
abbrev n_look_at_template : List Str := ["template"]
theorem sc_look_at_template : FnScope n_look_at_template ["template"] (defScope s_look_at_template) := ⟨rfl, rfl, rfl, by decide +kernel, rfl, by decide +kernel, by decide +kernel⟩
theorem ok_look_at_template {a : Addr} {fd : FuncData} {C_NoTemplate : Addr} (F : FunD K "look_at_template" "look_at_template" (defArgs s_look_at_template) (defBody s_look_at_template) (defScope s_look_at_template) [] [] a fd) (gm : mg "look_at_template" = some (.ref a)) (X_NoTemplate : ExcOk K mg "NoTemplate" C_NoTemplate) (C_is_template : Cal P w K mg base (G0 K mg) 2 "is_template" m_is_template) : Cal P w K mg base (G0 K mg) 3 "look_at_template" m_look_at_template :=
  cal_of (m := b_look_at_template) F gm sc_look_at_template rfl rfl (fun _ _ _ _ _ _ us hl => match us, hl with | [_], _ => rfl) fun cdv A outer s H E hr tk ow => by
  have nd := sc_look_at_template.nd
  exact (dss_one (ds_if (dt_not (dt_val (de_frz (do_call C_is_template (hr.mono (by decide)) (by rfl) tk (da_cons (de_var (pv 0)) da_nil))))) (dss_one (ds_raiseC tk X_NoTemplate (by rfl))) dss_nil))
abbrev s_fill : Stmt := topS 11
abbrev n_fill : List Str := ["template", "word"]
theorem sc_fill : FnScope n_fill ["template", "word"] (defScope s_fill) := ⟨rfl, rfl, rfl, by decide +kernel, rfl, by decide +kernel, by decide +kernel⟩
theorem okT_fill {a : Addr} {fd : FuncData} (F : FunD K "fill" "fill" (defArgs s_fill) (defBody s_fill) (defScope s_fill) [] [] a fd) (gm : mg "fill" = some (.ref a)) (C_look_at_word : Cal P w K mg base (G0 K mg) 3 "look_at_word" m_look_at_word) (C_look_at_template : Cal P w K mg base (G0 K mg) 3 "look_at_template" m_look_at_template) : CalT P w K mg base (G0 K mg) 4 "fill" 1 m_fill :=
  calT_of (m := b_fill) F gm sc_fill rfl rfl (pj := "word") rfl rfl (fun _ _ _ _ _ _ us hl => match us, hl with | [_, _], _ => rfl) fun cdv A outer s H E hr tk ow => by
  have nd := sc_fill.nd
  exact KSs.w (kss_cons (ks_expr (ke_frz (ko_call C_look_at_template (hr.mono (by decide)) (by rfl) tk (ka_cons (ke_var (kpv 0)) ka_nil)))) (kss_cons (ks_expr (ke_frz (ko_call C_look_at_word (hr.mono (by decide)) (by rfl) tk (ka_cons (ke_var (kpv 1)) ka_nil)))) (kss_cons (ks_ret (ko_repl (i := 0) (j := 1) rfl (by first | exact Or.inl rfl | exact Or.inr (Or.inl rfl)) rfl rfl (by rfl))) kss_nil)))
abbrev s__law_mixed : Stmt := topS 13
abbrev n__law_mixed : List Str := ["_law_cell", "_law_k", "_law_number"]
theorem sc__law_mixed : FnScope n__law_mixed ["_law_cell", "_law_k"] (defScope s__law_mixed) := ⟨rfl, rfl, rfl, by decide +kernel, rfl, by decide +kernel, by decide +kernel⟩
theorem ok__law_mixed {a : Addr} {fd : FuncData} (F : FunD K "_law_mixed" "_law_mixed" (defArgs s__law_mixed) (defBody s__law_mixed) (defScope s__law_mixed) [] [] a fd) (gm : mg "_law_mixed" = some (.ref a)) (B_int : mg "int" = none) : Cal P w K mg base (G0 K mg) 1 "_law_mixed" m__law_mixed :=
  cal_of (m := b__law_mixed) F gm sc__law_mixed rfl rfl (fun _ _ _ _ _ _ us hl => match us, hl with | [_, _], _ => rfl) fun cdv A outer s H E hr tk ow => by
  have nd := sc__law_mixed.nd
  exact (dss_cons (ds_set (i := 2) nd rfl (by first | exact Or.inl rfl | exact Or.inr rfl) (do_of (de_bin op_mod rop_mod (de_frz (do_t1 call_int1 rc_int (by rfl) B_int (by decide +kernel) (de_frz (do_bin op_addA rop_add (de_frz (do_bin op_addA rop_add (de_frz (do_bin op_mulA rop_mul (de_bin op_mod rop_mod (de_frz (do_t1V call_int1 rc_int (by rfl) B_int (by decide +kernel) (pv 0))) de_int) de_int)) (de_frz (do_bin op_mulA rop_mul (de_var (pv 1)) de_int)))) de_int)))) de_int)))
  (dss_cons (ds_set (i := 2) nd rfl (by first | exact Or.inl rfl | exact Or.inr rfl) (do_of (de_bin op_mod rop_mod (de_frz (do_t1 call_int1 rc_int (by rfl) B_int (by decide +kernel) (de_frz (do_bin op_mulA rop_mul (de_var (pv 2)) (de_var (pv 2)))))) de_int)))
  (dss_one (ds_ret (do_of (de_bin op_mod rop_mod (de_frz (do_t1 call_int1 rc_int (by rfl) B_int (by decide +kernel) (de_frz (do_bin op_mulA rop_mul (de_var (pv 2)) (de_frz (do_bin op_addA rop_add (de_var (pv 2)) de_int)))))) de_int))))))
abbrev s__law_pile : Stmt := topS 14
abbrev n__law_pile : List Str := ["_law_script", "_law_k", "_law_cell", "_law_found", "_law_j"]
theorem sc__law_pile : FnScope n__law_pile ["_law_script", "_law_k"] (defScope s__law_pile) := ⟨rfl, rfl, rfl, by decide +kernel, rfl, by decide +kernel, by decide +kernel⟩
theorem ok__law_pile {a : Addr} {fd : FuncData} (F : FunD K "_law_pile" "_law_pile" (defArgs s__law_pile) (defBody s__law_pile) (defScope s__law_pile) [] [] a fd) (gm : mg "_law_pile" = some (.ref a)) (B_int : mg "int" = none) (B_len : mg "len" = none) (B_range : mg "range" = none) (C__law_mixed : Cal P w K mg base (G0 K mg) 1 "_law_mixed" m__law_mixed) : Cal P w K mg base (G0 K mg) 2 "_law_pile" m__law_pile :=
  cal_of (m := b__law_pile) F gm sc__law_pile rfl rfl (fun _ _ _ _ _ _ us hl => match us, hl with | [_, _], _ => rfl) fun cdv A outer s H E hr tk ow => by
  have nd := sc__law_pile.nd
  exact (dss_cons (ds_set (i := 2) nd rfl (by first | exact Or.inl rfl | exact Or.inr rfl) (do_of de_int))
  (dss_cons (ds_if (dt_cmp (op_ltB hr.units) rop_ltB (de_var (pv 1)) (de_frz (do_b1V call_len rc_len (by rfl) B_len (by decide +kernel) (pv 0))) (nomark _)) (dss_one (ds_set (i := 2) nd rfl (by first | exact Or.inl rfl | exact Or.inr rfl) (do_of (de_ixV (pv 0) (de_var (pv 1)))))) dss_nil)
  (dss_cons (ds_if (dt_cmp op_ge rop_ge (de_var (pv 2)) (de_bin op_pow rop_pow de_int de_int) (nomark _)) (dss_one (ds_ret (do_lst (da_cons (de_bin op_mod rop_mod (de_frz (do_t1 call_int1 rc_int (by rfl) B_int (by decide +kernel) (de_bin op_sub rop_sub (de_var (pv 2)) (de_bin op_pow rop_pow de_int de_int)))) (de_frz (do_bin op_mulA rop_mul (de_frz (do_bin op_mulA rop_mul (de_frz (do_bin op_mulA rop_mul (de_bin op_pow rop_pow de_int de_int) (de_bin op_pow rop_pow de_int de_int))) (de_bin op_pow rop_pow de_int de_int))) (de_bin op_pow rop_pow de_int de_int)))) da_nil)))) dss_nil)
  (dss_cons (ds_set (i := 3) nd rfl (by first | exact Or.inl rfl | exact Or.inr rfl) (do_of de_int))
  (dss_cons (ds_for ow rfl (di_range1 (by rfl) B_range (da_cons de_int da_nil)) (dg_name (i := 4) nd rfl (by first | exact Or.inl rfl | exact Or.inr rfl)) (dss_one (ds_set (i := 3) nd rfl (by first | exact Or.inl rfl | exact Or.inr rfl) (do_bin op_addA rop_add (de_frz (do_bin op_mulA rop_mul (de_var (pv 3)) de_int)) (de_frz (do_call C__law_mixed (hr.mono (by decide)) (by rfl) tk (da_cons (de_var (pv 2)) (da_cons (de_frz (do_bin op_addA rop_add (de_frz (do_bin op_addA rop_add (de_frz (do_bin op_mulA rop_mul de_int (de_var (pv 1)))) (de_frz (do_bin op_mulA rop_mul de_int (de_var (pv 4)))))) (de_frz (do_bin op_mulA rop_mul (de_var (pv 4)) (de_var (pv 4)))))) da_nil))))))))
  (dss_one (ds_ret (do_lst (da_cons (de_var (pv 3)) da_nil)))))))))
abbrev s__law_take : Stmt := topS 15
abbrev n__law_take : List Str := ["_law_pile_here", "_law_size", "_law_digit"]
theorem sc__law_take : FnScope n__law_take ["_law_pile_here", "_law_size"] (defScope s__law_take) := ⟨rfl, rfl, rfl, by decide +kernel, rfl, by decide +kernel, by decide +kernel⟩
theorem okN__law_take {a : Addr} {fd : FuncData} (F : FunD K "_law_take" "_law_take" (defArgs s__law_take) (defBody s__law_take) (defScope s__law_take) [] [] a fd) (gm : mg "_law_take" = some (.ref a)) (B_int : mg "int" = none) : CalN false P w K mg base (G0 K mg) 1 "_law_take" m__law_take :=
  calN_of (m := b__law_take) F gm sc__law_take rfl rfl (fun _ _ _ _ _ _ us hl => match us, hl with | [_, _], _ => rfl) fun cdv A outer s H E hr tk ow => by
  have nd := sc__law_take.nd
  exact KSn.of (dss_cons (ds_set (i := 2) nd rfl (by first | exact Or.inl rfl | exact Or.inr rfl) (do_of (de_bin op_mod rop_mod (de_frz (do_t1 call_int1 rc_int (by rfl) B_int (by decide +kernel) (de_ixV (pv 0) de_int))) (de_var (pv 1)))))
  (dss_cons (ds_pileSet (de_bin op_fdiv rop_div (de_ixV (pv 0) de_int) (de_var (pv 1))) (pv 0))
  (dss_one (ds_ret (do_var (pv 2))))))
theorem ok__law_take {a : Addr} {fd : FuncData} (F : FunD K "_law_take" "_law_take" (defArgs s__law_take) (defBody s__law_take) (defScope s__law_take) [] [] a fd) (gm : mg "_law_take" = some (.ref a)) (B_int : mg "int" = none) : Cal P w K mg base (G0 K mg) 1 "_law_take" m__law_take :=
  cal_of (m := b__law_take) F gm sc__law_take rfl rfl (fun _ _ _ _ _ _ us hl => match us, hl with | [_, _], _ => rfl) fun cdv A outer s H E hr tk ow => by
  have nd := sc__law_take.nd
  exact (dss_cons (ds_set (i := 2) nd rfl (by first | exact Or.inl rfl | exact Or.inr rfl) (do_of (de_bin op_mod rop_mod (de_frz (do_t1 call_int1 rc_int (by rfl) B_int (by decide +kernel) (de_ixV (pv 0) de_int))) (de_var (pv 1)))))
  (dss_cons (ds_pileSet (de_bin op_fdiv rop_div (de_ixV (pv 0) de_int) (de_var (pv 1))) (pv 0))
  (dss_one (ds_ret (do_var (pv 2))))))
abbrev s__law_word : Stmt := topS 16
abbrev n__law_word : List Str := ["_law_pile_here", "_law_letters_here", "_law_most", "_law_found", "_law_k"]
theorem sc__law_word : FnScope n__law_word ["_law_pile_here", "_law_letters_here", "_law_most"] (defScope s__law_word) := ⟨rfl, rfl, rfl, by decide +kernel, rfl, by decide +kernel, by decide +kernel⟩
theorem okN__law_word {a : Addr} {fd : FuncData} (F : FunD K "_law_word" "_law_word" (defArgs s__law_word) (defBody s__law_word) (defScope s__law_word) [] [] a fd) (gm : mg "_law_word" = some (.ref a)) (B_len : mg "len" = none) (B_range : mg "range" = none) (CN__law_take : CalN false P w K mg base (G0 K mg) 1 "_law_take" m__law_take) (C__law_take : Cal P w K mg base (G0 K mg) 1 "_law_take" m__law_take) : CalN true P w K mg base (G0 K mg) 2 "_law_word" mK__law_word :=
  calN_of (m := bK__law_word) F gm sc__law_word rfl rfl (fun _ _ _ _ _ _ us hl => match us, hl with | [_, _, _], _ => rfl) fun cdv A outer s H E hr tk ow => by
  have nd := sc__law_word.nd
  exact ksn_word nd rfl rfl (ks_forN ow rfl nd rfl rfl (by rfl) (kin_range CN__law_take (hr.mono (by decide)) (by rfl) tk (ka_cons (ke_var (kpv 0)) (ka_cons (ke_addI (ke_var (kpv 2)) ke_int) ka_nil)) (by rfl) B_range) (kss_cons (ks_setG nd rfl rfl (keg_add (keg_name (i := 3) rfl rfl (by rfl)) (keg_ix (ke_var (kpv 1)) (ke_frz (ko_call C__law_take (hr.mono (by decide)) (by rfl) tk (ka_cons (ke_var (kpv 0)) (ka_cons (ke_frz (ko_b1V rfl ⟨call_len, fun _ _ _ => call_len⟩ rc_len (by rfl) B_len (by decide +kernel) (kpv 1))) ka_nil))))))) kss_nil))
theorem ok__law_word {a : Addr} {fd : FuncData} (F : FunD K "_law_word" "_law_word" (defArgs s__law_word) (defBody s__law_word) (defScope s__law_word) [] [] a fd) (gm : mg "_law_word" = some (.ref a)) (B_len : mg "len" = none) (B_range : mg "range" = none) (C__law_take : Cal P w K mg base (G0 K mg) 1 "_law_take" m__law_take) : Cal P w K mg base (G0 K mg) 2 "_law_word" m__law_word :=
  cal_of (m := b__law_word) F gm sc__law_word rfl rfl (fun _ _ _ _ _ _ us hl => match us, hl with | [_, _, _], _ => rfl) fun cdv A outer s H E hr tk ow => by
  have nd := sc__law_word.nd
  exact (dss_cons (ds_set (i := 3) nd rfl (by first | exact Or.inl rfl | exact Or.inr rfl) (do_of (de_str (by first | rfl | decide))))
  (dss_cons (ds_for ow rfl (di_range1 (by rfl) B_range (da_cons (de_frz (do_call C__law_take (hr.mono (by decide)) (by rfl) tk (da_cons (de_var (pv 0)) (da_cons (de_frz (do_bin op_addA rop_add (de_var (pv 2)) de_int)) da_nil)))) da_nil)) (dg_name (i := 4) nd rfl (by first | exact Or.inl rfl | exact Or.inr rfl)) (dss_one (ds_set (i := 3) nd rfl (by first | exact Or.inl rfl | exact Or.inr rfl) (do_bin op_addA rop_add (de_var (pv 3)) (de_ixV (pv 1) (de_frz (do_call C__law_take (hr.mono (by decide)) (by rfl) tk (da_cons (de_var (pv 0)) (da_cons (de_frz (do_b1V call_len rc_len (by rfl) B_len (by decide +kernel) (pv 1))) da_nil)))))))))
  (dss_one (ds_ret (do_var (pv 3))))))
abbrev s__law_letters : Stmt := topS 17
abbrev n__law_letters : List Str := ["_law_pile_here"]
theorem sc__law_letters : FnScope n__law_letters ["_law_pile_here"] (defScope s__law_letters) := ⟨rfl, rfl, rfl, by decide +kernel, rfl, by decide +kernel, by decide +kernel⟩
theorem ok__law_letters {a : Addr} {fd : FuncData} (F : FunD K "_law_letters" "_law_letters" (defArgs s__law_letters) (defBody s__law_letters) (defScope s__law_letters) [] [] a fd) (gm : mg "_law_letters" = some (.ref a)) (C__law_take : Cal P w K mg base (G0 K mg) 1 "_law_take" m__law_take) : Cal P w K mg base (G0 K mg) 2 "_law_letters" m__law_letters :=
  cal_of (m := b__law_letters) F gm sc__law_letters rfl rfl (fun _ _ _ _ _ _ us hl => match us, hl with | [_], _ => rfl) fun cdv A outer s H E hr tk ow => by
  have nd := sc__law_letters.nd
  exact (dss_one (ds_ret (do_of (de_ix (de_frz (do_lst (da_cons (de_str (by first | rfl | decide)) (da_cons (de_str (by first | rfl | decide)) (da_cons (de_str (by first | rfl | decide)) (da_cons (de_str (by first | rfl | decide)) (da_cons (de_str (by first | rfl | decide)) (da_cons (de_str (by first | rfl | decide)) da_nil)))))))) (de_frz (do_call C__law_take (hr.mono (by decide)) (by rfl) tk (da_cons (de_var (pv 0)) (da_cons de_int da_nil))))))))
abbrev s__law_loose : Stmt := topS 18
abbrev n__law_loose : List Str := ["_law_pile_here", "_law_letters_here", "_law_holes", "_law_most", "_law_found", "_law_k"]
theorem sc__law_loose : FnScope n__law_loose ["_law_pile_here", "_law_letters_here", "_law_holes", "_law_most"] (defScope s__law_loose) := ⟨rfl, rfl, rfl, by decide +kernel, rfl, by decide +kernel, by decide +kernel⟩
theorem ok__law_loose {a : Addr} {fd : FuncData} (F : FunD K "_law_loose" "_law_loose" (defArgs s__law_loose) (defBody s__law_loose) (defScope s__law_loose) [] [] a fd) (gm : mg "_law_loose" = some (.ref a)) (B_range : mg "range" = none) (C__law_word : Cal P w K mg base (G0 K mg) 2 "_law_word" m__law_word) : Cal P w K mg base (G0 K mg) 3 "_law_loose" m__law_loose :=
  cal_of (m := b__law_loose) F gm sc__law_loose rfl rfl (fun _ _ _ _ _ _ us hl => match us, hl with | [_, _, _, _], _ => rfl) fun cdv A outer s H E hr tk ow => by
  have nd := sc__law_loose.nd
  exact (dss_cons (ds_set (i := 4) nd rfl (by first | exact Or.inl rfl | exact Or.inr rfl) (do_call C__law_word (hr.mono (by decide)) (by rfl) tk (da_cons (de_var (pv 0)) (da_cons (de_var (pv 1)) (da_cons (de_var (pv 3)) da_nil)))))
  (dss_cons (ds_for ow rfl (di_range1 (by rfl) B_range (da_cons (de_var (pv 2)) da_nil)) (dg_name (i := 5) nd rfl (by first | exact Or.inl rfl | exact Or.inr rfl)) (dss_one (ds_set (i := 4) nd rfl (by first | exact Or.inl rfl | exact Or.inr rfl) (do_bin op_addA rop_add (de_frz (do_bin op_addA rop_add (de_var (pv 4)) (de_str (by first | rfl | decide)))) (de_frz (do_call C__law_word (hr.mono (by decide)) (by rfl) tk (da_cons (de_var (pv 0)) (da_cons (de_var (pv 1)) (da_cons (de_var (pv 3)) da_nil)))))))))
  (dss_one (ds_ret (do_var (pv 4))))))
abbrev s__law_bad_templates : Stmt := topS 19
abbrev n__law_bad_templates : List Str := []
theorem sc__law_bad_templates : FnScope n__law_bad_templates [] (defScope s__law_bad_templates) := ⟨rfl, rfl, rfl, by decide +kernel, rfl, by decide +kernel, by decide +kernel⟩
theorem ok__law_bad_templates {a : Addr} {fd : FuncData} (F : FunD K "_law_bad_templates" "_law_bad_templates" (defArgs s__law_bad_templates) (defBody s__law_bad_templates) (defScope s__law_bad_templates) [] [] a fd) (gm : mg "_law_bad_templates" = some (.ref a)) : Cal P w K mg base (G0 K mg) 1 "_law_bad_templates" m__law_bad_templates :=
  cal_of (m := b__law_bad_templates) F gm sc__law_bad_templates rfl rfl (fun _ _ _ _ _ _ us hl => match us, hl with | [], _ => rfl) fun cdv A outer s H E hr tk ow => by
  have nd := sc__law_bad_templates.nd
  exact (dss_one (ds_ret (do_lst (da_cons de_non (da_cons de_int (da_cons de_bl (da_cons (de_tup da_nil) (da_cons (de_frz (do_lst da_nil)) (da_cons (de_frz (do_lst (da_cons (de_str (by first | rfl | decide)) da_nil))) (da_cons (de_tup (da_cons (de_str (by first | rfl | decide)) (da_cons (de_str (by first | rfl | decide)) da_nil))) (da_cons (de_str (by first | rfl | decide)) (da_cons (de_str (by first | rfl | decide)) (da_cons (de_str (by first | rfl | decide)) (da_cons (de_str (by first | rfl | decide)) (da_cons (de_str (by first | rfl | decide)) (da_cons (de_str (by first | rfl | decide)) (da_cons (de_str (by first | rfl | decide)) (da_cons (de_str (by first | rfl | decide)) da_nil))))))))))))))))))
abbrev s__law_filled : Stmt := topS 20
abbrev n__law_filled : List Str := ["_law_template", "_law_word_here", "_law_found", "_law_sign"]
theorem sc__law_filled : FnScope n__law_filled ["_law_template", "_law_word_here"] (defScope s__law_filled) := ⟨rfl, rfl, rfl, by decide +kernel, rfl, by decide +kernel, by decide +kernel⟩
theorem ok__law_filled {a : Addr} {fd : FuncData} (F : FunD K "_law_filled" "_law_filled" (defArgs s__law_filled) (defBody s__law_filled) (defScope s__law_filled) [] [] a fd) (gm : mg "_law_filled" = some (.ref a)) (B_int : mg "int" = none) : Cal P w K mg base (G0 K mg) 1 "_law_filled" m__law_filled :=
  cal_of (m := b__law_filled) F gm sc__law_filled rfl rfl (fun _ _ _ _ _ _ us hl => match us, hl with | [_, _], _ => rfl) fun cdv A outer s H E hr tk ow => by
  have nd := sc__law_filled.nd
  exact (dss_cons (ds_set (i := 2) nd rfl (by first | exact Or.inl rfl | exact Or.inr rfl) (do_of (de_str (by first | rfl | decide))))
  (dss_cons (ds_for ow rfl (di_any (de_var (pv 0))) (dg_name (i := 3) nd rfl (by first | exact Or.inl rfl | exact Or.inr rfl)) (dss_one (ds_set (i := 2) nd rfl (by first | exact Or.inl rfl | exact Or.inr rfl) (do_bin op_addA rop_add (de_var (pv 2)) (de_ix (de_frz (do_lst (da_cons (de_var (pv 3)) (da_cons (de_var (pv 1)) da_nil)))) (de_frz (do_t1 call_int1 rc_int (by rfl) B_int (by decide +kernel) (de_cmp (op_eqS hr.units) rop_eqS (de_var (pv 3)) (de_str (by first | rfl | decide)) (nomark _)))))))))
  (dss_one (ds_ret (do_var (pv 2))))))
abbrev s_law : Stmt := topS 21
abbrev n_law : List Str := ["_law_script", "_law_k", "_law_pile_here", "_law_letters_here", "_law_turn", "_law_template", "_law_word_here", "_law_some", "_law_thing"]
theorem sc_law : FnScope n_law ["_law_script"] (defScope s_law) := ⟨rfl, rfl, rfl, by decide +kernel, rfl, by decide +kernel, by decide +kernel⟩
theorem ok_law {a : Addr} {fd : FuncData} (F : FunD K "law" "law" (defArgs s_law) (defBody s_law) (defScope s_law) [] [] a fd) (B_len : mg "len" = none) (B_max : mg "max" = none) (B_min : mg "min" = none) (B_range : mg "range" = none) (C_is_template : Cal P w K mg base (G0 K mg) 2 "is_template" m_is_template) (C__law_bad_templates : Cal P w K mg base (G0 K mg) 1 "_law_bad_templates" m__law_bad_templates) (C__law_take : Cal P w K mg base (G0 K mg) 1 "_law_take" m__law_take) (C__law_filled : Cal P w K mg base (G0 K mg) 1 "_law_filled" m__law_filled) (C__law_loose : Cal P w K mg base (G0 K mg) 3 "_law_loose" m__law_loose) (C__law_letters : Cal P w K mg base (G0 K mg) 2 "_law_letters" m__law_letters) (C__law_pile : Cal P w K mg base (G0 K mg) 2 "_law_pile" m__law_pile) (CN__law_word : CalN true P w K mg base (G0 K mg) 2 "_law_word" mK__law_word) (CT_fill : CalT P w K mg base (G0 K mg) 4 "fill" 1 m_fill) : FnG P w K mg base (L2.CX P w) 5 a fd ["_law_script"] (spF (G0 K mg) m_law) :=
  fnok_of (m := b_law) F sc_law rfl rfl fun cdv A outer s H E hr tk ow => by
  have nd := sc_law.nd
  exact (dss_cons (ds_for ow rfl (di_range1 (by rfl) B_range (da_cons (de_frz (do_bn (call_max2 rfl) rc_max2 (by rfl) B_max (by decide +kernel) (da_cons de_int (da_cons (de_frz (do_bn (call_min2 rfl) rc_min2 (by rfl) B_min (by decide +kernel) (da_cons (de_frz (do_b1V call_len rc_len (by rfl) B_len (by decide +kernel) (pv 0))) (da_cons de_int da_nil)))) da_nil)))) da_nil)) (dg_name (i := 1) nd rfl (by first | exact Or.inl rfl | exact Or.inr rfl)) (dss_cons (ds_set (i := 2) nd rfl (by first | exact Or.inl rfl | exact Or.inr rfl) (do_call C__law_pile (hr.mono (by decide)) (by rfl) tk (da_cons (de_var (pv 0)) (da_cons (de_var (pv 1)) da_nil))))
  (dss_cons (ds_set (i := 3) nd rfl (by first | exact Or.inl rfl | exact Or.inr rfl) (do_callR C__law_letters (hr.mono (by decide)) (by rfl) tk (pv 2) da_nil))
  (dss_one (ds_for ow rfl (di_range1 (by rfl) B_range (da_cons de_int da_nil)) (dg_name (i := 4) nd rfl (by first | exact Or.inl rfl | exact Or.inr rfl)) (dss_cons (ds_set (i := 5) nd rfl (by first | exact Or.inl rfl | exact Or.inr rfl) (do_callR C__law_loose (hr.mono (by decide)) (by rfl) tk (pv 2) (da_cons (de_var (pv 3)) (da_cons (de_frz (do_callR C__law_take (hr.mono (by decide)) (by rfl) tk (pv 2) (da_cons de_int da_nil))) (da_cons de_int da_nil)))))
  (dss_startR (ip := 2) (i := 6) CN__law_word (hr.mono (by decide)) (by rfl) tk (pv 2) (dat_cons (de_var (pv 3)) dat_int) nd rfl rfl
  (kss_cons (ks_if (kw_t (kw_or (kt_cmp rfl ⟨op_notBl, fun _ _ _ => op_notBl⟩ rop_notB (ke_frz (ko_call C_is_template (hr.mono (by decide)) (by rfl) tk (ka_cons (ke_var (kpv 5)) ka_nil))) ke_bl (nomark _)) (kw_or1 (kt_cmp rfl ⟨op_notBl, fun _ _ _ => op_notBl⟩ rop_notB (ke_frz (ko_call C_is_template (hr.mono (by decide)) (by rfl) tk (ka_cons (ke_var (kpv 6)) ka_nil))) ke_bl (nomark _))))) (kss_one (ks_ret (ko_of ke_bl))) kss_nil) (kss_one (ks_for rfl ow rfl nd rfl rfl (by rfl) (ki_list (ke_frz (ko_lst (ka_cons (ke_var (kpv 5)) (ka_cons (ke_var (kpv 6)) (ka_cons (ke_frz (ko_bin rfl ⟨op_mulA, fun _ _ _ => op_mulA⟩ rop_mul (ke_str (by first | rfl | decide)) (ke_frz (ko_callR C__law_take (hr.mono (by decide)) (by rfl) tk (kpv 2) (ka_cons ke_int ka_nil))))) (ka_cons (ke_frz (ko_bin rfl ⟨op_addA, fun _ _ _ => op_addA⟩ rop_add (ke_var (kpv 5)) (ke_var (kpv 5)))) ka_nil))))))) (kss_one (ks_if (kw_t (kw_or (kt_cmp rfl ⟨(op_neS hr.units), fun _ _ _ => (op_neS hr.units)⟩ rop_neS (ke_frz (ko_callT CT_fill (hr.mono (by decide)) (by rfl) tk (kag_cons (ke_var (kpv 7)) (kag_last (keg_name (i := 6) rfl rfl (by rfl)))))) (ke_frz (ko_call C__law_filled (hr.mono (by decide)) (by rfl) tk (ka_cons (ke_var (kpv 7)) (ka_cons (ke_var (kpv 6)) ka_nil)))) (nomark _)) (kw_or1 (kt_cmp rfl ⟨(op_neS hr.units), fun _ _ _ => (op_neS hr.units)⟩ rop_neS (ke_frz (ko_callT CT_fill (hr.mono (by decide)) (by rfl) tk (kag_cons (ke_var (kpv 7)) (kag_last (keg_str (List.cons_ne_nil _ _) (by first | rfl | decide)))))) (ke_frz (ko_call C__law_filled (hr.mono (by decide)) (by rfl) tk (ka_cons (ke_var (kpv 7)) (ka_cons (ke_str (by first | rfl | decide)) ka_nil)))) (nomark _))))) (kss_one (ks_ret (ko_of ke_bl))) kss_nil))))))))))))
  (dss_cons (ds_if (dt_cmp (op_neS hr.units) rop_neS (de_frz (do_lc (own := [("_law_thing", 8)]) { hc := rfl, hN := nd, hi := (di_any (de_frz (do_call0 C__law_bad_templates (hr.mono (by decide)) (by rfl) tk))), ok := blkOk_by (own := [("_law_thing", 8)]) (N := n_law) (sc := defScope s_law) (by decide +kernel), nd := by decide, hg := fun _ _ _ _ _ => (dgw_name (i := 8) nd rfl (by first | exact Or.inl rfl | exact Or.inr rfl)), ht := fun _ _ _ _ _ => (dts_one (dt_cmp op_notBl rop_notB (de_frz (do_call C_is_template (hr.mono (by decide)) (by rfl) takes0 (da_cons (de_var (pv 8)) da_nil))) de_bl (nomark _))), he := fun _ _ _ _ _ => (de_var (pv 8)) })) (de_frz (do_lst da_nil)) (nomark _)) (dss_one (ds_ret (do_of de_bl))) dss_nil)
  (dss_one (ds_ret (do_of (de_and (de_cmp (op_eqS hr.units) rop_eqS (de_frz (do_callTT CT_fill (hr.mono (by decide)) (by rfl) tk)) (de_str (by first | rfl | decide)) (nomark _)) (de_and (de_cmp (op_eqS hr.units) rop_eqS (de_frz (do_callTT CT_fill (hr.mono (by decide)) (by rfl) tk)) (de_str (by first | rfl | decide)) (nomark _)) (de_one (de_cmp op_isBl rop_isB (de_frz (do_call C_is_template (hr.mono (by decide)) (by rfl) tk (da_cons (de_str (by first | rfl | decide)) da_nil))) de_bl (nomark _))))))))))
end
end Pd

/-! plain laws of sets: words, roots, beginnings -/
namespace Pd
open PySem L2

def inL (w ls : List Nat) : Bool := w.all fun c => decide (c ∈ ls)
theorem sgn {w : List Nat} : ∀ d ∈ signs w, ∃ c, c ∈ w ∧ d = .str [c] := fun d hd => by
  unfold signs at hd
  obtain ⟨c, h1, h2⟩ := List.mem_map.mp hd
  exact ⟨c, h1, h2.symm⟩
theorem small_le {n : Nat} (h : n ≤ 2000000) : n ≤ sizeLine := Nat.le_trans h (by rw [sizeLine_eq]; omega)
def bitOf (f : Nat → Bool) : D → D
  | .str [c] => .bl (f c)
  | d => d
theorem filter_yes {α : Type} (l : List α) : l.filter (fun _ => true) = l := List.filter_eq_self.mpr (by simp)
theorem bools_map (f : Nat → Bool) : ∀ w : List Nat, bools ((signs w).map (bitOf f)) = some (w.map f)
  | [] => rfl
  | c :: r => by
    have ih := bools_map f r
    unfold signs at ih ⊢
    simp only [List.map_cons, bools, bitOf, ih, Option.map_some]
theorem is_of_str {w ls : List Nat} {n : Int} (h : w.length ≤ 2000000) : m_is_of [.str w, .str ls] n = .ok (.val (.bl (inL w ls))) n := by
  have k : kitB "str" "str" = some true := by decide +kernel
  have lc : kLc [2] (gN 2) tYesM (mBin (dIn false) (mVar 2) (mVar 1)) (signs w) ⟨[.val (.str w), .val (.str ls), .no], n⟩ = .ok (.own (((signs w).filter fun _ => true).map (bitOf fun c => decide (c ∈ ls)))) ⟨[.val (.str w), .val (.str ls), .no], n⟩ := by
    refine lc_one (fun _ => true) _ rfl (small_le (by unfold signs; simpa using h)) fun d hd => ?_
    obtain ⟨c, hc, rfl⟩ := sgn d hd
    left
    refine ⟨rfl, rfl, ?_⟩
    simp [e_var, e_kVarV, e_kVarO, e_oVar, e_kVoV, e_kVoO, eC, e_bin, e_kBin, e_kBin2, e_oBin, e_kOBin, e_kOBin2, e_good1v, e_good1o, e_test, e_kTest, e_and, e_or, e_not, e_kAndT, e_kAndF, e_kOrT, e_kOrF, e_kNot, e_eand, e_eor, e_enot, e_kEAndT, e_kEAndF, e_kEOrT, e_kEOrF, e_kENot, e_ifE, e_kIfET, e_kIfEF, e_oV, e_kOV, e_eF, e_frzv, e_frzo, e_neg, e_kNeg, e_nil, e_cons, e_kCons, e_kCons2, e_oB1, e_kB1, e_b1V, e_kB1V, e_kGetV, e_kGetO, e_oBn, e_kBn, e_ixV, e_kIxV, e_ixAt, e_kAtS, e_kAtL, e_kAtT, e_kAtK, e_kAtP, e_pSome, e_kSome, e_pNone, e_oSl, e_kSl, e_kSl2, e_kSl3, e_oLst, e_kOL, e_tup, e_kTup, e_call, e_res, e_kResV, e_kResO, e_kResX, e_cP, e_kCP, e_cQ, e_kCQ, e_outRV, e_outRO, e_seq, e_kSeqN, e_kSeqR, e_kSeqB, e_kSeqC, e_kSeqX, e_next, e_set, e_kSet, e_good, e_kGoodV, e_kGoodO, e_kGoodX, e_asg, e_kAsg, e_rsof, e_gN, e_par, e_kPar, e_ret, e_kRet, e_drop, e_kDrop, e_if, e_kIfT, e_kIfF, e_raise, e_for, e_kFor, e_itA, e_kItA, e_itR1, e_itR2, e_kP, e_pileSet, e_kP0, e_app', e_kA0, e_kApp', e_kA1, for_nil, e_kLoopN, e_kLoopC, e_kLoopB, e_kLoopR, e_kWhN, e_kWhC, e_kWhB, e_kWhR, e_oLc, e_yes, e_bok, e_bexc, e_bsok, e_bsexc, e_ofs, e_obs, e_oms, out_rt, out_nx, List.set_cons_zero, List.set_cons_succ, List.getElem?_cons_zero, List.getElem?_cons_succ, List.map_cons, List.map_nil, List.length_cons, List.length_nil, List.cons_append, List.nil_append, Nat.reduceAdd, Nat.reduceLeDiff, Nat.zero_add, Nat.reduceLT, e_ins, e_kI0, e_kIns, e_ext, e_kE0, e_kExt, e_kE1, e_newD, e_dput, e_kPut0, e_kD0, e_kPutS, e_kPutI, e_kD1, e_itKy, e_kKy, e_kGoodD, e_aug, e_kAg, e_kAug, e_kAg1, e_itZ, e_kZL, e_kZT, e_isiT, e_kT1, e_kT2, e_rgA, e_kG1, e_rev, e_kRev, e_gT, e_gsCons, e_kGs, e_gsNil, e_lc2, e_eqS, e_neS, e_ltP, dIn, bitOf]
  unfold m_is_of
  refine (mk_ev (by rfl)).trans ?_
  show outF (b_is_of ⟨[.val (.str w), .val (.str ls), .no], n⟩) = _
  unfold b_is_of
  simp only [e_var, e_kVarV, e_kVarO, e_oVar, e_kVoV, e_kVoO, eC, e_bin, e_kBin, e_kBin2, e_oBin, e_kOBin, e_kOBin2, e_good1v, e_good1o, e_test, e_kTest, e_and, e_or, e_not, e_kAndT, e_kAndF, e_kOrT, e_kOrF, e_kNot, e_eand, e_eor, e_enot, e_kEAndT, e_kEAndF, e_kEOrT, e_kEOrF, e_kENot, e_ifE, e_kIfET, e_kIfEF, e_oV, e_kOV, e_eF, e_frzv, e_frzo, e_neg, e_kNeg, e_nil, e_cons, e_kCons, e_kCons2, e_oB1, e_kB1, e_b1V, e_kB1V, e_kGetV, e_kGetO, e_oBn, e_kBn, e_ixV, e_kIxV, e_ixAt, e_kAtS, e_kAtL, e_kAtT, e_kAtK, e_kAtP, e_pSome, e_kSome, e_pNone, e_oSl, e_kSl, e_kSl2, e_kSl3, e_oLst, e_kOL, e_tup, e_kTup, e_call, e_res, e_kResV, e_kResO, e_kResX, e_cP, e_kCP, e_cQ, e_kCQ, e_outRV, e_outRO, e_seq, e_kSeqN, e_kSeqR, e_kSeqB, e_kSeqC, e_kSeqX, e_next, e_set, e_kSet, e_good, e_kGoodV, e_kGoodO, e_kGoodX, e_asg, e_kAsg, e_rsof, e_gN, e_par, e_kPar, e_ret, e_kRet, e_drop, e_kDrop, e_if, e_kIfT, e_kIfF, e_raise, e_for, e_kFor, e_itA, e_kItA, e_itR1, e_itR2, e_kP, e_pileSet, e_kP0, e_app', e_kA0, e_kApp', e_kA1, for_nil, e_kLoopN, e_kLoopC, e_kLoopB, e_kLoopR, e_kWhN, e_kWhC, e_kWhB, e_kWhR, e_oLc, e_yes, e_bok, e_bexc, e_bsok, e_bsexc, e_ofs, e_obs, e_oms, out_rt, out_nx, List.set_cons_zero, List.set_cons_succ, List.getElem?_cons_zero, List.getElem?_cons_succ, List.map_cons, List.map_nil, List.length_cons, List.length_nil, List.cons_append, List.nil_append, Nat.reduceAdd, Nat.reduceLeDiff, Nat.zero_add, Nat.reduceLT, e_ins, e_kI0, e_kIns, e_ext, e_kE0, e_kExt, e_kE1, e_newD, e_dput, e_kPut0, e_kD0, e_kPutS, e_kPutI, e_kD1, e_itKy, e_kKy, e_kGoodD, e_aug, e_kAg, e_kAug, e_kAg1, e_itZ, e_kZL, e_kZT, e_isiT, e_kT1, e_kT2, e_rgA, e_kG1, e_rev, e_kRev, e_gT, e_gsCons, e_kGs, e_gsNil, e_lc2, e_eqS, e_neS, e_ltP, dIsi, tyName, k, items, lc, dAll, filter_yes, bools_map, List.all_map, inL]
  rfl
theorem is_of_not {d : D} {t : String} {ls : List Nat} {n : Int} (ht : tyName d = some t) (k : kitB t "str" = some false) : m_is_of [d, .str ls] n = .ok (.val (.bl false)) n := by
  unfold m_is_of
  refine (mk_ev (by rfl)).trans ?_
  show outF (b_is_of ⟨[.val d, .val (.str ls), .no], n⟩) = _
  unfold b_is_of
  simp only [e_var, e_kVarV, e_kVarO, e_oVar, e_kVoV, e_kVoO, eC, e_bin, e_kBin, e_kBin2, e_oBin, e_kOBin, e_kOBin2, e_good1v, e_good1o, e_test, e_kTest, e_and, e_or, e_not, e_kAndT, e_kAndF, e_kOrT, e_kOrF, e_kNot, e_eand, e_eor, e_enot, e_kEAndT, e_kEAndF, e_kEOrT, e_kEOrF, e_kENot, e_ifE, e_kIfET, e_kIfEF, e_oV, e_kOV, e_eF, e_frzv, e_frzo, e_neg, e_kNeg, e_nil, e_cons, e_kCons, e_kCons2, e_oB1, e_kB1, e_b1V, e_kB1V, e_kGetV, e_kGetO, e_oBn, e_kBn, e_ixV, e_kIxV, e_ixAt, e_kAtS, e_kAtL, e_kAtT, e_kAtK, e_kAtP, e_pSome, e_kSome, e_pNone, e_oSl, e_kSl, e_kSl2, e_kSl3, e_oLst, e_kOL, e_tup, e_kTup, e_call, e_res, e_kResV, e_kResO, e_kResX, e_cP, e_kCP, e_cQ, e_kCQ, e_outRV, e_outRO, e_seq, e_kSeqN, e_kSeqR, e_kSeqB, e_kSeqC, e_kSeqX, e_next, e_set, e_kSet, e_good, e_kGoodV, e_kGoodO, e_kGoodX, e_asg, e_kAsg, e_rsof, e_gN, e_par, e_kPar, e_ret, e_kRet, e_drop, e_kDrop, e_if, e_kIfT, e_kIfF, e_raise, e_for, e_kFor, e_itA, e_kItA, e_itR1, e_itR2, e_kP, e_pileSet, e_kP0, e_app', e_kA0, e_kApp', e_kA1, for_nil, e_kLoopN, e_kLoopC, e_kLoopB, e_kLoopR, e_kWhN, e_kWhC, e_kWhB, e_kWhR, e_oLc, e_yes, e_bok, e_bexc, e_bsok, e_bsexc, e_ofs, e_obs, e_oms, out_rt, out_nx, List.set_cons_zero, List.set_cons_succ, List.getElem?_cons_zero, List.getElem?_cons_succ, List.map_cons, List.map_nil, List.length_cons, List.length_nil, List.cons_append, List.nil_append, Nat.reduceAdd, Nat.reduceLeDiff, Nat.zero_add, Nat.reduceLT, e_ins, e_kI0, e_kIns, e_ext, e_kE0, e_kExt, e_kE1, e_newD, e_dput, e_kPut0, e_kD0, e_kPutS, e_kPutI, e_kD1, e_itKy, e_kKy, e_kGoodD, e_aug, e_kAg, e_kAug, e_kAg1, e_itZ, e_kZL, e_kZT, e_isiT, e_kT1, e_kT2, e_rgA, e_kG1, e_rev, e_kRev, e_gT, e_gsCons, e_kGs, e_gsNil, e_lc2, e_eqS, e_neS, e_ltP, dIsi, ht, k]
abbrev isL (w : List Nat) : Bool := inL w k_LETTERS
theorem is_word_str {w : List Nat} {n : Int} (h : w.length ≤ 2000000) : m_is_word [.str w] n = .ok (.val (.bl (isL w))) n := by
  unfold m_is_word
  refine (mk_ev (by rfl)).trans ?_
  show outF (b_is_word ⟨[.val (.str w)], n⟩) = _
  unfold b_is_word
  simp only [e_var, e_kVarV, e_kVarO, e_oVar, e_kVoV, e_kVoO, eC, e_bin, e_kBin, e_kBin2, e_oBin, e_kOBin, e_kOBin2, e_good1v, e_good1o, e_test, e_kTest, e_and, e_or, e_not, e_kAndT, e_kAndF, e_kOrT, e_kOrF, e_kNot, e_eand, e_eor, e_enot, e_kEAndT, e_kEAndF, e_kEOrT, e_kEOrF, e_kENot, e_ifE, e_kIfET, e_kIfEF, e_oV, e_kOV, e_eF, e_frzv, e_frzo, e_neg, e_kNeg, e_nil, e_cons, e_kCons, e_kCons2, e_oB1, e_kB1, e_b1V, e_kB1V, e_kGetV, e_kGetO, e_oBn, e_kBn, e_ixV, e_kIxV, e_ixAt, e_kAtS, e_kAtL, e_kAtT, e_kAtK, e_kAtP, e_pSome, e_kSome, e_pNone, e_oSl, e_kSl, e_kSl2, e_kSl3, e_oLst, e_kOL, e_tup, e_kTup, e_call, e_res, e_kResV, e_kResO, e_kResX, e_cP, e_kCP, e_cQ, e_kCQ, e_outRV, e_outRO, e_seq, e_kSeqN, e_kSeqR, e_kSeqB, e_kSeqC, e_kSeqX, e_next, e_set, e_kSet, e_good, e_kGoodV, e_kGoodO, e_kGoodX, e_asg, e_kAsg, e_rsof, e_gN, e_par, e_kPar, e_ret, e_kRet, e_drop, e_kDrop, e_if, e_kIfT, e_kIfF, e_raise, e_for, e_kFor, e_itA, e_kItA, e_itR1, e_itR2, e_kP, e_pileSet, e_kP0, e_app', e_kA0, e_kApp', e_kA1, for_nil, e_kLoopN, e_kLoopC, e_kLoopB, e_kLoopR, e_kWhN, e_kWhC, e_kWhB, e_kWhR, e_oLc, e_yes, e_bok, e_bexc, e_bsok, e_bsexc, e_ofs, e_obs, e_oms, out_rt, out_nx, List.set_cons_zero, List.set_cons_succ, List.getElem?_cons_zero, List.getElem?_cons_succ, List.map_cons, List.map_nil, List.length_cons, List.length_nil, List.cons_append, List.nil_append, Nat.reduceAdd, Nat.reduceLeDiff, Nat.zero_add, Nat.reduceLT, e_ins, e_kI0, e_kIns, e_ext, e_kE0, e_kExt, e_kE1, e_newD, e_dput, e_kPut0, e_kD0, e_kPutS, e_kPutI, e_kD1, e_itKy, e_kKy, e_kGoodD, e_aug, e_kAg, e_kAug, e_kAg1, e_itZ, e_kZL, e_kZT, e_isiT, e_kT1, e_kT2, e_rgA, e_kG1, e_rev, e_kRev, e_gT, e_gsCons, e_kGs, e_gsNil, e_lc2, e_eqS, e_neS, e_ltP, is_of_str h]
theorem is_word_not {d : D} {t : String} {n : Int} (ht : tyName d = some t) (k : kitB t "str" = some false) : m_is_word [d] n = .ok (.val (.bl false)) n := by
  unfold m_is_word
  refine (mk_ev (by rfl)).trans ?_
  show outF (b_is_word ⟨[.val d], n⟩) = _
  unfold b_is_word
  simp only [e_var, e_kVarV, e_kVarO, e_oVar, e_kVoV, e_kVoO, eC, e_bin, e_kBin, e_kBin2, e_oBin, e_kOBin, e_kOBin2, e_good1v, e_good1o, e_test, e_kTest, e_and, e_or, e_not, e_kAndT, e_kAndF, e_kOrT, e_kOrF, e_kNot, e_eand, e_eor, e_enot, e_kEAndT, e_kEAndF, e_kEOrT, e_kEOrF, e_kENot, e_ifE, e_kIfET, e_kIfEF, e_oV, e_kOV, e_eF, e_frzv, e_frzo, e_neg, e_kNeg, e_nil, e_cons, e_kCons, e_kCons2, e_oB1, e_kB1, e_b1V, e_kB1V, e_kGetV, e_kGetO, e_oBn, e_kBn, e_ixV, e_kIxV, e_ixAt, e_kAtS, e_kAtL, e_kAtT, e_kAtK, e_kAtP, e_pSome, e_kSome, e_pNone, e_oSl, e_kSl, e_kSl2, e_kSl3, e_oLst, e_kOL, e_tup, e_kTup, e_call, e_res, e_kResV, e_kResO, e_kResX, e_cP, e_kCP, e_cQ, e_kCQ, e_outRV, e_outRO, e_seq, e_kSeqN, e_kSeqR, e_kSeqB, e_kSeqC, e_kSeqX, e_next, e_set, e_kSet, e_good, e_kGoodV, e_kGoodO, e_kGoodX, e_asg, e_kAsg, e_rsof, e_gN, e_par, e_kPar, e_ret, e_kRet, e_drop, e_kDrop, e_if, e_kIfT, e_kIfF, e_raise, e_for, e_kFor, e_itA, e_kItA, e_itR1, e_itR2, e_kP, e_pileSet, e_kP0, e_app', e_kA0, e_kApp', e_kA1, for_nil, e_kLoopN, e_kLoopC, e_kLoopB, e_kLoopR, e_kWhN, e_kWhC, e_kWhB, e_kWhR, e_oLc, e_yes, e_bok, e_bexc, e_bsok, e_bsexc, e_ofs, e_obs, e_oms, out_rt, out_nx, List.set_cons_zero, List.set_cons_succ, List.getElem?_cons_zero, List.getElem?_cons_succ, List.map_cons, List.map_nil, List.length_cons, List.length_nil, List.cons_append, List.nil_append, Nat.reduceAdd, Nat.reduceLeDiff, Nat.zero_add, Nat.reduceLT, e_ins, e_kI0, e_kIns, e_ext, e_kE0, e_kExt, e_kE1, e_newD, e_dput, e_kPut0, e_kD0, e_kPutS, e_kPutI, e_kD1, e_itKy, e_kKy, e_kGoodD, e_aug, e_kAg, e_kAug, e_kAg1, e_itZ, e_kZL, e_kZT, e_isiT, e_kT1, e_kT2, e_rgA, e_kG1, e_rev, e_kRev, e_gT, e_gsCons, e_kGs, e_gsNil, e_lc2, e_eqS, e_neS, e_ltP, is_of_not ht k]
theorem okS_of {w : List Nat} (h : isL w = true) : okS w = true := by
  unfold isL inL at h
  unfold okS
  rw [List.all_eq_true] at h ⊢
  intro c hc
  have h1 := of_decide_eq_true (h c hc)
  have : ∀ c ∈ k_LETTERS, c < 1114112 := by decide
  exact decide_eq_true (this c h1)
/-- a word of letters, not empty, not long -/
structure Wd (w : List Nat) : Prop where
  l : isL w = true
  n : w ≠ []
  s : w.length ≤ 2000000
theorem look_word {w : List Nat} {n : Int} (h : Wd w) : m_look_at_word [.str w] n = .ok (.val .non) n := by
  unfold m_look_at_word
  refine (mk_ev (by rfl)).trans ?_
  show outF (b_look_at_word ⟨[.val (.str w)], n⟩) = _
  unfold b_look_at_word
  simp only [e_var, e_kVarV, e_kVarO, e_oVar, e_kVoV, e_kVoO, eC, e_bin, e_kBin, e_kBin2, e_oBin, e_kOBin, e_kOBin2, e_good1v, e_good1o, e_test, e_kTest, e_and, e_or, e_not, e_kAndT, e_kAndF, e_kOrT, e_kOrF, e_kNot, e_eand, e_eor, e_enot, e_kEAndT, e_kEAndF, e_kEOrT, e_kEOrF, e_kENot, e_ifE, e_kIfET, e_kIfEF, e_oV, e_kOV, e_eF, e_frzv, e_frzo, e_neg, e_kNeg, e_nil, e_cons, e_kCons, e_kCons2, e_oB1, e_kB1, e_b1V, e_kB1V, e_kGetV, e_kGetO, e_oBn, e_kBn, e_ixV, e_kIxV, e_ixAt, e_kAtS, e_kAtL, e_kAtT, e_kAtK, e_kAtP, e_pSome, e_kSome, e_pNone, e_oSl, e_kSl, e_kSl2, e_kSl3, e_oLst, e_kOL, e_tup, e_kTup, e_call, e_res, e_kResV, e_kResO, e_kResX, e_cP, e_kCP, e_cQ, e_kCQ, e_outRV, e_outRO, e_seq, e_kSeqN, e_kSeqR, e_kSeqB, e_kSeqC, e_kSeqX, e_next, e_set, e_kSet, e_good, e_kGoodV, e_kGoodO, e_kGoodX, e_asg, e_kAsg, e_rsof, e_gN, e_par, e_kPar, e_ret, e_kRet, e_drop, e_kDrop, e_if, e_kIfT, e_kIfF, e_raise, e_for, e_kFor, e_itA, e_kItA, e_itR1, e_itR2, e_kP, e_pileSet, e_kP0, e_app', e_kA0, e_kApp', e_kA1, for_nil, e_kLoopN, e_kLoopC, e_kLoopB, e_kLoopR, e_kWhN, e_kWhC, e_kWhB, e_kWhR, e_oLc, e_yes, e_bok, e_bexc, e_bsok, e_bsexc, e_ofs, e_obs, e_oms, out_rt, out_nx, List.set_cons_zero, List.set_cons_succ, List.getElem?_cons_zero, List.getElem?_cons_succ, List.map_cons, List.map_nil, List.length_cons, List.length_nil, List.cons_append, List.nil_append, Nat.reduceAdd, Nat.reduceLeDiff, Nat.zero_add, Nat.reduceLT, e_ins, e_kI0, e_kIns, e_ext, e_kE0, e_kExt, e_kE1, e_newD, e_dput, e_kPut0, e_kD0, e_kPutS, e_kPutI, e_kD1, e_itKy, e_kKy, e_kGoodD, e_aug, e_kAg, e_kAug, e_kAg1, e_itZ, e_kZL, e_kZT, e_isiT, e_kT1, e_kT2, e_rgA, e_kG1, e_rev, e_kRev, e_gT, e_gsCons, e_kGs, e_gsNil, e_lc2, e_eqS, e_neS, e_ltP, is_word_str h.s, h.l, Bool.not_true]
theorem inL_take {w ls : List Nat} {k : Nat} (h : inL w ls = true) : inL (w.take k) ls = true := by
  unfold inL at h ⊢
  rw [List.all_eq_true] at h ⊢
  exact fun c hc => h c (List.mem_of_mem_take hc)
theorem inL_app {w v ls : List Nat} (h : inL w ls = true) (h' : inL v ls = true) : inL (w ++ v) ls = true := by
  unfold inL at h h' ⊢
  rw [List.all_append, h, h']; rfl
theorem inL_rep {w ls : List Nat} (h : inL w ls = true) : ∀ k, inL (repS k w) ls = true
  | 0 => rfl
  | k + 1 => by rw [repS_succ]; exact inL_app h (inL_rep h k)
theorem inL_beg {w ls : List Nat} (h : inL w ls = true) (hw : w ≠ []) (n : Nat) : inL (beg w n) ls = true := by
  have hl : 0 < w.length := List.length_pos_iff.mpr hw
  have : beg w n = (repS (n / w.length + 1) w).take n := by
    rw [repS_beg, beg_take]
    rw [Nat.add_mul, Nat.one_mul]
    have := Nat.div_add_mod n w.length
    have h2 := Nat.mod_lt n hl
    rw [Nat.mul_comm] at this
    omega
  rw [this]
  exact inL_take (inL_rep h _)
theorem beg_is {w : List Nat} (hw : w ≠ []) (n : Nat) : (repS (n / w.length + 1) w).take n = beg w n := by
  have hl : 0 < w.length := List.length_pos_iff.mpr hw
  rw [repS_beg, beg_take]
  rw [Nat.add_mul, Nat.one_mul]
  have := Nat.div_add_mod n w.length
  have h2 := Nat.mod_lt n hl
  rw [Nat.mul_comm] at this
  omega
theorem div_len {w : List Nat} (hw : w ≠ []) (n : Nat) : w.length * (n / w.length + 1) ≤ n + w.length := by
  rw [Nat.mul_add, Nat.mul_one]
  have := Nat.div_add_mod n w.length
  omega
theorem mod_i (a b : Nat) : ((a : Int) % (b : Int)) = ((a % b : Nat) : Int) := by simp
theorem div_i (a b : Nat) : ((a : Int) / (b : Int)) = ((a / b : Nat) : Int) := by simp
theorem add_i (a b : Nat) : ((a : Int) + (b : Int)) = ((a + b : Nat) : Int) := by simp
theorem dec_i (a b : Nat) : decide ((a : Int) = (b : Int)) = decide (a = b) := by
  by_cases h : a = b
  · simp [h]
  · rw [decide_eq_false h, decide_eq_false (by omega)]
theorem e_add1 (a : Nat) : ((a : Int) + 1) = ((a + 1 : Nat) : Int) := by simp
theorem d_len {w : List Nat} (h : w.length ≤ 2000000) : dLen (.str w) = some (.val (.int (w.length : Int))) := if_pos (small_le h)
theorem d_mul {w : List Nat} {k : Nat} (hk : k ≤ 4000000) (h : w.length ≤ 4000000) (h' : w.length * k ≤ 4000000) : dMul (.str w) (.int (k : Int)) = some (.val (.str (repS k w))) := by
  have e := sizeLine_eq
  simp only [dMul]
  rw [if_pos ⟨by omega, by omega, by omega, by rw [Int.toNat_natCast]; omega⟩, Int.toNat_natCast]
theorem d_sl {w : List Nat} {k : Nat} (h : w.length ≤ 4000000) (hk : k ≤ w.length) : dSl (.str w) none (some (k : Int)) = some (.val (.str (w.take k))) := by
  have : dSl (.str w) none (some (k : Int)) = some (.val (.str (cutD w none (some (k : Int))))) := if_pos (by have e := sizeLine_eq; omega)
  rw [this, cut_to hk]
theorem d_mod {a b : Nat} (h : 0 < b) : dMod (.int (a : Int)) (.int (b : Int)) = some (.int ((a % b : Nat) : Int)) := by
  unfold dMod dI
  rw [← mod_i]
  exact if_pos (decide_eq_true (by omega))
theorem d_div {a b : Nat} (h : 0 < b) (h' : b ≤ 4000000) : dDiv (.int (a : Int)) (.int (b : Int)) = some (.int ((a / b : Nat) : Int)) := by
  unfold dDiv dI
  rw [← div_i]
  exact if_pos (decide_eq_true ⟨by omega, by omega⟩)
theorem d_add {a b : Nat} : dAdd (.int (a : Int)) (.int (b : Int)) = some (.val (.int ((a + b : Nat) : Int))) := by
  show some (SV.val (.int ((a : Int) + (b : Int)))) = _
  rw [add_i]
theorem d_add1 {a : Nat} : dAdd (.int (a : Int)) (.int 1) = some (.val (.int ((a + 1 : Nat) : Int))) := d_add (b := 1)
theorem d_adds {w v : List Nat} (h : w.length + v.length ≤ 4000000) : dAdd (.str w) (.str v) = some (.val (.str (w ++ v))) := if_pos (by have e := sizeLine_eq; omega)
theorem d_eq0 {a : Nat} : dEqvS (.int (a : Int)) (.int 0) = some (.bl (decide (a = 0))) := by
  rw [e_eqI]
  exact congrArg (fun b => some (D.bl b)) (dec_i a 0)

/-! ### the root -/
def rootBody : SM := (mIfS (mAnd (mTest (mBin dEqvS (mBin dMod (eF (oB1V dLen 0)) (mVar 1)) (mC (.int 0)))) (mTest (mBin dEqvS (eF (oBin dMul (eF (oSl (mVar 0) pNone (pSome (mVar 1)))) (mBin dDiv (eF (oB1V dLen 0)) (mVar 1)))) (mVar 0)))) (mRet (oSl (mVar 0) pNone (pSome (mVar 1)))) mNext)
theorem root_body {w : List Nat} {j : Nat} {n : Int} (h : Wd w) (hj : 0 < j) (hj' : j ≤ w.length) : rootBody ⟨[.val (.str w), .val (.int (j : Int))], n⟩ =
    if isRep w j = true then .rt (.val (.str (w.take j))) ⟨[.val (.str w), .val (.int (j : Int))], n⟩ else .nx ⟨[.val (.str w), .val (.int (j : Int))], n⟩ := by
  have hs := h.s
  have hd : w.length / j ≤ w.length := Nat.div_le_self _ _
  have hm : j * (w.length / j) ≤ w.length := Nat.mul_div_le _ _
  have e1 : dSl (.str w) none (some (j : Int)) = _ := d_sl (by omega) hj'
  have ht : (w.take j).length = j := by rw [List.length_take]; omega
  have e2 : dMul (.str (w.take j)) (.int ((w.length / j : Nat) : Int)) = _ := d_mul (by omega) (by omega) (by rw [ht]; omega)
  have e3 := e_eqS (a := repS (w.length / j) (w.take j)) (b := w)
  unfold rootBody isRep
  by_cases q1 : w.length % j = 0
  · by_cases q2 : repS (w.length / j) (w.take j) = w
    · simp only [e_var, e_kVarV, e_kVarO, e_oVar, e_kVoV, e_kVoO, eC, e_bin, e_kBin, e_kBin2, e_oBin, e_kOBin, e_kOBin2, e_good1v, e_good1o, e_test, e_kTest, e_and, e_or, e_not, e_kAndT, e_kAndF, e_kOrT, e_kOrF, e_kNot, e_eand, e_eor, e_enot, e_kEAndT, e_kEAndF, e_kEOrT, e_kEOrF, e_kENot, e_ifE, e_kIfET, e_kIfEF, e_oV, e_kOV, e_eF, e_frzv, e_frzo, e_neg, e_kNeg, e_nil, e_cons, e_kCons, e_kCons2, e_oB1, e_kB1, e_b1V, e_kB1V, e_kGetV, e_kGetO, e_oBn, e_kBn, e_ixV, e_kIxV, e_ixAt, e_kAtS, e_kAtL, e_kAtT, e_kAtK, e_kAtP, e_pSome, e_kSome, e_pNone, e_oSl, e_kSl, e_kSl2, e_kSl3, e_oLst, e_kOL, e_tup, e_kTup, e_call, e_res, e_kResV, e_kResO, e_kResX, e_cP, e_kCP, e_cQ, e_kCQ, e_outRV, e_outRO, e_seq, e_kSeqN, e_kSeqR, e_kSeqB, e_kSeqC, e_kSeqX, e_next, e_set, e_kSet, e_good, e_kGoodV, e_kGoodO, e_kGoodX, e_asg, e_kAsg, e_rsof, e_gN, e_par, e_kPar, e_ret, e_kRet, e_drop, e_kDrop, e_if, e_kIfT, e_kIfF, e_raise, e_for, e_kFor, e_itA, e_kItA, e_itR1, e_itR2, e_kP, e_pileSet, e_kP0, e_app', e_kA0, e_kApp', e_kA1, for_nil, e_kLoopN, e_kLoopC, e_kLoopB, e_kLoopR, e_kWhN, e_kWhC, e_kWhB, e_kWhR, e_oLc, e_yes, e_bok, e_bexc, e_bsok, e_bsexc, e_ofs, e_obs, e_oms, out_rt, out_nx, List.set_cons_zero, List.set_cons_succ, List.getElem?_cons_zero, List.getElem?_cons_succ, List.map_cons, List.map_nil, List.length_cons, List.length_nil, List.cons_append, List.nil_append, Nat.reduceAdd, Nat.reduceLeDiff, Nat.zero_add, Nat.reduceLT, e_ins, e_kI0, e_kIns, e_ext, e_kE0, e_kExt, e_kE1, e_newD, e_dput, e_kPut0, e_kD0, e_kPutS, e_kPutI, e_kD1, e_itKy, e_kKy, e_kGoodD, e_aug, e_kAg, e_kAug, e_kAg1, e_itZ, e_kZL, e_kZT, e_isiT, e_kT1, e_kT2, e_rgA, e_kG1, e_rev, e_kRev, e_gT, e_gsCons, e_kGs, e_gsNil, e_lc2, e_eqS, e_neS, e_ltP, d_len hs, d_mod hj, d_eq0, decide_eq_true q1, d_div hj (show j ≤ 4000000 by omega), e1, e2, e3, decide_eq_true q2, Bool.and_self, if_pos]
    · simp only [e_var, e_kVarV, e_kVarO, e_oVar, e_kVoV, e_kVoO, eC, e_bin, e_kBin, e_kBin2, e_oBin, e_kOBin, e_kOBin2, e_good1v, e_good1o, e_test, e_kTest, e_and, e_or, e_not, e_kAndT, e_kAndF, e_kOrT, e_kOrF, e_kNot, e_eand, e_eor, e_enot, e_kEAndT, e_kEAndF, e_kEOrT, e_kEOrF, e_kENot, e_ifE, e_kIfET, e_kIfEF, e_oV, e_kOV, e_eF, e_frzv, e_frzo, e_neg, e_kNeg, e_nil, e_cons, e_kCons, e_kCons2, e_oB1, e_kB1, e_b1V, e_kB1V, e_kGetV, e_kGetO, e_oBn, e_kBn, e_ixV, e_kIxV, e_ixAt, e_kAtS, e_kAtL, e_kAtT, e_kAtK, e_kAtP, e_pSome, e_kSome, e_pNone, e_oSl, e_kSl, e_kSl2, e_kSl3, e_oLst, e_kOL, e_tup, e_kTup, e_call, e_res, e_kResV, e_kResO, e_kResX, e_cP, e_kCP, e_cQ, e_kCQ, e_outRV, e_outRO, e_seq, e_kSeqN, e_kSeqR, e_kSeqB, e_kSeqC, e_kSeqX, e_next, e_set, e_kSet, e_good, e_kGoodV, e_kGoodO, e_kGoodX, e_asg, e_kAsg, e_rsof, e_gN, e_par, e_kPar, e_ret, e_kRet, e_drop, e_kDrop, e_if, e_kIfT, e_kIfF, e_raise, e_for, e_kFor, e_itA, e_kItA, e_itR1, e_itR2, e_kP, e_pileSet, e_kP0, e_app', e_kA0, e_kApp', e_kA1, for_nil, e_kLoopN, e_kLoopC, e_kLoopB, e_kLoopR, e_kWhN, e_kWhC, e_kWhB, e_kWhR, e_oLc, e_yes, e_bok, e_bexc, e_bsok, e_bsexc, e_ofs, e_obs, e_oms, out_rt, out_nx, List.set_cons_zero, List.set_cons_succ, List.getElem?_cons_zero, List.getElem?_cons_succ, List.map_cons, List.map_nil, List.length_cons, List.length_nil, List.cons_append, List.nil_append, Nat.reduceAdd, Nat.reduceLeDiff, Nat.zero_add, Nat.reduceLT, e_ins, e_kI0, e_kIns, e_ext, e_kE0, e_kExt, e_kE1, e_newD, e_dput, e_kPut0, e_kD0, e_kPutS, e_kPutI, e_kD1, e_itKy, e_kKy, e_kGoodD, e_aug, e_kAg, e_kAug, e_kAg1, e_itZ, e_kZL, e_kZT, e_isiT, e_kT1, e_kT2, e_rgA, e_kG1, e_rev, e_kRev, e_gT, e_gsCons, e_kGs, e_gsNil, e_lc2, e_eqS, e_neS, e_ltP, d_len hs, d_mod hj, d_eq0, decide_eq_true q1, d_div hj (show j ≤ 4000000 by omega), e1, e2, e3, decide_eq_false q2, Bool.and_false, if_neg Bool.false_ne_true]
  · simp only [e_var, e_kVarV, e_kVarO, e_oVar, e_kVoV, e_kVoO, eC, e_bin, e_kBin, e_kBin2, e_oBin, e_kOBin, e_kOBin2, e_good1v, e_good1o, e_test, e_kTest, e_and, e_or, e_not, e_kAndT, e_kAndF, e_kOrT, e_kOrF, e_kNot, e_eand, e_eor, e_enot, e_kEAndT, e_kEAndF, e_kEOrT, e_kEOrF, e_kENot, e_ifE, e_kIfET, e_kIfEF, e_oV, e_kOV, e_eF, e_frzv, e_frzo, e_neg, e_kNeg, e_nil, e_cons, e_kCons, e_kCons2, e_oB1, e_kB1, e_b1V, e_kB1V, e_kGetV, e_kGetO, e_oBn, e_kBn, e_ixV, e_kIxV, e_ixAt, e_kAtS, e_kAtL, e_kAtT, e_kAtK, e_kAtP, e_pSome, e_kSome, e_pNone, e_oSl, e_kSl, e_kSl2, e_kSl3, e_oLst, e_kOL, e_tup, e_kTup, e_call, e_res, e_kResV, e_kResO, e_kResX, e_cP, e_kCP, e_cQ, e_kCQ, e_outRV, e_outRO, e_seq, e_kSeqN, e_kSeqR, e_kSeqB, e_kSeqC, e_kSeqX, e_next, e_set, e_kSet, e_good, e_kGoodV, e_kGoodO, e_kGoodX, e_asg, e_kAsg, e_rsof, e_gN, e_par, e_kPar, e_ret, e_kRet, e_drop, e_kDrop, e_if, e_kIfT, e_kIfF, e_raise, e_for, e_kFor, e_itA, e_kItA, e_itR1, e_itR2, e_kP, e_pileSet, e_kP0, e_app', e_kA0, e_kApp', e_kA1, for_nil, e_kLoopN, e_kLoopC, e_kLoopB, e_kLoopR, e_kWhN, e_kWhC, e_kWhB, e_kWhR, e_oLc, e_yes, e_bok, e_bexc, e_bsok, e_bsexc, e_ofs, e_obs, e_oms, out_rt, out_nx, List.set_cons_zero, List.set_cons_succ, List.getElem?_cons_zero, List.getElem?_cons_succ, List.map_cons, List.map_nil, List.length_cons, List.length_nil, List.cons_append, List.nil_append, Nat.reduceAdd, Nat.reduceLeDiff, Nat.zero_add, Nat.reduceLT, e_ins, e_kI0, e_kIns, e_ext, e_kE0, e_kExt, e_kE1, e_newD, e_dput, e_kPut0, e_kD0, e_kPutS, e_kPutI, e_kD1, e_itKy, e_kKy, e_kGoodD, e_aug, e_kAg, e_kAug, e_kAg1, e_itZ, e_kZL, e_kZT, e_isiT, e_kT1, e_kT2, e_rgA, e_kG1, e_rev, e_kRev, e_gT, e_gsCons, e_kGs, e_gsNil, e_lc2, e_eqS, e_neS, e_ltP, d_len hs, d_mod hj, d_eq0, decide_eq_false q1, Bool.false_and, if_neg Bool.false_ne_true]
theorem root_loop {w : List Nat} {K : Nat} (h : Wd w) (hK : K ≤ w.length) (hr : isRep w K = true) (hm : ∀ j, 0 < j → j < K → isRep w j = false) : ∀ (d k r : Nat) (x : SV) (n : Int), k + d + 1 = K →
    forLoop (gN 1) rootBody (dInts ((k + 1 : Nat) : Int) (d + 1 + r)) ⟨[.val (.str w), x], n⟩ = .rt (.val (.str (w.take K))) ⟨[.val (.str w), .val (.int (K : Int))], n⟩
  | 0, k, r, x, n, e => by
    rw [show 0 + 1 + r = r + 1 by omega, dInts_succ, for_cons rfl]
    have : k + 1 = K := by omega
    subst this
    simp only [List.set_cons_succ, List.set_cons_zero, root_body h (show 0 < k + 1 by omega) hK, hr, if_pos, e_kLoopR]
  | d + 1, k, r, x, n, e => by
    rw [show d + 1 + 1 + r = (d + 1 + r) + 1 by omega, dInts_succ, for_cons rfl]
    have hb : isRep w (k + 1) = false := hm (k + 1) (by omega) (by omega)
    simp only [List.set_cons_succ, List.set_cons_zero, root_body h (show 0 < k + 1 by omega) (show k + 1 ≤ w.length by omega), hb]
    rw [if_neg (by decide), e_kLoopN]
    exact root_loop h hK hr hm d (k + 1) r _ n (by omega)
/-! ### beginnings -/
def begBody : SM := (mSet 2 (good (oBin dAdd (mVar 2) (mVar 0))))
def begTest : TM := (mTest (mBin dLtB (eF (oB1V dLen 2)) (mVar 1)))
theorem d_lt {a b : Nat} : dLtB (.int (a : Int)) (.int (b : Int)) = some (.bl (decide (a < b))) := by
  show some (D.bl (decide ((a : Int) < (b : Int)))) = _
  by_cases h : a < b
  · rw [decide_eq_true h, decide_eq_true (by omega)]
  · rw [decide_eq_false h, decide_eq_false (by omega)]
theorem beg_loop {w : List Nat} {k : Nat} {n : Int} (h : Wd w) (hk : k ≤ 2000000) : ∀ (f m : Nat), 1 ≤ f → k + 1 ≤ m * w.length + f → m * w.length ≤ k + w.length → ∃ m', k ≤ m' * w.length ∧ m' * w.length ≤ k + w.length ∧
    mWhile begTest begBody f ⟨[.val (.str w), .val (.int (k : Int)), .val (.str (repS m w))], n⟩ = .nx ⟨[.val (.str w), .val (.int (k : Int)), .val (.str (repS m w))].set 2 (.val (.str (repS m' w))), n⟩
  | 0, m, hf, h0, h1 => by omega
  | f + 1, m, hf, h0, h1 => by
    have hs := h.s
    have hl : 0 < w.length := List.length_pos_iff.mpr h.n
    have e1 : dLen (.str (repS m w)) = some (.val (.int ((m * w.length : Nat) : Int))) := by
      have e0 : dLen (.str (repS m w)) = some (.val (.int ((repS m w).length : Int))) := if_pos (by rw [repS_len]; have e := sizeLine_eq; omega)
      rw [e0, repS_len]
    have et : begTest ⟨[.val (.str w), .val (.int (k : Int)), .val (.str (repS m w))], n⟩ = .ok (decide (m * w.length < k)) ⟨[.val (.str w), .val (.int (k : Int)), .val (.str (repS m w))], n⟩ := by
      unfold begTest
      simp only [e_var, e_kVarV, e_kVarO, e_oVar, e_kVoV, e_kVoO, eC, e_bin, e_kBin, e_kBin2, e_oBin, e_kOBin, e_kOBin2, e_good1v, e_good1o, e_test, e_kTest, e_and, e_or, e_not, e_kAndT, e_kAndF, e_kOrT, e_kOrF, e_kNot, e_eand, e_eor, e_enot, e_kEAndT, e_kEAndF, e_kEOrT, e_kEOrF, e_kENot, e_ifE, e_kIfET, e_kIfEF, e_oV, e_kOV, e_eF, e_frzv, e_frzo, e_neg, e_kNeg, e_nil, e_cons, e_kCons, e_kCons2, e_oB1, e_kB1, e_b1V, e_kB1V, e_kGetV, e_kGetO, e_oBn, e_kBn, e_ixV, e_kIxV, e_ixAt, e_kAtS, e_kAtL, e_kAtT, e_kAtK, e_kAtP, e_pSome, e_kSome, e_pNone, e_oSl, e_kSl, e_kSl2, e_kSl3, e_oLst, e_kOL, e_tup, e_kTup, e_call, e_res, e_kResV, e_kResO, e_kResX, e_cP, e_kCP, e_cQ, e_kCQ, e_outRV, e_outRO, e_seq, e_kSeqN, e_kSeqR, e_kSeqB, e_kSeqC, e_kSeqX, e_next, e_set, e_kSet, e_good, e_kGoodV, e_kGoodO, e_kGoodX, e_asg, e_kAsg, e_rsof, e_gN, e_par, e_kPar, e_ret, e_kRet, e_drop, e_kDrop, e_if, e_kIfT, e_kIfF, e_raise, e_for, e_kFor, e_itA, e_kItA, e_itR1, e_itR2, e_kP, e_pileSet, e_kP0, e_app', e_kA0, e_kApp', e_kA1, for_nil, e_kLoopN, e_kLoopC, e_kLoopB, e_kLoopR, e_kWhN, e_kWhC, e_kWhB, e_kWhR, e_oLc, e_yes, e_bok, e_bexc, e_bsok, e_bsexc, e_ofs, e_obs, e_oms, out_rt, out_nx, List.set_cons_zero, List.set_cons_succ, List.getElem?_cons_zero, List.getElem?_cons_succ, List.map_cons, List.map_nil, List.length_cons, List.length_nil, List.cons_append, List.nil_append, Nat.reduceAdd, Nat.reduceLeDiff, Nat.zero_add, Nat.reduceLT, e_ins, e_kI0, e_kIns, e_ext, e_kE0, e_kExt, e_kE1, e_newD, e_dput, e_kPut0, e_kD0, e_kPutS, e_kPutI, e_kD1, e_itKy, e_kKy, e_kGoodD, e_aug, e_kAg, e_kAug, e_kAg1, e_itZ, e_kZL, e_kZT, e_isiT, e_kT1, e_kT2, e_rgA, e_kG1, e_rev, e_kRev, e_gT, e_gsCons, e_kGs, e_gsNil, e_lc2, e_eqS, e_neS, e_ltP, e1, d_lt]
    by_cases q : m * w.length < k
    · have eb : begBody ⟨[.val (.str w), .val (.int (k : Int)), .val (.str (repS m w))], n⟩ = .nx ⟨[.val (.str w), .val (.int (k : Int)), .val (.str (repS (m + 1) w))], n⟩ := by
        have ea : dAdd (.str (repS m w)) (.str w) = _ := d_adds (by rw [repS_len]; omega)
        have ec : repS m w ++ w = repS (m + 1) w := by rw [repS_add, repS_one]
        unfold begBody
        simp only [e_var, e_kVarV, e_kVarO, e_oVar, e_kVoV, e_kVoO, eC, e_bin, e_kBin, e_kBin2, e_oBin, e_kOBin, e_kOBin2, e_good1v, e_good1o, e_test, e_kTest, e_and, e_or, e_not, e_kAndT, e_kAndF, e_kOrT, e_kOrF, e_kNot, e_eand, e_eor, e_enot, e_kEAndT, e_kEAndF, e_kEOrT, e_kEOrF, e_kENot, e_ifE, e_kIfET, e_kIfEF, e_oV, e_kOV, e_eF, e_frzv, e_frzo, e_neg, e_kNeg, e_nil, e_cons, e_kCons, e_kCons2, e_oB1, e_kB1, e_b1V, e_kB1V, e_kGetV, e_kGetO, e_oBn, e_kBn, e_ixV, e_kIxV, e_ixAt, e_kAtS, e_kAtL, e_kAtT, e_kAtK, e_kAtP, e_pSome, e_kSome, e_pNone, e_oSl, e_kSl, e_kSl2, e_kSl3, e_oLst, e_kOL, e_tup, e_kTup, e_call, e_res, e_kResV, e_kResO, e_kResX, e_cP, e_kCP, e_cQ, e_kCQ, e_outRV, e_outRO, e_seq, e_kSeqN, e_kSeqR, e_kSeqB, e_kSeqC, e_kSeqX, e_next, e_set, e_kSet, e_good, e_kGoodV, e_kGoodO, e_kGoodX, e_asg, e_kAsg, e_rsof, e_gN, e_par, e_kPar, e_ret, e_kRet, e_drop, e_kDrop, e_if, e_kIfT, e_kIfF, e_raise, e_for, e_kFor, e_itA, e_kItA, e_itR1, e_itR2, e_kP, e_pileSet, e_kP0, e_app', e_kA0, e_kApp', e_kA1, for_nil, e_kLoopN, e_kLoopC, e_kLoopB, e_kLoopR, e_kWhN, e_kWhC, e_kWhB, e_kWhR, e_oLc, e_yes, e_bok, e_bexc, e_bsok, e_bsexc, e_ofs, e_obs, e_oms, out_rt, out_nx, List.set_cons_zero, List.set_cons_succ, List.getElem?_cons_zero, List.getElem?_cons_succ, List.map_cons, List.map_nil, List.length_cons, List.length_nil, List.cons_append, List.nil_append, Nat.reduceAdd, Nat.reduceLeDiff, Nat.zero_add, Nat.reduceLT, e_ins, e_kI0, e_kIns, e_ext, e_kE0, e_kExt, e_kE1, e_newD, e_dput, e_kPut0, e_kD0, e_kPutS, e_kPutI, e_kD1, e_itKy, e_kKy, e_kGoodD, e_aug, e_kAg, e_kAug, e_kAg1, e_itZ, e_kZL, e_kZT, e_isiT, e_kT1, e_kT2, e_rgA, e_kG1, e_rev, e_kRev, e_gT, e_gsCons, e_kGs, e_gsNil, e_lc2, e_eqS, e_neS, e_ltP, ea, ec]
      rw [wh_t (by rw [et, decide_eq_true q]), eb, e_kWhN]
      obtain ⟨m', g1, g2, g3⟩ := beg_loop h hk f (m + 1) (by omega) (by rw [Nat.add_mul]; omega) (by rw [Nat.add_mul]; omega)
      exact ⟨m', g1, g2, g3⟩
    · refine ⟨m, by omega, h1, ?_⟩
      rw [wh_f (by rw [et, decide_eq_false q])]
      rfl
def shD : Option Nat → D
  | some i => .int (i : Int)
  | none => .non
def sh (w o : List Nat) : Option Nat := shareW w o (w.length + o.length)
/-- the least place from k on, below k + m, at which p holds -/
def scan (p : Nat → Bool) : Nat → Nat → Option Nat
  | _, 0 => none
  | k, m + 1 => if p k = true then some k else scan p (k + 1) m
theorem scan_find (p : Nat → Bool) : ∀ (m k : Nat), ((List.range m).map (k + ·)).find? p = scan p k m
  | 0, k => rfl
  | m + 1, k => by
    rw [List.range_succ_eq_map, List.map_cons, List.map_map, List.find?_cons]
    have ih := scan_find p m (k + 1)
    have e : (List.map ((fun x => k + x) ∘ Nat.succ) (List.range m)) = (List.range m).map (k + 1 + ·) := by
      apply List.map_congr_left
      intro a _
      show k + (a + 1) = k + 1 + a
      omega
    rw [e, ih, Nat.add_zero]
    show _ = (if p k = true then some k else scan p (k + 1) m)
    cases p k <;> rfl
theorem sh_scan {w o : List Nat} : sh w o = scan (fun i => decide (inf w i ≠ inf o i)) 0 (w.length + o.length) := by
  rw [← scan_find]
  unfold sh shareW
  congr 1
  simp
theorem scan_none {p : Nat → Bool} : ∀ {m k : Nat}, scan p k m = none → ∀ i, k ≤ i → i < k + m → p i = false
  | 0, k, _, i, h1, h2 => by omega
  | m + 1, k, h, i, h1, h2 => by
    unfold scan at h
    split at h
    · cases h
    · rename_i q
      by_cases e : i = k
      · subst e; simpa using q
      · exact scan_none h i (by omega) (by omega)
theorem scan_some {p : Nat → Bool} : ∀ {m k j : Nat}, scan p k m = some j → k ≤ j ∧ j < k + m ∧ p j = true ∧ ∀ i, k ≤ i → i < j → p i = false
  | 0, k, j, h => by cases h
  | m + 1, k, j, h => by
    unfold scan at h
    split at h
    · rename_i q
      cases h
      exact ⟨by omega, by omega, q, fun i h1 h2 => by omega⟩
    · rename_i q
      obtain ⟨h1, h2, h3, h4⟩ := scan_some h
      refine ⟨by omega, by omega, h3, fun i h5 h6 => ?_⟩
      by_cases e : i = k
      · subst e; simpa using q
      · exact h4 i (by omega) h6
theorem scan_of {p : Nat → Bool} : ∀ {m k j : Nat}, k ≤ j → j < k + m → p j = true → (∀ i, k ≤ i → i < j → p i = false) → scan p k m = some j
  | 0, k, j, h1, h2, _, _ => by omega
  | m + 1, k, j, h1, h2, h3, h4 => by
    unfold scan
    by_cases e : k = j
    · subst e; rw [if_pos h3]
    · rw [if_neg (by rw [h4 k (Nat.le_refl _) (by omega)]; decide)]
      exact scan_of (by omega) (by omega) h3 fun i h5 h6 => h4 i (by omega) h6
def shBody : SM := (mIfS (mTest (mBin dNevS (mIxV 3 (mVar 5)) (mIxV 4 (mVar 5)))) (mRet (oVar 5)) mNext)
theorem d_ix {w : List Nat} {k i : Nat} (hk : k ≤ 4000000) (h : i < k) : dIx (.str (beg w k)) (.int (i : Int)) = some (.str [inf w i]) := by
  have h1 : dIx (.str (beg w k)) (.int (i : Int)) = (atI (beg w k) (i : Int)).map fun c => .str [c] := if_pos (by rw [beg_len]; have e := sizeLine_eq; omega)
  rw [h1, atI_nat (by rw [beg_len]; exact h), beg_get h]
  rfl
theorem ok1 {w : List Nat} (h : Wd w) (i : Nat) : okS [inf w i] = true := by
  have hl : 0 < w.length := List.length_pos_iff.mpr h.n
  have h1 := okS_of h.l
  have h2 : w[i % w.length]? = some (inf w i) := by
    rw [← inf_mod]
    exact inf_lt (Nat.mod_lt _ hl)
  have h3 : inf w i ∈ w := List.mem_of_getElem? h2
  unfold okS at h1 ⊢
  rw [List.all_eq_true] at h1
  simpa using h1 _ h3
theorem sh_body {w o : List Nat} {k i : Nat} {a b : SV} {n : Int} (hw : Wd w) (ho : Wd o) (hk : k ≤ 4000000) (h : i < k) :
    shBody ⟨[a, b, .val (.int (k : Int)), .val (.str (beg w k)), .val (.str (beg o k)), .val (.int (i : Int))], n⟩ = if decide (inf w i ≠ inf o i) = true then .rt (.val (.int (i : Int))) ⟨[a, b, .val (.int (k : Int)), .val (.str (beg w k)), .val (.str (beg o k)), .val (.int (i : Int))], n⟩ else .nx ⟨[a, b, .val (.int (k : Int)), .val (.str (beg w k)), .val (.str (beg o k)), .val (.int (i : Int))], n⟩ := by
  have e1 := e_neS (a := [inf w i]) (b := [inf o i])
  have e2 : (!decide ([inf w i] = [inf o i])) = decide (inf w i ≠ inf o i) := by
    by_cases q : inf w i = inf o i <;> simp [q]
  unfold shBody
  by_cases q : inf w i ≠ inf o i
  · simp only [e_var, e_kVarV, e_kVarO, e_oVar, e_kVoV, e_kVoO, eC, e_bin, e_kBin, e_kBin2, e_oBin, e_kOBin, e_kOBin2, e_good1v, e_good1o, e_test, e_kTest, e_and, e_or, e_not, e_kAndT, e_kAndF, e_kOrT, e_kOrF, e_kNot, e_eand, e_eor, e_enot, e_kEAndT, e_kEAndF, e_kEOrT, e_kEOrF, e_kENot, e_ifE, e_kIfET, e_kIfEF, e_oV, e_kOV, e_eF, e_frzv, e_frzo, e_neg, e_kNeg, e_nil, e_cons, e_kCons, e_kCons2, e_oB1, e_kB1, e_b1V, e_kB1V, e_kGetV, e_kGetO, e_oBn, e_kBn, e_ixV, e_kIxV, e_ixAt, e_kAtS, e_kAtL, e_kAtT, e_kAtK, e_kAtP, e_pSome, e_kSome, e_pNone, e_oSl, e_kSl, e_kSl2, e_kSl3, e_oLst, e_kOL, e_tup, e_kTup, e_call, e_res, e_kResV, e_kResO, e_kResX, e_cP, e_kCP, e_cQ, e_kCQ, e_outRV, e_outRO, e_seq, e_kSeqN, e_kSeqR, e_kSeqB, e_kSeqC, e_kSeqX, e_next, e_set, e_kSet, e_good, e_kGoodV, e_kGoodO, e_kGoodX, e_asg, e_kAsg, e_rsof, e_gN, e_par, e_kPar, e_ret, e_kRet, e_drop, e_kDrop, e_if, e_kIfT, e_kIfF, e_raise, e_for, e_kFor, e_itA, e_kItA, e_itR1, e_itR2, e_kP, e_pileSet, e_kP0, e_app', e_kA0, e_kApp', e_kA1, for_nil, e_kLoopN, e_kLoopC, e_kLoopB, e_kLoopR, e_kWhN, e_kWhC, e_kWhB, e_kWhR, e_oLc, e_yes, e_bok, e_bexc, e_bsok, e_bsexc, e_ofs, e_obs, e_oms, out_rt, out_nx, List.set_cons_zero, List.set_cons_succ, List.getElem?_cons_zero, List.getElem?_cons_succ, List.map_cons, List.map_nil, List.length_cons, List.length_nil, List.cons_append, List.nil_append, Nat.reduceAdd, Nat.reduceLeDiff, Nat.zero_add, Nat.reduceLT, e_ins, e_kI0, e_kIns, e_ext, e_kE0, e_kExt, e_kE1, e_newD, e_dput, e_kPut0, e_kD0, e_kPutS, e_kPutI, e_kD1, e_itKy, e_kKy, e_kGoodD, e_aug, e_kAg, e_kAug, e_kAg1, e_itZ, e_kZL, e_kZT, e_isiT, e_kT1, e_kT2, e_rgA, e_kG1, e_rev, e_kRev, e_gT, e_gsCons, e_kGs, e_gsNil, e_lc2, e_eqS, e_neS, e_ltP, d_ix hk h, e1, e2, decide_eq_true q, if_pos]
  · simp only [e_var, e_kVarV, e_kVarO, e_oVar, e_kVoV, e_kVoO, eC, e_bin, e_kBin, e_kBin2, e_oBin, e_kOBin, e_kOBin2, e_good1v, e_good1o, e_test, e_kTest, e_and, e_or, e_not, e_kAndT, e_kAndF, e_kOrT, e_kOrF, e_kNot, e_eand, e_eor, e_enot, e_kEAndT, e_kEAndF, e_kEOrT, e_kEOrF, e_kENot, e_ifE, e_kIfET, e_kIfEF, e_oV, e_kOV, e_eF, e_frzv, e_frzo, e_neg, e_kNeg, e_nil, e_cons, e_kCons, e_kCons2, e_oB1, e_kB1, e_b1V, e_kB1V, e_kGetV, e_kGetO, e_oBn, e_kBn, e_ixV, e_kIxV, e_ixAt, e_kAtS, e_kAtL, e_kAtT, e_kAtK, e_kAtP, e_pSome, e_kSome, e_pNone, e_oSl, e_kSl, e_kSl2, e_kSl3, e_oLst, e_kOL, e_tup, e_kTup, e_call, e_res, e_kResV, e_kResO, e_kResX, e_cP, e_kCP, e_cQ, e_kCQ, e_outRV, e_outRO, e_seq, e_kSeqN, e_kSeqR, e_kSeqB, e_kSeqC, e_kSeqX, e_next, e_set, e_kSet, e_good, e_kGoodV, e_kGoodO, e_kGoodX, e_asg, e_kAsg, e_rsof, e_gN, e_par, e_kPar, e_ret, e_kRet, e_drop, e_kDrop, e_if, e_kIfT, e_kIfF, e_raise, e_for, e_kFor, e_itA, e_kItA, e_itR1, e_itR2, e_kP, e_pileSet, e_kP0, e_app', e_kA0, e_kApp', e_kA1, for_nil, e_kLoopN, e_kLoopC, e_kLoopB, e_kLoopR, e_kWhN, e_kWhC, e_kWhB, e_kWhR, e_oLc, e_yes, e_bok, e_bexc, e_bsok, e_bsexc, e_ofs, e_obs, e_oms, out_rt, out_nx, List.set_cons_zero, List.set_cons_succ, List.getElem?_cons_zero, List.getElem?_cons_succ, List.map_cons, List.map_nil, List.length_cons, List.length_nil, List.cons_append, List.nil_append, Nat.reduceAdd, Nat.reduceLeDiff, Nat.zero_add, Nat.reduceLT, e_ins, e_kI0, e_kIns, e_ext, e_kE0, e_kExt, e_kE1, e_newD, e_dput, e_kPut0, e_kD0, e_kPutS, e_kPutI, e_kD1, e_itKy, e_kKy, e_kGoodD, e_aug, e_kAg, e_kAug, e_kAg1, e_itZ, e_kZL, e_kZT, e_isiT, e_kT1, e_kT2, e_rgA, e_kG1, e_rev, e_kRev, e_gT, e_gsCons, e_kGs, e_gsNil, e_lc2, e_eqS, e_neS, e_ltP, d_ix hk h, e1, e2, decide_eq_false q, if_neg Bool.false_ne_true]
theorem sh_loop {w o : List Nat} {k : Nat} {a b : SV} {n : Int} (hw : Wd w) (ho : Wd o) (hk : k ≤ 4000000) : ∀ (m i : Nat) (x : SV), i + m = k →
    (∃ j, scan (fun i => decide (inf w i ≠ inf o i)) i m = some j ∧ forLoop (gN 5) shBody (dInts (i : Int) m) ⟨[a, b, .val (.int (k : Int)), .val (.str (beg w k)), .val (.str (beg o k)), x], n⟩ = .rt (.val (.int (j : Int))) ⟨[a, b, .val (.int (k : Int)), .val (.str (beg w k)), .val (.str (beg o k)), .val (.int (j : Int))], n⟩) ∨
    (scan (fun i => decide (inf w i ≠ inf o i)) i m = none ∧ ∃ y, forLoop (gN 5) shBody (dInts (i : Int) m) ⟨[a, b, .val (.int (k : Int)), .val (.str (beg w k)), .val (.str (beg o k)), x], n⟩ = .nx ⟨[a, b, .val (.int (k : Int)), .val (.str (beg w k)), .val (.str (beg o k)), y], n⟩)
  | 0, i, x, e => .inr ⟨rfl, x, rfl⟩
  | m + 1, i, x, e => by
    rw [dInts_succ, for_cons rfl]
    simp only [List.set_cons_succ, List.set_cons_zero, sh_body hw ho hk (show i < k by omega), scan]
    by_cases q : decide (inf w i ≠ inf o i) = true
    · left
      refine ⟨i, ?_, ?_⟩
      · rw [if_pos q]
      · rw [if_pos q, e_kLoopR]
    · rw [if_neg q, if_neg q, e_kLoopN]
      exact sh_loop hw ho hk m (i + 1) _ (by omega)
/-- two words share as much as their letters say -/
theorem sh_some {w o : List Nat} (hw : w ≠ []) (ho : o ≠ []) (h : rootW w ≠ rootW o) : ∃ j, sh w o = some j ∧ j < (rootW w).length + (rootW o).length ∧ inf w j ≠ inf o j ∧ ∀ i, i < j → inf w i = inf o i := by
  have hl := root_len hw
  have hl' := root_len ho
  cases q : sh w o with
  | none =>
    rw [sh_scan] at q
    have := scan_none q
    exact absurd (root_of_inf hw ho fun i hi => by
      have h1 := this i (by omega) (by omega)
      have h2 := of_decide_eq_false h1
      exact Classical.not_not.mp h2) h
  | some j =>
    rw [sh_scan] at q
    obtain ⟨h1, h2, h3, h4⟩ := scan_some q
    have h4' : ∀ i, i < j → inf w i = inf o i := fun i hi => Classical.not_not.mp (of_decide_eq_false (h4 i (by omega) hi))
    refine ⟨j, rfl, ?_, of_decide_eq_true h3, h4'⟩
    apply Nat.lt_of_not_le
    intro hle
    exact h (root_of_inf hw ho fun i hi => h4' i (by omega))
theorem sh_none {w o : List Nat} (hw : w ≠ []) (ho : o ≠ []) (h : rootW w = rootW o) : sh w o = none := by
  cases q : sh w o with
  | none => rfl
  | some j =>
    rw [sh_scan] at q
    obtain ⟨h1, h2, h3, h4⟩ := scan_some q
    exact absurd (inf_of_root hw ho h j) (of_decide_eq_true h3)
theorem sh_comm {w o : List Nat} : sh w o = sh o w := by
  rw [sh_scan, sh_scan, Nat.add_comm w.length]
  congr 1
  funext i
  exact decide_eq_decide.mpr ⟨fun q z => q z.symm, fun q z => q z.symm⟩
theorem root_inL {w : List Nat} (h : Wd w) : Wd (rootW w) := by
  obtain ⟨k, _, kl, e, _⟩ := rootW_spec h.n
  have hs := h.s
  exact ⟨by rw [e]; exact inL_take h.l, rootW_ne h.n, Nat.le_trans (root_len h.n) hs⟩
end Pd

/-! plain laws of sets: what is drawn -/
namespace Pd
open PySem L2

theorem log_le {n k : Nat} (h : n < 2 ^ k) : n.log2 ≤ k := by
  by_cases hn : n = 0
  · subst hn; simp
  · exact Nat.le_of_lt ((Nat.log2_lt hn).mpr h)
theorem i_mul {i j : Int} (hi : i.natAbs < 2 ^ 1000) (hj : j.natAbs < 2 ^ 1000) : dMul (.int i) (.int j) = some (.val (.int (i * j))) := by
  have h1 := log_le hi
  have h2 := log_le hj
  exact if_pos (by omega)
theorem i_mod {i j : Int} (h : 0 < j) : dMod (.int i) (.int j) = some (.int (i % j)) := if_pos (decide_eq_true h)
theorem i_div {i j : Int} (h : 0 < j) (h' : j < 1073741824) : dDiv (.int i) (.int j) = some (.int (i / j)) := if_pos (decide_eq_true ⟨h, h'⟩)
theorem i_add {i j : Int} : dAdd (.int i) (.int j) = some (.val (.int (i + j))) := rfl
theorem i_sub {i j : Int} : dSub (.int i) (.int j) = some (.int (i - j)) := rfl
theorem i_int {i : Int} : dInt (.int i) = some (.val (.int i)) := rfl
theorem i_lt {i j : Int} : dLtB (.int i) (.int j) = some (.bl (decide (i < j))) := rfl
theorem i_ge {i j : Int} : dGe (.int i) (.int j) = some (.bl (decide (j ≤ i))) := rfl
theorem sm {x : Int} {b : Int} (h : 0 ≤ x) (h' : x < b) (hb : b ≤ 2 ^ 900) : x.natAbs < 2 ^ 1000 := by
  have : (2 : Int) ^ 900 = ((2 ^ 900 : Nat) : Int) := by norm_cast
  have h3 : (2 : Nat) ^ 900 < 2 ^ 1000 := by decide +kernel
  omega
def mx1 (a k : Int) : Int := ((a % 2147483647) * 48271 + k * 69621 + 1048583) % 2147483629
def mx2 (x : Int) : Int := (x * x) % 2147483587
def mx3 (x : Int) : Int := (x * (x + 2)) % 2147483579
theorem nat40 {x : Int} (h : 0 ≤ x) (h' : x < 1099511627776) : x.natAbs < 2 ^ 1000 := by
  have h3 : (1099511627776 : Nat) < 2 ^ 1000 := by decide +kernel
  omega
theorem mixed {a k n : Int} (hk : 0 ≤ k) (hk' : k < 4000000) : ∃ v, 0 ≤ v ∧ v < 2147483579 ∧ m__law_mixed [.int a, .int k] n = .ok (.val (.int v)) n := by
  have b1 : 0 ≤ a % 2147483647 ∧ a % 2147483647 < 2147483647 := ⟨Int.emod_nonneg _ (by decide), Int.emod_lt_of_pos _ (by decide)⟩
  have b2 : 0 ≤ mx1 a k ∧ mx1 a k < 2147483629 := ⟨Int.emod_nonneg _ (by decide), Int.emod_lt_of_pos _ (by decide)⟩
  have b3 : 0 ≤ mx2 (mx1 a k) ∧ mx2 (mx1 a k) < 2147483587 := ⟨Int.emod_nonneg _ (by decide), Int.emod_lt_of_pos _ (by decide)⟩
  have b4 : 0 ≤ mx3 (mx2 (mx1 a k)) ∧ mx3 (mx2 (mx1 a k)) < 2147483579 := ⟨Int.emod_nonneg _ (by decide), Int.emod_lt_of_pos _ (by decide)⟩
  refine ⟨_, b4.1, b4.2, ?_⟩
  have e1 : dMul (.int (a % 2147483647)) (.int 48271) = _ := i_mul (nat40 (by omega) (by omega)) (nat40 (by omega) (by omega))
  have e2 : dMul (.int k) (.int 69621) = _ := i_mul (nat40 (by omega) (by omega)) (nat40 (by omega) (by omega))
  have e3 : dMul (.int (mx1 a k)) (.int (mx1 a k)) = _ := i_mul (nat40 (by omega) (by omega)) (nat40 (by omega) (by omega))
  have e4 : dMul (.int (mx2 (mx1 a k))) (.int (mx2 (mx1 a k) + 2)) = _ := i_mul (nat40 (by omega) (by omega)) (nat40 (by omega) (by omega))
  have f1 : dMod (.int a) (.int 2147483647) = some (.int (a % 2147483647)) := i_mod (by decide)
  have f2 : dMod (.int (a % 2147483647 * 48271 + k * 69621 + 1048583)) (.int 2147483629) = some (.int (mx1 a k)) := i_mod (by decide)
  have f3 : dMod (.int (mx1 a k * mx1 a k)) (.int 2147483587) = some (.int (mx2 (mx1 a k))) := i_mod (by decide)
  have f4 : dMod (.int (mx2 (mx1 a k) * (mx2 (mx1 a k) + 2))) (.int 2147483579) = some (.int (mx3 (mx2 (mx1 a k)))) := i_mod (by decide)
  unfold m__law_mixed
  refine (mk_ev (by rfl)).trans ?_
  show outF (b__law_mixed ⟨[.val (.int a), .val (.int k), .no], n⟩) = _
  unfold b__law_mixed
  simp only [e_var, e_kVarV, e_kVarO, e_oVar, e_kVoV, e_kVoO, eC, e_bin, e_kBin, e_kBin2, e_oBin, e_kOBin, e_kOBin2, e_good1v, e_good1o, e_test, e_kTest, e_and, e_or, e_not, e_kAndT, e_kAndF, e_kOrT, e_kOrF, e_kNot, e_eand, e_eor, e_enot, e_kEAndT, e_kEAndF, e_kEOrT, e_kEOrF, e_kENot, e_ifE, e_kIfET, e_kIfEF, e_oV, e_kOV, e_eF, e_frzv, e_frzo, e_neg, e_kNeg, e_nil, e_cons, e_kCons, e_kCons2, e_oB1, e_kB1, e_b1V, e_kB1V, e_kGetV, e_kGetO, e_oBn, e_kBn, e_ixV, e_kIxV, e_ixAt, e_kAtS, e_kAtL, e_kAtT, e_kAtK, e_kAtP, e_pSome, e_kSome, e_pNone, e_oSl, e_kSl, e_kSl2, e_kSl3, e_oLst, e_kOL, e_tup, e_kTup, e_call, e_res, e_kResV, e_kResO, e_kResX, e_cP, e_kCP, e_cQ, e_kCQ, e_outRV, e_outRO, e_seq, e_kSeqN, e_kSeqR, e_kSeqB, e_kSeqC, e_kSeqX, e_next, e_set, e_kSet, e_good, e_kGoodV, e_kGoodO, e_kGoodX, e_asg, e_kAsg, e_rsof, e_gN, e_par, e_kPar, e_ret, e_kRet, e_drop, e_kDrop, e_if, e_kIfT, e_kIfF, e_raise, e_for, e_kFor, e_itA, e_kItA, e_itR1, e_itR2, e_kP, e_pileSet, e_kP0, e_app', e_kA0, e_kApp', e_kA1, for_nil, e_kLoopN, e_kLoopC, e_kLoopB, e_kLoopR, e_kWhN, e_kWhC, e_kWhB, e_kWhR, e_oLc, e_yes, e_bok, e_bexc, e_bsok, e_bsexc, e_ofs, e_obs, e_oms, out_rt, out_nx, List.set_cons_zero, List.set_cons_succ, List.getElem?_cons_zero, List.getElem?_cons_succ, List.map_cons, List.map_nil, List.length_cons, List.length_nil, List.cons_append, List.nil_append, Nat.reduceAdd, Nat.reduceLeDiff, Nat.zero_add, Nat.reduceLT, e_ins, e_kI0, e_kIns, e_ext, e_kE0, e_kExt, e_kE1, e_newD, e_dput, e_kPut0, e_kD0, e_kPutS, e_kPutI, e_kD1, e_itKy, e_kKy, e_kGoodD, e_aug, e_kAg, e_kAug, e_kAg1, e_itZ, e_kZL, e_kZT, e_isiT, e_kT1, e_kT2, e_rgA, e_kG1, e_rev, e_kRev, e_gT, e_gsCons, e_kGs, e_gsNil, e_lc2, e_eqS, e_neS, e_ltP, i_int, i_add, e1, e2, e3, e4, f1, f2, f3, f4]
theorem ipow {b i j : Nat} (h : i ≤ j) (hb : 0 < b) : (b : Int) ^ i ≤ (b : Int) ^ j := by
  rw [← Int.natCast_pow, ← Int.natCast_pow]
  exact Int.ofNat_le.mpr (Nat.pow_le_pow_right hb h)
def pileBody : SM := (mSet 3 (good (oBin dAdd (eF (oBin dMul (mVar 3) (mC (.int 2147483579)))) (eF (oCall m__law_mixed (aCons (mVar 2) (aCons (eF (oBin dAdd (eF (oBin dAdd (eF (oBin dMul (mC (.int 7)) (mVar 1))) (eF (oBin dMul (mC (.int 100)) (mVar 4))))) (eF (oBin dMul (mVar 4) (mVar 4))))) aNil)))))))
theorem pile_loop {l : D} {t a n : Int} (ht : 0 ≤ t) (ht' : t < 100) : ∀ (m i : Nat) (v : Int) (x : SV), i + m ≤ 25 → 0 ≤ v → v + 1 ≤ 2147483579 ^ i →
    ∃ v' x', forLoop (gN 4) pileBody (dInts (i : Int) m) ⟨[.val l, .val (.int t), .val (.int a), .val (.int v), x], n⟩ = .nx ⟨[.val l, .val (.int t), .val (.int a), .val (.int v'), x'], n⟩
  | 0, i, v, x, hi, h0, h1 => ⟨v, x, rfl⟩
  | m + 1, i, v, x, hi, h0, h1 => by
    rw [dInts_succ, for_cons rfl]
    have hii : (i : Int) * (i : Int) ≤ 25 * 25 := Int.mul_le_mul (by omega) (by omega) (by omega) (by omega)
    have hi0 : 0 ≤ (i : Int) * (i : Int) := Int.mul_nonneg (by omega) (by omega)
    obtain ⟨u, u0, u1, hu⟩ := mixed (a := a) (k := 7 * t + 100 * (i : Int) + (i : Int) * (i : Int)) (n := n) (by omega) (by omega)
    have hp : (2147483579 : Int) ^ i ≤ 2147483579 ^ 25 := ipow (b := 2147483579) (show i ≤ 25 by omega) (by decide)
    have hp2 : (2147483579 : Int) ^ 25 < 2 ^ 900 := by decide +kernel
    have e1 : dMul (.int v) (.int 2147483579) = _ := i_mul (sm h0 (show v < 2147483579 ^ 25 by omega) (by omega)) (nat40 (by decide) (by decide))
    have e2 : dMul (.int 7) (.int t) = _ := i_mul (nat40 (by decide) (by decide)) (nat40 (by omega) (by omega))
    have e3 : dMul (.int 100) (.int (i : Int)) = _ := i_mul (nat40 (by decide) (by decide)) (nat40 (by omega) (by omega))
    have e4 : dMul (.int (i : Int)) (.int (i : Int)) = _ := i_mul (nat40 (by omega) (by omega)) (nat40 (by omega) (by omega))
    have eb : pileBody ⟨[.val l, .val (.int t), .val (.int a), .val (.int v), .val (.int (i : Int))], n⟩ = .nx ⟨[.val l, .val (.int t), .val (.int a), .val (.int (v * 2147483579 + u)), .val (.int (i : Int))], n⟩ := by
      unfold pileBody
      simp only [e_var, e_kVarV, e_kVarO, e_oVar, e_kVoV, e_kVoO, eC, e_bin, e_kBin, e_kBin2, e_oBin, e_kOBin, e_kOBin2, e_good1v, e_good1o, e_test, e_kTest, e_and, e_or, e_not, e_kAndT, e_kAndF, e_kOrT, e_kOrF, e_kNot, e_eand, e_eor, e_enot, e_kEAndT, e_kEAndF, e_kEOrT, e_kEOrF, e_kENot, e_ifE, e_kIfET, e_kIfEF, e_oV, e_kOV, e_eF, e_frzv, e_frzo, e_neg, e_kNeg, e_nil, e_cons, e_kCons, e_kCons2, e_oB1, e_kB1, e_b1V, e_kB1V, e_kGetV, e_kGetO, e_oBn, e_kBn, e_ixV, e_kIxV, e_ixAt, e_kAtS, e_kAtL, e_kAtT, e_kAtK, e_kAtP, e_pSome, e_kSome, e_pNone, e_oSl, e_kSl, e_kSl2, e_kSl3, e_oLst, e_kOL, e_tup, e_kTup, e_call, e_res, e_kResV, e_kResO, e_kResX, e_cP, e_kCP, e_cQ, e_kCQ, e_outRV, e_outRO, e_seq, e_kSeqN, e_kSeqR, e_kSeqB, e_kSeqC, e_kSeqX, e_next, e_set, e_kSet, e_good, e_kGoodV, e_kGoodO, e_kGoodX, e_asg, e_kAsg, e_rsof, e_gN, e_par, e_kPar, e_ret, e_kRet, e_drop, e_kDrop, e_if, e_kIfT, e_kIfF, e_raise, e_for, e_kFor, e_itA, e_kItA, e_itR1, e_itR2, e_kP, e_pileSet, e_kP0, e_app', e_kA0, e_kApp', e_kA1, for_nil, e_kLoopN, e_kLoopC, e_kLoopB, e_kLoopR, e_kWhN, e_kWhC, e_kWhB, e_kWhR, e_oLc, e_yes, e_bok, e_bexc, e_bsok, e_bsexc, e_ofs, e_obs, e_oms, out_rt, out_nx, List.set_cons_zero, List.set_cons_succ, List.getElem?_cons_zero, List.getElem?_cons_succ, List.map_cons, List.map_nil, List.length_cons, List.length_nil, List.cons_append, List.nil_append, Nat.reduceAdd, Nat.reduceLeDiff, Nat.zero_add, Nat.reduceLT, e_ins, e_kI0, e_kIns, e_ext, e_kE0, e_kExt, e_kE1, e_newD, e_dput, e_kPut0, e_kD0, e_kPutS, e_kPutI, e_kD1, e_itKy, e_kKy, e_kGoodD, e_aug, e_kAg, e_kAug, e_kAg1, e_itZ, e_kZL, e_kZT, e_isiT, e_kT1, e_kT2, e_rgA, e_kG1, e_rev, e_kRev, e_gT, e_gsCons, e_kGs, e_gsNil, e_lc2, e_eqS, e_neS, e_ltP, e1, e2, e3, e4, i_add, hu]
    simp only [List.set_cons_succ, List.set_cons_zero, eb, e_kLoopN]
    refine pile_loop ht ht' m (i + 1) _ _ (by omega) (by omega) ?_
    rw [Int.pow_succ]
    have : (v + 1) * 2147483579 ≤ 2147483579 ^ i * 2147483579 := Int.mul_le_mul_of_nonneg_right h1 (by decide)
    omega
theorem b_pile_eq : b__law_pile = (mSeq (mSet 2 (good (oV (mC (.int 0)))))
  (mSeq (mIfS (mTest (mBin dLtB (mVar 1) (eF (oB1V dLen 0)))) (mSet 2 (good (oV (mIxV 0 (mVar 1))))) mNext)
  (mSeq (mIfS (mTest (mBin dGe (mVar 2) (mBin dPow (mC (.int 10)) (mC (.int 18))))) (mRet (oLst (aCons (mBin dMod (eF (oB1 dInt (mBin dSub (mVar 2) (mBin dPow (mC (.int 10)) (mC (.int 18)))))) (eF (oBin dMul (eF (oBin dMul (eF (oBin dMul (mBin dPow (mC (.int 10)) (mC (.int 60))) (mBin dPow (mC (.int 10)) (mC (.int 60))))) (mBin dPow (mC (.int 10)) (mC (.int 60))))) (mBin dPow (mC (.int 10)) (mC (.int 60)))))) aNil))) mNext)
  (mSeq (mSet 3 (good (oV (mC (.int 0)))))
  (mSeq (mFor (itR1 (aCons (mC (.int 24)) aNil)) (gN 4) pileBody)
  (mRet (oLst (aCons (mVar 3) aNil)))))))) := rfl
theorem len_k {l : List D} : dLen (.kst l) = some (.val (.int (l.length : Int))) := rfl
def powT (m : EM) (k : Nat) : Prop := ∀ s, m s = .ok (.int (10 ^ k)) s
theorem pow18 : dPow (.int 10) (.int 18) = some (.int (10 ^ 18)) := by rfl
theorem pow60 : dPow (.int 10) (.int 60) = some (.int (10 ^ 60)) := by rfl
theorem pile_end {l : List D} {t a n : Int} (ht : 0 ≤ t) (ht' : t < 100) : ∃ m s', (mSeq (mIfS (mTest (mBin dGe (mVar 2) (mBin dPow (mC (.int 10)) (mC (.int 18))))) (mRet (oLst (aCons (mBin dMod (eF (oB1 dInt (mBin dSub (mVar 2) (mBin dPow (mC (.int 10)) (mC (.int 18)))))) (eF (oBin dMul (eF (oBin dMul (eF (oBin dMul (mBin dPow (mC (.int 10)) (mC (.int 60))) (mBin dPow (mC (.int 10)) (mC (.int 60))))) (mBin dPow (mC (.int 10)) (mC (.int 60))))) (mBin dPow (mC (.int 10)) (mC (.int 60)))))) aNil))) mNext)
  (mSeq (mSet 3 (good (oV (mC (.int 0)))))
  (mSeq (mFor (itR1 (aCons (mC (.int 24)) aNil)) (gN 4) pileBody)
  (mRet (oLst (aCons (mVar 3) aNil)))))) ⟨[.val (.kst l), .val (.int t), .val (.int a), .no, .no], n⟩ = .rt (.own [.int m]) s' ∧ s'.pile = n := by
  by_cases q : (10 : Int) ^ 18 ≤ a
  · have h60 : ((10 : Int) ^ 60).natAbs < 2 ^ 1000 := by decide +kernel
    have h120 : ((10 : Int) ^ 60 * 10 ^ 60).natAbs < 2 ^ 1000 := by decide +kernel
    have h180 : ((10 : Int) ^ 60 * 10 ^ 60 * 10 ^ 60).natAbs < 2 ^ 1000 := by decide +kernel
    refine ⟨(a - 10 ^ 18) % (10 ^ 60 * 10 ^ 60 * 10 ^ 60 * 10 ^ 60), ⟨[.val (.kst l), .val (.int t), .val (.int a), .no, .no], n⟩, ?_, rfl⟩
    have hm : dMod (.int (a - 10 ^ 18)) (.int (10 ^ 60 * 10 ^ 60 * 10 ^ 60 * 10 ^ 60)) = _ := i_mod (by decide +kernel)
    simp only [e_var, e_kVarV, e_kVarO, e_oVar, e_kVoV, e_kVoO, eC, e_bin, e_kBin, e_kBin2, e_oBin, e_kOBin, e_kOBin2, e_good1v, e_good1o, e_test, e_kTest, e_and, e_or, e_not, e_kAndT, e_kAndF, e_kOrT, e_kOrF, e_kNot, e_eand, e_eor, e_enot, e_kEAndT, e_kEAndF, e_kEOrT, e_kEOrF, e_kENot, e_ifE, e_kIfET, e_kIfEF, e_oV, e_kOV, e_eF, e_frzv, e_frzo, e_neg, e_kNeg, e_nil, e_cons, e_kCons, e_kCons2, e_oB1, e_kB1, e_b1V, e_kB1V, e_kGetV, e_kGetO, e_oBn, e_kBn, e_ixV, e_kIxV, e_ixAt, e_kAtS, e_kAtL, e_kAtT, e_kAtK, e_kAtP, e_pSome, e_kSome, e_pNone, e_oSl, e_kSl, e_kSl2, e_kSl3, e_oLst, e_kOL, e_tup, e_kTup, e_call, e_res, e_kResV, e_kResO, e_kResX, e_cP, e_kCP, e_cQ, e_kCQ, e_outRV, e_outRO, e_seq, e_kSeqN, e_kSeqR, e_kSeqB, e_kSeqC, e_kSeqX, e_next, e_set, e_kSet, e_good, e_kGoodV, e_kGoodO, e_kGoodX, e_asg, e_kAsg, e_rsof, e_gN, e_par, e_kPar, e_ret, e_kRet, e_drop, e_kDrop, e_if, e_kIfT, e_kIfF, e_raise, e_for, e_kFor, e_itA, e_kItA, e_itR1, e_itR2, e_kP, e_pileSet, e_kP0, e_app', e_kA0, e_kApp', e_kA1, for_nil, e_kLoopN, e_kLoopC, e_kLoopB, e_kLoopR, e_kWhN, e_kWhC, e_kWhB, e_kWhR, e_oLc, e_yes, e_bok, e_bexc, e_bsok, e_bsexc, e_ofs, e_obs, e_oms, out_rt, out_nx, List.set_cons_zero, List.set_cons_succ, List.getElem?_cons_zero, List.getElem?_cons_succ, List.map_cons, List.map_nil, List.length_cons, List.length_nil, List.cons_append, List.nil_append, Nat.reduceAdd, Nat.reduceLeDiff, Nat.zero_add, Nat.reduceLT, e_ins, e_kI0, e_kIns, e_ext, e_kE0, e_kExt, e_kE1, e_newD, e_dput, e_kPut0, e_kD0, e_kPutS, e_kPutI, e_kD1, e_itKy, e_kKy, e_kGoodD, e_aug, e_kAg, e_kAug, e_kAg1, e_itZ, e_kZL, e_kZT, e_isiT, e_kT1, e_kT2, e_rgA, e_kG1, e_rev, e_kRev, e_gT, e_gsCons, e_kGs, e_gsNil, e_lc2, e_eqS, e_neS, e_ltP, pow18, pow60, i_ge, decide_eq_true q, i_mul h60 h60, i_mul h120 h60, i_mul h180 h60, i_sub, i_int, hm]
  · obtain ⟨v', x', lp⟩ := pile_loop (l := .kst l) (a := a) (n := n) ht ht' 24 0 0 .no (by omega) (by omega) (by decide)
    have lp' : forLoop (gN 4) pileBody (dInts 0 24) _ = _ := lp
    refine ⟨v', ⟨[.val (.kst l), .val (.int t), .val (.int a), .val (.int v'), x'], n⟩, ?_, rfl⟩
    have e5 : ∀ s, kR1 [.int 24] s = .ok (dInts 0 24) s := fun s => e_kR1 ⟨by decide, by decide⟩
    simp only [e_var, e_kVarV, e_kVarO, e_oVar, e_kVoV, e_kVoO, eC, e_bin, e_kBin, e_kBin2, e_oBin, e_kOBin, e_kOBin2, e_good1v, e_good1o, e_test, e_kTest, e_and, e_or, e_not, e_kAndT, e_kAndF, e_kOrT, e_kOrF, e_kNot, e_eand, e_eor, e_enot, e_kEAndT, e_kEAndF, e_kEOrT, e_kEOrF, e_kENot, e_ifE, e_kIfET, e_kIfEF, e_oV, e_kOV, e_eF, e_frzv, e_frzo, e_neg, e_kNeg, e_nil, e_cons, e_kCons, e_kCons2, e_oB1, e_kB1, e_b1V, e_kB1V, e_kGetV, e_kGetO, e_oBn, e_kBn, e_ixV, e_kIxV, e_ixAt, e_kAtS, e_kAtL, e_kAtT, e_kAtK, e_kAtP, e_pSome, e_kSome, e_pNone, e_oSl, e_kSl, e_kSl2, e_kSl3, e_oLst, e_kOL, e_tup, e_kTup, e_call, e_res, e_kResV, e_kResO, e_kResX, e_cP, e_kCP, e_cQ, e_kCQ, e_outRV, e_outRO, e_seq, e_kSeqN, e_kSeqR, e_kSeqB, e_kSeqC, e_kSeqX, e_next, e_set, e_kSet, e_good, e_kGoodV, e_kGoodO, e_kGoodX, e_asg, e_kAsg, e_rsof, e_gN, e_par, e_kPar, e_ret, e_kRet, e_drop, e_kDrop, e_if, e_kIfT, e_kIfF, e_raise, e_for, e_kFor, e_itA, e_kItA, e_itR1, e_itR2, e_kP, e_pileSet, e_kP0, e_app', e_kA0, e_kApp', e_kA1, for_nil, e_kLoopN, e_kLoopC, e_kLoopB, e_kLoopR, e_kWhN, e_kWhC, e_kWhB, e_kWhR, e_oLc, e_yes, e_bok, e_bexc, e_bsok, e_bsexc, e_ofs, e_obs, e_oms, out_rt, out_nx, List.set_cons_zero, List.set_cons_succ, List.getElem?_cons_zero, List.getElem?_cons_succ, List.map_cons, List.map_nil, List.length_cons, List.length_nil, List.cons_append, List.nil_append, Nat.reduceAdd, Nat.reduceLeDiff, Nat.zero_add, Nat.reduceLT, e_ins, e_kI0, e_kIns, e_ext, e_kE0, e_kExt, e_kE1, e_newD, e_dput, e_kPut0, e_kD0, e_kPutS, e_kPutI, e_kD1, e_itKy, e_kKy, e_kGoodD, e_aug, e_kAg, e_kAug, e_kAg1, e_itZ, e_kZL, e_kZT, e_isiT, e_kT1, e_kT2, e_rgA, e_kG1, e_rev, e_kRev, e_gT, e_gsCons, e_kGs, e_gsNil, e_lc2, e_eqS, e_neS, e_ltP, pow18, i_ge, decide_eq_false q, e5, lp']
theorem pile {ns : List Int} {t : Nat} {n : Int} (ht : t < 100) : ∃ m, m__law_pile [.kst (ns.map .int), .int (t : Int)] n = .ok (.own [.int m]) n := by
  unfold m__law_pile
  have start : ∃ a, b__law_pile ⟨[.val (.kst (ns.map .int)), .val (.int (t : Int)), .no, .no, .no], n⟩ = (mSeq (mIfS (mTest (mBin dGe (mVar 2) (mBin dPow (mC (.int 10)) (mC (.int 18))))) (mRet (oLst (aCons (mBin dMod (eF (oB1 dInt (mBin dSub (mVar 2) (mBin dPow (mC (.int 10)) (mC (.int 18)))))) (eF (oBin dMul (eF (oBin dMul (eF (oBin dMul (mBin dPow (mC (.int 10)) (mC (.int 60))) (mBin dPow (mC (.int 10)) (mC (.int 60))))) (mBin dPow (mC (.int 10)) (mC (.int 60))))) (mBin dPow (mC (.int 10)) (mC (.int 60)))))) aNil))) mNext)
  (mSeq (mSet 3 (good (oV (mC (.int 0)))))
  (mSeq (mFor (itR1 (aCons (mC (.int 24)) aNil)) (gN 4) pileBody)
  (mRet (oLst (aCons (mVar 3) aNil)))))) ⟨[.val (.kst (ns.map .int)), .val (.int (t : Int)), .val (.int a), .no, .no], n⟩ := by
    rw [b_pile_eq]
    by_cases q : t < ns.length
    · have e1 := d_lt (a := t) (b := (ns.map D.int).length)
      have e2 : dIx (.kst (ns.map .int)) (.int (t : Int)) = some (.int (ns[t])) := by
        show atI (ns.map D.int) (t : Int) = _
        rw [atI_nat (by simpa using q)]
        simp [q]
      refine ⟨ns[t], ?_⟩
      rw [decide_eq_true (by simpa using q)] at e1
      rw [e_seq]
      simp only [e_set, e_good, e_oV, eC, e_bok, e_kOV, e_kGoodV, e_bsok, e_kSet, e_kSeqN, List.set_cons_succ, List.set_cons_zero]
      rw [e_seq]
      simp only [e_if, e_test, e_bin, e_kBin, e_kBin2, e_eF, e_var, e_kVarV, e_bok, List.getElem?_cons_succ, List.getElem?_cons_zero, e_b1V, e_kGetV, e_kB1V, len_k, e_obs, e_good1v, e_ofs, e_frzv, e1, e_kTest, e_bsok, e_kIfT, e_set, e_good, e_oV, e_ixV, e_kIxV, e_ixAt, e_kAtK, e2, e_kOV, e_kGoodV, e_kSet, e_kSeqN, List.set_cons_succ, List.set_cons_zero]
    · have e1 := d_lt (a := t) (b := (ns.map D.int).length)
      refine ⟨0, ?_⟩
      rw [decide_eq_false (by simpa using q)] at e1
      rw [e_seq]
      simp only [e_set, e_good, e_oV, eC, e_bok, e_kOV, e_kGoodV, e_bsok, e_kSet, e_kSeqN, List.set_cons_succ, List.set_cons_zero]
      rw [e_seq]
      simp only [e_if, e_test, e_bin, e_kBin, e_kBin2, e_eF, e_var, e_kVarV, e_bok, List.getElem?_cons_succ, List.getElem?_cons_zero, e_b1V, e_kGetV, e_kB1V, len_k, e_obs, e_good1v, e_ofs, e_frzv, e1, e_kTest, e_bsok, e_kIfF, e_next, e_kSeqN]
  obtain ⟨a, ha⟩ := start
  obtain ⟨m, s', h1, h2⟩ := pile_end (l := ns.map .int) (t := (t : Int)) (a := a) (n := n) (by omega) (by omega)
  refine ⟨m, (mk_ev (by rfl)).trans ?_⟩
  show outF (b__law_pile ⟨[.val (.kst (ns.map .int)), .val (.int (t : Int)), .no, .no, .no], n⟩) = _
  rw [ha, h1, out_rt, h2]
/-- one digit -/
theorem take_ {m : Int} {k : Nat} (hk : 0 < k) (hk' : k < 4000000) : ∃ d m', d < k ∧ m__law_take [.pile, .int (k : Int)] m = .ok (.val (.int ((d : Nat) : Int))) m' := by
  have h0 : 0 ≤ m % (k : Int) := Int.emod_nonneg _ (by omega)
  have h1 : m % (k : Int) < k := Int.emod_lt_of_pos _ (by omega)
  refine ⟨(m % (k : Int)).toNat, m / k, by omega, ?_⟩
  rw [Int.toNat_of_nonneg h0]
  unfold m__law_take
  refine (mk_ev (by rfl)).trans ?_
  show outF (b__law_take ⟨[.val .pile, .val (.int (k : Int)), .no], m⟩) = _
  unfold b__law_take
  simp only [e_var, e_kVarV, e_kVarO, e_oVar, e_kVoV, e_kVoO, eC, e_bin, e_kBin, e_kBin2, e_oBin, e_kOBin, e_kOBin2, e_good1v, e_good1o, e_test, e_kTest, e_and, e_or, e_not, e_kAndT, e_kAndF, e_kOrT, e_kOrF, e_kNot, e_eand, e_eor, e_enot, e_kEAndT, e_kEAndF, e_kEOrT, e_kEOrF, e_kENot, e_ifE, e_kIfET, e_kIfEF, e_oV, e_kOV, e_eF, e_frzv, e_frzo, e_neg, e_kNeg, e_nil, e_cons, e_kCons, e_kCons2, e_oB1, e_kB1, e_b1V, e_kB1V, e_kGetV, e_kGetO, e_oBn, e_kBn, e_ixV, e_kIxV, e_ixAt, e_kAtS, e_kAtL, e_kAtT, e_kAtK, e_kAtP, e_pSome, e_kSome, e_pNone, e_oSl, e_kSl, e_kSl2, e_kSl3, e_oLst, e_kOL, e_tup, e_kTup, e_call, e_res, e_kResV, e_kResO, e_kResX, e_cP, e_kCP, e_cQ, e_kCQ, e_outRV, e_outRO, e_seq, e_kSeqN, e_kSeqR, e_kSeqB, e_kSeqC, e_kSeqX, e_next, e_set, e_kSet, e_good, e_kGoodV, e_kGoodO, e_kGoodX, e_asg, e_kAsg, e_rsof, e_gN, e_par, e_kPar, e_ret, e_kRet, e_drop, e_kDrop, e_if, e_kIfT, e_kIfF, e_raise, e_for, e_kFor, e_itA, e_kItA, e_itR1, e_itR2, e_kP, e_pileSet, e_kP0, e_app', e_kA0, e_kApp', e_kA1, for_nil, e_kLoopN, e_kLoopC, e_kLoopB, e_kLoopR, e_kWhN, e_kWhC, e_kWhB, e_kWhR, e_oLc, e_yes, e_bok, e_bexc, e_bsok, e_bsexc, e_ofs, e_obs, e_oms, out_rt, out_nx, List.set_cons_zero, List.set_cons_succ, List.getElem?_cons_zero, List.getElem?_cons_succ, List.map_cons, List.map_nil, List.length_cons, List.length_nil, List.cons_append, List.nil_append, Nat.reduceAdd, Nat.reduceLeDiff, Nat.zero_add, Nat.reduceLT, e_ins, e_kI0, e_kIns, e_ext, e_kE0, e_kExt, e_kE1, e_newD, e_dput, e_kPut0, e_kD0, e_kPutS, e_kPutI, e_kD1, e_itKy, e_kKy, e_kGoodD, e_aug, e_kAg, e_kAug, e_kAg1, e_itZ, e_kZL, e_kZT, e_isiT, e_kT1, e_kT2, e_rgA, e_kG1, e_rev, e_kRev, e_gT, e_gsCons, e_kGs, e_gsNil, e_lc2, e_eqS, e_neS, e_ltP, i_int, i_mod (show (0 : Int) < (k : Int) by omega), i_div (show (0 : Int) < (k : Int) by omega) (show (k : Int) < 1073741824 by omega)]
def Ls (ls : List Nat) : Prop := ls = [97, 98] ∨ ls = [97, 98, 99] ∨ ls = [97] ∨ ls = [107, 109, 122]
theorem ls_len {ls : List Nat} (h : Ls ls) : 0 < ls.length ∧ ls.length < 1000 ∧ isL ls = true := by
  rcases h with rfl | rfl | rfl | rfl <;> decide
theorem ls_ix {ls : List Nat} {d : Nat} (h : Ls ls) (hd : d < ls.length) : ∃ c, isL [c] = true ∧ dIx (.str ls) (.int ((d : Nat) : Int)) = some (.str [c]) := by
  obtain ⟨h0, h1, h2⟩ := ls_len h
  refine ⟨ls[d], ?_, ?_⟩
  · unfold isL inL at h2 ⊢
    rw [List.all_eq_true] at h2
    simpa using h2 _ (List.getElem_mem hd)
  · have h1 : dIx (.str ls) (.int (d : Int)) = (atI ls (d : Int)).map fun c => .str [c] := if_pos (small_le (by omega))
    rw [h1, atI_nat hd, List.getElem?_eq_getElem hd]
    rfl
theorem ls_dlen {ls : List Nat} (h : Ls ls) : dLen (.str ls) = some (.val (.int (ls.length : Int))) := d_len (by have := ls_len h; omega)
def wBody : SM := (mSet 3 (good (oBin dAdd (mVar 3) (mIxV 1 (eF (oCall m__law_take (aCons (mVar 0) (aCons (eF (oB1V dLen 1)) aNil))))))))
theorem word_loop {ls : List Nat} {mo : SV} {K : Nat} (h : Ls ls) (hK : K ≤ 100) : ∀ (ds : List D) (u : List Nat) (x : SV) (m : Int), u.length + ds.length ≤ K → isL u = true →
    ∃ u' x' m', forLoop (gN 4) wBody ds ⟨[.val .pile, .val (.str ls), mo, .val (.str u), x], m⟩ = .nx ⟨[.val .pile, .val (.str ls), mo, .val (.str u'), x'], m'⟩ ∧ u'.length ≤ K ∧ isL u' = true
  | [], u, x, m, hl, hu => ⟨u, x, m, rfl, by simpa using hl, hu⟩
  | d :: r, u, x, m, hl, hu => by
    rw [List.length_cons] at hl
    obtain ⟨l0, l1, l2⟩ := ls_len h
    obtain ⟨k, m1, hk, e1⟩ := take_ (m := m) l0 (by omega)
    obtain ⟨c, hc, e2⟩ := ls_ix h hk
    have e3 : dAdd (.str u) (.str [c]) = _ := d_adds (by rw [List.length_singleton]; omega)
    rw [for_cons rfl]
    have eb : wBody ⟨[.val .pile, .val (.str ls), mo, .val (.str u), .val d], m⟩ = .nx ⟨[.val .pile, .val (.str ls), mo, .val (.str (u ++ [c])), .val d], m1⟩ := by
      unfold wBody
      simp only [e_var, e_kVarV, e_kVarO, e_oVar, e_kVoV, e_kVoO, eC, e_bin, e_kBin, e_kBin2, e_oBin, e_kOBin, e_kOBin2, e_good1v, e_good1o, e_test, e_kTest, e_and, e_or, e_not, e_kAndT, e_kAndF, e_kOrT, e_kOrF, e_kNot, e_eand, e_eor, e_enot, e_kEAndT, e_kEAndF, e_kEOrT, e_kEOrF, e_kENot, e_ifE, e_kIfET, e_kIfEF, e_oV, e_kOV, e_eF, e_frzv, e_frzo, e_neg, e_kNeg, e_nil, e_cons, e_kCons, e_kCons2, e_oB1, e_kB1, e_b1V, e_kB1V, e_kGetV, e_kGetO, e_oBn, e_kBn, e_ixV, e_kIxV, e_ixAt, e_kAtS, e_kAtL, e_kAtT, e_kAtK, e_kAtP, e_pSome, e_kSome, e_pNone, e_oSl, e_kSl, e_kSl2, e_kSl3, e_oLst, e_kOL, e_tup, e_kTup, e_call, e_res, e_kResV, e_kResO, e_kResX, e_cP, e_kCP, e_cQ, e_kCQ, e_outRV, e_outRO, e_seq, e_kSeqN, e_kSeqR, e_kSeqB, e_kSeqC, e_kSeqX, e_next, e_set, e_kSet, e_good, e_kGoodV, e_kGoodO, e_kGoodX, e_asg, e_kAsg, e_rsof, e_gN, e_par, e_kPar, e_ret, e_kRet, e_drop, e_kDrop, e_if, e_kIfT, e_kIfF, e_raise, e_for, e_kFor, e_itA, e_kItA, e_itR1, e_itR2, e_kP, e_pileSet, e_kP0, e_app', e_kA0, e_kApp', e_kA1, for_nil, e_kLoopN, e_kLoopC, e_kLoopB, e_kLoopR, e_kWhN, e_kWhC, e_kWhB, e_kWhR, e_oLc, e_yes, e_bok, e_bexc, e_bsok, e_bsexc, e_ofs, e_obs, e_oms, out_rt, out_nx, List.set_cons_zero, List.set_cons_succ, List.getElem?_cons_zero, List.getElem?_cons_succ, List.map_cons, List.map_nil, List.length_cons, List.length_nil, List.cons_append, List.nil_append, Nat.reduceAdd, Nat.reduceLeDiff, Nat.zero_add, Nat.reduceLT, e_ins, e_kI0, e_kIns, e_ext, e_kE0, e_kExt, e_kE1, e_newD, e_dput, e_kPut0, e_kD0, e_kPutS, e_kPutI, e_kD1, e_itKy, e_kKy, e_kGoodD, e_aug, e_kAg, e_kAug, e_kAg1, e_itZ, e_kZL, e_kZT, e_isiT, e_kT1, e_kT2, e_rgA, e_kG1, e_rev, e_kRev, e_gT, e_gsCons, e_kGs, e_gsNil, e_lc2, e_eqS, e_neS, e_ltP, ls_dlen h, e1, e2, e3]
    simp only [List.set_cons_succ, List.set_cons_zero, eb, e_kLoopN]
    exact word_loop h hK r _ _ _ (by rw [List.length_append, List.length_singleton]; omega) (inL_app hu hc)
theorem b_word_eq : b__law_word = (mSeq (mSet 3 (good (oV (mC (.str [])))))
  (mSeq (mFor (itR1 (aCons (eF (oCall m__law_take (aCons (mVar 0) (aCons (eF (oBin dAdd (mVar 2) (mC (.int 1)))) aNil)))) aNil)) (gN 4) wBody)
  (mRet (oVar 3)))) := rfl
theorem word_ {ls : List Nat} {m : Int} (h : Ls ls) : ∃ u m', m__law_word [.pile, .str ls, .int 6] m = .ok (.val (.str u)) m' ∧ u.length ≤ 6 ∧ isL u = true := by
  obtain ⟨k, m1, hk, e1⟩ := take_ (m := m) (k := 7) (by omega) (by omega)
  have e1' : m__law_take [.pile, .int 7] m = .ok (.val (.int (k : Int))) m1 := e1
  have e2 : dAdd (.int 6) (.int 1) = some (.val (.int 7)) := rfl
  have e3 : ∀ s, kR1 [.int (k : Int)] s = .ok (dInts 0 k) s := fun s => by rw [e_kR1 ⟨by omega, by omega⟩, Int.toNat_natCast]
  obtain ⟨u, x, m2, lp, hu, hl⟩ := word_loop (mo := .val (.int 6)) (K := 6) h (by omega) (dInts 0 k) [] .no m1 (by unfold dInts; simp; omega) rfl
  refine ⟨u, m2, ?_, hu, hl⟩
  unfold m__law_word
  refine (mk_ev (by rfl)).trans ?_
  show outF (b__law_word ⟨[.val .pile, .val (.str ls), .val (.int 6), .no, .no], m⟩) = _
  rw [b_word_eq]
  simp only [e_var, e_kVarV, e_kVarO, e_oVar, e_kVoV, e_kVoO, eC, e_bin, e_kBin, e_kBin2, e_oBin, e_kOBin, e_kOBin2, e_good1v, e_good1o, e_test, e_kTest, e_and, e_or, e_not, e_kAndT, e_kAndF, e_kOrT, e_kOrF, e_kNot, e_eand, e_eor, e_enot, e_kEAndT, e_kEAndF, e_kEOrT, e_kEOrF, e_kENot, e_ifE, e_kIfET, e_kIfEF, e_oV, e_kOV, e_eF, e_frzv, e_frzo, e_neg, e_kNeg, e_nil, e_cons, e_kCons, e_kCons2, e_oB1, e_kB1, e_b1V, e_kB1V, e_kGetV, e_kGetO, e_oBn, e_kBn, e_ixV, e_kIxV, e_ixAt, e_kAtS, e_kAtL, e_kAtT, e_kAtK, e_kAtP, e_pSome, e_kSome, e_pNone, e_oSl, e_kSl, e_kSl2, e_kSl3, e_oLst, e_kOL, e_tup, e_kTup, e_call, e_res, e_kResV, e_kResO, e_kResX, e_cP, e_kCP, e_cQ, e_kCQ, e_outRV, e_outRO, e_seq, e_kSeqN, e_kSeqR, e_kSeqB, e_kSeqC, e_kSeqX, e_next, e_set, e_kSet, e_good, e_kGoodV, e_kGoodO, e_kGoodX, e_asg, e_kAsg, e_rsof, e_gN, e_par, e_kPar, e_ret, e_kRet, e_drop, e_kDrop, e_if, e_kIfT, e_kIfF, e_raise, e_for, e_kFor, e_itA, e_kItA, e_itR1, e_itR2, e_kP, e_pileSet, e_kP0, e_app', e_kA0, e_kApp', e_kA1, for_nil, e_kLoopN, e_kLoopC, e_kLoopB, e_kLoopR, e_kWhN, e_kWhC, e_kWhB, e_kWhR, e_oLc, e_yes, e_bok, e_bexc, e_bsok, e_bsexc, e_ofs, e_obs, e_oms, out_rt, out_nx, List.set_cons_zero, List.set_cons_succ, List.getElem?_cons_zero, List.getElem?_cons_succ, List.map_cons, List.map_nil, List.length_cons, List.length_nil, List.cons_append, List.nil_append, Nat.reduceAdd, Nat.reduceLeDiff, Nat.zero_add, Nat.reduceLT, e_ins, e_kI0, e_kIns, e_ext, e_kE0, e_kExt, e_kE1, e_newD, e_dput, e_kPut0, e_kD0, e_kPutS, e_kPutI, e_kD1, e_itKy, e_kKy, e_kGoodD, e_aug, e_kAg, e_kAug, e_kAg1, e_itZ, e_kZL, e_kZT, e_isiT, e_kT1, e_kT2, e_rgA, e_kG1, e_rev, e_kRev, e_gT, e_gsCons, e_kGs, e_gsNil, e_lc2, e_eqS, e_neS, e_ltP, e1', e2, e3, lp]
theorem letters_ {m : Int} : ∃ ls m', m__law_letters [.pile] m = .ok (.val (.str ls)) m' ∧ Ls ls := by
  obtain ⟨k, m1, hk, e1⟩ := take_ (m := m) (k := 6) (by omega) (by omega)
  have e1' : m__law_take [.pile, .int 6] m = .ok (.val (.int (k : Int))) m1 := e1
  have e2 : ∃ ls, dIx (.lst [.str [97, 98], .str [97, 98], .str [97, 98], .str [97, 98, 99], .str [97], .str [107, 109, 122]]) (.int (k : Int)) = some (.str ls) ∧ Ls ls := by
    match k, hk with
    | 0, _ => exact ⟨_, rfl, .inl rfl⟩
    | 1, _ => exact ⟨_, rfl, .inl rfl⟩
    | 2, _ => exact ⟨_, rfl, .inl rfl⟩
    | 3, _ => exact ⟨_, rfl, .inr (.inl rfl)⟩
    | 4, _ => exact ⟨_, rfl, .inr (.inr (.inl rfl))⟩
    | 5, _ => exact ⟨_, rfl, .inr (.inr (.inr rfl))⟩
  obtain ⟨ls, e2, hls⟩ := e2
  refine ⟨ls, m1, ?_, hls⟩
  unfold m__law_letters
  refine (mk_ev (by rfl)).trans ?_
  show outF (b__law_letters ⟨[.val .pile], m⟩) = _
  unfold b__law_letters
  simp only [e_var, e_kVarV, e_kVarO, e_oVar, e_kVoV, e_kVoO, eC, e_bin, e_kBin, e_kBin2, e_oBin, e_kOBin, e_kOBin2, e_good1v, e_good1o, e_test, e_kTest, e_and, e_or, e_not, e_kAndT, e_kAndF, e_kOrT, e_kOrF, e_kNot, e_eand, e_eor, e_enot, e_kEAndT, e_kEAndF, e_kEOrT, e_kEOrF, e_kENot, e_ifE, e_kIfET, e_kIfEF, e_oV, e_kOV, e_eF, e_frzv, e_frzo, e_neg, e_kNeg, e_nil, e_cons, e_kCons, e_kCons2, e_oB1, e_kB1, e_b1V, e_kB1V, e_kGetV, e_kGetO, e_oBn, e_kBn, e_ixV, e_kIxV, e_ixAt, e_kAtS, e_kAtL, e_kAtT, e_kAtK, e_kAtP, e_pSome, e_kSome, e_pNone, e_oSl, e_kSl, e_kSl2, e_kSl3, e_oLst, e_kOL, e_tup, e_kTup, e_call, e_res, e_kResV, e_kResO, e_kResX, e_cP, e_kCP, e_cQ, e_kCQ, e_outRV, e_outRO, e_seq, e_kSeqN, e_kSeqR, e_kSeqB, e_kSeqC, e_kSeqX, e_next, e_set, e_kSet, e_good, e_kGoodV, e_kGoodO, e_kGoodX, e_asg, e_kAsg, e_rsof, e_gN, e_par, e_kPar, e_ret, e_kRet, e_drop, e_kDrop, e_if, e_kIfT, e_kIfF, e_raise, e_for, e_kFor, e_itA, e_kItA, e_itR1, e_itR2, e_kP, e_pileSet, e_kP0, e_app', e_kA0, e_kApp', e_kA1, for_nil, e_kLoopN, e_kLoopC, e_kLoopB, e_kLoopR, e_kWhN, e_kWhC, e_kWhB, e_kWhR, e_oLc, e_yes, e_bok, e_bexc, e_bsok, e_bsexc, e_ofs, e_obs, e_oms, out_rt, out_nx, List.set_cons_zero, List.set_cons_succ, List.getElem?_cons_zero, List.getElem?_cons_succ, List.map_cons, List.map_nil, List.length_cons, List.length_nil, List.cons_append, List.nil_append, Nat.reduceAdd, Nat.reduceLeDiff, Nat.zero_add, Nat.reduceLT, e_ins, e_kI0, e_kIns, e_ext, e_kE0, e_kExt, e_kE1, e_newD, e_dput, e_kPut0, e_kD0, e_kPutS, e_kPutI, e_kD1, e_itKy, e_kKy, e_kGoodD, e_aug, e_kAg, e_kAug, e_kAg1, e_itZ, e_kZL, e_kZT, e_isiT, e_kT1, e_kT2, e_rgA, e_kG1, e_rev, e_kRev, e_gT, e_gsCons, e_kGs, e_gsNil, e_lc2, e_eqS, e_neS, e_ltP, e1', e2]
end Pd

/-! plain laws of templates: what is one, filling, drawn ones -/
namespace Pd
open PySem L2 Tk

/-! ### unfolding -/
def kOnly : RS → RS
  | .nx s => .nx s
  | .exc c n s => .exc c n s
  | _ => .stuck
theorem e_only {m : SM} {s : S} : onlyNx m s = kOnly (m s) := (id rfl)
theorem e_kOnlyN {s : S} : kOnly (.nx s) = .nx s := (id rfl)
def kIL (d : D) (s : S) : R (List D) := match d with
  | .lst l => .ok l s
  | _ => .stuck
theorem e_itL {m : EM} {s : S} : itL m s = (m s).bind kIL := (id rfl)
theorem e_kIL {l : List D} {s : S} : kIL (.lst l) s = .ok l s := (id rfl)
def kRpl (c : Nat) (s : S) (a b : Option SV) : R SV := match a, b with
  | some (.val (.str x)), some (.val (.str z)) => if z ≠ [c] ∧ x.length + (x.length + 1) * z.length ≤ 16777216 then .ok (.val (.str (repl1 c z x))) s else .stuck
  | _, _ => .stuck
theorem e_repl {i c j : Nat} {l : List SV} {n : Int} : oRepl i c j ⟨l, n⟩ = kRpl c ⟨l, n⟩ l[i]? l[j]? := (id rfl)
theorem e_kRpl {c : Nat} {s : S} {x z : List Nat} (h : z ≠ [c] ∧ x.length + (x.length + 1) * z.length ≤ 16777216) : kRpl c s (some (.val (.str x))) (some (.val (.str z))) = .ok (.val (.str (repl1 c z x))) s := if_pos h
theorem t_add {u v : List Nat} (h : u.length + v.length ≤ 4000000) : dAddT (.str u) (.str v) = some (.str (u ++ v)) := if_pos (by have e := sizeLine_eq; omega)
theorem t_ix {ls : List Nat} {d : Nat} (h : Ls ls) (hd : d < ls.length) : ∃ c, isL [c] = true ∧ dIxT (.str ls) (.int ((d : Nat) : Int)) = some (.str [c]) := by
  obtain ⟨c, h1, h2⟩ := ls_ix h hd
  exact ⟨c, h1, h2⟩
theorem e_rg {k : Nat} (h : k ≤ 4000000) (s : S) : kR1 [.int (k : Int)] s = .ok (dInts 0 k) s := by rw [e_kR1 ⟨by omega, by omega⟩, Int.toNat_natCast]

/-! ### words -/
theorem word_k {ls : List Nat} {m : Int} {K : Nat} (h : Ls ls) (hK : K ≤ 20) : ∃ u m', m__law_word [.pile, .str ls, .int (K : Int)] m = .ok (.val (.str u)) m' ∧ u.length ≤ K ∧ isL u = true := by
  obtain ⟨k, m1, hk, e1⟩ := take_ (m := m) (k := K + 1) (by omega) (by omega)
  have e3 : ∀ s, kR1 [.int (k : Int)] s = .ok (dInts 0 k) s := fun s => by rw [e_kR1 ⟨by omega, by omega⟩, Int.toNat_natCast]
  obtain ⟨u, x, m2, lp, hu, hl⟩ := word_loop (mo := .val (.int (K : Int))) (K := K) h (by omega) (dInts 0 k) [] .no m1 (by unfold dInts; simp; omega) rfl
  refine ⟨u, m2, ?_, hu, hl⟩
  unfold m__law_word
  refine (mk_ev (by rfl)).trans ?_
  show outF (b__law_word ⟨[.val .pile, .val (.str ls), .val (.int (K : Int)), .no, .no], m⟩) = _
  rw [b_word_eq]
  simp only [e_var, e_kVarV, e_kVarO, e_oVar, e_kVoV, e_kVoO, eC, e_bin, e_kBin, e_kBin2, e_oBin, e_kOBin, e_kOBin2, e_good1v, e_good1o, e_test, e_kTest, e_and, e_or, e_not, e_kAndT, e_kAndF, e_kOrT, e_kOrF, e_kNot, e_eand, e_eor, e_enot, e_kEAndT, e_kEAndF, e_kEOrT, e_kEOrF, e_kENot, e_ifE, e_kIfET, e_kIfEF, e_oV, e_kOV, e_eF, e_frzv, e_frzo, e_neg, e_kNeg, e_nil, e_cons, e_kCons, e_kCons2, e_oB1, e_kB1, e_b1V, e_kB1V, e_kGetV, e_kGetO, e_oBn, e_kBn, e_ixV, e_kIxV, e_ixAt, e_kAtS, e_kAtL, e_kAtT, e_kAtK, e_kAtP, e_pSome, e_kSome, e_pNone, e_oSl, e_kSl, e_kSl2, e_kSl3, e_oLst, e_kOL, e_tup, e_kTup, e_call, e_res, e_kResV, e_kResO, e_kResX, e_cP, e_kCP, e_cQ, e_kCQ, e_outRV, e_outRO, e_seq, e_kSeqN, e_kSeqR, e_kSeqB, e_kSeqC, e_kSeqX, e_next, e_set, e_kSet, e_good, e_kGoodV, e_kGoodO, e_kGoodX, e_asg, e_kAsg, e_rsof, e_gN, e_par, e_kPar, e_ret, e_kRet, e_drop, e_kDrop, e_if, e_kIfT, e_kIfF, e_raise, e_for, e_kFor, e_itA, e_kItA, e_itR1, e_itR2, e_kP, e_pileSet, e_kP0, e_app', e_kA0, e_kApp', e_kA1, for_nil, e_kLoopN, e_kLoopC, e_kLoopB, e_kLoopR, e_kWhN, e_kWhC, e_kWhB, e_kWhR, e_oLc, e_yes, e_bok, e_bexc, e_bsok, e_bsexc, e_ofs, e_obs, e_oms, out_rt, out_nx, List.set_cons_zero, List.set_cons_succ, List.getElem?_cons_zero, List.getElem?_cons_succ, List.map_cons, List.map_nil, List.length_cons, List.length_nil, List.cons_append, List.nil_append, Nat.reduceAdd, Nat.reduceLeDiff, Nat.zero_add, Nat.reduceLT, e_ins, e_kI0, e_kIns, e_ext, e_kE0, e_kExt, e_kE1, e_newD, e_dput, e_kPut0, e_kD0, e_kPutS, e_kPutI, e_kD1, e_itKy, e_kKy, e_kGoodD, e_aug, e_kAg, e_kAug, e_kAg1, e_itZ, e_kZL, e_kZT, e_isiT, e_kT1, e_kT2, e_rgA, e_kG1, e_rev, e_kRev, e_gT, e_gsCons, e_kGs, e_gsNil, e_lc2, e_eqS, e_neS, e_ltP, d_add1, e1, e3, lp]
def wBodyK : SM := (mSeq (mSet 3 (good (oV (mBin dAddT (mVar 3) (mBin dIxT (mVar 1) (eF (oCall m__law_take (aCons (mVar 0) (aCons (eF (oB1V dLen 1)) aNil))))))))) mNext)
theorem wordK_loop {ls : List Nat} {mo : SV} {K : Nat} (h : Ls ls) (hK : K ≤ 100) : ∀ (ds : List D) (u : List Nat) (x : SV) (m : Int), u.length + ds.length ≤ K → isL u = true →
    ∃ u' x' m', forLoop (gN 4) wBodyK ds ⟨[.val .pile, .val (.str ls), mo, .val (.str u), x], m⟩ = .nx ⟨[.val .pile, .val (.str ls), mo, .val (.str u'), x'], m'⟩ ∧ u'.length ≤ K ∧ isL u' = true
  | [], u, x, m, hl, hu => ⟨u, x, m, rfl, by simpa using hl, hu⟩
  | d :: r, u, x, m, hl, hu => by
    rw [List.length_cons] at hl
    obtain ⟨l0, l1, l2⟩ := ls_len h
    obtain ⟨k, m1, hk, e1⟩ := take_ (m := m) l0 (by omega)
    obtain ⟨c, hc, e2⟩ := t_ix h hk
    have e3 : dAddT (.str u) (.str [c]) = _ := t_add (by rw [List.length_singleton]; omega)
    rw [for_cons rfl]
    have eb : wBodyK ⟨[.val .pile, .val (.str ls), mo, .val (.str u), .val d], m⟩ = .nx ⟨[.val .pile, .val (.str ls), mo, .val (.str (u ++ [c])), .val d], m1⟩ := by
      unfold wBodyK
      simp only [e_var, e_kVarV, e_kVarO, e_oVar, e_kVoV, e_kVoO, eC, e_bin, e_kBin, e_kBin2, e_oBin, e_kOBin, e_kOBin2, e_good1v, e_good1o, e_test, e_kTest, e_and, e_or, e_not, e_kAndT, e_kAndF, e_kOrT, e_kOrF, e_kNot, e_eand, e_eor, e_enot, e_kEAndT, e_kEAndF, e_kEOrT, e_kEOrF, e_kENot, e_ifE, e_kIfET, e_kIfEF, e_oV, e_kOV, e_eF, e_frzv, e_frzo, e_neg, e_kNeg, e_nil, e_cons, e_kCons, e_kCons2, e_oB1, e_kB1, e_b1V, e_kB1V, e_kGetV, e_kGetO, e_oBn, e_kBn, e_ixV, e_kIxV, e_ixAt, e_kAtS, e_kAtL, e_kAtT, e_kAtK, e_kAtP, e_pSome, e_kSome, e_pNone, e_oSl, e_kSl, e_kSl2, e_kSl3, e_oLst, e_kOL, e_tup, e_kTup, e_call, e_res, e_kResV, e_kResO, e_kResX, e_cP, e_kCP, e_cQ, e_kCQ, e_outRV, e_outRO, e_seq, e_kSeqN, e_kSeqR, e_kSeqB, e_kSeqC, e_kSeqX, e_next, e_set, e_kSet, e_good, e_kGoodV, e_kGoodO, e_kGoodX, e_asg, e_kAsg, e_rsof, e_gN, e_par, e_kPar, e_ret, e_kRet, e_drop, e_kDrop, e_if, e_kIfT, e_kIfF, e_raise, e_for, e_kFor, e_itA, e_kItA, e_itR1, e_itR2, e_kP, e_pileSet, e_kP0, e_app', e_kA0, e_kApp', e_kA1, for_nil, e_kLoopN, e_kLoopC, e_kLoopB, e_kLoopR, e_kWhN, e_kWhC, e_kWhB, e_kWhR, e_oLc, e_yes, e_bok, e_bexc, e_bsok, e_bsexc, e_ofs, e_obs, e_oms, out_rt, out_nx, List.set_cons_zero, List.set_cons_succ, List.getElem?_cons_zero, List.getElem?_cons_succ, List.map_cons, List.map_nil, List.length_cons, List.length_nil, List.cons_append, List.nil_append, Nat.reduceAdd, Nat.reduceLeDiff, Nat.zero_add, Nat.reduceLT, e_ins, e_kI0, e_kIns, e_ext, e_kE0, e_kExt, e_kE1, e_newD, e_dput, e_kPut0, e_kD0, e_kPutS, e_kPutI, e_kD1, e_itKy, e_kKy, e_kGoodD, e_aug, e_kAg, e_kAug, e_kAg1, e_itZ, e_kZL, e_kZT, e_isiT, e_kT1, e_kT2, e_rgA, e_kG1, e_rev, e_kRev, e_gT, e_gsCons, e_kGs, e_gsNil, e_lc2, e_eqS, e_neS, e_ltP, ls_dlen h, e1, e2, e3]
    simp only [List.set_cons_succ, List.set_cons_zero, eb, e_kLoopN]
    exact wordK_loop h hK r _ _ _ (by rw [List.length_append, List.length_singleton]; omega) (inL_app hu hc)
theorem bK_word_eq : bK__law_word = (mSeq (mSet 3 (good (oV (mC (.str []))))) (mSeq (onlyNx (mFor (itR1 (aCons (eF (oCall m__law_take (aCons (mVar 0) (aCons (mBin dAddI (mVar 2) (mC (.int 1))) aNil)))) aNil)) (gN 4) wBodyK)) (mRet (oV (mVar 3))))) := rfl
theorem i_addI {a : Nat} : dAddI (.int (a : Int)) (.int 1) = some (.int ((a + 1 : Nat) : Int)) := by
  show some (D.int ((a : Int) + 1)) = _
  rw [e_add1]
theorem wordK {ls : List Nat} {m : Int} {K : Nat} (h : Ls ls) (hK : K ≤ 20) : ∃ u m', mK__law_word [.pile, .str ls, .int (K : Int)] m = .ok (.val (.str u)) m' ∧ u.length ≤ K ∧ isL u = true := by
  obtain ⟨k, m1, hk, e1⟩ := take_ (m := m) (k := K + 1) (by omega) (by omega)
  have e3 : ∀ s, kR1 [.int (k : Int)] s = .ok (dInts 0 k) s := fun s => by rw [e_kR1 ⟨by omega, by omega⟩, Int.toNat_natCast]
  obtain ⟨u, x, m2, lp, hu, hl⟩ := wordK_loop (mo := .val (.int (K : Int))) (K := K) h (by omega) (dInts 0 k) [] .no m1 (by unfold dInts; simp; omega) rfl
  refine ⟨u, m2, ?_, hu, hl⟩
  unfold mK__law_word
  refine (mk_ev (by rfl)).trans ?_
  show outF (bK__law_word ⟨[.val .pile, .val (.str ls), .val (.int (K : Int)), .no, .no], m⟩) = _
  rw [bK_word_eq]
  simp only [e_var, e_kVarV, e_kVarO, e_oVar, e_kVoV, e_kVoO, eC, e_bin, e_kBin, e_kBin2, e_oBin, e_kOBin, e_kOBin2, e_good1v, e_good1o, e_test, e_kTest, e_and, e_or, e_not, e_kAndT, e_kAndF, e_kOrT, e_kOrF, e_kNot, e_eand, e_eor, e_enot, e_kEAndT, e_kEAndF, e_kEOrT, e_kEOrF, e_kENot, e_ifE, e_kIfET, e_kIfEF, e_oV, e_kOV, e_eF, e_frzv, e_frzo, e_neg, e_kNeg, e_nil, e_cons, e_kCons, e_kCons2, e_oB1, e_kB1, e_b1V, e_kB1V, e_kGetV, e_kGetO, e_oBn, e_kBn, e_ixV, e_kIxV, e_ixAt, e_kAtS, e_kAtL, e_kAtT, e_kAtK, e_kAtP, e_pSome, e_kSome, e_pNone, e_oSl, e_kSl, e_kSl2, e_kSl3, e_oLst, e_kOL, e_tup, e_kTup, e_call, e_res, e_kResV, e_kResO, e_kResX, e_cP, e_kCP, e_cQ, e_kCQ, e_outRV, e_outRO, e_seq, e_kSeqN, e_kSeqR, e_kSeqB, e_kSeqC, e_kSeqX, e_next, e_set, e_kSet, e_good, e_kGoodV, e_kGoodO, e_kGoodX, e_asg, e_kAsg, e_rsof, e_gN, e_par, e_kPar, e_ret, e_kRet, e_drop, e_kDrop, e_if, e_kIfT, e_kIfF, e_raise, e_for, e_kFor, e_itA, e_kItA, e_itR1, e_itR2, e_kP, e_pileSet, e_kP0, e_app', e_kA0, e_kApp', e_kA1, for_nil, e_kLoopN, e_kLoopC, e_kLoopB, e_kLoopR, e_kWhN, e_kWhC, e_kWhB, e_kWhR, e_oLc, e_yes, e_bok, e_bexc, e_bsok, e_bsexc, e_ofs, e_obs, e_oms, out_rt, out_nx, List.set_cons_zero, List.set_cons_succ, List.getElem?_cons_zero, List.getElem?_cons_succ, List.map_cons, List.map_nil, List.length_cons, List.length_nil, List.cons_append, List.nil_append, Nat.reduceAdd, Nat.reduceLeDiff, Nat.zero_add, Nat.reduceLT, e_ins, e_kI0, e_kIns, e_ext, e_kE0, e_kExt, e_kE1, e_newD, e_dput, e_kPut0, e_kD0, e_kPutS, e_kPutI, e_kD1, e_itKy, e_kKy, e_kGoodD, e_aug, e_kAg, e_kAug, e_kAg1, e_itZ, e_kZL, e_kZT, e_isiT, e_kT1, e_kT2, e_rgA, e_kG1, e_rev, e_kRev, e_gT, e_gsCons, e_kGs, e_gsNil, e_lc2, e_eqS, e_neS, e_ltP, e_only, e_kOnlyN, i_addI, e1, e3, lp]

/-! ### templates -/
abbrev isT (w : List Nat) : Bool := inL w (k_LETTERS ++ [63])
theorem isT_of {w : List Nat} (h : isL w = true) : isT w = true := by
  unfold isL at h
  unfold isT
  unfold inL at h ⊢
  rw [List.all_eq_true] at h ⊢
  exact fun c hc => decide_eq_true (List.mem_append_left _ (of_decide_eq_true (h c hc)))
theorem k_tmpl : dAdd (.str k_LETTERS) (.str [63]) = some (.val (.str (k_LETTERS ++ [63]))) := d_adds (by decide)
theorem is_template_str {w : List Nat} {n : Int} (h : w.length ≤ 2000000) : m_is_template [.str w] n = .ok (.val (.bl (isT w))) n := by
  unfold m_is_template
  refine (mk_ev (by rfl)).trans ?_
  show outF (b_is_template ⟨[.val (.str w)], n⟩) = _
  unfold b_is_template
  simp only [e_var, e_kVarV, e_kVarO, e_oVar, e_kVoV, e_kVoO, eC, e_bin, e_kBin, e_kBin2, e_oBin, e_kOBin, e_kOBin2, e_good1v, e_good1o, e_test, e_kTest, e_and, e_or, e_not, e_kAndT, e_kAndF, e_kOrT, e_kOrF, e_kNot, e_eand, e_eor, e_enot, e_kEAndT, e_kEAndF, e_kEOrT, e_kEOrF, e_kENot, e_ifE, e_kIfET, e_kIfEF, e_oV, e_kOV, e_eF, e_frzv, e_frzo, e_neg, e_kNeg, e_nil, e_cons, e_kCons, e_kCons2, e_oB1, e_kB1, e_b1V, e_kB1V, e_kGetV, e_kGetO, e_oBn, e_kBn, e_ixV, e_kIxV, e_ixAt, e_kAtS, e_kAtL, e_kAtT, e_kAtK, e_kAtP, e_pSome, e_kSome, e_pNone, e_oSl, e_kSl, e_kSl2, e_kSl3, e_oLst, e_kOL, e_tup, e_kTup, e_call, e_res, e_kResV, e_kResO, e_kResX, e_cP, e_kCP, e_cQ, e_kCQ, e_outRV, e_outRO, e_seq, e_kSeqN, e_kSeqR, e_kSeqB, e_kSeqC, e_kSeqX, e_next, e_set, e_kSet, e_good, e_kGoodV, e_kGoodO, e_kGoodX, e_asg, e_kAsg, e_rsof, e_gN, e_par, e_kPar, e_ret, e_kRet, e_drop, e_kDrop, e_if, e_kIfT, e_kIfF, e_raise, e_for, e_kFor, e_itA, e_kItA, e_itR1, e_itR2, e_kP, e_pileSet, e_kP0, e_app', e_kA0, e_kApp', e_kA1, for_nil, e_kLoopN, e_kLoopC, e_kLoopB, e_kLoopR, e_kWhN, e_kWhC, e_kWhB, e_kWhR, e_oLc, e_yes, e_bok, e_bexc, e_bsok, e_bsexc, e_ofs, e_obs, e_oms, out_rt, out_nx, List.set_cons_zero, List.set_cons_succ, List.getElem?_cons_zero, List.getElem?_cons_succ, List.map_cons, List.map_nil, List.length_cons, List.length_nil, List.cons_append, List.nil_append, Nat.reduceAdd, Nat.reduceLeDiff, Nat.zero_add, Nat.reduceLT, k_tmpl, is_of_str h]
theorem look_template {w : List Nat} {n : Int} (h : isT w = true) (hl : w.length ≤ 2000000) : m_look_at_template [.str w] n = .ok (.val .non) n := by
  unfold m_look_at_template
  refine (mk_ev (by rfl)).trans ?_
  show outF (b_look_at_template ⟨[.val (.str w)], n⟩) = _
  unfold b_look_at_template
  simp only [e_var, e_kVarV, e_kVarO, e_oVar, e_kVoV, e_kVoO, eC, e_bin, e_kBin, e_kBin2, e_oBin, e_kOBin, e_kOBin2, e_good1v, e_good1o, e_test, e_kTest, e_and, e_or, e_not, e_kAndT, e_kAndF, e_kOrT, e_kOrF, e_kNot, e_eand, e_eor, e_enot, e_kEAndT, e_kEAndF, e_kEOrT, e_kEOrF, e_kENot, e_ifE, e_kIfET, e_kIfEF, e_oV, e_kOV, e_eF, e_frzv, e_frzo, e_neg, e_kNeg, e_nil, e_cons, e_kCons, e_kCons2, e_oB1, e_kB1, e_b1V, e_kB1V, e_kGetV, e_kGetO, e_oBn, e_kBn, e_ixV, e_kIxV, e_ixAt, e_kAtS, e_kAtL, e_kAtT, e_kAtK, e_kAtP, e_pSome, e_kSome, e_pNone, e_oSl, e_kSl, e_kSl2, e_kSl3, e_oLst, e_kOL, e_tup, e_kTup, e_call, e_res, e_kResV, e_kResO, e_kResX, e_cP, e_kCP, e_cQ, e_kCQ, e_outRV, e_outRO, e_seq, e_kSeqN, e_kSeqR, e_kSeqB, e_kSeqC, e_kSeqX, e_next, e_set, e_kSet, e_good, e_kGoodV, e_kGoodO, e_kGoodX, e_asg, e_kAsg, e_rsof, e_gN, e_par, e_kPar, e_ret, e_kRet, e_drop, e_kDrop, e_if, e_kIfT, e_kIfF, e_raise, e_for, e_kFor, e_itA, e_kItA, e_itR1, e_itR2, e_kP, e_pileSet, e_kP0, e_app', e_kA0, e_kApp', e_kA1, for_nil, e_kLoopN, e_kLoopC, e_kLoopB, e_kLoopR, e_kWhN, e_kWhC, e_kWhB, e_kWhR, e_oLc, e_yes, e_bok, e_bexc, e_bsok, e_bsexc, e_ofs, e_obs, e_oms, out_rt, out_nx, List.set_cons_zero, List.set_cons_succ, List.getElem?_cons_zero, List.getElem?_cons_succ, List.map_cons, List.map_nil, List.length_cons, List.length_nil, List.cons_append, List.nil_append, Nat.reduceAdd, Nat.reduceLeDiff, Nat.zero_add, Nat.reduceLT, is_template_str hl, h, Bool.not_true]
theorem look_wordL {w : List Nat} {n : Int} (h : isL w = true) (hl : w.length ≤ 2000000) : m_look_at_word [.str w] n = .ok (.val .non) n := by
  unfold m_look_at_word
  refine (mk_ev (by rfl)).trans ?_
  show outF (b_look_at_word ⟨[.val (.str w)], n⟩) = _
  unfold b_look_at_word
  simp only [e_var, e_kVarV, e_kVarO, e_oVar, e_kVoV, e_kVoO, eC, e_bin, e_kBin, e_kBin2, e_oBin, e_kOBin, e_kOBin2, e_good1v, e_good1o, e_test, e_kTest, e_and, e_or, e_not, e_kAndT, e_kAndF, e_kOrT, e_kOrF, e_kNot, e_eand, e_eor, e_enot, e_kEAndT, e_kEAndF, e_kEOrT, e_kEOrF, e_kENot, e_ifE, e_kIfET, e_kIfEF, e_oV, e_kOV, e_eF, e_frzv, e_frzo, e_neg, e_kNeg, e_nil, e_cons, e_kCons, e_kCons2, e_oB1, e_kB1, e_b1V, e_kB1V, e_kGetV, e_kGetO, e_oBn, e_kBn, e_ixV, e_kIxV, e_ixAt, e_kAtS, e_kAtL, e_kAtT, e_kAtK, e_kAtP, e_pSome, e_kSome, e_pNone, e_oSl, e_kSl, e_kSl2, e_kSl3, e_oLst, e_kOL, e_tup, e_kTup, e_call, e_res, e_kResV, e_kResO, e_kResX, e_cP, e_kCP, e_cQ, e_kCQ, e_outRV, e_outRO, e_seq, e_kSeqN, e_kSeqR, e_kSeqB, e_kSeqC, e_kSeqX, e_next, e_set, e_kSet, e_good, e_kGoodV, e_kGoodO, e_kGoodX, e_asg, e_kAsg, e_rsof, e_gN, e_par, e_kPar, e_ret, e_kRet, e_drop, e_kDrop, e_if, e_kIfT, e_kIfF, e_raise, e_for, e_kFor, e_itA, e_kItA, e_itR1, e_itR2, e_kP, e_pileSet, e_kP0, e_app', e_kA0, e_kApp', e_kA1, for_nil, e_kLoopN, e_kLoopC, e_kLoopB, e_kLoopR, e_kWhN, e_kWhC, e_kWhB, e_kWhR, e_oLc, e_yes, e_bok, e_bexc, e_bsok, e_bsexc, e_ofs, e_obs, e_oms, out_rt, out_nx, List.set_cons_zero, List.set_cons_succ, List.getElem?_cons_zero, List.getElem?_cons_succ, List.map_cons, List.map_nil, List.length_cons, List.length_nil, List.cons_append, List.nil_append, Nat.reduceAdd, Nat.reduceLeDiff, Nat.zero_add, Nat.reduceLT, is_word_str hl, h, Bool.not_true]
theorem fill_ {t w : List Nat} {n : Int} (ht : isT t = true) (hw : isL w = true) (lt : t.length ≤ 1000) (lw : w.length ≤ 1000) : m_fill [.str t, .str w] n = .ok (.val (.str (repl1 63 w t))) n := by
  have hq : w ≠ [63] := by
    rintro rfl
    exact absurd hw (by decide)
  have hb : t.length + (t.length + 1) * w.length ≤ 16777216 := by
    have : (t.length + 1) * w.length ≤ 1001 * 1000 := Nat.mul_le_mul (by omega) lw
    omega
  unfold m_fill
  refine (mk_ev (by rfl)).trans ?_
  show outF (b_fill ⟨[.val (.str t), .val (.str w)], n⟩) = _
  unfold b_fill
  simp only [e_var, e_kVarV, e_kVarO, e_oVar, e_kVoV, e_kVoO, eC, e_bin, e_kBin, e_kBin2, e_oBin, e_kOBin, e_kOBin2, e_good1v, e_good1o, e_test, e_kTest, e_and, e_or, e_not, e_kAndT, e_kAndF, e_kOrT, e_kOrF, e_kNot, e_eand, e_eor, e_enot, e_kEAndT, e_kEAndF, e_kEOrT, e_kEOrF, e_kENot, e_ifE, e_kIfET, e_kIfEF, e_oV, e_kOV, e_eF, e_frzv, e_frzo, e_neg, e_kNeg, e_nil, e_cons, e_kCons, e_kCons2, e_oB1, e_kB1, e_b1V, e_kB1V, e_kGetV, e_kGetO, e_oBn, e_kBn, e_ixV, e_kIxV, e_ixAt, e_kAtS, e_kAtL, e_kAtT, e_kAtK, e_kAtP, e_pSome, e_kSome, e_pNone, e_oSl, e_kSl, e_kSl2, e_kSl3, e_oLst, e_kOL, e_tup, e_kTup, e_call, e_res, e_kResV, e_kResO, e_kResX, e_cP, e_kCP, e_cQ, e_kCQ, e_outRV, e_outRO, e_seq, e_kSeqN, e_kSeqR, e_kSeqB, e_kSeqC, e_kSeqX, e_next, e_set, e_kSet, e_good, e_kGoodV, e_kGoodO, e_kGoodX, e_asg, e_kAsg, e_rsof, e_gN, e_par, e_kPar, e_ret, e_kRet, e_drop, e_kDrop, e_if, e_kIfT, e_kIfF, e_raise, e_for, e_kFor, e_itA, e_kItA, e_itR1, e_itR2, e_kP, e_pileSet, e_kP0, e_app', e_kA0, e_kApp', e_kA1, for_nil, e_kLoopN, e_kLoopC, e_kLoopB, e_kLoopR, e_kWhN, e_kWhC, e_kWhB, e_kWhR, e_oLc, e_yes, e_bok, e_bexc, e_bsok, e_bsexc, e_ofs, e_obs, e_oms, out_rt, out_nx, List.set_cons_zero, List.set_cons_succ, List.getElem?_cons_zero, List.getElem?_cons_succ, List.map_cons, List.map_nil, List.length_cons, List.length_nil, List.cons_append, List.nil_append, Nat.reduceAdd, Nat.reduceLeDiff, Nat.zero_add, Nat.reduceLT, look_template ht (by omega), look_wordL hw (by omega), e_repl, e_kRpl ⟨hq, hb⟩]

/-! ### the law's own filling -/
def flBody : SM := (mSet 2 (good (oBin dAdd (mVar 2) (mBin dIx (eF (oLst (aCons (mVar 3) (aCons (mVar 1) aNil)))) (eF (oB1 dInt (mBin dEqvS (mVar 3) (mC (.str [63])))))))))
theorem repl_len (c : Nat) (z : List Nat) : ∀ l : List Nat, (repl1 c z l).length ≤ l.length * (z.length + 1)
  | [] => by simp [repl1]
  | k :: r => by
    have ih := repl_len c z r
    rw [repl1, List.length_append, List.length_cons, Nat.add_mul, Nat.one_mul]
    by_cases h : k = c
    · rw [if_pos h]; omega
    · rw [if_neg h, List.length_singleton]; omega
theorem int_b (b : Bool) : dInt (.bl b) = some (.val (.int (if b then 1 else 0))) := rfl
theorem fl_body {a : SV} {w acc : List Nat} {c : Nat} {n : Int} (hl : acc.length + w.length + 1 ≤ 3000000) :
    flBody ⟨[a, .val (.str w), .val (.str acc), .val (.str [c])], n⟩ = .nx ⟨[a, .val (.str w), .val (.str (acc ++ (if c = 63 then w else [c]))), .val (.str [c])], n⟩ := by
  have i0 : dIx (.lst [.str [c], .str w]) (.int 0) = some (.str [c]) := rfl
  have i1 : dIx (.lst [.str [c], .str w]) (.int 1) = some (.str w) := rfl
  have e1 : dAdd (.str acc) (.str [c]) = _ := d_adds (by rw [List.length_singleton]; omega)
  have e2 : dAdd (.str acc) (.str w) = _ := d_adds (by omega)
  unfold flBody
  by_cases h : c = 63
  · subst h
    have q : decide (([63] : List Nat) = [63]) = true := rfl
    simp only [e_var, e_kVarV, e_kVarO, e_oVar, e_kVoV, e_kVoO, eC, e_bin, e_kBin, e_kBin2, e_oBin, e_kOBin, e_kOBin2, e_good1v, e_good1o, e_test, e_kTest, e_and, e_or, e_not, e_kAndT, e_kAndF, e_kOrT, e_kOrF, e_kNot, e_eand, e_eor, e_enot, e_kEAndT, e_kEAndF, e_kEOrT, e_kEOrF, e_kENot, e_ifE, e_kIfET, e_kIfEF, e_oV, e_kOV, e_eF, e_frzv, e_frzo, e_neg, e_kNeg, e_nil, e_cons, e_kCons, e_kCons2, e_oB1, e_kB1, e_b1V, e_kB1V, e_kGetV, e_kGetO, e_oBn, e_kBn, e_ixV, e_kIxV, e_ixAt, e_kAtS, e_kAtL, e_kAtT, e_kAtK, e_kAtP, e_pSome, e_kSome, e_pNone, e_oSl, e_kSl, e_kSl2, e_kSl3, e_oLst, e_kOL, e_tup, e_kTup, e_call, e_res, e_kResV, e_kResO, e_kResX, e_cP, e_kCP, e_cQ, e_kCQ, e_outRV, e_outRO, e_seq, e_kSeqN, e_kSeqR, e_kSeqB, e_kSeqC, e_kSeqX, e_next, e_set, e_kSet, e_good, e_kGoodV, e_kGoodO, e_kGoodX, e_asg, e_kAsg, e_rsof, e_gN, e_par, e_kPar, e_ret, e_kRet, e_drop, e_kDrop, e_if, e_kIfT, e_kIfF, e_raise, e_for, e_kFor, e_itA, e_kItA, e_itR1, e_itR2, e_kP, e_pileSet, e_kP0, e_app', e_kA0, e_kApp', e_kA1, for_nil, e_kLoopN, e_kLoopC, e_kLoopB, e_kLoopR, e_kWhN, e_kWhC, e_kWhB, e_kWhR, e_oLc, e_yes, e_bok, e_bexc, e_bsok, e_bsexc, e_ofs, e_obs, e_oms, out_rt, out_nx, List.set_cons_zero, List.set_cons_succ, List.getElem?_cons_zero, List.getElem?_cons_succ, List.map_cons, List.map_nil, List.length_cons, List.length_nil, List.cons_append, List.nil_append, Nat.reduceAdd, Nat.reduceLeDiff, Nat.zero_add, Nat.reduceLT, e_ins, e_kI0, e_kIns, e_ext, e_kE0, e_kExt, e_kE1, e_newD, e_dput, e_kPut0, e_kD0, e_kPutS, e_kPutI, e_kD1, e_itKy, e_kKy, e_kGoodD, e_aug, e_kAg, e_kAug, e_kAg1, e_itZ, e_kZL, e_kZT, e_isiT, e_kT1, e_kT2, e_rgA, e_kG1, e_rev, e_kRev, e_gT, e_gsCons, e_kGs, e_gsNil, e_lc2, e_eqS, e_neS, e_ltP, e_join, e_kJn, e_kJn2, e_split, e_kSp, e_kSp2, e_eqV, e_kEq0, e_eqAt, e_kEq1, e_parO, e_kPO, e_kPO2, e_raiseN, e_kRN, e_try, e_kTrN, e_kTH, e_itEnK, e_kIE, e_rep, e_isX, e_kIX, q, int_b, decide_true, if_true, i1, e2]
  · have q : decide (([c] : List Nat) = [63]) = false := decide_eq_false (by simpa using h)
    simp only [e_var, e_kVarV, e_kVarO, e_oVar, e_kVoV, e_kVoO, eC, e_bin, e_kBin, e_kBin2, e_oBin, e_kOBin, e_kOBin2, e_good1v, e_good1o, e_test, e_kTest, e_and, e_or, e_not, e_kAndT, e_kAndF, e_kOrT, e_kOrF, e_kNot, e_eand, e_eor, e_enot, e_kEAndT, e_kEAndF, e_kEOrT, e_kEOrF, e_kENot, e_ifE, e_kIfET, e_kIfEF, e_oV, e_kOV, e_eF, e_frzv, e_frzo, e_neg, e_kNeg, e_nil, e_cons, e_kCons, e_kCons2, e_oB1, e_kB1, e_b1V, e_kB1V, e_kGetV, e_kGetO, e_oBn, e_kBn, e_ixV, e_kIxV, e_ixAt, e_kAtS, e_kAtL, e_kAtT, e_kAtK, e_kAtP, e_pSome, e_kSome, e_pNone, e_oSl, e_kSl, e_kSl2, e_kSl3, e_oLst, e_kOL, e_tup, e_kTup, e_call, e_res, e_kResV, e_kResO, e_kResX, e_cP, e_kCP, e_cQ, e_kCQ, e_outRV, e_outRO, e_seq, e_kSeqN, e_kSeqR, e_kSeqB, e_kSeqC, e_kSeqX, e_next, e_set, e_kSet, e_good, e_kGoodV, e_kGoodO, e_kGoodX, e_asg, e_kAsg, e_rsof, e_gN, e_par, e_kPar, e_ret, e_kRet, e_drop, e_kDrop, e_if, e_kIfT, e_kIfF, e_raise, e_for, e_kFor, e_itA, e_kItA, e_itR1, e_itR2, e_kP, e_pileSet, e_kP0, e_app', e_kA0, e_kApp', e_kA1, for_nil, e_kLoopN, e_kLoopC, e_kLoopB, e_kLoopR, e_kWhN, e_kWhC, e_kWhB, e_kWhR, e_oLc, e_yes, e_bok, e_bexc, e_bsok, e_bsexc, e_ofs, e_obs, e_oms, out_rt, out_nx, List.set_cons_zero, List.set_cons_succ, List.getElem?_cons_zero, List.getElem?_cons_succ, List.map_cons, List.map_nil, List.length_cons, List.length_nil, List.cons_append, List.nil_append, Nat.reduceAdd, Nat.reduceLeDiff, Nat.zero_add, Nat.reduceLT, e_ins, e_kI0, e_kIns, e_ext, e_kE0, e_kExt, e_kE1, e_newD, e_dput, e_kPut0, e_kD0, e_kPutS, e_kPutI, e_kD1, e_itKy, e_kKy, e_kGoodD, e_aug, e_kAg, e_kAug, e_kAg1, e_itZ, e_kZL, e_kZT, e_isiT, e_kT1, e_kT2, e_rgA, e_kG1, e_rev, e_kRev, e_gT, e_gsCons, e_kGs, e_gsNil, e_lc2, e_eqS, e_neS, e_ltP, e_join, e_kJn, e_kJn2, e_split, e_kSp, e_kSp2, e_eqV, e_kEq0, e_eqAt, e_kEq1, e_parO, e_kPO, e_kPO2, e_raiseN, e_kRN, e_try, e_kTrN, e_kTH, e_itEnK, e_kIE, e_rep, e_isX, e_kIX, q, int_b, Bool.false_eq_true, if_false, i0, e1, if_neg h]
theorem fl_loop {a : SV} {w : List Nat} {n : Int} : ∀ (t acc : List Nat) (x : SV), acc.length + t.length * (w.length + 1) ≤ 2000000 → ∃ x', forLoop (gN 3) flBody (signs t) ⟨[a, .val (.str w), .val (.str acc), x], n⟩ = .nx ⟨[a, .val (.str w), .val (.str (acc ++ repl1 63 w t)), x'], n⟩
  | [], acc, x, _ => ⟨x, by rw [repl1, List.append_nil]; rfl⟩
  | c :: r, acc, x, h => by
    rw [List.length_cons, Nat.add_mul, Nat.one_mul] at h
    obtain ⟨x', e⟩ := fl_loop (a := a) (w := w) (n := n) r (acc ++ (if c = 63 then w else [c])) (.val (.str [c])) (by
      rw [List.length_append]
      by_cases q : c = 63
      · rw [if_pos q]; omega
      · rw [if_neg q, List.length_singleton]; omega)
    refine ⟨x', ?_⟩
    show forLoop (gN 3) flBody (.str [c] :: signs r) _ = _
    rw [for_cons rfl]
    have eb := fl_body (a := a) (w := w) (acc := acc) (c := c) (n := n) (by omega)
    simp only [List.set_cons_succ, List.set_cons_zero, eb, e_kLoopN, e, repl1, List.append_assoc]
theorem b_filled_eq : b__law_filled = (mSeq (mSet 2 (good (oV (mC (.str []))))) (mSeq (mFor (itA (mVar 0)) (gN 3) flBody) (mRet (oVar 2)))) := rfl
theorem filled_ {t w : List Nat} {n : Int} (lt : t.length ≤ 1000) (lw : w.length ≤ 1000) : m__law_filled [.str t, .str w] n = .ok (.val (.str (repl1 63 w t))) n := by
  obtain ⟨x, lp⟩ := fl_loop (a := .val (.str t)) (w := w) (n := n) t [] .no (by
    have : t.length * (w.length + 1) ≤ 1000 * 1001 := Nat.mul_le_mul lt (by omega)
    simp only [List.length_nil]; omega)
  rw [List.nil_append] at lp
  unfold m__law_filled
  refine (mk_ev (by rfl)).trans ?_
  show outF (b__law_filled ⟨[.val (.str t), .val (.str w), .no, .no], n⟩) = _
  rw [b_filled_eq]
  simp only [e_var, e_kVarV, e_kVarO, e_oVar, e_kVoV, e_kVoO, eC, e_bin, e_kBin, e_kBin2, e_oBin, e_kOBin, e_kOBin2, e_good1v, e_good1o, e_test, e_kTest, e_and, e_or, e_not, e_kAndT, e_kAndF, e_kOrT, e_kOrF, e_kNot, e_eand, e_eor, e_enot, e_kEAndT, e_kEAndF, e_kEOrT, e_kEOrF, e_kENot, e_ifE, e_kIfET, e_kIfEF, e_oV, e_kOV, e_eF, e_frzv, e_frzo, e_neg, e_kNeg, e_nil, e_cons, e_kCons, e_kCons2, e_oB1, e_kB1, e_b1V, e_kB1V, e_kGetV, e_kGetO, e_oBn, e_kBn, e_ixV, e_kIxV, e_ixAt, e_kAtS, e_kAtL, e_kAtT, e_kAtK, e_kAtP, e_pSome, e_kSome, e_pNone, e_oSl, e_kSl, e_kSl2, e_kSl3, e_oLst, e_kOL, e_tup, e_kTup, e_call, e_res, e_kResV, e_kResO, e_kResX, e_cP, e_kCP, e_cQ, e_kCQ, e_outRV, e_outRO, e_seq, e_kSeqN, e_kSeqR, e_kSeqB, e_kSeqC, e_kSeqX, e_next, e_set, e_kSet, e_good, e_kGoodV, e_kGoodO, e_kGoodX, e_asg, e_kAsg, e_rsof, e_gN, e_par, e_kPar, e_ret, e_kRet, e_drop, e_kDrop, e_if, e_kIfT, e_kIfF, e_raise, e_for, e_kFor, e_itA, e_kItA, e_itR1, e_itR2, e_kP, e_pileSet, e_kP0, e_app', e_kA0, e_kApp', e_kA1, for_nil, e_kLoopN, e_kLoopC, e_kLoopB, e_kLoopR, e_kWhN, e_kWhC, e_kWhB, e_kWhR, e_oLc, e_yes, e_bok, e_bexc, e_bsok, e_bsexc, e_ofs, e_obs, e_oms, out_rt, out_nx, List.set_cons_zero, List.set_cons_succ, List.getElem?_cons_zero, List.getElem?_cons_succ, List.map_cons, List.map_nil, List.length_cons, List.length_nil, List.cons_append, List.nil_append, Nat.reduceAdd, Nat.reduceLeDiff, Nat.zero_add, Nat.reduceLT, e_ins, e_kI0, e_kIns, e_ext, e_kE0, e_kExt, e_kE1, e_newD, e_dput, e_kPut0, e_kD0, e_kPutS, e_kPutI, e_kD1, e_itKy, e_kKy, e_kGoodD, e_aug, e_kAg, e_kAug, e_kAg1, e_itZ, e_kZL, e_kZT, e_isiT, e_kT1, e_kT2, e_rgA, e_kG1, e_rev, e_kRev, e_gT, e_gsCons, e_kGs, e_gsNil, e_lc2, e_eqS, e_neS, e_ltP, e_join, e_kJn, e_kJn2, e_split, e_kSp, e_kSp2, e_eqV, e_kEq0, e_eqAt, e_kEq1, e_parO, e_kPO, e_kPO2, e_raiseN, e_kRN, e_try, e_kTrN, e_kTH, e_itEnK, e_kIE, e_rep, e_isX, e_kIX, items, lp]

/-! ### drawn templates -/
def loBody : SM := (mSet 4 (good (oBin dAdd (eF (oBin dAdd (mVar 4) (mC (.str [63])))) (eF (oCall m__law_word (aCons (mVar 0) (aCons (mVar 1) (aCons (mVar 3) aNil))))))))
theorem lo_loop {ls : List Nat} {ho : SV} {K : Nat} (h : Ls ls) (hK : K ≤ 20) : ∀ (ds : List D) (u : List Nat) (x : SV) (m : Int), u.length + ds.length * (K + 1) ≤ 1000 → isT u = true →
    ∃ u' x' m', forLoop (gN 5) loBody ds ⟨[.val .pile, .val (.str ls), ho, .val (.int (K : Int)), .val (.str u), x], m⟩ = .nx ⟨[.val .pile, .val (.str ls), ho, .val (.int (K : Int)), .val (.str u'), x'], m'⟩ ∧ u'.length ≤ u.length + ds.length * (K + 1) ∧ isT u' = true
  | [], u, x, m, hl, hu => ⟨u, x, m, rfl, by simp, hu⟩
  | d :: r, u, x, m, hl, hu => by
    rw [List.length_cons, Nat.add_mul, Nat.one_mul] at hl
    obtain ⟨v, m1, e1, hv, lv⟩ := word_k (m := m) h hK
    have e2 : dAdd (.str u) (.str [63]) = _ := d_adds (by rw [List.length_singleton]; omega)
    have e3 : dAdd (.str (u ++ [63])) (.str v) = _ := d_adds (by rw [List.length_append, List.length_singleton]; omega)
    rw [for_cons rfl]
    have eb : loBody ⟨[.val .pile, .val (.str ls), ho, .val (.int (K : Int)), .val (.str u), .val d], m⟩ = .nx ⟨[.val .pile, .val (.str ls), ho, .val (.int (K : Int)), .val (.str (u ++ [63] ++ v)), .val d], m1⟩ := by
      unfold loBody
      simp only [e_var, e_kVarV, e_kVarO, e_oVar, e_kVoV, e_kVoO, eC, e_bin, e_kBin, e_kBin2, e_oBin, e_kOBin, e_kOBin2, e_good1v, e_good1o, e_test, e_kTest, e_and, e_or, e_not, e_kAndT, e_kAndF, e_kOrT, e_kOrF, e_kNot, e_eand, e_eor, e_enot, e_kEAndT, e_kEAndF, e_kEOrT, e_kEOrF, e_kENot, e_ifE, e_kIfET, e_kIfEF, e_oV, e_kOV, e_eF, e_frzv, e_frzo, e_neg, e_kNeg, e_nil, e_cons, e_kCons, e_kCons2, e_oB1, e_kB1, e_b1V, e_kB1V, e_kGetV, e_kGetO, e_oBn, e_kBn, e_ixV, e_kIxV, e_ixAt, e_kAtS, e_kAtL, e_kAtT, e_kAtK, e_kAtP, e_pSome, e_kSome, e_pNone, e_oSl, e_kSl, e_kSl2, e_kSl3, e_oLst, e_kOL, e_tup, e_kTup, e_call, e_res, e_kResV, e_kResO, e_kResX, e_cP, e_kCP, e_cQ, e_kCQ, e_outRV, e_outRO, e_seq, e_kSeqN, e_kSeqR, e_kSeqB, e_kSeqC, e_kSeqX, e_next, e_set, e_kSet, e_good, e_kGoodV, e_kGoodO, e_kGoodX, e_asg, e_kAsg, e_rsof, e_gN, e_par, e_kPar, e_ret, e_kRet, e_drop, e_kDrop, e_if, e_kIfT, e_kIfF, e_raise, e_for, e_kFor, e_itA, e_kItA, e_itR1, e_itR2, e_kP, e_pileSet, e_kP0, e_app', e_kA0, e_kApp', e_kA1, for_nil, e_kLoopN, e_kLoopC, e_kLoopB, e_kLoopR, e_kWhN, e_kWhC, e_kWhB, e_kWhR, e_oLc, e_yes, e_bok, e_bexc, e_bsok, e_bsexc, e_ofs, e_obs, e_oms, out_rt, out_nx, List.set_cons_zero, List.set_cons_succ, List.getElem?_cons_zero, List.getElem?_cons_succ, List.map_cons, List.map_nil, List.length_cons, List.length_nil, List.cons_append, List.nil_append, Nat.reduceAdd, Nat.reduceLeDiff, Nat.zero_add, Nat.reduceLT, e_ins, e_kI0, e_kIns, e_ext, e_kE0, e_kExt, e_kE1, e_newD, e_dput, e_kPut0, e_kD0, e_kPutS, e_kPutI, e_kD1, e_itKy, e_kKy, e_kGoodD, e_aug, e_kAg, e_kAug, e_kAg1, e_itZ, e_kZL, e_kZT, e_isiT, e_kT1, e_kT2, e_rgA, e_kG1, e_rev, e_kRev, e_gT, e_gsCons, e_kGs, e_gsNil, e_lc2, e_eqS, e_neS, e_ltP, e1, e2, e3]
    have hln : (u ++ [63] ++ v).length ≤ u.length + (K + 1) := by rw [List.length_append, List.length_append, List.length_singleton]; omega
    obtain ⟨u', x', m', e, l', t'⟩ := lo_loop (ho := ho) h hK r (u ++ [63] ++ v) (.val d) m1 (by omega) (inL_app (inL_app hu (by decide)) (isT_of lv))
    simp only [List.set_cons_succ, List.set_cons_zero, eb, e_kLoopN]
    exact ⟨u', x', m', e, by rw [List.length_cons, Nat.add_mul, Nat.one_mul]; omega, t'⟩
theorem b_loose_eq : b__law_loose = (mSeq (mSet 4 (good (oCall m__law_word (aCons (mVar 0) (aCons (mVar 1) (aCons (mVar 3) aNil)))))) (mSeq (mFor (itR1 (aCons (mVar 2) aNil)) (gN 5) loBody) (mRet (oVar 4)))) := rfl
theorem loose_ {ls : List Nat} {m : Int} {k K : Nat} (h : Ls ls) (hk : k ≤ 10) (hK : K ≤ 20) : ∃ u m', m__law_loose [.pile, .str ls, .int (k : Int), .int (K : Int)] m = .ok (.val (.str u)) m' ∧ u.length ≤ 300 ∧ isT u = true := by
  obtain ⟨u, m1, e1, hu, lu⟩ := word_k (m := m) h hK
  have hm : k * (K + 1) ≤ 10 * 21 := Nat.mul_le_mul hk (by omega)
  have hd : (dInts 0 k).length = k := by unfold dInts; simp
  obtain ⟨v, x, m2, lp, hv, lv⟩ := lo_loop (ho := .val (.int (k : Int))) h hK (dInts 0 k) u .no m1 (by rw [hd]; omega) (isT_of lu)
  rw [hd] at hv
  refine ⟨v, m2, ?_, by omega, lv⟩
  unfold m__law_loose
  refine (mk_ev (by rfl)).trans ?_
  show outF (b__law_loose ⟨[.val .pile, .val (.str ls), .val (.int (k : Int)), .val (.int (K : Int)), .no, .no], m⟩) = _
  rw [b_loose_eq]
  simp only [e_var, e_kVarV, e_kVarO, e_oVar, e_kVoV, e_kVoO, eC, e_bin, e_kBin, e_kBin2, e_oBin, e_kOBin, e_kOBin2, e_good1v, e_good1o, e_test, e_kTest, e_and, e_or, e_not, e_kAndT, e_kAndF, e_kOrT, e_kOrF, e_kNot, e_eand, e_eor, e_enot, e_kEAndT, e_kEAndF, e_kEOrT, e_kEOrF, e_kENot, e_ifE, e_kIfET, e_kIfEF, e_oV, e_kOV, e_eF, e_frzv, e_frzo, e_neg, e_kNeg, e_nil, e_cons, e_kCons, e_kCons2, e_oB1, e_kB1, e_b1V, e_kB1V, e_kGetV, e_kGetO, e_oBn, e_kBn, e_ixV, e_kIxV, e_ixAt, e_kAtS, e_kAtL, e_kAtT, e_kAtK, e_kAtP, e_pSome, e_kSome, e_pNone, e_oSl, e_kSl, e_kSl2, e_kSl3, e_oLst, e_kOL, e_tup, e_kTup, e_call, e_res, e_kResV, e_kResO, e_kResX, e_cP, e_kCP, e_cQ, e_kCQ, e_outRV, e_outRO, e_seq, e_kSeqN, e_kSeqR, e_kSeqB, e_kSeqC, e_kSeqX, e_next, e_set, e_kSet, e_good, e_kGoodV, e_kGoodO, e_kGoodX, e_asg, e_kAsg, e_rsof, e_gN, e_par, e_kPar, e_ret, e_kRet, e_drop, e_kDrop, e_if, e_kIfT, e_kIfF, e_raise, e_for, e_kFor, e_itA, e_kItA, e_itR1, e_itR2, e_kP, e_pileSet, e_kP0, e_app', e_kA0, e_kApp', e_kA1, for_nil, e_kLoopN, e_kLoopC, e_kLoopB, e_kLoopR, e_kWhN, e_kWhC, e_kWhB, e_kWhR, e_oLc, e_yes, e_bok, e_bexc, e_bsok, e_bsexc, e_ofs, e_obs, e_oms, out_rt, out_nx, List.set_cons_zero, List.set_cons_succ, List.getElem?_cons_zero, List.getElem?_cons_succ, List.map_cons, List.map_nil, List.length_cons, List.length_nil, List.cons_append, List.nil_append, Nat.reduceAdd, Nat.reduceLeDiff, Nat.zero_add, Nat.reduceLT, e_ins, e_kI0, e_kIns, e_ext, e_kE0, e_kExt, e_kE1, e_newD, e_dput, e_kPut0, e_kD0, e_kPutS, e_kPutI, e_kD1, e_itKy, e_kKy, e_kGoodD, e_aug, e_kAg, e_kAug, e_kAg1, e_itZ, e_kZL, e_kZT, e_isiT, e_kT1, e_kT2, e_rgA, e_kG1, e_rev, e_kRev, e_gT, e_gsCons, e_kGs, e_gsNil, e_lc2, e_eqS, e_neS, e_ltP, e1, e_rg (show k ≤ 4000000 by omega), lp]
end Pd

/-! the plain law of k02 -/
namespace Pd
open PySem L2 Tk

theorem np_int {i : Int} : noPile (.int i) = true := rfl
theorem np_str {s : List Nat} : noPile (.str s) = true := rfl
theorem nps_nil : noPiles [] = true := rfl
theorem nps_cons {d : D} {ds : List D} : noPiles (d :: ds) = (noPile d && noPiles ds) := rfl
theorem ne_same {a : List Nat} : dNevS (.str a) (.str a) = some (.bl false) := by
  rw [e_neS, decide_eq_true rfl]
  rfl
def tmD (ts : List (List Nat)) : List D := ts.map D.str
def ib : SM := (mIfS (mOr (mTest (mBin dNevS (eF (oCall m_fill (aCons (mVar 7) (aCons (mVar 6) aNil)))) (eF (oCall m__law_filled (aCons (mVar 7) (aCons (mVar 6) aNil)))))) (mTest (mBin dNevS (eF (oCall m_fill (aCons (mVar 7) (aCons (mC (.str [])) aNil)))) (eF (oCall m__law_filled (aCons (mVar 7) (aCons (mC (.str [])) aNil))))))) (mRet (oV (mC (.bl false)))) mNext)
section
variable {a0 a1 a2 a3 a4 a5 a8 : SV} {w : List Nat}
theorem ib_ok {t : List Nat} (hw : isL w = true) (lw : w.length ≤ 1000) (ht : isT t = true) (lt : t.length ≤ 1000) :
    ib ⟨[a0, a1, a2, a3, a4, a5, .val (.str w), .val (.str t), a8], 0⟩ = .nx ⟨[a0, a1, a2, a3, a4, a5, .val (.str w), .val (.str t), a8], 0⟩ := by
  have f1 := fill_ (n := 0) ht hw lt lw
  have f2 := filled_ (n := 0) (w := w) lt lw
  have f3 := fill_ (n := 0) (w := []) ht rfl lt (by simp)
  have f4 := filled_ (n := 0) (w := []) lt (by simp)
  unfold ib
  simp only [e_var, e_kVarV, e_kVarO, e_oVar, e_kVoV, e_kVoO, eC, e_bin, e_kBin, e_kBin2, e_oBin, e_kOBin, e_kOBin2, e_good1v, e_good1o, e_test, e_kTest, e_and, e_or, e_not, e_kAndT, e_kAndF, e_kOrT, e_kOrF, e_kNot, e_eand, e_eor, e_enot, e_kEAndT, e_kEAndF, e_kEOrT, e_kEOrF, e_kENot, e_ifE, e_kIfET, e_kIfEF, e_oV, e_kOV, e_eF, e_frzv, e_frzo, e_neg, e_kNeg, e_nil, e_cons, e_kCons, e_kCons2, e_oB1, e_kB1, e_b1V, e_kB1V, e_kGetV, e_kGetO, e_oBn, e_kBn, e_ixV, e_kIxV, e_ixAt, e_kAtS, e_kAtL, e_kAtT, e_kAtK, e_kAtP, e_pSome, e_kSome, e_pNone, e_oSl, e_kSl, e_kSl2, e_kSl3, e_oLst, e_kOL, e_tup, e_kTup, e_call, e_res, e_kResV, e_kResO, e_kResX, e_cP, e_kCP, e_cQ, e_kCQ, e_outRV, e_outRO, e_seq, e_kSeqN, e_kSeqR, e_kSeqB, e_kSeqC, e_kSeqX, e_next, e_set, e_kSet, e_good, e_kGoodV, e_kGoodO, e_kGoodX, e_asg, e_kAsg, e_rsof, e_gN, e_par, e_kPar, e_ret, e_kRet, e_drop, e_kDrop, e_if, e_kIfT, e_kIfF, e_raise, e_for, e_kFor, e_itA, e_kItA, e_itR1, e_itR2, e_kP, e_pileSet, e_kP0, e_app', e_kA0, e_kApp', e_kA1, for_nil, e_kLoopN, e_kLoopC, e_kLoopB, e_kLoopR, e_kWhN, e_kWhC, e_kWhB, e_kWhR, e_oLc, e_yes, e_bok, e_bexc, e_bsok, e_bsexc, e_ofs, e_obs, e_oms, out_rt, out_nx, List.set_cons_zero, List.set_cons_succ, List.getElem?_cons_zero, List.getElem?_cons_succ, List.map_cons, List.map_nil, List.length_cons, List.length_nil, List.cons_append, List.nil_append, Nat.reduceAdd, Nat.reduceLeDiff, Nat.zero_add, Nat.reduceLT, e_ins, e_kI0, e_kIns, e_ext, e_kE0, e_kExt, e_kE1, e_newD, e_dput, e_kPut0, e_kD0, e_kPutS, e_kPutI, e_kD1, e_itKy, e_kKy, e_kGoodD, e_aug, e_kAg, e_kAug, e_kAg1, e_itZ, e_kZL, e_kZT, e_isiT, e_kT1, e_kT2, e_rgA, e_kG1, e_rev, e_kRev, e_gT, e_gsCons, e_kGs, e_gsNil, e_lc2, e_eqS, e_neS, e_ltP, e_join, e_kJn, e_kJn2, e_split, e_kSp, e_kSp2, e_eqV, e_kEq0, e_eqAt, e_kEq1, e_parO, e_kPO, e_kPO2, e_raiseN, e_kRN, e_try, e_kTrN, e_kTH, e_itEnK, e_kIE, e_rep, e_isX, e_kIX, f1, f2, f3, f4, ne_same, Bool.not_true, decide_true]
theorem ib_loop (hw : isL w = true) (lw : w.length ≤ 1000) : ∀ (ts : List (List Nat)) (x : SV), (∀ t ∈ ts, isT t = true ∧ t.length ≤ 1000) → ∃ x', forLoop (gN 7) ib (tmD ts) ⟨[a0, a1, a2, a3, a4, a5, .val (.str w), x, a8], 0⟩ = .nx ⟨[a0, a1, a2, a3, a4, a5, .val (.str w), x', a8], 0⟩
  | [], x, _ => ⟨x, rfl⟩
  | t :: r, x, h => by
    obtain ⟨x', e⟩ := ib_loop hw lw r (.val (.str t)) fun u hu => h u (List.mem_cons_of_mem _ hu)
    obtain ⟨h1, h2⟩ := h t (List.mem_cons_self ..)
    refine ⟨x', ?_⟩
    show forLoop (gN 7) ib (.str t :: tmD r) _ = _
    rw [for_cons rfl]
    simp only [List.set_cons_succ, List.set_cons_zero, ib_ok hw lw h1 h2, e_kLoopN]
    exact e
end
def tb : SM := (mSeq (mSet 5 (good (oCallR 2 m__law_loose (aCons (mVar 3) (aCons (eF (oCallR 2 m__law_take (aCons (mC (.int 5)) aNil))) (aCons (mC (.int 4)) aNil))))))
  (mSeq (mSet 6 (good (oCallR 2 mK__law_word (aCons (mVar 3) (aCons (mC (.int 6)) aNil)))))
  (mSeq (mIfS (mOr (mTest (mBin (dIsB true) (eF (oCall m_is_template (aCons (mVar 5) aNil))) (mC (.bl true)))) (mTest (mBin (dIsB true) (eF (oCall m_is_template (aCons (mVar 6) aNil))) (mC (.bl true))))) (mRet (oV (mC (.bl false)))) mNext)
  (mFor (itL (eF (oLst (aCons (mVar 5) (aCons (mVar 6) (aCons (eF (oBin dMul (mC (.str [63])) (eF (oCallR 2 m__law_take (aCons (mC (.int 4)) aNil))))) (aCons (eF (oBin dAdd (mVar 5) (mVar 5))) aNil))))))) (gN 7) ib))))
section
variable {a b x5 x6 x7 : SV} {ls : List Nat} {m : Int}
theorem isB_tt : dIsB true (.bl true) (.bl true) = some (.bl false) := rfl
theorem isB_ff : dIsB true (.bl false) (.bl false) = some (.bl false) := rfl
theorem isB_t : dIsB false (.bl true) (.bl true) = some (.bl true) := rfl
theorem tb_ok {x4 : SV} (h : Ls ls) : ∃ m' y5 y6 y7, tb ⟨[a, b, .own [.int m], .val (.str ls), x4, x5, x6, x7, .no], 0⟩ = .nx ⟨[a, b, .own [.int m'], .val (.str ls), x4, y5, y6, y7, .no], 0⟩ := by
  obtain ⟨d, m1, hd, e1⟩ := take_ (m := m) (k := 5) (by omega) (by omega)
  obtain ⟨t, m2, e2, lt, ht⟩ := loose_ (m := m1) (k := d) (K := 4) h (by omega) (by omega)
  obtain ⟨w, m3, e3, lw, hw⟩ := wordK (m := m2) (K := 6) h (by omega)
  obtain ⟨q, m4, hq, e4⟩ := take_ (m := m3) (k := 4) (by omega) (by omega)
  have e1' : m__law_take [.pile, .int 5] m = .ok (.val (.int ((d : Nat) : Int))) m1 := e1
  have e2' : m__law_loose [.pile, .str ls, .int (d : Int), .int 4] m1 = .ok (.val (.str t)) m2 := e2
  have e3' : mK__law_word [.pile, .str ls, .int 6] m2 = .ok (.val (.str w)) m3 := e3
  have e4' : m__law_take [.pile, .int 4] m3 = .ok (.val (.int ((q : Nat) : Int))) m4 := e4
  have t1 := is_template_str (w := t) (n := 0) (by omega)
  have t2 := is_template_str (w := w) (n := 0) (by omega)
  rw [ht] at t1
  rw [isT_of hw] at t2
  have e5 : dMul (.str [63]) (.int (q : Int)) = _ := d_mul (by omega) (by simp) (by simp only [List.length_singleton]; omega)
  have e6 : dAdd (.str t) (.str t) = _ := d_adds (by omega)
  have hr : (repS q ([63] : List Nat)).length ≤ 1000 := by
    have : (repS q ([63] : List Nat)).length = q := by rw [repS_len]; simp
    omega
  obtain ⟨y7, lp⟩ := ib_loop (a0 := a) (a1 := b) (a2 := .own [.int m4]) (a3 := .val (.str ls)) (a4 := x4) (a5 := .val (.str t)) (a8 := .no) hw (by omega) [t, w, repS q [63], t ++ t] x7 (fun u hu => by
    simp only [List.mem_cons, List.not_mem_nil, or_false] at hu
    rcases hu with rfl | rfl | rfl | rfl
    · exact ⟨ht, by omega⟩
    · exact ⟨isT_of hw, by omega⟩
    · exact ⟨inL_rep (by decide) q, hr⟩
    · exact ⟨inL_app ht ht, by rw [List.length_append]; omega⟩)
  have lp' : forLoop (gN 7) ib [.str t, .str w, .str (repS q [63]), .str (t ++ t)] _ = _ := lp
  have ko : ∀ s, kOL [.str t, .str w, .str (repS q [63]), .str (t ++ t)] s = .ok (.own [.str t, .str w, .str (repS q [63]), .str (t ++ t)]) s := fun _ => rfl
  refine ⟨m4, .val (.str t), .val (.str w), y7, ?_⟩
  unfold tb
  simp only [e_var, e_kVarV, e_kVarO, e_oVar, e_kVoV, e_kVoO, eC, e_bin, e_kBin, e_kBin2, e_oBin, e_kOBin, e_kOBin2, e_good1v, e_good1o, e_test, e_kTest, e_and, e_or, e_not, e_kAndT, e_kAndF, e_kOrT, e_kOrF, e_kNot, e_eand, e_eor, e_enot, e_kEAndT, e_kEAndF, e_kEOrT, e_kEOrF, e_kENot, e_ifE, e_kIfET, e_kIfEF, e_oV, e_kOV, e_eF, e_frzv, e_frzo, e_neg, e_kNeg, e_nil, e_cons, e_kCons, e_kCons2, e_oB1, e_kB1, e_b1V, e_kB1V, e_kGetV, e_kGetO, e_oBn, e_kBn, e_ixV, e_kIxV, e_ixAt, e_kAtS, e_kAtL, e_kAtT, e_kAtK, e_kAtP, e_pSome, e_kSome, e_pNone, e_oSl, e_kSl, e_kSl2, e_kSl3, e_oLst, e_kOL, e_tup, e_kTup, e_call, e_res, e_kResV, e_kResO, e_kResX, e_cP, e_kCP, e_cQ, e_kCQ, e_outRV, e_outRO, e_seq, e_kSeqN, e_kSeqR, e_kSeqB, e_kSeqC, e_kSeqX, e_next, e_set, e_kSet, e_good, e_kGoodV, e_kGoodO, e_kGoodX, e_asg, e_kAsg, e_rsof, e_gN, e_par, e_kPar, e_ret, e_kRet, e_drop, e_kDrop, e_if, e_kIfT, e_kIfF, e_raise, e_for, e_kFor, e_itA, e_kItA, e_itR1, e_itR2, e_kP, e_pileSet, e_kP0, e_app', e_kA0, e_kApp', e_kA1, for_nil, e_kLoopN, e_kLoopC, e_kLoopB, e_kLoopR, e_kWhN, e_kWhC, e_kWhB, e_kWhR, e_oLc, e_yes, e_bok, e_bexc, e_bsok, e_bsexc, e_ofs, e_obs, e_oms, out_rt, out_nx, List.set_cons_zero, List.set_cons_succ, List.getElem?_cons_zero, List.getElem?_cons_succ, List.map_cons, List.map_nil, List.length_cons, List.length_nil, List.cons_append, List.nil_append, Nat.reduceAdd, Nat.reduceLeDiff, Nat.zero_add, Nat.reduceLT, e_ins, e_kI0, e_kIns, e_ext, e_kE0, e_kExt, e_kE1, e_newD, e_dput, e_kPut0, e_kD0, e_kPutS, e_kPutI, e_kD1, e_itKy, e_kKy, e_kGoodD, e_aug, e_kAg, e_kAug, e_kAg1, e_itZ, e_kZL, e_kZT, e_isiT, e_kT1, e_kT2, e_rgA, e_kG1, e_rev, e_kRev, e_gT, e_gsCons, e_kGs, e_gsNil, e_lc2, e_eqS, e_neS, e_ltP, e_join, e_kJn, e_kJn2, e_split, e_kSp, e_kSp2, e_eqV, e_kEq0, e_eqAt, e_kEq1, e_parO, e_kPO, e_kPO2, e_raiseN, e_kRN, e_try, e_kTrN, e_kTH, e_itEnK, e_kIE, e_rep, e_isX, e_kIX, nps_cons, nps_nil, np_int, np_str, Bool.and_self, if_true, e1', e2', e3', e4', t1, t2, isB_tt, e5, e6, ko, e_itL, e_kIL, lp']
theorem t_loop (h : Ls ls) : ∀ (ds : List D) (x4 x5 x6 x7 : SV) (m : Int), ∃ y4 y5 y6 y7 m', forLoop (gN 4) tb ds ⟨[a, b, .own [.int m], .val (.str ls), x4, x5, x6, x7, .no], 0⟩ = .nx ⟨[a, b, .own [.int m'], .val (.str ls), y4, y5, y6, y7, .no], 0⟩
  | [], x4, x5, x6, x7, m => ⟨x4, x5, x6, x7, m, rfl⟩
  | d :: r, x4, x5, x6, x7, m => by
    obtain ⟨m', y5, y6, y7, e⟩ := tb_ok (a := a) (b := b) (x5 := x5) (x6 := x6) (x7 := x7) (x4 := .val d) (m := m) h
    obtain ⟨z4, z5, z6, z7, m'', e2⟩ := t_loop h r (.val d) y5 y6 y7 m'
    refine ⟨z4, z5, z6, z7, m'', ?_⟩
    rw [for_cons rfl]
    simp only [List.set_cons_succ, List.set_cons_zero, e, e_kLoopN]
    exact e2
end
def kb : SM := (mSeq (mSet 2 (good (oCall m__law_pile (aCons (mVar 0) (aCons (mVar 1) aNil)))))
  (mSeq (mSet 3 (good (oCallR 2 m__law_letters aNil)))
  (mFor (itR1 (aCons (mC (.int 6)) aNil)) (gN 4) tb)))
theorem k_body {ns : List Int} {k : Nat} {x2 x3 x4 x5 x6 x7 : SV} (hk : k < 100) : ∃ y2 y3 y4 y5 y6 y7, kb ⟨[.val (.kst (ns.map .int)), .val (.int (k : Int)), x2, x3, x4, x5, x6, x7, .no], 0⟩ = .nx ⟨[.val (.kst (ns.map .int)), .val (.int (k : Int)), y2, y3, y4, y5, y6, y7, .no], 0⟩ := by
  obtain ⟨m, e1⟩ := pile (ns := ns) (t := k) (n := 0) hk
  obtain ⟨ls, m1, e2, h⟩ := letters_ (m := m)
  obtain ⟨y4, y5, y6, y7, m2, lp⟩ := t_loop (a := .val (.kst (ns.map .int))) (b := .val (.int (k : Int))) h (dInts 0 6) x4 x5 x6 x7 m1
  have e3 : ∀ s, kR1 [.int 6] s = .ok (dInts 0 6) s := fun s => e_kR1 ⟨by decide, by decide⟩
  refine ⟨.own [.int m2], .val (.str ls), y4, y5, y6, y7, ?_⟩
  unfold kb
  simp only [e_var, e_kVarV, e_kVarO, e_oVar, e_kVoV, e_kVoO, eC, e_bin, e_kBin, e_kBin2, e_oBin, e_kOBin, e_kOBin2, e_good1v, e_good1o, e_test, e_kTest, e_and, e_or, e_not, e_kAndT, e_kAndF, e_kOrT, e_kOrF, e_kNot, e_eand, e_eor, e_enot, e_kEAndT, e_kEAndF, e_kEOrT, e_kEOrF, e_kENot, e_ifE, e_kIfET, e_kIfEF, e_oV, e_kOV, e_eF, e_frzv, e_frzo, e_neg, e_kNeg, e_nil, e_cons, e_kCons, e_kCons2, e_oB1, e_kB1, e_b1V, e_kB1V, e_kGetV, e_kGetO, e_oBn, e_kBn, e_ixV, e_kIxV, e_ixAt, e_kAtS, e_kAtL, e_kAtT, e_kAtK, e_kAtP, e_pSome, e_kSome, e_pNone, e_oSl, e_kSl, e_kSl2, e_kSl3, e_oLst, e_kOL, e_tup, e_kTup, e_call, e_res, e_kResV, e_kResO, e_kResX, e_cP, e_kCP, e_cQ, e_kCQ, e_outRV, e_outRO, e_seq, e_kSeqN, e_kSeqR, e_kSeqB, e_kSeqC, e_kSeqX, e_next, e_set, e_kSet, e_good, e_kGoodV, e_kGoodO, e_kGoodX, e_asg, e_kAsg, e_rsof, e_gN, e_par, e_kPar, e_ret, e_kRet, e_drop, e_kDrop, e_if, e_kIfT, e_kIfF, e_raise, e_for, e_kFor, e_itA, e_kItA, e_itR1, e_itR2, e_kP, e_pileSet, e_kP0, e_app', e_kA0, e_kApp', e_kA1, for_nil, e_kLoopN, e_kLoopC, e_kLoopB, e_kLoopR, e_kWhN, e_kWhC, e_kWhB, e_kWhR, e_oLc, e_yes, e_bok, e_bexc, e_bsok, e_bsexc, e_ofs, e_obs, e_oms, out_rt, out_nx, List.set_cons_zero, List.set_cons_succ, List.getElem?_cons_zero, List.getElem?_cons_succ, List.map_cons, List.map_nil, List.length_cons, List.length_nil, List.cons_append, List.nil_append, Nat.reduceAdd, Nat.reduceLeDiff, Nat.zero_add, Nat.reduceLT, e_ins, e_kI0, e_kIns, e_ext, e_kE0, e_kExt, e_kE1, e_newD, e_dput, e_kPut0, e_kD0, e_kPutS, e_kPutI, e_kD1, e_itKy, e_kKy, e_kGoodD, e_aug, e_kAg, e_kAug, e_kAg1, e_itZ, e_kZL, e_kZT, e_isiT, e_kT1, e_kT2, e_rgA, e_kG1, e_rev, e_kRev, e_gT, e_gsCons, e_kGs, e_gsNil, e_lc2, e_eqS, e_neS, e_ltP, e_join, e_kJn, e_kJn2, e_split, e_kSp, e_kSp2, e_eqV, e_kEq0, e_eqAt, e_kEq1, e_parO, e_kPO, e_kPO2, e_raiseN, e_kRN, e_try, e_kTrN, e_kTH, e_itEnK, e_kIE, e_rep, e_isX, e_kIX, nps_cons, nps_nil, np_int, np_str, Bool.and_self, if_true, e1, e2, e3, lp]
theorem k_loop {ns : List Int} : ∀ (n k : Nat) (x1 x2 x3 x4 x5 x6 x7 : SV), k + n ≤ 100 → ∃ y1 y2 y3 y4 y5 y6 y7, forLoop (gN 1) kb (dInts (k : Int) n) ⟨[.val (.kst (ns.map .int)), x1, x2, x3, x4, x5, x6, x7, .no], 0⟩ = .nx ⟨[.val (.kst (ns.map .int)), y1, y2, y3, y4, y5, y6, y7, .no], 0⟩
  | 0, k, x1, x2, x3, x4, x5, x6, x7, hk => ⟨x1, x2, x3, x4, x5, x6, x7, rfl⟩
  | n + 1, k, x1, x2, x3, x4, x5, x6, x7, hk => by
    obtain ⟨y2, y3, y4, y5, y6, y7, eb⟩ := k_body (ns := ns) (k := k) (x2 := x2) (x3 := x3) (x4 := x4) (x5 := x5) (x6 := x6) (x7 := x7) (by omega)
    have ih := k_loop (ns := ns) n (k + 1) (.val (.int (k : Int))) y2 y3 y4 y5 y6 y7 (by omega)
    rw [dInts_succ, for_cons rfl]
    simp only [List.set_cons_succ, List.set_cons_zero, eb, e_kLoopN]
    exact ih
def okB (b : Bool) : FR → Bool
  | .ok (.val (.bl c)) z => c == b && z == 0
  | _ => false
theorem okB_eq {b : Bool} {r : FR} (h : okB b r = true) : r = .ok (.val (.bl b)) 0 := by
  unfold okB at h
  split at h
  · rw [Bool.and_eq_true, beq_iff_eq, beq_iff_eq] at h
    rw [h.1, h.2]
  · cases h
def badsT : FR → Bool
  | .ok (.own l) z => z == 0 && (decide (l.length ≤ 1000) && l.all fun d => okB false (m_is_template [d] 0))
  | _ => false
theorem badsT_ok : badsT (m__law_bad_templates [] 0) = true := by decide +kernel
theorem bad_templates : ∃ l, m__law_bad_templates [] 0 = .ok (.own l) 0 ∧ l.length ≤ 1000 ∧ ∀ d ∈ l, m_is_template [d] 0 = .ok (.val (.bl false)) 0 := by
  have h := badsT_ok
  unfold badsT at h
  split at h
  · rename_i l z e
    rw [Bool.and_eq_true, Bool.and_eq_true, beq_iff_eq, decide_eq_true_eq, List.all_eq_true] at h
    obtain ⟨h1, h2, h3⟩ := h
    subst h1
    exact ⟨l, e, h2, fun d hd => okB_eq (h3 d hd)⟩
  · cases h
theorem items_l {l : List D} : items (.lst l) = some l := rfl
theorem b_law_eq : b_law = (mSeq (mFor (itR1 (aCons (eF (oBn dMax2 (aCons (mC (.int 2)) (aCons (eF (oBn dMin2 (aCons (eF (oB1V dLen 0)) (aCons (mC (.int 8)) aNil)))) aNil)))) aNil)) (gN 1) kb)
  (mSeq (mIfS (mTest (mBin dNevS (eF (oLc [8] (itA (eF (oCall m__law_bad_templates aNil))) (gN 8) (mTest (mBin (dIsB true) (eF (oCall m_is_template (aCons (mVar 8) aNil))) (mC (.bl false)))) (mVar 8))) (eF (oLst aNil)))) (mRet (oV (mC (.bl false)))) mNext)
  (mRet (oV (eAnd (mBin dEqvS (eF (oCall m_fill (aCons (mC (.str [63, 97, 63])) (aCons (mC (.str [97, 98])) aNil)))) (mC (.str [97, 98, 97, 97, 98]))) (eAnd (mBin dEqvS (eF (oCall m_fill (aCons (mC (.str [])) (aCons (mC (.str [97, 98])) aNil)))) (mC (.str []))) (mBin (dIsB false) (eF (oCall m_is_template (aCons (mC (.str [])) aNil))) (mC (.bl true))))))))) := rfl
theorem d_max2 {a b : Nat} : dMax2 [.int (a : Int), .int (b : Int)] = some (.val (.int ((max a b : Nat) : Int))) := by
  show some (SV.val (.int (if (b : Int) > (a : Int) then (b : Int) else (a : Int)))) = _
  by_cases q : a < b
  · rw [if_pos (by omega), show max a b = b by omega]
  · rw [if_neg (by omega), show max a b = a by omega]
theorem law_true : ∀ ns : List Int, ns.length ≤ 63 → ∃ z, m_law [.kst (ns.map .int)] 0 = .ok (.val (.bl true)) z := by
  intro ns hn
  have mn : dMin2 [.int (((ns.map D.int).length : Nat) : Int), .int 8] = some (.val (.int ((min ns.length 8 : Nat) : Int))) := by
    rw [List.length_map]
    show some (SV.val (.int (if (8 : Int) < (ns.length : Int) then 8 else (ns.length : Int)))) = _
    by_cases q : 8 < ns.length
    · rw [if_pos (by omega), show min ns.length 8 = 8 by omega]; rfl
    · rw [if_neg (by omega), show min ns.length 8 = ns.length by omega]
  have mx : dMax2 [.int 2, .int ((min ns.length 8 : Nat) : Int)] = some (.val (.int ((max 2 (min ns.length 8) : Nat) : Int))) := d_max2 (a := 2)
  obtain ⟨y1, y2, y3, y4, y5, y6, y7, lp⟩ := k_loop (ns := ns) (max 2 (min ns.length 8)) 0 .no .no .no .no .no .no .no (by omega)
  have lp' : forLoop (gN 1) kb (dInts 0 (max 2 (min ns.length 8))) ⟨[.val (.kst (ns.map .int)), .no, .no, .no, .no, .no, .no, .no, .no], 0⟩ = _ := lp
  obtain ⟨bt, e1, bl, hb⟩ := bad_templates
  have lc0 := lc_one (v := 8) (t := mTest (mBin (dIsB true) (eF (oCall m_is_template (aCons (mVar 8) aNil))) (mC (.bl false)))) (e := mVar 8) (l := [.val (.kst (ns.map .int)), y1, y2, y3, y4, y5, y6, y7, .no]) (n := 0) (ds := bt) (fun _ => false) id rfl (small_le (by omega)) (fun d hm => Or.inr ⟨rfl, by
    have := hb d hm
    simp only [e_var, e_kVarV, e_kVarO, e_oVar, e_kVoV, e_kVoO, eC, e_bin, e_kBin, e_kBin2, e_oBin, e_kOBin, e_kOBin2, e_good1v, e_good1o, e_test, e_kTest, e_and, e_or, e_not, e_kAndT, e_kAndF, e_kOrT, e_kOrF, e_kNot, e_eand, e_eor, e_enot, e_kEAndT, e_kEAndF, e_kEOrT, e_kEOrF, e_kENot, e_ifE, e_kIfET, e_kIfEF, e_oV, e_kOV, e_eF, e_frzv, e_frzo, e_neg, e_kNeg, e_nil, e_cons, e_kCons, e_kCons2, e_oB1, e_kB1, e_b1V, e_kB1V, e_kGetV, e_kGetO, e_oBn, e_kBn, e_ixV, e_kIxV, e_ixAt, e_kAtS, e_kAtL, e_kAtT, e_kAtK, e_kAtP, e_pSome, e_kSome, e_pNone, e_oSl, e_kSl, e_kSl2, e_kSl3, e_oLst, e_kOL, e_tup, e_kTup, e_call, e_res, e_kResV, e_kResO, e_kResX, e_cP, e_kCP, e_cQ, e_kCQ, e_outRV, e_outRO, e_seq, e_kSeqN, e_kSeqR, e_kSeqB, e_kSeqC, e_kSeqX, e_next, e_set, e_kSet, e_good, e_kGoodV, e_kGoodO, e_kGoodX, e_asg, e_kAsg, e_rsof, e_gN, e_par, e_kPar, e_ret, e_kRet, e_drop, e_kDrop, e_if, e_kIfT, e_kIfF, e_raise, e_for, e_kFor, e_itA, e_kItA, e_itR1, e_itR2, e_kP, e_pileSet, e_kP0, e_app', e_kA0, e_kApp', e_kA1, for_nil, e_kLoopN, e_kLoopC, e_kLoopB, e_kLoopR, e_kWhN, e_kWhC, e_kWhB, e_kWhR, e_oLc, e_yes, e_bok, e_bexc, e_bsok, e_bsexc, e_ofs, e_obs, e_oms, out_rt, out_nx, List.set_cons_zero, List.set_cons_succ, List.getElem?_cons_zero, List.getElem?_cons_succ, List.map_cons, List.map_nil, List.length_cons, List.length_nil, List.cons_append, List.nil_append, Nat.reduceAdd, Nat.reduceLeDiff, Nat.zero_add, Nat.reduceLT, e_ins, e_kI0, e_kIns, e_ext, e_kE0, e_kExt, e_kE1, e_newD, e_dput, e_kPut0, e_kD0, e_kPutS, e_kPutI, e_kD1, e_itKy, e_kKy, e_kGoodD, e_aug, e_kAg, e_kAug, e_kAg1, e_itZ, e_kZL, e_kZT, e_isiT, e_kT1, e_kT2, e_rgA, e_kG1, e_rev, e_kRev, e_gT, e_gsCons, e_kGs, e_gsNil, e_lc2, e_eqS, e_neS, e_ltP, e_join, e_kJn, e_kJn2, e_split, e_kSp, e_kSp2, e_eqV, e_kEq0, e_eqAt, e_kEq1, e_parO, e_kPO, e_kPO2, e_raiseN, e_kRN, e_try, e_kTrN, e_kTH, e_itEnK, e_kIE, e_rep, e_isX, e_kIX, this, isB_ff]⟩)
  have fe : (bt.filter fun _ => false) = [] := List.filter_eq_nil_iff.mpr fun _ _ => by decide
  rw [fe] at lc0
  have n0 : dNevS (.lst []) (.lst []) = some (.bl false) := rfl
  have f1 : m_fill [.str [63, 97, 63], .str [97, 98]] 0 = .ok (.val (.str [97, 98, 97, 97, 98])) 0 := fill_ (by decide) (by decide) (by decide) (by decide)
  have f2 : m_fill [.str [], .str [97, 98]] 0 = .ok (.val (.str [])) 0 := fill_ (by decide) (by decide) (by decide) (by decide)
  have f3 : m_is_template [.str []] 0 = .ok (.val (.bl true)) 0 := is_template_str (by decide)
  have k0 : ∀ s, kOL [] s = .ok (.own []) s := fun _ => rfl
  refine ⟨0, ?_⟩
  unfold m_law
  refine (mk_ev (by rfl)).trans ?_
  show outF (b_law ⟨[.val (.kst (ns.map .int)), .no, .no, .no, .no, .no, .no, .no, .no], 0⟩) = _
  rw [b_law_eq]
  simp only [e_var, e_kVarV, e_kVarO, e_oVar, e_kVoV, e_kVoO, eC, e_bin, e_kBin, e_kBin2, e_oBin, e_kOBin, e_kOBin2, e_good1v, e_good1o, e_test, e_kTest, e_and, e_or, e_not, e_kAndT, e_kAndF, e_kOrT, e_kOrF, e_kNot, e_eand, e_eor, e_enot, e_kEAndT, e_kEAndF, e_kEOrT, e_kEOrF, e_kENot, e_ifE, e_kIfET, e_kIfEF, e_oV, e_kOV, e_eF, e_frzv, e_frzo, e_neg, e_kNeg, e_nil, e_cons, e_kCons, e_kCons2, e_oB1, e_kB1, e_b1V, e_kB1V, e_kGetV, e_kGetO, e_oBn, e_kBn, e_ixV, e_kIxV, e_ixAt, e_kAtS, e_kAtL, e_kAtT, e_kAtK, e_kAtP, e_pSome, e_kSome, e_pNone, e_oSl, e_kSl, e_kSl2, e_kSl3, e_oLst, e_kOL, e_tup, e_kTup, e_call, e_res, e_kResV, e_kResO, e_kResX, e_cP, e_kCP, e_cQ, e_kCQ, e_outRV, e_outRO, e_seq, e_kSeqN, e_kSeqR, e_kSeqB, e_kSeqC, e_kSeqX, e_next, e_set, e_kSet, e_good, e_kGoodV, e_kGoodO, e_kGoodX, e_asg, e_kAsg, e_rsof, e_gN, e_par, e_kPar, e_ret, e_kRet, e_drop, e_kDrop, e_if, e_kIfT, e_kIfF, e_raise, e_for, e_kFor, e_itA, e_kItA, e_itR1, e_itR2, e_kP, e_pileSet, e_kP0, e_app', e_kA0, e_kApp', e_kA1, for_nil, e_kLoopN, e_kLoopC, e_kLoopB, e_kLoopR, e_kWhN, e_kWhC, e_kWhB, e_kWhR, e_oLc, e_yes, e_bok, e_bexc, e_bsok, e_bsexc, e_ofs, e_obs, e_oms, out_rt, out_nx, List.set_cons_zero, List.set_cons_succ, List.getElem?_cons_zero, List.getElem?_cons_succ, List.map_cons, List.map_nil, List.length_cons, List.length_nil, List.cons_append, List.nil_append, Nat.reduceAdd, Nat.reduceLeDiff, Nat.zero_add, Nat.reduceLT, e_ins, e_kI0, e_kIns, e_ext, e_kE0, e_kExt, e_kE1, e_newD, e_dput, e_kPut0, e_kD0, e_kPutS, e_kPutI, e_kD1, e_itKy, e_kKy, e_kGoodD, e_aug, e_kAg, e_kAug, e_kAg1, e_itZ, e_kZL, e_kZT, e_isiT, e_kT1, e_kT2, e_rgA, e_kG1, e_rev, e_kRev, e_gT, e_gsCons, e_kGs, e_gsNil, e_lc2, e_eqS, e_neS, e_ltP, e_join, e_kJn, e_kJn2, e_split, e_kSp, e_kSp2, e_eqV, e_kEq0, e_eqAt, e_kEq1, e_parO, e_kPO, e_kPO2, e_raiseN, e_kRN, e_try, e_kTrN, e_kTH, e_itEnK, e_kIE, e_rep, e_isX, e_kIX, len_k, mn, mx, e_rg (show max 2 (min ns.length 8) ≤ 4000000 by omega), lp', e1, items_l, lc0, n0, f1, f2, f3, decide_true, isB_t]
end Pd

/-! the head and the end, printed by genh.py -/
namespace Pd
open PySem PySem.Spec PyProof.Rows L2 Tk
def d_is_of : He.DefD := ⟨("is_of", none), "is_of", "is_of", defArgs s_is_of, defBody s_is_of, defScope s_is_of, [], []⟩
def d_is_template : He.DefD := ⟨("is_template", none), "is_template", "is_template", defArgs s_is_template, defBody s_is_template, defScope s_is_template, [], []⟩
def d_is_word : He.DefD := ⟨("is_word", none), "is_word", "is_word", defArgs s_is_word, defBody s_is_word, defScope s_is_word, [], []⟩
def d_look_at_word : He.DefD := ⟨("look_at_word", none), "look_at_word", "look_at_word", defArgs s_look_at_word, defBody s_look_at_word, defScope s_look_at_word, [], []⟩
def d_look_at_template : He.DefD := ⟨("look_at_template", none), "look_at_template", "look_at_template", defArgs s_look_at_template, defBody s_look_at_template, defScope s_look_at_template, [], []⟩
def d_fill : He.DefD := ⟨("fill", none), "fill", "fill", defArgs s_fill, defBody s_fill, defScope s_fill, [], []⟩
def d__law_mixed : He.DefD := ⟨("_law_mixed", none), "_law_mixed", "_law_mixed", defArgs s__law_mixed, defBody s__law_mixed, defScope s__law_mixed, [], []⟩
def d__law_pile : He.DefD := ⟨("_law_pile", none), "_law_pile", "_law_pile", defArgs s__law_pile, defBody s__law_pile, defScope s__law_pile, [], []⟩
def d__law_take : He.DefD := ⟨("_law_take", none), "_law_take", "_law_take", defArgs s__law_take, defBody s__law_take, defScope s__law_take, [], []⟩
def d__law_word : He.DefD := ⟨("_law_word", none), "_law_word", "_law_word", defArgs s__law_word, defBody s__law_word, defScope s__law_word, [], []⟩
def d__law_letters : He.DefD := ⟨("_law_letters", none), "_law_letters", "_law_letters", defArgs s__law_letters, defBody s__law_letters, defScope s__law_letters, [], []⟩
def d__law_loose : He.DefD := ⟨("_law_loose", none), "_law_loose", "_law_loose", defArgs s__law_loose, defBody s__law_loose, defScope s__law_loose, [], []⟩
def d__law_bad_templates : He.DefD := ⟨("_law_bad_templates", none), "_law_bad_templates", "_law_bad_templates", defArgs s__law_bad_templates, defBody s__law_bad_templates, defScope s__law_bad_templates, [], []⟩
def d__law_filled : He.DefD := ⟨("_law_filled", none), "_law_filled", "_law_filled", defArgs s__law_filled, defBody s__law_filled, defScope s__law_filled, [], []⟩
def d_law : He.DefD := ⟨("law", none), "law", "law", defArgs s_law, defBody s_law, defScope s_law, [], []⟩
def hfa : List He.Fa := [.glo "is_of", .glo "is_template", .glo "is_word", .glo "look_at_word", .glo "look_at_template", .glo "fill", .glo "_law_mixed", .glo "_law_pile", .glo "_law_take", .glo "_law_word", .glo "_law_letters", .glo "_law_loose", .glo "_law_bad_templates", .glo "_law_filled", .glo "law", .free "all", .free "int", .free "isinstance", .free "len", .free "max", .free "min", .free "range", .free "str", .str "LETTERS" "abcdefghijklmnopqrstuvwxyz", .glo "NoTemplate", .exc "NoTemplate", .glo "NoWord", .exc "NoWord"]
def hnm0 : List Str := ["WordsError", "NoWord", "NoTemplate", "LETTERS", "is_of", "is_word", "is_template", "look_at_word", "look_at_template", "fill", "_law_mixed", "_law_pile", "_law_take", "_law_word", "_law_letters"]
def hnm1 : List Str := ["_law_loose", "_law_bad_templates", "_law_filled"]
def hnm : List Str := hnm0 ++ hnm1
def hfn : List He.DefD := [d_is_of, d_is_template, d_is_word, d_look_at_word, d_look_at_template, d_fill, d__law_mixed, d__law_pile, d__law_take, d__law_word, d__law_letters, d__law_loose, d__law_bad_templates, d__law_filled, d_law]
abbrev hR : PySem.W.OpenRow := PySem.W.OpenLaw.row PySem.Challenge.rw_holewords_k02_templates_filled
abbrev hk : PySem.W.Hook := He.hookD 4 hfa hfn
def hob (s : PySem.W.SharedT) : He.AlD := He.obsDG 4 hfa hfn (HandSHeadRun.getT s)
theorem hob_eq (s : PySem.W.SharedT) : hob s = hk.obs s.abs := He.obsDG_eq (HandSHeadRun.getT_eq s)
theorem hrun (w : World) : HandSHeadRun.RunEq hR (PySem.W.view hR.prog [21]) hk hob 20000 hnm w := by
  intro os
  kernel_rfl
theorem hfacts {P : Program} {w : World} {K : PySem.W.Frag} {h : Heap} {mg : Str → Option Value} {f : Addr} (X : K.In h) (G : h.Ns mainGlobals mg) (hfa' : mg ("law" : Str) = some (.ref f)) (c : He.SaysD hfa hfn K) :
    ∃ fd : FuncData, (∀ (s : Shared) (v : Value), BindsTo s fd ⟨[v], []⟩ [("_law_script", v)]) ∧ ∀ base : Heap, K.In base → base.Ns mainGlobals mg → FnG P w K mg base (L2.CX P w) 5 f fd ["_law_script"] (spF (G0 K mg) m_law) := by
  have B_all : mg "all" = none := He.free_ok X G (c.fact 15 (f := .free "all") rfl)
  have B_int : mg "int" = none := He.free_ok X G (c.fact 16 (f := .free "int") rfl)
  have B_isinstance : mg "isinstance" = none := He.free_ok X G (c.fact 17 (f := .free "isinstance") rfl)
  have B_len : mg "len" = none := He.free_ok X G (c.fact 18 (f := .free "len") rfl)
  have B_max : mg "max" = none := He.free_ok X G (c.fact 19 (f := .free "max") rfl)
  have B_min : mg "min" = none := He.free_ok X G (c.fact 20 (f := .free "min") rfl)
  have B_range : mg "range" = none := He.free_ok X G (c.fact 21 (f := .free "range") rfl)
  have B_str : mg "str" = none := He.free_ok X G (c.fact 22 (f := .free "str") rfl)
  have G_LETTERS : GlobS mg "LETTERS" k_LETTERS := globS_of X G (c.fact 23 (f := .str "LETTERS" "abcdefghijklmnopqrstuvwxyz") rfl) (by decide +kernel)
  have X_NoTemplate : ExcOk K mg "NoTemplate" (He.ga K (Str.ofString "NoTemplate")) := excOk_of X G (c.fact 25 (f := .exc "NoTemplate") rfl) (c.fact 24 (f := .glo "NoTemplate") rfl)
  have X_NoWord : ExcOk K mg "NoWord" (He.ga K (Str.ofString "NoWord")) := excOk_of X G (c.fact 27 (f := .exc "NoWord") rfl) (c.fact 26 (f := .glo "NoWord") rfl)
  obtain ⟨fd_is_of, F_is_of⟩ := c.def_ 0 (d := d_is_of) rfl
  have gm_is_of : mg "is_of" = some (.ref (He.ga K "is_of")) := He.glo_ok X G (c.fact 0 (f := .glo "is_of") rfl)
  obtain ⟨fd_is_template, F_is_template⟩ := c.def_ 1 (d := d_is_template) rfl
  have gm_is_template : mg "is_template" = some (.ref (He.ga K "is_template")) := He.glo_ok X G (c.fact 1 (f := .glo "is_template") rfl)
  obtain ⟨fd_is_word, F_is_word⟩ := c.def_ 2 (d := d_is_word) rfl
  have gm_is_word : mg "is_word" = some (.ref (He.ga K "is_word")) := He.glo_ok X G (c.fact 2 (f := .glo "is_word") rfl)
  obtain ⟨fd_look_at_word, F_look_at_word⟩ := c.def_ 3 (d := d_look_at_word) rfl
  have gm_look_at_word : mg "look_at_word" = some (.ref (He.ga K "look_at_word")) := He.glo_ok X G (c.fact 3 (f := .glo "look_at_word") rfl)
  obtain ⟨fd_look_at_template, F_look_at_template⟩ := c.def_ 4 (d := d_look_at_template) rfl
  have gm_look_at_template : mg "look_at_template" = some (.ref (He.ga K "look_at_template")) := He.glo_ok X G (c.fact 4 (f := .glo "look_at_template") rfl)
  obtain ⟨fd_fill, F_fill⟩ := c.def_ 5 (d := d_fill) rfl
  have gm_fill : mg "fill" = some (.ref (He.ga K "fill")) := He.glo_ok X G (c.fact 5 (f := .glo "fill") rfl)
  obtain ⟨fd__law_mixed, F__law_mixed⟩ := c.def_ 6 (d := d__law_mixed) rfl
  have gm__law_mixed : mg "_law_mixed" = some (.ref (He.ga K "_law_mixed")) := He.glo_ok X G (c.fact 6 (f := .glo "_law_mixed") rfl)
  obtain ⟨fd__law_pile, F__law_pile⟩ := c.def_ 7 (d := d__law_pile) rfl
  have gm__law_pile : mg "_law_pile" = some (.ref (He.ga K "_law_pile")) := He.glo_ok X G (c.fact 7 (f := .glo "_law_pile") rfl)
  obtain ⟨fd__law_take, F__law_take⟩ := c.def_ 8 (d := d__law_take) rfl
  have gm__law_take : mg "_law_take" = some (.ref (He.ga K "_law_take")) := He.glo_ok X G (c.fact 8 (f := .glo "_law_take") rfl)
  obtain ⟨fd__law_word, F__law_word⟩ := c.def_ 9 (d := d__law_word) rfl
  have gm__law_word : mg "_law_word" = some (.ref (He.ga K "_law_word")) := He.glo_ok X G (c.fact 9 (f := .glo "_law_word") rfl)
  obtain ⟨fd__law_letters, F__law_letters⟩ := c.def_ 10 (d := d__law_letters) rfl
  have gm__law_letters : mg "_law_letters" = some (.ref (He.ga K "_law_letters")) := He.glo_ok X G (c.fact 10 (f := .glo "_law_letters") rfl)
  obtain ⟨fd__law_loose, F__law_loose⟩ := c.def_ 11 (d := d__law_loose) rfl
  have gm__law_loose : mg "_law_loose" = some (.ref (He.ga K "_law_loose")) := He.glo_ok X G (c.fact 11 (f := .glo "_law_loose") rfl)
  obtain ⟨fd__law_bad_templates, F__law_bad_templates⟩ := c.def_ 12 (d := d__law_bad_templates) rfl
  have gm__law_bad_templates : mg "_law_bad_templates" = some (.ref (He.ga K "_law_bad_templates")) := He.glo_ok X G (c.fact 12 (f := .glo "_law_bad_templates") rfl)
  obtain ⟨fd__law_filled, F__law_filled⟩ := c.def_ 13 (d := d__law_filled) rfl
  have gm__law_filled : mg "_law_filled" = some (.ref (He.ga K "_law_filled")) := He.glo_ok X G (c.fact 13 (f := .glo "_law_filled") rfl)
  obtain ⟨fd_law, F_law⟩ := c.def_ 14 (d := d_law) rfl
  have e := hfa'.symm.trans (He.glo_ok X G (c.fact 14 (f := .glo "law") rfl))
  cases e
  have b := FunD.bindsA (ps := ["_law_script"]) F_law fun _ _ _ _ _ _ us hl => match us, hl with | [_], _ => rfl
  refine ⟨fd_law, fun s v => b s [v] rfl, fun base _ _ => ?_⟩
  have C_is_of : Cal P w K mg base (G0 K mg) 1 "is_of" m_is_of := ok_is_of F_is_of gm_is_of B_all B_isinstance B_str
  have C_is_template : Cal P w K mg base (G0 K mg) 2 "is_template" m_is_template := ok_is_template F_is_template gm_is_template G_LETTERS C_is_of
  have C_is_word : Cal P w K mg base (G0 K mg) 2 "is_word" m_is_word := ok_is_word F_is_word gm_is_word G_LETTERS C_is_of
  have C_look_at_word : Cal P w K mg base (G0 K mg) 3 "look_at_word" m_look_at_word := ok_look_at_word F_look_at_word gm_look_at_word X_NoWord C_is_word
  have C_look_at_template : Cal P w K mg base (G0 K mg) 3 "look_at_template" m_look_at_template := ok_look_at_template F_look_at_template gm_look_at_template X_NoTemplate C_is_template
  have CT_fill : CalT P w K mg base (G0 K mg) 4 "fill" 1 m_fill := okT_fill F_fill gm_fill C_look_at_word C_look_at_template
  have C__law_mixed : Cal P w K mg base (G0 K mg) 1 "_law_mixed" m__law_mixed := ok__law_mixed F__law_mixed gm__law_mixed B_int
  have C__law_pile : Cal P w K mg base (G0 K mg) 2 "_law_pile" m__law_pile := ok__law_pile F__law_pile gm__law_pile B_int B_len B_range C__law_mixed
  have C__law_take : Cal P w K mg base (G0 K mg) 1 "_law_take" m__law_take := ok__law_take F__law_take gm__law_take B_int
  have CN__law_take : CalN false P w K mg base (G0 K mg) 1 "_law_take" m__law_take := okN__law_take F__law_take gm__law_take B_int
  have C__law_word : Cal P w K mg base (G0 K mg) 2 "_law_word" m__law_word := ok__law_word F__law_word gm__law_word B_len B_range C__law_take
  have CN__law_word : CalN true P w K mg base (G0 K mg) 2 "_law_word" mK__law_word := okN__law_word F__law_word gm__law_word B_len B_range CN__law_take C__law_take
  have C__law_letters : Cal P w K mg base (G0 K mg) 2 "_law_letters" m__law_letters := ok__law_letters F__law_letters gm__law_letters C__law_take
  have C__law_loose : Cal P w K mg base (G0 K mg) 3 "_law_loose" m__law_loose := ok__law_loose F__law_loose gm__law_loose B_range C__law_word
  have C__law_bad_templates : Cal P w K mg base (G0 K mg) 1 "_law_bad_templates" m__law_bad_templates := ok__law_bad_templates F__law_bad_templates gm__law_bad_templates
  have C__law_filled : Cal P w K mg base (G0 K mg) 1 "_law_filled" m__law_filled := ok__law_filled F__law_filled gm__law_filled B_int
  exact ok_law F_law B_len B_max B_min B_range C_is_template C__law_bad_templates C__law_take C__law_filled C__law_loose C__law_letters C__law_pile CN__law_word CT_fill
end Pd
open PySem PySem.W PySem.Calls PyProof.Rows
theorem PySem.Challenge.cw_holewords_k02_templates_filled_holds : PySem.Challenge.rw_holewords_k02_templates_filled.Holds := by
  w_on; o_law
  refine HandSHeadRun.head_any (r := OpenLaw.row PySem.Challenge.rw_holewords_k02_templates_filled) (q := view (OpenLaw.row PySem.Challenge.rw_holewords_k02_templates_filled).prog [21]) (H := Pd.hk) (ob := Pd.hob) (M := 20000) (loose := Pd.hnm) (d := HandSHeadRun.topDef (OpenLaw.row PySem.Challenge.rw_holewords_k02_templates_filled).prog 21) (kwd := []) Pd.hob_eq
    (by kernel_rfl) (fun s => by kernel_rfl) Pd.hrun (by kernel_rfl) (by kernel_rfl) (by kernel_rfl) (by rfl) (by first | assumption | decide +kernel) (by decide +kernel) ⟨rfl, rfl, rfl, rfl, rfl, by decide +kernel⟩ ?hw ?hc
  case hw => w_witness2
  case hc =>
    refine Pd.walk_end (l := PySem.Challenge.rw_holewords_k02_templates_filled) (n := 63) (k := 5) (x := "_law_script") (m := Pd.m_law) rfl (by decide) (by kernel_rfl) ⟨⟨rfl, by decide, by decide⟩, rfl⟩ ?F Pd.law_true
    intro w mg fa h Y G hmg0
    obtain ⟨K, KX, c⟩ := Y
    have hmg : mg ("law" : PySem.Str) = some (.ref fa) := by
      have e : (HandSHeadRun.topDef (OpenLaw.row PySem.Challenge.rw_holewords_k02_templates_filled).prog 21).name = ("law" : PySem.Str) := by kernel_rfl
      rw [← e]
      exact hmg0
    obtain ⟨fd, hb, hF⟩ := Pd.hfacts (P := (PySem.Challenge.rw_holewords_k02_templates_filled).prog) (w := w) KX G hmg c
    exact ⟨K, fd, KX, hb, hF⟩

