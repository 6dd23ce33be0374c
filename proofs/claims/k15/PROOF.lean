import PyProof.Rows.All
import Wide.All
import OpenK.AllK
import Wide.FinOn
import HandS.ForMost
import HandS.ForExc
import HandS.Evl
import HandS.Wide
import HandS.CallSlots
import HandS.Lambda
import HandS.Defaults
import HandS.TupAny
import HandS.IsInst
import HandS.Style
import PyProof.StrOps2
import HandS.Iter
import HandS.Ends
import HandS.Exc
import HandS.TryMany
import HandS.ExcInit
import HandS.ExcField
import HandS.EndTab
import KE.GoesEnum
import KE.GoesMore
import PyProof.EnumMake
import HandS.SortOrd
import HandS.SortInts
import PyProof.SumWalkG
import PyProof.Rows.SumAny
import HandS.Conv
import HandS.SortKw
import HandS.DictComp
import HandS.More
import HandS.MakeKwOnly
import HandS.SlotsOwn
import PyProof.FactsLen
import HandS.Codes
import KE.KDflt
import HandS.Strs
import KE.KUnpackStar
import HandS.TupSets
import HandS.SetBool
import KE.SortData
import PySem.Challenge.RW_cornertrade_k15_whole_no_trade_changes_t
set_option Elab.async false
set_option linter.all false
set_option maxRecDepth 100003
set_option maxHeartbeats 4000003
namespace CT
open PySem L2
/-! ## data, stores, outcomes -/
inductive D where
  | non
  | bl (b : Bool)
  | int (i : Int)
  | str (x : Str)
  | tup (ds : List D)
  | lst (ds : List D)
  | cel (c : Nat)
  /-- a list that nobody may change: the script -/
  | lck (ds : List D)
  /-- an object that nobody changes any more: its class, its fields -/
  | ins (c : Nat) (ns : List Str) (ds : List D)
  /-- a dict that nobody changes any more; a def of the program -/
  | dct (ks : List Key) (ds : List D)
  | fn (k : Nat)
  /-- a tuple that tuple(..) made -/
  | tpl (ds : List D)
mutual
def D.cf (n : Nat) : D → Bool
  | .non => true
  | .bl _ => true
  | .int _ => true
  | .str _ => true
  | .tup ds => D.cfs n ds
  | .lst ds => D.cfs n ds
  | .cel c => decide (c < n)
  | .lck ds => D.cfs n ds
  | .ins _ _ ds => D.cfs n ds
  | .dct _ ds => D.cfs n ds
  | .fn _ => true
  | .tpl ds => D.cfs n ds
def D.cfs (n : Nat) : List D → Bool
  | [] => true
  | d :: ds => D.cf n d && D.cfs n ds
end
/-- what a cell holds: a list; an object -/
inductive Ce where
  | l (ds : List D)
  | o (c : Nat) (ns : List Str) (ds : List D)
  | d (ks : List Key) (ds : List D)
def Ce.ds : Ce → List D
  | .l ds => ds
  | .o _ _ ds => ds
  | .d _ ds => ds
def Ce.fz : Ce → D
  | .l ds => .lst ds
  | .o c ns ds => .ins c ns ds
  | .d ks ds => .dct ks ds
abbrev Ms := List Ce
instance : Coe (List D) Ce := ⟨Ce.l⟩
/-- what is written, the tables that lambdas grow, the classes -/
structure KK where
  K : PySem.W.Frag
  T : List (Addr × Str)
  ct : Nat → Addr
  fa : Nat → Addr := fun _ => 0
instance : Coe KK PySem.W.Frag := ⟨KK.K⟩
abbrev Sd := List (Option D)
/-- an exception: which class, its fields -/
structure Xc where
  c : Nat
  fs : List (Str × D)
inductive R (δ : Type) where
  | ok (d : δ) (m : Ms)
  | ex (x : Xc) (m : Ms)
  | bad
inductive O where
  | nx (σ : Sd) (m : Ms)
  | rt (d : D) (m : Ms)
  | bk (σ : Sd) (m : Ms)
  | ct (σ : Sd) (m : Ms)
  | ex (x : Xc) (σ : Sd) (m : Ms)
  | bad
def R.bind {δ ε : Type} (r : R δ) (f : δ → Ms → R ε) : R ε :=
  match r with
  | .ok d m => f d m
  | .ex x m => .ex x m
  | .bad => .bad
@[simp] theorem R.bind_ok {δ ε : Type} (d : δ) (m : Ms) (f : δ → Ms → R ε) : (R.ok d m).bind f = f d m := rfl
@[simp] theorem R.bind_ex {δ ε : Type} (x : Xc) (m : Ms) (f : δ → Ms → R ε) : (R.ex x m : R δ).bind f = .ex x m := rfl
@[simp] theorem R.bind_bad {δ ε : Type} (f : δ → Ms → R ε) : (R.bad : R δ).bind f = .bad := rfl
def R.go {δ : Type} (r : R δ) (σ : Sd) (f : δ → Ms → O) : O :=
  match r with
  | .ok d m => f d m
  | .ex x m => .ex x σ m
  | .bad => .bad
@[simp] theorem R.go_ok {δ : Type} (d : δ) (m : Ms) (σ : Sd) (f : δ → Ms → O) : (R.ok d m).go σ f = f d m := rfl
@[simp] theorem R.go_ex {δ : Type} (x : Xc) (m : Ms) (σ : Sd) (f : δ → Ms → O) : (R.ex x m : R δ).go σ f = .ex x σ m := rfl
@[simp] theorem R.go_bad {δ : Type} (σ : Sd) (f : δ → Ms → O) : (R.bad : R δ).go σ f = .bad := rfl
abbrev Fn (δ : Type) := Sd → Ms → R δ
abbrev Fo := Sd → Ms → O
/-! ## what data a value stands for -/
mutual
inductive Rep (K : KK) (G : Hp) (α : List Addr) : V → D → Prop
  | non : Rep K G α .non .non
  | bl {b : Bool} : Rep K G α (.bl b) (.bl b)
  | int {i : Int} : Rep K G α (.int i) (.int i)
  | str {x : Str} : Rep K G α (.str x) (.str x)
  | tup {a : Addr} {vs : List V} {ds : List D} : SqT K G a vs → Reps K G α vs ds → Rep K G α (.ref a) (.tup ds)
  | lst {a : Addr} {vs : List V} {ds : List D} : G a = some (.lst vs) → Reps K G α vs ds → Rep K G α (.ref a) (.lst ds)
  | cel {a : Addr} {c : Nat} : α[c]? = some a → Rep K G α (.ref a) (.cel c)
  | lck {a : Addr} {vs : List V} {ds : List D} : SqL K G a vs → Reps K G α vs ds → Rep K G α (.ref a) (.lck ds)
  | ins {a dx : Addr} {c : Nat} {fs : List (Str × V)} {ns : List Str} {ds : List D} : G a = some (.ins (K.ct c) dx fs) → fs.map (·.1) = ns → Reps K G α (fs.map (·.2)) ds → Rep K G α (.ref a) (.ins c ns ds)
  | dct {a : Addr} {kvs : List (Key × V)} {ks : List Key} {ds : List D} : G a = some (.dK kvs) → kvs.map (·.1) = ks → Reps K G α (kvs.map (·.2)) ds → Rep K G α (.ref a) (.dct ks ds)
  | fn {k : Nat} : Rep K G α (.ref (K.fa k)) (.fn k)
  | tpl {a : Addr} {ob : Obj} {vs : List V} {ds : List D} : G a = some (.frz ob (.tup vs)) → ob.cls = .type "tuple" → ob.dict = .none → Reps K G α vs ds → Rep K G α (.ref a) (.tpl ds)
inductive Reps (K : KK) (G : Hp) (α : List Addr) : List V → List D → Prop
  | nil : Reps K G α [] []
  | cons {v : V} {d : D} {vs : List V} {ds : List D} : Rep K G α v d → Reps K G α vs ds → Reps K G α (v :: vs) (d :: ds)
end
section
variable {K : KK} {G G' : Hp} {α α' : List Addr}
theorem sqt_mono (h : ∀ a o, G a = some o → G' a = some o) {a : Addr} {vs : List V} (s : SqT K G a vs) : SqT K G' a vs := by
  rcases s with (s | ⟨o, s⟩) | s
  · exact .inl (.inl (h _ _ s))
  · exact .inl (.inr ⟨o, h _ _ s⟩)
  · exact .inr s
theorem sql_mono (h : ∀ a o, G a = some o → G' a = some o) {a : Addr} {vs : List V} (s : SqL K G a vs) : SqL K G' a vs := by
  rcases s with (s | ⟨o, s⟩) | s
  · exact .inl (.inl (h _ _ s))
  · exact .inl (.inr ⟨o, h _ _ s⟩)
  · exact .inr s
mutual
theorem Rep.mono (h : ∀ a o, G a = some o → G' a = some o) (hα : ∀ (c : Nat) (a : Addr), α[c]? = some a → α'[c]? = some a) : ∀ {v : V} {d : D}, Rep K G α v d → Rep K G' α' v d
  | _, _, .non => .non
  | _, _, .bl => .bl
  | _, _, .int => .int
  | _, _, .str => .str
  | _, _, .tup s r => .tup (sqt_mono h s) (Reps.mono h hα r)
  | _, _, .lst s r => .lst (h _ _ s) (Reps.mono h hα r)
  | _, _, .cel e => .cel (hα _ _ e)
  | _, _, .lck s r => .lck (sql_mono h s) (Reps.mono h hα r)
  | _, _, .ins s n r => .ins (h _ _ s) n (Reps.mono h hα r)
  | _, _, .dct s n r => .dct (h _ _ s) n (Reps.mono h hα r)
  | _, _, .fn => .fn
  | _, _, .tpl s c e r => .tpl (h _ _ s) c e (Reps.mono h hα r)
theorem Reps.mono (h : ∀ a o, G a = some o → G' a = some o) (hα : ∀ (c : Nat) (a : Addr), α[c]? = some a → α'[c]? = some a) : ∀ {vs : List V} {ds : List D}, Reps K G α vs ds → Reps K G' α' vs ds
  | _, _, .nil => .nil
  | _, _, .cons a b => .cons (Rep.mono h hα a) (Reps.mono h hα b)
end
mutual
/-- data whose cells lie below n: the cells beyond don't matter -/
theorem Rep.cut {n : Nat} (h : ∀ a o, G a = some o → G' a = some o) (hα : ∀ (c : Nat) (a : Addr), c < n → α[c]? = some a → α'[c]? = some a) : ∀ {v : V} {d : D}, d.cf n = true → Rep K G α v d → Rep K G' α' v d
  | _, _, _, .non => .non
  | _, _, _, .bl => .bl
  | _, _, _, .int => .int
  | _, _, _, .str => .str
  | _, _, z, .tup s r => .tup (sqt_mono h s) (Reps.cut h hα (by simpa [D.cf] using z) r)
  | _, _, z, .lst s r => .lst (h _ _ s) (Reps.cut h hα (by simpa [D.cf] using z) r)
  | _, _, z, .cel e => .cel (hα _ _ (by simpa [D.cf] using z) e)
  | _, _, z, .lck s r => .lck (sql_mono h s) (Reps.cut h hα (by simpa [D.cf] using z) r)
  | _, _, z, .ins s n r => .ins (h _ _ s) n (Reps.cut h hα (by simpa [D.cf] using z) r)
  | _, _, z, .dct s n r => .dct (h _ _ s) n (Reps.cut h hα (by simpa [D.cf] using z) r)
  | _, _, _, .fn => .fn
  | _, _, z, .tpl s c e r => .tpl (h _ _ s) c e (Reps.cut h hα (by simpa [D.cf] using z) r)
theorem Reps.cut {n : Nat} (h : ∀ a o, G a = some o → G' a = some o) (hα : ∀ (c : Nat) (a : Addr), c < n → α[c]? = some a → α'[c]? = some a) : ∀ {vs : List V} {ds : List D}, D.cfs n ds = true → Reps K G α vs ds → Reps K G' α' vs ds
  | _, _, _, .nil => .nil
  | _, _, z, .cons a b => by
    rw [D.cfs, Bool.and_eq_true] at z
    exact .cons (Rep.cut h hα z.1 a) (Reps.cut h hα z.2 b)
end
theorem Reps.length : ∀ {vs : List V} {ds : List D}, Reps K G α vs ds → vs.length = ds.length
  | _, _, .nil => rfl
  | _, _, .cons _ r => by simp [Reps.length r]
theorem Reps.get : ∀ {vs : List V} {ds : List D} {i : Nat} {d : D}, Reps K G α vs ds → ds[i]? = some d → ∃ v, vs[i]? = some v ∧ Rep K G α v d
  | _, _, _, _, .nil, e => by simp at e
  | _, _, 0, _, .cons a _, e => by simp at e; subst e; exact ⟨_, rfl, a⟩
  | _, _, i + 1, _, .cons _ r, e => by
    obtain ⟨v, h1, h2⟩ := Reps.get (i := i) r (by simpa using e)
    exact ⟨v, by simpa using h1, h2⟩
theorem Reps.getv : ∀ {vs : List V} {ds : List D} {i : Nat} {v : V}, Reps K G α vs ds → vs[i]? = some v → ∃ d, ds[i]? = some d ∧ Rep K G α v d
  | _, _, _, _, .nil, e => by simp at e
  | _, _, 0, _, .cons a _, e => by simp at e; subst e; exact ⟨_, rfl, a⟩
  | _, _, i + 1, _, .cons _ r, e => by
    obtain ⟨v, h1, h2⟩ := Reps.getv (i := i) r (by simpa using e)
    exact ⟨v, by simpa using h1, h2⟩
theorem Reps.app : ∀ {vs ws : List V} {ds es : List D}, Reps K G α vs ds → Reps K G α ws es → Reps K G α (vs ++ ws) (ds ++ es)
  | _, _, _, _, .nil, q => q
  | _, _, _, _, .cons a r, q => .cons a (Reps.app r q)
theorem Reps.take : ∀ (n : Nat) {vs : List V} {ds : List D}, Reps K G α vs ds → Reps K G α (vs.take n) (ds.take n)
  | 0, _, _, _ => by simp; exact .nil
  | _ + 1, _, _, .nil => .nil
  | n + 1, _, _, .cons a r => .cons a (Reps.take n r)
theorem Reps.drop : ∀ (n : Nat) {vs : List V} {ds : List D}, Reps K G α vs ds → Reps K G α (vs.drop n) (ds.drop n)
  | 0, _, _, r => r
  | _ + 1, _, _, .nil => .nil
  | n + 1, _, _, .cons _ r => Reps.drop n r
theorem Reps.set {v : V} {d : D} (a : Rep K G α v d) : ∀ (i : Nat) {vs : List V} {ds : List D}, Reps K G α vs ds → Reps K G α (vs.set i v) (ds.set i d)
  | _, _, _, .nil => .nil
  | 0, _, _, .cons _ r => .cons a r
  | i + 1, _, _, .cons b r => .cons b (Reps.set a i r)
theorem Reps.rev : ∀ {vs : List V} {ds : List D}, Reps K G α vs ds → Reps K G α vs.reverse ds.reverse
  | _, _, .nil => .nil
  | _, _, .cons a r => by
    simp only [List.reverse_cons]
    exact (Reps.rev r).app (.cons a .nil)
theorem Reps.erase : ∀ (i : Nat) {vs : List V} {ds : List D}, Reps K G α vs ds → Reps K G α (vs.eraseIdx i) (ds.eraseIdx i)
  | _, _, _, .nil => .nil
  | 0, _, _, .cons _ r => r
  | i + 1, _, _, .cons b r => .cons b (Reps.erase i r)
end
/-! ## the heap ahead and behind -/
/-- no table -/
def noTb (o : HO) : Prop := ∀ ps, o ≠ .tbl ps
theorem noTb_lst {vs : List V} : noTb (.lst vs) := fun _ z => by cases z
/-- what stands fast: all that is tracked but the cells and the tables -/
noncomputable def hid (H : Hp) (α : List Addr) : Hp := fun a => if a ∈ α then none else match H a with
  | some (.tbl _) => none
  | o => o
theorem hid_of {H : Hp} {α : List Addr} {a : Addr} {o : HO} (h : hid H α a = some o) : H a = some o ∧ a ∉ α := by
  unfold hid at h
  split at h
  · cases h
  · rename_i hn
    split at h
    · cases h
    · exact ⟨h, hn⟩
theorem hid_nt {H : Hp} {α : List Addr} {a : Addr} {o : HO} (h : hid H α a = some o) : noTb o := by
  unfold hid at h
  split at h
  · cases h
  · split at h
    · cases h
    · rename_i hn
      intro ps z
      subst z
      exact hn _ h
theorem hid_mk {H : Hp} {α : List Addr} {a : Addr} {o : HO} (h : H a = some o) (n : a ∉ α) (t : noTb o := by intro _ z; cases z) : hid H α a = some o := by
  unfold hid
  rw [if_neg n, h]
  split
  · rename_i z
    exact absurd (Option.some.inj z) (t _)
  · rfl
abbrev Rp (K : KK) (H : Hp) (α β : List Addr) := Rep K (hid H (α ++ β)) α
abbrev Rps (K : KK) (H : Hp) (α β : List Addr) := Reps K (hid H (α ++ β)) α
/-- nothing stands there that stays (nothing at all, or a table) -/
def vac (H : Hp) (a : Addr) : Prop := ∀ o, H a = some o → ¬ noTb o
theorem vac_of {H : Hp} {a : Addr} (h : H a = none) : vac H a := fun o e => by rw [h] at e; cases e
/-- α: the cells' addresses; they grow, and all that is no cell of ours stays; the tables may grow -/
structure Ext (H : Hp) (α : List Addr) (H' : Hp) (α' : List Addr) : Prop where
  pre : ∃ γ, α' = α ++ γ
  fr : ∀ a o, a ∉ α → H a = some o → noTb o → H' a = some o
  new : ∀ a ∈ α', a ∈ α ∨ vac H a
section
variable {K : KK} {H H1 H2 : Hp} {α α1 α2 β : List Addr}
theorem Ext.refl : Ext H α H α := ⟨⟨[], by simp⟩, fun _ _ _ h _ => h, fun _ h => .inl h⟩
theorem Ext.trans (a : Ext H α H1 α1) (b : Ext H1 α1 H2 α2) : Ext H α H2 α2 := by
  refine ⟨?_, fun x o n h t => b.fr x o (fun q => ?_) (a.fr x o n h t) t, fun x h => ?_⟩
  · obtain ⟨γ, rfl⟩ := a.pre
    obtain ⟨δ, rfl⟩ := b.pre
    exact ⟨γ ++ δ, by simp⟩
  · rcases a.new x q with q | q
    · exact n q
    · exact q o h t
  · rcases b.new x h with q | q
    · exact a.new x q
    · by_cases hx : x ∈ α
      · exact .inl hx
      · exact .inr fun o e t => q o (a.fr x o hx e t) t
theorem Ext.hid (e : Ext H α H1 α1) : ∀ a o, CT.hid H (α ++ β) a = some o → CT.hid H1 (α1 ++ β) a = some o := fun a o h => by
  have t := hid_nt h
  obtain ⟨h, n⟩ := hid_of h
  refine hid_mk (e.fr a o (fun z => n (List.mem_append_left _ z)) h t) (fun q => ?_) t
  rcases List.mem_append.mp q with q | q
  · rcases e.new a q with q | q
    · exact n (List.mem_append_left _ q)
    · exact q o h t
  · exact n (List.mem_append_right _ q)
theorem Ext.ix (e : Ext H α H1 α1) : ∀ (c : Nat) (a : Addr), α[c]? = some a → α1[c]? = some a := fun c a h => by
  obtain ⟨γ, rfl⟩ := e.pre
  rw [List.getElem?_append_left (List.getElem?_eq_some_iff.mp h).1]
  exact h
theorem Rep.ext {v : V} {d : D} (r : Rp K H α β v d) (e : Ext H α H1 α1) : Rp K H1 α1 β v d := Rep.mono e.hid e.ix r
theorem Reps.ext {vs : List V} {ds : List D} (r : Rps K H α β vs ds) (e : Ext H α H1 α1) : Rps K H1 α1 β vs ds := Reps.mono e.hid e.ix r
end
/-- neither a table nor a code object -/
def plainO : HO → Prop
  | .lst _ => True
  | .ins _ _ _ => True
  | .dK _ => True
  | .ext f => ∀ c q, HO.ext f ≠ LamX.CodeO c q
  | _ => False
theorem plainO.nt {o : HO} (h : plainO o) : noTb o := fun ps z => by subst z; exact h
theorem plainO.nc {o : HO} {c : Addr} {q : Str} (h : plainO o) : o ≠ LamX.CodeO c q := fun z => by
  subst z
  exact h c q rfl
/-- a cell's object -/
def CeO (K : KK) (o : HO) (vs : List V) : Ce → Prop
  | .l _ => o = .lst vs
  | .o c ns _ => ∃ dx fs, o = .ins (K.ct c) dx fs ∧ fs.map (·.1) = ns ∧ fs.map (·.2) = vs
  | .d ks _ => ∃ kvs, o = .dK kvs ∧ kvs.map (·.1) = ks ∧ kvs.map (·.2) = vs
theorem CeO.nt {K : KK} {o : HO} {vs : List V} : ∀ {e : Ce}, CeO K o vs e → noTb o
  | .l _, h => fun ps z => by
    have h : o = .lst vs := h
    rw [h] at z; cases z
  | .o _ _ _, h => fun ps z => by
    obtain ⟨dx, fs, h, _⟩ := h
    rw [h] at z; cases z
  | .d _ _, h => fun ps z => by
    obtain ⟨fs, h, _⟩ := h
    rw [h] at z; cases z
/-- β: objects that are changed by nobody whom we call, and read by nobody -/
structure CR (K : KK) (H : Hp) (α β : List Addr) (m : Ms) : Prop where
  len : α.length = m.length
  nd : α.Nodup
  al : ∀ b ∈ β, b ∉ α ∧ ∃ o, H b = some o ∧ plainO o
  cell : ∀ (c : Nat) (a : Addr) (e : Ce), α[c]? = some a → m[c]? = some e → D.cfs 0 e.ds = true ∧ ∃ vs o, H a = some o ∧ CeO K o vs e ∧ Rps K H α β vs e.ds
  tb : LamX.Tabs K.T H
structure SR (K : KK) (H : Hp) (α β : List Addr) (σ : St) (σd : Sd) (m : Ms) : Prop where
  cr : CR K H α β m
  len : σ.length = σd.length
  slot : ∀ (i : Nat) (d : D), σd[i]? = some (some d) → ∃ v, σ[i]? = some (some v) ∧ Rp K H α β v d
section
variable {K : KK} {H H1 H2 : Hp} {α α1 α2 β : List Addr} {m m' : Ms} {σ σ' : St} {σd σd' : Sd}
theorem CR.tr (c : CR K H α β m) {a : Addr} (h : a ∈ α) : ∃ o, H a = some o ∧ noTb o := by
  obtain ⟨i, hi, e⟩ := List.getElem_of_mem h
  have h1 : α[i]? = some a := by rw [List.getElem?_eq_getElem hi, e]
  have h2 : i < m.length := by have := c.len; omega
  obtain ⟨_, vs, o, q, w, _⟩ := c.cell i a m[i] h1 (List.getElem?_eq_getElem h2)
  exact ⟨o, q, w.nt⟩
theorem CR.fresh (c : CR K H α β m) {p : Addr} (h : H p = none) : p ∉ α := fun q => by
  obtain ⟨o, e, _⟩ := c.tr q
  rw [h] at e; cases e
theorem CR.freshB (c : CR K H α β m) {p : Addr} (h : H p = none) : p ∉ α ++ β := fun q => by
  rcases List.mem_append.mp q with q | q
  · exact c.fresh h q
  · obtain ⟨_, o, e, _⟩ := c.al p q
    rw [h] at e; cases e
theorem Ext.lay {p : Addr} {o : HO} (h : H p = none) : Ext H α (upd H p o) α :=
  ⟨⟨[], by simp⟩, fun a u _ e _ => by rw [upd_ne (ne_of_none e h)]; exact e, fun _ q => .inl q⟩
theorem Ext.cel {p : Addr} {o : HO} (h : H p = none) : Ext H α (upd H p o) (α ++ [p]) :=
  ⟨⟨[p], rfl⟩, fun a u _ e _ => by rw [upd_ne (ne_of_none e h)]; exact e, fun a q => by
    rcases List.mem_append.mp q with q | q
    · exact .inl q
    · rw [List.mem_singleton.mp q]; exact .inr (vac_of h)⟩
theorem CR.tbL (c : CR K H α β m) {p : Addr} {o : HO} (h : H p = none) : LamX.Tabs K.T (upd H p o) := fun t ht => (c.tb t ht).ext fun b u e => by rw [upd_ne (ne_of_none e h)]; exact e
theorem CeO.pl {K : KK} {o : HO} {vs : List V} : ∀ {e : Ce}, CeO K o vs e → plainO o
  | .l _, h => by
    have h : o = .lst vs := h
    rw [h]; trivial
  | .o _ _ _, h => by
    obtain ⟨dx, fs, h, _⟩ := h
    rw [h]; trivial
  | .d _ _, h => by
    obtain ⟨fs, h, _⟩ := h
    rw [h]; trivial
theorem tab_put {a : Addr} {o u : HO} (ha : H a = some u) (hu : plainO u) {P : Addr} {q : Str} (t : LamX.TabS H P q) : LamX.TabS (upd H a o) P q := by
  obtain ⟨ps, h1, h2, h3⟩ := t
  refine ⟨ps, ?_, h2, fun pos cv hc => ?_⟩
  · rw [upd_ne fun z => ?_]
    · exact h1
    · rw [z, ha] at h1
      exact hu.nt _ (Option.some.inj h1)
  · obtain ⟨c, e1, e2⟩ := h3 pos cv hc
    refine ⟨c, e1, ?_⟩
    rw [upd_ne fun z => ?_]
    · exact e2
    · rw [z, ha] at e2
      exact hu.nc (Option.some.inj e2)
theorem Ext.put {a : Addr} {o : HO} (h : a ∈ α) : Ext H α (upd H a o) α :=
  ⟨⟨[], by simp⟩, fun b w n e _ => by rw [upd_ne (fun q => n (by rw [q]; exact h))]; exact e, fun _ q => .inl q⟩
theorem CR.alE (c : CR K H α β m) (e : Ext H α H1 α1) : ∀ b ∈ β, b ∉ α1 ∧ ∃ o, H1 b = some o ∧ plainO o := fun b hb => by
  obtain ⟨h1, o, h2, t⟩ := c.al b hb
  refine ⟨fun q => ?_, o, e.fr b o h1 h2 t.nt, t⟩
  rcases e.new b q with z | z
  · exact h1 z
  · exact z o h2 t.nt
/-- a new thing that stands fast -/
theorem CR.lay (c : CR K H α β m) {p : Addr} {o : HO} (h : H p = none) : CR K (upd H p o) α β m :=
  ⟨c.len, c.nd, c.alE (Ext.lay h), fun i a ds h1 h2 => by
    obtain ⟨q, vs, w, e, x, r⟩ := c.cell i a ds h1 h2
    exact ⟨q, vs, w, by rw [upd_ne (ne_of_none e h)]; exact e, x, r.ext (Ext.lay h)⟩, c.tbL h⟩
theorem CR.celO (c : CR K H α β m) {p : Addr} {vs : List V} {ce : Ce} {o : HO} (h : H p = none) (z : D.cfs 0 ce.ds = true) (ho : CeO K o vs ce) (r : Rps K H α β vs ce.ds) : CR K (upd H p o) (α ++ [p]) β (m ++ [ce]) := by
  have hp := c.fresh h
  refine ⟨by simp [c.len], ?_, c.alE (Ext.cel h), fun i a es h1 h2 => ?_, c.tbL h⟩
  · refine List.nodup_append.mpr ⟨c.nd, by simp, ?_⟩
    intro a ha b hb e
    rw [List.mem_singleton] at hb
    subst hb; subst e
    exact hp ha
  · by_cases hi : i < α.length
    · rw [List.getElem?_append_left hi] at h1
      rw [List.getElem?_append_left (by have := c.len; omega)] at h2
      obtain ⟨q, vs, w, e, x, r⟩ := c.cell i a es h1 h2
      exact ⟨q, vs, w, by rw [upd_ne (ne_of_none e h)]; exact e, x, r.ext (Ext.cel h)⟩
    · have hi2 : i = α.length := by
        have := (List.getElem?_eq_some_iff.mp h1).1
        simp at this; omega
      subst hi2
      rw [List.getElem?_append_right (Nat.le_refl _)] at h1
      rw [List.getElem?_append_right (by have := c.len; omega)] at h2
      simp at h1
      have e2 : α.length - m.length = 0 := by have := c.len; omega
      rw [e2] at h2
      simp at h2
      subst h1; subst h2
      exact ⟨z, vs, o, upd_same, ho, r.ext (Ext.cel h)⟩
theorem CR.cel (c : CR K H α β m) {p : Addr} {vs : List V} {ds : List D} (h : H p = none) (z : D.cfs 0 ds = true) (r : Rps K H α β vs ds) : CR K (upd H p (.lst vs)) (α ++ [p]) β (m ++ [.l ds]) := c.celO (ce := .l ds) h z rfl r
theorem CR.putX (c : CR K H α β m) {i : Nat} {a : Addr} {o : HO} (h : α[i]? = some a) : Ext H α (upd H a o) α := Ext.put (List.mem_of_getElem? h)
theorem CR.tbP (c : CR K H α β m) {i : Nat} {a : Addr} {o : HO} (h : α[i]? = some a) : LamX.Tabs K.T (upd H a o) := fun t ht => by
  have hi : i < m.length := by have := (List.getElem?_eq_some_iff.mp h).1; have := c.len; omega
  obtain ⟨_, vs, w, q, x, _⟩ := c.cell i a m[i] h (List.getElem?_eq_getElem hi)
  exact tab_put q x.pl (c.tb t ht)
theorem CR.putO (c : CR K H α β m) {i : Nat} {a : Addr} {vs : List V} {ce : Ce} {o : HO} (h : α[i]? = some a) (z : D.cfs 0 ce.ds = true) (ho : CeO K o vs ce) (r : Rps K H α β vs ce.ds) : CR K (upd H a o) α β (m.set i ce) := by
  have hx : Ext H α (upd H a o) α := c.putX h
  have hi : i < α.length := (List.getElem?_eq_some_iff.mp h).1
  refine ⟨by simp [c.len], c.nd, c.alE hx, fun j b es h1 h2 => ?_, c.tbP h⟩
  by_cases hj : i = j
  · subst hj
    rw [h] at h1; cases h1
    rw [List.getElem?_set_self (by have := c.len; omega)] at h2
    cases h2
    exact ⟨z, vs, o, upd_same, ho, r.ext hx⟩
  · rw [List.getElem?_set_ne hj] at h2
    obtain ⟨q, ws, w, e, x, r⟩ := c.cell j b es h1 h2
    have hne : b ≠ a := fun q => by
      subst q
      have hb : j < α.length := (List.getElem?_eq_some_iff.mp h1).1
      have e1 := (List.getElem?_eq_some_iff.mp h).2
      have e2 := (List.getElem?_eq_some_iff.mp h1).2
      exact hj ((List.getElem_inj c.nd).mp (e1.trans e2.symm))
    exact ⟨q, ws, w, by rw [upd_ne hne]; exact e, x, r.ext hx⟩
theorem CR.put (c : CR K H α β m) {i : Nat} {a : Addr} {vs : List V} {ds : List D} (h : α[i]? = some a) (z : D.cfs 0 ds = true) (r : Rps K H α β vs ds) : CR K (upd H a (.lst vs)) α β (m.set i (.l ds)) := c.putO (ce := .l ds) h z rfl r
theorem hid_take (n : Nat) : ∀ a o, hid H (α ++ β) a = some o → hid H (α.take n ++ β) a = some o := fun a o h => by
  have t := hid_nt h
  obtain ⟨h, nb⟩ := hid_of h
  refine hid_mk h (fun z => nb ?_) t
  rcases List.mem_append.mp z with z | z
  · exact List.mem_append_left _ (List.mem_of_mem_take z)
  · exact List.mem_append_right _ z
/-- the cells beyond n are no cells any more -/
theorem CR.take (c : CR K H α β m) (n : Nat) : CR K H (α.take n) β (m.take n) := by
  refine ⟨by simp [c.len], c.nd.sublist (List.take_sublist n α), fun b hb => ⟨fun z => (c.al b hb).1 (List.mem_of_mem_take z), (c.al b hb).2⟩, fun i a ds h1 h2 => ?_, c.tb⟩
  have hi : i < n := by
    have := (List.getElem?_eq_some_iff.mp h1).1
    simp at this; omega
  rw [List.getElem?_take_of_lt hi] at h1 h2
  obtain ⟨q, vs, w, e, x, r⟩ := c.cell i a ds h1 h2
  exact ⟨q, vs, w, e, x, Reps.cut (n := 0) (hid_take n) (fun _ _ z => absurd z (Nat.not_lt_zero _)) q r⟩
theorem Ext.take (e : Ext H α H1 α1) {n : Nat} (hn : n = α.length) : Ext H α H1 (α1.take n) := by
  subst hn
  obtain ⟨γ, rfl⟩ := e.pre
  refine ⟨⟨[], by simp⟩, e.fr, fun a h => .inl ?_⟩
  simpa using h
theorem SR.ext' (s : SR K H α β σ σd m) (e : Ext H α H1 α1) (c : CR K H1 α1 β m') : SR K H1 α1 β σ σd m' :=
  ⟨c, s.len, fun i d h => let ⟨v, h1, h2⟩ := s.slot i d h; ⟨v, h1, h2.ext e⟩⟩
theorem SR.set (s : SR K H α β σ σd m) {v : V} {d : D} (i : Nat) (r : Rp K H α β v d) : SR K H α β (σ.set i (some v)) (σd.set i (some d)) m := by
  refine ⟨s.cr, by simp [s.len], fun j e h => ?_⟩
  by_cases hj : i = j
  · subst hj
    have hi : i < σd.length := by
      have := (List.getElem?_eq_some_iff.mp h).1
      simpa using this
    rw [List.getElem?_set_self hi] at h
    cases h
    exact ⟨v, List.getElem?_set_self (by have := s.len; omega), r⟩
  · rw [List.getElem?_set_ne hj] at h
    rw [List.getElem?_set_ne hj]
    exact s.slot j e h
end
end CT
namespace CT
open PySem L2
/-! ## judgements -/
structure Lc where
  P : Program
  w : World
  K : KK
  mg : Str → Option Value
  base : Heap
  N : List Str
  sc : Scope
  k : Nat
  fn : Str → Bool
  /-- the def's own code object, its name: where it makes lambdas -/
  cd : Option (Addr × Str) := none
structure Ok (L : Lc) (W : WX) (X : Cx) : Prop where
  prog : X.prog = L.P
  w : X.w = L.w
  K : X.K = L.K
  mg : X.mg = L.mg
  base : X.base = L.base
  N : X.N = L.N
  sc : X.env.scope = L.sc
  room : Room L.k X.A
  calm : X.calm = true
  tk : Takes X W
  own : PassesOwn (model X.prog X.w) X.A X.env X.xe
  fn : ∀ x, L.fn x = true → X.fn x = true
  cd : ∀ c q, L.cd = some (c, q) → X.env.code = .ref c ∧ X.env.qual = q
inductive Flds (K : KK) (G : Hp) (α : List Addr) : List (Str × V) → List (Str × D) → Prop
  | nil : Flds K G α [] []
  | cons {f : Str} {v : V} {d : D} {vs : List (Str × V)} {ds : List (Str × D)} : Rep K G α v d → Flds K G α vs ds → Flds K G α ((f, v) :: vs) ((f, d) :: ds)
/-- an exception's data -/
def XRep (L : Lc) (H : Hp) (α β : List Addr) (x : Xc) (cl : Value) (dd : Option Addr) : Prop :=
  ∃ a vs, cl = .ref (L.K.ct x.c) ∧ dd = some a ∧ hid H (α ++ β) a = some (.xd vs) ∧ Flds L.K (hid H (α ++ β)) α vs x.fs
section
variable {υ δ : Type}
def PostR (L : Lc) (W : WX) (rel : Hp → List Addr → List Addr → υ → δ → Prop) (σ : St) (σd : Sd) (H : Hp) (α β : List Addr) (Q : υ → Hp → Prop) : R δ → Prop
  | .ok d m => ∀ v H1 α1, Ext H α H1 α1 → SR L.K H1 α1 β σ σd m → rel H1 α1 β v d → Q v H1
  | .ex x m => ∀ cl dd H1 α1, Ext H α H1 α1 → SR L.K H1 α1 β σ σd m → XRep L H1 α1 β x cl dd → W cl dd σ H1
  | .bad => False
def tS (L : Lc) (W : WX) (rel : Hp → List Addr → List Addr → υ → δ → Prop) (f : Fn δ) : St → Hp → (υ → Hp → Prop) → Prop := fun σ H Q =>
  ∃ α β σd m, SR L.K H α β σ σd m ∧ PostR L W rel σ σd H α β Q (f σd m)
end
section
variable {υ δ υ' δ' : Type} {L : Lc} {W : WX} {rel : Hp → List Addr → List Addr → υ → δ → Prop} {rel' : Hp → List Addr → List Addr → υ' → δ' → Prop} {σ : St} {σd : Sd} {H H1 : Hp} {α α1 β : List Addr} {Q Q' : υ → Hp → Prop} {Q1 : υ' → Hp → Prop} {r : R δ}
theorem PostR.ext (e : Ext H α H1 α1) (h : PostR L W rel σ σd H α β Q r) : PostR L W rel σ σd H1 α1 β Q r := by
  cases r with
  | ok d m => exact fun v H2 α2 e2 s q => h v H2 α2 (e.trans e2) s q
  | ex x m => exact fun cl dd H2 α2 e2 s q => h cl dd H2 α2 (e.trans e2) s q
  | bad => exact h
theorem PostR.imp (h : PostR L W rel σ σd H α β Q r) (k : ∀ v H1, Q v H1 → Q' v H1) : PostR L W rel σ σd H α β Q' r := by
  cases r with
  | ok d m => exact fun v H2 α2 e2 s q => k _ _ (h v H2 α2 e2 s q)
  | ex x m => exact h
  | bad => exact h
/-- one part, then the rest -/
theorem PostR.mp {g : δ' → Ms → R δ} {r : R δ'} (h : PostR L W rel σ σd H α β Q (r.bind g))
    (k : ∀ d m1 v H1 α1, Ext H α H1 α1 → SR L.K H1 α1 β σ σd m1 → rel' H1 α1 β v d → PostR L W rel σ σd H1 α1 β Q (g d m1) → Q1 v H1) : PostR L W rel' σ σd H α β Q1 r := by
  cases r with
  | ok d m => exact fun v H2 α2 e2 s q => k d m v H2 α2 e2 s q (h.ext e2)
  | ex x m => exact h
  | bad => exact h
end
abbrev relV (L : Lc) : Hp → List Addr → List Addr → V → D → Prop := fun H α β v d => Rp L.K H α β v d
abbrev relVs (L : Lc) : Hp → List Addr → List Addr → List V → List D → Prop := fun H α β v d => Rps L.K H α β v d
def relB {κ : Type} : Hp → List Addr → List Addr → κ → κ → Prop := fun _ _ _ b c => b = c
def PostO (L : Lc) (W : WX) (H : Hp) (α β : List Addr) (D : Ends) : O → Prop
  | .nx σd m => ∀ σ H1 α1, Ext H α H1 α1 → SR L.K H1 α1 β σ σd m → D.nx σ H1
  | .rt d m => ∀ v H1 α1, Ext H α H1 α1 → CR L.K H1 α1 β m → Rp L.K H1 α1 β v d → D.rt v H1
  | .bk σd m => ∀ σ H1 α1, Ext H α H1 α1 → SR L.K H1 α1 β σ σd m → D.bk σ H1
  | .ct σd m => ∀ σ H1 α1, Ext H α H1 α1 → SR L.K H1 α1 β σ σd m → D.ct σ H1
  | .ex x σd m => ∀ cl dd σ H1 α1, Ext H α H1 α1 → SR L.K H1 α1 β σ σd m → XRep L H1 α1 β x cl dd → W cl dd σ H1
  | .bad => False
def tO (L : Lc) (W : WX) (f : Fo) : TS := fun D σ H => ∃ α β σd m, SR L.K H α β σ σd m ∧ PostO L W H α β D (f σd m)
section
variable {υ δ : Type} {L : Lc} {W : WX} {rel : Hp → List Addr → List Addr → υ → δ → Prop} {σ : St} {σd : Sd} {H H1 : Hp} {α α1 β : List Addr} {D : Ends} {r : R δ} {o : O} {Q1 : υ → Hp → Prop}
theorem PostO.ext (e : Ext H α H1 α1) (h : PostO L W H α β D o) : PostO L W H1 α1 β D o := by
  cases o with
  | nx σd m => exact fun σ H2 α2 e2 s => h σ H2 α2 (e.trans e2) s
  | rt d m => exact fun v H2 α2 e2 s q => h v H2 α2 (e.trans e2) s q
  | bk σd m => exact fun σ H2 α2 e2 s => h σ H2 α2 (e.trans e2) s
  | ct σd m => exact fun σ H2 α2 e2 s => h σ H2 α2 (e.trans e2) s
  | ex x σd m => exact fun cl dd σ H2 α2 e2 s q => h cl dd σ H2 α2 (e.trans e2) s q
  | bad => exact h
theorem PostO.mp {g : δ → Ms → O} (h : PostO L W H α β D (r.go σd g))
    (k : ∀ d m1 v H1 α1, Ext H α H1 α1 → SR L.K H1 α1 β σ σd m1 → rel H1 α1 β v d → PostO L W H1 α1 β D (g d m1) → Q1 v H1) : PostR L W rel σ σd H α β Q1 r := by
  cases r with
  | ok d m => exact fun v H2 α2 e2 s q => k d m v H2 α2 e2 s q (h.ext e2)
  | ex x m => exact fun cl dd H2 α2 e2 s q => h cl dd σ H2 α2 e2 s q
  | bad => exact h
end
def SE (L : Lc) (e : Expr) (f : Fn D) : Prop := ∀ W X, Ok L W X → PE X e (tS L W (relV L) f)
def ST (L : Lc) (e : Expr) (f : Fn Bool) : Prop := ∀ W X, Ok L W X → PT X e (tS L W relB f)
def SA (L : Lc) (es : List Expr) (f : Fn (List D)) : Prop := ∀ W X, Ok L W X → PA X es (tS L W (relVs L) f)
def SS (L : Lc) (s : Stmt) (f : Fo) : Prop := ∀ W X, Ok L W X → PS X s (tO L W f)
def SSs (L : Lc) (s : List Stmt) (f : Fo) : Prop := ∀ W X, Ok L W X → PSs X s (tO L W f)
theorem PEi {X : Cx} {e : Expr} {t t' : TE} (h : PE X e t) (k : ∀ σ H Q, t' σ H Q → t σ H Q) : PE X e t' := ⟨fun pins s σ H Q I q => h.run pins s σ H Q I (k _ _ _ q)⟩
theorem PTi {X : Cx} {e : Expr} {t t' : TT} (h : PT X e t) (k : ∀ σ H Q, t' σ H Q → t σ H Q) : PT X e t' := ⟨fun pins s σ H Q I q => h.run pins s σ H Q I (k _ _ _ q)⟩
theorem PAi {X : Cx} {e : List Expr} {t t' : TA} (h : PA X e t) (k : ∀ σ H Q, t' σ H Q → t σ H Q) : PA X e t' := ⟨fun pos pins s σ H Q I q => h.run pos pins s σ H Q I (k _ _ _ q)⟩
theorem PSi {X : Cx} {e : Stmt} {t t' : TS} (h : PS X e t) (k : ∀ D σ H, t' D σ H → t D σ H) : PS X e t' := ⟨fun pins s σ H D I q => h.run pins s σ H D I (k _ _ _ q)⟩
theorem PSsi {X : Cx} {e : List Stmt} {t t' : TS} (h : PSs X e t) (k : ∀ D σ H, t' D σ H → t D σ H) : PSs X e t' := ⟨fun pins s σ H D I q => h.run pins s σ H D I (k _ _ _ q)⟩
/-! ## reading through cells -/
def dr (m : Ms) : D → D
  | .cel c => match m[c]? with
    | some e => e.fz
    | none => .non
  | .tpl ds => .tup ds
  | d => d
inductive Rv (K : KK) (H : Hp) (α β : List Addr) : V → D → Prop
  | non : Rv K H α β .non .non
  | bl {b : Bool} : Rv K H α β (.bl b) (.bl b)
  | int {i : Int} : Rv K H α β (.int i) (.int i)
  | str {x : Str} : Rv K H α β (.str x) (.str x)
  | tup {a : Addr} {vs : List V} {ds : List D} : SqT K (hid H (α ++ β)) a vs → Rps K H α β vs ds → Rv K H α β (.ref a) (.tup ds)
  | lst {a : Addr} {vs : List V} {ds : List D} : H a = some (.lst vs) → Rps K H α β vs ds → Rv K H α β (.ref a) (.lst ds)
  | lck {a : Addr} {vs : List V} {ds : List D} : SqL K H a vs → Rps K H α β vs ds → Rv K H α β (.ref a) (.lck ds)
  | ins {a dx : Addr} {c : Nat} {fs : List (Str × V)} {ns : List Str} {ds : List D} : H a = some (.ins (K.ct c) dx fs) → fs.map (·.1) = ns → Rps K H α β (fs.map (·.2)) ds → Rv K H α β (.ref a) (.ins c ns ds)
  | dct {a : Addr} {kvs : List (Key × V)} {ks : List Key} {ds : List D} : H a = some (.dK kvs) → kvs.map (·.1) = ks → Rps K H α β (kvs.map (·.2)) ds → Rv K H α β (.ref a) (.dct ks ds)
  | fn {k : Nat} : Rv K H α β (.ref (K.fa k)) (.fn k)
theorem hid_sub {H : Hp} {α : List Addr} : ∀ a o, hid H α a = some o → H a = some o := fun _ _ h => (hid_of h).1
theorem Rv.of {K : KK} {H : Hp} {α β : List Addr} {m : Ms} (c : CR K H α β m) : ∀ {v : V} {d : D}, Rp K H α β v d → Rv K H α β v (dr m d)
  | _, _, .non => .non
  | _, _, .bl => .bl
  | _, _, .int => .int
  | _, _, .str => .str
  | _, _, .tup s r => .tup s r
  | _, _, .lst s r => .lst (hid_sub _ _ s) r
  | _, _, .lck s r => .lck (sql_mono hid_sub s) r
  | _, _, .ins s n r => .ins (hid_sub _ _ s) n r
  | _, _, .dct s n r => .dct (hid_sub _ _ s) n r
  | _, _, .fn => .fn
  | _, _, .tpl s _ _ r => .tup (.inl (.inr ⟨_, s⟩)) r
  | _, _, .cel (a := a) (c := i) e => by
    have hi : i < m.length := by have := (List.getElem?_eq_some_iff.mp e).1; have := c.len; omega
    obtain ⟨_, vs, o, h1, ho, h2⟩ := c.cell i a m[i] e (List.getElem?_eq_getElem hi)
    have : dr m (.cel i) = m[i].fz := by simp [dr, List.getElem?_eq_getElem hi]
    rw [this]
    revert ho h2
    generalize m[i] = ce
    intro ho h2
    cases ce with
    | l ds =>
      have ho : o = .lst vs := ho
      subst ho
      exact .lst h1 h2
    | o c ns ds =>
      obtain ⟨dx, fs, rfl, n, rfl⟩ := ho
      exact .ins h1 n h2
    | d ks ds =>
      obtain ⟨kvs, rfl, n, rfl⟩ := ho
      exact .dct h1 n h2
/-! ## a def's promise -/
def PostF (L : Lc) (H : Hp) (α β : List Addr) (Q : VK) (E : XK) : R D → Prop
  | .ok d m => ∀ v H1 α1, Ext H α H1 α1 → CR L.K H1 α1 β m → Rp L.K H1 α1 β v d → Q v H1
  | .ex x m => ∀ cl dd H1 α1, Ext H α H1 α1 → CR L.K H1 α1 β m → XRep L H1 α1 β x cl dd → E cl dd H1
  | .bad => False
/-- L here: only K and ct are looked at -/
def spOf (L : Lc) (n : Nat) (g : List D → Ms → R D) : Sp := fun vs H Q E =>
  ∃ α β m ds, CR L.K H α β m ∧ Rps L.K H α β vs ds ∧ ds.length = n ∧ PostF L H α β Q E (g ds m)
def frz1 (n : Nat) (m : Ms) (d : D) : Option D :=
  if d.cf n then some d else match d with
    | .cel c => (m[c]?).map Ce.fz
    | _ => none
def frzs (n : Nat) (m : Ms) : List D → Option (List D)
  | [] => some []
  | d :: ds => (frz1 n m d).bind fun e => (frzs n m ds).map (e :: ·)
def frz (n : Nat) (m : Ms) (d : D) : Option D :=
  if d.cf n then some d else match d with
    | .cel c => (m[c]?).map Ce.fz
    | .tup ds => (frzs n m ds).map .tup
    | _ => none
section
variable {K : KK} {H : Hp} {α β : List Addr} {m : Ms} {n : Nat}
theorem cut_of {v : V} {d : D} (z : d.cf n = true) (r : Rp K H α β v d) : Rp K H (α.take n) β v d :=
  Rep.cut (n := n) (hid_take n) (fun c a hc e => by rw [List.getElem?_take_of_lt hc]; exact e) z r
theorem cut_lst (c : CR K H α β m) {i : Nat} {a : Addr} {ds : Ce} (hi : n ≤ i) (e : α[i]? = some a) (q : m[i]? = some ds) : Rp K H (α.take n) β (.ref a) ds.fz := by
  obtain ⟨z, vs, o, h1, ho, h2⟩ := c.cell i a ds e q
  have na : a ∉ α.take n ++ β := fun hm => by
    rcases List.mem_append.mp hm with hm | hm
    rotate_left
    · exact (c.al a hm).1 (List.mem_of_getElem? e)
    obtain ⟨j, hj, ej⟩ := List.getElem_of_mem hm
    have hj1 : j < n := by simp at hj; omega
    have hj2 : j < α.length := by simp at hj; omega
    rw [List.getElem_take] at ej
    have e2 := (List.getElem?_eq_some_iff.mp e)
    obtain ⟨e3, e4⟩ := e2
    have := (List.getElem_inj c.nd).mp (ej.trans e4.symm)
    omega
  have h3 := Reps.cut (n := 0) (hid_take n) (fun _ _ z => absurd z (Nat.not_lt_zero _)) z h2 (α' := α.take n)
  cases ds with
  | l ds =>
    have ho : o = .lst vs := ho
    subst ho
    exact .lst (hid_mk h1 na) h3
  | o c ns ds =>
    obtain ⟨dx, fs, rfl, k, rfl⟩ := ho
    exact .ins (hid_mk h1 na) k h3
  | d ks ds =>
    obtain ⟨kvs, rfl, k, rfl⟩ := ho
    exact .dct (hid_mk h1 na) k h3
theorem frz1_ok (c : CR K H α β m) {v : V} {d d' : D} (r : Rp K H α β v d) (e : frz1 n m d = some d') : Rp K H (α.take n) β v d' := by
  unfold frz1 at e
  split at e
  · cases e
    exact cut_of (by assumption) r
  · rename_i nz
    split at e
    · cases r with
      | cel ea =>
        rename_i i a
        cases q : m[i]? with
        | none => rw [q] at e; cases e
        | some ds =>
          rw [q] at e
          cases e
          refine cut_lst c ?_ ea q
          simp [D.cf] at nz
          exact nz
    · cases e
theorem frzs_ok (c : CR K H α β m) : ∀ {ds es : List D} {vs : List V}, Rps K H α β vs ds → frzs n m ds = some es → Rps K H (α.take n) β vs es
  | [], _, _, .nil, e => by cases e; exact .nil
  | d :: ds, es, _, .cons r rs, e => by
    unfold frzs at e
    cases q : frz1 n m d with
    | none => rw [q] at e; cases e
    | some d' =>
      rw [q] at e
      cases q2 : frzs n m ds with
      | none => rw [q2] at e; cases e
      | some ds' =>
        rw [q2] at e
        cases e
        exact .cons (frz1_ok c r q) (frzs_ok c rs q2)
theorem frz_ok (c : CR K H α β m) {v : V} {d d' : D} (r : Rp K H α β v d) (e : frz n m d = some d') : Rp K H (α.take n) β v d' := by
  unfold frz at e
  split at e
  · cases e
    exact cut_of (by assumption) r
  · rename_i nz
    split at e
    · cases r with
      | cel ea =>
        rename_i i a
        cases q : m[i]? with
        | none => rw [q] at e; cases e
        | some ds =>
          rw [q] at e
          cases e
          refine cut_lst c ?_ ea q
          simp [D.cf] at nz
          exact nz
    · cases r with
      | tup s rs =>
        rename_i ds a vs
        cases q : frzs n m ds with
        | none => rw [q] at e; cases e
        | some es =>
          rw [q] at e
          cases e
          exact .tup (sqt_mono (hid_take n) s) (frzs_ok c rs q)
    · cases e
end
def cfF (fs : List (Str × D)) : Bool := fs.all fun p => p.2.cf 0
/-- the meaning of a def, by its body's: the cells made in it are let go -/
def fnSem (N : Nat) (body : Fo) : List D → Ms → R D := fun ds m =>
  match body (ds.map some ++ List.replicate (N - ds.length) none) m with
  | .nx _ m' => .ok .non (m'.take m.length)
  | .rt d m' => match frz m.length m' d with
    | some d' => .ok d' (m'.take m.length)
    | none => .bad
  | .ex x _ m' => if cfF x.fs then .ex x (m'.take m.length) else .bad
  | _ => .bad
/-- .. of one that hands back a new list of its own, as a cell -/
def fnSemC (N : Nat) (body : Fo) : List D → Ms → R D := fun ds m =>
  match body (ds.map some ++ List.replicate (N - ds.length) none) m with
  | .rt (.cel c) m' => if c < m.length then .bad else match m'[c]? with
    | some es => .ok (.cel m.length) (m'.take m.length ++ [es])
    | none => .bad
  | .ex x _ m' => if cfF x.fs then .ex x (m'.take m.length) else .bad
  | _ => .bad
section
variable {K : KK} {H H1 : Hp} {α α1 β : List Addr} {m m1 : Ms}
theorem Flds.cut {G G' : Hp} {α' : List Addr} (h : ∀ a o, G a = some o → G' a = some o) : ∀ {vs : List (Str × V)} {fs : List (Str × D)}, cfF fs = true → Flds K G α vs fs → Flds K G' α' vs fs
  | _, _, _, .nil => .nil
  | _, _, z, .cons r t => by
    unfold cfF at z
    rw [List.all_cons, Bool.and_eq_true] at z
    exact .cons (Rep.cut (n := 0) h (fun _ _ q => absurd q (Nat.not_lt_zero _)) z.1 r) (Flds.cut h z.2 t)
theorem start_sr (c : CR K H α β m) {vs : List V} {ds : List D} (r : Rps K H α β vs ds) (N : List Str) : SR K H α β (L2.start N vs) (ds.map some ++ List.replicate (N.length - ds.length) none) m := by
  refine ⟨c, ?_, fun i d h => ?_⟩
  · unfold L2.start
    simp [r.length]
  · have hi : i < ds.length := by
      by_cases hi : i < ds.length
      · exact hi
      · rw [List.getElem?_append_right (by simp; omega), List.getElem?_replicate] at h
        split at h <;> cases h
    rw [List.getElem?_append_left (by simpa using hi), List.getElem?_map, List.getElem?_eq_getElem hi] at h
    simp at h
    subst h
    obtain ⟨v, h1, h2⟩ := r.get (List.getElem?_eq_getElem hi)
    refine ⟨v, ?_, h2⟩
    unfold L2.start
    rw [List.getElem?_append_left (by rw [List.length_map, r.length]; exact hi), List.getElem?_map, h1]
    rfl
theorem take_len (e : Ext H α H1 α1) (c : CR K H α β m) (c1 : CR K H1 α1 β m1) : m.length = α.length ∧ α.length ≤ α1.length ∧ α1.take m.length = α := by
  obtain ⟨γ, rfl⟩ := e.pre
  refine ⟨c.len.symm, by simp, ?_⟩
  rw [← c.len]
  simp
end
theorem XRep.cut {L : Lc} {H : Hp} {α β : List Addr} {n : Nat} {x : Xc} {cl : Value} {dd : Option Addr} (z : cfF x.fs = true) (h : XRep L H α β x cl dd) : XRep L H (α.take n) β x cl dd := by
  obtain ⟨a, vs, h1, h2, h3, h4⟩ := h
  exact ⟨a, vs, h1, h2, hid_take n _ _ h3, Flds.cut (hid_take n) z h4⟩
def Lc.at (L : Lc) (N : List Str) (sc : Scope) (k : Nat) : Lc := { L with N := N, sc := sc, k := k, fn := fun _ => true }
section
variable {L : Lc} {x qual : Str} {st : Stmt} {f : Addr} {fd : FuncData} {N ps : List Str} {k : Nat} {body : Fo} {dvs : List V} {kws : List (Str × V)}
theorem def_len {n : Nat} {g : List D → Ms → R D} (hn : ps.length = n) : ∀ vs H Q E, spOf L n g vs H Q E → vs.length = ps.length := fun vs H Q E ⟨α, β, m, ds, _, r, e, _⟩ => by
  rw [r.length, e, hn]
theorem ok_cx {A : Around} {outer : List Env} {s : Shared} {H : Hp} {E : XK} {cdv : Value} (hr : Room k (A.deeper (PyProof.Rows.envOfC qual (defScope st) s.heap.objs.size f cdv)))
    (hc : ∀ c q, L.cd = some (c, q) → cdv = .ref c ∧ qual ++ Str.ofString ".<locals>." = q) : Ok (L.at N (defScope st) k) (fun cls d _ H => E cls d H) (cxOf (L2.CX L.P L.w) L.P L.w L.K L.mg L.base N qual (defScope st) f cdv A outer s H E) :=
  ⟨rfl, rfl, rfl, rfl, rfl, rfl, rfl, hr, rfl, takes_of rfl rfl rfl rfl, passes_of rfl, fun _ _ => rfl, hc⟩
theorem def_body (S : FnScope N ps (defScope st)) (hb : SSs (L.at N (defScope st) k) (defBody st) body) {n : Nat} (hn : ps.length = n) {cdv : Value} (hc : ∀ c q, L.cd = some (c, q) → cdv = .ref c ∧ qual ++ Str.ofString ".<locals>." = q) {A : Around} {outer : List Env} {s : Shared} {H : Hp} {vs : List V} {Q : VK} {E : XK} (hr : Room k (A.deeper (PyProof.Rows.envOfC qual (defScope st) s.heap.objs.size f cdv))) (hsp : spOf L n (fnSem N.length body) vs H Q E) :
    ∃ t, PSs (cxOf (L2.CX L.P L.w) L.P L.w L.K L.mg L.base N qual (defScope st) f cdv A outer s H E) (defBody st) t ∧ t { nx := fun _ H' => Q .non H', rt := Q } (L2.start N vs) H := by
  obtain ⟨α, β, m, ds, c, r, e, h⟩ := hsp
  refine ⟨_, hb _ _ (ok_cx hr hc), α, β, _, m, start_sr c r N, ?_⟩
  unfold fnSem at h
  generalize body (ds.map some ++ List.replicate (N.length - ds.length) none) m = o at h ⊢
  cases o with
  | nx σd m' =>
    intro σ H1 α1 e1 s1
    obtain ⟨h1, h2, h3⟩ := take_len e1 c s1.cr
    exact h .non H1 _ (e1.take (n := m.length) h1) (s1.cr.take _) .non
  | rt d m' =>
    intro v H1 α1 e1 c1 r1
    obtain ⟨h1, h2, h3⟩ := take_len e1 c c1
    cases q : frz m.length m' d with
    | none => simp only [q] at h; exact h.elim
    | some d' =>
      simp only [q] at h
      exact h v H1 _ (e1.take (n := m.length) h1) (c1.take _) (frz_ok c1 r1 q)
  | bk σd m' => exact h.elim
  | ct σd m' => exact h.elim
  | ex xx σd m' =>
    intro cl dd σ H1 α1 e1 s1 xr
    obtain ⟨h1, h2, h3⟩ := take_len e1 c s1.cr
    cases q : cfF xx.fs with
    | false => simp [q] at h; exact h.elim
    | true =>
      simp only [q, if_true] at h
      exact h cl dd H1 _ (e1.take (n := m.length) h1) (s1.cr.take _) (xr.cut q)
  | bad => exact h.elim
theorem def_ok (F : FunD L.K x qual (defArgs st) (defBody st) (defScope st) dvs kws f fd) (S : FnScope N ps (defScope st)) (hb : SSs (L.at N (defScope st) k) (defBody st) body) {n : Nat} (hn : ps.length = n) (hc : L.cd = none) :
    FnOk L.P L.w L.K L.mg L.base (L2.CX L.P L.w) (k + 1) f fd ps (spOf L n (fnSem N.length body)) :=
  F.ok S (def_len hn) fun cdv A outer s H vs Q E hr hsp => def_body S hb hn (fun c q e => by rw [hc] at e; cases e) hr hsp
theorem def_bodyC (S : FnScope N ps (defScope st)) (hb : SSs (L.at N (defScope st) k) (defBody st) body) {n : Nat} (hn : ps.length = n) {cdv : Value} (hc : ∀ c q, L.cd = some (c, q) → cdv = .ref c ∧ qual ++ Str.ofString ".<locals>." = q) {A : Around} {outer : List Env} {s : Shared} {H : Hp} {vs : List V} {Q : VK} {E : XK} (hr : Room k (A.deeper (PyProof.Rows.envOfC qual (defScope st) s.heap.objs.size f cdv))) (hsp : spOf L n (fnSemC N.length body) vs H Q E) :
    ∃ t, PSs (cxOf (L2.CX L.P L.w) L.P L.w L.K L.mg L.base N qual (defScope st) f cdv A outer s H E) (defBody st) t ∧ t { nx := fun _ H' => Q .non H', rt := Q } (L2.start N vs) H := by
  obtain ⟨α, β, m, ds, c, r, e, h⟩ := hsp
  refine ⟨_, hb _ _ (ok_cx hr hc), α, β, _, m, start_sr c r N, ?_⟩
  unfold fnSemC at h
  generalize body (ds.map some ++ List.replicate (N.length - ds.length) none) m = o at h ⊢
  cases o with
  | nx σd m' => exact h.elim
  | bk σd m' => exact h.elim
  | ct σd m' => exact h.elim
  | bad => exact h.elim
  | ex xx σd m' =>
    intro cl dd σ H1 α1 e1 s1 xr
    obtain ⟨h1, h2, h3⟩ := take_len e1 c s1.cr
    cases q : cfF xx.fs with
    | false => simp [q] at h; exact h.elim
    | true =>
      simp only [q, if_true] at h
      exact h cl dd H1 _ (e1.take (n := m.length) h1) (s1.cr.take _) (xr.cut q)
  | rt d m' =>
    cases d with
    | cel i =>
      by_cases hi : i < m.length
      · simp [hi] at h
        exact h.elim
      · cases q : m'[i]? with
        | none => simp [hi, q] at h; exact h.elim
        | some es =>
          simp only [hi, q, if_false] at h
          intro v H1 α1 e1 c1 r1
          obtain ⟨h1, h2, h3⟩ := take_len e1 c c1
          cases r1 with
          | cel ea =>
            rename_i a
            obtain ⟨z, vs', go, g1, gk, g2⟩ := c1.cell i a es ea q
            have ea' := ea
            obtain ⟨γ, rfl⟩ := e1.pre
            have hl : α.length = m.length := c.len
            have ha : a ∉ α := fun hm => by
              obtain ⟨j, hj, ej⟩ := List.getElem_of_mem hm
              obtain ⟨e3, e4⟩ := List.getElem?_eq_some_iff.mp ea
              have e5 : (α ++ γ)[j]'(by simp; omega) = a := by rw [List.getElem_append_left hj]; exact ej
              have := (List.getElem_inj c1.nd).mp (e5.trans e4.symm)
              omega
            have hn : vac H a := by
              rcases e1.new a (List.mem_of_getElem? ea) with z | z
              · exact absurd z ha
              · exact z
            refine h (.ref a) H1 (α ++ [a]) ⟨⟨[a], rfl⟩, e1.fr, fun b hb => ?_⟩ ⟨?_, ?_, fun b hb => ⟨fun z => ?_, (c1.al b hb).2⟩, fun j b fs g3 g4 => ?_, c1.tb⟩ (.cel ?_)
            · rcases List.mem_append.mp hb with z | z
              · exact .inl z
              · rw [List.mem_singleton.mp z]; exact .inr hn
            · have := c1.len
              simp at this ⊢
              omega
            · refine List.nodup_append.mpr ⟨c.nd, by simp, ?_⟩
              intro b hb b' hb' e
              rw [List.mem_singleton] at hb'
              subst hb'; subst e
              exact ha hb
            · rcases List.mem_append.mp z with z | z
              · exact (c.al b hb).1 z
              · rw [List.mem_singleton.mp z] at hb
                exact (c1.al a hb).1 (List.mem_of_getElem? ea)
            · have hsub : ∀ b o, hid H1 (α ++ γ ++ β) b = some o → hid H1 (α ++ [a] ++ β) b = some o := fun b o q => by
                have qt := hid_nt q
                obtain ⟨q1, q2⟩ := hid_of q
                refine hid_mk q1 (fun hm => q2 ?_) qt
                rcases List.mem_append.mp hm with z | z
                · rcases List.mem_append.mp z with z | z
                  · exact List.mem_append_left _ (List.mem_append_left _ z)
                  · rw [List.mem_singleton.mp z]; exact List.mem_append_left _ (List.mem_of_getElem? ea)
                · exact List.mem_append_right _ z
              have hm1 : (m'.take m.length).length = α.length := by
                have := c1.len
                simp at this ⊢
                omega
              by_cases hj : j < α.length
              · rw [List.getElem?_append_left hj] at g3
                rw [List.getElem?_append_left (by omega), List.getElem?_take_of_lt (by omega)] at g4
                obtain ⟨y, ws, wo, g5, wk, g6⟩ := c1.cell j b fs (by rw [List.getElem?_append_left hj]; exact g3) g4
                exact ⟨y, ws, wo, g5, wk, Reps.cut (n := 0) hsub (fun _ _ q => absurd q (Nat.not_lt_zero _)) y g6⟩
              · have hj2 : j = α.length := by
                  have := (List.getElem?_eq_some_iff.mp g3).1
                  simp at this; omega
                subst hj2
                rw [List.getElem?_append_right (Nat.le_refl _)] at g3
                rw [List.getElem?_append_right (by omega)] at g4
                rw [hm1] at g4
                simp at g3 g4
                subst g3; subst g4
                exact ⟨z, vs', go, g1, gk, Reps.cut (n := 0) hsub (fun _ _ q => absurd q (Nat.not_lt_zero _)) z g2⟩
            · rw [← hl]
              simp
    | non => exact h.elim
    | bl b => exact h.elim
    | int b => exact h.elim
    | str b => exact h.elim
    | tup b => exact h.elim
    | lst b => exact h.elim
    | lck b => exact h.elim
    | ins c ns ds => exact h.elim
    | dct => exact h.elim
    | fn => exact h.elim
    | tpl => exact h.elim
theorem def_okC (F : FunD L.K x qual (defArgs st) (defBody st) (defScope st) dvs kws f fd) (S : FnScope N ps (defScope st)) (hb : SSs (L.at N (defScope st) k) (defBody st) body) {n : Nat} (hn : ps.length = n) (hc : L.cd = none) :
    FnOk L.P L.w L.K L.mg L.base (L2.CX L.P L.w) (k + 1) f fd ps (spOf L n (fnSemC N.length body)) :=
  F.ok S (def_len hn) fun cdv A outer s H vs Q E hr hsp => def_bodyC S hb hn (fun c q e => by rw [hc] at e; cases e) hr hsp
/-- a def that makes lambdas: its code object is known -/
theorem def_okL {oc dV kV doc pm ct : Value} {od an : Option Addr} {osl : Array (Option Value)} {c : Addr} (lk : L.K.K.lookup f = some ⟨oc, od, .func (PySem.W.fnOf x qual (defArgs st) (defBody st) (defScope st) dV kV doc pm an (.ref c) ct), osl⟩) (hcd : PySem.W.codeIn L.K.K (.ref c) qual = true)
    (S : FnScope N ps (defScope st)) (hb : SSs (L.at N (defScope st) k) (defBody st) body) {n : Nat} (hn : ps.length = n) (hc : L.cd = some (c, qual ++ Str.ofString ".<locals>.")) :
    FnOk L.P L.w L.K L.mg L.base (L2.CX L.P L.w) (k + 1) f (PySem.W.fnOf x qual (defArgs st) (defBody st) (defScope st) dV kV doc pm an (.ref c) ct) ps (spOf L n (fnSem N.length body)) :=
  fn_of lk hcd S (def_len hn) fun A outer s H vs Q E hr hsp => def_body S hb hn (fun c' q e => by rw [hc] at e; cases e; exact ⟨rfl, rfl⟩) hr hsp
end
end CT
namespace CT
open PySem L2
/-! ## values, two-place operations -/
def xVar (i : Nat) : Fn D := fun σ m => match σ[i]? with
  | some (some d) => .ok d m
  | _ => .bad
def xVal (d : D) : Fn D := fun _ m => .ok d m
def xOp (o : D → D → Ms → R D) (a b : Fn D) : Fn D := fun σ m => (a σ m).bind fun x m1 => (b σ m1).bind fun y m2 => o (dr m2 x) (dr m2 y) m2
def xUn (o : D → Ms → R D) (a : Fn D) : Fn D := fun σ m => (a σ m).bind fun x m1 => o (dr m1 x) m1
section
variable {L : Lc}
theorem se_var {i : Nat} {x : Str} {pos : Pos} (hN : L.N[i]? = some x) (hv : Vis L.sc x) (hd : (x == ("__debug__" : Str)) = false := by decide) (hcd : (x == ("__classdict__" : Str)) = false := by decide) : SE L (.Name x pos) (xVar i) := fun W X h => by
  refine PEi (pe_var (i := i) (by rw [h.N]; exact hN) (by rw [h.sc]; exact hv) hd hcd) fun σ H Q ⟨α, β, σd, m, s, q⟩ => ?_
  unfold xVar at q
  split at q
  · rename_i d e
    obtain ⟨v, h1, h2⟩ := s.slot i d e
    exact ⟨v, h1, q v H α Ext.refl s h2⟩
  · exact q.elim
theorem se_val {e : Expr} {v : V} {d : D} (h : ∀ W X, Ok L W X → PE X e (tC v)) (r : ∀ H α β, Rp L.K H α β v d) : SE L e (xVal d) := fun W X hX =>
  PEi (h W X hX) fun σ H Q ⟨α, β, σd, m, s, q⟩ => q v H α Ext.refl s (r H α β)
theorem se_int {i : Int} {j pos} : SE L (.Constant (.int i) j pos) (xVal (.int i)) := se_val (fun _ _ _ => pe_int) fun _ _ _ => .int
theorem se_str {x : Str} {j pos} : SE L (.Constant (.str x) j pos) (xVal (.str x)) := se_val (fun _ _ _ => pe_str) fun _ _ _ => .str
theorem se_bl {b : Bool} {j pos} : SE L (.Constant (.bool b) j pos) (xVal (.bl b)) := se_val (fun _ _ _ => pe_bl) fun _ _ _ => .bl
theorem se_non {j pos} : SE L (.Constant .none j pos) (xVal .non) := se_val (fun _ _ _ => pe_non) fun _ _ _ => .non
/-- a constant of the module -/
def Gcon (L : Lc) (x : Str) (d : D) : Prop := ∃ u v, L.mg x = some u ∧ RelV v u ∧ ∀ H α β, Rp L.K H α β v d
theorem se_con {x : Str} {d : D} {pos : Pos} (hg : L.sc.names.lookup x = some .globalImplicit) (c : Gcon L x d) (hd : (x == ("__debug__" : Str)) = false := by decide) : SE L (.Name x pos) (xVal d) := by
  obtain ⟨u, v, h1, h2, h3⟩ := c
  exact se_val (fun W X h => pe_glob (by unfold Gl Env.kindOf; rw [h.sc]; exact hg) (by rw [h.mg]; exact h1) h2 hd) h3
/-- what a rule asks of values is had from data -/
def OpS (L : Lc) (r : R2) (o : D → D → Ms → R D) : Prop := ∀ (W : WX) (H : Hp) (α β : List Addr) (σ : St) (σd : Sd) (m : Ms) (v u : V) (x y : D) (Q : VK), SR L.K H α β σ σd m → Rv L.K H α β v x → Rv L.K H α β u y →
  PostR L W (relV L) σ σd H α β Q (o x y m) → r v u H Q
theorem op_core {r : R2} {o : D → D → Ms → R D} (os : OpS L r o) {fa fb : Fn D} {W : WX} {σ : St} {H : Hp} {Q : VK} (h : tS L W (relV L) (xOp o fa fb) σ H Q) : tOp r (tS L W (relV L) fa) (tS L W (relV L) fb) σ H Q := by
  obtain ⟨α, β, σd, m, s, q⟩ := h
  refine ⟨α, β, σd, m, s, q.mp fun d m1 v H1 α1 e1 s1 r1 q => ⟨α1, β, σd, m1, s1, q.mp fun d2 m2 u H2 α2 e2 s2 r2 q => ?_⟩⟩
  exact os W H2 α2 β σ σd m2 v u _ _ Q s2 (Rv.of s2.cr (r1.ext e2)) (Rv.of s2.cr r2) q
theorem se_bin {op : Operator} {r : R2} {o : D → D → Ms → R D} (ho : ∀ W X, Ok L W X → OpR X (binaryOp op) r) (os : OpS L r o) {a b : Expr} {fa fb : Fn D} {pos : Pos} (ha : SE L a fa) (hb : SE L b fb) : SE L (.BinOp a op b pos) (xOp o fa fb) :=
  fun W X h => PEi (pe_op (ho W X h) (ha W X h) (hb W X h)) fun σ H Q q => op_core os q
theorem se_cmp {op : CmpOp} {r : R2} {o : D → D → Ms → R D} (ho : ∀ W X, Ok L W X → OpR X (compareOp op) r) (os : OpS L r o) {a b : Expr} {fa fb : Fn D} {pos : Pos} (ha : SE L a fa) (hb : SE L b fb) (hm : behindInMarks op b = false) : SE L (.Compare a [op] [b] pos) (xOp o fa fb) :=
  fun W X h => PEi (pe_cmpR (ho W X h) (ha W X h) (hb W X h) hm) fun σ H Q q => op_core os q
def xTest (f : Fn D) : Fn Bool := fun σ m => (f σ m).bind fun d m1 => match d with
  | .bl b => .ok b m1
  | _ => .bad
theorem test_core {f : Fn D} {W : WX} {σ : St} {H : Hp} {Q : Bool → Hp → Prop} (h : tS L W relB (xTest f) σ H Q) : tTest (tS L W (relV L) f) σ H Q := by
  obtain ⟨α, β, σd, m, s, q⟩ := h
  refine ⟨α, β, σd, m, s, q.mp fun d m1 v H1 α1 e1 s1 r1 q => ?_⟩
  cases r1 with
  | bl => exact ⟨_, rfl, q _ H1 α1 Ext.refl s1 rfl⟩
  | non => exact q.elim
  | int => exact q.elim
  | str => exact q.elim
  | tup _ _ => exact q.elim
  | lst _ _ => exact q.elim
  | cel _ => exact q.elim
  | lck _ _ => exact q.elim
  | ins _ _ _ => exact q.elim
  | dct => exact q.elim
  | fn => exact q.elim
  | tpl => exact q.elim
theorem st_cmp {op : CmpOp} {r : R2} {o : D → D → Ms → R D} (ho : ∀ W X, Ok L W X → OpR X (compareOp op) r) (os : OpS L r o) {a b : Expr} {fa fb : Fn D} {pos : Pos} (ha : SE L a fa) (hb : SE L b fb) (hm : behindInMarks op b = false) : ST L (.Compare a [op] [b] pos) (xTest (xOp o fa fb)) :=
  fun W X h => PTi (pt_cmpR (ho W X h) (ha W X h) (hb W X h) hm) fun σ H Q q => by
    have q' := test_core q
    obtain ⟨α, β, σd, m, s, q⟩ := q
    refine op_core (W := W) os ⟨α, β, σd, m, s, ?_⟩
    obtain ⟨α', β', σd', m', s', q''⟩ := q'
    unfold xTest at q
    refine q.mp (rel' := relV L) fun d m1 v H1 α1 e1 s1 r1 q => ?_
    cases r1 with
    | bl => exact ⟨_, rfl, q _ H1 α1 Ext.refl s1 rfl⟩
    | non => exact q.elim
    | int => exact q.elim
    | str => exact q.elim
    | tup _ _ => exact q.elim
    | lst _ _ => exact q.elim
    | cel _ => exact q.elim
    | lck _ _ => exact q.elim
    | ins _ _ _ => exact q.elim
    | dct => exact q.elim
    | fn => exact q.elim
    | tpl => exact q.elim
theorem st_val {e : Expr} {f : Fn D} (he : SE L e f) (hp : ∀ env whole, isTrue e env whole = (do let v ← whole; standAt e.pos; holding [v] (truthy v)) := by intro _ _; rfl) : ST L e (xTest f) :=
  fun W X h => PTi (pt_val (he W X h) (hp _)) fun σ H Q q => test_core q
/-! ### a chain of two comparisons -/
def xChain (o o' : D → D → Ms → R D) (a b c : Fn D) : Fn D := fun σ m => (a σ m).bind fun x m1 => (b σ m1).bind fun y m2 => (o (dr m2 x) (dr m2 y) m2).bind fun z m3 => match z with
  | .bl true => (c σ m3).bind fun w m4 => o' (dr m4 y) (dr m4 w) m4
  | .bl false => .ok (.bl false) m3
  | _ => .bad
end
end CT
namespace CT
open PySem L2
section
variable {L : Lc}
theorem chain_core {r r' : R2} {o o' : D → D → Ms → R D} (os : OpS L r o) (os' : OpS L r' o') {fa fb fc : Fn D} {W : WX} {σ : St} {H : Hp} {Q : VK} (h : tS L W (relV L) (xChain o o' fa fb fc) σ H Q) :
    tChain r r' (tS L W (relV L) fa) (tS L W (relV L) fb) (tS L W (relV L) fc) σ H Q := by
  obtain ⟨α, β, σd, m, s, q⟩ := h
  refine ⟨α, β, σd, m, s, q.mp fun d m1 v H1 α1 e1 s1 r1 q => ⟨α1, β, σd, m1, s1, q.mp fun d2 m2 u H2 α2 e2 s2 r2 q => ?_⟩⟩
  refine os W H2 α2 β σ σd m2 v u _ _ _ s2 (Rv.of s2.cr (r1.ext e2)) (Rv.of s2.cr r2) (q.mp fun z m3 w H3 α3 e3 s3 r3 q => ?_)
  cases r3 with
  | bl =>
    rename_i b
    refine ⟨b, rfl, ?_⟩
    cases b with
    | true =>
      rw [if_pos rfl]
      refine ⟨α3, β, σd, m3, s3, q.mp fun d4 m4 w H4 α4 e4 s4 r4 q => ?_⟩
      exact os' W H4 α4 β σ σd m4 u w _ _ Q s4 (Rv.of s4.cr (r2.ext (e3.trans e4))) (Rv.of s4.cr r4) q
    | false =>
      rw [if_neg Bool.false_ne_true]
      exact q _ H3 α3 Ext.refl s3 .bl
  | non => exact q.elim
  | int => exact q.elim
  | str => exact q.elim
  | tup _ _ => exact q.elim
  | lst _ _ => exact q.elim
  | cel _ => exact q.elim
  | lck _ _ => exact q.elim
  | ins _ _ _ => exact q.elim
  | dct => exact q.elim
  | fn => exact q.elim
  | tpl => exact q.elim
theorem se_chain {op op' : CmpOp} {r r' : R2} {o o' : D → D → Ms → R D} (ho : ∀ W X, Ok L W X → OpR X (compareOp op) r) (os : OpS L r o) (ho' : ∀ W X, Ok L W X → OpR X (compareOp op') r') (os' : OpS L r' o') {a b c : Expr} {fa fb fc : Fn D} {pos : Pos} (ha : SE L a fa) (hb : SE L b fb) (hc : SE L c fc)
    (hm : lastMarks [op, op'] [b, c] = false := by with_unfolding_all rfl) : SE L (.Compare a [op, op'] [b, c] pos) (xChain o o' fa fb fc) :=
  fun W X h => PEi (pe_chain (ho W X h) (ho' W X h) (ha W X h) (hb W X h) (hc W X h) hm) fun σ H Q q => chain_core os os' q
theorem st_chain {op op' : CmpOp} {r r' : R2} {o o' : D → D → Ms → R D} (ho : ∀ W X, Ok L W X → OpR X (compareOp op) r) (os : OpS L r o) (ho' : ∀ W X, Ok L W X → OpR X (compareOp op') r') (os' : OpS L r' o') {a b c : Expr} {fa fb fc : Fn D} {pos : Pos} (ha : SE L a fa) (hb : SE L b fb) (hc : SE L c fc)
    (hm : lastMarks [op, op'] [b, c] = false := by with_unfolding_all rfl) : ST L (.Compare a [op, op'] [b, c] pos) (xTest (xChain o o' fa fb fc)) :=
  fun W X h => PTi (pt_chain (ho W X h) (ho' W X h) (ha W X h) (hb W X h) (hc W X h) hm) fun σ H Q q => by
    have e : ∀ Q', tS L W (relV L) (xChain o o' fa fb fc) σ H Q' → tChain r r' (tS L W (relV L) fa) (tS L W (relV L) fb) (tS L W (relV L) fc) σ H Q' := fun Q' q => chain_core os os' q
    exact e _ (test_core q)
/-! ### and, or, not, if else -/
def xAnd (a b : Fn Bool) : Fn Bool := fun σ m => (a σ m).bind fun x m1 => if x = true then b σ m1 else .ok false m1
def xOr (a b : Fn Bool) : Fn Bool := fun σ m => (a σ m).bind fun x m1 => if x = true then .ok true m1 else b σ m1
def xNot (a : Fn Bool) : Fn Bool := fun σ m => (a σ m).bind fun x m1 => .ok (!x) m1
def xIf (c : Fn Bool) (a b : Fn D) : Fn D := fun σ m => (c σ m).bind fun x m1 => if x = true then a σ m1 else b σ m1
def SW (L : Lc) (e : Expr) (f : Fn Bool) : Prop := ∀ W X, Ok L W X → PW X e (tS L W relB f)
theorem PWi {X : Cx} {e : Expr} {t t' : TT} (h : PW X e t) (k : ∀ σ H Q, t' σ H Q → t σ H Q) : PW X e t' := ⟨fun wh pins s σ H Q I q => h.run wh pins s σ H Q I (k _ _ _ q)⟩
theorem SW.st {e : Expr} {f : Fn Bool} (h : SW L e f) : ST L e f := fun W X hX => (h W X hX).pt
theorem sw_and1 {a : Expr} {fa : Fn Bool} {pos : Pos} (ha : ST L a fa) : SW L (.BoolOp .And [a] pos) fa := fun W X h => pw_and1 (ha W X h)
theorem sw_or1 {a : Expr} {fa : Fn Bool} {pos : Pos} (ha : ST L a fa) : SW L (.BoolOp .Or [a] pos) fa := fun W X h => pw_or1 (ha W X h)
theorem sw_and {a b : Expr} {r : List Expr} {fa fb : Fn Bool} {pos : Pos} (ha : ST L a fa) (hb : SW L (.BoolOp .And (b :: r) pos) fb) : SW L (.BoolOp .And (a :: b :: r) pos) (xAnd fa fb) := fun W X h =>
  PWi (pw_and (ha W X h) (hb W X h)) fun σ H Q ⟨α, β, σd, m, s, q⟩ => by
    refine ⟨α, β, σd, m, s, q.mp fun d m1 v H1 α1 e1 s1 r1 q => ?_⟩
    obtain rfl : v = d := r1
    cases v with
    | true => rw [if_pos rfl] at q ⊢; exact ⟨α1, β, σd, m1, s1, q⟩
    | false => rw [if_neg Bool.false_ne_true] at q ⊢; exact q _ H1 α1 Ext.refl s1 rfl
theorem sw_or {a b : Expr} {r : List Expr} {fa fb : Fn Bool} {pos : Pos} (ha : ST L a fa) (hb : SW L (.BoolOp .Or (b :: r) pos) fb) : SW L (.BoolOp .Or (a :: b :: r) pos) (xOr fa fb) := fun W X h =>
  PWi (pw_or (ha W X h) (hb W X h)) fun σ H Q ⟨α, β, σd, m, s, q⟩ => by
    refine ⟨α, β, σd, m, s, q.mp fun d m1 v H1 α1 e1 s1 r1 q => ?_⟩
    obtain rfl : v = d := r1
    cases v with
    | true => rw [if_pos rfl] at q ⊢; exact q _ H1 α1 Ext.refl s1 rfl
    | false => rw [if_neg Bool.false_ne_true] at q ⊢; exact ⟨α1, β, σd, m1, s1, q⟩
theorem st_not {a : Expr} {fa : Fn Bool} {pos : Pos} (ha : ST L a fa) : ST L (.UnaryOp .Not a pos) (xNot fa) := fun W X h =>
  PTi (pt_not (ha W X h)) fun σ H Q ⟨α, β, σd, m, s, q⟩ => ⟨α, β, σd, m, s, q.mp fun d m1 v H1 α1 e1 s1 r1 q => by
    obtain rfl : v = d := r1
    exact q _ H1 α1 Ext.refl s1 rfl⟩
/-- as values: all parts True or False -/
def xAndV (a b : Fn D) : Fn D := fun σ m => (a σ m).bind fun x m1 => match x with
  | .bl true => b σ m1
  | .bl false => .ok (.bl false) m1
  | _ => .bad
def xOrV (a b : Fn D) : Fn D := fun σ m => (a σ m).bind fun x m1 => match x with
  | .bl false => b σ m1
  | .bl true => .ok (.bl true) m1
  | _ => .bad
def xNotV (a : Fn D) : Fn D := fun σ m => (a σ m).bind fun x m1 => match x with
  | .bl b => .ok (.bl (!b)) m1
  | _ => .bad
theorem se_one {op} {a : Expr} {fa : Fn D} {pos : Pos} (ha : SE L a fa) : SE L (.BoolOp op [a] pos) fa := fun W X h => pe_one (ha W X h)
theorem se_and {a b : Expr} {r : List Expr} {fa fb : Fn D} {pos : Pos} (ha : SE L a fa) (hb : SE L (.BoolOp .And (b :: r) pos) fb) : SE L (.BoolOp .And (a :: b :: r) pos) (xAndV fa fb) := fun W X h =>
  PEi (pe_and (ha W X h) (hb W X h)) fun σ H Q ⟨α, β, σd, m, s, q⟩ => by
    refine ⟨α, β, σd, m, s, q.mp fun d m1 v H1 α1 e1 s1 r1 q => ?_⟩
    cases r1 with
    | bl =>
      rename_i b
      refine ⟨b, rfl, ?_⟩
      cases b with
      | true => rw [if_pos rfl]; exact ⟨α1, β, σd, m1, s1, q⟩
      | false => rw [if_neg Bool.false_ne_true]; exact q _ H1 α1 Ext.refl s1 .bl
    | non => exact q.elim
    | int => exact q.elim
    | str => exact q.elim
    | tup _ _ => exact q.elim
    | lst _ _ => exact q.elim
    | cel _ => exact q.elim
    | lck _ _ => exact q.elim
    | ins _ _ _ => exact q.elim
    | dct => exact q.elim
    | fn => exact q.elim
    | tpl => exact q.elim
theorem se_if {c a b : Expr} {fc : Fn Bool} {fa fb : Fn D} {pos : Pos} (hc : ST L c fc) (ha : SE L a fa) (hb : SE L b fb) : SE L (.IfExp c a b pos) (xIf fc fa fb) := fun W X h =>
  PEi (pe_ifExp (hc W X h) (ha W X h) (hb W X h)) fun σ H Q ⟨α, β, σd, m, s, q⟩ => by
    refine ⟨α, β, σd, m, s, q.mp fun d m1 v H1 α1 e1 s1 r1 q => ?_⟩
    obtain rfl : v = d := r1
    cases v with
    | true => rw [if_pos rfl] at q ⊢; exact ⟨α1, β, σd, m1, s1, q⟩
    | false => rw [if_neg Bool.false_ne_true] at q ⊢; exact ⟨α1, β, σd, m1, s1, q⟩
/-! ### arguments, displays -/
def xNil : Fn (List D) := fun _ m => .ok [] m
def xCons (a : Fn D) (r : Fn (List D)) : Fn (List D) := fun σ m => (a σ m).bind fun x m1 => (r σ m1).bind fun ys m2 => .ok (x :: ys) m2
/-- with how many there are -/
def relN (L : Lc) (n : Nat) : Hp → List Addr → List Addr → List V → List D → Prop := fun H α β vs ds => Rps L.K H α β vs ds ∧ vs.length = n
def SAs (L : Lc) (es : List Expr) (f : Fn (List D)) : Prop := ∀ W X, Ok L W X → PA X es (tS L W (relN L es.length) f)
theorem sa_nil : SAs L [] xNil := fun W X h => PAi pa_nil fun σ H Q ⟨α, β, σd, m, s, q⟩ => q [] H α Ext.refl s ⟨.nil, rfl⟩
theorem sa_cons {e : Expr} {es : List Expr} {f : Fn D} {g : Fn (List D)} (he : SE L e f) (hs : SAs L es g) (hst : ∀ env, starEach (e :: es) env = (false, eval e env) :: starEach es env := by intro _; rfl) : SAs L (e :: es) (xCons f g) := fun W X h =>
  PAi (pa_cons (he W X h) (hs W X h) (hst _)) fun σ H Q ⟨α, β, σd, m, s, q⟩ => by
    refine ⟨α, β, σd, m, s, q.mp fun d m1 v H1 α1 e1 s1 r1 q => ⟨α1, β, σd, m1, s1, q.mp fun ds m2 vs H2 α2 e2 s2 r2 q => ?_⟩⟩
    exact q _ H2 α2 Ext.refl s2 ⟨.cons (r1.ext e2) r2.1, by simp [r2.2]⟩
def xTup (a : Fn (List D)) : Fn D := fun σ m => (a σ m).bind fun ds m1 => .ok (.tup ds) m1
def xLst (a : Fn (List D)) : Fn D := fun σ m => (a σ m).bind fun ds m1 => .ok (.lst ds) m1
/-- a list that will be changed -/
def xCel (a : Fn (List D)) : Fn D := fun σ m => (a σ m).bind fun ds m1 => if D.cfs 0 ds = true then .ok (.cel m1.length) (m1 ++ [.l ds]) else .bad
end
section
variable {K : KK} {H : Hp} {α β : List Addr} {m : Ms} {σ : St} {σd : Sd} {vs : List V} {ds : List D} {p : Addr}
theorem lay_lst (s : SR K H α β σ σd m) (hp : H p = none) (r : Rps K H α β vs ds) : SR K (upd H p (.lst vs)) α β σ σd m ∧ Rp K (upd H p (.lst vs)) α β (.ref p) (.lst ds) :=
  ⟨s.ext' (Ext.lay hp) (s.cr.lay hp), .lst (hid_mk upd_same (s.cr.freshB hp)) (r.ext (Ext.lay hp))⟩
theorem lay_tup (s : SR K H α β σ σd m) (hp : H p = none) (r : Rps K H α β vs ds) : SR K (upd H p (.tup vs)) α β σ σd m ∧ Rp K (upd H p (.tup vs)) α β (.ref p) (.tup ds) :=
  ⟨s.ext' (Ext.lay hp) (s.cr.lay hp), .tup (.inl (.inl (hid_mk upd_same (s.cr.freshB hp)))) (r.ext (Ext.lay hp))⟩
theorem lay_cel (s : SR K H α β σ σd m) (hp : H p = none) (r : Rps K H α β vs ds) (z : D.cfs 0 ds = true) : SR K (upd H p (.lst vs)) (α ++ [p]) β σ σd (m ++ [.l ds]) ∧ Rp K (upd H p (.lst vs)) (α ++ [p]) β (.ref p) (.cel m.length) :=
  ⟨s.ext' (Ext.cel hp) (s.cr.cel hp z r), .cel (by rw [← s.cr.len]; simp)⟩
end
section
variable {L : Lc}
theorem se_tup {es : List Expr} {f : Fn (List D)} {x1} {pos : Pos} (h : SAs L es f) (hl : es.length ≤ 100000 := by decide) : SE L (.Tuple es x1 pos) (xTup f) := fun W X hX =>
  PEi (pe_tup (h W X hX)) fun σ H Q ⟨α, β, σd, m, s, q⟩ => ⟨α, β, σd, m, s, q.mp fun ds m1 vs H1 α1 e1 s1 r1 q => ⟨Evl.sz_of (by rw [r1.2]; exact hl), fun p hp => by
    obtain ⟨h1, h2⟩ := lay_tup s1 hp r1.1
    exact q _ _ _ (Ext.lay hp) h1 h2⟩⟩
theorem se_lst {es : List Expr} {f : Fn (List D)} {pos : Pos} (h : SAs L es f) (hl : es.length ≤ 100000 := by decide) : SE L (.List es pos) (xLst f) := fun W X hX =>
  PEi (pe_lst (h W X hX)) fun σ H Q ⟨α, β, σd, m, s, q⟩ => ⟨α, β, σd, m, s, q.mp fun ds m1 vs H1 α1 e1 s1 r1 q => ⟨Evl.sz_of (by rw [r1.2]; exact hl), fun p hp => by
    obtain ⟨h1, h2⟩ := lay_lst s1 hp r1.1
    exact q _ _ _ (Ext.lay hp) h1 h2⟩⟩
theorem se_cel {es : List Expr} {f : Fn (List D)} {pos : Pos} (h : SAs L es f) (hl : es.length ≤ 100000 := by decide) : SE L (.List es pos) (xCel f) := fun W X hX =>
  PEi (pe_lst (h W X hX)) fun σ H Q ⟨α, β, σd, m, s, q⟩ => ⟨α, β, σd, m, s, q.mp fun ds m1 vs H1 α1 e1 s1 r1 q => ⟨Evl.sz_of (by rw [r1.2]; exact hl), fun p hp => by
    split at q
    · obtain ⟨h1, h2⟩ := lay_cel s1 hp r1.1 (by assumption)
      exact q _ _ _ (Ext.cel hp) h1 h2
    · exact q.elim⟩⟩
/-! ### calls of the program's own -/
theorem Ok.cast {W : WX} {X : Cx} {C : CXT} {k : Nat} {f : Addr} {fd : FuncData} {ps : List Str} {sp : Sp} (h : Ok L W X) (F : FnOk L.P L.w L.K L.mg L.base C k f fd ps sp) : FnOk X.prog X.w X.K X.mg X.base C k f fd ps sp := by
  rw [h.prog, h.w, h.K, h.mg, h.base]
  exact F
theorem ret_post {W : WX} {σ : St} {σd : Sd} {H : Hp} {α β : List Addr} {m : Ms} {Q : VK} {r : R D} (s : SR L.K H α β σ σd m) (h : PostR L W (relV L) σ σd H α β Q r) : PostF L H α β Q (WE W σ) r := by
  cases r with
  | ok d m => exact fun v H1 α1 e1 c1 r1 => h v H1 α1 e1 (s.ext' e1 c1) r1
  | ex x m => exact fun cl dd H1 α1 e1 c1 xr => h cl dd H1 α1 e1 (s.ext' e1 c1) xr
  | bad => exact h
end
end CT
namespace CT
open PySem L2
/-! ## statements -/
def oSeq (o : O) (b : Fo) : O := match o with
  | .nx σ m => b σ m
  | o => o
@[simp] theorem oSeq_nx (σ : Sd) (m : Ms) (b : Fo) : oSeq (.nx σ m) b = b σ m := rfl
@[simp] theorem oSeq_rt (d : D) (m : Ms) (b : Fo) : oSeq (.rt d m) b = .rt d m := rfl
@[simp] theorem oSeq_bk (σ : Sd) (m : Ms) (b : Fo) : oSeq (.bk σ m) b = .bk σ m := rfl
@[simp] theorem oSeq_ct (σ : Sd) (m : Ms) (b : Fo) : oSeq (.ct σ m) b = .ct σ m := rfl
@[simp] theorem oSeq_ex (x : Xc) (σ : Sd) (m : Ms) (b : Fo) : oSeq (.ex x σ m) b = .ex x σ m := rfl
@[simp] theorem oSeq_bad (b : Fo) : oSeq .bad b = .bad := rfl
def xSeq (a b : Fo) : Fo := fun σ m => oSeq (a σ m) b
def xPass : Fo := fun σ m => .nx σ m
def xRet (f : Fn D) : Fo := fun σ m => (f σ m).go σ fun d m1 => .rt d m1
def xDrop (f : Fn D) : Fo := fun σ m => (f σ m).go σ fun _ m1 => .nx σ m1
def xIfS (c : Fn Bool) (a b : Fo) : Fo := fun σ m => (c σ m).go σ fun t m1 => if t = true then a σ m1 else b σ m1
abbrev Fg := D → Sd → Ms → Option (Sd × Ms)
def xAsg (g : Fg) (f : Fn D) : Fo := fun σ m => (f σ m).go σ fun d m1 => match g d σ m1 with
  | some (σ2, m2) => .nx σ2 m2
  | none => .bad
def gN (i : Nat) : Fg := fun d σ m => some (σ.set i (some d), m)
section
variable {L : Lc}
theorem ss_nil : SSs L [] xPass := fun W X h => PSsi pss_nil fun D σ H ⟨α, β, σd, m, s, q⟩ => q σ H α Ext.refl s
theorem ss_cons {a : Stmt} {r : List Stmt} {f g : Fo} (ha : SS L a f) (hr : SSs L r g) : SSs L (a :: r) (xSeq f g) := fun W X h => PSsi (pss_cons (ha W X h) (hr W X h)) fun D σ H ⟨α, β, σd, m, s, q⟩ => by
  refine ⟨α, β, σd, m, s, ?_⟩
  unfold xSeq at q
  cases e : f σd m with
  | nx σd1 m1 =>
    rw [e, oSeq_nx] at q
    exact fun σ1 H1 α1 e1 s1 => ⟨α1, β, σd1, m1, s1, q.ext e1⟩
  | rt d m1 => rw [e] at q; exact q
  | bk σd1 m1 => rw [e] at q; exact q
  | ct σd1 m1 => rw [e] at q; exact q
  | ex x σd1 m1 => rw [e] at q; exact q
  | bad => rw [e] at q; exact q.elim
theorem ss_one {a : Stmt} {f : Fo} (ha : SS L a f) : SSs L [a] f := fun W X h => pss_one (ha W X h)
theorem s_ret {e : Expr} {f : Fn D} {pos : Pos} (he : SE L e f) : SS L (.Return (some e) pos) (xRet f) := fun W X h => PSi (ps_ret (he W X h)) fun D σ H ⟨α, β, σd, m, s, q⟩ =>
  ⟨α, β, σd, m, s, q.mp fun d m1 v H1 α1 e1 s1 r1 q => q v H1 α1 Ext.refl s1.cr r1⟩
theorem s_expr {e : Expr} {f : Fn D} {pos : Pos} (he : SE L e f) (hs : ∀ env, swapsWith e none pos.line env = pure false := by intro _; rfl) : SS L (.Expr e pos) (xDrop f) := fun W X h => PSi (ps_expr (he W X h) (hs _)) fun D σ H ⟨α, β, σd, m, s, q⟩ =>
  ⟨α, β, σd, m, s, q.mp (rel := relV L) fun d m1 v H1 α1 e1 s1 r1 q => q σ H1 α1 Ext.refl s1⟩
theorem s_if {c : Expr} {a b : List Stmt} {fc : Fn Bool} {fa fb : Fo} {pos : Pos} (hc : ST L c fc) (ha : SSs L a fa) (hb : SSs L b fb) : SS L (.If c a b pos) (xIfS fc fa fb) := fun W X h => PSi (ps_if (hc W X h) (ha W X h) (hb W X h)) fun D σ H ⟨α, β, σd, m, s, q⟩ => by
  refine ⟨α, β, σd, m, s, q.mp fun d m1 v H1 α1 e1 s1 r1 q => ?_⟩
  obtain rfl : v = d := r1
  cases v with
  | true => rw [if_pos rfl] at q ⊢; exact ⟨α1, β, σd, m1, s1, q⟩
  | false => rw [if_neg Bool.false_ne_true] at q ⊢; exact ⟨α1, β, σd, m1, s1, q⟩
/-! ### targets -/
/-- only the slots at js are others -/
def Only (js : List Nat) (σ σ' : St) : Prop := σ'.length = σ.length ∧ ∀ j, j ∉ js → σ'[j]? = σ[j]?
theorem Only.refl (js : List Nat) (σ : St) : Only js σ σ := ⟨rfl, fun _ _ => rfl⟩
theorem Only.trans {js ks : List Nat} {σ σ1 σ2 : St} (a : Only js σ σ1) (b : Only ks σ1 σ2) : Only (js ++ ks) σ σ2 := ⟨b.1.trans a.1, fun j h => (b.2 j fun z => h (List.mem_append_right _ z)).trans (a.2 j fun z => h (List.mem_append_left _ z))⟩
/-- js: the slots that are written -/
def tG (L : Lc) (js : List Nat) (g : Fg) : TG := fun v σ H Q => ∃ α β σd m d, SR L.K H α β σ σd m ∧ Rp L.K H α β v d ∧ ∃ σd' m', g d σd m = some (σd', m') ∧ ∀ σ' H1 α1, Ext H α H1 α1 → SR L.K H1 α1 β σ' σd' m' → Only js σ σ' → Q σ' H1
def SG (L : Lc) (js : List Nat) (tg : Expr) (g : Fg) : Prop := ∀ W X, Ok L W X → PG X tg (tG L js g)
theorem PGi {X : Cx} {e : Expr} {t t' : TG} (h : PG X e t) (k : ∀ v σ H Q, t' v σ H Q → t v σ H Q) : PG X e t' := ⟨fun pins s σ H v u Q I r q => h.run pins s σ H v u Q I r (k _ _ _ _ q)⟩
theorem sg_name {i : Nat} {x : Str} {pos : Pos} (nd : L.N.Nodup) (hN : L.N[i]? = some x) (hl : L.sc.names.lookup x = some .local ∨ (L.sc.names.lookup x = some .cell ∧ L.fn x = true)) : SG L [i] (.Name x pos) (gN i) := fun W X h =>
  PGi (pg_name (i := i) (by rw [h.N]; exact nd) (by rw [h.N]; exact hN) (by rw [h.sc]; exact hl.imp id And.left) (by
    rcases hl with z | ⟨_, z⟩
    · exact .inr (by rw [h.sc]; exact z)
    · exact .inl (h.fn x z))) fun v σ H Q ⟨α, β, σd, m, d, s, r, σd', m', e, q⟩ => by
    unfold gN at e
    cases e
    exact q _ H α Ext.refl (s.set i r) ⟨by simp, fun j hj => List.getElem?_set_ne (fun z => hj (by simp [z]))⟩
theorem s_asg {tg e : Expr} {g : Fg} {js : List Nat} {f : Fn D} {pos : Pos} (he : SE L e f) (hg : SG L js tg g) (hs : ∀ env : Env, env.scope = L.sc → swapsWithSole [tg] e pos.line env = pure false := by intro _ _; rfl) (hw : ∀ env : Env, env.scope = L.sc → swappedStores [tg] e env = pure none := by intro _ _; rfl)
    (h1 : ∀ env, (assignEach [tg] env).map (·.2) = [assign tg env] := by intro _; rfl) : SS L (.Assign [tg] e pos) (xAsg g f) := fun W X h => PSi (ps_asg (he W X h) (hg W X h) (hs _ h.sc) (hw _ h.sc) (h1 _)) fun D σ H ⟨α, β, σd, m, s, q⟩ => by
  refine ⟨α, β, σd, m, s, q.mp fun d m1 v H1 α1 e1 s1 r1 q => ?_⟩
  cases e : g d σd m1 with
  | none => simp only [e] at q; exact q.elim
  | some p =>
    obtain ⟨σ2, m2⟩ := p
    simp only [e] at q
    exact ⟨α1, β, σd, m1, d, s1, r1, σ2, m2, e, fun σ' H2 α2 x2 s2 _ => q σ' H2 α2 x2 s2⟩
theorem s_set {i : Nat} {x : Str} {e : Expr} {f : Fn D} {pos' pos : Pos} (nd : L.N.Nodup) (hN : L.N[i]? = some x) (hl : L.sc.names.lookup x = some .local ∨ (L.sc.names.lookup x = some .cell ∧ L.fn x = true)) (he : SE L e f) (hs : ∀ env : Env, env.scope = L.sc → swapsWith e (some (.Name x pos')) pos.line env = pure false := by intro _ _; rfl) : SS L (.Assign [.Name x pos'] e pos) (xAsg (gN i) f) := fun W X h =>
  PSi (ps_set (i := i) (by rw [h.N]; exact nd) (by rw [h.N]; exact hN) (by rw [h.sc]; exact hl.imp id And.left) (he W X h) (hs _ h.sc) (by
    rcases hl with z | ⟨_, z⟩
    · exact .inr (by rw [h.sc]; exact z)
    · exact .inl (h.fn x z))) fun D σ H ⟨α, β, σd, m, s, q⟩ => ⟨α, β, σd, m, s, q.mp fun d m1 v H1 α1 e1 s1 r1 q => q _ H1 α1 Ext.refl (s1.set i r1)⟩
/-- several targets of a tuple -/
abbrev Fgs := List D → Sd → Ms → Option (Sd × Ms)
def gNil : Fgs := fun ds σ m => match ds with
  | [] => some (σ, m)
  | _ => none
def gCons (g : Fg) (r : Fgs) : Fgs := fun ds σ m => match ds with
  | [] => none
  | d :: ds => match g d σ m with
    | some (σ1, m1) => r ds σ1 m1
    | none => none
def gT (n : Nat) (r : Fgs) : Fg := fun d σ m => match d with
  | .tup ds => if ds.length = n then r ds σ m else none
  | _ => none
def tGs (L : Lc) (js : List Nat) (g : Fgs) : TGs := fun vs σ H Q => ∃ α β σd m ds, SR L.K H α β σ σd m ∧ Rps L.K H α β vs ds ∧ ∃ σd' m', g ds σd m = some (σd', m') ∧ ∀ σ' H1 α1, Ext H α H1 α1 → SR L.K H1 α1 β σ' σd' m' → Only js σ σ' → Q σ' H1
def SGs (L : Lc) (js : List Nat) (tg : List Expr) (g : Fgs) : Prop := ∀ W X, Ok L W X → PGs X tg (tGs L js g)
theorem PGsi {X : Cx} {e : List Expr} {t t' : TGs} (h : PGs X e t) (k : ∀ v σ H Q, t' v σ H Q → t v σ H Q) : PGs X e t' := ⟨fun pins s σ H v u Q I r q => h.run pins s σ H v u Q I r (k _ _ _ _ q)⟩
theorem sgs_nil : SGs L [] [] gNil := fun W X h => PGsi pgs_nil fun vs σ H Q ⟨α, β, σd, m, ds, s, r, σd', m', e, q⟩ => by
  cases ds with
  | nil =>
    cases r
    cases e
    exact ⟨rfl, q σ H α Ext.refl s (Only.refl _ _)⟩
  | cons d ds => cases e
theorem sgs_cons {e : Expr} {es : List Expr} {g : Fg} {r : Fgs} {js ks : List Nat} (h1 : SG L js e g) (h2 : SGs L ks es r) (hs : ∀ env, (assignEach (e :: es) env).map (·.2) = assign e env :: (assignEach es env).map (·.2) := by intro _; rfl) : SGs L (js ++ ks) (e :: es) (gCons g r) := fun W X h =>
  PGsi (pgs_cons (h1 W X h) (h2 W X h) (hs _)) fun vs σ H Q ⟨α, β, σd, m, ds, s, rr, σd', m', e, q⟩ => by
  cases ds with
  | nil => cases e
  | cons d ds =>
    cases rr with
    | @cons v _ vs _ rv rvs =>
      unfold gCons at e
      cases e2 : g d σd m with
      | none => simp only [e2] at e; cases e
      | some p =>
        obtain ⟨σ1, m1⟩ := p
        simp only [e2] at e
        exact ⟨v, vs, rfl, α, β, σd, m, d, s, rv, σ1, m1, e2, fun σ' H1 α1 x1 s1 o1 => ⟨α1, β, σ1, m1, ds, s1, rvs.ext x1, σd', m', e, fun σ2 H2 α2 x2 s2 o2 => q σ2 H2 α2 (x1.trans x2) s2 (o1.trans o2)⟩⟩
theorem sg_tup {es : List Expr} {k n : Nat} {r : Fgs} {js : List Nat} {pos : Pos} (h : SGs L js es r) (hn : ∀ env, (assignEach es env).length = n := by intro _; rfl) (hst : ∀ env, (assignEach es env).findIdx? (·.1) = none := by intro _; rfl) : SG L js (.Tuple es k pos) (gT n r) := fun W X hX =>
  PGi (pg_tup hX.calm (h W X hX) (hn _) (hst _)) fun v σ H Q ⟨α, β, σd, m, d, s, rr, σd', m', e, q⟩ => by
  cases rr with
  | tup sq rs =>
    unfold gT at e
    simp only at e
    split at e
    · rename_i hl
      exact ⟨_, _, rfl, by rw [hX.K]; exact sqt_mono hid_sub sq, by rw [rs.length]; exact hl, α, β, σd, m, _, s, rs, σd', m', e, q⟩
    · cases e
  | non => cases e
  | bl => cases e
  | int => cases e
  | str => cases e
  | lst _ _ => cases e
  | cel _ => cases e
  | lck _ _ => cases e
  | ins _ _ _ => cases e
  | dct => cases e
  | fn => cases e
  | tpl => cases e
/-- o[i] = v of a list that is a cell -/
def gS (o i : Fn D) : Fg := fun d σ m => if d.cf 0 = true then match o σ m with
    | .ok (.cel c) m1 => match i σ m1 with
      | .ok (.int k) m2 => match m2[c]? with
        | some (.l ds) => match ixN ds.length k with
          | some j => some (σ, m2.set c (.l (ds.set j d)))
          | none => none
        | _ => none
      | _ => none
    | _ => none
  else none
end
section
variable {K : KK} {α β : List Addr}
theorem D.cfs_set {d : D} (z : d.cf 0 = true) : ∀ (j : Nat) (ds : List D), D.cfs 0 ds = true → D.cfs 0 (ds.set j d) = true
  | _, [], h => h
  | 0, _ :: _, h => by
    simp only [List.set_cons_zero, D.cfs, Bool.and_eq_true] at h ⊢
    exact ⟨z, h.2⟩
  | j + 1, _ :: ds, h => by
    simp only [List.set_cons_succ, D.cfs, Bool.and_eq_true] at h ⊢
    exact ⟨h.1, D.cfs_set z j ds h.2⟩
/-- the list of a cell -/
theorem CR.cel_at {H : Hp} {m : Ms} (c : CR K H α β m) {v : V} {i : Nat} {ds : List D} (r : Rp K H α β v (.cel i)) (e : m[i]? = some (.l ds)) : ∃ a vs, v = .ref a ∧ α[i]? = some a ∧ H a = some (.lst vs) ∧ Rps K H α β vs ds ∧ D.cfs 0 ds = true := by
  cases r with
  | cel q =>
    obtain ⟨z, vs, o, h1, ho, h2⟩ := c.cell i _ (.l ds) q e
    have ho : o = .lst vs := ho
    subst ho
    exact ⟨_, vs, rfl, q, h1, h2, z⟩
end
section
variable {L : Lc}
theorem sg_sub {o i : Expr} {fo fi : Fn D} {pos : Pos} (ho : SE L o fo) (hi : SE L i fi) (ha : ∀ env v, assign (.Subscript o i pos) env v = (do
      let x ← holding [v] (eval o env)
      let y ← holding [v, x] (eval i env)
      standAt pos
      holding [v, x, y] (setItem x y v)
      release [v, x, y] []) := by intro _ _; rfl) : SG L [] (.Subscript o i pos) (gS fo fi) := fun W X h =>
  PGi (pg_sub (ho W X h) (hi W X h) set_list (ha _)) fun v σ H Q ⟨α, β, σd, m, d, s, r, σd', m', e, q⟩ => by
  unfold gS at e
  split at e
  · rename_i z
    cases e1 : fo σd m with
    | bad => simp only [e1] at e; cases e
    | ex x m1 => simp only [e1] at e; cases e
    | ok od m1 =>
      cases od with
      | cel c =>
        simp only [e1] at e
        cases e2 : fi σd m1 with
        | bad => simp only [e2] at e; cases e
        | ex x m1 => simp only [e2] at e; cases e
        | ok id' m2 =>
          cases id' with
          | int k =>
            simp only [e2] at e
            cases e3 : m2[c]? with
            | none => simp only [e3] at e; cases e
            | some ce =>
              cases ce with
              | o _ _ _ => simp only [e3] at e; cases e
              | d => simp only [e3] at e; cases e
              | l ds =>
              simp only [e3] at e
              cases e4 : ixN ds.length k with
              | none => simp only [e4] at e; cases e
              | some j =>
                simp only [e4] at e
                cases e
                refine ⟨α, β, σd, m, s, ?_⟩
                rw [e1]
                intro ov H1 α1 x1 s1 r1
                refine ⟨α1, β, σd, m1, s1, ?_⟩
                rw [e2]
                intro iv H2 α2 x2 s2 r2
                obtain ⟨a, vs, rfl, ha, hH, rs, zs⟩ := s2.cr.cel_at (r1.ext x2) e3
                cases r2 with
                | int =>
                  refine ⟨a, vs, k, j, rfl, rfl, hH, by rw [rs.length]; exact e4, ?_⟩
                  have x3 : Ext H2 α2 (upd H2 a (.lst (vs.set j v))) α2 := s2.cr.putX ha
                  refine q σ _ α2 ((x1.trans x2).trans x3) (s2.ext' x3 (s2.cr.put ha (D.cfs_set z j ds zs) (Reps.set (r.ext (x1.trans x2)) j rs))) (Only.refl _ _)
          | non => simp only [e2] at e; cases e
          | bl b => simp only [e2] at e; cases e
          | str b => simp only [e2] at e; cases e
          | tup b => simp only [e2] at e; cases e
          | lst b => simp only [e2] at e; cases e
          | cel b => simp only [e2] at e; cases e
          | lck b => simp only [e2] at e; cases e
          | ins _ _ _ => simp only [e2] at e; cases e
          | dct => simp only [e2] at e; cases e
          | fn => simp only [e2] at e; cases e
          | tpl => simp only [e2] at e; cases e
      | non => simp only [e1] at e; cases e
      | bl b => simp only [e1] at e; cases e
      | int b => simp only [e1] at e; cases e
      | str b => simp only [e1] at e; cases e
      | tup b => simp only [e1] at e; cases e
      | lst b => simp only [e1] at e; cases e
      | lck b => simp only [e1] at e; cases e
      | ins _ _ _ => simp only [e1] at e; cases e
      | dct => simp only [e1] at e; cases e
      | fn => simp only [e1] at e; cases e
      | tpl => simp only [e1] at e; cases e
  · cases e
/-- two names at once, both sides written -/
def xPar (i j : Nat) (a b : Fn D) : Fo := fun σ m => (a σ m).go σ fun x m1 => (b σ m1).go σ fun y m2 => .nx ((σ.set i (some x)).set j (some y)) m2
theorem s_par {i j : Nat} {x y : Str} {a b : Expr} {fa fb : Fn D} {px py pt : Pos} {kt k2 pt2} {pos : Pos} (nd : L.N.Nodup) (hi : L.N[i]? = some x) (hj : L.N[j]? = some y) (hij : i ≠ j) (hx : L.sc.names.lookup x = some .local) (hy : L.sc.names.lookup y = some .local)
    (ha : SE L a fa) (hb : SE L b fb) (hw : ∀ env : Env, env.scope = L.sc → swappedStores [.Tuple [.Name x px, .Name y py] kt pt] (.Tuple [a, b] k2 pt2) env = pure (some [x, y]))
    (hs : ∀ env, swapsWithSole [.Tuple [.Name x px, .Name y py] kt pt] (.Tuple [a, b] k2 pt2) pos.line env = pure false := by intro _; rfl)
    (hsa : ∀ env, starEach [a, b] env = (false, eval a env) :: starEach [b] env := by intro _; rfl) (hsb : ∀ env, starEach [b] env = (false, eval b env) :: starEach [] env := by intro _; rfl) :
    SS L (.Assign [.Tuple [.Name x px, .Name y py] kt pt] (.Tuple [a, b] k2 pt2) pos) (xPar i j fa fb) := fun W X h =>
  PSi (ps_par h.calm (by rw [h.N]; exact nd) (by rw [h.N]; exact hi) (by rw [h.N]; exact hj) hij (by rw [h.sc]; exact hx) (by rw [h.sc]; exact hy) (pa_cons (ha W X h) (pa_cons (hb W X h) pa_nil (hsb _)) (hsa _)) (hw _ h.sc) (hs _)) fun D σ H ⟨α, β, σd, m, s, q⟩ => by
  refine ⟨α, β, σd, m, s, q.mp fun d m1 v H1 α1 e1 s1 r1 q => ⟨α1, β, σd, m1, s1, q.mp fun d2 m2 u H2 α2 e2 s2 r2 q => ⟨v, u, rfl, ?_⟩⟩⟩
  exact q _ H2 α2 Ext.refl ((s2.set i (r1.ext e2)).set j r2)
end
/-! ## what a loop walks -/
/-- more is known, nothing less -/
structure Kn (H : Hp) (α β : List Addr) (H1 : Hp) (α1 β1 : List Addr) : Prop where
  h : ∀ a o, hid H (α ++ β) a = some o → hid H1 (α1 ++ β1) a = some o
  a : ∀ (c : Nat) (a : Addr), α[c]? = some a → α1[c]? = some a
theorem Kn.trans {H H1 H2 : Hp} {α β α1 β1 α2 β2 : List Addr} (x : Kn H α β H1 α1 β1) (y : Kn H1 α1 β1 H2 α2 β2) : Kn H α β H2 α2 β2 := ⟨fun a o z => y.h a o (x.h a o z), fun c a z => y.a c a (x.a c a z)⟩
theorem Ext.kn {H H1 : Hp} {α α1 β : List Addr} (e : Ext H α H1 α1) : Kn H α β H1 α1 β := ⟨e.hid, e.ix⟩
theorem Kn.rep {K : KK} {H H1 : Hp} {α β α1 β1 : List Addr} (x : Kn H α β H1 α1 β1) {v : V} {d : D} (r : Rp K H α β v d) : Rp K H1 α1 β1 v d := Rep.mono x.h x.a r
theorem Kn.reps {K : KK} {H H1 : Hp} {α β α1 β1 : List Addr} (x : Kn H α β H1 α1 β1) {v : List V} {d : List D} (r : Rps K H α β v d) : Rps K H1 α1 β1 v d := Reps.mono x.h x.a r
/-- J hands out these items, one after another -/
def ItD (L : Lc) (H : Hp) (α β : List Addr) (items : List D) (J : It) : Prop := ∀ H1 α1 β1 m1, Kn H α β H1 α1 β1 → CR L.K H1 α1 β1 m1 →
  J.stop items.length H1 ∧ ∀ i d, items[i]? = some d → J.go i H1 ∧ ∀ x H2, J.yld i H1 x H2 → Ext H1 α1 H2 α1 ∧ CR L.K H2 α1 β1 m1 ∧ Rp L.K H2 α1 β1 x d
theorem ItD.kn {L : Lc} {H H1 : Hp} {α β α1 β1 : List Addr} {items : List D} {J : It} (x : Kn H α β H1 α1 β1) (h : ItD L H α β items J) : ItD L H1 α1 β1 items J := fun H2 α2 β2 m2 y c => h H2 α2 β2 m2 (x.trans y) c
def relI (L : Lc) : Hp → List Addr → List Addr → It → List D → Prop := fun H α β J items => ItD L H α β items J
def SI (L : Lc) (tg iter : Expr) (f : Fn (List D)) : Prop := ∀ W X, Ok L W X → PI X tg iter (tS L W (relI L) f)
theorem PIi {X : Cx} {tg e : Expr} {t t' : TI} (h : PI X tg e t) (k : ∀ σ H R, t' σ H R → t σ H R) : PI X tg e t' := ⟨fun pins s σ H R I q => h.run pins s σ H R I (k _ _ _ q)⟩
theorem itd_list {L : Lc} {H : Hp} {α β : List Addr} {a : Addr} {vs : List V} {ds : List D} (h : hid H (α ++ β) a = some (.lst vs)) (r : Rps L.K H α β vs ds) : ItD L H α β ds (Itl L.K a) := fun H1 α1 β1 m1 x c => by
  have hs : SqL L.K H1 a vs := .inl (.inl (hid_of (x.h _ _ h)).1)
  refine ⟨⟨vs, hs, by rw [r.length]; exact Nat.le_refl _⟩, fun i d e => ?_⟩
  obtain ⟨v, h1, h2⟩ := r.get e
  refine ⟨⟨vs, v, hs, h1⟩, fun y H2 z => ?_⟩
  obtain ⟨rfl, z⟩ := z
  have := z vs hs
  rw [h1] at this
  cases this
  exact ⟨Ext.refl, c, x.rep h2⟩
theorem itd_tup {L : Lc} {H : Hp} {α β : List Addr} {a : Addr} {vs : List V} {ds : List D} (h : SqT L.K (hid H (α ++ β)) a vs) (r : Rps L.K H α β vs ds) : ItD L H α β ds (Itt L.K a) := fun H1 α1 β1 m1 x c => by
  have hs : SqT L.K H1 a vs := sqt_mono hid_sub (sqt_mono x.h h)
  refine ⟨⟨vs, hs, by rw [r.length]; exact Nat.le_refl _⟩, fun i d e => ?_⟩
  obtain ⟨v, h1, h2⟩ := r.get e
  refine ⟨⟨vs, v, hs, h1⟩, fun y H2 z => ?_⟩
  obtain ⟨rfl, z⟩ := z
  have := z vs hs
  rw [h1] at this
  cases this
  exact ⟨Ext.refl, c, x.rep h2⟩
def rngD (lo : Int) (n : Nat) : List D := (List.range n).map fun i => .int (lo + (i : Nat))
theorem itd_rng {L : Lc} {H : Hp} {α β : List Addr} {lo : Int} {n : Nat} : ItD L H α β (rngD lo n) (Itr lo n) := fun H1 α1 β1 m1 x c => by
  refine ⟨by simp [rngD, Itr], fun i d e => ?_⟩
  unfold rngD at e
  rw [List.getElem?_map] at e
  by_cases hi : i < n
  · rw [List.getElem?_range hi] at e
    cases e
    refine ⟨hi, fun y H2 z => ?_⟩
    obtain ⟨rfl, rfl⟩ := z
    exact ⟨Ext.refl, c, .int⟩
  · rw [List.getElem?_eq_none (by simp; omega)] at e
    cases e
end CT
namespace CT
open PySem L2
/-! ## loops -/
def oLoop (o : O) (k : Fo) : O := match o with
  | .nx σ m => k σ m
  | .ct σ m => k σ m
  | .bk σ m => .nx σ m
  | o => o
@[simp] theorem oLoop_nx (σ : Sd) (m : Ms) (b : Fo) : oLoop (.nx σ m) b = b σ m := rfl
@[simp] theorem oLoop_ct (σ : Sd) (m : Ms) (b : Fo) : oLoop (.ct σ m) b = b σ m := rfl
@[simp] theorem oLoop_bk (σ : Sd) (m : Ms) (b : Fo) : oLoop (.bk σ m) b = .nx σ m := rfl
@[simp] theorem oLoop_rt (d : D) (m : Ms) (b : Fo) : oLoop (.rt d m) b = .rt d m := rfl
@[simp] theorem oLoop_ex (x : Xc) (σ : Sd) (m : Ms) (b : Fo) : oLoop (.ex x σ m) b = .ex x σ m := rfl
@[simp] theorem oLoop_bad (b : Fo) : oLoop .bad b = .bad := rfl
def forL (g : Fg) (b : Fo) : List D → Fo
  | [] => fun σ m => .nx σ m
  | d :: ds => fun σ m => match g d σ m with
    | none => .bad
    | some (σ1, m1) => oLoop (b σ1 m1) (forL g b ds)
def xFor (src : Fn (List D)) (g : Fg) (b : Fo) : Fo := fun σ m => (src σ m).go σ fun items m1 => forL g b items σ m1
def whN (c : Fn Bool) (b : Fo) : Nat → Fo
  | 0 => fun _ _ => .bad
  | n + 1 => fun σ m => (c σ m).go σ fun t m1 => if t = true then oLoop (b σ m1) (whN c b n) else .nx σ m1
def O.isBad : O → Bool
  | .bad => true
  | _ => false
open Classical in
noncomputable def xWhile (c : Fn Bool) (b : Fo) : Fo := fun σ m => if h : ∃ n, (whN c b n σ m).isBad = false then whN c b (Classical.choose h) σ m else .bad
theorem whN_mono (c : Fn Bool) (b : Fo) : ∀ (n : Nat) (σ : Sd) (m : Ms), (whN c b n σ m).isBad = false → whN c b (n + 1) σ m = whN c b n σ m
  | 0, _, _, h => by simp [whN, O.isBad] at h
  | n + 1, σ, m, h => by
    have e1 : ∀ k, whN c b (k + 1) σ m = (c σ m).go σ fun t m1 => if t = true then oLoop (b σ m1) (whN c b k) else .nx σ m1 := fun _ => rfl
    rw [e1] at h
    rw [e1 (n + 1), e1 n]
    cases e : c σ m with
    | bad => rfl
    | ex x m1 => rfl
    | ok t m1 =>
      rw [e] at h
      simp only [R.go_ok] at h ⊢
      cases t with
      | false => rfl
      | true =>
        simp only [if_true] at h ⊢
        cases e2 : b σ m1 with
        | nx σ2 m2 => rw [e2] at h; simp only [oLoop_nx] at h ⊢; exact whN_mono c b n σ2 m2 h
        | ct σ2 m2 => rw [e2] at h; simp only [oLoop_ct] at h ⊢; exact whN_mono c b n σ2 m2 h
        | bk σ2 m2 => rfl
        | rt d m2 => rfl
        | ex x σ2 m2 => rfl
        | bad => rfl
theorem whN_le (c : Fn Bool) (b : Fo) {n k : Nat} (hk : n ≤ k) {σ : Sd} {m : Ms} (h : (whN c b n σ m).isBad = false) : whN c b k σ m = whN c b n σ m := by
  induction hk with
  | refl => rfl
  | step _ ih => rw [whN_mono c b _ σ m (by rw [ih]; exact h), ih]
theorem xWhile_eq {c : Fn Bool} {b : Fo} {n : Nat} {σ : Sd} {m : Ms} {o : O} (h : whN c b n σ m = o) (ho : o.isBad = false) : xWhile c b σ m = o := by
  have hn : (whN c b n σ m).isBad = false := by rw [h]; exact ho
  have hx : ∃ n, (whN c b n σ m).isBad = false := ⟨n, hn⟩
  unfold xWhile
  rw [dif_pos hx]
  have hc := Classical.choose_spec hx
  rcases Nat.le_total n (Classical.choose hx) with z | z
  · rw [whN_le c b z hn, h]
  · rw [← whN_le c b z hc, h]
section
variable {L : Lc}
theorem postO_ends {W : WX} {H : Hp} {α β : List Addr} {D : Ends} {o : O} {k : Fo} {N : St → Hp → Prop} (h : PostO L W H α β D (oLoop o k))
    (hN : ∀ σ σd m H1 α1, Ext H α H1 α1 → SR L.K H1 α1 β σ σd m → PostO L W H1 α1 β D (k σd m) → N σ H1) : PostO L W H α β { D with nx := N, ct := N, bk := D.nx } o := by
  cases o with
  | nx σd m => exact fun σ H1 α1 e s => hN σ σd m H1 α1 e s (PostO.ext e h)
  | ct σd m => exact fun σ H1 α1 e s => hN σ σd m H1 α1 e s (PostO.ext e h)
  | bk σd m => exact h
  | rt d m => exact h
  | ex x σd m => exact h
  | bad => exact h
theorem s_for {tg iter : Expr} {body : List Stmt} {fi : Fn (List D)} {g : Fg} {js : List Nat} {fb : Fo} {pos : Pos} (hi : SI L tg iter fi) (hg : SG L js tg g) (hb : SSs L body fb) (hs : ∀ env x, foldedSetIterable iter env x = pure x := by intro _ _; rfl) : SS L (.For tg iter body [] pos) (xFor fi g fb) := fun W X h =>
  PSi (ps_for h.own h.calm (hi W X h) (hg W X h) (hb W X h) (hs _)) fun D σ H ⟨α, β, σd, m, s, q⟩ => by
  refine ⟨α, β, σd, m, s, q.mp fun items m1 J H1 α1 e1 s1 it q => ?_⟩
  refine ⟨fun i n σ' H' => ∃ α' σd' m', Kn H1 α1 β H' α' β ∧ SR L.K H' α' β σ' σd' m' ∧ PostO L W H' α' β D (forL g fb (items.drop i) σd' m') ∧ n = items.length - i ∧ i ≤ items.length,
    ⟨_, α1, σd, m1, ⟨fun _ _ z => z, fun _ _ z => z⟩, s1, q, rfl, Nat.zero_le _⟩, ?_⟩
  rintro i n σ' H' ⟨α', σd', m', kn, s', q', rfl, hl⟩
  obtain ⟨h1, h2⟩ := it H' α' β m' kn s'.cr
  by_cases hlt : i < items.length
  · obtain ⟨h3, h4⟩ := h2 i items[i] (List.getElem?_eq_getElem hlt)
    refine .inr ⟨h3, fun σ2 H2 => ∃ α2 σd2 m2, Kn H1 α1 β H2 α2 β ∧ SR L.K H2 α2 β σ2 σd2 m2 ∧ PostO L W H2 α2 β D (forL g fb (items.drop (i + 1)) σd2 m2), fun σ2 H2 ⟨α2, σd2, m2, k2, s2, q2⟩ => ⟨items.length - (i + 1), by omega, α2, σd2, m2, k2, s2, q2, rfl, hlt⟩, fun x H2 y => ?_⟩
    obtain ⟨x2, c2, r2⟩ := h4 x H2 y
    rw [List.drop_eq_getElem_cons hlt, forL] at q'
    cases e : g items[i] σd' m' with
    | none => simp only [e] at q'; exact q'.elim
    | some p =>
      obtain ⟨σ3, m3⟩ := p
      simp only [e] at q'
      refine ⟨α', β, σd', m', _, s'.ext' x2 c2, r2, σ3, m3, e, fun σ4 H4 α4 x4 s4 _ => ⟨α4, β, σ3, m3, s4, ?_⟩⟩
      refine postO_ends ((q'.ext x2).ext x4) fun σ5 σd5 m5 H5 α5 x5 s5 q5 => ⟨α5, σd5, m5, ?_, s5, q5⟩
      exact kn.trans ((x2.trans (x4.trans x5)).kn)
  · have hi2 : i = items.length := by omega
    subst hi2
    refine .inl ⟨h1, ?_⟩
    rw [List.drop_length, forL] at q'
    exact q' σ' H' α' Ext.refl s'
theorem s_while {c : Expr} {body : List Stmt} {fc : Fn Bool} {fb : Fo} {pos : Pos} (hc : ST L c fc) (hb : SSs L body fb) : SS L (.While c body [] pos) (xWhile fc fb) := fun W X h =>
  PSi (ps_while h.own (hc W X h) (hb W X h)) fun D σ H ⟨α, β, σd, m, s, q⟩ => by
  have q0 : ∃ n, PostO L W H α β D (whN fc fb n σd m) := by
    unfold xWhile at q
    split at q
    · exact ⟨_, q⟩
    · exact q.elim
  obtain ⟨n0, q0⟩ := q0
  refine ⟨fun n σ' H' => ∃ α' σd' m', SR L.K H' α' β σ' σd' m' ∧ PostO L W H' α' β D (whN fc fb n σd' m'), ⟨n0, α, σd, m, s, q0⟩, ?_⟩
  rintro n σ' H' ⟨α', σd', m', s', q'⟩
  cases n with
  | zero => exact q'.elim
  | succ n =>
    rw [whN] at q'
    refine ⟨α', β, σd', m', s', q'.mp fun t m1 v H1 α1 e1 s1 r1 q1 => ?_⟩
    obtain rfl : v = t := r1
    cases v with
    | true =>
      rw [if_pos rfl] at q1 ⊢
      refine ⟨fun σ2 H2 => ∃ α2 σd2 m2, SR L.K H2 α2 β σ2 σd2 m2 ∧ PostO L W H2 α2 β D (whN fc fb n σd2 m2), fun σ2 H2 w2 => ⟨n, Nat.lt_succ_self n, w2⟩, α1, β, σd', m1, s1, ?_⟩
      exact postO_ends q1 fun σ5 σd5 m5 H5 α5 x5 s5 q5 => ⟨α5, σd5, m5, s5, q5⟩
    | false =>
      rw [if_neg Bool.false_ne_true] at q1 ⊢
      exact q1 σ' H1 α1 Ext.refl s1
end
/-! ## comprehensions -/
def wipeD (σ : Sd) : List Nat → Sd
  | [] => σ
  | v :: vs => (wipeD σ vs).set v none
theorem wipeD_length (σ : Sd) : ∀ vs : List Nat, (wipeD σ vs).length = σ.length
  | [] => rfl
  | v :: vs => by rw [wipeD, List.length_set, wipeD_length σ vs]
theorem wipeD_some {σ : Sd} {i : Nat} {x : D} : ∀ {vs : List Nat}, (wipeD σ vs)[i]? = some (some x) → σ[i]? = some (some x) ∧ i ∉ vs
  | [], h => ⟨h, by simp⟩
  | v :: vs, h => by
    rw [wipeD] at h
    by_cases hi : v = i
    · subst hi
      by_cases hv : v < (wipeD σ vs).length
      · rw [List.getElem?_set_self hv] at h; cases h
      · rw [List.getElem?_eq_none (by simpa using hv)] at h; cases h
    · rw [List.getElem?_set_ne hi] at h
      obtain ⟨h1, h2⟩ := wipeD_some h
      exact ⟨h1, by simp [h2]; exact fun z => hi z.symm⟩
theorem SR.wipe {K : KK} {H : Hp} {α β : List Addr} {σ : St} {σd : Sd} {m : Ms} (s : SR K H α β σ σd m) (vs : List Nat) : SR K H α β (L2.wipe σ vs) (wipeD σd vs) m :=
  ⟨s.cr, by rw [wipe_length, wipeD_length, s.len], fun i d h => by
    obtain ⟨h1, h2⟩ := wipeD_some h
    obtain ⟨v, h3, h4⟩ := s.slot i d h1
    exact ⟨v, by rw [wipe_out h2]; exact h3, h4⟩⟩
theorem wipe_ext {vs : List Nat} : ∀ {σ σ' : St}, σ'.length = σ.length → (∀ j, j ∉ vs → σ'[j]? = σ[j]?) → L2.wipe σ' vs = L2.wipe σ vs := fun {σ σ'} hl h => by
  refine List.ext_getElem? fun j => ?_
  by_cases hj : j ∈ vs
  · have key : ∀ (ws : List Nat) (τ : St), j ∈ ws → j < τ.length → (L2.wipe τ ws)[j]? = some none := by
      intro ws
      induction ws with
      | nil => intro τ hm; cases hm
      | cons w ws ih =>
        intro τ hm hlt
        rw [L2.wipe]
        by_cases hw : w = j
        · subst hw
          rw [List.getElem?_set_self (by rw [wipe_length]; exact hlt)]
        · rw [List.getElem?_set_ne hw]
          refine ih τ ?_ hlt
          rcases List.mem_cons.mp hm with z | z
          · exact absurd z.symm hw
          · exact z
    by_cases hlt : j < σ.length
    · rw [key vs σ' hj (by omega), key vs σ hj hlt]
    · rw [List.getElem?_eq_none (by rw [wipe_length]; omega), List.getElem?_eq_none (by rw [wipe_length]; omega)]
  · rw [wipe_out hj, wipe_out hj]
    exact h j hj
def lcL (fin : Ms → List D → R D) (g : Fg) (c : Fn Bool) (e : Fn D) (σ : Sd) : List D → Ms → List D → R D
  | [], m, acc => fin m acc
  | d :: ds, m, acc => match g d σ m with
    | none => .bad
    | some (σ1, m1) => match c σ1 m1 with
      | .ok true m2 => match e σ1 m2 with
        | .ok y m3 => lcL fin g c e σ ds m3 (acc ++ [y])
        | _ => .bad
      | .ok false m2 => lcL fin g c e σ ds m2 acc
      | _ => .bad
def xLcF (fin : Ms → List D → R D) (src : Fn (List D)) (g : Fg) (c : Fn Bool) (e : Fn D) (own : List Nat) : Fn D := fun σ m => (src σ m).bind fun items m1 => if items.length ≤ 100000 then lcL fin g c e (wipeD σ own) items m1 [] else .bad
def finL : Ms → List D → R D := fun m acc => .ok (.lst acc) m
def finC : Ms → List D → R D := fun m acc => if D.cfs 0 acc = true then .ok (.cel m.length) (m ++ [.l acc]) else .bad
abbrev xLc := xLcF finL
/-- .. of a list that will be changed -/
abbrev xLcC := xLcF finC
def xYes : Fn Bool := fun _ m => .ok true m
/-- the scope of a comprehension's block, within sc -/
def inner (scope sc : Scope) : Scope := { scope with names := scope.names.map fun (n, k) => if (k == NameKind.free && sc.kind == .function && sc.names.lookup n == some .cell) then (n, NameKind.cell) else (n, k) }
def Lc.blk (L : Lc) (scope : Scope) : Lc := { L with sc := inner scope L.sc, fn := fun x => scope.names.lookup x == some .cell }
def W0 : WX := fun _ _ _ _ => False
theorem ok_blk {L : Lc} {W : WX} {X : Cx} (h : Ok L W X) {scope : Scope} (s : Shared) (H : Hp) (C : Addr) (cl : List (Str × Addr)) (fp : List Addr) : Ok (L.blk scope) W0 (X.blk s H scope (compEnvC scope cl C X.env) fp) :=
  ⟨h.prog, h.w, h.K, h.mg, h.base, h.N, by
    show relabel scope X.env = inner scope L.sc
    rw [← h.sc]
    rfl, h.room, h.calm, takes0, PassesOwn.never, fun x hx => hx, h.cd⟩
def SIf (L : Lc) (ifs : List Expr) (c : Fn Bool) : Prop := ∀ W X, Ok L W X → PTs X ifs (tS L W relB c)
theorem PTsi {X : Cx} {e : List Expr} {t t' : TT} (h : PTs X e t) (k : ∀ σ H Q, t' σ H Q → t σ H Q) : PTs X e t' := ⟨fun pins s σ H Q I q => h.run pins s σ H Q I (k _ _ _ q)⟩
theorem sif_nil {L : Lc} : SIf L [] xYes := fun W X h => PTsi pts_nil fun σ H Q ⟨α, β, σd, m, s, q⟩ => q _ H α Ext.refl s rfl
theorem CR.alien {K : KK} {H : Hp} {α β : List Addr} {m : Ms} (c : CR K H α β m) {p : Addr} {o : HO} (hp : H p = none) (ho : plainO o) : CR K (upd H p o) α (p :: β) m := by
  have hsub : ∀ a u, hid H (α ++ β) a = some u → hid (upd H p o) (α ++ p :: β) a = some u := fun a u h => by
    have ht := hid_nt h
    obtain ⟨h1, h2⟩ := hid_of h
    have hne : a ≠ p := ne_of_none h1 hp
    refine hid_mk (by rw [upd_ne hne]; exact h1) (fun z => ?_) ht
    rcases List.mem_append.mp z with z | z
    · exact h2 (List.mem_append_left _ z)
    · rcases List.mem_cons.mp z with z | z
      · exact hne z
      · exact h2 (List.mem_append_right _ z)
  refine ⟨c.len, c.nd, fun b hb => ?_, fun i a ds h1 h2 => ?_, c.tbL hp⟩
  · rcases List.mem_cons.mp hb with z | z
    · rw [z]; exact ⟨c.fresh hp, o, upd_same, ho⟩
    · obtain ⟨h1, u, h2, hu⟩ := c.al b z
      exact ⟨h1, u, by rw [upd_ne (ne_of_none h2 hp)]; exact h2, hu⟩
  · obtain ⟨q, vs, w, e, x, r⟩ := c.cell i a ds h1 h2
    exact ⟨q, vs, w, by rw [upd_ne (ne_of_none e hp)]; exact e, x, Reps.mono hsub (fun _ _ z => z) r⟩
theorem kn_alien {H : Hp} {α β : List Addr} {p : Addr} {o : HO} (hp : H p = none) : Kn H α β (upd H p o) α (p :: β) := ⟨fun a u h => by
    have ht := hid_nt h
    obtain ⟨h1, h2⟩ := hid_of h
    have hne : a ≠ p := ne_of_none h1 hp
    refine hid_mk (by rw [upd_ne hne]; exact h1) (fun z => ?_) ht
    rcases List.mem_append.mp z with z | z
    · exact h2 (List.mem_append_left _ z)
    · rcases List.mem_cons.mp z with z | z
      · exact hne z
      · exact h2 (List.mem_append_right _ z), fun _ _ z => z⟩
theorem SR.kn {K : KK} {H H1 : Hp} {α β α1 β1 : List Addr} {σ : St} {σd : Sd} {m m1 : Ms} (s : SR K H α β σ σd m) (k : Kn H α β H1 α1 β1) (c : CR K H1 α1 β1 m1) : SR K H1 α1 β1 σ σd m1 :=
  ⟨c, s.len, fun i d h => let ⟨v, h1, h2⟩ := s.slot i d h; ⟨v, h1, k.rep h2⟩⟩
/-- the alien list p is changed -/
theorem alien_put {K : KK} {H : Hp} {α β : List Addr} {m : Ms} (c : CR K H α β m) {p : Addr} {o : HO} (hp : p ∈ β) (ho : plainO o) : CR K (upd H p o) α β m ∧ Kn H α β (upd H p o) α β := by
  have hsub : ∀ a u, hid H (α ++ β) a = some u → hid (upd H p o) (α ++ β) a = some u := fun a u h => by
    have ht := hid_nt h
    obtain ⟨h1, h2⟩ := hid_of h
    refine hid_mk ?_ h2 ht
    rw [upd_ne (fun z => h2 (List.mem_append_right _ (by rw [z]; exact hp)))]
    exact h1
  refine ⟨⟨c.len, c.nd, fun b hb => ?_, fun i a ds h1 h2 => ?_, fun t ht => ?_⟩, hsub, fun _ _ z => z⟩
  · obtain ⟨h1, u, h2, hu⟩ := c.al b hb
    refine ⟨h1, ?_⟩
    by_cases z : b = p
    · rw [z]; exact ⟨o, upd_same, ho⟩
    · exact ⟨u, by rw [upd_ne z]; exact h2, hu⟩
  · obtain ⟨q, vs, w, e, x, r⟩ := c.cell i a ds h1 h2
    have hne : a ≠ p := fun z => (c.al p hp).1 (by rw [← z]; exact List.mem_of_getElem? h1)
    exact ⟨q, vs, w, by rw [upd_ne hne]; exact e, x, Reps.mono hsub (fun _ _ z => z) r⟩
  · obtain ⟨-, u, h2, hu⟩ := c.al p hp
    exact tab_put h2 hu (c.tb t ht)
theorem Kn.refl {H : Hp} {α β : List Addr} : Kn H α β H α β := ⟨fun _ _ z => z, fun _ _ z => z⟩
/-- the alien is ours again: it stands fast from here on -/
theorem CR.back {K : KK} {H : Hp} {α β : List Addr} {m : Ms} {p : Addr} (c : CR K H α (p :: β) m) : CR K H α β m ∧ Kn H α (p :: β) H α β := by
  have hsub : ∀ a u, hid H (α ++ p :: β) a = some u → hid H (α ++ β) a = some u := fun a u h => by
    have ht := hid_nt h
    obtain ⟨h1, h2⟩ := hid_of h
    refine hid_mk h1 (fun z => h2 ?_) ht
    rcases List.mem_append.mp z with z | z
    · exact List.mem_append_left _ z
    · exact List.mem_append_right _ (List.mem_cons_of_mem _ z)
  exact ⟨⟨c.len, c.nd, fun b hb => c.al b (List.mem_cons_of_mem _ hb), fun i a ds h1 h2 => by
    obtain ⟨q, vs, w, e, x, r⟩ := c.cell i a ds h1 h2
    exact ⟨q, vs, w, e, x, Reps.mono hsub (fun _ _ z => z) r⟩, c.tb⟩, hsub, fun _ _ z => z⟩
/-- what the end of a comprehension makes of the new list -/
def FinS (L : Lc) (fin : Ms → List D → R D) : Prop := ∀ (W : WX) (H H1 : Hp) (α α1 β : List Addr) (σ : St) (σd : Sd) (m : Ms) (p : Addr) (vs : List V) (acc : List D) (Q : VK), SR L.K H α β σ σd m → H p = none → ∀ m1, Ext H α H1 α1 → Kn H α β H1 α1 (p :: β) → CR L.K H1 α1 (p :: β) m1 → H1 p = some (.lst vs) → Rps L.K H1 α1 (p :: β) vs acc →
  PostR L W (relV L) σ σd H α β Q (fin m1 acc) → Q (.ref p) H1
theorem fin_l {L : Lc} : FinS L finL := by
  intro W H H1 α α1 β σ σd m p vs acc Q s hp m1 ex kn c hv rv q
  obtain ⟨cb, kb⟩ := c.back
  refine q (.ref p) H1 α1 ex (s.kn (kn.trans kb) cb) (.lst (hid_mk hv ?_) (kb.reps rv))
  intro z
  rcases List.mem_append.mp z with z | z
  · exact (c.al p (List.mem_cons_self ..)).1 z
  · obtain ⟨_, o, ho, _⟩ := s.cr.al p z
    rw [hp] at ho; cases ho
theorem CR.adopt {K : KK} {H : Hp} {α β : List Addr} {m : Ms} {p : Addr} {vs : List V} {ds : List D} (c : CR K H α (p :: β) m) (hp : p ∉ β) (hv : H p = some (.lst vs)) (r : Rps K H α (p :: β) vs ds) (z : D.cfs 0 ds = true) : CR K H (α ++ [p]) β (m ++ [.l ds]) ∧ Kn H α (p :: β) H (α ++ [p]) β := by
  have hpa : p ∉ α := (c.al p (List.mem_cons_self ..)).1
  have hsub : ∀ a u, hid H (α ++ p :: β) a = some u → hid H (α ++ [p] ++ β) a = some u := fun a u h => by
    have ht := hid_nt h
    obtain ⟨h1, h2⟩ := hid_of h
    refine hid_mk h1 (fun w => h2 ?_) ht
    simpa [List.append_assoc] using w
  have kn : Kn H α (p :: β) H (α ++ [p]) β := ⟨hsub, fun i a e => by
    rw [List.getElem?_append_left (List.getElem?_eq_some_iff.mp e).1]
    exact e⟩
  refine ⟨⟨by simp [c.len], ?_, fun b hb => ⟨fun w => ?_, (c.al b (List.mem_cons_of_mem _ hb)).2⟩, fun i a es h1 h2 => ?_, c.tb⟩, kn⟩
  · refine List.nodup_append.mpr ⟨c.nd, by simp, ?_⟩
    intro a ha b hb e
    rw [List.mem_singleton] at hb
    subst hb; subst e
    exact hpa ha
  · rcases List.mem_append.mp w with w | w
    · exact (c.al b (List.mem_cons_of_mem _ hb)).1 w
    · rw [List.mem_singleton.mp w] at hb
      exact hp hb
  · by_cases hi : i < α.length
    · rw [List.getElem?_append_left hi] at h1
      rw [List.getElem?_append_left (by have := c.len; omega)] at h2
      obtain ⟨q, ws, w, e, x, rr⟩ := c.cell i a es h1 h2
      exact ⟨q, ws, w, e, x, kn.reps rr⟩
    · have hi2 : i = α.length := by
        have := (List.getElem?_eq_some_iff.mp h1).1
        simp at this; omega
      subst hi2
      rw [List.getElem?_append_right (Nat.le_refl _)] at h1
      rw [List.getElem?_append_right (by have := c.len; omega)] at h2
      simp at h1
      have e2 : α.length - m.length = 0 := by have := c.len; omega
      rw [e2] at h2
      simp at h2
      subst h1; subst h2
      exact ⟨z, vs, _, hv, rfl, kn.reps r⟩
theorem fin_c {L : Lc} : FinS L finC := by
  intro W H H1 α α1 β σ σd m p vs acc Q s hp m1 ex kn c hv rv q
  unfold finC at q
  split at q
  rotate_left
  · exact q.elim
  rename_i z
  have hb : p ∉ β := fun z => by
    obtain ⟨_, o, ho, _⟩ := s.cr.al p z
    rw [hp] at ho; cases ho
  obtain ⟨ca, ka⟩ := c.adopt hb hv rv z
  refine q (.ref p) H1 (α1 ++ [p]) ⟨?_, ex.fr, fun a ha => ?_⟩ (s.kn (kn.trans ka) ca) (.cel ?_)
  · obtain ⟨γ, rfl⟩ := ex.pre
    exact ⟨γ ++ [p], by simp⟩
  · rcases List.mem_append.mp ha with w | w
    · exact ex.new a w
    · rw [List.mem_singleton.mp w]; exact .inr (vac_of hp)
  · rw [← c.len]; simp
theorem lc_core' {L : Lc} {W : WX} {fin : Ms → List D → R D} (hfin : FinS L fin) {scope : Scope} {fi : Fn (List D)} {g : Fg} {js own : List Nat} {fc : Fn Bool} {fe : Fn D} (hj : ∀ j ∈ js, j ∈ own) {σ : St} {H : Hp} {Q : VK}
    (h : tS L W (relV L) (xLcF fin fi g fc fe own) σ H Q) : tLc (tS L W (relI L) fi) (tG (L.blk scope) js g) (tS (L.blk scope) W0 relB fc) (tS (L.blk scope) W0 (relV (L.blk scope)) fe) own σ H Q := by
  obtain ⟨α, β, σd, m, s, q⟩ := h
  refine ⟨α, β, σd, m, s, q.mp fun items m1 J H1 α1 e1 s1 it q D hD => ?_⟩
  split at q
  rotate_left
  · exact q.elim
  rename_i hlen
  have c2 : CR L.K (upd H1 D (.lst [])) α1 (D :: β) m1 := s1.cr.alien hD trivial
  refine ⟨fun i n H' => ∃ α' m' vs acc, Ext H1 α1 H' α' ∧ Kn H1 α1 β H' α' (D :: β) ∧ CR L.K H' α' (D :: β) m' ∧ H' D = some (.lst vs) ∧ Rps L.K H' α' (D :: β) vs acc ∧ acc.length ≤ i ∧
      PostR L W (relV L) σ σd H1 α1 β Q (lcL fin g fc fe (wipeD σd own) (items.drop i) m' acc) ∧ n = items.length - i ∧ i ≤ items.length,
    ⟨_, α1, m1, [], [], Ext.lay hD, kn_alien hD, c2, upd_same, .nil, Nat.le_refl _, q, rfl, Nat.zero_le _⟩, ?_⟩
  rintro i n H' ⟨α', m', vs, acc, ex, kn, c', hv, rv, hacc, q', rfl, hl⟩
  obtain ⟨h1, h2⟩ := it H' α' (D :: β) m' kn c'
  have nD : D ∉ α' := (c'.al D (List.mem_cons_self ..)).1
  by_cases hlt : i < items.length
  · obtain ⟨h3, h4⟩ := h2 i items[i] (List.getElem?_eq_getElem hlt)
    refine .inr ⟨h3, fun H2 => ∃ α2 m2 vs2 acc2, Ext H1 α1 H2 α2 ∧ Kn H1 α1 β H2 α2 (D :: β) ∧ CR L.K H2 α2 (D :: β) m2 ∧ H2 D = some (.lst vs2) ∧ Rps L.K H2 α2 (D :: β) vs2 acc2 ∧ acc2.length ≤ i + 1 ∧
      PostR L W (relV L) σ σd H1 α1 β Q (lcL fin g fc fe (wipeD σd own) (items.drop (i + 1)) m2 acc2), fun H2 ⟨α2, m2, vs2, acc2, y1, y2, y3, y4, y5, y6, y7⟩ => ⟨items.length - (i + 1), by omega, α2, m2, vs2, acc2, y1, y2, y3, y4, y5, y6, y7, rfl, hlt⟩, fun x H2 y => ?_⟩
    obtain ⟨x2, cr2, r2⟩ := h4 x H2 y
    rw [List.drop_eq_getElem_cons hlt, lcL] at q'
    cases e : g items[i] (wipeD σd own) m' with
    | none => simp only [e] at q'; exact q'.elim
    | some p =>
      obtain ⟨σ3, m3⟩ := p
      simp only [e] at q'
      have sw : SR L.K H2 α' (D :: β) (L2.wipe σ own) (wipeD σd own) m' := (s1.wipe own).kn (kn.trans x2.kn) cr2
      refine ⟨α', D :: β, wipeD σd own, m', _, sw, r2, σ3, m3, e, fun σ4 H4 α4 x4 s4 ho => ⟨?_, ?_⟩⟩
      · have e1 : L2.wipe σ4 own = L2.wipe (L2.wipe σ own) own := wipe_ext ho.1 fun j hj' => ho.2 j fun z => hj' (hj j z)
        rw [e1]
        exact wipe_ext (wipe_length σ own) fun j hj' => wipe_out hj'
      · refine ⟨α4, D :: β, σ3, m3, s4, ?_⟩
        cases ec : fc σ3 m3 with
        | bad => simp only [ec] at q'; exact q'.elim
        | ex xx mm => simp only [ec] at q'; exact q'.elim
        | ok b m4 =>
          simp only [ec] at q'
          intro b' H5 α5 x5 s5 hb'
          obtain rfl : b' = b := hb'
          have x25 : Ext H' α' H5 α5 := (x2.trans x4).trans x5
          cases b' with
          | false =>
            rw [if_neg Bool.false_ne_true]
            simp only at q'
            exact ⟨α5, m4, vs, acc, ex.trans x25, kn.trans x25.kn, s5.cr, x25.fr _ _ nD hv noTb_lst, rv.ext x25, Nat.le_succ_of_le hacc, q'⟩
          | true =>
            rw [if_pos rfl]
            simp only at q'
            refine ⟨α5, D :: β, σ3, m4, s5, ?_⟩
            cases ee : fe σ3 m4 with
            | bad => simp only [ee] at q'; exact q'.elim
            | ex xx mm => simp only [ee] at q'; exact q'.elim
            | ok yd m5 =>
              simp only [ee] at q'
              intro yv H6 α6 x6 s6 ry
              have x26 : Ext H' α' H6 α6 := x25.trans x6
              have hD6 : H6 D = some (.lst vs) := x26.fr _ _ nD hv noTb_lst
              refine ⟨vs, hD6, ?_, ?_⟩
              · rw [(rv.length : vs.length = acc.length)]
                exact Evl.sz_lt (by omega)
              · obtain ⟨c7, k7⟩ := alien_put (o := .lst (vs ++ [yv])) s6.cr (List.mem_cons_self .. : D ∈ D :: β) trivial
                refine ⟨α6, m5, vs ++ [yv], acc ++ [yd], ?_, (kn.trans x26.kn).trans k7, c7, upd_same, k7.reps (Reps.app (rv.ext x26) (.cons ry .nil)), by simp; exact hacc, q'⟩
                have ex6 := ex.trans x26
                refine ⟨ex6.pre, fun a o na ha ht => ?_, ex6.new⟩
                have hne : a ≠ D := fun z => by rw [z, hD] at ha; cases ha
                rw [upd_ne hne]
                exact ex6.fr a o na ha ht
  · have hi2 : i = items.length := by omega
    subst hi2
    refine .inl ⟨h1, ?_⟩
    rw [List.drop_length, lcL] at q'
    exact hfin W H1 H' α1 α' β σ σd m1 D vs acc Q s1 hD m' ex kn c' hv rv q'
section
variable {L : Lc}
theorem se_lc {elt tg iter : Expr} {ifs : List Expr} {scope : Scope} {own : List (Str × Nat)} {pos : Pos} {fi : Fn (List D)} {g : Fg} {js : List Nat} {fc : Fn Bool} {fe : Fn D} {fin : Ms → List D → R D} (hfin : FinS L fin) (nd : L.N.Nodup) (ok : BlkOk L.N L.sc scope own) (hj : ∀ j ∈ js, j ∈ own.map (·.2))
    (hi : SI L tg iter fi) (hg : SG (L.blk scope) js tg g) (hc : SIf (L.blk scope) ifs fc) (he : SE (L.blk scope) elt fe) (hs : ∀ env x, foldedSetIterable iter env x = pure x := by intro _ _; rfl) :
    SE L (.ListComp elt [⟨tg, iter, ifs, 0⟩] scope pos) (xLcF fin fi g fc fe (own.map (·.2))) := fun W X h =>
  PEi (pe_lc h.calm (by rw [h.N]; exact nd) (hi W X h) (by rw [h.N, h.sc]; exact ok) (fun s H C cl fp => hg W0 _ (ok_blk h s H C cl fp)) (fun s H C cl fp => hc W0 _ (ok_blk h s H C cl fp)) (fun s H C cl fp => he W0 _ (ok_blk h s H C cl fp)) (hs _)) fun σ H Q q => lc_core' hfin (scope := scope) hj q
theorem s_setLc {i : Nat} {y : Str} {py : Pos} {elt tg iter : Expr} {ifs : List Expr} {scope : Scope} {own : List (Str × Nat)} {pos spos : Pos} {fi : Fn (List D)} {g : Fg} {js : List Nat} {fc : Fn Bool} {fe : Fn D} {fin : Ms → List D → R D} (hfin : FinS L fin) (nd : L.N.Nodup) (hy : L.N[i]? = some y) (hyl : L.sc.names.lookup y = some .local)
    (hsw : ∀ env : Env, env.scope = L.sc → swapsWith (.ListComp elt [⟨tg, iter, ifs, 0⟩] scope pos) (some (.Name y py)) spos.line env = pure true) (ok : BlkOk L.N L.sc scope own) (hj : ∀ j ∈ js, j ∈ own.map (·.2))
    (hi : SI L tg iter fi) (hg : SG (L.blk scope) js tg g) (hc : SIf (L.blk scope) ifs fc) (he : SE (L.blk scope) elt fe) (hs : ∀ env x, foldedSetIterable iter env x = pure x := by intro _ _; rfl) :
    SS L (.Assign [.Name y py] (.ListComp elt [⟨tg, iter, ifs, 0⟩] scope pos) spos) (xAsg (gN i) (xLcF fin fi g fc fe (own.map (·.2)))) := fun W X h =>
  PSi (ps_setLc (i := i) h.calm (by rw [h.N]; exact nd) (by rw [h.N]; exact hy) (by rw [h.sc]; exact hyl) (hsw _ h.sc) (hi W X h) (by rw [h.N, h.sc]; exact ok) (fun s H C cl fp => hg W0 _ (ok_blk h s H C cl fp)) (fun s H C cl fp => hc W0 _ (ok_blk h s H C cl fp)) (fun s H C cl fp => he W0 _ (ok_blk h s H C cl fp)) (hs _)) fun D σ H ⟨α, β, σd, m, s, q⟩ => by
  have key : tS L W (relV L) (xLcF fin fi g fc fe (own.map (·.2))) σ H (fun x H1 => gName i x σ H1 D.nx) :=
    ⟨α, β, σd, m, s, q.mp fun d m1 v H1 α1 e1 s1 r1 q => q _ H1 α1 Ext.refl (s1.set i r1)⟩
  exact lc_core' hfin (scope := scope) hj key
end
end CT
namespace CT
open PySem L2
/-! ## operators on data -/
def okLen (n : Nat) (r : R D) : R D := if n ≤ 100000 then r else .bad
def oAdd : D → D → Ms → R D
  | .int i, .int j, m => .ok (.int (i + j)) m
  | .lst a, .lst b, m => okLen (a.length + b.length) (.ok (.lst (a ++ b)) m)
  | .tup a, .tup b, m => okLen (a.length + b.length) (.ok (.tup (a ++ b)) m)
  | .str a, .str b, m => okLen (a.length + b.length) (.ok (.str (a ++ b)) m)
  | _, _, _ => .bad
def oSub : D → D → Ms → R D
  | .int i, .int j, m => .ok (.int (i - j)) m
  | _, _, _ => .bad
def mulOk (i j : Int) : Bool := decide (i.natAbs.log2 + j.natAbs.log2 < 1000000)
def divOk (j : Int) : Bool := decide (0 < j ∧ j.natAbs.log2 < 9000)
def strRep (z : Str) (k : Nat) : Str := ⟨(List.replicate k z.cps).foldl (· ++ ·) #[]⟩
def repOk (z : Str) (k : Int) : Bool := decide (1 < k ∧ k ≤ 1000 ∧ 1 ≤ z.length ∧ z.length * k.toNat ≤ 100000 ∧ (strRep z k.toNat).length ≤ 100000)
def oMul : D → D → Ms → R D
  | .str z, .int k, m => if k = 0 ∨ k = 1 then .ok (.str (if k = 0 then Str.empty else z)) m else if repOk z k = true then .ok (.str (strRep z k.toNat)) m else .bad
  | .lst a, .int k, m => if (-1000 ≤ k ∧ k ≤ 1000) ∧ a.length * k.toNat ≤ 100000 then .ok (.lst (List.replicate k.toNat a).flatten) m else .bad
  | .int i, .int j, m => if mulOk i j = true then .ok (.int (i * j)) m else .bad
  | _, _, _ => .bad
def oDiv : D → D → Ms → R D
  | .int i, .int j, m => if divOk j = true then .ok (.int (i / j)) m else .bad
  | _, _, _ => .bad
def oMod : D → D → Ms → R D
  | .int i, .int j, m => if j ≠ 0 then .ok (.int (i.fmod j)) m else .bad
  | _, _, _ => .bad
def powOk (i j : Int) : Bool := decide (0 ≤ j ∧ j ≤ 1000000 ∧ i.natAbs < 2 ^ 64)
def oPow : D → D → Ms → R D
  | .int i, .int j, m => if powOk i j = true then .ok (.int (i ^ j.toNat)) m else .bad
  | _, _, _ => .bad
def oNeg : D → Ms → R D
  | .int i, m => .ok (.int (-i)) m
  | _, _ => .bad
def oLt : D → D → Ms → R D
  | .int i, .int j, m => .ok (.bl (decide (i < j))) m
  | .str i, .str j, m => .ok (.bl (decide (i.cps.toList < j.cps.toList))) m
  | _, _, _ => .bad
def oLe : D → D → Ms → R D
  | .int i, .int j, m => .ok (.bl (decide (i ≤ j))) m
  | _, _, _ => .bad
def oGt : D → D → Ms → R D
  | .int i, .int j, m => .ok (.bl (decide (j < i))) m
  | _, _, _ => .bad
def oGe : D → D → Ms → R D
  | .int i, .int j, m => .ok (.bl (decide (j ≤ i))) m
  | _, _, _ => .bad
mutual
def toP : D → PyData
  | .non => .none
  | .bl b => .bool b
  | .int i => .int i
  | .str x => .str x
  | .tup ds => .tuple (toPs ds)
  | .lst ds => .list (toPs ds)
  | .cel _ => .none
  | .lck ds => .list (toPs ds)
  | .ins _ _ _ => .dict []
  | .dct _ _ => .dict []
  | .fn _ => .dict []
  | .tpl ds => .tuple (toPs ds)
def toPs : List D → List PyData
  | [] => []
  | d :: ds => toP d :: toPs ds
end
def eqOk (d : D) : Bool := d.cf 0 && SeqAt.shaped (toP d)
def oEq : D → D → Ms → R D := fun x y m => if (eqOk x && eqOk y) = true then .ok (.bl (PyData.eqv (toP x) (toP y))) m else .bad
def oNe : D → D → Ms → R D := fun x y m => if (eqOk x && eqOk y) = true then .ok (.bl (!PyData.eqv (toP x) (toP y))) m else .bad
def isN : D → Bool
  | .non => true
  | _ => false
def oIsN : D → D → Ms → R D := fun x y m => match y with
  | .bl b => match x with
    | .bl a => .ok (.bl (decide (a = b))) m
    | _ => .bad
  | .non => .ok (.bl (isN x)) m
  | _ => .bad
def flatD : D → Bool
  | .non => true
  | .bl _ => true
  | .int _ => true
  | .str _ => true
  | _ => false
def eqF : D → D → Bool
  | .non, .non => true
  | .bl a, .bl b => a == b
  | .bl a, .int b => (if a then 1 else 0) == b
  | .int a, .bl b => a == (if b then 1 else 0)
  | .int a, .int b => a == b
  | .str a, .str b => a == b
  | _, _ => false
def inD (x : D) (ds : List D) : Bool := ds.any fun y => eqF y x
/-- a key of a dict, what stands there -/
def keyD : D → Option Key
  | .int i => some (.inl i)
  | .str z => some (.inr z)
  | _ => none
def dgetD : List Key → List D → Key → Option D
  | k :: ks, d :: ds, q => if k = q then some d else dgetD ks ds q
  | _, _, _ => none
def occB (x y : Str) : Bool := !(Builtin.Str.occurrences y x 0 y.length 1).isEmpty
def oIn : D → D → Ms → R D := fun x y m => match y with
  | .str z => match x with
    | .str u => .ok (.bl (occB u z)) m
    | _ => .bad
  | .dct ks ds => match keyD x with
    | some k => .ok (.bl (dgetD ks ds k).isSome) m
    | none => .bad
  | .lst ds => if (flatD x && ds.all flatD) = true then .ok (.bl (inD x ds)) m else .bad
  | .tup ds => if (flatD x && ds.all flatD) = true then .ok (.bl (inD x ds)) m else .bad
  | _ => .bad
def oIx : D → D → Ms → R D
  | .dct ks ds, y, m => match keyD y with
    | some k => match dgetD ks ds k with
      | some d => .ok d m
      | none => .bad
    | none => .bad
  | .lst ds, .int i, m => match atI ds i with
    | some d => .ok d m
    | none => .bad
  | .tup ds, .int i, m => match atI ds i with
    | some d => .ok d m
    | none => .bad
  | .str z, .int i, m => if z.length ≤ 100000 then match atI z.cps.toList i with
    | some c => .ok (.str ⟨#[c]⟩) m
    | none => .bad
    else .bad
  | _, _, _ => .bad
section
variable {L : Lc}
theorem OpS.or {r r' : R2} {o : D → D → Ms → R D} (h : ∀ (W : WX) (H : Hp) (α β : List Addr) (σ : St) (σd : Sd) (m : Ms) (v u : V) (x y : D) (Q : VK), SR L.K H α β σ σd m → Rv L.K H α β v x → Rv L.K H α β u y →
  PostR L W (relV L) σ σd H α β Q (o x y m) → r v u H Q ∨ r' v u H Q) : OpS L (fun x y H Q => r x y H Q ∨ r' x y H Q) o := h
theorem okLen_elim {W : WX} {σ : St} {σd : Sd} {H : Hp} {α β : List Addr} {Q : VK} {n : Nat} {r : R D} (h : PostR L W (relV L) σ σd H α β Q (okLen n r)) : n ≤ 100000 ∧ PostR L W (relV L) σ σd H α β Q r := by
  unfold okLen at h
  split at h
  · exact ⟨by assumption, h⟩
  · exact h.elim
theorem ors_add {X : Cx} : OpR X (binaryOp .Add) (fun x y H Q => (rI0 (fun i j => .int (i + j)) x y H Q ∨ rCat x y H Q) ∨ (rCatA X.K x y H Q ∨ (∃ i j, x = .str i ∧ y = .str j ∧ i.length + j.length ≤ sizeLine ∧ Q (.str (i ++ j)) H))) :=
  (op_add.or op_cat).or (op_catA.or op_add_str)
theorem os_add : OpS L (fun x y H Q => (rI0 (fun i j => .int (i + j)) x y H Q ∨ rCat x y H Q) ∨ (rCatA L.K x y H Q ∨ (∃ i j, x = .str i ∧ y = .str j ∧ i.length + j.length ≤ sizeLine ∧ Q (.str (i ++ j)) H))) oAdd := by
  intro W H α β σ σd m v u x y Q s rv ru q
  cases rv with
  | int =>
    cases ru with
    | int => exact .inl (.inl ⟨_, _, rfl, rfl, q _ H α Ext.refl s .int⟩)
    | lck _ _ => exact q.elim
    | ins _ _ _ => exact q.elim
    | dct => exact q.elim
    | fn => exact q.elim
    | non => exact q.elim
    | bl => exact q.elim
    | str => exact q.elim
    | tup _ _ => exact q.elim
    | lst _ _ => exact q.elim
  | lst h1 r1 =>
    cases ru with
    | lst h2 r2 =>
      obtain ⟨hz, q⟩ := okLen_elim (show PostR L W (relV L) σ σd H α β Q (okLen _ _) from q)
      refine .inl (.inr ⟨_, _, _, _, rfl, rfl, h1, h2, Evl.sz_of (by rw [r1.length, r2.length]; exact hz), fun p hp => ?_⟩)
      obtain ⟨h3, h4⟩ := lay_lst s hp (r1.app r2)
      exact q _ _ α (Ext.lay hp) h3 h4
    | lck _ _ => exact q.elim
    | ins _ _ _ => exact q.elim
    | dct => exact q.elim
    | fn => exact q.elim
    | non => exact q.elim
    | bl => exact q.elim
    | int => exact q.elim
    | str => exact q.elim
    | tup _ _ => exact q.elim
  | tup h1 r1 =>
    cases ru with
    | tup h2 r2 =>
      rename_i a vs ds b ws es
      obtain ⟨hz, q⟩ := okLen_elim (show PostR L W (relV L) σ σd H α β Q (okLen _ _) from q)
      refine .inr (.inl ⟨_, _, _, _, rfl, rfl, sqt_mono hid_sub h1, sqt_mono hid_sub h2, Evl.sz_of (by rw [r1.length, r2.length]; exact hz), fun e => ?_, fun _ e => ?_, fun _ _ p hp => ?_⟩)
      · subst e
        cases r1
        exact q _ H α Ext.refl s (.tup h2 r2)
      · subst e
        cases r2
        rw [List.append_nil] at q
        exact q _ H α Ext.refl s (.tup h1 r1)
      · obtain ⟨h3, h4⟩ := lay_tup s hp (r1.app r2)
        exact q _ _ α (Ext.lay hp) h3 h4
    | lck _ _ => exact q.elim
    | ins _ _ _ => exact q.elim
    | dct => exact q.elim
    | fn => exact q.elim
    | non => exact q.elim
    | bl => exact q.elim
    | int => exact q.elim
    | str => exact q.elim
    | lst _ _ => exact q.elim
  | str =>
    cases ru with
    | str =>
      obtain ⟨hz, q⟩ := okLen_elim (show PostR L W (relV L) σ σd H α β Q (okLen _ _) from q)
      exact .inr (.inr ⟨_, _, rfl, rfl, Evl.sz_of hz, q _ H α Ext.refl s .str⟩)
    | lck _ _ => exact q.elim
    | ins _ _ _ => exact q.elim
    | dct => exact q.elim
    | fn => exact q.elim
    | non => exact q.elim
    | bl => exact q.elim
    | int => exact q.elim
    | tup _ _ => exact q.elim
    | lst _ _ => exact q.elim
  | lck _ _ => exact q.elim
  | ins _ _ _ => exact q.elim
  | dct => exact q.elim
  | fn => exact q.elim
  | non => exact q.elim
  | bl => exact q.elim
theorem os_sub : OpS L (rI0 fun i j => .int (i - j)) oSub := by
  intro W H α β σ σd m v u x y Q s rv ru q
  cases rv <;> first | exact q.elim | (cases ru <;> first | exact q.elim | exact ⟨_, _, rfl, rfl, q _ H α Ext.refl s .int⟩)
theorem if_elim {W : WX} {σ : St} {σd : Sd} {H : Hp} {α β : List Addr} {Q : VK} {c : Prop} [Decidable c] {r : R D} (h : PostR L W (relV L) σ σd H α β Q (if c then r else .bad)) : c ∧ PostR L W (relV L) σ σd H α β Q r := by
  split at h
  · exact ⟨by assumption, h⟩
  · exact h.elim
theorem mulOk_c {i j : Int} (h : mulOk i j = true) : CMulW i j := by
  unfold mulOk at h
  have h' : i.natAbs.log2 + j.natAbs.log2 < 1000000 := of_decide_eq_true h
  exact h'
theorem divOk_c {i j : Int} (h : divOk j = true) : CDivW i j := by
  unfold divOk at h
  have h' : 0 < j ∧ j.natAbs.log2 < 9000 := of_decide_eq_true h
  exact h'
theorem powOk_c {i j : Int} (h : powOk i j = true) : CPow i j := by
  unfold powOk at h
  have h' : 0 ≤ j ∧ j ≤ 1000000 ∧ i.natAbs < 2 ^ 64 := of_decide_eq_true h
  exact h'
theorem reps_rep {K : KK} {G : Hp} {α : List Addr} {vs : List V} {ds : List D} (r : Reps K G α vs ds) : ∀ k : Nat, Reps K G α (List.replicate k vs).flatten (List.replicate k ds).flatten
  | 0 => .nil
  | k + 1 => by
    rw [List.replicate_succ, List.replicate_succ, List.flatten_cons, List.flatten_cons]
    exact r.app (reps_rep r k)
theorem op_rep_str {X : Cx} : OpR X (binaryOp .Mult) (fun x y H Q => ∃ z k, x = .str z ∧ y = .int k ∧ (((k = 0 ∨ k = 1) ∧ Q (.str (if k = 0 then Str.empty else z)) H) ∨ (repOk z k = true ∧ Q (.str (strRep z k.toNat)) H))) := by
  intro pins s σ H x y v u Q I rx ry h
  obtain ⟨z, k, rfl, rfl, h⟩ := h
  obtain ⟨t, rfl⟩ := rx
  obtain ⟨t', rfl⟩ := ry
  rcases h with ⟨hk, q⟩ | ⟨hk, q⟩
  · rcases hk with rfl | rfl
    · exact PySem.P.mul_str (by decide) (fun h => absurd (by decide) h) (fun h => absurd (by decide) h) (by rw [if_pos (by decide)]; exact ⟨by decide, .str Str.empty, H, I.tok _, ⟨_, rfl⟩, q⟩)
    · exact PySem.P.mul_str (by decide) (fun _ h => by simp at h) (fun _ h => by simp at h) (by rw [if_neg (by decide), if_pos (by simp)]; exact ⟨.str z, H, I, ⟨_, rfl⟩, q⟩)
  · obtain ⟨h1, h2, h3, h4, h5⟩ := of_decide_eq_true hk
    have n1 : ¬ k < 1 := by omega
    have n2 : (k == 1 || z.length == 0) = false := by
      rw [Bool.or_eq_false_iff]
      exact ⟨beq_false_of_ne (by omega), beq_false_of_ne (by omega)⟩
    have hz : z.length ≤ 100000 := by
      refine Nat.le_trans ?_ h4
      exact Nat.le_mul_of_pos_right _ (by omega)
    refine PySem.P.mul_str (by
      rw [decide_eq_false (by omega : ¬ k < -(2 ^ 63 : Int)), decide_eq_false (by omega : ¬ k ≥ 2 ^ 63)]; rfl) (fun _ _ => ?_) (fun _ _ => ?_) ?_
    · have h6 : (2 ^ 63 - 1 : Int) / 1000 ≤ (2 ^ 63 - 1) / k := by
        refine Int.le_ediv_of_mul_le (by omega) ?_
        have e : (2 ^ 63 - 1 : Int) / 1000 = 9223372036854775 := by decide
        rw [e]
        omega
      have e : (2 ^ 63 - 1 : Int) / 1000 = 9223372036854775 := by decide
      rw [e] at h6
      omega
    · have : ¬ z.length * k.toNat > PySem.sizeLine := by
        show ¬ z.length * k.toNat > 2 ^ 24
        omega
      show decide (z.length * k.toNat > PySem.sizeLine) = false
      exact decide_eq_false this
    · rw [if_neg n1, n2, if_neg (by decide)]
      exact ⟨by show (strRep z k.toNat).length ≤ 2 ^ 24; omega, .str (strRep z k.toNat), H, I.tok _, ⟨_, rfl⟩, q⟩
theorem os_mul : OpS L (fun x y H Q => (rI CMulW (fun i j => .int (i * j)) x y H Q ∨ rRep x y H Q) ∨ ∃ z k, x = .str z ∧ y = .int k ∧ (((k = 0 ∨ k = 1) ∧ Q (.str (if k = 0 then Str.empty else z)) H) ∨ (repOk z k = true ∧ Q (.str (strRep z k.toNat)) H))) oMul := by
  intro W H α β σ σd m v u x y Q s rv ru q
  cases rv with
  | str =>
    cases ru with
    | @int k =>
      by_cases c : k = 0 ∨ k = 1
      · simp only [oMul, if_pos c] at q
        exact .inr ⟨_, _, rfl, rfl, .inl ⟨c, q _ H α Ext.refl s .str⟩⟩
      · simp only [oMul, if_neg c] at q
        obtain ⟨c, q⟩ := if_elim q
        exact .inr ⟨_, _, rfl, rfl, .inr ⟨c, q _ H α Ext.refl s .str⟩⟩
    | _ => exact q.elim
  | int =>
    cases ru with
    | int => obtain ⟨c, q⟩ := if_elim q; exact .inl (.inl ⟨_, _, rfl, rfl, mulOk_c c, q _ H α Ext.refl s .int⟩)
    | _ => exact q.elim
  | lst h r =>
    cases ru with
    | int =>
      obtain ⟨c, q⟩ := if_elim q
      refine .inl (.inr ⟨_, _, _, rfl, rfl, h, by omega, by omega, Evl.sz_of (by rw [r.length]; exact c.2), fun p hp => ?_⟩)
      obtain ⟨h3, h4⟩ := lay_lst s hp (reps_rep r _)
      exact q _ _ α (Ext.lay hp) h3 h4
    | _ => exact q.elim
  | _ => exact q.elim
theorem os_div : OpS L (rI CDivW fun i j => .int (i / j)) oDiv := by
  intro W H α β σ σd m v u x y Q s rv ru q
  cases rv <;> first | exact q.elim | (cases ru <;> first | exact q.elim | (obtain ⟨c, q⟩ := if_elim q; exact ⟨_, _, rfl, rfl, divOk_c c, q _ H α Ext.refl s .int⟩))
theorem os_mod : OpS L (rI (fun _ j => j ≠ 0) fun i j => .int (i.fmod j)) oMod := by
  intro W H α β σ σd m v u x y Q s rv ru q
  cases rv <;> first | exact q.elim | (cases ru <;> first | exact q.elim | (obtain ⟨c, q⟩ := if_elim q; exact ⟨_, _, rfl, rfl, c, q _ H α Ext.refl s .int⟩))
theorem os_pow : OpS L (rI CPow fun i j => .int (i ^ j.toNat)) oPow := by
  intro W H α β σ σd m v u x y Q s rv ru q
  cases rv <;> first | exact q.elim | (cases ru <;> first | exact q.elim | (obtain ⟨c, q⟩ := if_elim q; exact ⟨_, _, rfl, rfl, powOk_c c, q _ H α Ext.refl s .int⟩))
theorem ors_lt {X : Cx} : OpR X (compareOp .Lt) (fun x y H Q => rI0 (fun i j => .bl (decide (i < j))) x y H Q ∨ ∃ i j, x = .str i ∧ y = .str j ∧ Q (.bl (decide (i.cps.toList < j.cps.toList))) H) := op_lt.or op_lt_str
theorem os_lt : OpS L (fun x y H Q => rI0 (fun i j => .bl (decide (i < j))) x y H Q ∨ ∃ i j, x = .str i ∧ y = .str j ∧ Q (.bl (decide (i.cps.toList < j.cps.toList))) H) oLt := by
  intro W H α β σ σd m v u x y Q s rv ru q
  cases rv <;> first | exact q.elim | (cases ru <;> first | exact q.elim | exact .inl ⟨_, _, rfl, rfl, q _ H α Ext.refl s .bl⟩ | exact .inr ⟨_, _, rfl, rfl, q _ H α Ext.refl s .bl⟩)
theorem os_le : OpS L (rI0 fun i j => .bl (decide (i ≤ j))) oLe := by
  intro W H α β σ σd m v u x y Q s rv ru q
  cases rv <;> first | exact q.elim | (cases ru <;> first | exact q.elim | exact ⟨_, _, rfl, rfl, q _ H α Ext.refl s .bl⟩)
theorem os_gt : OpS L (rI0 fun i j => .bl (decide (j < i))) oGt := by
  intro W H α β σ σd m v u x y Q s rv ru q
  cases rv <;> first | exact q.elim | (cases ru <;> first | exact q.elim | exact ⟨_, _, rfl, rfl, q _ H α Ext.refl s .bl⟩)
/-! ### == -/
mutual
theorem Rep.dp {K : KK} {G H : Hp} {α : List Addr} (h : ∀ a o, G a = some o → H a = some o) : ∀ {v : V} {d : D}, d.cf 0 = true → (toP d).canLay0 = true → Rep K G α v d → Dp K H v (toP d)
  | _, _, _, _, .non => .non
  | _, _, _, _, .bl => .bl _
  | _, _, _, _, .int => .int _
  | _, _, _, _, .str => .str _
  | _, _, z, y, .tup s r => .tup (sqt_mono h s) (Reps.dp h (by simpa [D.cf] using z) (by simpa [toP, PyData.canLay0] using y) r)
  | _, _, z, y, .lst s r => .lst (.inl (.inl (h _ _ s))) (Reps.dp h (by simpa [D.cf] using z) (by simpa [toP, PyData.canLay0] using y) r)
  | _, _, z, _, .cel _ => by simp [D.cf] at z
  | _, _, z, y, .lck s r => .lst (sql_mono h s) (Reps.dp h (by simpa [D.cf] using z) (by simpa [toP, PyData.canLay0] using y) r)
  | _, _, _, y, .ins _ _ _ => by simp [toP, PyData.canLay0] at y
  | _, _, _, y, .dct _ _ _ => by simp [toP, PyData.canLay0] at y
  | _, _, _, y, .fn => by simp [toP, PyData.canLay0] at y
  | _, _, z, y, .tpl s _ _ r => .tup (.inl (.inr ⟨_, h _ _ s⟩)) (Reps.dp h (by simpa [D.cf] using z) (by simpa [toP, PyData.canLay0] using y) r)
theorem Reps.dp {K : KK} {G H : Hp} {α : List Addr} (h : ∀ a o, G a = some o → H a = some o) : ∀ {vs : List V} {ds : List D}, D.cfs 0 ds = true → PyData.canLayAll0 (toPs ds) = true → Reps K G α vs ds → DpAll K H vs (toPs ds)
  | _, _, _, _, .nil => .nil
  | _, _, z, y, .cons a b => by
    rw [D.cfs, Bool.and_eq_true] at z
    rw [toPs, PyData.canLayAll0, Bool.and_eq_true] at y
    exact .cons (Rep.dp h z.1 y.1 a) (Reps.dp h z.2 y.2 b)
end
theorem Rv.dp {K : KK} {H : Hp} {α β : List Addr} : ∀ {v : V} {d : D}, d.cf 0 = true → (toP d).canLay0 = true → Rv K H α β v d → Dp K H v (toP d)
  | _, _, _, _, .non => .non
  | _, _, _, _, .bl => .bl _
  | _, _, _, _, .int => .int _
  | _, _, _, _, .str => .str _
  | _, _, z, y, .tup s r => .tup (sqt_mono hid_sub s) (Reps.dp hid_sub (by simpa [D.cf] using z) (by simpa [toP, PyData.canLay0] using y) r)
  | _, _, z, y, .lst s r => .lst (.inl (.inl s)) (Reps.dp hid_sub (by simpa [D.cf] using z) (by simpa [toP, PyData.canLay0] using y) r)
  | _, _, z, y, .lck s r => .lst s (Reps.dp hid_sub (by simpa [D.cf] using z) (by simpa [toP, PyData.canLay0] using y) r)
  | _, _, _, y, .ins _ _ _ => by simp [toP, PyData.canLay0] at y
  | _, _, _, y, .dct _ _ _ => by simp [toP, PyData.canLay0] at y
  | _, _, _, y, .fn => by simp [toP, PyData.canLay0] at y
theorem shp_lay {p : PyData} (h : SeqAt.shaped p = true) : p.canLay0 = true := by
  unfold SeqAt.shaped at h
  exact (Bool.and_eq_true_iff.mp h).1
theorem os_eq : OpS L (rEqD L.K) oEq := by
  intro W H α β σ σd m v u x y Q s rv ru q
  obtain ⟨c, q⟩ := if_elim q
  rw [Bool.and_eq_true] at c
  have c1 := Bool.and_eq_true_iff.mp c.1
  have c2 := Bool.and_eq_true_iff.mp c.2
  exact ⟨_, _, rv.dp c1.1 (shp_lay c1.2), ru.dp c2.1 (shp_lay c2.2), c1.2, c2.2, q _ H α Ext.refl s .bl⟩
theorem os_ne : OpS L (rNeD L.K) oNe := by
  intro W H α β σ σd m v u x y Q s rv ru q
  obtain ⟨c, q⟩ := if_elim q
  rw [Bool.and_eq_true] at c
  have c1 := Bool.and_eq_true_iff.mp c.1
  have c2 := Bool.and_eq_true_iff.mp c.2
  exact ⟨_, _, rv.dp c1.1 (shp_lay c1.2), ru.dp c2.1 (shp_lay c2.2), c1.2, c2.2, q _ H α Ext.refl s .bl⟩
theorem room64 {W : WX} {X : Cx} (h : Ok L W X) : X.A.units + 64 < cLine := h.room.units
theorem isN_iff {K : KK} {H : Hp} {α β : List Addr} {v : V} {d : D} (r : Rv K H α β v d) : decide (v = .non) = isN d := by
  cases r <;> simp [isN]
theorem os_isN : OpS L (fun x y H Q => (y = .non ∧ Q (.bl (decide (x = .non))) H) ∨ rIsB x y H Q) oIsN := by
  intro W H α β σ σd m v u x y Q s rv ru q
  cases ru with
  | non => exact .inl ⟨rfl, q _ H α Ext.refl s (by rw [isN_iff rv]; exact .bl)⟩
  | bl =>
    cases rv with
    | bl => exact .inr ⟨_, _, rfl, rfl, q _ H α Ext.refl s .bl⟩
    | _ => exact q.elim
  | _ => exact q.elim
/-! ### dicts -/
def rIxDV : R2 := fun x y H Q => ∃ a v, x = .ref a ∧ DGet H a y (some v) ∧ Q v H
theorem ix_dictV {X : Cx} (hu : X.A.units + 1 < cLine) : IxR X rIxDV := by
  intro value slice pins s σ H x y v u Q I rx ry h hs
  obtain ⟨a, z, rfl, g, q⟩ := h
  cases rx
  have hT := dict_typeIs I g
  unfold PyProof.Rows.subscriptTail
  refine wpAny_bind ?_
  rw [getitemInPython_of_ne hT.not_modules]
  refine wpAny_bind (wpAny_specialOf hT PySem.F.slot_dict_getitem.lookup ?_)
  have fin : wpAny (model X.prog X.w) X.A (subscripted slice false (.ref a) u) (fun r s₃ => wpAny (model X.prog X.w) X.A (letTemporaryGo value (.ref a) r >>= fun _ => pure r) (EP X pins σ Q) X.xe s₃) X.xe s := by
    rw [hs]
    exact wpAny_operating (d_getItem hu I g ry fun w' s3 I3 rw' => wpAny_bind (wpAny_letTemporaryGo (wpAny_pure ⟨z, H, I3, rw', q⟩)))
  first
    | exact wpAny_pure (wpAny_bind fin)
    | exact wpAny_bind (wpAny_pure (wpAny_bind fin))
    | exact wpAny_bind fin
def rInDV (neg : Bool) : R2 := fun x y H Q => ∃ a o, y = .ref a ∧ DGet H a x o ∧ Q (.bl (if neg then !o.isSome else o.isSome)) H
theorem op_inD {X : Cx} (hu : X.A.units + 1 < cLine) : OpR X (compareOp .In) (rInDV false) := by
  intro pins s σ H x y v u Q I rx ry h
  obtain ⟨a, o, rfl, g, q⟩ := h
  cases ry
  exact d_in hu I g rx fun s3 I3 => ⟨.bl o.isSome, H, I3, rfl, q⟩
theorem keyD_v {K : KK} {H : Hp} {α β : List Addr} {v : V} {d : D} {k : Key} (r : Rv K H α β v d) (h : keyD d = some k) : v = kV k := by
  cases r <;> first | (simp [keyD] at h; done) | skip
  all_goals (simp only [keyD, Option.some.injEq] at h; subst h; rfl)
theorem dget_v {K : KK} {G : Hp} {α : List Addr} : ∀ {kvs : List (Key × V)} {ks : List Key} {ds : List D} {k : Key} {d : D}, kvs.map (·.1) = ks → Reps K G α (kvs.map (·.2)) ds → dgetD ks ds k = some d → ∃ v, valV kvs k = some v ∧ Rep K G α v d
  | [], _, _, k, d, e, r, h => by
    subst e
    simp [dgetD] at h
  | (k1, v1) :: kvs, _, _, k, d, e, .cons a r, h => by
    subst e
    simp only [List.map_cons, dgetD] at h
    by_cases hk : k1 = k
    · rw [if_pos hk] at h
      cases h
      exact ⟨v1, by simp [valV, hk], a⟩
    · rw [if_neg hk] at h
      obtain ⟨v, h1, h2⟩ := dget_v rfl r h
      exact ⟨v, by rw [← h1]; simp [valV, List.find?_cons, hk], h2⟩
theorem dget_some {K : KK} {G : Hp} {α : List Addr} : ∀ {kvs : List (Key × V)} {ks : List Key} {ds : List D}, kvs.map (·.1) = ks → Reps K G α (kvs.map (·.2)) ds → ∀ k, (dgetD ks ds k).isSome = (valV kvs k).isSome
  | [], _, _, e, r, k => by
    subst e
    cases r
    rfl
  | (k1, v1) :: kvs, _, _, e, .cons a r, k => by
    subst e
    simp only [List.map_cons, dgetD]
    by_cases hk : k1 = k
    · rw [if_pos hk]
      simp [valV, hk]
    · rw [if_neg hk, dget_some rfl r k]
      simp [valV, List.find?_cons, hk]
/-! ### in -/
theorem flat_v {K : KK} {G : Hp} {α : List Addr} {v : V} {d : D} (r : Rep K G α v d) (h : flatD d = true) : flatV v = true := by
  cases r <;> first | rfl | (simp [flatD] at h)
theorem flat_rv {K : KK} {H : Hp} {α β : List Addr} {v : V} {d : D} (r : Rv K H α β v d) (h : flatD d = true) : flatV v = true := by
  cases r <;> first | rfl | (simp [flatD] at h)
theorem eqF_v {K : KK} {G H : Hp} {α β : List Addr} {v u : V} {d e : D} (r : Rep K G α v d) (q : Rv K H α β u e) (h : flatD d = true) (h' : flatD e = true) : eqV v u = eqF d e := by
  cases r <;> first | (simp [flatD] at h; done) | (cases q <;> first | rfl | (simp [flatD] at h'; done))
theorem inD_v {K : KK} {G H : Hp} {α β : List Addr} {u : V} {e : D} (q : Rv K H α β u e) (h' : flatD e = true) : ∀ {vs : List V} {ds : List D}, Reps K G α vs ds → ds.all flatD = true → inV u vs = inD e ds ∧ vs.all flatV = true
  | _, _, .nil, _ => ⟨rfl, rfl⟩
  | _, _, .cons (v := v) (d := d) (vs := vs) (ds := ds) a r, z => by
    rw [List.all_cons, Bool.and_eq_true] at z
    obtain ⟨h1, h2⟩ := inD_v q h' r z.2
    refine ⟨?_, by rw [List.all_cons, flat_v a z.1, h2]; rfl⟩
    show ((v :: vs).any fun y => eqV y u) = ((d :: ds).any fun y => eqF y e)
    rw [List.any_cons, List.any_cons, eqF_v a q z.1 h']
    have : (vs.any fun y => eqV y u) = (ds.any fun y => eqF y e) := h1
    rw [this]
theorem os_in : OpS L (fun x y H Q => (rIn L.K false x y H Q ∨ rInDV false x y H Q) ∨ ∃ i j, x = .str i ∧ y = .str j ∧ Q (.bl (occB i j)) H) oIn := by
  intro W H α β σ σd m v u x y Q s rv ru q
  cases ru with
  | tup h r =>
    obtain ⟨c, q⟩ := if_elim q
    rw [Bool.and_eq_true] at c
    obtain ⟨h1, h2⟩ := inD_v rv c.1 r c.2
    exact .inl (.inl ⟨_, _, rfl, .inr (sqt_mono hid_sub h), flat_rv rv c.1, h2, by rw [if_neg Bool.false_ne_true, h1]; exact q _ H α Ext.refl s .bl⟩)
  | lst h r =>
    obtain ⟨c, q⟩ := if_elim q
    rw [Bool.and_eq_true] at c
    obtain ⟨h1, h2⟩ := inD_v rv c.1 r c.2
    exact .inl (.inl ⟨_, _, rfl, .inl (.inl (.inl h)), flat_rv rv c.1, h2, by rw [if_neg Bool.false_ne_true, h1]; exact q _ H α Ext.refl s .bl⟩)
  | lck _ _ => exact q.elim
  | ins _ _ _ => exact q.elim
  | dct h n r =>
    cases ek : keyD x with
    | none => simp only [oIn, ek] at q; exact q.elim
    | some k =>
      simp only [oIn, ek] at q
      have hv := keyD_v rv ek
      subst hv
      refine .inl (.inr ⟨_, _, rfl, .inl ⟨_, k, .inl h, rfl, rfl⟩, ?_⟩)
      rw [← dget_some n r k]
      exact q _ H α Ext.refl s .bl
  | fn => exact q.elim
  | non => exact q.elim
  | bl => exact q.elim
  | int => exact q.elim
  | str =>
    cases rv with
    | str => exact .inr ⟨_, _, rfl, rfl, q _ H α Ext.refl s .bl⟩
    | _ => exact q.elim
/-! ### o[i] -/
theorem atI_rep {K : KK} {G : Hp} {α : List Addr} {vs : List V} {ds : List D} {i : Int} {d : D} (r : Reps K G α vs ds) (h : atI ds i = some d) : ∃ v, atI vs i = some v ∧ Rep K G α v d := by
  unfold atI at h ⊢
  rw [r.length]
  cases e : ixN ds.length i with
  | none => rw [e] at h; cases h
  | some j =>
    rw [e] at h
    exact r.get h
theorem os_ix : OpS L (fun x y H Q => rIx L.K x y H Q ∨ rIxDV x y H Q) oIx := by
  intro W H α β σ σd m v u x y Q s rv ru q
  cases rv with
  | lst h r =>
    cases ru with
    | int =>
      rename_i a vs ds i
      cases e : atI ds i with
      | none => simp only [oIx, e] at q; exact q.elim
      | some d =>
        simp only [oIx, e] at q
        obtain ⟨w, h1, h2⟩ := atI_rep r e
        exact .inl (.inl ⟨_, _, _, _, rfl, rfl, .inl (.inl h), h1, q _ H α Ext.refl s h2⟩)
    | lck _ _ => exact q.elim
    | ins _ _ _ => exact q.elim
    | dct => exact q.elim
    | fn => exact q.elim
    | non => exact q.elim
    | bl => exact q.elim
    | str => exact q.elim
    | tup _ _ => exact q.elim
    | lst _ _ => exact q.elim
  | tup h r =>
    cases ru with
    | int =>
      rename_i a vs ds i
      cases e : atI ds i with
      | none => simp only [oIx, e] at q; exact q.elim
      | some d =>
        simp only [oIx, e] at q
        obtain ⟨w, h1, h2⟩ := atI_rep r e
        exact .inl (.inr (.inl ⟨_, _, _, _, rfl, rfl, sqt_mono hid_sub h, h1, q _ H α Ext.refl s h2⟩))
    | lck _ _ => exact q.elim
    | ins _ _ _ => exact q.elim
    | dct => exact q.elim
    | fn => exact q.elim
    | non => exact q.elim
    | bl => exact q.elim
    | str => exact q.elim
    | tup _ _ => exact q.elim
    | lst _ _ => exact q.elim
  | str =>
    cases ru with
    | int =>
      rename_i z i
      obtain ⟨hz, q⟩ := if_elim (show PostR L W (relV L) σ σd H α β Q (if z.length ≤ 100000 then _ else _) from q)
      cases e : atI z.cps.toList i with
      | none => simp only [e] at q; exact q.elim
      | some c =>
        simp only [e] at q
        exact .inl (.inr (.inr ⟨z, i, c, rfl, rfl, Evl.sz_of hz, e, q _ H α Ext.refl s .str⟩))
    | lck _ _ => exact q.elim
    | ins _ _ _ => exact q.elim
    | dct => exact q.elim
    | fn => exact q.elim
    | non => exact q.elim
    | bl => exact q.elim
    | str => exact q.elim
    | tup _ _ => exact q.elim
    | lst _ _ => exact q.elim
  | lck _ _ => exact q.elim
  | ins _ _ _ => exact q.elim
  | @dct a kvs ks ds h n r =>
    cases ek : keyD y with
    | none => simp only [oIx, ek] at q; exact q.elim
    | some k =>
      simp only [oIx, ek] at q
      have hv := keyD_v ru ek
      subst hv
      cases e2 : dgetD ks ds k with
      | none => simp only [e2] at q; exact q.elim
      | some d =>
        simp only [e2] at q
        obtain ⟨w, h1, h2⟩ := dget_v n r e2
        exact .inr ⟨_, w, rfl, .inl ⟨_, k, .inl h, rfl, h1.symm⟩, q _ H α Ext.refl s h2⟩
  | fn => exact q.elim
  | non => exact q.elim
  | bl => exact q.elim
  | int => exact q.elim
theorem se_ix {a b : Expr} {fa fb : Fn D} {pos : Pos} (ha : SE L a fa) (hb : SE L b fb) (hs : PlainIx b := by intro _ _; rfl) : SE L (.Subscript a b pos) (xOp oIx fa fb) := fun W X h =>
  PEi (pe_ix (ix_seq.or (ix_dictV (by have := room64 h; omega))) (ha W X h) (hb W X h) hs) fun σ H Q q => op_core (r := fun x y H Q => rIx X.K x y H Q ∨ rIxDV x y H Q) (by rw [h.K]; exact os_ix) q
theorem se_neg {a : Expr} {fa : Fn D} {pos : Pos} (ha : SE L a fa) : SE L (.UnaryOp .USub a pos) (xUn oNeg fa) := fun W X h =>
  PEi (pe_un un_neg (ha W X h)) fun σ H Q ⟨α, β, σd, m, s, q⟩ => ⟨α, β, σd, m, s, q.mp fun d m1 v H1 α1 e1 s1 r1 q => by
    have r2 := Rv.of s1.cr r1
    generalize dr m1 d = d' at r2 q
    cases r2 <;> first | exact q.elim | exact ⟨_, rfl, q _ H1 α1 Ext.refl s1 .int⟩⟩
theorem se_add {a b : Expr} {fa fb : Fn D} {pos : Pos} (ha : SE L a fa) (hb : SE L b fb) : SE L (.BinOp a .Add b pos) (xOp oAdd fa fb) := fun W X h => by
  refine PEi (pe_op ors_add (ha W X h) (hb W X h)) fun σ H Q q => ?_
  rw [h.K]
  exact op_core os_add q
theorem se_sub {a b : Expr} {fa fb : Fn D} {pos : Pos} (ha : SE L a fa) (hb : SE L b fb) : SE L (.BinOp a .Sub b pos) (xOp oSub fa fb) := se_bin (fun _ _ _ => op_sub) os_sub ha hb
theorem se_mul {a b : Expr} {fa fb : Fn D} {pos : Pos} (ha : SE L a fa) (hb : SE L b fb) : SE L (.BinOp a .Mult b pos) (xOp oMul fa fb) := se_bin (fun _ _ _ => (op_mulW.or op_rep).or op_rep_str) os_mul ha hb
theorem se_div {a b : Expr} {fa fb : Fn D} {pos : Pos} (ha : SE L a fa) (hb : SE L b fb) : SE L (.BinOp a .FloorDiv b pos) (xOp oDiv fa fb) := se_bin (fun _ _ _ => op_fdivW) os_div ha hb
theorem se_mod {a b : Expr} {fa fb : Fn D} {pos : Pos} (ha : SE L a fa) (hb : SE L b fb) : SE L (.BinOp a .Mod b pos) (xOp oMod fa fb) := se_bin (fun _ _ _ => op_modN) os_mod ha hb
theorem se_pow {a b : Expr} {fa fb : Fn D} {pos : Pos} (ha : SE L a fa) (hb : SE L b fb) : SE L (.BinOp a .Pow b pos) (xOp oPow fa fb) := se_bin (fun _ _ _ => op_pow) os_pow ha hb
/-- a comparison: its operator, what it does to data -/
structure CmpS (L : Lc) (op : CmpOp) (o : D → D → Ms → R D) : Prop where
  ex : ∃ r, (∀ W X, Ok L W X → OpR X (compareOp op) r) ∧ OpS L r o
theorem cs_lt : CmpS L .Lt oLt := ⟨_, fun _ _ _ => ors_lt, os_lt⟩
theorem cs_le : CmpS L .LtE oLe := ⟨_, fun _ _ _ => op_le, os_le⟩
theorem cs_gt : CmpS L .Gt oGt := ⟨_, fun _ _ _ => op_gt, os_gt⟩
theorem cs_eq : CmpS L .Eq oEq := ⟨_, fun W X h => by rw [← h.K]; exact op_eqD (room64 h), os_eq⟩
theorem cs_ne : CmpS L .NotEq oNe := ⟨_, fun W X h => by rw [← h.K]; exact op_neD (room64 h), os_ne⟩
theorem cs_is : CmpS L .Is oIsN := ⟨_, fun _ _ _ => op_isN.or op_isBl, os_isN⟩
theorem cs_in : CmpS L .In oIn := ⟨_, fun W X h => by rw [← h.K]; exact (op_in_seq.or (op_inD (by have := room64 h; omega))).or op_in_str, os_in⟩
theorem e_cmp {op : CmpOp} {o : D → D → Ms → R D} (c : CmpS L op o) {a b : Expr} {fa fb : Fn D} {pos : Pos} (ha : SE L a fa) (hb : SE L b fb) (hm : behindInMarks op b = false) : SE L (.Compare a [op] [b] pos) (xOp o fa fb) := by
  obtain ⟨r, h1, h2⟩ := c.ex
  exact se_cmp h1 h2 ha hb hm
theorem t_cmp {op : CmpOp} {o : D → D → Ms → R D} (c : CmpS L op o) {a b : Expr} {fa fb : Fn D} {pos : Pos} (ha : SE L a fa) (hb : SE L b fb) (hm : behindInMarks op b = false) : ST L (.Compare a [op] [b] pos) (xTest (xOp o fa fb)) := by
  obtain ⟨r, h1, h2⟩ := c.ex
  exact st_cmp h1 h2 ha hb hm
theorem e_chain {op op' : CmpOp} {o o' : D → D → Ms → R D} (k : CmpS L op o) (k' : CmpS L op' o') {a b c : Expr} {fa fb fc : Fn D} {pos : Pos} (ha : SE L a fa) (hb : SE L b fb) (hc : SE L c fc) (hm : lastMarks [op, op'] [b, c] = false := by with_unfolding_all rfl) : SE L (.Compare a [op, op'] [b, c] pos) (xChain o o' fa fb fc) := by
  obtain ⟨r, h1, h2⟩ := k.ex
  obtain ⟨r', h3, h4⟩ := k'.ex
  exact se_chain h1 h2 h3 h4 ha hb hc hm
theorem t_chain {op op' : CmpOp} {o o' : D → D → Ms → R D} (k : CmpS L op o) (k' : CmpS L op' o') {a b c : Expr} {fa fb fc : Fn D} {pos : Pos} (ha : SE L a fa) (hb : SE L b fb) (hc : SE L c fc) (hm : lastMarks [op, op'] [b, c] = false := by with_unfolding_all rfl) : ST L (.Compare a [op, op'] [b, c] pos) (xTest (xChain o o' fa fb fc)) := by
  obtain ⟨r, h1, h2⟩ := k.ex
  obtain ⟨r', h3, h4⟩ := k'.ex
  exact st_chain h1 h2 h3 h4 ha hb hc hm
end
end CT
namespace CT
open PySem L2
/-! ## calls of builtins -/
abbrev Glb (L : Lc) (x : Str) : Prop := L.sc.names.lookup x = some .globalImplicit
inductive Rvs (K : KK) (H : Hp) (α β : List Addr) : List V → List D → Prop
  | nil : Rvs K H α β [] []
  | cons {v : V} {d : D} {vs : List V} {ds : List D} : Rv K H α β v d → Rvs K H α β vs ds → Rvs K H α β (v :: vs) (d :: ds)
theorem Rvs.of {K : KK} {H : Hp} {α β : List Addr} {m : Ms} (c : CR K H α β m) : ∀ {vs : List V} {ds : List D}, Rps K H α β vs ds → Rvs K H α β vs (ds.map (dr m))
  | _, _, .nil => .nil
  | _, _, .cons a r => .cons (Rv.of c a) (Rvs.of c r)
def CalS (L : Lc) (r : List V → Hp → VK → Prop) (o : List D → Ms → R D) : Prop := ∀ (W : WX) (H : Hp) (α β : List Addr) (σ : St) (σd : Sd) (m : Ms) (vs : List V) (ds : List D) (Q : VK), SR L.K H α β σ σd m → Rvs L.K H α β vs ds →
  PostR L W (relV L) σ σd H α β Q (o ds m) → r vs H Q
def xCalB (o : List D → Ms → R D) (f : Fn (List D)) : Fn D := fun σ m => (f σ m).bind fun ds m1 => o (ds.map (dr m1)) m1
theorem cal_core {L : Lc} {r : List V → Hp → VK → Prop} {o : List D → Ms → R D} (cs : CalS L r o) {f : Fn (List D)} {n : Nat} {W : WX} {σ : St} {H : Hp} {Q : VK} (h : tS L W (relV L) (xCalB o f) σ H Q) : tCB r (tS L W (relN L n) f) σ H Q := by
  obtain ⟨α, β, σd, m, s, q⟩ := h
  unfold xCalB at q
  cases e : f σd m with
  | bad => rw [e] at q; exact q.elim
  | ex x m1 =>
    rw [e] at q
    refine ⟨α, β, σd, m, s, ?_⟩
    rw [e]
    exact q
  | ok ds m1 =>
    rw [e] at q
    refine ⟨α, β, σd, m, s, ?_⟩
    rw [e]
    exact fun vs H1 α1 e1 s1 r1 => cs W H1 α1 β σ σd m1 vs _ Q s1 (Rvs.of s1.cr r1.1) (q.ext e1)
section
variable {L : Lc} {r : List V → Hp → VK → Prop} {o : List D → Ms → R D} {id T : String} {x : Str} {e : Expr} {es : List Expr} {f : Fn (List D)} {p pos : Pos}
theorem se_callB (hc : ∀ W X, Ok L W X → CallR X (.builtin id) r) (cs : CalS L r o) (hg : L.sc.names.lookup x = some .globalImplicit) (hm : L.mg x = none) (hv : bootBuiltins x = some (.builtin id)) (ha : SAs L (e :: es) f) (hn : x ≠ "__name__" := by decide) (hdb : (x == ("__debug__" : Str)) = false := by decide)
    (he : ∀ env, starEach (e :: es) env = (false, eval e env) :: starEach es env := by intro _; rfl) (hpl : ∀ env, (backTo pos (starEach es env)).any (·.1) = false := by intro _; rfl) : SE L (.Call (.Name x p) (e :: es) [] pos) (xCalB o f) := fun W X h =>
  PEi (pe_callB (hc W X h) (by unfold Gl Env.kindOf; rw [h.sc]; exact hg) (by rw [h.mg]; exact hm) hv (ha W X h) hn hdb (he _) (hpl _)) fun σ H Q q => cal_core cs q
theorem se_callTy (hc : ∀ W X, Ok L W X → CallR X (.type T) r) (cs : CalS L r o) (hg : L.sc.names.lookup x = some .globalImplicit) (hm : L.mg x = none) (hv : bootBuiltins x = some (.type T)) (ha : SAs L (e :: es) f) (hn : x ≠ "__name__" := by decide) (hdb : (x == ("__debug__" : Str)) = false := by decide)
    (he : ∀ env, starEach (e :: es) env = (false, eval e env) :: starEach es env := by intro _; rfl) (hpl : ∀ env, (backTo pos (starEach es env)).any (·.1) = false := by intro _; rfl) : SE L (.Call (.Name x p) (e :: es) [] pos) (xCalB o f) := fun W X h =>
  PEi (pe_callTy (hc W X h) (by unfold Gl Env.kindOf; rw [h.sc]; exact hg) (by rw [h.mg]; exact hm) hv (ha W X h) hn hdb (he _) (hpl _)) fun σ H Q q => cal_core cs q
end
def bLen : List D → Ms → R D
  | [.lst ds], m => .ok (.int (ds.length : Nat)) m
  | [.tup ds], m => .ok (.int (ds.length : Nat)) m
  | [.lck ds], m => .ok (.int (ds.length : Nat)) m
  | [.str x], m => if x.length ≤ 100000 then .ok (.int (x.length : Nat)) m else .bad
  | _, _ => .bad
def bAbs : List D → Ms → R D
  | [.int i], m => .ok (.int (if i < 0 then -i else i)) m
  | _, _ => .bad
def bMax : List D → Ms → R D
  | [.int i, .int j], m => .ok (.int (if j > i then j else i)) m
  | _, _ => .bad
def bList : List D → Ms → R D
  | [.lst ds], m => .ok (.lst ds) m
  | [.tup ds], m => .ok (.lst ds) m
  | [.lck ds], m => .ok (.lst ds) m
  | _, _ => .bad
def bTup : List D → Ms → R D
  | [.lst ds], m => .ok (.tup ds) m
  | [.tup ds], m => .ok (.tup ds) m
  | [.lck ds], m => .ok (.tup ds) m
  | _, _ => .bad
def boolsOf : List D → Option (List Bool)
  | [] => some []
  | .bl b :: ds => (boolsOf ds).map (b :: ·)
  | _ :: _ => none
def intsOf : List D → Option (List Int)
  | [] => some []
  | .int b :: ds => (intsOf ds).map (b :: ·)
  | _ :: _ => none
def strsOf : List D → Option (List Str)
  | [] => some []
  | .str b :: ds => (strsOf ds).map (b :: ·)
  | _ :: _ => none
def bAll : List D → Ms → R D
  | [.lst ds], m => match boolsOf ds with
    | some bs => .ok (.bl (bs.all id)) m
    | none => .bad
  | _, _ => .bad
theorem bools_rep {K : KK} {G : Hp} {α : List Addr} : ∀ {vs : List V} {ds : List D} {bs : List Bool}, Reps K G α vs ds → boolsOf ds = some bs → vs = bs.map V.bl
  | _, _, _, .nil, e => by cases e; rfl
  | _, _, bs, .cons (v := v) (d := d) (vs := vs) (ds := ds) a r, e => by
    cases a <;> first | (cases e; done) | skip
    unfold boolsOf at e
    cases q : boolsOf ds with
    | none => rw [q] at e; cases e
    | some cs => rw [q] at e; cases e; rw [bools_rep r q]; rfl
theorem strs_rep {K : KK} {G : Hp} {α : List Addr} : ∀ {vs : List V} {ds : List D} {bs : List Str}, Reps K G α vs ds → strsOf ds = some bs → vs = bs.map V.str
  | _, _, _, .nil, e => by cases e; rfl
  | _, _, bs, .cons (v := v) (d := d) (vs := vs) (ds := ds) a r, e => by
    cases a <;> first | (cases e; done) | skip
    unfold strsOf at e
    cases q : strsOf ds with
    | none => rw [q] at e; cases e
    | some cs => rw [q] at e; cases e; rw [strs_rep r q]; rfl
/-- the one argument is a list or a tuple -/
theorem seq_of {K : KK} {H : Hp} {α β : List Addr} {v : V} {ds : List D} : (Rv K H α β v (.lst ds) ∨ Rv K H α β v (.tup ds) ∨ Rv K H α β v (.lck ds)) → ∃ a vs, v = .ref a ∧ (SqL K H a vs ∨ SqT K H a vs) ∧ Rps K H α β vs ds
  | .inl (.lst h r) => ⟨_, _, rfl, .inl (.inl (.inl h)), r⟩
  | .inr (.inl (.tup h r)) => ⟨_, _, rfl, .inr (sqt_mono hid_sub h), r⟩
  | .inr (.inr (.lck h r)) => ⟨_, _, rfl, .inl h, r⟩
section
variable {L : Lc}
theorem calB_len : CalS L (fun xs H Q => (∃ p ys, xs = [.ref p] ∧ (SqL L.K H p ys ∨ SqT L.K H p ys) ∧ Q (.int ys.length) H) ∨ ∃ z, xs = [.str z] ∧ z.length ≤ sizeLine ∧ Q (.int z.length) H) bLen := by
  intro W H α β σ σd m vs ds Q s r q
  cases r with
  | nil => exact q.elim
  | cons a r =>
    cases r with
    | cons b r => cases a <;> exact q.elim
    | nil =>
      have key : ∀ {v : V} {ds : List D}, (Rv L.K H α β v (.lst ds) ∨ Rv L.K H α β v (.tup ds) ∨ Rv L.K H α β v (.lck ds)) → PostR L W (relV L) σ σd H α β Q (.ok (.int (ds.length : Nat)) m) → ∃ p ys, [v] = [V.ref p] ∧ (SqL L.K H p ys ∨ SqT L.K H p ys) ∧ Q (.int ys.length) H := fun h q => by
        obtain ⟨a, vs, rfl, h1, h2⟩ := seq_of h
        refine ⟨a, vs, rfl, h1, ?_⟩
        rw [h2.length]
        exact q _ H α Ext.refl s .int
      cases a with
      | lst h r => exact .inl (key (.inl (.lst h r)) q)
      | tup h r => exact .inl (key (.inr (.inl (.tup h r))) q)
      | lck h r => exact .inl (key (.inr (.inr (.lck h r))) q)
      | str =>
        obtain ⟨hz, q⟩ := if_elim q
        exact .inr ⟨_, rfl, Evl.sz_of hz, q _ H α Ext.refl s .int⟩
      | non => exact q.elim
      | bl => exact q.elim
      | int => exact q.elim
      | ins _ _ _ => exact q.elim
      | dct => exact q.elim
      | fn => exact q.elim
theorem calB_abs : CalS L (fun xs H Q => ∃ i, xs = [.int i] ∧ Q (.int (if i < 0 then -i else i)) H) bAbs := by
  intro W H α β σ σd m vs ds Q s r q
  cases r with
  | nil => exact q.elim
  | cons a r =>
    cases r with
    | cons b r => cases a <;> exact q.elim
    | nil => cases a <;> first | exact q.elim | exact ⟨_, rfl, q _ H α Ext.refl s .int⟩
theorem calB_max : CalS L (fun xs H Q => ∃ i j, xs = [.int i, .int j] ∧ Q (.int (if j > i then j else i)) H) bMax := by
  intro W H α β σ σd m vs ds Q s r q
  cases r with
  | nil => exact q.elim
  | cons a r =>
    cases r with
    | nil => cases a <;> exact q.elim
    | cons b r =>
      cases r with
      | cons c r => cases a <;> first | exact q.elim | (cases b <;> exact q.elim)
      | nil => cases a <;> first | exact q.elim | (cases b <;> first | exact q.elim | exact ⟨_, _, rfl, q _ H α Ext.refl s .int⟩)
theorem calB_list : CalS L (fun xs H Q => ∃ p ys, xs = [.ref p] ∧ (SqL L.K H p ys ∨ SqT L.K H p ys) ∧ ∀ l, H l = none → Q (.ref l) (upd H l (.lst ys))) bList := by
  intro W H α β σ σd m vs ds Q s r q
  have key : ∀ {v : V} {ds : List D}, (Rv L.K H α β v (.lst ds) ∨ Rv L.K H α β v (.tup ds) ∨ Rv L.K H α β v (.lck ds)) → PostR L W (relV L) σ σd H α β Q (.ok (.lst ds) m) → ∃ p ys, [v] = [V.ref p] ∧ (SqL L.K H p ys ∨ SqT L.K H p ys) ∧ ∀ l, H l = none → Q (.ref l) (upd H l (.lst ys)) := fun h q => by
    obtain ⟨a, vs, rfl, h1, h2⟩ := seq_of h
    refine ⟨a, vs, rfl, h1, fun l hl => ?_⟩
    obtain ⟨h3, h4⟩ := lay_lst s hl h2
    exact q _ _ α (Ext.lay hl) h3 h4
  cases r with
  | nil => exact q.elim
  | cons a r =>
    cases r with
    | cons b r => cases a <;> exact q.elim
    | nil =>
      cases a with
      | lst h r => exact key (.inl (.lst h r)) q
      | tup h r => exact key (.inr (.inl (.tup h r))) q
      | lck h r => exact key (.inr (.inr (.lck h r))) q
      | str => exact q.elim
      | non => exact q.elim
      | bl => exact q.elim
      | int => exact q.elim
      | ins _ _ _ => exact q.elim
      | dct => exact q.elim
      | fn => exact q.elim
theorem calB_tup : CalS L (fun xs H Q => ∃ p ys, xs = [.ref p] ∧ ((SqL L.K H p ys ∧ ∀ l, H l = none → Q (.ref l) (upd H l (.tup ys))) ∨ (SqT L.K H p ys ∧ Q (.ref p) H))) bTup := by
  intro W H α β σ σd m vs ds Q s r q
  have key : ∀ {a : Addr} {vs : List V} {ds : List D}, SqL L.K H a vs → Rps L.K H α β vs ds → PostR L W (relV L) σ σd H α β Q (.ok (.tup ds) m) → ∃ p ys, [V.ref a] = [V.ref p] ∧ ((SqL L.K H p ys ∧ ∀ l, H l = none → Q (.ref l) (upd H l (.tup ys))) ∨ (SqT L.K H p ys ∧ Q (.ref p) H)) := fun {a vs ds} h r q => by
    refine ⟨a, vs, rfl, .inl ⟨h, fun l hl => ?_⟩⟩
    obtain ⟨h3, h4⟩ := lay_tup s hl r
    exact q _ _ α (Ext.lay hl) h3 h4
  cases r with
  | nil => exact q.elim
  | cons a r =>
    cases r with
    | cons b r => cases a <;> exact q.elim
    | nil =>
      cases a with
      | lst h r => exact key (.inl (.inl h)) r q
      | tup h r => exact ⟨_, _, rfl, .inr ⟨sqt_mono hid_sub h, q _ H α Ext.refl s (.tup h r)⟩⟩
      | lck h r => exact key h r q
      | str => exact q.elim
      | non => exact q.elim
      | bl => exact q.elim
      | int => exact q.elim
      | ins _ _ _ => exact q.elim
      | dct => exact q.elim
      | fn => exact q.elim
theorem calB_all : CalS L (rAll L.K) bAll := by
  intro W H α β σ σd m vs ds Q s r q
  cases r with
  | nil => exact q.elim
  | cons a r =>
    cases r with
    | cons b r => cases a <;> exact q.elim
    | nil =>
      cases a with
      | lst h r =>
        rename_i a vs ds
        cases e : boolsOf ds with
        | none => simp only [bAll, e] at q; exact q.elim
        | some bs =>
          simp only [bAll, e] at q
          exact ⟨a, bs, rfl, by rw [← bools_rep r e]; exact .inl (.inl h), q _ H α Ext.refl s .bl⟩
      | tup h r => exact q.elim
      | lck h r => exact q.elim
      | ins _ _ _ => exact q.elim
      | dct => exact q.elim
      | fn => exact q.elim
      | str => exact q.elim
      | non => exact q.elim
      | bl => exact q.elim
      | int => exact q.elim
end
section
variable {L : Lc} {e : Expr} {es : List Expr} {f : Fn (List D)} {p pos : Pos}
variable (he : ∀ env, starEach (e :: es) env = (false, eval e env) :: starEach es env := by intro _; rfl) (hpl : ∀ env, (backTo pos (starEach es env)).any (·.1) = false := by intro _; rfl)
theorem se_len (hg : Glb L "len") (hm : L.mg "len" = none) (ha : SAs L (e :: es) f) (he : ∀ env, starEach (e :: es) env = (false, eval e env) :: starEach es env := by intro _; rfl) (hpl : ∀ env, (backTo pos (starEach es env)).any (·.1) = false := by intro _; rfl) : SE L (.Call (.Name "len" p) (e :: es) [] pos) (xCalB bLen f) :=
  se_callB (fun W X h => by rw [← h.K]; exact call_len_seq.or call_len_str) calB_len hg hm PySem.boot_len ha (by decide) (by decide) he hpl
theorem se_abs (hg : Glb L "abs") (hm : L.mg "abs" = none) (ha : SAs L (e :: es) f) (he : ∀ env, starEach (e :: es) env = (false, eval e env) :: starEach es env := by intro _; rfl) (hpl : ∀ env, (backTo pos (starEach es env)).any (·.1) = false := by intro _; rfl) : SE L (.Call (.Name "abs" p) (e :: es) [] pos) (xCalB bAbs f) :=
  se_callB (fun W X h => call_abs) calB_abs hg hm (by decide +kernel) ha (by decide) (by decide) he hpl
theorem se_max (hg : Glb L "max") (hm : L.mg "max" = none) (ha : SAs L (e :: es) f) (he : ∀ env, starEach (e :: es) env = (false, eval e env) :: starEach es env := by intro _; rfl) (hpl : ∀ env, (backTo pos (starEach es env)).any (·.1) = false := by intro _; rfl) : SE L (.Call (.Name "max" p) (e :: es) [] pos) (xCalB bMax f) :=
  se_callB (fun W X h => call_max2 h.calm) calB_max hg hm (by decide +kernel) ha (by decide) (by decide) he hpl
theorem se_all (hg : Glb L "all") (hm : L.mg "all" = none) (ha : SAs L (e :: es) f) (he : ∀ env, starEach (e :: es) env = (false, eval e env) :: starEach es env := by intro _; rfl) (hpl : ∀ env, (backTo pos (starEach es env)).any (·.1) = false := by intro _; rfl) : SE L (.Call (.Name "all" p) (e :: es) [] pos) (xCalB bAll f) :=
  se_callB (fun W X h => by rw [← h.K]; exact cr_all h.calm) calB_all hg hm (by decide +kernel) ha (by decide) (by decide) he hpl
theorem se_list (hg : Glb L "list") (hm : L.mg "list" = none) (ha : SAs L (e :: es) f) (he : ∀ env, starEach (e :: es) env = (false, eval e env) :: starEach es env := by intro _; rfl) (hpl : ∀ env, (backTo pos (starEach es env)).any (·.1) = false := by intro _; rfl) : SE L (.Call (.Name "list" p) (e :: es) [] pos) (xCalB bList f) :=
  se_callTy (fun W X h => by rw [← h.K]; exact call_list_of) calB_list hg hm (by decide +kernel) ha (by decide) (by decide) he hpl
theorem se_tuple (hg : Glb L "tuple") (hm : L.mg "tuple" = none) (ha : SAs L (e :: es) f) (he : ∀ env, starEach (e :: es) env = (false, eval e env) :: starEach es env := by intro _; rfl) (hpl : ∀ env, (backTo pos (starEach es env)).any (·.1) = false := by intro _; rfl) : SE L (.Call (.Name "tuple" p) (e :: es) [] pos) (xCalB bTup f) :=
  se_callTy (fun W X h => by rw [← h.K]; exact call_tuple_of) calB_tup hg hm (by decide +kernel) ha (by decide) (by decide) he hpl
end
/-! ## slices -/
def cutL {κ : Type} (xs : List κ) (lo hi : Option Int) : List κ := (xs.drop (HT.sIx xs.length 0 lo)).take (HT.sIx xs.length xs.length hi - HT.sIx xs.length 0 lo)
theorem cut_rep {K : KK} {G : Hp} {α : List Addr} {vs : List V} {ds : List D} (r : Reps K G α vs ds) (lo hi : Option Int) : Reps K G α (cutV vs lo hi) (cutL ds lo hi) := by
  unfold cutV cutL
  rw [r.length]
  exact (r.drop _).take _
def oSl (x : D) (lo hi : Option Int) (m : Ms) : R D := match x with
  | .lst ds => .ok (.lst (cutL ds lo hi)) m
  | .lck ds => .ok (.lst (cutL ds lo hi)) m
  | .tup ds => .ok (.tup (cutL ds lo hi)) m
  | .str z => if z.length ≤ 100000 then .ok (.str (cutS z lo hi)) m else .bad
  | _ => .bad
def xNoP : Fn (Option Int) := fun _ m => .ok none m
def xPart (f : Fn D) : Fn (Option Int) := fun σ m => (f σ m).bind fun d m1 => match d with
  | .int i => .ok (some i) m1
  | _ => .bad
def xSl (a : Fn D) (lo hi : Fn (Option Int)) : Fn D := fun σ m => (a σ m).bind fun x m1 => (lo σ m1).bind fun l m2 => (hi σ m2).bind fun u m3 => oSl (dr m3 x) l u m3
def SO (L : Lc) (e : Option Expr) (f : Fn (Option Int)) : Prop := ∀ W X, Ok L W X → PO X e (tS L W relB f)
theorem POi {X : Cx} {e : Option Expr} {t t' : TO} (h : PO X e t) (k : ∀ σ H Q, t' σ H Q → t σ H Q) : PO X e t' := ⟨fun pins s σ H Q I q => h.run pins s σ H Q I (k _ _ _ q)⟩
section
variable {L : Lc}
theorem so_none : SO L none xNoP := fun W X h => POi po_none fun σ H Q ⟨α, β, σd, m, s, q⟩ => q none H α Ext.refl s rfl
theorem so_some {e : Expr} {f : Fn D} (he : SE L e f) : SO L (some e) (xPart f) := fun W X h => POi (po_some (he W X h)) fun σ H Q ⟨α, β, σd, m, s, q⟩ => ⟨α, β, σd, m, s, q.mp (rel' := relV L) fun d m1 v H1 α1 e1 s1 r1 q => by
  cases r1 <;> first | exact q.elim | exact ⟨_, rfl, q _ H1 α1 Ext.refl s1 rfl⟩⟩
theorem sl_any {X : Cx} : SlR X (fun x lo hi H Q => rSlL X.K x lo hi H Q ∨ (rSlA X.K x lo hi H Q ∨ rSlS x lo hi H Q)) := sl_list.or (sl_tupA.or sl_str)
theorem se_slice {e : Expr} {lo hi : Option Expr} {f : Fn D} {fl fh : Fn (Option Int)} {p2 pos : Pos} (he : SE L e f) (hl : SO L lo fl) (hh : SO L hi fh) : SE L (.Subscript e (.Slice lo hi none p2) pos) (xSl f fl fh) := fun W X h =>
  PEi (pe_slice sl_any (he W X h) (hl W X h) (hh W X h)) fun σ H Q ⟨α, β, σd, m, s, q⟩ => by
  refine ⟨α, β, σd, m, s, q.mp fun d m1 v H1 α1 e1 s1 r1 q => ⟨α1, β, σd, m1, s1, q.mp (rel' := relB) fun l m2 l' H2 α2 e2 s2 r2 q => ⟨α2, β, σd, m2, s2, q.mp (rel' := relB) fun u m3 u' H3 α3 e3 s3 r3 q => ?_⟩⟩⟩
  obtain rfl : l' = l := r2
  obtain rfl : u' = u := r3
  have rv := Rv.of s3.cr (r1.ext (e2.trans e3))
  rw [h.K]
  generalize dr m3 d = d' at rv q
  cases rv with
  | lst hh r =>
    refine .inl ⟨_, _, rfl, .inl (.inl hh), fun p hp => ?_⟩
    obtain ⟨h3, h4⟩ := lay_lst s3 hp (cut_rep r l' u')
    exact q _ _ _ (Ext.lay hp) h3 h4
  | lck hh r =>
    refine .inl ⟨_, _, rfl, hh, fun p hp => ?_⟩
    obtain ⟨h3, h4⟩ := lay_lst s3 hp (cut_rep r l' u')
    exact q _ _ _ (Ext.lay hp) h3 h4
  | tup hh r =>
    rename_i a vs ds
    refine .inr (.inl ⟨_, _, rfl, sqt_mono hid_sub hh, fun z => ?_, fun _ p hp => ?_⟩)
    · have hc : cutL ds l' u' = ds := by
        unfold cutL
        rw [r.length] at z
        rw [z.1, z.2]
        simp
      have q' : ∀ v H1 α1, Ext H3 α3 H1 α1 → SR L.K H1 α1 β σ σd m3 → Rp L.K H1 α1 β v (.tup (cutL ds l' u')) → Q v H1 := q
      rw [hc] at q'
      exact q' _ H3 α3 Ext.refl s3 (.tup hh r)
    · obtain ⟨h3, h4⟩ := lay_tup s3 hp (cut_rep r l' u')
      exact q _ _ _ (Ext.lay hp) h3 h4
  | str =>
    obtain ⟨hz, q⟩ := if_elim q
    exact .inr (.inr ⟨_, rfl, Evl.sz_of hz, q _ H3 α3 Ext.refl s3 .str⟩)
  | non => exact q.elim
  | bl => exact q.elim
  | int => exact q.elim
  | ins _ _ _ => exact q.elim
  | dct => exact q.elim
  | fn => exact q.elim
end
end CT
namespace CT
open PySem L2
/-! ## what is walked -/
section
variable {X : Cx} {tg : Expr}
/-- a list, a tuple or a text: by what the value is -/
def iAny (K : PySem.W.Frag) (tl : TE) : TI := fun σ H R => tl σ H fun x H1 =>
  (∃ a xs, x = .ref a ∧ SqL K H1 a xs ∧ R (Itl K a) H1) ∨ (∃ a xs, x = .ref a ∧ SqT K H1 a xs ∧ R (Itt K a) H1) ∨ ∃ z, x = .str z ∧ R (Its z) H1
theorem pi_any {l : Expr} {tl : TE} (hl : PE X l tl) : PI X tg l (iAny X.K tl) := by
  constructor
  intro pins s σ H R I h
  refine thn (hl.run pins s σ H _ I h) ?_
  rintro v s1 ⟨x, H1, I1, r1, q⟩
  rcases q with ⟨a, xs, rfl, hq, q⟩ | ⟨a, xs, rfl, hq, q⟩ | ⟨z, rfl, q⟩
  · cases r1
    obtain ⟨its, _, p, _⟩ := I1.list hq
    refine wpAny_pyIter_list p.isList (pi_one (tk := s1.toks) I1 _ (turn_list a _) ?_ q)
    exact ⟨_, Heap.get?_push_size _ rfl, rfl, rfl⟩
  · cases r1
    obtain ⟨its, _, p, _⟩ := I1.tuple hq
    have p' : s1.heap.IsTuple a its.toArray := p
    refine wpAny_pyIter_tuple p' (pi_one (tk := s1.toks) I1 _ (turn_tuple a _) ?_ q)
    exact ⟨_, Heap.get?_push_size _ rfl, rfl, rfl⟩
  · obtain ⟨t, rfl⟩ := r1
    cases ha : z.cps.all (· < 128) with
    | false =>
      refine wpAny_pyIter_wide ha (pi_one (tk := s1.toks) I1 _ (turn_str _ z t "str_iterator" (.inr rfl)) ?_ q)
      exact ⟨_, Heap.get?_push_size _ rfl, rfl, rfl⟩
    | true =>
      refine wpAny_pyIter_ascii ha (pi_one (tk := s1.toks) I1 _ (turn_str _ z t "str_ascii_iterator" (.inl rfl)) ?_ q)
      exact ⟨_, Heap.get?_push_size _ rfl, rfl, rfl⟩
end
def charsD (z : Str) : List D := z.cps.toList.map fun c => .str ⟨#[c]⟩
theorem itd_str {L : Lc} {H : Hp} {α β : List Addr} {z : Str} : ItD L H α β (charsD z) (Its z) := fun H1 α1 β1 m1 x c => by
  refine ⟨by simp [charsD, Its], fun i d e => ?_⟩
  unfold charsD at e
  rw [List.getElem?_map] at e
  cases q : z.cps.toList[i]? with
  | none => rw [q] at e; cases e
  | some cc =>
    rw [q] at e
    cases e
    have hi : i < z.cps.size := by have := (List.getElem?_eq_some_iff.mp q).1; simpa using this
    refine ⟨hi, fun y H2 w => ?_⟩
    obtain ⟨rfl, c2, h2, rfl⟩ := w
    have : c2 = cc := by
      rw [Array.getElem?_toList] at q
      rw [h2] at q
      exact Option.some.inj q
    subst this
    exact ⟨Ext.refl, c, .str⟩
def xIt (f : Fn D) : Fn (List D) := fun σ m => (f σ m).bind fun d m1 => match d with
  | .lst ds => .ok ds m1
  | .tup ds => .ok ds m1
  | .lck ds => .ok ds m1
  | .str z => .ok (charsD z) m1
  | _ => .bad
theorem itd_lck {L : Lc} {H : Hp} {α β : List Addr} {a : Addr} {vs : List V} {ds : List D} (h : SqL L.K (hid H (α ++ β)) a vs) (r : Rps L.K H α β vs ds) : ItD L H α β ds (Itl L.K a) := fun H1 α1 β1 m1 x c => by
  have hs : SqL L.K H1 a vs := sql_mono hid_sub (sql_mono x.h h)
  refine ⟨⟨vs, hs, by rw [r.length]; exact Nat.le_refl _⟩, fun i d e => ?_⟩
  obtain ⟨v, h1, h2⟩ := r.get e
  refine ⟨⟨vs, v, hs, h1⟩, fun y H2 z => ?_⟩
  obtain ⟨rfl, z⟩ := z
  have := z vs hs
  rw [h1] at this
  cases this
  exact ⟨Ext.refl, c, x.rep h2⟩
section
variable {L : Lc} {tg : Expr}
theorem si_any {e : Expr} {f : Fn D} (he : SE L e f) : SI L tg e (xIt f) := fun W X h => PIi (pi_any (he W X h)) fun σ H R ⟨α, β, σd, m, s, q⟩ => by
  refine ⟨α, β, σd, m, s, q.mp fun d m1 v H1 α1 e1 s1 r1 q => ?_⟩
  rw [h.K]
  cases r1 with
  | lst hh r => exact .inl ⟨_, _, rfl, .inl (.inl (hid_of hh).1), q _ H1 α1 Ext.refl s1 (itd_list hh r)⟩
  | lck hh r => exact .inl ⟨_, _, rfl, sql_mono hid_sub hh, q _ H1 α1 Ext.refl s1 (itd_lck hh r)⟩
  | tup hh r => exact .inr (.inl ⟨_, _, rfl, sqt_mono hid_sub hh, q _ H1 α1 Ext.refl s1 (itd_tup hh r)⟩)
  | str => exact .inr (.inr ⟨_, rfl, q _ H1 α1 Ext.refl s1 itd_str⟩)
  | non => exact q.elim
  | bl => exact q.elim
  | int => exact q.elim
  | cel _ => exact q.elim
  | ins _ _ _ => exact q.elim
  | dct => exact q.elim
  | fn => exact q.elim
  | tpl => exact q.elim
/-- range(n), range(a, b): not so long -/
def xRng1 (f : Fn D) : Fn (List D) := fun σ m => (f σ m).bind fun d m1 => match d with
  | .int j => if -100000 ≤ j ∧ j ≤ 100000 then .ok (rngD 0 j.toNat) m1 else .bad
  | _ => .bad
theorem if_elimI {W : WX} {σ : St} {σd : Sd} {H : Hp} {α β : List Addr} {υ δ : Type} {rel : Hp → List Addr → List Addr → υ → δ → Prop} {Q : υ → Hp → Prop} {c : Prop} [Decidable c] {r : R δ} (h : PostR L W rel σ σd H α β Q (if c then r else .bad)) : c ∧ PostR L W rel σ σd H α β Q r := by
  split at h
  · exact ⟨by assumption, h⟩
  · exact h.elim
theorem si_rng1 {a : Expr} {f : Fn D} {p pos : Pos} (hg : Glb L "range") (hm : L.mg "range" = none) (ha : SE L a f) (hs : ∀ env, starEach [a] env = (false, eval a env) :: starEach [] env := by intro _; rfl) : SI L tg (.Call (.Name "range" p) [a] [] pos) (xRng1 f) := fun W X h =>
  PIi (pi_range1 (by unfold Gl Env.kindOf; rw [h.sc]; exact hg) (by rw [h.mg]; exact hm) (pa_cons (ha W X h) pa_nil (hs _)) (hs _)) fun σ H R ⟨α, β, σd, m, s, q⟩ => by
  refine ⟨α, β, σd, m, s, q.mp (rel' := relV L) fun d m1 v H1 α1 e1 s1 r1 q => ?_⟩
  cases r1 with
  | int =>
    obtain ⟨⟨z1, z2⟩, q⟩ := if_elimI q
    exact ⟨_, rfl, by omega, by omega, q _ H1 α1 Ext.refl s1 itd_rng⟩
  | non => exact q.elim
  | bl => exact q.elim
  | str => exact q.elim
  | tup _ _ => exact q.elim
  | lst _ _ => exact q.elim
  | cel _ => exact q.elim
  | lck _ _ => exact q.elim
  | ins _ _ _ => exact q.elim
  | dct => exact q.elim
  | fn => exact q.elim
  | tpl => exact q.elim
def enumD : Nat → List D → List D
  | _, [] => []
  | i, d :: ds => .tup [.int (i : Nat), d] :: enumD (i + 1) ds
theorem enumD_length : ∀ (k : Nat) (ds : List D), (enumD k ds).length = ds.length
  | _, [] => rfl
  | k, _ :: ds => by rw [enumD, List.length_cons, enumD_length (k + 1) ds, List.length_cons]
theorem enumD_get : ∀ (k i : Nat) (ds : List D), (enumD k ds)[i]? = (ds[i]?).map fun d => .tup [.int ((k + i : Nat) : Int), d]
  | _, _, [] => by simp [enumD]
  | k, 0, d :: ds => by simp [enumD]
  | k, i + 1, d :: ds => by
    rw [enumD, List.getElem?_cons_succ, List.getElem?_cons_succ, enumD_get (k + 1) i ds]
    have : k + 1 + i = k + (i + 1) := by omega
    rw [this]
theorem itd_enum {H : Hp} {α β : List Addr} {a : Addr} {vs : List V} {ds : List D} (h : SqL L.K (hid H (α ++ β)) a vs) (r : Rps L.K H α β vs ds) : ItD L H α β (enumD 0 ds) (Ite L.K a) := fun H1 α1 β1 m1 x c => by
  have hs : SqL L.K H1 a vs := sql_mono hid_sub (sql_mono x.h h)
  refine ⟨⟨vs, hs, by rw [enumD_length, r.length]; exact Nat.le_refl _⟩, fun i d e => ?_⟩
  rw [enumD_get] at e
  cases q : ds[i]? with
  | none => rw [q] at e; cases e
  | some d' =>
    rw [q] at e
    cases e
    obtain ⟨v, h1, h2⟩ := r.get q
    refine ⟨⟨vs, v, hs, h1⟩, fun y H2 z => ?_⟩
    obtain ⟨T, w, rfl, hT, rfl, z⟩ := z
    have := z vs hs
    rw [h1] at this
    cases this
    refine ⟨Ext.lay hT, c.lay hT, .tup (.inl (.inl (hid_mk upd_same (c.freshB hT)))) (.cons ?_ (.cons (Rep.ext (x.rep h2) (Ext.lay hT)) .nil))⟩
    rw [Nat.zero_add]
    exact .int
def xEnum (f : Fn D) : Fn (List D) := fun σ m => (f σ m).bind fun d m1 => match d with
  | .lst ds => .ok (enumD 0 ds) m1
  | .lck ds => .ok (enumD 0 ds) m1
  | _ => .bad
end
/-! ## isinstance -/
def tyN : D → String
  | .non => "NoneType"
  | .bl _ => "bool"
  | .int _ => "int"
  | .str _ => "str"
  | .tup _ => "tuple"
  | .lst _ => "list"
  | .lck _ => "list"
  | .cel _ => "list"
  | .ins _ _ _ => "object"
  | .dct _ _ => "dict"
  | .fn _ => "function"
  | .tpl _ => "tuple"
def tyI (a T : String) : Bool := a == T || (a == "bool" && T == "int")
def tyNs : List String := ["NoneType", "bool", "int", "str", "tuple", "list"]
theorem kit_tab : ∀ a ∈ tyNs, ∀ T ∈ tyNs.tail, kitB a T = some (tyI a T) := by decide +kernel
def noI : D → Bool
  | .ins _ _ _ => false
  | .dct _ _ => false
  | .fn _ => false
  | _ => true
theorem tyN_mem (d : D) (h : noI d = true) : tyN d ∈ tyNs := by cases d <;> first | (cases h; done) | simp [tyN, tyNs]
def isK (T : String) (d : D) : Bool := tyI (tyN d) T
theorem Rv.ty {K : KK} {H : Hp} {α β : List Addr} {v : V} {d : D} (r : Rv K H α β v d) (hI : noI d = true) : TyX K H v (.type (tyN d)) := by
  cases r with
  | ins _ _ _ => cases hI
  | dct => cases hI
  | fn => cases hI
  | non => exact .base .non
  | bl => exact .base (.bl _)
  | int => exact .base (.int _)
  | str => exact .base (.str _)
  | tup h r =>
    rcases sqt_mono hid_sub h with (h | ⟨o, h⟩) | ⟨o, its, n, h1, h2, h3, _⟩
    · exact .base (.tup h)
    · exact .fTuple h
    · exact .kTuple h1 h2
  | lst h r => exact .base (.lst h)
  | lck h r =>
    rcases h with (h | ⟨o, h⟩) | ⟨o, its, n, h1, h2, _, h3, _⟩
    · exact .base (.lst h)
    · exact .base (.frz h)
    · exact .kList h1 h2
def xIsi (T : String) (f : Fn D) : Fn D := fun σ m => (f σ m).bind fun d m1 => if noI (dr m1 d) = true then .ok (.bl (isK T (dr m1 d))) m1 else .bad
/-- two kinds asked at once -/
def xIsi2 (T U : String) (f : Fn D) : Fn D := fun σ m => (f σ m).bind fun d m1 => if noI (dr m1 d) = true then .ok (.bl (isK T (dr m1 d) || isK U (dr m1 d))) m1 else .bad
section
variable {L : Lc}
theorem se_isi {e : Expr} {f : Fn D} {T : Str} {Ts : String} {p p2 pos : Pos} (hg : Glb L "isinstance") (hm : L.mg "isinstance" = none) (hgT : Glb L T) (hmT : L.mg T = none) (hv : bootBuiltins T = some (.type Ts)) (hT : Ts ∈ tyNs.tail) (he : SE L e f) (hn : T ≠ "__name__" := by decide) (hdb : (T == ("__debug__" : Str)) = false := by decide)
    (hs : ∀ env, starEach [e, .Name T p2] env = (false, eval e env) :: starEach [.Name T p2] env := by intro _; rfl) : SE L (.Call (.Name "isinstance" p) [e, .Name T p2] [] pos) (xIsi Ts f) := fun W X h => by
  have ht : PE X (.Name T p2) (tC (.ty Ts)) := pe_bltn (by unfold Gl Env.kindOf; rw [h.sc]; exact hgT) (by rw [h.mg]; exact hmT) hv rfl hn hdb
  refine PEi (pe_callB call_isi (by unfold Gl Env.kindOf; rw [h.sc]; exact hg) (by rw [h.mg]; exact hm) PyProof.Rows.boot_isinstance (pa_cons (he W X h) (pa_cons ht pa_nil) (hs _)) (by decide) (by decide) (hs _)) fun σ H Q ⟨α, β, σd, m, s, q⟩ => ?_
  refine ⟨α, β, σd, m, s, q.mp fun d m1 v H1 α1 e1 s1 r1 q => ?_⟩
  rw [h.K]
  obtain ⟨hI, q⟩ := if_elim q
  exact ⟨v, .ty Ts, _, _, _, rfl, .ty Ts, (Rv.of s1.cr r1).ty hI, kit_ty (kit_tab _ (tyN_mem _ hI) _ hT), q _ H1 α1 Ext.refl s1 .bl⟩
theorem se_isi2 {e : Expr} {f : Fn D} {T U : Str} {Ts Us : String} {p p2 p3 p4 pos : Pos} {kk} (hg : Glb L "isinstance") (hm : L.mg "isinstance" = none) (hgT : Glb L T) (hmT : L.mg T = none) (hv : bootBuiltins T = some (.type Ts)) (hT : Ts ∈ tyNs.tail) (hgU : Glb L U) (hmU : L.mg U = none) (hvU : bootBuiltins U = some (.type Us)) (hU : Us ∈ tyNs.tail) (he : SE L e f)
    (hn : T ≠ "__name__" := by decide) (hdb : (T == ("__debug__" : Str)) = false := by decide) (hnU : U ≠ "__name__" := by decide) (hdbU : (U == ("__debug__" : Str)) = false := by decide)
    (hs : ∀ env, starEach [e, .Tuple [.Name T p2, .Name U p3] kk p4] env = (false, eval e env) :: starEach [.Tuple [.Name T p2, .Name U p3] kk p4] env := by intro _; rfl) : SE L (.Call (.Name "isinstance" p) [e, .Tuple [.Name T p2, .Name U p3] kk p4] [] pos) (xIsi2 Ts Us f) := fun W X h => by
  have ht : PE X (.Name T p2) (tC (.ty Ts)) := pe_bltn (by unfold Gl Env.kindOf; rw [h.sc]; exact hgT) (by rw [h.mg]; exact hmT) hv rfl hn hdb
  have hu : PE X (.Name U p3) (tC (.ty Us)) := pe_bltn (by unfold Gl Env.kindOf; rw [h.sc]; exact hgU) (by rw [h.mg]; exact hmU) hvU rfl hnU hdbU
  refine PEi (pe_callB call_isiT (by unfold Gl Env.kindOf; rw [h.sc]; exact hg) (by rw [h.mg]; exact hm) PyProof.Rows.boot_isinstance (pa_cons (he W X h) (pa_cons (pe_tup (pa_cons ht (pa_cons hu pa_nil))) pa_nil) (hs _)) (by decide) (by decide) (hs _)) fun σ H Q ⟨α, β, σd, m, s, q⟩ => ?_
  refine ⟨α, β, σd, m, s, q.mp fun d m1 v H1 α1 e1 s1 r1 q => ?_⟩
  rw [h.K]
  obtain ⟨hI, q⟩ := if_elim q
  refine ⟨Evl.sz_of (show 2 ≤ 100000 from by decide), fun t ht' => ?_⟩
  have s2 := s1.ext' (Ext.lay ht') (s1.cr.lay (o := .tup [.ty Ts, .ty Us]) ht')
  have r2 := Rv.of s2.cr (r1.ext (Ext.lay ht'))
  refine ⟨v, t, _, _, _, _, rfl, upd_same, .cons (.ty Ts) (.cons (.ty Us) .nil), r2.ty hI, ?_, q _ _ α1 (Ext.lay ht') s2 .bl⟩
  refine kitAny_cons (kit_ty (kit_tab _ (tyN_mem _ hI) _ hT)) (fun z => ?_) (fun z => ?_)
  · refine kitAny_cons (kit_ty (kit_tab _ (tyN_mem _ hI) _ hU)) (fun z2 => ?_) (fun z2 => ?_)
    · show PySem.W.kitAny L.K _ [] = some (isK Ts (dr m1 d) || isK Us (dr m1 d))
      have z' : isK Ts (dr m1 d) = false := z
      have z2' : isK Us (dr m1 d) = false := z2
      rw [z', z2']
      exact kitAny_nil
    · have z2' : isK Us (dr m1 d) = true := z2
      rw [z2', Bool.or_true]
  · have z' : isK Ts (dr m1 d) = true := z
    rw [z', Bool.true_or]
end
end CT
namespace CT
open PySem L2
/-! ## how a call binds -/
/-- where a parameter's value comes from: a positional value, a default, a keyword -/
inductive Src where
  | p (i : Nat) | d (i : Nat) | k (i : Nat)
def Src.get {κ : Type} (us ds ws : List κ) : Src → Option κ
  | .p i => us[i]?
  | .d i => ds[i]?
  | .k i => ws[i]?
def Src.ok (n nd nk : Nat) : Src → Bool
  | .p i => decide (i < n)
  | .d i => decide (i < nd)
  | .k i => decide (i < nk)
def sel {κ : Type} (spec : List Src) (us ds ws : List κ) : List κ := spec.filterMap (Src.get us ds ws)
theorem Src.get_ok {κ : Type} {us ds ws : List κ} {s : Src} (h : s.ok us.length ds.length ws.length = true) : ∃ x, s.get us ds ws = some x := by
  cases s with
  | p i => have : i < us.length := by simpa [Src.ok] using h
           exact ⟨_, List.getElem?_eq_getElem this⟩
  | d i => have : i < ds.length := by simpa [Src.ok] using h
           exact ⟨_, List.getElem?_eq_getElem this⟩
  | k i => have : i < ws.length := by simpa [Src.ok] using h
           exact ⟨_, List.getElem?_eq_getElem this⟩
theorem sel_length {κ : Type} {us ds ws : List κ} : ∀ {spec : List Src}, spec.all (Src.ok us.length ds.length ws.length) = true → (sel spec us ds ws).length = spec.length
  | [], _ => rfl
  | s :: r, h => by
    rw [List.all_cons, Bool.and_eq_true] at h
    obtain ⟨x, e⟩ := Src.get_ok h.1
    have ih := sel_length h.2
    unfold sel at ih ⊢
    rw [List.filterMap_cons, e]
    simp only [List.length_cons, ih]
theorem sel_vals {us ds ws : List V} {us' ds' ws' : List Value} (h1 : Vals us us') (h2 : Vals ds ds') (h3 : Vals ws ws') : ∀ {spec : List Src}, spec.all (Src.ok us.length ds.length ws.length) = true → Vals (sel spec us ds ws) (sel spec us' ds' ws')
  | [], _ => .nil
  | s :: r, h => by
    rw [List.all_cons, Bool.and_eq_true] at h
    obtain ⟨x, e⟩ := Src.get_ok h.1
    have ih := sel_vals h1 h2 h3 h.2
    unfold sel at ih ⊢
    obtain ⟨y, e2, r2⟩ : ∃ y, s.get us' ds' ws' = some y ∧ RelV x y := by
      cases s with
      | p i => exact Vals.get h1 e
      | d i => exact Vals.get h2 e
      | k i => exact Vals.get h3 e
    rw [List.filterMap_cons, List.filterMap_cons, e, e2]
    exact .cons r2 ih
theorem sel_reps {K : KK} {G : Hp} {α : List Addr} {us ds ws : List V} {us' ds' ws' : List D} (h1 : Reps K G α us us') (h2 : Reps K G α ds ds') (h3 : Reps K G α ws ws') : ∀ {spec : List Src}, spec.all (Src.ok us.length ds.length ws.length) = true → Reps K G α (sel spec us ds ws) (sel spec us' ds' ws')
  | [], _ => .nil
  | s :: r, h => by
    rw [List.all_cons, Bool.and_eq_true] at h
    obtain ⟨x, e⟩ := Src.get_ok h.1
    have ih := sel_reps h1 h2 h3 h.2
    unfold sel at ih ⊢
    obtain ⟨y, e2, r2⟩ : ∃ y, s.get us' ds' ws' = some y ∧ Rep K G α x y := by
      cases s with
      | p i => exact Reps.getv h1 e
      | d i => exact Reps.getv h2 e
      | k i => exact Reps.getv h3 e
    rw [List.filterMap_cons, List.filterMap_cons, e, e2]
    exact .cons r2 ih
/-- n positional values, keywords named ks: bound to the parameters ps, in this way -/
structure KB (L : Lc) (fd : FuncData) (ps : List Str) (n : Nat) (ks : List Str) (gD : List D → List D → List D) : Prop where
  ex : ∃ (g : List Value → List Value → List Value) (gV : List V → List V → List V),
    (∀ (s : Shared) (us ws : List Value), L.K.K.In s.heap → us.length = n → ws.length = ks.length → BindsTo s fd ⟨us, ks.zip ws⟩ (ps.zip (g us ws))) ∧
    (∀ vs us zs ws, Vals vs us → Vals zs ws → vs.length = n → zs.length = ks.length → Vals (gV vs zs) (g us ws)) ∧
    (∀ H α β vs ds zs es, Rps L.K H α β vs ds → Rps L.K H α β zs es → vs.length = n → zs.length = ks.length → Rps L.K H α β (gV vs zs) (gD ds es) ∧ (gD ds es).length = ps.length)
section
variable {L : Lc} {x qual : Str} {params : Arguments} {body : List Stmt} {scope : Scope} {f : Addr} {fd : FuncData} {ps ks : List Str} {n : Nat} {spec : List Src} {dvs : List V} {kws : List (Str × V)}
theorem kb_plain (F : FunD L.K x qual params body scope [] kws f fd) (hs : spec.all (Src.ok n 0 ks.length) = true) (hl : spec.length = ps.length)
    (h : ∀ (kV doc pm : Value) (an : Option Addr) (cdv ct : Value) (us ws : List Value), us.length = n → ws.length = ks.length → bindArgs (PySem.W.fnOf x qual params body scope .none kV doc pm an cdv ct) ⟨us, ks.zip ws⟩ = pure (ps.zip (sel spec us [] ws))) :
    KB L fd ps n ks (fun ds es => sel spec ds [] es) := by
  obtain ⟨oc, od, dV, kV, doc, pm, an, cdv, ct, osl, rfl, lk, hcd, hD, hK⟩ := F.ex
  rcases hD with ⟨_, rfl⟩ | ⟨e, _⟩
  · refine ⟨fun us ws => sel spec us [] ws, fun vs zs => sel spec vs [] zs, fun s us ws _ l1 l2 => .of_eq (h kV doc pm an cdv ct us ws l1 l2), fun vs us zs ws r1 r2 l1 l2 => sel_vals r1 .nil r2 (by rw [l1, l2]; exact hs), fun H α β vs ds zs es r1 r2 l1 l2 => ⟨sel_reps r1 .nil r2 (by rw [l1, l2]; exact hs), ?_⟩⟩
    rw [sel_length (by rw [← r1.length, ← r2.length, l1, l2]; exact hs), hl]
  · exact absurd rfl e
/-- data of defaults -/
def DfD (L : Lc) (dvs : List V) (dds : List D) : Prop := ∀ H α β, Rps L.K H α β dvs dds
theorem kb_dfl {dds : List D} (F : FunD L.K x qual params body scope dvs kws f fd) (hd : dvs ≠ []) (hdd : DfD L dvs dds) (hs : spec.all (Src.ok n dvs.length ks.length) = true) (hl : spec.length = ps.length)
    (h : ∀ (T : Addr) (kV doc pm : Value) (an : Option Addr) (cdv ct : Value) (us its ws : List Value), us.length = n → its.length = dvs.length → ws.length = ks.length →
      ∃ k, bindArgs (PySem.W.fnOf x qual params body scope (.ref T) kV doc pm an cdv ct) ⟨us, ks.zip ws⟩ = seqItems? (.ref T) >>= k ∧ k (some its.toArray) = pure (ps.zip (sel spec us its ws))) :
    KB L fd ps n ks (fun ds es => sel spec ds dds es) := by
  obtain ⟨oc, od, dV, kV, doc, pm, an, cdv, ct, osl, rfl, lk, hcd, hD, hK⟩ := F.ex
  rcases hD with ⟨e, _⟩ | ⟨_, T, o, its, m, rfl, lT, oT, rT⟩
  · exact absurd e hd
  · refine ⟨fun us ws => sel spec us its ws, fun vs zs => sel spec vs dvs zs, fun s us ws X l1 l2 => ?_, fun vs us zs ws r1 r2 l1 l2 => sel_vals r1 rT r2 (by rw [l1, l2]; exact hs), fun H α β vs ds zs es r1 r2 l1 l2 => ⟨sel_reps r1 (hdd H α β) r2 (by rw [l1, l2]; exact hs), ?_⟩⟩
    · obtain ⟨k, e1, e2⟩ := h T kV doc pm an cdv ct us its ws l1 rT.length.symm l2
      refine BindsTo.of_looks fun M => ?_
      rw [e1]
      exact looks_items X lT oT (.of_pure e2)
    · rw [sel_length (by rw [← r1.length, ← r2.length, ← (hdd H α β).length, l1, l2]; exact hs), hl]
end
/-! ## the call -/
section
variable {L : Lc} {x : Str} {ps ks : List Str} {k n : Nat} {g : List D → List D → List D} {gS : List D → Ms → R D} {f : Addr} {fd : FuncData} {p pos : Pos}
/-- a def of the program: where it is, what it does -/
structure FnR (L : Lc) (x : Str) (ps : List Str) (k : Nat) (gS : List D → Ms → R D) (f : Addr) (fd : FuncData) : Prop where
  m : L.mg x = some (.ref f)
  kp : PySem.W.keepIn L.K (.ref f) = true
  ok : FnOk L.P L.w L.K L.mg L.base (L2.CX L.P L.w) k f fd ps (spOf L ps.length gS)
theorem run_kb {W : WX} {X : Cx} (h : Ok L W X) (F : FnR L x ps k gS f fd) (hk : k ≤ L.k) (B : KB L fd ps n ks g) {pins : List (Addr × Obj)} {σ : St} {H : Hp} {s : Shared} {us ws : List Value} {vs zs : List V} {ds es : List D} {α β : List Addr} {σd : Sd} {m : Ms} {Q : VK}
    (I : Inv X pins σ H s) (r : Vals vs us) (rz : Vals zs ws) (l1 : vs.length = n) (l2 : zs.length = ks.length) (sr : SR L.K H α β σ σd m) (rd : Rps L.K H α β vs ds) (re : Rps L.K H α β zs es) (q : PostR L W (relV L) σ σd H α β Q (gS (g ds es) m)) :
    wpAny (model X.prog X.w) X.A (call (.ref f) us (ks.zip ws)) (EP X pins σ Q) X.xe s := by
  obtain ⟨gv, gV, b1, b2, b3⟩ := B.ex
  obtain ⟨b4, b5⟩ := b3 H α β vs ds zs es rd re l1 l2
  have r2 := b2 vs us zs ws r rz l1 l2
  have kin : L.K.K.In s.heap := by rw [← h.K]; exact I.kIn
  have hsp : spOf L ps.length gS (gV vs zs) H Q (WE W σ) := ⟨α, β, m, _, sr.cr, b4, b5, ret_post sr q⟩
  have F' : FnOk X.prog X.w X.K X.mg X.base (L2.CX X.prog X.w) k f fd ps (spOf L ps.length gS) := h.cast (by rw [h.prog, h.w]; exact F.ok)
  refine wpAny_call (codeAny_mono (F'.run X.A X.stack s H ⟨us, ks.zip ws⟩ (gv us ws) (gV vs zs) Q (WE W σ) (h.room.mono hk) I.env0 (b1 s us ws kin (r.length.symm.trans l1) (rz.length.symm.trans l2)) r2 hsp) ?_)
  intro rr s' hq
  cases rr with
  | error e => exact passAt h.tk σ pins H s e s' I hq
  | ok fl =>
    cases fl with
    | ret u => exact I.after hq
    | next => exact hq.elim
    | brk => exact hq.elim
    | cont => exact hq.elim
def SK (L : Lc) (kws : List Keyword) (f : Fn (List D)) : Prop := ∀ W X, Ok L W X → PK X kws (tS L W (relN L kws.length) f)
theorem PKi {X : Cx} {e : List Keyword} {t t' : TA} (h : PK X e t) (k : ∀ σ H Q, t' σ H Q → t σ H Q) : PK X e t' := ⟨fun pos pins s σ H Q I q => h.run pos pins s σ H Q I (k _ _ _ q)⟩
theorem sk_nil : SK L [] xNil := fun W X h => PKi pk_nil fun σ H Q ⟨α, β, σd, m, s, q⟩ => q [] H α Ext.refl s ⟨.nil, rfl⟩
theorem sk_cons {nm : Option Str} {e : Expr} {kpos : Pos} {kws : List Keyword} {f : Fn D} {g : Fn (List D)} (he : SE L e f) (hs : SK L kws g) : SK L (⟨nm, e, kpos⟩ :: kws) (xCons f g) := fun W X h =>
  PKi (pk_cons (he W X h) (hs W X h)) fun σ H Q ⟨α, β, σd, m, s, q⟩ => by
    refine ⟨α, β, σd, m, s, q.mp fun d m1 v H1 α1 e1 s1 r1 q => ⟨α1, β, σd, m1, s1, q.mp fun ds m2 vs H2 α2 e2 s2 r2 q => ?_⟩⟩
    exact q _ H2 α2 Ext.refl s2 ⟨.cons (r1.ext e2) r2.1, by simp [r2.2]⟩
/-- f(a, .., k = v, ..) -/
def xCal (g : List D → List D → List D) (gS : List D → Ms → R D) (a kw : Fn (List D)) : Fn D := fun σ m => (a σ m).bind fun ds m1 => (kw σ m1).bind fun es m2 => gS (g ds es) m2
theorem se_call {e : Expr} {es : List Expr} {fa : Fn (List D)} (F : FnR L x ps k gS f fd) (hk : k ≤ L.k) (B : KB L fd ps (es.length + 1) [] g) (hg : Glb L x) (ha : SAs L (e :: es) fa)
    (hdb : (x == ("__debug__" : Str)) = false := by decide) (he : ∀ env, starEach (e :: es) env = (false, eval e env) :: starEach es env := by intro _; rfl) (hpl : ∀ env, (backTo pos (starEach es env)).any (·.1) = false := by intro _; rfl) :
    SE L (.Call (.Name x p) (e :: es) [] pos) (xCal g gS fa xNil) := fun W X h => by
  constructor
  intro pins s σ H Q I ⟨α, β, σd, m, sr, q⟩
  refine wpAny_Call_Name_kw (ld_glob I (by unfold Gl Env.kindOf; rw [h.sc]; exact hg) (by rw [h.mg]; exact F.m) ?_ hdb)
  refine PySem.W.callWith_K (h₀ := X.base) I.ok.mod.kin (by rw [h.K]; exact F.kp) ?_ (he _) (hpl _)
  refine thn ((ha W X h).run pos pins s σ H (fun vs H1 => ∃ ds α1 m1, SR L.K H1 α1 β σ σd m1 ∧ Rps L.K H1 α1 β vs ds ∧ vs.length = es.length + 1 ∧ PostR L W (relV L) σ σd H1 α1 β Q (gS (g ds []) m1)) I ⟨α, β, σd, m, sr, ?_⟩) ?_
  · exact q.mp fun ds m1 vs H1 α1 e1 s1 r1 q => ⟨ds, α1, m1, s1, r1.1, r1.2, q⟩
  · rintro us s1 ⟨vs, H1, I1, r, ds, α1, m1, sr1, rd, hl, q1⟩
    exact ⟨I1.kIn, run_kb (zs := []) (ws := []) h F hk B I1 r .nil hl rfl sr1 rd .nil q1⟩
end
end CT
namespace CT
open PySem L2
/-! ## the rules, with their side conditions as checks -/
def Lc.loc (G : Lc) (N : List Str) (sc : Scope) (k : Nat) (fn : Str → Bool) : Lc := { G with N := N, sc := sc, k := k, fn := fn }
def fnAll : Str → Bool := fun _ => true
def fnIn (scope : Scope) : Str → Bool := fun x => scope.names.lookup x == some .cell
def visB (sc : Scope) (x : Str) : Bool := match sc.names.lookup x with
  | some .local => true
  | some .cell => true
  | some .free => true
  | _ => false
def varOk (N : List Str) (sc : Scope) (i : Nat) (x : Str) : Bool := decide (N[i]? = some x) && visB sc x && !(x == ("__debug__" : Str)) && !(x == ("__classdict__" : Str))
def setOk (N : List Str) (sc : Scope) (fn : Str → Bool) (i : Nat) (x : Str) : Bool := decide (N[i]? = some x) && (decide (sc.names.lookup x = some .local) || (decide (sc.names.lookup x = some .cell) && fn x))
def gloOk (sc : Scope) (x : Str) : Bool := decide (sc.names.lookup x = some .globalImplicit) && !(x == ("__debug__" : Str)) && !(x == ("__name__" : Str))
section
variable {G : Lc} {N : List Str} {sc : Scope} {k : Nat} {fn : Str → Bool}
theorem gloOk_g {x : Str} (h : gloOk sc x = true) : sc.names.lookup x = some .globalImplicit ∧ (x == ("__debug__" : Str)) = false ∧ x ≠ ("__name__" : Str) := by
  unfold gloOk at h
  rw [Bool.and_eq_true, Bool.and_eq_true] at h
  refine ⟨of_decide_eq_true h.1.1, by simpa using h.1.2, by simpa using h.2⟩
theorem g_var {i : Nat} {x : Str} {pos : Pos} (h : varOk N sc i x = true) : SE (G.loc N sc k fn) (.Name x pos) (xVar i) := by
  unfold varOk at h
  simp only [Bool.and_eq_true] at h
  obtain ⟨⟨⟨h1, h2⟩, h3⟩, h4⟩ := h
  refine se_var (of_decide_eq_true h1) ?_ (by simpa using h3) (by simpa using h4)
  unfold visB at h2
  show sc.names.lookup x = some .local ∨ sc.names.lookup x = some .cell ∨ sc.names.lookup x = some .free
  split at h2 <;> first | exact .inl (by assumption) | exact .inr (.inl (by assumption)) | exact .inr (.inr (by assumption)) | cases h2
theorem Gcon.to {x : Str} {d : D} (c : Gcon G x d) : Gcon (G.loc N sc k fn) x d := c
theorem g_con {x : Str} {d : D} {pos : Pos} (c : Gcon G x d) (h : gloOk sc x = true) : SE (G.loc N sc k fn) (.Name x pos) (xVal d) := se_con (gloOk_g h).1 c.to (gloOk_g h).2.1
theorem setOk_s {i : Nat} {x : Str} (h : setOk N sc fn i x = true) : N[i]? = some x ∧ (sc.names.lookup x = some .local ∨ (sc.names.lookup x = some .cell ∧ fn x = true)) := by
  unfold setOk at h
  rw [Bool.and_eq_true, Bool.or_eq_true, Bool.and_eq_true] at h
  refine ⟨of_decide_eq_true h.1, ?_⟩
  rcases h.2 with z | ⟨z1, z2⟩
  · exact .inl (of_decide_eq_true z)
  · exact .inr ⟨of_decide_eq_true z1, z2⟩
theorem gt_name {i : Nat} {x : Str} {pos : Pos} (nd : N.Nodup) (h : setOk N sc fn i x = true) : SG (G.loc N sc k fn) [i] (.Name x pos) (gN i) := sg_name nd (setOk_s h).1 (setOk_s h).2
theorem g_set {i : Nat} {x : Str} {e : Expr} {f : Fn D} {pos' pos : Pos} (nd : N.Nodup) (h : setOk N sc fn i x = true) (he : SE (G.loc N sc k fn) e f) (hs : ∀ env : Env, env.scope = sc → swapsWith e (some (.Name x pos')) pos.line env = pure false := by intro _ _; rfl) :
    SS (G.loc N sc k fn) (.Assign [.Name x pos'] e pos) (xAsg (gN i) f) := s_set nd (setOk_s h).1 (setOk_s h).2 he hs
def parOk (N : List Str) (sc : Scope) (i j : Nat) (x y : Str) : Bool := decide (N[i]? = some x) && decide (N[j]? = some y) && decide (i ≠ j) && decide (sc.names.lookup x = some .local) && decide (sc.names.lookup y = some .local)
theorem g_par {i j : Nat} {x y : Str} {a b : Expr} {fa fb : Fn D} {px py pt : Pos} {kt k2 pt2} {pos : Pos} (nd : N.Nodup) (h : parOk N sc i j x y = true) (ha : SE (G.loc N sc k fn) a fa) (hb : SE (G.loc N sc k fn) b fb)
    (hw : ∀ env : Env, env.scope = sc → swappedStores [.Tuple [.Name x px, .Name y py] kt pt] (.Tuple [a, b] k2 pt2) env = pure (some [x, y]) := by intro env h; cases env; cases h; rfl) (hs : ∀ env, swapsWithSole [.Tuple [.Name x px, .Name y py] kt pt] (.Tuple [a, b] k2 pt2) pos.line env = pure false := by intro _; rfl)
    (hsa : ∀ env, starEach [a, b] env = (false, eval a env) :: starEach [b] env := by intro _; rfl) (hsb : ∀ env, starEach [b] env = (false, eval b env) :: starEach [] env := by intro _; rfl) :
    SS (G.loc N sc k fn) (.Assign [.Tuple [.Name x px, .Name y py] kt pt] (.Tuple [a, b] k2 pt2) pos) (xPar i j fa fb) := by
  unfold parOk at h
  simp only [Bool.and_eq_true] at h
  obtain ⟨⟨⟨⟨h1, h2⟩, h3⟩, h4⟩, h5⟩ := h
  exact s_par nd (of_decide_eq_true h1) (of_decide_eq_true h2) (of_decide_eq_true h3) (of_decide_eq_true h4) (of_decide_eq_true h5) ha hb hw hs hsa hsb
/-- three names at once -/
def xPar3 (i j l : Nat) (a b c : Fn D) : Fo := fun σ m => (a σ m).go σ fun x m1 => (b σ m1).go σ fun y m2 => (c σ m2).go σ fun z m3 => .nx (((σ.set i (some x)).set j (some y)).set l (some z)) m3
def blkOkB (N : List Str) (sc scope : Scope) (own : List (Str × Nat)) (js : List Nat) : Bool := blkC N sc scope own && js.all fun j => (own.map (·.2)).contains j
theorem g_lc {elt tg iter : Expr} {ifs : List Expr} {scope : Scope} {pos : Pos} {fi : Fn (List D)} {g : Fg} {js : List Nat} {fc : Fn Bool} {fe : Fn D} {fin : Ms → List D → R D} (hfin : FinS (G.loc N sc k fn) fin) (own : List (Str × Nat)) (nd : N.Nodup) (ok : blkOkB N sc scope own js = true)
    (hi : SI (G.loc N sc k fn) tg iter fi) (hg : SG (G.loc N (inner scope sc) k (fnIn scope)) js tg g) (hc : SIf (G.loc N (inner scope sc) k (fnIn scope)) ifs fc) (he : SE (G.loc N (inner scope sc) k (fnIn scope)) elt fe)
    (hs : ∀ env x, foldedSetIterable iter env x = pure x := by intro _ _; rfl) : SE (G.loc N sc k fn) (.ListComp elt [⟨tg, iter, ifs, 0⟩] scope pos) (xLcF fin fi g fc fe (own.map (·.2))) := by
  unfold blkOkB at ok
  rw [Bool.and_eq_true] at ok
  refine se_lc hfin nd (blkOk_by ok.1) (fun j hj => ?_) hi hg hc he hs
  have := List.all_eq_true.mp ok.2 j hj
  simpa using this
def lcNameOk (N : List Str) (sc scope : Scope) (i : Nat) (y : Str) : Bool := decide (N[i]? = some y) && decide (sc.names.lookup y = some .local) && decide (sc.kind = .function) && !(scope.names.any fun (n, k) => n == y && (k == .local || k == .cell))
theorem g_setLc {i : Nat} {y : Str} {py : Pos} {elt tg iter : Expr} {ifs : List Expr} {scope : Scope} {pos spos : Pos} {fi : Fn (List D)} {g : Fg} {js : List Nat} {fc : Fn Bool} {fe : Fn D} {fin : Ms → List D → R D} (hfin : FinS (G.loc N sc k fn) fin) (own : List (Str × Nat)) (nd : N.Nodup) (hy : lcNameOk N sc scope i y = true) (ok : blkOkB N sc scope own js = true)
    (hi : SI (G.loc N sc k fn) tg iter fi) (hg : SG (G.loc N (inner scope sc) k (fnIn scope)) js tg g) (hc : SIf (G.loc N (inner scope sc) k (fnIn scope)) ifs fc) (he : SE (G.loc N (inner scope sc) k (fnIn scope)) elt fe)
    (hl : (py.line == pos.line) = true := by rfl) (hs : ∀ env x, foldedSetIterable iter env x = pure x := by intro _ _; rfl) : SS (G.loc N sc k fn) (.Assign [.Name y py] (.ListComp elt [⟨tg, iter, ifs, 0⟩] scope pos) spos) (xAsg (gN i) (xLcF fin fi g fc fe (own.map (·.2)))) := by
  unfold blkOkB at ok
  rw [Bool.and_eq_true] at ok
  unfold lcNameOk at hy
  simp only [Bool.and_eq_true, Bool.not_eq_true'] at hy
  obtain ⟨⟨⟨h1, h2⟩, h3⟩, h4⟩ := hy
  refine s_setLc (i := i) hfin nd (of_decide_eq_true h1) (of_decide_eq_true h2) (fun env he => sw_true (by rw [he]; exact of_decide_eq_true h3) (by rw [he]; exact of_decide_eq_true h2) hl h4) (blkOk_by ok.1) (fun j hj => ?_) hi hg hc he hs
  have := List.all_eq_true.mp ok.2 j hj
  simpa using this
/-! builtins -/
section
variable {e : Expr} {es : List Expr} {f : Fn (List D)} {p pos : Pos}
theorem g_len (h : gloOk sc "len" = true) (hm : G.mg "len" = none) (ha : SAs (G.loc N sc k fn) (e :: es) f) (he : ∀ env, starEach (e :: es) env = (false, eval e env) :: starEach es env := by intro _; rfl) (hpl : ∀ env, (backTo pos (starEach es env)).any (·.1) = false := by intro _; rfl) : SE (G.loc N sc k fn) (.Call (.Name "len" p) (e :: es) [] pos) (xCalB bLen f) := se_len (gloOk_g h).1 hm ha he hpl
theorem g_abs (h : gloOk sc "abs" = true) (hm : G.mg "abs" = none) (ha : SAs (G.loc N sc k fn) (e :: es) f) (he : ∀ env, starEach (e :: es) env = (false, eval e env) :: starEach es env := by intro _; rfl) (hpl : ∀ env, (backTo pos (starEach es env)).any (·.1) = false := by intro _; rfl) : SE (G.loc N sc k fn) (.Call (.Name "abs" p) (e :: es) [] pos) (xCalB bAbs f) := se_abs (gloOk_g h).1 hm ha he hpl
theorem g_max (h : gloOk sc "max" = true) (hm : G.mg "max" = none) (ha : SAs (G.loc N sc k fn) (e :: es) f) (he : ∀ env, starEach (e :: es) env = (false, eval e env) :: starEach es env := by intro _; rfl) (hpl : ∀ env, (backTo pos (starEach es env)).any (·.1) = false := by intro _; rfl) : SE (G.loc N sc k fn) (.Call (.Name "max" p) (e :: es) [] pos) (xCalB bMax f) := se_max (gloOk_g h).1 hm ha he hpl
theorem g_all (h : gloOk sc "all" = true) (hm : G.mg "all" = none) (ha : SAs (G.loc N sc k fn) (e :: es) f) (he : ∀ env, starEach (e :: es) env = (false, eval e env) :: starEach es env := by intro _; rfl) (hpl : ∀ env, (backTo pos (starEach es env)).any (·.1) = false := by intro _; rfl) : SE (G.loc N sc k fn) (.Call (.Name "all" p) (e :: es) [] pos) (xCalB bAll f) := se_all (gloOk_g h).1 hm ha he hpl
theorem g_list (h : gloOk sc "list" = true) (hm : G.mg "list" = none) (ha : SAs (G.loc N sc k fn) (e :: es) f) (he : ∀ env, starEach (e :: es) env = (false, eval e env) :: starEach es env := by intro _; rfl) (hpl : ∀ env, (backTo pos (starEach es env)).any (·.1) = false := by intro _; rfl) : SE (G.loc N sc k fn) (.Call (.Name "list" p) (e :: es) [] pos) (xCalB bList f) := se_list (gloOk_g h).1 hm ha he hpl
theorem g_tuple (h : gloOk sc "tuple" = true) (hm : G.mg "tuple" = none) (ha : SAs (G.loc N sc k fn) (e :: es) f) (he : ∀ env, starEach (e :: es) env = (false, eval e env) :: starEach es env := by intro _; rfl) (hpl : ∀ env, (backTo pos (starEach es env)).any (·.1) = false := by intro _; rfl) : SE (G.loc N sc k fn) (.Call (.Name "tuple" p) (e :: es) [] pos) (xCalB bTup f) := se_tuple (gloOk_g h).1 hm ha he hpl
end
theorem gi_rng1 {tg a : Expr} {f : Fn D} {p pos : Pos} (h : gloOk sc "range" = true) (hm : G.mg "range" = none) (ha : SE (G.loc N sc k fn) a f) (hs : ∀ env, starEach [a] env = (false, eval a env) :: starEach [] env := by intro _; rfl) : SI (G.loc N sc k fn) tg (.Call (.Name "range" p) [a] [] pos) (xRng1 f) := si_rng1 (gloOk_g h).1 hm ha hs
theorem g_isi {e : Expr} {f : Fn D} {T : Str} {p p2 pos : Pos} (Ts : String) (h : gloOk sc "isinstance" = true) (hm : G.mg "isinstance" = none) (hT : gloOk sc T = true) (hmT : G.mg T = none) (hv : bootBuiltins T = some (.type Ts)) (hk : Ts ∈ tyNs.tail) (he : SE (G.loc N sc k fn) e f)
    (hs : ∀ env, starEach [e, .Name T p2] env = (false, eval e env) :: starEach [.Name T p2] env := by intro _; rfl) : SE (G.loc N sc k fn) (.Call (.Name "isinstance" p) [e, .Name T p2] [] pos) (xIsi Ts f) := se_isi (gloOk_g h).1 hm (gloOk_g hT).1 hmT hv hk he (gloOk_g hT).2.2 (gloOk_g hT).2.1 hs
theorem g_isi2 {e : Expr} {f : Fn D} {T U : Str} {p p2 p3 p4 pos : Pos} {kk} (Ts Us : String) (h : gloOk sc "isinstance" = true) (hm : G.mg "isinstance" = none) (hT : gloOk sc T = true) (hmT : G.mg T = none) (hv : bootBuiltins T = some (.type Ts)) (hk : Ts ∈ tyNs.tail) (hU : gloOk sc U = true) (hmU : G.mg U = none) (hvU : bootBuiltins U = some (.type Us)) (hkU : Us ∈ tyNs.tail) (he : SE (G.loc N sc k fn) e f)
    (hs : ∀ env, starEach [e, .Tuple [.Name T p2, .Name U p3] kk p4] env = (false, eval e env) :: starEach [.Tuple [.Name T p2, .Name U p3] kk p4] env := by intro _; rfl) : SE (G.loc N sc k fn) (.Call (.Name "isinstance" p) [e, .Tuple [.Name T p2, .Name U p3] kk p4] [] pos) (xIsi2 Ts Us f) :=
  se_isi2 (gloOk_g h).1 hm (gloOk_g hT).1 hmT hv hk (gloOk_g hU).1 hmU hvU hkU he (gloOk_g hT).2.2 (gloOk_g hT).2.1 (gloOk_g hU).2.2 (gloOk_g hU).2.1 hs
/-! calls -/
theorem FnR.to {x : Str} {ps : List Str} {j : Nat} {gS : List D → Ms → R D} {f : Addr} {fd : FuncData} (F : FnR G x ps j gS f fd) : FnR (G.loc N sc k fn) x ps j gS f fd := ⟨F.m, F.kp, F.ok⟩
theorem KB.to {fd : FuncData} {ps ks : List Str} {n : Nat} {g : List D → List D → List D} (B : KB G fd ps n ks g) : KB (G.loc N sc k fn) fd ps n ks g := ⟨B.ex⟩
theorem g_call {x : Str} {ps : List Str} {j : Nat} {g : List D → List D → List D} {gS : List D → Ms → R D} {f : Addr} {fd : FuncData} {p pos : Pos} {e : Expr} {es : List Expr} {fa : Fn (List D)} (F : FnR G x ps j gS f fd) (B : KB G fd ps (es.length + 1) [] g) (h : gloOk sc x = true) (hk : j ≤ k) (ha : SAs (G.loc N sc k fn) (e :: es) fa)
    (he : ∀ env, starEach (e :: es) env = (false, eval e env) :: starEach es env := by intro _; rfl) (hpl : ∀ env, (backTo pos (starEach es env)).any (·.1) = false := by intro _; rfl) :
    SE (G.loc N sc k fn) (.Call (.Name x p) (e :: es) [] pos) (xCal g gS fa xNil) := by
  exact se_call F.to hk B.to (gloOk_g h).1 ha (gloOk_g h).2.1 he hpl
/-- a def of the text, with the data of its defaults -/
def FunX (G : Lc) (x : Str) (st : Stmt) (dds : List D) (kds : List (Str × D)) (f : Addr) (fd : FuncData) : Prop :=
  ∃ dvs kws, FunD G.K x x (defArgs st) (defBody st) (defScope st) dvs kws f fd ∧ DfD G dvs dds ∧ kws.map (·.1) = kds.map (·.1) ∧ DfD G (kws.map (·.2)) (kds.map (·.2))
/-- a def keeps what its body's meaning says -/
theorem def_f {x : Str} {st : Stmt} {f : Addr} {fd : FuncData} {N ps : List Str} {k : Nat} {body : Fo} {dds : List D} {kds : List (Str × D)} (F : FunX G x st dds kds f fd) (S : FnScope N ps (defScope st)) (hm : G.mg x = some (.ref f)) (hc : G.cd = none)
    (hb : SSs (G.loc N (defScope st) k fnAll) (defBody st) body) : FnR G x ps (k + 1) (fnSem N.length body) f fd := by
  obtain ⟨dvs, kws, F, _⟩ := F
  exact ⟨hm, F.kp, def_ok F S hb rfl hc⟩
theorem def_c {x : Str} {st : Stmt} {f : Addr} {fd : FuncData} {N ps : List Str} {k : Nat} {body : Fo} {dds : List D} {kds : List (Str × D)} (F : FunX G x st dds kds f fd) (S : FnScope N ps (defScope st)) (hm : G.mg x = some (.ref f)) (hc : G.cd = none)
    (hb : SSs (G.loc N (defScope st) k fnAll) (defBody st) body) : FnR G x ps (k + 1) (fnSemC N.length body) f fd := by
  obtain ⟨dvs, kws, F, _⟩ := F
  exact ⟨hm, F.kp, def_okC F S hb rfl hc⟩
/-- nothing is promised -/
theorem def_0 {x : Str} {st : Stmt} {f : Addr} {fd : FuncData} {N ps : List Str} {k : Nat} {dds : List D} {kds : List (Str × D)} (F : FunX G x st dds kds f fd) (S : FnScope N ps (defScope st)) (hm : G.mg x = some (.ref f)) : FnR G x ps (k + 1) (fun _ _ => .bad) f fd := by
  obtain ⟨dvs, kws, F, _⟩ := F
  refine ⟨hm, F.kp, F.ok (N := N) (k := k) S (def_len rfl) fun cdv A outer s H vs Q E hr hsp => ?_⟩
  obtain ⟨α, β, m, ds, _, _, _, h⟩ := hsp
  exact h.elim
theorem Reps.nil_l {K : KK} {H : Hp} {α : List Addr} {vs : List V} (h : Reps K H α vs []) : vs = [] := by cases h; rfl
theorem kbx {x : Str} {st : Stmt} {f : Addr} {fd : FuncData} {ps ks : List Str} {n : Nat} {spec : List Src} {kds : List (Str × D)} (F : FunX G x st [] kds f fd) (hs : spec.all (Src.ok n 0 ks.length) = true) (hl : spec.length = ps.length)
    (h : ∀ (kV doc pm : Value) (an : Option Addr) (cdv ct : Value) (us ws : List Value), us.length = n → ws.length = ks.length → bindArgs (PySem.W.fnOf x x (defArgs st) (defBody st) (defScope st) .none kV doc pm an cdv ct) ⟨us, ks.zip ws⟩ = pure (ps.zip (sel spec us [] ws))) :
    KB G fd ps n ks (fun ds es => sel spec ds [] es) := by
  obtain ⟨dvs, kws, F, hd, _⟩ := F
  have := (hd (fun _ => none) [] []).nil_l
  subst this
  exact kb_plain F hs hl h
theorem kbx_d {x : Str} {st : Stmt} {f : Addr} {fd : FuncData} {ps ks : List Str} {n : Nat} {spec : List Src} {dds : List D} {kds : List (Str × D)} (F : FunX G x st dds kds f fd) (hd0 : dds ≠ []) (hs : spec.all (Src.ok n dds.length ks.length) = true) (hl : spec.length = ps.length)
    (h : ∀ (T : Addr) (kV doc pm : Value) (an : Option Addr) (cdv ct : Value) (us its ws : List Value), us.length = n → its.length = dds.length → ws.length = ks.length →
      ∃ k, bindArgs (PySem.W.fnOf x x (defArgs st) (defBody st) (defScope st) (.ref T) kV doc pm an cdv ct) ⟨us, ks.zip ws⟩ = seqItems? (.ref T) >>= k ∧ k (some its.toArray) = pure (ps.zip (sel spec us its ws))) :
    KB G fd ps n ks (fun ds es => sel spec ds dds es) := by
  obtain ⟨dvs, kws, F, hd, _⟩ := F
  have hl2 : dvs.length = dds.length := (hd (fun _ => none) [] []).length
  refine kb_dfl F (fun e => hd0 ?_) hd (by rw [hl2]; exact hs) hl fun T kV doc pm an cdv ct us its ws h1 h2 h3 => h T kV doc pm an cdv ct us its ws h1 (h2.trans hl2) h3
  rw [e] at hl2
  exact List.eq_nil_of_length_eq_zero hl2.symm
end
end CT
namespace CT
open PySem L2
/-! ## what the top leaves -/
def mkG (P : Program) (w : World) (K : PySem.W.Frag) (mg : Str → Option Value) (base : Heap) (ct : Nat → Addr) (T : List (Addr × Str) := []) (fa : Nat → Addr := fun _ => 0) : Lc := { P := P, w := w, K := ⟨K, T, ct, fa⟩, mg := mg, base := base, N := [], sc := { kind := .function, names := [], isGenerator := false, isCoroutine := false }, k := 0, fn := fnAll }
section
variable {G : Lc} {x : Str} {st : Stmt} {f : Addr} {oc : Value} {od an : Option Addr} {osl : Array (Option Value)} {kV dV doc pm cdv ct : Value}
theorem dfd_nil : DfD G [] [] := fun _ _ _ => .nil
theorem funx_mk (l : G.K.K.lookup f = some ⟨oc, od, .func (PySem.W.fnOf x x (defArgs st) (defBody st) (defScope st) .none kV doc pm an cdv ct), osl⟩) (c : PySem.W.codeIn G.K cdv x = true) (k : PySem.W.keepIn G.K (.ref f) = true) :
    FunX G x st [] [] f (PySem.W.fnOf x x (defArgs st) (defBody st) (defScope st) .none kV doc pm an cdv ct) :=
  ⟨[], [], ⟨⟨oc, od, .none, kV, doc, pm, an, cdv, ct, osl, rfl, l, c, .inl ⟨rfl, rfl⟩, .inl rfl⟩, k⟩, dfd_nil, rfl, dfd_nil⟩
/-- a value of the written part and its data -/
def CV (G : Lc) (u : Value) (d : D) : Prop := ∃ v, RelV v u ∧ ∀ H α β, Rp G.K H α β v d
theorem cv_int {i : Int} {t : Tok} : CV G (.int i t) (.int i) := ⟨.int i, ⟨t, rfl⟩, fun _ _ _ => .int⟩
theorem cv_str {i : Str} {t : Tok} : CV G (.str i t) (.str i) := ⟨.str i, ⟨t, rfl⟩, fun _ _ _ => .str⟩
inductive CVs (G : Lc) : List Value → List D → Prop
  | nil : CVs G [] []
  | cons {u : Value} {d : D} {us : List Value} {ds : List D} : CV G u d → CVs G us ds → CVs G (u :: us) (d :: ds)
theorem CVs.vals : ∀ {us : List Value} {ds : List D}, CVs G us ds → ∃ vs, Vals vs us ∧ DfD G vs ds
  | _, _, .nil => ⟨[], .nil, dfd_nil⟩
  | _, _, .cons ⟨v, r, h⟩ t => by
    obtain ⟨vs, r2, h2⟩ := t.vals
    exact ⟨v :: vs, .cons r r2, fun H α β => .cons (h H α β) (h2 H α β)⟩
theorem CVs.length : ∀ {us : List Value} {ds : List D}, CVs G us ds → us.length = ds.length
  | _, _, .nil => rfl
  | _, _, .cons _ t => by simp [t.length]
theorem cv_tup {t : Addr} {odT : Option Addr} {us : List Value} {n : Nat} {slT : Array (Option Value)} {ds : List D} (l : G.K.K.lookup t = some ⟨.type "tuple", odT, .seq us.toArray n, slT⟩) (h : CVs G us ds) (hz : ds.length ≤ 100000 := by decide) : CV G (.ref t) (.tup ds) := by
  obtain ⟨vs, r, h2⟩ := h.vals
  refine ⟨.ref t, rfl, fun H α β => .tup (.inr ⟨_, us.toArray, n, l, rfl, rfl, ?_, r⟩) (h2 H α β)⟩
  rw [List.size_toArray]
  exact Evl.sz_of (by rw [h.length]; exact hz)
theorem CV.gcon {y : Str} {u : Value} {d : D} (m : G.mg y = some u) (c : CV G u d) : Gcon G y d := by
  obtain ⟨v, r, h⟩ := c
  exact ⟨u, v, m, r, h⟩
theorem funx_mkD {T : Addr} {clT : Value} {odT : Option Addr} {us : List Value} {nT : Nat} {slT : Array (Option Value)} {dds : List D} (l : G.K.K.lookup f = some ⟨oc, od, .func (PySem.W.fnOf x x (defArgs st) (defBody st) (defScope st) (.ref T) kV doc pm an cdv ct), osl⟩) (c : PySem.W.codeIn G.K cdv x = true) (k : PySem.W.keepIn G.K (.ref f) = true)
    (lT : G.K.K.lookup T = some ⟨clT, odT, .seq us.toArray nT, slT⟩) (h : CVs G us dds) (hn : us ≠ []) : FunX G x st dds [] f (PySem.W.fnOf x x (defArgs st) (defBody st) (defScope st) (.ref T) kV doc pm an cdv ct) := by
  obtain ⟨vs, r, h2⟩ := h.vals
  refine ⟨vs, [], ⟨⟨oc, od, .ref T, kV, doc, pm, an, cdv, ct, osl, rfl, l, c, .inr ⟨fun e => hn ?_, T, _, us, nT, rfl, lT, rfl, r⟩, .inl rfl⟩, k⟩, h2, rfl, dfd_nil⟩
  rw [e] at r
  cases r
  rfl
end
/-- what the law's def is to keep -/
def spLaw (K : PySem.W.Frag) (T : List (Addr × Str)) : Sp := fun vs H Q _ => ∃ (a : Addr) (ns : List Int), vs = [.ref a] ∧ SqL K H a (ns.map V.int) ∧ ns.length ≤ 63 ∧ LamX.Tabs T H ∧ ∀ H', Q (.bl true) H'
theorem sql_hid {K : PySem.W.Frag} {H : Hp} {a : Addr} {xs : List V} (h : SqL K H a xs) : SqL K (hid H []) a xs := by
  rcases h with (h | ⟨o, h⟩) | h
  · exact .inl (.inl (hid_mk h (by simp)))
  · exact .inl (.inr ⟨o, hid_mk h (by simp)⟩)
  · exact .inr h
theorem ints_reps {K : KK} {G : Hp} {α : List Addr} : ∀ ns : List Int, Reps K G α (ns.map V.int) (ns.map D.int)
  | [] => .nil
  | _ :: ns => .cons .int (ints_reps ns)
def trueR : R D → Prop
  | .ok (.bl true) _ => True
  | _ => False
theorem law_end {G : Lc} {x : Str} {ps : List Str} {k : Nat} {gS : List D → Ms → R D} {f : Addr} {fd : FuncData} (F : FnR G x ps k gS f fd) (hl : ps.length = 1) (h : ∀ ns : List Int, ns.length ≤ 63 → trueR (gS [.lck (ns.map .int)] [])) :
    FnOk G.P G.w G.K G.mg G.base (L2.CX G.P G.w) k f fd ps (spLaw G.K G.K.T) := F.ok.imp fun vs H Q E ⟨a, ns, e, hs, hn, ht, q⟩ => by
  subst e
  have hh := h ns hn
  refine ⟨[], [], [], [.lck (ns.map .int)], ⟨rfl, List.nodup_nil, fun _ z => (by cases z), fun _ _ _ z => (by simp at z), ht⟩, .cons (.lck ?_ (ints_reps ns)) .nil, hl.symm, ?_⟩
  · exact sql_hid hs
  · cases e : gS [.lck (ns.map .int)] [] with
    | bad => rw [e] at hh; exact hh.elim
    | ex x m => rw [e] at hh; exact hh.elim
    | ok d m =>
      rw [e] at hh
      intro v H1 α1 _ _ r
      cases d with
      | bl b =>
        cases b with
        | true => cases r; exact q H1
        | false => exact hh.elim
      | non => exact hh.elim
      | int _ => exact hh.elim
      | str _ => exact hh.elim
      | tup _ => exact hh.elim
      | lst _ => exact hh.elim
      | cel _ => exact hh.elim
      | lck _ => exact hh.elim
      | ins _ _ _ => exact hh.elim
      | dct => exact hh.elim
      | fn => exact hh.elim
      | tpl => exact hh.elim
end CT
namespace CT
open PySem L2
/-! ## reckoning with meanings -/
section
variable {σ : Sd} {m : Ms} {a b c : Fn D} {f g : Fo} {t u : Fn Bool} {as : Fn (List D)}
@[simp] theorem ev_var {i : Nat} {d : D} (h : σ[i]? = some (some d)) : xVar i σ m = .ok d m := by unfold xVar; rw [h]
@[simp] theorem ev_val {d : D} : xVal d σ m = .ok d m := rfl
@[simp] theorem ev_op {o : D → D → Ms → R D} : xOp o a b σ m = (a σ m).bind fun x m1 => (b σ m1).bind fun y m2 => o (dr m2 x) (dr m2 y) m2 := rfl
@[simp] theorem ev_un {o : D → Ms → R D} : xUn o a σ m = (a σ m).bind fun x m1 => o (dr m1 x) m1 := rfl
@[simp] theorem ev_test : xTest a σ m = (a σ m).bind fun d m1 => match d with | .bl b => .ok b m1 | _ => .bad := rfl
@[simp] theorem ev_and : xAnd t u σ m = (t σ m).bind fun x m1 => if x = true then u σ m1 else .ok false m1 := rfl
@[simp] theorem ev_or : xOr t u σ m = (t σ m).bind fun x m1 => if x = true then .ok true m1 else u σ m1 := rfl
@[simp] theorem ev_not : xNot t σ m = (t σ m).bind fun x m1 => .ok (!x) m1 := rfl
@[simp] theorem ev_if : xIf t a b σ m = (t σ m).bind fun x m1 => if x = true then a σ m1 else b σ m1 := rfl
@[simp] theorem ev_nil : xNil σ m = .ok [] m := rfl
@[simp] theorem ev_cons : xCons a as σ m = (a σ m).bind fun x m1 => (as σ m1).bind fun ys m2 => .ok (x :: ys) m2 := rfl
@[simp] theorem ev_tup : xTup as σ m = (as σ m).bind fun ds m1 => .ok (.tup ds) m1 := rfl
@[simp] theorem ev_lst : xLst as σ m = (as σ m).bind fun ds m1 => .ok (.lst ds) m1 := rfl
@[simp] theorem ev_cel : xCel as σ m = (as σ m).bind fun ds m1 => if D.cfs 0 ds = true then .ok (.cel m1.length) (m1 ++ [.l ds]) else .bad := rfl
@[simp] theorem ev_calB {o : List D → Ms → R D} : xCalB o as σ m = (as σ m).bind fun ds m1 => o (ds.map (dr m1)) m1 := rfl
@[simp] theorem ev_cal {h : List D → List D → List D} {gS : List D → Ms → R D} {kw : Fn (List D)} : xCal h gS as kw σ m = (as σ m).bind fun ds m1 => (kw σ m1).bind fun es m2 => gS (h ds es) m2 := rfl
@[simp] theorem ev_chain {o o' : D → D → Ms → R D} : xChain o o' a b c σ m = (a σ m).bind fun x m1 => (b σ m1).bind fun y m2 => (o (dr m2 x) (dr m2 y) m2).bind fun z m3 => match z with
  | .bl true => (c σ m3).bind fun w m4 => o' (dr m4 y) (dr m4 w) m4
  | .bl false => .ok (.bl false) m3
  | _ => .bad := rfl
@[simp] theorem ev_andV : xAndV a b σ m = (a σ m).bind fun x m1 => match x with | .bl true => b σ m1 | .bl false => .ok (.bl false) m1 | _ => .bad := rfl
@[simp] theorem ev_orV : xOrV a b σ m = (a σ m).bind fun x m1 => match x with | .bl false => b σ m1 | .bl true => .ok (.bl true) m1 | _ => .bad := rfl
@[simp] theorem ev_notV : xNotV a σ m = (a σ m).bind fun x m1 => match x with | .bl b => .ok (.bl (!b)) m1 | _ => .bad := rfl
@[simp] theorem ev_noP : xNoP σ m = .ok none m := rfl
@[simp] theorem ev_part : xPart a σ m = (a σ m).bind fun d m1 => match d with | .int i => .ok (some i) m1 | _ => .bad := rfl
@[simp] theorem ev_sl {lo hi : Fn (Option Int)} : xSl a lo hi σ m = (a σ m).bind fun x m1 => (lo σ m1).bind fun l m2 => (hi σ m2).bind fun u m3 => oSl (dr m3 x) l u m3 := rfl
@[simp] theorem ev_isi {T : String} : xIsi T a σ m = (a σ m).bind fun d m1 => if noI (dr m1 d) = true then .ok (.bl (isK T (dr m1 d))) m1 else .bad := rfl
@[simp] theorem ev_isi2 {T U : String} : xIsi2 T U a σ m = (a σ m).bind fun d m1 => if noI (dr m1 d) = true then .ok (.bl (isK T (dr m1 d) || isK U (dr m1 d))) m1 else .bad := rfl
@[simp] theorem ev_seq : xSeq f g σ m = oSeq (f σ m) g := rfl
@[simp] theorem ev_pass : xPass σ m = .nx σ m := rfl
@[simp] theorem ev_ret : xRet a σ m = (a σ m).go σ fun d m1 => .rt d m1 := rfl
@[simp] theorem ev_drop : xDrop a σ m = (a σ m).go σ fun _ m1 => .nx σ m1 := rfl
@[simp] theorem ev_ifS : xIfS t f g σ m = (t σ m).go σ fun x m1 => if x = true then f σ m1 else g σ m1 := rfl
@[simp] theorem ev_asg {h : Fg} : xAsg h a σ m = (a σ m).go σ fun d m1 => match h d σ m1 with | some (σ2, m2) => .nx σ2 m2 | none => .bad := rfl
@[simp] theorem ev_gN {i : Nat} {d : D} : gN i d σ m = some (σ.set i (some d), m) := rfl
@[simp] theorem ev_gNil : gNil [] σ m = some (σ, m) := rfl
@[simp] theorem ev_gCons {h : Fg} {r : Fgs} {d : D} {ds : List D} : gCons h r (d :: ds) σ m = match h d σ m with | some (σ1, m1) => r ds σ1 m1 | none => none := rfl
@[simp] theorem ev_gT {n : Nat} {r : Fgs} {ds : List D} (h : ds.length = n) : gT n r (.tup ds) σ m = r ds σ m := by show (if ds.length = n then r ds σ m else none) = _; rw [if_pos h]
@[simp] theorem ev_gS {o i : Fn D} {d : D} : gS o i d σ m = if d.cf 0 = true then match o σ m with
    | .ok (.cel c) m1 => match i σ m1 with
      | .ok (.int k) m2 => match m2[c]? with
        | some (.l ds) => match ixN ds.length k with
          | some j => some (σ, m2.set c (.l (ds.set j d)))
          | none => none
        | _ => none
      | _ => none
    | _ => none
  else none := rfl
@[simp] theorem ev_par {i j : Nat} : xPar i j a b σ m = (a σ m).go σ fun x m1 => (b σ m1).go σ fun y m2 => .nx ((σ.set i (some x)).set j (some y)) m2 := rfl
@[simp] theorem ev_for {s : Fn (List D)} {h : Fg} : xFor s h f σ m = (s σ m).go σ fun items m1 => forL h f items σ m1 := rfl
@[simp] theorem ev_it : xIt a σ m = (a σ m).bind fun d m1 => match d with | .lst ds => .ok ds m1 | .tup ds => .ok ds m1 | .lck ds => .ok ds m1 | .str z => .ok (charsD z) m1 | _ => .bad := rfl
@[simp] theorem ev_enum : xEnum a σ m = (a σ m).bind fun d m1 => match d with | .lst ds => .ok (enumD 0 ds) m1 | .lck ds => .ok (enumD 0 ds) m1 | _ => .bad := rfl
@[simp] theorem ev_rng1 : xRng1 a σ m = (a σ m).bind fun d m1 => match d with | .int j => if -100000 ≤ j ∧ j ≤ 100000 then .ok (rngD 0 j.toNat) m1 else .bad | _ => .bad := rfl
@[simp] theorem ev_yes : xYes σ m = .ok true m := rfl
@[simp] theorem ev_lc {fin : Ms → List D → R D} {s : Fn (List D)} {h : Fg} {e : Fn D} {own : List Nat} : xLcF fin s h t e own σ m = (s σ m).bind fun items m1 => if items.length ≤ 100000 then lcL fin h t e (wipeD σ own) items m1 [] else .bad := rfl
@[simp] theorem ev_finL {acc : List D} : finL m acc = .ok (.lst acc) m := rfl
end
section
variable {m : Ms} {i j : Int} {x y : Str} {ds es : List D}
@[simp] theorem dr_non : dr m .non = .non := rfl
@[simp] theorem dr_int : dr m (.int i) = .int i := rfl
@[simp] theorem dr_bl {b : Bool} : dr m (.bl b) = .bl b := rfl
@[simp] theorem dr_str : dr m (.str x) = .str x := rfl
@[simp] theorem dr_tup : dr m (.tup ds) = .tup ds := rfl
@[simp] theorem dr_lst : dr m (.lst ds) = .lst ds := rfl
@[simp] theorem dr_lck : dr m (.lck ds) = .lck ds := rfl
@[simp] theorem dr_cel {c : Nat} (h : m[c]? = some (.l ds)) : dr m (.cel c) = .lst ds := by simp [dr, h, Ce.fz]
@[simp] theorem dr_ins {k : Nat} {ns : List Str} : dr m (.ins k ns ds) = .ins k ns ds := rfl
@[simp] theorem noI_non : noI .non = true := rfl
@[simp] theorem noI_int : noI (.int i) = true := rfl
@[simp] theorem noI_bl {b : Bool} : noI (.bl b) = true := rfl
@[simp] theorem noI_str : noI (.str x) = true := rfl
@[simp] theorem noI_tup : noI (.tup ds) = true := rfl
@[simp] theorem noI_lst : noI (.lst ds) = true := rfl
@[simp] theorem o_add : oAdd (.int i) (.int j) m = .ok (.int (i + j)) m := rfl
@[simp] theorem o_addL : oAdd (.lst ds) (.lst es) m = okLen (ds.length + es.length) (.ok (.lst (ds ++ es)) m) := rfl
@[simp] theorem o_addT : oAdd (.tup ds) (.tup es) m = okLen (ds.length + es.length) (.ok (.tup (ds ++ es)) m) := rfl
@[simp] theorem o_sub : oSub (.int i) (.int j) m = .ok (.int (i - j)) m := rfl
@[simp] theorem o_mul : oMul (.int i) (.int j) m = if mulOk i j = true then .ok (.int (i * j)) m else .bad := rfl
@[simp] theorem o_div : oDiv (.int i) (.int j) m = if divOk j = true then .ok (.int (i / j)) m else .bad := rfl
@[simp] theorem o_mod : oMod (.int i) (.int j) m = if j ≠ 0 then .ok (.int (i.fmod j)) m else .bad := rfl
@[simp] theorem o_pow : oPow (.int i) (.int j) m = if powOk i j = true then .ok (.int (i ^ j.toNat)) m else .bad := rfl
@[simp] theorem o_neg : oNeg (.int i) m = .ok (.int (-i)) m := rfl
@[simp] theorem o_lt : oLt (.int i) (.int j) m = .ok (.bl (decide (i < j))) m := rfl
@[simp] theorem o_le : oLe (.int i) (.int j) m = .ok (.bl (decide (i ≤ j))) m := rfl
@[simp] theorem o_gt : oGt (.int i) (.int j) m = .ok (.bl (decide (j < i))) m := rfl
@[simp] theorem o_ge : oGe (.int i) (.int j) m = .ok (.bl (decide (j ≤ i))) m := rfl
@[simp] theorem o_ixL : oIx (.lst ds) (.int i) m = match atI ds i with | some d => .ok d m | none => .bad := rfl
@[simp] theorem o_ixT : oIx (.tup ds) (.int i) m = match atI ds i with | some d => .ok d m | none => .bad := rfl
@[simp] theorem b_lenL : bLen [.lst ds] m = .ok (.int (ds.length : Nat)) m := rfl
@[simp] theorem b_lenT : bLen [.tup ds] m = .ok (.int (ds.length : Nat)) m := rfl
@[simp] theorem b_abs : bAbs [.int i] m = .ok (.int (if i < 0 then -i else i)) m := rfl
@[simp] theorem b_max : bMax [.int i, .int j] m = .ok (.int (if j > i then j else i)) m := rfl
@[simp] theorem b_listL : bList [.lst ds] m = .ok (.lst ds) m := rfl
@[simp] theorem b_listT : bList [.tup ds] m = .ok (.lst ds) m := rfl
@[simp] theorem b_listK : bList [.lck ds] m = .ok (.lst ds) m := rfl
@[simp] theorem b_tupL : bTup [.lst ds] m = .ok (.tup ds) m := rfl
@[simp] theorem b_tupT : bTup [.tup ds] m = .ok (.tup ds) m := rfl
@[simp] theorem o_slL {l h : Option Int} : oSl (.lst ds) l h m = .ok (.lst (cutL ds l h)) m := rfl
@[simp] theorem o_slT {l h : Option Int} : oSl (.tup ds) l h m = .ok (.tup (cutL ds l h)) m := rfl
@[simp] theorem o_slK {l h : Option Int} : oSl (.lck ds) l h m = .ok (.lst (cutL ds l h)) m := rfl
@[simp] theorem cf_int {n : Nat} : D.cf n (.int i) = true := rfl
@[simp] theorem cf_bl {n : Nat} {b : Bool} : D.cf n (.bl b) = true := rfl
@[simp] theorem cf_str {n : Nat} : D.cf n (.str x) = true := rfl
@[simp] theorem cf_non {n : Nat} : D.cf n .non = true := rfl
@[simp] theorem cf_tup {n : Nat} : D.cf n (.tup ds) = D.cfs n ds := rfl
@[simp] theorem cf_lst {n : Nat} : D.cf n (.lst ds) = D.cfs n ds := rfl
@[simp] theorem cf_lck {n : Nat} : D.cf n (.lck ds) = D.cfs n ds := rfl
@[simp] theorem cf_cel {n c : Nat} : D.cf n (.cel c) = decide (c < n) := rfl
@[simp] theorem cfs_nil {n : Nat} : D.cfs n [] = true := rfl
@[simp] theorem cfs_cons {n : Nat} {d : D} : D.cfs n (d :: ds) = (D.cf n d && D.cfs n ds) := rfl
@[simp] theorem cfs_ints {n : Nat} : ∀ ns : List Int, D.cfs n (ns.map D.int) = true
  | [] => rfl
  | _ :: r => by simp [cfs_ints r]
theorem cfs_all {n : Nat} : ∀ {ds : List D}, (∀ d ∈ ds, D.cf n d = true) → D.cfs n ds = true
  | [], _ => rfl
  | d :: ds, h => by rw [cfs_cons, h d (List.mem_cons_self ..), cfs_all fun e he => h e (List.mem_cons_of_mem _ he)]; rfl
theorem ixN_0 (n : Nat) : ixN (n + 1) 0 = some 0 := by
  unfold ixN
  rw [if_pos (by decide), if_pos (by omega)]
  simp
theorem ixN_1 (n : Nat) : ixN (n + 2) 1 = some 1 := by
  unfold ixN
  rw [if_pos (by decide), if_pos (by omega)]
  simp
@[simp] theorem atI_0 {κ : Type} {a : κ} {r : List κ} : atI (a :: r) 0 = some a := by
  unfold atI
  rw [List.length_cons, ixN_0]
  rfl
@[simp] theorem atI_1 {κ : Type} {a b : κ} {r : List κ} : atI (a :: b :: r) 1 = some b := by
  unfold atI
  rw [List.length_cons, List.length_cons, ixN_1]
  rfl
@[simp] theorem frz_int {n : Nat} : frz n m (.int i) = some (.int i) := rfl
@[simp] theorem frz_bl {n : Nat} {b : Bool} : frz n m (.bl b) = some (.bl b) := rfl
@[simp] theorem frz_str {n : Nat} : frz n m (.str x) = some (.str x) := rfl
@[simp] theorem frz_non {n : Nat} : frz n m .non = some .non := rfl
@[simp] theorem frz_tup {n : Nat} (h : D.cfs n ds = true) : frz n m (.tup ds) = some (.tup ds) := by unfold frz; rw [if_pos (show D.cf n (.tup ds) = true from h)]
@[simp] theorem frz_lst {n : Nat} (h : D.cfs n ds = true) : frz n m (.lst ds) = some (.lst ds) := by unfold frz; rw [if_pos (show D.cf n (.lst ds) = true from h)]
theorem frz_cf {n : Nat} {d : D} (h : d.cf n = true) : frz n m d = some d := by unfold frz; rw [if_pos h]
theorem okLen_of {n : Nat} {r : R D} (h : n ≤ 100000) : okLen n r = r := by unfold okLen; rw [if_pos h]
end
theorem mulOk_of {i j : Int} (a b : Nat) (ha : i.natAbs < 2 ^ a) (hb : j.natAbs < 2 ^ b) (h0 : 0 < a := by decide) (h1 : 0 < b := by decide) (h : a + b ≤ 1000000 := by decide) : mulOk i j = true := by
  have := wide_mul ha hb h0 h1 h
  unfold CMulW at this
  exact decide_eq_true this
theorem divOk_of {j : Int} (b : Nat) (h : 0 < j) (hb : j.natAbs < 2 ^ b) (h0 : 0 < b := by decide) (h9 : b ≤ 9000 := by decide) : divOk j = true := by
  have := wide_div (i := 0) h hb h0 h9
  unfold CDivW at this
  exact decide_eq_true this
/-- a def's meaning, by its body's end -/
theorem fn_rt {N : Nat} {body : Fo} {ds : List D} {m m' : Ms} {d : D} (h : body (ds.map some ++ List.replicate (N - ds.length) none) m = .rt d m') (hd : d.cf m.length = true) : fnSem N body ds m = .ok d (m'.take m.length) := by
  unfold fnSem
  rw [h]
  simp only [frz_cf hd]
theorem fn_rt' {N : Nat} {body : Fo} {ds : List D} {m m' : Ms} {d : D} (h : body (ds.map some ++ List.replicate (N - ds.length) none) m = .rt d m') (hd : d.cf m.length = true) (hm : m'.length = m.length) : fnSem N body ds m = .ok d m' := by
  rw [fn_rt h hd, List.take_of_length_le (by omega)]
end CT
namespace CT
open PySem L2
/-! ## more reckoning -/
section
variable {m : Ms} {i j : Int} {b c : Bool}
theorem eqOk_int : eqOk (.int i) = true := by simp [eqOk, toP, SeqAt.shaped, PyData.canLay0, PyData.depth]
theorem eqOk_bl : eqOk (.bl b) = true := by simp [eqOk, toP, SeqAt.shaped, PyData.canLay0, PyData.depth]
theorem dec_beq {κ : Type} [DecidableEq κ] (a b : κ) : (a == b) = decide (a = b) := by
  by_cases h : a = b
  · subst h; simp
  · simp [h]
@[simp] theorem o_eqI : oEq (.int i) (.int j) m = .ok (.bl (decide (i = j))) m := by
  unfold oEq
  rw [eqOk_int, eqOk_int, Bool.and_self, if_pos rfl]
  show R.ok (D.bl (i == j)) m = _
  rw [dec_beq]
@[simp] theorem o_neI : oNe (.int i) (.int j) m = .ok (.bl (!decide (i = j))) m := by
  unfold oNe
  rw [eqOk_int, eqOk_int, Bool.and_self, if_pos rfl]
  show R.ok (D.bl (!(i == j))) m = _
  rw [dec_beq]
@[simp] theorem o_eqB : oEq (.bl b) (.bl c) m = .ok (.bl (b == c)) m := by
  unfold oEq
  rw [eqOk_bl, eqOk_bl, Bool.and_self, if_pos rfl]
  rfl
@[simp] theorem o_neB : oNe (.bl b) (.bl c) m = .ok (.bl (!(b == c))) m := by
  unfold oNe
  rw [eqOk_bl, eqOk_bl, Bool.and_self, if_pos rfl]
  rfl
end
/-! a comprehension, a loop -/
theorem lcL_map {fin : Ms → List D → R D} {g : Fg} {e : Fn D} {σ : Sd} {F : D → D} {m : Ms} : ∀ (items acc : List D), (∀ d ∈ items, ∃ σ1, g d σ m = some (σ1, m) ∧ e σ1 m = .ok (F d) m) → lcL fin g xYes e σ items m acc = fin m (acc ++ items.map F)
  | [], acc, _ => by simp [lcL]
  | d :: ds, acc, h => by
    obtain ⟨σ1, h1, h2⟩ := h d (List.mem_cons_self ..)
    rw [lcL, h1]
    simp only [ev_yes]
    rw [h2]
    simp only
    rw [lcL_map ds _ fun x hx => h x (List.mem_cons_of_mem _ hx)]
    simp
@[simp] theorem forL_nil {g : Fg} {b : Fo} {σ : Sd} {m : Ms} : forL g b [] σ m = .nx σ m := rfl
theorem forL_cons {g : Fg} {b : Fo} {d : D} {ds : List D} {σ : Sd} {m : Ms} : forL g b (d :: ds) σ m = match g d σ m with
    | none => .bad
    | some (σ1, m1) => oLoop (b σ1 m1) (forL g b ds) := rfl
theorem whN_succ {c : Fn Bool} {b : Fo} {n : Nat} {σ : Sd} {m : Ms} : whN c b (n + 1) σ m = (c σ m).go σ fun t m1 => if t = true then oLoop (b σ m1) (whN c b n) else .nx σ m1 := rfl
/-- a loop by what holds between two turns: it runs to its end, or it leaves with an outcome that is let -/
theorem forL_inv {g : Fg} {b : Fo} (P : Nat → Sd → Ms → Prop) (Z : O → Prop) (items : List D)
    (h : ∀ (i : Nat) (d : D) (σ : Sd) (m : Ms), items[i]? = some d → P i σ m → ∃ σ1 m1, g d σ m = some (σ1, m1) ∧ ((∃ σ2 m2, (b σ1 m1 = .nx σ2 m2 ∨ b σ1 m1 = .ct σ2 m2) ∧ P (i + 1) σ2 m2) ∨ (∃ σ2 m2, b σ1 m1 = .bk σ2 m2 ∧ Z (.nx σ2 m2)) ∨ (∃ d' m2, b σ1 m1 = .rt d' m2 ∧ Z (.rt d' m2)) ∨ (∃ x σ2 m2, b σ1 m1 = .ex x σ2 m2 ∧ Z (.ex x σ2 m2)))) :
    ∀ (n i : Nat), n + i = items.length → ∀ (σ : Sd) (m : Ms), P i σ m → (∃ σ' m', forL g b (items.drop i) σ m = .nx σ' m' ∧ P items.length σ' m') ∨ ∃ o, forL g b (items.drop i) σ m = o ∧ Z o
  | 0, i, hi, σ, m, hp => by
    have : i = items.length := by omega
    subst this
    rw [List.drop_length]
    exact .inl ⟨σ, m, rfl, hp⟩
  | n + 1, i, hi, σ, m, hp => by
    have hlt : i < items.length := by omega
    obtain ⟨σ1, m1, h1, h2⟩ := h i items[i] σ m (List.getElem?_eq_getElem hlt) hp
    rw [List.drop_eq_getElem_cons hlt, forL_cons, h1]
    simp only
    rcases h2 with ⟨σ2, m2, e, hp2⟩ | ⟨σ2, m2, e, z⟩ | ⟨d', m2, e, z⟩ | ⟨x, σ2, m2, e, z⟩
    · have e2 : oLoop (b σ1 m1) (forL g b (items.drop (i + 1))) = forL g b (items.drop (i + 1)) σ2 m2 := by
        rcases e with e | e <;> rw [e] <;> rfl
      rw [e2]
      exact forL_inv P Z items h n (i + 1) (by omega) σ2 m2 hp2
    · rw [e]; exact .inr ⟨_, rfl, z⟩
    · rw [e]; exact .inr ⟨_, rfl, z⟩
    · rw [e]; exact .inr ⟨_, rfl, z⟩
/-- a loop that always runs to its end -/
theorem forL_all {g : Fg} {b : Fo} (P : Nat → Sd → Ms → Prop) (items : List D)
    (h : ∀ (i : Nat) (d : D) (σ : Sd) (m : Ms), items[i]? = some d → P i σ m → ∃ σ1 m1 σ2 m2, g d σ m = some (σ1, m1) ∧ (b σ1 m1 = .nx σ2 m2 ∨ b σ1 m1 = .ct σ2 m2) ∧ P (i + 1) σ2 m2) {σ : Sd} {m : Ms} (hp : P 0 σ m) :
    ∃ σ' m', forL g b items σ m = .nx σ' m' ∧ P items.length σ' m' := by
  rcases forL_inv P (fun _ => False) items (fun i d σ m e hp => by
    obtain ⟨σ1, m1, σ2, m2, h1, h2, h3⟩ := h i d σ m e hp
    exact ⟨σ1, m1, h1, .inl ⟨σ2, m2, h2, h3⟩⟩) items.length 0 (by omega) σ m hp with h | ⟨_, _, z⟩
  · exact h
  · exact z.elim
theorem set_set {κ : Type} {σ : List κ} {i j : Nat} {x y z w : κ} (h : i ≠ j) : (((σ.set i x).set j y).set i z).set j w = (σ.set i z).set j w := by
  refine List.ext_getElem? fun k => ?_
  by_cases h1 : j = k
  · subst h1
    by_cases hk : j < σ.length
    · rw [List.getElem?_set_self (by simp; exact hk), List.getElem?_set_self (by simp; exact hk)]
    · rw [List.getElem?_eq_none (by simp; omega), List.getElem?_eq_none (by simp; omega)]
  · rw [List.getElem?_set_ne h1, List.getElem?_set_ne h1]
    by_cases h2 : i = k
    · subst h2
      by_cases hk : i < σ.length
      · rw [List.getElem?_set_self (by simp; exact hk), List.getElem?_set_self hk]
      · rw [List.getElem?_eq_none (by simp; omega), List.getElem?_eq_none (by simp; omega)]
    · rw [List.getElem?_set_ne h2, List.getElem?_set_ne h1, List.getElem?_set_ne h2, List.getElem?_set_ne h2]
/-! the greatest common part -/
theorem gcd_wh {i j : Nat} (h : i ≠ j) : ∀ (y x : Nat) (σ : Sd) (m : Ms), σ[i]? = some (some (.int (x : Nat))) → σ[j]? = some (some (.int (y : Nat))) →
    ∃ n, whN (xTest (xOp oNe (xVar j) (xVal (.int (0))))) (xPar i j (xVar j) (xOp oMod (xVar i) (xVar j))) n σ m = .nx ((σ.set i (some (.int (Nat.gcd x y : Nat)))).set j (some (.int 0))) m := by
  intro y
  induction y using Nat.strongRecOn with
  | _ y ih =>
    intro x σ m hi hj
    by_cases hy : y = 0
    · subst hy
      refine ⟨1, ?_⟩
      have e1 : σ.set i (some (.int ((x : Nat) : Int))) = σ := by
        refine List.ext_getElem? fun k => ?_
        by_cases hk : i = k
        · subst hk
          rw [List.getElem?_set_self (List.getElem?_eq_some_iff.mp hi).1, hi]
        · rw [List.getElem?_set_ne hk]
      have e2 : σ.set j (some (.int 0)) = σ := by
        refine List.ext_getElem? fun k => ?_
        by_cases hk : j = k
        · subst hk
          rw [List.getElem?_set_self (List.getElem?_eq_some_iff.mp hj).1, hj]
          rfl
        · rw [List.getElem?_set_ne hk]
      rw [whN_succ]
      simp [hj, e1]
      exact e2.symm
    · have hlt : x % y < y := Nat.mod_lt _ (by omega)
      have li := (List.getElem?_eq_some_iff.mp hi).1
      have lj := (List.getElem?_eq_some_iff.mp hj).1
      obtain ⟨n, hn⟩ := ih (x % y) hlt y ((σ.set i (some (.int (y : Nat)))).set j (some (.int ((x % y : Nat) : Int)))) m (by rw [List.getElem?_set_ne (Ne.symm h), List.getElem?_set_self li]) (by rw [List.getElem?_set_self (by simpa using lj)])
      refine ⟨n + 1, ?_⟩
      have hy' : ¬ ((y : Int) = 0) := by omega
      have hf : ((x : Int)).fmod (y : Int) = ((x % y : Nat) : Int) := by
        rw [Int.fmod_eq_emod_of_nonneg _ (by omega)]
        rfl
      rw [whN_succ]
      simp only [ev_test, ev_op, ev_var hj, ev_val, R.bind_ok, dr_int, o_neI, R.go_ok]
      rw [if_pos (by simp [hy]), ev_par]
      simp only [ev_var hj, R.go_ok, ev_op, ev_var hi, R.bind_ok, dr_int, o_mod, if_pos (show (y : Int) ≠ 0 from hy'), hf, oLoop_nx]
      rw [hn, set_set h]
      rw [show Nat.gcd y (x % y) = Nat.gcd x y from by rw [Nat.gcd_comm y, ← Nat.gcd_rec, Nat.gcd_comm]]
theorem gcd_while {i j : Nat} (h : i ≠ j) {x y : Nat} {σ : Sd} {m : Ms} (hi : σ[i]? = some (some (.int (x : Nat)))) (hj : σ[j]? = some (some (.int (y : Nat)))) :
    xWhile (xTest (xOp oNe (xVar j) (xVal (.int (0))))) (xPar i j (xVar j) (xOp oMod (xVar i) (xVar j))) σ m = .nx ((σ.set i (some (.int (Nat.gcd x y : Nat)))).set j (some (.int 0))) m := by
  obtain ⟨n, hn⟩ := gcd_wh h y x σ m hi hj
  exact xWhile_eq hn rfl
/-! parts -/
/-- in lowest terms -/
def lowF (a b : Int) : Int × Int := ((if 0 < b then 1 else -1) * a / (Int.gcd a b : Nat), (if 0 < b then 1 else -1) * b / (Int.gcd a b : Nat))
def dP (p : Int × Int) : D := .tup [.int p.1, .int p.2]
@[simp] theorem cf_dP {n : Nat} (p : Int × Int) : D.cf n (dP p) = true := rfl
def plusF (p q : Int × Int) : Int × Int := lowF (p.1 * q.2 + q.1 * p.2) (p.2 * q.2)
def lessF (p q : Int × Int) : Int × Int := lowF (p.1 * q.2 - q.1 * p.2) (p.2 * q.2)
def timesF (p q : Int × Int) : Int × Int := lowF (p.1 * q.1) (p.2 * q.2)
def overF (p q : Int × Int) : Int × Int := lowF (p.1 * q.2) (p.2 * q.1)
/-- of so many bits -/
def Bits (n : Nat) (p : Int × Int) : Prop := p.1.natAbs < 2 ^ n ∧ p.2.natAbs < 2 ^ n ∧ 0 < p.2
theorem Bits.mono {n k : Nat} {p : Int × Int} (h : Bits n p) (hk : n ≤ k) : Bits k p := ⟨Nat.lt_of_lt_of_le h.1 (Nat.pow_le_pow_right (by decide) hk), Nat.lt_of_lt_of_le h.2.1 (Nat.pow_le_pow_right (by decide) hk), h.2.2⟩
theorem gcd_dvd (a b : Int) : ((Int.gcd a b : Nat) : Int) ∣ a ∧ ((Int.gcd a b : Nat) : Int) ∣ b := ⟨Int.gcd_dvd_left .., Int.gcd_dvd_right ..⟩
theorem natAbs_div_le (a : Int) (g : Nat) (h : (g : Int) ∣ a) (hg : 0 < g) : (a / (g : Int)).natAbs ≤ a.natAbs := by
  obtain ⟨k, rfl⟩ := h
  rw [Int.mul_ediv_cancel_left _ (by omega)]
  rw [Int.natAbs_mul]
  exact Nat.le_mul_of_pos_left _ (by simpa using hg)
theorem lowF_bits {a b : Int} {n : Nat} (ha : a.natAbs < 2 ^ n) (hb : b.natAbs < 2 ^ n) (h0 : b ≠ 0) : Bits n (lowF a b) := by
  have hg : 0 < Int.gcd a b := Int.gcd_pos_of_ne_zero_right _ h0
  obtain ⟨d1, d2⟩ := gcd_dvd a b
  have key : ∀ (s x : Int), (s = 1 ∨ s = -1) → ((Int.gcd a b : Nat) : Int) ∣ x → (s * x / (Int.gcd a b : Nat)).natAbs ≤ x.natAbs := by
    intro s x hs hx
    have h1 := natAbs_div_le (s * x) (Int.gcd a b) (Int.dvd_trans hx ⟨s, by rw [Int.mul_comm]⟩) hg
    rcases hs with rfl | rfl <;> simpa using h1
  have hs : (if 0 < b then (1 : Int) else -1) = 1 ∨ (if 0 < b then (1 : Int) else -1) = -1 := by split <;> simp
  refine ⟨Nat.lt_of_le_of_lt (key _ a hs d1) ha, Nat.lt_of_le_of_lt (key _ b hs d2) hb, ?_⟩
  unfold lowF
  simp only
  obtain ⟨k, hk⟩ := d2
  have hgi : (0 : Int) < (Int.gcd a b : Nat) := by omega
  have pos : ∀ x : Int, 0 < x → ((Int.gcd a b : Nat) : Int) ∣ x → 0 < x / ((Int.gcd a b : Nat) : Int) := fun x hx ⟨k, hk⟩ => by
    rw [hk, Int.mul_ediv_cancel_left _ (by omega)]
    rw [hk] at hx
    exact Int.pos_of_mul_pos_right hx hgi
  split
  · rename_i hb0
    rw [Int.one_mul]
    exact pos b hb0 ⟨k, hk⟩
  · refine pos _ (by omega) ⟨-k, ?_⟩
    rw [Int.mul_neg, ← hk]
    omega
end CT
namespace CT
open PySem L2
/-! ## data that may be held against each other -/
def Pl : Nat → D → Prop
  | _, .non => True
  | _, .bl _ => True
  | _, .int _ => True
  | _, .str s => PyData.strOk s = true
  | n + 1, .lst ds => ds.length ≤ 100000 ∧ ∀ x ∈ ds, Pl n x
  | n + 1, .tup ds => ds.length ≤ 100000 ∧ ∀ x ∈ ds, Pl n x
  | n + 1, .tpl ds => ds.length ≤ 100000 ∧ ∀ x ∈ ds, Pl n x
  | _, _ => False
theorem Pl.str {n : Nat} {s : Str} (h : Pl n (.str s)) : PyData.strOk s = true := by
  cases n <;> exact h
theorem pl_int {n : Nat} {i : Int} : Pl n (.int i) := by cases n <;> trivial
theorem pl_bl {n : Nat} {i : Bool} : Pl n (.bl i) := by cases n <;> trivial
theorem pl_non {n : Nat} : Pl n .non := by cases n <;> trivial
theorem pl_str {n : Nat} {s : Str} (h : PyData.strOk s = true) : Pl n (.str s) := by cases n <;> exact h
theorem pl_lst {n : Nat} {ds : List D} (h0 : ds.length ≤ 100000) (h : ∀ x ∈ ds, Pl n x) : Pl (n + 1) (.lst ds) := ⟨h0, h⟩
theorem pl_tup {n : Nat} {ds : List D} (h0 : ds.length ≤ 100000) (h : ∀ x ∈ ds, Pl n x) : Pl (n + 1) (.tup ds) := ⟨h0, h⟩
theorem pl_dP {n : Nat} {p : Int × Int} : Pl (n + 1) (dP p) := pl_tup (by simp) fun x hx => by
  simp at hx
  rcases hx with rfl | rfl <;> exact pl_int
theorem lay_all : ∀ {ds : List D}, (∀ d ∈ ds, (toP d).canLay0 = true) → PyData.canLayAll0 (toPs ds) = true
  | [], _ => rfl
  | d :: ds, h => by rw [toPs, PyData.canLayAll0, h d (List.mem_cons_self ..), lay_all fun e he => h e (List.mem_cons_of_mem _ he)]; rfl
theorem dep_all {n : Nat} : ∀ {ds : List D}, (∀ d ∈ ds, (toP d).depth ≤ n) → PyData.depthAll (toPs ds) ≤ n
  | [], _ => by simp [toPs, PyData.depthAll]
  | d :: ds, h => by
    rw [toPs, PyData.depthAll]
    exact Nat.max_le.mpr ⟨h d (List.mem_cons_self ..), dep_all fun e he => h e (List.mem_cons_of_mem _ he)⟩
theorem Pl.all : ∀ {n : Nat} {d : D}, Pl n d → d.cf 0 = true ∧ (toP d).canLay0 = true ∧ (toP d).depth ≤ n
  | n, .non, _ => ⟨rfl, rfl, by simp [toP, PyData.depth]⟩
  | n, .bl _, _ => ⟨rfl, rfl, by simp [toP, PyData.depth]⟩
  | n, .int _, _ => ⟨rfl, rfl, by simp [toP, PyData.depth]⟩
  | n, .str s, h => ⟨rfl, by simpa [toP, PyData.canLay0] using h.str, by simp [toP, PyData.depth]⟩
  | n + 1, .lst ds, h => by
    have ih := fun d hd => Pl.all (h.2 d hd)
    exact ⟨cfs_all fun d hd => (ih d hd).1, lay_all fun d hd => (ih d hd).2.1, by
      rw [toP, PyData.depth]
      exact Nat.succ_le_succ (dep_all fun d hd => (ih d hd).2.2)⟩
  | n + 1, .tup ds, h => by
    have ih := fun d hd => Pl.all (h.2 d hd)
    exact ⟨cfs_all fun d hd => (ih d hd).1, lay_all fun d hd => (ih d hd).2.1, by
      rw [toP, PyData.depth]
      exact Nat.succ_le_succ (dep_all fun d hd => (ih d hd).2.2)⟩
  | n + 1, .tpl ds, h => by
    have ih := fun d hd => Pl.all (h.2 d hd)
    exact ⟨cfs_all fun d hd => (ih d hd).1, lay_all fun d hd => (ih d hd).2.1, by
      rw [toP, PyData.depth]
      exact Nat.succ_le_succ (dep_all fun d hd => (ih d hd).2.2)⟩
  | 0, .lst _, h => h.elim
  | 0, .tup _, h => h.elim
  | 0, .tpl _, h => h.elim
  | 0, .cel _, h => h.elim
  | _ + 1, .cel _, h => h.elim
  | 0, .lck _, h => h.elim
  | _ + 1, .lck _, h => h.elim
  | 0, .ins _ _ _, h => h.elim
  | 0, .dct _ _, h => h.elim
  | 0, .fn _, h => h.elim
  | _ + 1, .ins _ _ _, h => h.elim
  | _ + 1, .dct _ _, h => h.elim
  | _ + 1, .fn _, h => h.elim
theorem Pl.eqOk {n : Nat} {d : D} (h : Pl n d) (hn : n ≤ 64 := by omega) : eqOk d = true := by
  obtain ⟨h1, h2, h3⟩ := h.all
  unfold CT.eqOk SeqAt.shaped
  rw [h1, h2, decide_eq_true (Nat.le_trans h3 hn)]
  rfl
theorem eq_self {n : Nat} {d : D} {m : Ms} (h : Pl n d) (hn : n ≤ 64 := by omega) : oEq d d m = .ok (.bl true) m := by
  unfold oEq
  rw [h.eqOk hn, Bool.and_self, if_pos rfl, SeqAt.eqv_refl _ h.all.2.1]
theorem ne_self {n : Nat} {d : D} {m : Ms} (h : Pl n d) (hn : n ≤ 64 := by omega) : oNe d d m = .ok (.bl false) m := by
  unfold oNe
  rw [h.eqOk hn, Bool.and_self, if_pos rfl, SeqAt.eqv_refl _ h.all.2.1]
  rfl
theorem Pl.mono : ∀ {n k : Nat} {d : D}, Pl n d → n ≤ k → Pl k d
  | n, k, .non, _, _ => pl_non
  | n, k, .bl _, _, _ => pl_bl
  | n, k, .int _, _, _ => pl_int
  | n, k, .str _, h, _ => pl_str h.str
  | n + 1, k + 1, .lst ds, h, hk => pl_lst h.1 fun x hx => (h.2 x hx).mono (by omega)
  | n + 1, k + 1, .tup ds, h, hk => pl_tup h.1 fun x hx => (h.2 x hx).mono (by omega)
  | n + 1, k + 1, .tpl ds, h, hk => ⟨h.1, fun x hx => (h.2 x hx).mono (by omega)⟩
  | _ + 1, 0, _, _, hk => by omega
  | 0, _, .lst _, h, _ => h.elim
  | 0, _, .tup _, h, _ => h.elim
  | 0, _, .tpl _, h, _ => h.elim
  | 0, _, .cel _, h, _ => h.elim
  | _ + 1, _, .cel _, h, _ => h.elim
  | 0, _, .lck _, h, _ => h.elim
  | _ + 1, _, .lck _, h, _ => h.elim
  | 0, _, .ins _ _ _, h, _ => h.elim
  | 0, _, .dct _ _, h, _ => h.elim
  | 0, _, .fn _, h, _ => h.elim
  | _ + 1, _, .ins _ _ _, h, _ => h.elim
  | _ + 1, _, .dct _ _, h, _ => h.elim
  | _ + 1, _, .fn _, h, _ => h.elim
/-! arguments -/
section
variable {κ : Type} {a b c d x y z : κ} {us ds ws : List κ}
@[simp] theorem sel_0 : sel [] us ds ws = [] := rfl
@[simp] theorem sel_p0 {r : List Src} : sel (.p 0 :: r) (a :: us) ds ws = a :: sel r (a :: us) ds ws := rfl
@[simp] theorem sel_p1 {r : List Src} : sel (.p 1 :: r) (a :: b :: us) ds ws = b :: sel r (a :: b :: us) ds ws := rfl
@[simp] theorem sel_p2 {r : List Src} : sel (.p 2 :: r) (a :: b :: c :: us) ds ws = c :: sel r (a :: b :: c :: us) ds ws := rfl
@[simp] theorem sel_p3 {r : List Src} : sel (.p 3 :: r) (a :: b :: c :: d :: us) ds ws = d :: sel r (a :: b :: c :: d :: us) ds ws := rfl
@[simp] theorem sel_p4 {r : List Src} : sel (.p 4 :: r) (a :: b :: c :: d :: x :: us) ds ws = x :: sel r (a :: b :: c :: d :: x :: us) ds ws := rfl
@[simp] theorem sel_p5 {r : List Src} : sel (.p 5 :: r) (a :: b :: c :: d :: x :: y :: us) ds ws = y :: sel r (a :: b :: c :: d :: x :: y :: us) ds ws := rfl
@[simp] theorem sel_d0 {r : List Src} : sel (.d 0 :: r) us (a :: ds) ws = a :: sel r us (a :: ds) ws := rfl
@[simp] theorem sel_d1 {r : List Src} : sel (.d 1 :: r) us (a :: b :: ds) ws = b :: sel r us (a :: b :: ds) ws := rfl
@[simp] theorem sel_d2 {r : List Src} : sel (.d 2 :: r) us (a :: b :: c :: ds) ws = c :: sel r us (a :: b :: c :: ds) ws := rfl
@[simp] theorem sel_k0 {r : List Src} : sel (.k 0 :: r) us ds (a :: ws) = a :: sel r us ds (a :: ws) := rfl
@[simp] theorem sel_k1 {r : List Src} : sel (.k 1 :: r) us ds (a :: b :: ws) = b :: sel r us ds (a :: b :: ws) := rfl
@[simp] theorem sel_k2 {r : List Src} : sel (.k 2 :: r) us ds (a :: b :: c :: ws) = c :: sel r us ds (a :: b :: c :: ws) := rfl
end
end CT
namespace CT
open PySem L2
/-! ## parts as numbers -/
def Lo (p : Int × Int) : Prop := 0 < p.2 ∧ Int.gcd p.1 p.2 = 1
def qv (p : Int × Int) : Rat := (p.1 : Rat) / (p.2 : Rat)
theorem Lo.ne {p : Int × Int} (h : Lo p) : (p.2 : Rat) ≠ 0 := by
  have := h.1
  intro z
  have := Rat.intCast_inj.mp (z.trans Rat.intCast_zero.symm)
  omega
theorem cast_ne {b : Int} (h : b ≠ 0) : (b : Rat) ≠ 0 := fun z => h (Rat.intCast_inj.mp (z.trans Rat.intCast_zero.symm))
theorem qv_inj {p q : Int × Int} (hp : Lo p) (hq : Lo q) (h : qv p = qv q) : p = q := by
  unfold qv at h
  have e : (p.1 : Rat) * (q.2 : Rat) = (q.1 : Rat) * (p.2 : Rat) := by
    have h1 := hp.ne
    have h2 := hq.ne
    grind
  have e' : p.1 * q.2 = q.1 * p.2 := by
    rw [← Rat.intCast_mul, ← Rat.intCast_mul] at e
    exact Rat.intCast_inj.mp e
  have dv : ∀ {a b c d : Int}, Int.gcd a b = 1 → a * d = c * b → b ∣ d := fun {a b c d} g e => by
    have g' : Nat.Coprime b.natAbs a.natAbs := by
      rw [Nat.coprime_comm]
      exact g
    refine Int.natAbs_dvd_natAbs.mp (Nat.Coprime.dvd_of_dvd_mul_left g' ?_)
    rw [← Int.natAbs_mul, e, Int.natAbs_mul]
    exact Nat.dvd_mul_left ..
  have d1 : p.2 ∣ q.2 := dv hp.2 e'
  have d2 : q.2 ∣ p.2 := dv hq.2 e'.symm
  have e2 : p.2 = q.2 := Int.le_antisymm (Int.le_of_dvd hq.1 d1) (Int.le_of_dvd hp.1 d2)
  have e1 : p.1 = q.1 := by
    rw [e2] at e'
    exact Int.eq_of_mul_eq_mul_right (by have := hq.1; omega) e'
  exact Prod.ext e1 e2
theorem lowF_lo {a b : Int} (h0 : b ≠ 0) : Lo (lowF a b) := by
  have hg : 0 < Int.gcd a b := Int.gcd_pos_of_ne_zero_right _ h0
  have hb : (Bits ((max a.natAbs b.natAbs) + 1) (lowF a b)) := by
    refine lowF_bits ?_ ?_ h0
    · exact Nat.lt_of_lt_of_le (Nat.lt_two_pow_self) (Nat.pow_le_pow_right (by decide) (by omega))
    · exact Nat.lt_of_lt_of_le (Nat.lt_two_pow_self) (Nat.pow_le_pow_right (by decide) (by omega))
  refine ⟨hb.2.2, ?_⟩
  obtain ⟨⟨x, hx⟩, ⟨y, hy⟩⟩ := gcd_dvd a b
  have e1 : Int.gcd x y = 1 := by
    have h1 : Int.gcd (((Int.gcd a b : Nat) : Int) * x) (((Int.gcd a b : Nat) : Int) * y) = Int.gcd a b := by rw [← hx, ← hy]
    rw [Int.gcd_mul_left, Int.natAbs_natCast] at h1
    exact Nat.eq_of_mul_eq_mul_left hg (by omega)
  unfold lowF
  simp only
  have e2 : ∀ s : Int, s * a / ((Int.gcd a b : Nat) : Int) = s * x := fun s => by
    conv => lhs; lhs; rw [hx]
    rw [Int.mul_left_comm, Int.mul_ediv_cancel_left _ (by omega)]
  have e3 : ∀ s : Int, s * b / ((Int.gcd a b : Nat) : Int) = s * y := fun s => by
    conv => lhs; lhs; rw [hy]
    rw [Int.mul_left_comm, Int.mul_ediv_cancel_left _ (by omega)]
  rw [e2, e3]
  split <;> simp [e1]
theorem qv_lowF {a b : Int} (h0 : b ≠ 0) : qv (lowF a b) = (a : Rat) / (b : Rat) := by
  have hg : 0 < Int.gcd a b := Int.gcd_pos_of_ne_zero_right _ h0
  obtain ⟨⟨x, hx⟩, ⟨y, hy⟩⟩ := gcd_dvd a b
  have e2 : ∀ s : Int, s * a / ((Int.gcd a b : Nat) : Int) = s * x := fun s => by
    conv => lhs; lhs; rw [hx]
    rw [Int.mul_left_comm, Int.mul_ediv_cancel_left _ (by omega)]
  have e3 : ∀ s : Int, s * b / ((Int.gcd a b : Nat) : Int) = s * y := fun s => by
    conv => lhs; lhs; rw [hy]
    rw [Int.mul_left_comm, Int.mul_ediv_cancel_left _ (by omega)]
  unfold qv lowF
  simp only
  rw [e2, e3]
  have hy0 : y ≠ 0 := fun z => h0 (by rw [hy, z, Int.mul_zero])
  have hyr := cast_ne hy0
  have hgr : (((Int.gcd a b : Nat) : Int) : Rat) ≠ 0 := cast_ne (by omega)
  have hbr := cast_ne h0
  have ha : (a : Rat) = (((Int.gcd a b : Nat) : Int) : Rat) * (x : Rat) := by rw [← Rat.intCast_mul, ← hx]
  have hb : (b : Rat) = (((Int.gcd a b : Nat) : Int) : Rat) * (y : Rat) := by rw [← Rat.intCast_mul, ← hy]
  rw [ha, hb]
  generalize (((Int.gcd a b : Nat) : Int) : Rat) = g at *
  split
  · rw [Int.one_mul, Int.one_mul]
    grind
  · rw [Int.neg_mul, Int.neg_mul, Int.one_mul, Int.one_mul, Rat.intCast_neg, Rat.intCast_neg]
    grind
theorem mul_ne {p q : Int × Int} (hp : Lo p) (hq : Lo q) : p.2 * q.2 ≠ 0 := Int.ne_of_gt (Int.mul_pos hp.1 hq.1)
theorem plusF_lo {p q : Int × Int} (hp : Lo p) (hq : Lo q) : Lo (plusF p q) := lowF_lo (mul_ne hp hq)
theorem lessF_lo {p q : Int × Int} (hp : Lo p) (hq : Lo q) : Lo (lessF p q) := lowF_lo (mul_ne hp hq)
theorem timesF_lo {p q : Int × Int} (hp : Lo p) (hq : Lo q) : Lo (timesF p q) := lowF_lo (mul_ne hp hq)
theorem overF_lo {p q : Int × Int} (hp : Lo p) (h0 : q.1 ≠ 0) : Lo (overF p q) := lowF_lo (Int.mul_ne_zero (by have := hp.1; omega) h0)
theorem qv_plus {p q : Int × Int} (hp : Lo p) (hq : Lo q) : qv (plusF p q) = qv p + qv q := by
  unfold plusF
  rw [qv_lowF (mul_ne hp hq)]
  have h1 := hp.ne
  have h2 := hq.ne
  unfold qv
  rw [Rat.intCast_add, Rat.intCast_mul, Rat.intCast_mul, Rat.intCast_mul]
  grind
theorem qv_less {p q : Int × Int} (hp : Lo p) (hq : Lo q) : qv (lessF p q) = qv p - qv q := by
  unfold lessF
  rw [qv_lowF (mul_ne hp hq)]
  have h1 := hp.ne
  have h2 := hq.ne
  unfold qv
  rw [Rat.intCast_sub, Rat.intCast_mul, Rat.intCast_mul, Rat.intCast_mul]
  grind
theorem qv_times {p q : Int × Int} (hp : Lo p) (hq : Lo q) : qv (timesF p q) = qv p * qv q := by
  unfold timesF
  rw [qv_lowF (mul_ne hp hq)]
  have h1 := hp.ne
  have h2 := hq.ne
  unfold qv
  rw [Rat.intCast_mul, Rat.intCast_mul]
  grind
theorem qv_over {p q : Int × Int} (hp : Lo p) (hq : Lo q) (h0 : q.1 ≠ 0) : qv (overF p q) = qv p / qv q := by
  unfold overF
  rw [qv_lowF (Int.mul_ne_zero (by have := hp.1; omega) h0)]
  have h1 := hp.ne
  have h2 := hq.ne
  have h3 := cast_ne h0
  unfold qv
  rw [Rat.intCast_mul, Rat.intCast_mul]
  grind
def negP (p : Int × Int) : Int × Int := (0 - p.1, p.2)
theorem negP_lo {p : Int × Int} (h : Lo p) : Lo (negP p) := ⟨h.1, by
  show Int.gcd (0 - p.1) p.2 = 1
  rw [Int.zero_sub, Int.neg_gcd]
  exact h.2⟩
theorem qv_neg {p : Int × Int} (h : Lo p) : qv (negP p) = - qv p := by
  have h1 := h.ne
  unfold qv negP
  simp only
  rw [Int.zero_sub, Rat.intCast_neg]
  grind
theorem lo_0 : Lo (0, 1) := ⟨by decide, by decide⟩
theorem lo_1 : Lo (1, 1) := ⟨by decide, by decide⟩
theorem lo_int (i : Int) : Lo (i, 1) := ⟨show (0 : Int) < 1 by decide, by simp⟩
@[simp] theorem qv_int (i : Int) : qv (i, 1) = (i : Rat) := by
  unfold qv
  simp only
  rw [Rat.intCast_one]
  grind
theorem qv_0 : qv (0, 1) = 0 := by rw [qv_int]; rfl
theorem less_0 {p : Int × Int} (h : Lo p) : lessF (0, 1) p = negP p := qv_inj (lessF_lo lo_0 h) (negP_lo h) (by rw [qv_less lo_0 h, qv_neg h, qv_0]; grind)
end CT
namespace CT
open PySem L2
/-! ## three names at once -/
@[simp] theorem ev_par3 {i j l : Nat} {a b c : Fn D} {σ : Sd} {m : Ms} : xPar3 i j l a b c σ m = (a σ m).go σ fun x m1 => (b σ m1).go σ fun y m2 => (c σ m2).go σ fun z m3 => .nx (((σ.set i (some x)).set j (some y)).set l (some z)) m3 := rfl
end CT
namespace CT
open PySem L2
/-! ## parts and arrows, and how big they grow -/
abbrev Q := Int × Int
abbrev Ar := Q × Q
/-- a part in lowest terms, of so many bits -/
def Gd (n : Nat) (p : Q) : Prop := Bits n p ∧ Lo p
theorem Gd.mono {n k : Nat} {p : Q} (h : Gd n p) (hk : n ≤ k) : Gd k p := ⟨h.1.mono hk, h.2⟩
theorem c_add {a b : Int} {n : Nat} (ha : a.natAbs < 2 ^ n) (hb : b.natAbs < 2 ^ n) : (a + b).natAbs < 2 ^ (n + 1) := by
  have := Int.natAbs_add_le a b
  rw [Nat.pow_succ]
  omega
theorem c_sub {a b : Int} {n : Nat} (ha : a.natAbs < 2 ^ n) (hb : b.natAbs < 2 ^ n) : (a - b).natAbs < 2 ^ (n + 1) := by
  have := Int.natAbs_sub_le a b
  rw [Nat.pow_succ]
  omega
theorem c_mul {a b : Int} {n k : Nat} (ha : a.natAbs < 2 ^ n) (hb : b.natAbs < 2 ^ k) : (a * b).natAbs < 2 ^ (n + k) := wide_lt ha hb
theorem c_up {a : Int} {n k : Nat} (ha : a.natAbs < 2 ^ n) (h : n ≤ k) : a.natAbs < 2 ^ k := Nat.lt_of_lt_of_le ha (Nat.pow_le_pow_right (by decide) h)
theorem Bits.pos {n : Nat} {p : Q} (h : Bits n p) : 0 < n := by
  rcases Nat.eq_zero_or_pos n with rfl | h0
  · have := h.2.1; have := h.2.2; simp at *; omega
  · exact h0
section
variable {n k : Nat} {p q : Q}
theorem bz_plus0 (hp : Bits n p) (hq : Bits k q) : (p.1 * q.2 + q.1 * p.2).natAbs < 2 ^ (n + k + 1) := c_add (c_mul hp.1 hq.2.1) (by rw [Nat.add_comm]; exact c_mul hq.1 hp.2.1)
theorem bz_less0 (hp : Bits n p) (hq : Bits k q) : (p.1 * q.2 - q.1 * p.2).natAbs < 2 ^ (n + k + 1) := c_sub (c_mul hp.1 hq.2.1) (by rw [Nat.add_comm]; exact c_mul hq.1 hp.2.1)
theorem bz_un (hp : Bits n p) (hq : Bits k q) : (p.2 * q.2).natAbs < 2 ^ (n + k) := c_mul hp.2.1 hq.2.1
theorem bz_ne (hp : Bits n p) (hq : Bits k q) : p.2 * q.2 ≠ 0 := Int.ne_of_gt (Int.mul_pos hp.2.2 hq.2.2)
theorem bz_plus (hp : Bits n p) (hq : Bits k q) : Bits (n + k + 1) (plusF p q) := lowF_bits (bz_plus0 hp hq) (c_up (bz_un hp hq) (by omega)) (bz_ne hp hq)
theorem bz_less (hp : Bits n p) (hq : Bits k q) : Bits (n + k + 1) (lessF p q) := lowF_bits (bz_less0 hp hq) (c_up (bz_un hp hq) (by omega)) (bz_ne hp hq)
theorem bz_times (hp : Bits n p) (hq : Bits k q) : Bits (n + k) (timesF p q) := lowF_bits (c_mul hp.1 hq.1) (bz_un hp hq) (bz_ne hp hq)
theorem bz_over (hp : Bits n p) (hq : Bits k q) (h0 : q.1 ≠ 0) : Bits (n + k) (overF p q) := lowF_bits (c_mul hp.1 hq.2.1) (c_mul hp.2.1 hq.1) (Int.mul_ne_zero (Int.ne_of_gt hp.2.2) h0)
theorem Gd.plus (hp : Gd n p) (hq : Gd k q) : Gd (n + k + 1) (plusF p q) := ⟨bz_plus hp.1 hq.1, plusF_lo hp.2 hq.2⟩
theorem Gd.less (hp : Gd n p) (hq : Gd k q) : Gd (n + k + 1) (lessF p q) := ⟨bz_less hp.1 hq.1, lessF_lo hp.2 hq.2⟩
theorem Gd.times (hp : Gd n p) (hq : Gd k q) : Gd (n + k) (timesF p q) := ⟨bz_times hp.1 hq.1, timesF_lo hp.2 hq.2⟩
theorem Gd.over (hp : Gd n p) (hq : Gd k q) (h0 : q.1 ≠ 0) : Gd (n + k) (overF p q) := ⟨bz_over hp.1 hq.1 h0, overF_lo hp.2 h0⟩
theorem Gd.neg (hp : Gd n p) : Gd n (negP p) := ⟨⟨by show (0 - p.1).natAbs < _; have := hp.1.1; omega, hp.1.2⟩, negP_lo hp.2⟩
/-- the products may be made -/
theorem k_mul {a b : Int} (ha : a.natAbs < 2 ^ n) (hb : b.natAbs < 2 ^ k) (h0 : 0 < n) (h1 : 0 < k) (h : n + k ≤ 8900) : mulOk a b = true := mulOk_of n k ha hb h0 h1 (by omega)
theorem k_12 (hp : Bits n p) (hq : Bits k q) (h : n + k ≤ 8900) : mulOk p.1 q.2 = true := k_mul hp.1 hq.2.1 hp.pos hq.pos h
theorem k_22 (hp : Bits n p) (hq : Bits k q) (h : n + k ≤ 8900) : mulOk p.2 q.2 = true := k_mul hp.2.1 hq.2.1 hp.pos hq.pos h
theorem k_11 (hp : Bits n p) (hq : Bits k q) (h : n + k ≤ 8900) : mulOk p.1 q.1 = true := k_mul hp.1 hq.1 hp.pos hq.pos h
theorem k_21 (hp : Bits n p) (hq : Bits k q) (h : n + k ≤ 8900) : mulOk p.2 q.1 = true := k_mul hp.2.1 hq.1 hp.pos hq.pos h
end
theorem gd_0 : Gd 1 (0, 1) := ⟨by unfold Bits; decide, lo_0⟩
theorem gd_1 : Gd 1 (1, 1) := ⟨by unfold Bits; decide, lo_1⟩
theorem gd_int {n : Nat} {i : Int} (h : i.natAbs < 2 ^ n) (hn : 0 < n) : Gd n (i, 1) := ⟨⟨h, Nat.one_lt_two_pow (by omega), show (0 : Int) < 1 by decide⟩, lo_int i⟩
theorem gd_low {n : Nat} {a b : Int} (ha : a.natAbs < 2 ^ n) (hb : b.natAbs < 2 ^ n) (h0 : b ≠ 0) : Gd n (lowF a b) := ⟨lowF_bits ha hb h0, lowF_lo h0⟩
def dA (a : Ar) : D := .tup [dP a.1, dP a.2]
def GA (n : Nat) (a : Ar) : Prop := Gd n a.1 ∧ Gd n a.2
theorem GA.mono {n k : Nat} {p : Ar} (h : GA n p) (hk : n ≤ k) : GA k p := ⟨h.1.mono hk, h.2.mono hk⟩
section
variable {m : Ms} {n : Nat} {p : Q} {a : Ar}
@[simp] theorem dr_dP : dr m (dP p) = dP p := rfl
@[simp] theorem dr_dA : dr m (dA a) = dA a := rfl
@[simp] theorem cf_dA : D.cf n (dA a) = true := rfl
@[simp] theorem ix_dP0 : oIx (dP p) (.int 0) m = .ok (.int p.1) m := by simp [dP]
@[simp] theorem ix_dP1 : oIx (dP p) (.int 1) m = .ok (.int p.2) m := by simp [dP]
@[simp] theorem ix_dA0 : oIx (dA a) (.int 0) m = .ok (dP a.1) m := by simp [dA]
@[simp] theorem ix_dA1 : oIx (dA a) (.int 1) m = .ok (dP a.2) m := by simp [dA]
@[simp] theorem frz_dP : frz n m (dP p) = some (dP p) := rfl
@[simp] theorem frz_dA : frz n m (dA a) = some (dA a) := rfl
theorem gT_dA {r : Fgs} {σ : Sd} : gT 2 r (dA a) σ m = r [dP a.1, dP a.2] σ m := rfl
end
theorem pl_dA {n : Nat} {a : Ar} : Pl (n + 2) (dA a) := pl_tup (by simp) fun x hx => by
  simp at hx
  rcases hx with rfl | rfl <;> exact pl_dP
def sumA (a b : Ar) : Ar := (plusF a.1 b.1, plusF a.2 b.2)
def offA (a b : Ar) : Ar := (lessF a.1 b.1, lessF a.2 b.2)
def madeA (a b : Ar) : Ar := (lessF (timesF a.1 b.1) (timesF a.2 b.2), plusF (timesF a.1 b.2) (timesF a.2 b.1))
def mateA (a : Ar) : Ar := (a.1, negP a.2)
def oftenA (a : Ar) (m : Q) : Ar := (timesF a.1 m, timesF a.2 m)
def weightA (a : Ar) : Q := plusF (timesF a.1 a.1) (timesF a.2 a.2)
section
variable {n k : Nat} {a b : Ar} {p : Q}
theorem GA.sum (ha : GA n a) (hb : GA k b) : GA (n + k + 1) (sumA a b) := ⟨ha.1.plus hb.1, ha.2.plus hb.2⟩
theorem GA.off (ha : GA n a) (hb : GA k b) : GA (n + k + 1) (offA a b) := ⟨ha.1.less hb.1, ha.2.less hb.2⟩
theorem GA.made (ha : GA n a) (hb : GA k b) : GA (2 * (n + k) + 1) (madeA a b) := ⟨((ha.1.times hb.1).less (ha.2.times hb.2)).mono (by omega), ((ha.1.times hb.2).plus (ha.2.times hb.1)).mono (by omega)⟩
theorem GA.mate (ha : GA n a) : GA n (mateA a) := ⟨ha.1, ha.2.neg⟩
theorem GA.often (ha : GA n a) (hp : Gd k p) : GA (n + k) (oftenA a p) := ⟨ha.1.times hp, ha.2.times hp⟩
theorem GA.weight (ha : GA n a) : Gd (4 * n + 1) (weightA a) := ((ha.1.times ha.1).plus (ha.2.times ha.2)).mono (by omega)
end
end CT
namespace CT
open PySem L2
/-! ## holding parts and arrows against each other -/
theorem eqv_dP (p q : Q) : PyData.eqv (toP (dP p)) (toP (dP q)) = decide (p = q) := by
  obtain ⟨a, b⟩ := p
  obtain ⟨c, d⟩ := q
  simp only [dP, toP, toPs, PyData.eqv, PyData.eqvAll, dec_beq, Bool.and_true, Prod.mk.injEq]
  rw [Bool.decide_and]
theorem eqv_dA (p q : Ar) : PyData.eqv (toP (dA p)) (toP (dA q)) = decide (p = q) := by
  obtain ⟨a, b⟩ := p
  obtain ⟨c, d⟩ := q
  show PyData.eqv (.tuple [toP (dP a), toP (dP b)]) (.tuple [toP (dP c), toP (dP d)]) = _
  rw [PyData.eqv, PyData.eqvAll, PyData.eqvAll, PyData.eqvAll, eqv_dP, eqv_dP, Bool.and_true]
  simp
section
variable {m : Ms}
@[simp] theorem eq_dP {p q : Q} : oEq (dP p) (dP q) m = .ok (.bl (decide (p = q))) m := by
  unfold oEq
  rw [(pl_dP (n := 0)).eqOk, (pl_dP (n := 0)).eqOk, Bool.and_self, if_pos rfl, eqv_dP]
@[simp] theorem ne_dP {p q : Q} : oNe (dP p) (dP q) m = .ok (.bl (!decide (p = q))) m := by
  unfold oNe
  rw [(pl_dP (n := 0)).eqOk, (pl_dP (n := 0)).eqOk, Bool.and_self, if_pos rfl, eqv_dP]
@[simp] theorem eq_dA {p q : Ar} : oEq (dA p) (dA q) m = .ok (.bl (decide (p = q))) m := by
  unfold oEq
  rw [(pl_dA (n := 0)).eqOk, (pl_dA (n := 0)).eqOk, Bool.and_self, if_pos rfl, eqv_dA]
@[simp] theorem ne_dA {p q : Ar} : oNe (dA p) (dA q) m = .ok (.bl (!decide (p = q))) m := by
  unfold oNe
  rw [(pl_dA (n := 0)).eqOk, (pl_dA (n := 0)).eqOk, Bool.and_self, if_pos rfl, eqv_dA]
end
end CT
namespace CT
open PySem PySem.W PySem.Spec PySem.Calls PyProof.Rows
/-- an exception held against a tuple of classes, however long -/
theorem exm_tupL {M : Model} {K : Frag} {cs : List Value} {cls : Value} {tp e : Addr} {b : Bool} {h : Heap} (X : K.In h) (LT : Looks M h (typeOf (.ref e)) cls) {dd : Option Addr} {nn : Nat} {sl : Array (Option Value)} (hp : h.get? tp = some { cls := .type "tuple", dict := dd, data := .seq cs.toArray nn, slots := sl }) (hx : exmAny K cls cs = some b) :
    Looks M h (excMatches (.ref e) (.ref tp)) b := by
  intro A Q E s k₀ q
  obtain ⟨hh, g, d, tk, os⟩ := s
  have k : ∀ b o, h.get? b = some o → hh.get? b = some o := k₀
  have LT0 : Looks M h (isInstance (.ref tp) (.type "tuple")) true := ((Looks.ld hp).andThen .now).andThen (Looks.of_pure isSubtype_tuple_tuple)
  have LT := LT.keeps k
  have LT0 := LT0.keeps k
  have hp' := k _ _ hp
  unfold excMatches
  refine wpAny_bind (LT0.at ?_)
  dsimp only
  rw [if_pos rfl]
  refine wpAny_bind (wpAny_seqItems hp' rfl ?_)
  dsimp only [Option.getD_some, Option.getD]
  refine wpAny_bind (wpAny_pure ?_)
  refine wpAny_bind (wpAny_mono (Q := fun _ s' => s' = ⟨hh, g, d, tk, os⟩) ?_ (fun u s' hs => ?_) fun _ _ z => z)
  · clear hp hp' LT0 q
    show wpAny M A (forIn cs _ _) _ E _
    induction cs generalizing b with
    | nil => exact wpAny_pure rfl
    | cons c r ih =>
      obtain ⟨b1, d1, h1, h2, -⟩ := exmAny_cons hx
      obtain ⟨e1, _⟩ := exm_cls (M := M) X h1
      have e1 := e1.keeps k
      have hr := ih h2
      rw [List.forIn_cons]
      refine wpAny_bind (wpAny_bind (e1.at ?_))
      rw [if_neg (by decide)]
      exact wpAny_pure hr
  · subst hs
    refine wpAny_bind (LT.at ?_)
    refine wpAny_bind (wpAny_mono (Q := fun r s' => s' = ⟨hh, g, d, tk, os⟩ ∧ r.1 = if b = true then some true else none) ?_ (fun u s' hs => ?_) fun _ _ z => z)
    · clear hp hp' LT0 q
      show wpAny M A (forIn cs _ _) _ E _
      induction cs generalizing b with
      | nil =>
        have : some false = some b := hx
        cases this
        exact wpAny_pure ⟨rfl, rfl⟩
      | cons c r ih =>
        obtain ⟨b1, d1, h1, h2, rfl⟩ := exmAny_cons hx
        obtain ⟨_, S1⟩ := exm_cls (M := M) X h1
        have S1 := S1.keeps k
        have hr := ih h2
        rw [List.forIn_cons]
        refine wpAny_bind (wpAny_bind (S1.at ?_))
        cases b1 with
        | true =>
          rw [if_pos rfl]
          exact wpAny_pure (wpAny_pure ⟨rfl, rfl⟩)
        | false =>
          rw [if_neg (by decide)]
          rw [Bool.false_or]
          exact wpAny_pure hr
    · obtain ⟨rfl, e⟩ := hs
      rw [e]
      cases b with
      | true => exact wpAny_pure q
      | false => exact wpAny_pure q
end CT
namespace CT
open PySem PySem.Spec PyProof.Rows L2
/-! ## try, with several clauses, tuples of classes, a name -/
theorem flyZ_keeps {B h h' : Heap} {l : List Env} {e : Addr} {Z : Obj → Prop} (x : HandSPX.FlyingZ B l e Z h) (k : ∀ b o, h.get? b = some o → h'.get? b = some o) : HandSPX.FlyingZ B l e Z h' := by
  obtain ⟨f1, f2, f3, oe, vs, T, oT, ts, he, hz, hd, h1, hnT, hTe, hT, hdT, h3⟩ := x
  exact ⟨fun b o q => k b o (f1 b o q), f2, f3.of_keeps fun b o q _ => ⟨o, k b o q, rfl⟩, oe, vs, T, oT, ts, k _ _ he, hz, hd, h1, hnT, hTe, k _ _ hT, hdT, h3⟩
inductive NamesAll (X : Cx) : List Expr → List Value → Prop
  | nil : NamesAll X [] []
  | cons {x : Str} {c : Value} {p : Pos} {es : List Expr} {cs : List Value} : Names X x c → NamesAll X es cs → NamesAll X (.Name x p :: es) (c :: cs)
theorem NamesAll.length {X : Cx} : ∀ {es : List Expr} {cs : List Value}, NamesAll X es cs → es.length = cs.length
  | _, _, .nil => rfl
  | _, _, .cons _ r => by simp [r.length]
inductive TestOk (X : Cx) : Expr → List Value → Prop
  | one {x : Str} {c : Value} {p : Pos} : Names X x c → TestOk X (.Name x p) [c]
  | tup {es : List Expr} {cs : List Value} {kk : Nat} {p : Pos} : NamesAll X es cs → cs.length ≤ 100000 → TestOk X (.Tuple es kk p) cs
section
variable {X : Cx} {a : Addr} {pn : List (Addr × Obj)} {σ : L2.St} {H : Hp} {s : Shared}
theorem name_run {x : Str} {c : Value} {p : Pos} {Q : Value → Shared → Prop} {E : Value → Shared → Prop} (hc : Names X x c) (S : Inv (X.suite a pn) [] σ H s) (q : Q c s) : wpAny (model X.prog X.w) (X.A.mark (some (.ref a))) (eval (.Name x p) X.env) Q E s := by
  obtain ⟨hg, hdbg, hm | ⟨hm, hv, hnn⟩⟩ := hc
  · exact ld_glob (X := X.suite a pn) S hg hm q hdbg
  · exact ld_blt (X := X.suite a pn) S hg hm hv q hnn hdbg
theorem names_run {pos : Pos} {E : Value → Shared → Prop} (S : Inv (X.suite a pn) [] σ H s) : ∀ {es : List Expr} {cs : List Value} {Q : List Value → Shared → Prop}, NamesAll X es cs → Q cs s → wpAny (model X.prog X.w) (X.A.mark (some (.ref a))) (spliced (backTo pos (starEach es X.env))) Q E s
  | _, _, _, .nil, q => wpAny_items_nil q
  | _, _, _, .cons hc r, q => wpAny_items_cons (name_run hc S (names_run S r q)) (by rfl)
theorem test_run {tt : Expr} {cs : List Value} {cls : Value} {b : Bool} {Q : Bool → Shared → Prop} {E : Value → Shared → Prop} (hT : TestOk X tt cs) (S : Inv (X.suite a pn) [] σ H s)
    (LT : PySem.W.Looks (model X.prog X.w) s.heap (typeOf (.ref a)) cls) (hx : PySem.W.exmAny X.K cls cs = some b) (q : ∀ h', (∀ b o, s.heap.get? b = some o → h'.get? b = some o) → Q b { s with heap := h' }) :
    wpAny (model X.prog X.w) (X.A.mark (some (.ref a))) (eval tt X.env) (fun c s1 => wpAny (model X.prog X.w) (X.A.mark (some (.ref a))) (excMatches (.ref a) c) Q E s1) E s := by
  cases hT with
  | one hc =>
    refine name_run hc S ?_
    obtain ⟨b1, d1, h1, h2, rfl⟩ := PySem.W.exmAny_cons hx
    have : some false = some d1 := h2
    cases this
    rw [Bool.or_false] at q
    exact (PySem.W.exm_one S.kIn LT h1).here (q s.heap fun _ _ z => z)
  | @tup es cs kk p hn hl =>
    refine wpAny_Tuple (names_run S hn ?_)
    refine ⟨Evl.sz_of hl, ?_⟩
    have kp : ∀ q o, s.heap.get? q = some o → (s.heap.push { cls := .type "tuple", data := .seq cs.toArray }).get? q = some o := fun _ _ z => Heap.get?_push_of_some _ z
    exact (exm_tupL (S.kIn.keeps kp) (LT.keeps kp) (Heap.get?_push_size s.heap rfl) hx).here (q _ kp)
end
/-- what the clauses wish of an exception of the body, one after the other; slot i is their name's -/
def wManyA (K : PySem.W.Frag) (Wout : WX) (D : Ends) (i nn : Nat) : List (List Value × (Addr → Value → Option Addr → TS)) → WX
  | [] => Wout
  | (cs, ts) :: r => fun cls d σ H => ∃ b, PySem.W.exmAny K cls cs = some b ∧
    (b = true → ∀ a, H a = none → σ.length = nn → ts a cls d { nx := fun σ' H' => D.nx (σ'.set i none) H', rt := D.rt, bk := fun σ' H' => D.bk (σ'.set i none) H', ct := fun σ' H' => D.ct (σ'.set i none) H' } (σ.set i (some (.ref a))) H) ∧
    (b = false → wManyA K Wout D i nn r cls d σ H)
inductive HdsA (X : Cx) (n : Str) : List ExceptHandler → List (List Value × (Addr → Value → Option Addr → TS)) → Prop
  | nil : HdsA X n [] []
  | cons {tt : Expr} {cs : List Value} {ts : Addr → Value → Option Addr → TS} {b₀ : Stmt} {suite : List Stmt} {pos' : Pos} {hds : List ExceptHandler} {l : List (List Value × (Addr → Value → Option Addr → TS))} (hc : TestOk X tt cs)
      (hsu : ∀ (a : Addr) (oe : Obj) (cls : Value) (d : Option Addr) (pn : List (Addr × Obj)), Zc cls d oe → (∃ vs, oe.data = .fields vs) → PSs (X.suite a ((a, oe) :: pn)) (b₀ :: suite) (ts a cls d)) (r : HdsA X n hds l) :
      HdsA X n (.ExceptHandler (some tt) (some n) (b₀ :: suite) pos' :: hds) ((cs, ts) :: l)
section
variable {X : Cx} {body : List Stmt} {h₀ : ExceptHandler} {hds : List ExceptHandler} {l : List (List Value × (Addr → Value → Option Addr → TS))} {pos : Pos} {tb : WX → TS} {Wout : WX} {i : Nat} {n : Str}
theorem ps_tryA (hs : X.stack = X.env :: X.outer) (hf : X.env.frame = some X.env.locals) (hN : X.N.Nodup) (hi : X.N[i]? = some n) (hln : X.env.kindOf n = some .local) (tk : Takes X Wout)
    (hb : ∀ (W : WX) (pn : List (Addr × Obj)) (xe : Value → Shared → Prop), Takes (X.tr pn xe) W → PassesOwn (model X.prog X.w) X.A X.env xe → PSs (X.tr pn xe) body (tb W))
    (hh : HdsA X n (h₀ :: hds) l) : PS X (.Try body (h₀ :: hds) [] [] pos) (fun D σ H => tb (wManyA X.K Wout D i X.N.length l) D σ H) := by
  refine ⟨fun pins s σ H D I h => ?_⟩
  have ok := I.ok
  have hfr : X.A.frames = some (X.env :: X.outer) := by rw [ok.frames, hs]
  have hloc : Loc X.env.scope n := .inl hln
  refine wpAny_Try_except ?_
  refine wpAny_mono ((hb (wManyA X.K Wout D i X.N.length l) (X.pn ++ pins) (fun e s₁ => wpAny (model X.prog X.w) X.A (noteFrame e X.env) (fun _ s₂ => wpAny (model X.prog X.w) X.A (setFlight e none) (fun _ s₃ =>
    wpAny (model X.prog X.w) X.A (handleBy e X.env (h₀ :: hds)) (SP X pins D) X.xe s₃) X.xe s₂) X.xe s₁) (fun u s' xx => ?_) PassesOwn.looking).run [] s σ H D (I.toTry _) h) (fun f s1 hsp => ?_) (fun e s1 he => he)
  · obtain ⟨a, B, sI, pins', σ', H', cls, d, rfl, J', nb, up, sky, na, os, ag, w⟩ := xx
    have J : Inv X pins σ' H' sI := J'.ofTry ok
    have sky' : Sky B (X.env :: X.outer) a (Zc cls d) X.env.locals s'.heap := by rw [← hs]; exact sky
    show wpAny (model X.prog X.w) X.A (noteFrame (.ref a) X.env) _ _ _
    refine Sky.land Zc.steady hfr hf sky' fun h3 fl3 up3 => ?_
    have notFr : ∀ {h : Heap} {o : Obj} {vs : Array Value}, h.FunFrames B (X.env :: X.outer) → h.get? a = some o → o.data = .fields vs → a ∉ frs (X.env :: X.outer) := fun {h o vs} ff e dd hm => by
      obtain ⟨_, o', e', hnf⟩ := ff.mem hm
      rw [e] at e'; cases e'
      exact hnf _ dd
    have go : ∀ {hds' : List ExceptHandler} {l' : List (List Value × (Addr → Value → Option Addr → TS))}, HdsA X n hds' l' → ∀ h3, HandSPX.FlyingZ B (X.env :: X.outer) a (Zc cls d) h3 → s'.heap.UpToSlots h3 → wManyA X.K Wout D i X.N.length l' cls d σ' H' →
        wpAny (model X.prog X.w) X.A (handleBy (.ref a) X.env hds') (SP X pins D) X.xe { s' with heap := h3 } := by
      intro hds' l' hk
      induction hk with
      | nil =>
        intro h3 fl3 up3 w
        have J3 : Inv X pins σ' H' { s' with heap := h3 } := J.landed nb fl3.1 (up.trans up3) os ag
        refine wpAny_handleBy_nil ?_
        obtain ⟨k1, k2, k3, oe, vs, T, oT, ts', he, hz, hd, h1, hr⟩ := id fl3
        unfold PySem.passOn
        refine wpAny_bind (wpAny_field he hd h1 ?_)
        rw [if_neg (show ¬ ((Value.ref T == Value.none) = true) from by simp)]
        have fin : wpAny (model X.prog X.w) X.A (setFlight (.ref a) X.env.frame) (fun _ s4 => wpAny (model X.prog X.w) X.A (throw (.ref a) : Sem Flow) (SP X pins D) X.xe s4) X.xe { s' with heap := h3 } := by
          rw [hf]
          refine HandSPX.setFlight_upZ fl3 fun h4 hh4 up4 => wpAny_throw (tk _ _ ?_)
          exact ⟨a, B, sI, pins, σ', H', cls, d, rfl, J, nb, (up.trans up3).trans up4, .inr (.inr (by rw [hs]; exact hh4)), na, os, ag, w⟩
        first
          | exact wpAny_bind (wpAny_pure (wpAny_bind fin))
          | exact wpAny_bind fin
      | @cons tt cs ts b₀ suite pos' hds2 l2 hc hsu r ih =>
        intro h3 fl3 up3 w
        have J3 : Inv X pins σ' H' { s' with heap := h3 } := J.landed nb fl3.1 (up.trans up3) os ag
        obtain ⟨oe3, vs3, he3, hz3, hd3⟩ := fl3.there
        have nfr := notFr fl3.2.2.1 he3 hd3
        have nL : a ≠ X.env.locals := fun z => nfr (List.mem_filterMap.mpr ⟨X.env, List.mem_cons_self, by rw [hf, z]⟩)
        have nF : a ∉ X.fs := fun hm => by
          obtain ⟨e, he, q⟩ := List.mem_filterMap.mp hm
          exact nfr (List.mem_filterMap.mpr ⟨e, List.mem_cons_of_mem _ he, q⟩)
        have S3 := J3.suite he3 hd3 na nL nF
        obtain ⟨b, hb1, hyes, hno⟩ := w
        refine wpAny_handleBy_cons (codeAny_handlers_test ?_) (by intro q; cases q)
        have LT : PySem.W.Looks (model X.prog X.w) h3 (typeOf (.ref a)) cls := fun A Q E s k q => wpAny_typeOf_ref (k _ _ he3) (by rw [hz3.1]; exact q)
        refine test_run hc S3 LT hb1 fun h4 kp => ?_
        have fl4 := flyZ_keeps fl3 kp
        have up4 : s'.heap.UpToSlots h4 := up3.trans (Heap.UpToSlots.of_keeps kp)
        cases b with
        | true =>
          refine codeAny_handlers_suite_as ?_
          refine HandSPX.lands_againZ fl4 fun h5 fl5 up5 => ?_
          have J5 : Inv X pins σ' H' { s' with heap := h5 } := J.landed nb fl5.1 ((up.trans up4).trans up5) os ag
          obtain ⟨oe5, vs5, he5, hz5, hd5⟩ := fl5.there
          have S5 := J5.suite he5 hd5 na nL nF
          refine store_ok (X := X.suite a ((a, oe5) :: (X.pn ++ pins))) (v := .ref a) S5 hN hi hloc rfl (fun s6 S6 => ?_) (.inr hln)
          refine wpAny_mono ((hsu a oe5 cls d (X.pn ++ pins) hz5 ⟨_, hd5⟩).run [] s6 _ H' _ S6 (hyes rfl a na J.len)) (fun f s7 hsp => ?_) (fun _ _ z => False.elim z)
          have end_ : ∀ {σ6 : L2.St} {H6 : Hp} {Q : Shared → Prop}, Inv (X.suite a ((a, oe5) :: (X.pn ++ pins))) [] σ6 H6 s7 → (∀ s8, Inv X pins (σ6.set i none) H6 s8 → Q s8) →
              wpAny (model X.prog X.w) X.A (do bindName X.env n .none; unbindBehindTheSuite X.env n pos') (fun _ s8 => Q s8) X.xe s7 := fun {σ6 H6 Q} S7 hq => gone_ok (S7.unsuite ok) hN hi hln hq
          cases f with
          | next =>
            obtain ⟨σ6, H6, S7, q6⟩ := hsp
            exact end_ S7 fun s8 J8 => ⟨_, _, J8, q6⟩
          | brk =>
            obtain ⟨σ6, H6, S7, q6⟩ := hsp
            exact end_ S7 fun s8 J8 => ⟨_, _, J8, q6⟩
          | cont =>
            obtain ⟨σ6, H6, S7, q6⟩ := hsp
            exact end_ S7 fun s8 J8 => ⟨_, _, J8, q6⟩
          | ret u =>
            obtain ⟨v6, σ6, H6, S7, r6, q6⟩ := hsp
            exact end_ S7 fun s8 J8 => ⟨_, _, _, J8, r6, q6⟩
        | false =>
          show wpAny _ X.A (handleBy (.ref a) X.env hds2) _ _ _
          exact ih h4 fl4 up4 (hno rfl)
    exact go hh h3 fl3 up3 w
  · cases f with
    | next =>
      obtain ⟨σ', H', J', q⟩ := hsp
      exact wpAny_execs_nil ⟨σ', H', J'.ofTry ok, q⟩
    | brk =>
      obtain ⟨σ', H', J', q⟩ := hsp
      exact ⟨σ', H', J'.ofTry ok, q⟩
    | cont =>
      obtain ⟨σ', H', J', q⟩ := hsp
      exact ⟨σ', H', J'.ofTry ok, q⟩
    | ret u =>
      obtain ⟨v, σ', H', J', r, q⟩ := hsp
      exact ⟨v, σ', H', J'.ofTry ok, r, q⟩
end
end CT
namespace CT
open PySem PySem.Spec PyProof.Rows L2
/-! ## own exceptions: made and raised -/
def fsE {κ : Type} (z : κ) (fl : List Str) (ws : List κ) : List (Str × κ) := (fl.zip ws).reverse ++ [(Str.ofString "called", z)]
def spE (K : PySem.W.Frag) (C : Addr) (z : Str) (fl : List Str) : Sp := fun vs H Q E => ∃ (a : Addr) (ws : List V), vs = .ref a :: ws ∧ ws.length = fl.length ∧ H a = some (exo a C none) ∧
  ∀ d, H d = none → d ≠ a → Q .non (upd (upd H d (exd d (fsE (.str z) fl ws))) a (exo a C (some d)))
theorem upd_over {H : Hp} {a d : Addr} {o1 o2 u : HO} (h : d ≠ a) : upd (upd (upd H d o1) a u) d o2 = upd (upd H d o2) a u := by
  funext b
  by_cases hb : b = d
  · subst hb
    rw [upd_same, upd_ne h, upd_same]
  · rw [upd_ne hb]
    by_cases ha : b = a
    · subst ha
      rw [upd_same, upd_same]
    · rw [upd_ne ha, upd_ne ha, upd_ne hb, upd_ne hb]
section
variable {P : Program} {w : World} {K : PySem.W.Frag} {mg : Str → Option Value} {base : Heap} {st : Stmt} {f C : Addr} {qual z : Str} {oc od' dV kV doc pm cdv ct : Value} {od an : Option Addr} {osl : Array (Option Value)} {j : Nat}
  {p1 p2 p3 p4 p5 p6 p7 p8 p9 p10 p11 p12 : Pos}
theorem ini0 (lk : K.lookup f = some ⟨oc, od, .func (PySem.W.fnOf "__init__" qual (defArgs st) (defBody st) (defScope st) dV kV doc pm an cdv ct), osl⟩) (hcd : PySem.W.codeIn K cdv qual = true) (S : FnScope ["self"] ["self"] (defScope st))
    (T : OexC K C) (n0 : PySem.W.findIn K (.ref C) "called" = some none) (hv : Vis (defScope st) "self")
    (hb : defBody st = [.Assign [.Attribute (.Name "self" p1) "called" p2] (.Constant (.str z) j p3) p4]) :
    FnOk P w K mg base (L2.CX P w) 1 f (PySem.W.fnOf "__init__" qual (defArgs st) (defBody st) (defScope st) dV kV doc pm an cdv ct) ["self"] (spE K C z []) := by
  refine fn_of lk hcd S (fun vs H Q E ⟨a, ws, e, l, _⟩ => by rw [e]; simp [l]) fun A outer s H vs Q E hr ⟨a, ws, e, l, ha, q⟩ => ?_
  rw [hb]
  let X : Cx := cxOf (L2.CX P w) P w K mg base ["self"] qual (defScope st) f cdv A outer s H E
  have hs : PE X (.Name "self" p1) (tVar 0) := pe_var rfl hv
  have h1 : PE X (.Constant (.str z) j p3) (tC (.str z)) := pe_str
  refine ⟨_, pss_one (ps_ost hs h1), ?_⟩
  subst e
  obtain rfl : ws = [] := List.length_eq_zero_iff.mp l
  exact ⟨_, rfl, a, C, rfl, T, n0, .inl ⟨ha, fun d hd hda => q d hd hda⟩⟩
theorem ini1 {x1 : Str} (lk : K.lookup f = some ⟨oc, od, .func (PySem.W.fnOf "__init__" qual (defArgs st) (defBody st) (defScope st) dV kV doc pm an cdv ct), osl⟩) (hcd : PySem.W.codeIn K cdv qual = true) (S : FnScope ["self", x1] ["self", x1] (defScope st))
    (T : OexC K C) (n0 : PySem.W.findIn K (.ref C) "called" = some none) (n1 : PySem.W.findIn K (.ref C) x1 = some none) (hv : Vis (defScope st) "self") (hv1 : Vis (defScope st) x1) (hd1 : (x1 == ("__debug__" : Str)) = false) (hc1 : (x1 == ("__classdict__" : Str)) = false)
    (hb : defBody st = [.Assign [.Attribute (.Name "self" p1) "called" p2] (.Constant (.str z) j p3) p4, .Assign [.Attribute (.Name "self" p5) x1 p6] (.Name x1 p7) p8]) (hsw : ∀ env, swapsWith (.Name x1 p7) (some (.Attribute (.Name "self" p5) x1 p6)) p8.line env = pure false := by intro _; rfl) :
    FnOk P w K mg base (L2.CX P w) 1 f (PySem.W.fnOf "__init__" qual (defArgs st) (defBody st) (defScope st) dV kV doc pm an cdv ct) ["self", x1] (spE K C z [x1]) := by
  refine fn_of lk hcd S (fun vs H Q E ⟨a, ws, e, l, _⟩ => by rw [e]; simp [l]) fun A outer s H vs Q E hr ⟨a, ws, e, l, ha, q⟩ => ?_
  rw [hb]
  let X : Cx := cxOf (L2.CX P w) P w K mg base ["self", x1] qual (defScope st) f cdv A outer s H E
  have hs : PE X (.Name "self" p1) (tVar 0) := pe_var rfl hv
  have hs' : PE X (.Name "self" p5) (tVar 0) := pe_var rfl hv
  have h1 : PE X (.Constant (.str z) j p3) (tC (.str z)) := pe_str
  have h2 : PE X (.Name x1 p7) (tVar 1) := pe_var rfl hv1 hd1 hc1
  refine ⟨_, pss_cons (ps_ost hs h1) (pss_one (ps_ost hs' h2 (hsw _))), ?_⟩
  subst e
  obtain ⟨w1, rfl⟩ : ∃ w1, ws = [w1] := by
    match ws, l with
    | [w1], _ => exact ⟨w1, rfl⟩
  refine ⟨_, rfl, a, C, rfl, T, n0, .inl ⟨ha, fun d hd hda => ?_⟩⟩
  refine ⟨w1, rfl, _, rfl, a, C, rfl, T, n1, .inr ⟨d, _, upd_same, by rw [upd_ne hda, upd_same], by simp, ?_⟩⟩
  rw [upd_over hda]
  exact q d hd hda
end
end CT
namespace CT
open PySem PySem.Spec PyProof.Rows L2
/-! ## raise -/
section
variable {X : Cx} {p pos : Pos}
/-- C() -/
theorem pmk_oex0 {CX : CXT} {x : Str} {C fI : Addr} {k : Nat} {fd : FuncData} {ps : List Str} {sp : Sp} (T : OexC X.K C) (iC : PySem.W.findIn X.K (.ref C) "__init__" = some (some (.ref fI))) (tI : PySem.W.typeIn X.K (.ref fI) = some (.type "function"))
    (F1 : FnOk X.prog X.w X.K X.mg X.base CX k fI fd ps sp) (hr : Room (k + 1) X.A) (hb : Binds X.K fd ps []) (hx : Passes CX X (fun _ _ _ => False)) (hg : Gl X x) (hm : X.mg x = some (.ref C))
    (hdb : (x == ("__debug__" : Str)) = false := by decide) :
    PMk X (.Call (.Name x p) [] [] pos) (tMkO C sp [] tNil) := by
  intro pins s σ H Q I h
  obtain ⟨nm, q, N, bs, bm, sn, sub, ab, col, dd, k0, k1, k2, k3, k5, hC, hbm⟩ := T.cls
  refine wpAny_Call_Name_kw (ld_glob I hg hm ?_ hdb)
  refine PySem.W.callWith_K0 I.kIn T.kC ?_
  obtain ⟨hz, q1⟩ := h
  obtain ⟨hp, g, dr, tk, os⟩ := s
  have hsz : hp.objs.size ≤ hp.objs.size + 1 := Nat.le_succ _
  have hn : H (hp.objs.size + 1) = none := I.hok.fresh hsz
  have hq := q1 (hp.objs.size + 1) hn
  have kk : ∀ b o, hp.get? b = some o → ((hp.push (PySem.W.kdv_tup [])).push (PySem.HandSPX.excO C hp.objs.size)).get? b = some o := fun b o e => Heap.get?_push_of_some _ (Heap.get?_push_of_some _ e)
  have hget : ((hp.push (PySem.W.kdv_tup [])).push (PySem.HandSPX.excO C hp.objs.size)).get? (hp.objs.size + 1) = some (PySem.HandSPX.excO C hp.objs.size) := by heap_get
  have I2 : Inv X pins σ (upd H (hp.objs.size + 1) (exo (hp.objs.size + 1) C none)) ⟨(hp.push (PySem.W.kdv_tup [])).push (PySem.HandSPX.excO C hp.objs.size), g, dr, tk, os⟩ :=
    I.laid (t' := tk) (a := hp.objs.size + 1) (o := exo (hp.objs.size + 1) C none) (h' := (hp.push (PySem.W.kdv_tup [])).push (PySem.HandSPX.excO C hp.objs.size)) kk hsz (exo_ok hget)
  have r2 : Vals [V.ref (hp.objs.size + 1)] [Value.ref (hp.objs.size + 1)] := .cons rfl .nil
  have hl : (Value.ref (hp.objs.size + 1) :: [] ++ ([] : List Value)).length = ps.length := by
    have e := F1.len _ _ _ _ hq
    exact e
  refine wpAny_call (PySem.HandSPX.call_own (rest := []) F.excBase_ValueError (fun Y => PySem.HandSPX.refsVE_contains Y bm hbm) (I.kIn _ _ hC) (PySem.W.looks_findIn I.kIn iC) (fun self => PySem.W.bind_fn I.kIn self tI) (by decide)
    (codeAny_mono (F1.run _ X.stack _ _ ⟨Value.ref (hp.objs.size + 1) :: [], []⟩ [Value.ref (hp.objs.size + 1)] _ _ (fun _ _ _ => False) (hr.make C [] []) (I2.env0.make C [] []) (hb _ (Value.ref (hp.objs.size + 1) :: []) I2.kIn hl) r2 hq) fun r s' hq' => ?_))
  cases r with
  | error er => exact hx pins σ _ _ er s' I2 hq'
  | ok fl =>
    cases fl with
    | ret u =>
      obtain ⟨v, H2, os2, bare2, un2, hok2, rv, ev, d, fs, ea, ed, hd1, q2⟩ := hq'
      subst ev
      obtain ⟨h2, g2, d2, t2, os'⟩ := s'
      exact ⟨rv, mk_end (raises_own T.exC T.tyC) I hsz kk un2 hok2 os2 bare2 ea ed hd1 q2⟩
    | next => exact False.elim hq'
    | brk => exact False.elim hq'
    | cont => exact False.elim hq'
end
/-- a class of exceptions of one's own, by its place -/
structure ExX (G : Lc) (x : Str) (C : Addr) (i : Nat) (z : Str) (fl : List Str) : Prop where
  m : G.mg x = some (.ref C)
  ct : G.K.ct i = C
  T : OexC G.K.K C
  ini : ∃ (fI : Addr) (fd : FuncData) (ps : List Str), PySem.W.findIn G.K.K (.ref C) "__init__" = some (some (.ref fI)) ∧ PySem.W.typeIn G.K.K (.ref fI) = some (.type "function") ∧
    FnOk G.P G.w G.K.K G.mg G.base (L2.CX G.P G.w) 1 fI fd ps (spE G.K.K C z fl) ∧ Binds G.K.K fd ps []
def xRaise (i : Nat) (z : Str) (fl : List Str) (as : Fn (List D)) : Fo := fun σ m => (as σ m).go σ fun ds m1 => if ds.length = fl.length ∧ ds.length ≤ 1000 then .ex ⟨i, fsE (.str z) fl ds⟩ σ m1 else .bad
theorem Flds.app {K : KK} {G : Hp} {α : List Addr} : ∀ {a c : List (Str × V)} {b d : List (Str × D)}, Flds K G α a b → Flds K G α c d → Flds K G α (a ++ c) (b ++ d)
  | _, _, _, _, .nil, h => h
  | _, _, _, _, .cons r t, h => .cons r (Flds.app t h)
theorem Flds.rev {K : KK} {G : Hp} {α : List Addr} : ∀ {a : List (Str × V)} {b : List (Str × D)}, Flds K G α a b → Flds K G α a.reverse b.reverse
  | _, _, .nil => .nil
  | _, _, .cons r t => by
    rw [List.reverse_cons, List.reverse_cons]
    exact (Flds.rev t).app (.cons r .nil)
theorem Flds.zip {K : KK} {G : Hp} {α : List Addr} : ∀ (fl : List Str) {vs : List V} {ds : List D}, Reps K G α vs ds → Flds K G α (fl.zip vs) (fl.zip ds)
  | [], _, _, _ => by simp; exact .nil
  | _ :: _, _, _, .nil => by simp; exact .nil
  | _ :: fl, _, _, .cons r t => .cons r (Flds.zip fl t)
theorem Flds.mk {K : KK} {G : Hp} {α : List Addr} (z : Str) (fl : List Str) {vs : List V} {ds : List D} (r : Reps K G α vs ds) : Flds K G α (fsE (.str z) fl vs) (fsE (.str z) fl ds) := (Flds.zip fl r).rev.app (.cons .str .nil)
theorem Flds.mono {K : KK} {G G' : Hp} {α α' : List Addr} (h : ∀ a o, G a = some o → G' a = some o) (hα : ∀ (c : Nat) (a : Addr), α[c]? = some a → α'[c]? = some a) : ∀ {vs : List (Str × V)} {ds : List (Str × D)}, Flds K G α vs ds → Flds K G' α' vs ds
  | _, _, .nil => .nil
  | _, _, .cons r t => .cons (Rep.mono h hα r) (Flds.mono h hα t)
section
variable {L : Lc}
theorem raise_core {W : WX} {C : Addr} {i : Nat} {z : Str} {fl : List Str} {fa : Fn (List D)} (hct : L.K.ct i = C) {σ : L2.St} {H : Hp} {D : Ends} (h : tO L W (xRaise i z fl fa) D σ H) :
    tMkO C (spE L.K.K C z fl) [] (tS L W (relVs L) fa) σ H (fun cls d H' => W cls d σ H') := by
  obtain ⟨α, β, σd, m, s, q⟩ := h
  refine ⟨α, β, σd, m, s, q.mp fun ds m1 vs H1 α1 e1 s1 r1 q => ?_⟩
  split at q
  rotate_left
  · exact q.elim
  rename_i hl
  refine ⟨by rw [r1.length]; exact hl.2, fun a ha => ⟨a, vs, by simp, by rw [r1.length]; exact hl.1, upd_same, fun d hd hda => ⟨rfl, d, fsE (.str z) fl vs, upd_same, by rw [upd_ne hda, upd_same], ?_, ?_⟩⟩⟩
  · rw [upd_ne hda] at hd
    exact hd
  · have hd' : H1 d = none := by rw [upd_ne hda] at hd; exact hd
    have eH : upd (del (upd (upd (upd H1 a (exo a C none)) d (exd d (fsE (V.str z) fl vs))) a (exo a C (some d))) a) d (.xd (fsE (.str z) fl vs)) = upd H1 d (.xd (fsE (.str z) fl vs)) := by
      funext b
      by_cases hb : b = d
      · subst hb; rw [upd_same, upd_same]
      · rw [upd_ne hb, upd_ne hb]
        by_cases hba : b = a
        · subst hba; rw [del_same, ha]
        · rw [del_ne hba, upd_ne hba, upd_ne hb, upd_ne hba]
    rw [eH]
    have ex := Ext.lay (α := α1) (o := .xd (fsE (V.str z) fl vs)) hd'
    refine q _ _ σ _ α1 ex (s1.ext' ex (s1.cr.lay hd')) ⟨d, fsE (.str z) fl vs, by rw [hct], rfl, hid_mk upd_same (s1.cr.freshB hd'), Flds.mono ex.hid ex.ix (Flds.mk z fl r1)⟩
theorem s_raise0 {x : Str} {C : Addr} {i : Nat} {z : Str} {p pos pos' : Pos} (hg : Glb L x) (hk : 2 ≤ L.k) (E : ExX L x C i z []) (hdb : (x == ("__debug__" : Str)) = false := by decide) :
    SS L (.Raise (some (.Call (.Name x p) [] [] pos)) none pos') (xRaise i z [] xNil) := fun W X h => by
  obtain ⟨fI, fd, ps, e1, e2, e3, e4⟩ := E.ini
  refine PSi (ps_raise h.calm h.tk (pmk_oex0 (by rw [h.K]; exact E.T) (by rw [h.K]; exact e1) (by rw [h.K]; exact e2) (by rw [h.prog, h.w, h.K, h.mg, h.base]; exact e3) (h.room.mono hk) (by rw [h.K]; exact e4) (passes_call h.tk fun _ _ _ _ z => z.elim) (by unfold Gl Env.kindOf; rw [h.sc]; exact hg) (by rw [h.mg]; exact E.m) hdb)) fun D σ H q => ?_
  have k := raise_core E.ct q
  obtain ⟨α, β, σd, m, s, k⟩ := k
  exact k [] H α Ext.refl s .nil
theorem s_raise {x : Str} {C : Addr} {i : Nat} {z : Str} {fl : List Str} {e : Expr} {es : List Expr} {fa : Fn (List D)} {p pos pos' : Pos} (hg : Glb L x) (hk : 2 ≤ L.k) (E : ExX L x C i z fl) (ha : SA L (e :: es) fa) (hdb : (x == ("__debug__" : Str)) = false := by decide)
    (he : ∀ env, starEach (e :: es) env = (false, eval e env) :: starEach es env := by intro _; rfl) (hpl : ∀ env, (backTo pos (starEach es env)).any (·.1) = false := by intro _; rfl) :
    SS L (.Raise (some (.Call (.Name x p) (e :: es) [] pos)) none pos') (xRaise i z fl fa) := fun W X h => by
  obtain ⟨fI, fd, ps, e1, e2, e3, e4⟩ := E.ini
  exact PSi (ps_raise h.calm h.tk (pmk_oex (by rw [h.K]; exact E.T) (by rw [h.K]; exact e1) (by rw [h.K]; exact e2) (by rw [h.prog, h.w, h.K, h.mg, h.base]; exact e3) (h.room.mono hk) (by rw [h.K]; exact e4) .nil (passes_call h.tk fun _ _ _ _ z => z.elim) (by unfold Gl Env.kindOf; rw [h.sc]; exact hg) (by rw [h.mg]; exact E.m) (ha W X h) hdb (he _) (hpl _))) fun D σ H q => raise_core E.ct q
end
end CT
namespace CT
open PySem PySem.Spec PyProof.Rows L2 LamX
/-! ## a deed tried: x(lambda: e), x catches what its handlers name -/
/-- the handlers: their classes, the fields that they tell -/
abbrev Hs := List (List Value × List Str)
inductive FldsE (en : Str) : List Expr → List Str → Prop
  | nil : FldsE en [] []
  | cons {f : Str} {p1 p2 : Pos} {es : List Expr} {fl : List Str} : FldsE en es fl → FldsE en (.Attribute (.Name en p1) f p2 :: es) (f :: fl)
/-- the fields of an exception, told -/
def lookAll {κ : Type} (fs : List (Str × κ)) : List Str → Option (List κ)
  | [] => some []
  | f :: fl => (fs.lookup f).bind fun v => (lookAll fs fl).map (v :: ·)
def tFs (K : PySem.W.Frag) (a : Addr) (cls : Value) (d : Option Addr) (i : Nat) (fl : List Str) : TA := fun σ H Q => σ[i]? = some (some (.ref a)) ∧
  ∃ (C dd : Addr) (fs : List (Str × V)) (vs : List V), cls = .ref C ∧ XfC K C ∧ (∀ f ∈ fl, PySem.W.findIn K (.ref C) f = some none) ∧ d = some dd ∧ H dd = some (.xd fs) ∧ lookAll fs fl = some vs ∧ Q vs H
theorem PAi' {X : Cx} {es : List Expr} {t t' : TA} (h : PA X es t) (k : ∀ σ H Q, t' σ H Q → t σ H Q) : PA X es t' := ⟨fun pos pins s σ H Q I q => h.run pos pins s σ H Q I (k _ _ _ q)⟩
theorem pa_fs {X : Cx} {a : Addr} {oe : Obj} {cls : Value} {d : Option Addr} {pn : List (Addr × Obj)} {en : Str} {i : Nat} (hN : X.N[i]? = some en) (hv : Vis X.env.scope en) (hdb : (en == ("__debug__" : Str)) = false) (hcd : (en == ("__classdict__" : Str)) = false)
    (hz : Zc cls d oe) (hf : ∃ vs, oe.data = .fields vs) : ∀ {es : List Expr} {fl : List Str}, FldsE en es fl → (∀ C, cls = .ref C → XfC X.K C → (∀ f ∈ fl, PySem.W.findIn X.K (.ref C) f = some none) → PA (X.suite a ((a, oe) :: pn)) es (tFs X.K a cls d i fl))
  | _, _, .nil, C, ec, T, hn => PAi' pa_nil fun σ H Q ⟨_, _, _, _, vs, _, _, _, _, _, e, q⟩ => by
    cases e
    exact q
  | _, _, .cons (f := f) (p1 := p1) (p2 := p2) r, C, ec, T, hn => by
    have h1 : PE (X.suite a ((a, oe) :: pn)) (.Attribute (.Name en p1) f p2) (tXf a cls d C f (tVar i)) := pe_xf T (hn f (List.mem_cons_self ..)) hz hf (pe_var (X := X.suite a ((a, oe) :: pn)) hN hv hdb hcd)
    have h2 := pa_fs (a := a) hN hv hdb hcd hz hf r C ec T (fun g hg => hn g (List.mem_cons_of_mem _ hg)) (pn := pn)
    refine PAi' (pa_cons h1 h2) fun σ H Q ⟨hσ, C', dd, fs, vs, e1, T', hn', e2, e3, e4, q⟩ => ?_
    rw [lookAll] at e4
    cases q1 : fs.lookup f with
    | none => rw [q1] at e4; cases e4
    | some v =>
      cases q2 : lookAll fs _ with
      | none => rw [q1, q2] at e4; cases e4
      | some ws =>
        rw [q1, q2] at e4
        cases e4
        refine ⟨.ref a, hσ, rfl, ec, dd, fs, v, e2, e3, q1, hσ, C', dd, fs, ws, e1, T', fun g hg => hn' g (List.mem_cons_of_mem _ hg), e2, e3, q2, q⟩
/-- a suite that tells fields -/
theorem pss_fs {X : Cx} {a : Addr} {oe : Obj} {cls : Value} {d : Option Addr} {pn : List (Addr × Obj)} {en : Str} {i : Nat} (hN : X.N[i]? = some en) (hv : Vis X.env.scope en) (hdb : (en == ("__debug__" : Str)) = false) (hcd : (en == ("__classdict__" : Str)) = false)
    (hz : Zc cls d oe) (hf : ∃ vs, oe.data = .fields vs) {es : List Expr} {fl : List Str} {kk : Nat} {p1 p2 : Pos} (h : FldsE en es fl) : PSs (X.suite a ((a, oe) :: pn)) [.Return (some (.Tuple es kk p1)) p2] (tRet (tTup (tFs X.K a cls d i fl))) := by
  refine ⟨fun pins s σ H D I q => ?_⟩
  obtain ⟨hσ, C, dd, fs, vs, ec, T, hn, q'⟩ := q
  exact (pss_one (ps_ret (pe_tup (pa_fs hN hv hdb hcd hz hf h C ec T hn)))).run pins s σ H D I ⟨hσ, C, dd, fs, vs, ec, T, hn, q'⟩
/-- what the handlers make of an exception -/
def wEx (K : PySem.W.Frag) (Q : VK) : Hs → XK
  | [] => fun _ _ _ => False
  | (cs, fl) :: r => fun cls dd H => ∃ b, PySem.W.exmAny K cls cs = some b ∧
    (b = true → ∃ (C d : Addr) (fs : List (Str × V)) (vs : List V), cls = .ref C ∧ XfC K C ∧ (∀ f ∈ fl, PySem.W.findIn K (.ref C) f = some none) ∧ dd = some d ∧ H d = some (.xd fs) ∧ lookAll fs fl = some vs ∧ vs.length ≤ sizeLine ∧ ∀ p, H p = none → Q (.ref p) (upd H p (.tup vs))) ∧
    (b = false → wEx K Q r cls dd H)
inductive HdsE (X : Cx) (en : Str) : List ExceptHandler → Hs → Prop
  | nil : HdsE X en [] []
  | cons {tt : Expr} {cs : List Value} {es : List Expr} {fl : List Str} {kk : Nat} {p1 p2 p3 : Pos} {hds : List ExceptHandler} {l : Hs} : TestOk X tt cs → FldsE en es fl → HdsE X en hds l → HdsE X en (.ExceptHandler (some tt) (some en) [.Return (some (.Tuple es kk p1)) p2] p3 :: hds) ((cs, fl) :: l)
def TTx (K : PySem.W.Frag) (z : Str) (l : Hs) : (XK → Hp → VK → Prop) → Hp → VK → Prop := fun tl H Q => tl (wEx K Q l) H fun v H1 => [V.str z, v].length ≤ sizeLine ∧ ∀ p, H1 p = none → Q (.ref p) (upd H1 p (.tup [.str z, v]))
theorem hds_a {X : Cx} {en : Str} (hN : X.N[1]? = some en) (hv : Vis X.env.scope en) (hdb : (en == ("__debug__" : Str)) = false) (hcd : (en == ("__classdict__" : Str)) = false) : ∀ {hds : List ExceptHandler} {l : Hs}, HdsE X en hds l →
    HdsA X en hds (l.map fun h => (h.1, fun a cls d => tRet (tTup (tFs X.K a cls d 1 h.2))))
  | _, _, .nil => .nil
  | _, _, .cons ht hf r => .cons ht (fun a oe cls d pn hz hd => pss_fs hN hv hdb hcd hz hd hf) (hds_a hN hv hdb hcd r)
theorem wEx_many {K : PySem.W.Frag} {D : Ends} {σ : L2.St} {nn : Nat} (hσ : 1 < nn) : ∀ {l : Hs} {cls : Value} {dd : Option Addr} {H : Hp}, wEx K D.rt l cls dd H → wManyA K (fun _ _ _ _ => False) D 1 nn (l.map fun h => (h.1, fun a cls d => tRet (tTup (tFs K a cls d 1 h.2)))) cls dd σ H
  | [], _, _, _, h => h
  | (cs, fl) :: r, cls, dd, H, h => by
    obtain ⟨b, h1, h2, h3⟩ := h
    refine ⟨b, h1, fun hb a ha hl => ?_, fun hb => wEx_many hσ (h3 hb)⟩
    obtain ⟨C, d, fs, vs, e1, T, hn, e2, e3, e4, e5, q⟩ := h2 hb
    exact ⟨List.getElem?_set_self (by omega), C, d, fs, vs, e1, T, hn, e2, e3, e4, e5, q⟩
theorem tried_gives {X : Cx} {x a en q z : Str} {sg : Scope} {g : Addr} {cdg : Value} {j kk : Nat} {p1 p2 p3 p4 p5 p6 : Pos} {h₀ : ExceptHandler} {hds : List ExceptHandler} {l : Hs}
    (hh : ∀ s H, HdsE (cxOf C8.CX0 X.prog X.w X.K X.mg X.base [a, en] x sg g cdg X.A X.stack s H C8.E0).nox en (h₀ :: hds) l) (hne : a ≠ en) (hl : sg.names.lookup en = some .local) (hdb : (en == ("__debug__" : Str)) = false) (hcd : (en == ("__classdict__" : Str)) = false) :
    GivesTo X [a, en] x sg g cdg [.Try [.Return (some (.Tuple [.Constant (.str z) j p1, .Call (.Name a p2) [] [] p3] kk p4)) p5] (h₀ :: hds) [] [] p6] a q (TTx X.K z l) := by
  intro f c' s H Q tl act hc h
  let X' : Cx := (cxOf C8.CX0 X.prog X.w X.K X.mg X.base [a, en] x sg g cdg X.A X.stack s H C8.E0).nox
  have hv : Vis X'.env.scope en := .inl hl
  refine ⟨_, pss_one (ps_tryA (X := X') (i := 1) (n := en)
      (tb := fun W D σ H => ∃ Ech : XK, (∀ cls d σ' H', Ech cls d H' → W cls d σ' H') ∧ σ[0]? = some (some (.ref f)) ∧ H c' = some (CodeO c' q) ∧ tl Ech H (fun v H1 => [V.str z, v].length ≤ sizeLine ∧ ∀ p, H1 p = none → D.rt (.ref p) (upd H1 p (.tup [.str z, v]))))
      rfl rfl (show ([a, en] : List Str).Nodup by simp [hne]) rfl hl L2.takes0 (fun W pn xe tk _ => ?_) (hds_a rfl hv hdb hcd (hh s H))), ?_⟩
  · refine ⟨fun pins s' σ H' D I h' => ?_⟩
    obtain ⟨Ech, hW, h1, h2, h3⟩ := h'
    have hp := act W pn xe Ech p2 p3 tk hW
    have h0 : PE (X'.tr pn xe) (.Constant (.str z) j p1) (tC (.str z)) := pe_str
    have hq := pss_one (ps_ret (pos := p5) (pe_tup (x1 := kk) (pos := p4) (pa_cons h0 (pa_cons hp pa_nil))))
    exact hq.run pins s' σ H' D I ⟨h1, h2, h3⟩
  · exact ⟨wEx X.K Q l, fun cls d σ' H' w => wEx_many (D := { nx := fun _ H' => Q .non H', rt := Q }) (show 1 < 2 from by decide) w, rfl, hc, h⟩
/-! ### in data -/
/-- the handlers in data: which places they take, which fields they tell -/
abbrev Hd := List ((Nat → Bool) × List Str)
def hdD (fs : List (Str × D)) (c : Nat) : Hd → Option (List D)
  | [] => none
  | (t, fl) :: r => if t c = true then lookAll fs fl else hdD fs c r
def xTry (nC : Nat) (hd : Hd) (f : Fn D) : Fn D := fun σ m => match f σ m with
  | .ok d m1 => .ok (.tup [.str (Str.ofString "told"), d]) m1
  | .ex x m1 => if x.c < nC then match hdD x.fs x.c hd with
    | some ds => if ds.length ≤ 1000 then .ok (.tup ds) m1 else .bad
    | none => .bad
    else .bad
  | .bad => .bad
/-- what is known of the classes: each is told by the handlers as hd says, and its fields may be read -/
inductive HdOk (K : PySem.W.Frag) (ct : Nat → Addr) (nC : Nat) : Hs → Hd → Prop
  | nil : HdOk K ct nC [] []
  | cons {cs : List Value} {fl : List Str} {t : Nat → Bool} {l : Hs} {hd : Hd} : (∀ c, c < nC → PySem.W.exmAny K (.ref (ct c)) cs = some (t c)) → (∀ c, c < nC → t c = true → ∀ f ∈ fl, PySem.W.findIn K (.ref (ct c)) f = some none) → HdOk K ct nC l hd → HdOk K ct nC ((cs, fl) :: l) ((t, fl) :: hd)
theorem Flds.look {K : KK} {G : Hp} {α : List Addr} {f : Str} : ∀ {vs : List (Str × V)} {ds : List (Str × D)} {d : D}, Flds K G α vs ds → ds.lookup f = some d → ∃ v, vs.lookup f = some v ∧ Rep K G α v d
  | _, _, _, .nil, e => by cases e
  | _, _, d, .cons (f := g) (v := v) (d := e') r t, e => by
    rw [List.lookup] at e
    by_cases h : (f == g) = true
    · rw [h] at e
      simp only at e
      cases e
      exact ⟨v, by rw [List.lookup, h], r⟩
    · have h' : (f == g) = false := by simpa using h
      rw [h'] at e
      simp only at e
      obtain ⟨w, h1, h2⟩ := Flds.look t e
      exact ⟨w, by rw [List.lookup, h']; exact h1, h2⟩
theorem Flds.lookAll {K : KK} {G : Hp} {α : List Addr} {vs : List (Str × V)} {ds : List (Str × D)} (h : Flds K G α vs ds) : ∀ {fl : List Str} {es : List D}, CT.lookAll ds fl = some es → ∃ ws, CT.lookAll vs fl = some ws ∧ Reps K G α ws es
  | [], es, e => by cases e; exact ⟨[], rfl, .nil⟩
  | f :: fl, es, e => by
    rw [CT.lookAll] at e
    cases q1 : ds.lookup f with
    | none => rw [q1] at e; cases e
    | some d =>
      cases q2 : CT.lookAll ds fl with
      | none => rw [q1, q2] at e; cases e
      | some es' =>
        rw [q1, q2] at e
        cases e
        obtain ⟨v, h1, h2⟩ := h.look q1
        obtain ⟨ws, h3, h4⟩ := h.lookAll q2
        exact ⟨v :: ws, by rw [CT.lookAll, h1, h3]; rfl, .cons h2 h4⟩
theorem wEx_of {L : Lc} {nC : Nat} (hx : ∀ c, c < nC → XfC L.K.K (L.K.ct c)) {α β : List Addr} {x : Xc} (hc : x.c < nC) {cl : Value} {dd : Option Addr} {H : Hp} {Q : VK} (xr : XRep L H α β x cl dd) : ∀ {l : Hs} {hd : Hd} {ds : List D}, HdOk L.K.K L.K.ct nC l hd → hdD x.fs x.c hd = some ds → ds.length ≤ 1000 →
    (∀ vs p, Rps L.K H α β vs ds → H p = none → Q (.ref p) (upd H p (.tup vs))) → wEx L.K.K Q l cl dd H
  | _, _, _, .nil, e, _, _ => by cases e
  | _, _, ds, .cons (t := t) (fl := fl) h1 h2 r, e, hl, q => by
    obtain ⟨a, fs, rfl, rfl, h3, h4⟩ := id xr
    refine ⟨t x.c, h1 _ hc, fun hb => ?_, fun hb => ?_⟩
    · rw [hdD, if_pos hb] at e
      obtain ⟨ws, h5, h6⟩ := h4.lookAll e
      refine ⟨_, a, fs, ws, rfl, hx _ hc, h2 _ hc hb, rfl, (hid_of h3).1, h5, ?_, fun p hp => q ws p h6 hp⟩
      rw [h6.length]
      exact Evl.sz_of (by omega)
    · rw [hdD, if_neg (by rw [hb]; decide)] at e
      exact wEx_of hx hc xr r e hl q
end CT
namespace CT
open PySem PySem.Spec PyProof.Rows L2 LamX
/-- the def that tries: its parameter, its name for what it caught, its handlers -/
structure TrX (G : Lc) (x a en : Str) (st : Stmt) (nC : Nat) (hd : Hd) : Prop where
  ne : a ≠ en
  hl : (defScope st).names.lookup en = some .local
  hva : Vis (defScope st) a
  S : FnScope [a, en] [a] (defScope st)
  dbe : (en == ("__debug__" : Str)) = false
  cde : (en == ("__classdict__" : Str)) = false
  dba : (a == ("__debug__" : Str)) = false
  cda : (a == ("__classdict__" : Str)) = false
  fn : ∃ (g : Addr) (oc dV kV doc pm cdv ct : Value) (od an : Option Addr) (osl : Array (Option Value)) (j kk : Nat) (p1 p2 p3 p4 p5 p6 : Pos) (h₀ : ExceptHandler) (hds : List ExceptHandler) (l : Hs),
    G.mg x = some (.ref g) ∧ PySem.W.keepIn G.K.K (.ref g) = true ∧ G.K.K.lookup g = some ⟨oc, od, .func (PySem.W.fnOf x x (defArgs st) (defBody st) (defScope st) dV kV doc pm an cdv ct), osl⟩ ∧ PySem.W.codeIn G.K.K cdv x = true ∧
    L2.Binds G.K.K (PySem.W.fnOf x x (defArgs st) (defBody st) (defScope st) dV kV doc pm an cdv ct) [a] [] ∧
    defBody st = [.Try [.Return (some (.Tuple [.Constant (.str (Str.ofString "told")) j p1, .Call (.Name a p2) [] [] p3] kk p4)) p5] (h₀ :: hds) [] [] p6] ∧
    (∀ X : Cx, X.mg = G.mg → X.env.scope = defScope st → HdsE X en (h₀ :: hds) l) ∧ HdOk G.K.K G.K.ct nC l hd
  xf : ∀ c, c < nC → XfC G.K.K (G.K.ct c)
/-- in the body of a lambda made here -/
abbrev Lc.lamIn (L : Lc) (scope : Scope) (k : Nat) : Lc := { L with sc := scope, k := k, fn := fun _ => false, cd := none }
theorem ok_lam {L : Lc} {W : WX} {X : Cx} (h : Ok L W X) {scope : Scope} {k : Nat} {A : Around} {outer : List Env} {s : Shared} {H : Hp} {E : XK} {f c' : Addr} (hr : Room k (A.deeper (lamEnv X scope s.heap.objs.size f c'))) :
    Ok (L.lamIn scope k) (fun cls d _ H => E cls d H) (lamCx X A outer s H E scope f c') :=
  ⟨h.prog, h.w, h.K, h.mg, h.base, h.N, rfl, hr, rfl, takes_of rfl rfl rfl rfl, passes_of rfl, fun _ z => (by cases z), fun _ _ z => (by cases z)⟩
theorem se_tried {L : Lc} {x a en : Str} {st : Stmt} {nC : Nat} {hd : Hd} (TR : TrX L x a en st nC hd) (hg : Glb L x) {c P : Addr} {q : Str} (hcd : L.cd = some (c, q)) (TB : TabB L.base L.mg c P) (hmT : (P, q ++ Str.ofString "<lambda>") ∈ L.K.T) (hu : ∀ p ∈ L.K.T, p.1 = P → p.2 = q ++ Str.ofString "<lambda>")
    {k : Nat} (hk : k + 2 ≤ L.k) {params : Arguments} {body : Expr} {scope : Scope} {p lpos pos : Pos} {fe : Fn D} (hL : LamS L.sc scope) (he : SE (L.lamIn scope k) body fe)
    (hdb : (x == ("__debug__" : Str)) = false := by decide) (hdef : ∀ env, defaultsOf params env = ([], []) := by intro _; rfl)
    (hbind : ∀ (q : Str) (cl : List (Str × Addr)) (pm cv ctv : Value), bindArgs (PySem.W.kla_fn "<lambda>" q params body scope cl pm cv ctv) ⟨[], []⟩ = pure [] := by intros; rfl) :
    SE L (.Call (.Name x p) [.Lambda params body scope lpos] [] pos) (xTry nC hd fe) := fun W X h => by
  obtain ⟨g, oc, dV, kV, doc, pm, cdv, ct, od, an, osl, j, kk, p1, p2, p3, p4, p5, p6, h₀, hds, l, e1, e2, e3, e4, e5, e6, e7, e8⟩ := TR.fn
  obtain ⟨hcode, hq⟩ := h.cd _ _ hcd
  have hr : Room (k + 2) X.A := h.room.mono hk
  have hG : GivesTo X [a, en] x (defScope st) g cdv (defBody st) a (X.env.qual ++ Str.ofString "<lambda>") (TTx X.K (Str.ofString "told") l) := by
    rw [e6]
    exact tried_gives (fun s H => e7 _ h.mg rfl) TR.ne TR.hl TR.dbe TR.cde
  refine PEi (pe_lamcall (T := L.K.T) (Ng := [a, en]) (t := fun E => tS (L.lamIn scope k) (fun cls d _ H => E cls d H) (relV (L.lamIn scope k)) fe) (by unfold Gl Env.kindOf; rw [h.sc]; exact hg) (by rw [h.mg]; exact e1) (by rw [h.K]; exact e2) (by rw [h.K]; exact e3) (by rw [h.K]; exact e4) (by rw [h.K]; exact e5) TR.S rfl TR.hva hG
    (by rw [h.base, h.mg]; exact TB) hcode (by rw [hq]; exact hmT) (by rw [hq]; exact hu) hr (by rw [h.sc]; exact hL) (hdef _) hbind (fun A outer s H E f c' hr2 => he _ _ (ok_lam h hr2)) hdb TR.dba TR.cda) fun σ H Q qq => ?_
  obtain ⟨α, β, σd, m, s, qq⟩ := qq
  refine ⟨s.cr.tb, fun H1 eN hT => ?_⟩
  have ex : Ext H α H1 α := ⟨⟨[], by simp⟩, fun b o _ e t => eN b o e t, fun _ z => .inl z⟩
  have c1 : CR L.K H1 α β m := ⟨s.cr.len, s.cr.nd, s.cr.alE ex, fun i b ce h1 h2 => by
    obtain ⟨z, vs, o, w1, w2, w3⟩ := s.cr.cell i b ce h1 h2
    exact ⟨z, vs, o, eN _ _ w1 w2.nt, w2, w3.ext ex⟩, hT⟩
  have s1 : SR L.K H1 α β σ σd m := s.ext' ex c1
  show tS (L.lamIn scope k) _ (relV (L.lamIn scope k)) fe σ H1 _
  refine ⟨α, β, σd, m, s1, ?_⟩
  have qq := qq.ext ex
  unfold xTry at qq
  cases er : fe σd m with
  | bad => rw [er] at qq; exact qq.elim
  | ok d m1 =>
    rw [er] at qq
    intro v H2 α2 e2 s2 r2
    refine ⟨Evl.sz_of (show 2 ≤ 100000 from by decide), fun p hp => ?_⟩
    have e3' := Ext.lay (α := α2) (o := .tup [.str (Str.ofString "told"), v]) hp
    exact qq _ _ _ (e2.trans e3') (s2.ext' e3' (s2.cr.lay hp)) (.tup (.inl (.inl (hid_mk upd_same (s2.cr.freshB hp)))) (.cons .str (.cons (Rep.ext r2 e3') .nil)))
  | ex xx m1 =>
    rw [er] at qq
    intro cl dd H2 α2 e2' s2 xr
    simp only at qq
    split at qq
    rotate_left
    · exact qq.elim
    rename_i hc
    cases ed : hdD xx.fs xx.c hd with
    | none => rw [ed] at qq; exact qq.elim
    | some ds =>
      rw [ed] at qq
      simp only at qq
      split at qq
      rotate_left
      · exact qq.elim
      rename_i hl
      rw [h.K]
      refine wEx_of (L := L) TR.xf hc xr e8 ed hl fun vs p rv hp => ?_
      have e3' := Ext.lay (α := α2) (o := .tup vs) hp
      exact qq _ _ _ (e2'.trans e3') (s2.ext' e3' (s2.cr.lay hp)) (.tup (.inl (.inl (hid_mk upd_same (s2.cr.freshB hp)))) (Reps.ext rv e3'))
end CT
namespace CT
open PySem PySem.Spec PyProof.Rows L2 LamX
/-! ## wrappers: raise, try, a def that makes lambdas -/
/-- the same text, seen from a def whose code object is told -/
abbrev Lc.wcd (G : Lc) (o : Option (Addr × Str)) : Lc := { G with cd := o }
def cBody : Stmt → List Stmt
  | .ClassDef _ _ _ b .. => b
  | _ => []
def csub (s : Stmt) (i : Nat) : Stmt := (cBody s).getD i (.Pass ⟨0, 0, 0, 0⟩)
section
variable {G : Lc} {N : List Str} {sc : Scope} {k : Nat} {fn : Str → Bool} {o : Option (Addr × Str)}
theorem FnR.w {x : Str} {ps : List Str} {k : Nat} {gS : List D → Ms → R D} {f : Addr} {fd : FuncData} (F : FnR G x ps k gS f fd) : FnR (G.wcd o) x ps k gS f fd := ⟨F.m, F.kp, F.ok⟩
theorem KB.w {fd : FuncData} {ps : List Str} {n : Nat} {ks : List Str} {g : List D → List D → List D} (B : KB G fd ps n ks g) : KB (G.wcd o) fd ps n ks g := ⟨B.ex⟩
theorem ExX.w {x : Str} {C : Addr} {i : Nat} {z : Str} {fl : List Str} (E : ExX G x C i z fl) : ExX (G.wcd o) x C i z fl := ⟨E.m, E.ct, E.T, E.ini⟩
theorem ExX.loc {x : Str} {C : Addr} {i : Nat} {z : Str} {fl : List Str} (E : ExX G x C i z fl) : ExX (G.loc N sc k fn) x C i z fl := ⟨E.m, E.ct, E.T, E.ini⟩
theorem TrX.w {x a en : Str} {st : Stmt} {nC : Nat} {hd : Hd} (T : TrX G x a en st nC hd) : TrX (G.wcd o) x a en st nC hd := ⟨T.ne, T.hl, T.hva, T.S, T.dbe, T.cde, T.dba, T.cda, T.fn, T.xf⟩
theorem TrX.loc {x a en : Str} {st : Stmt} {nC : Nat} {hd : Hd} (T : TrX G x a en st nC hd) : TrX (G.loc N sc k fn) x a en st nC hd := ⟨T.ne, T.hl, T.hva, T.S, T.dbe, T.cde, T.dba, T.cda, T.fn, T.xf⟩
theorem g_raise0 {x : Str} {C : Addr} {i : Nat} {z : Str} {p pos pos' : Pos} (h : gloOk sc x = true) (hk : 2 ≤ k) (E : ExX G x C i z []) : SS (G.loc N sc k fn) (.Raise (some (.Call (.Name x p) [] [] pos)) none pos') (xRaise i z [] xNil) :=
  s_raise0 (gloOk_g h).1 hk E.loc (gloOk_g h).2.1
theorem g_raise {x : Str} {C : Addr} {i : Nat} {z : Str} {fl : List Str} {e : Expr} {es : List Expr} {fa : Fn (List D)} {p pos pos' : Pos} (h : gloOk sc x = true) (hk : 2 ≤ k) (E : ExX G x C i z fl) (ha : SA (G.loc N sc k fn) (e :: es) fa)
    (he : ∀ env, starEach (e :: es) env = (false, eval e env) :: starEach es env := by intro _; rfl) (hpl : ∀ env, (backTo pos (starEach es env)).any (·.1) = false := by intro _; rfl) :
    SS (G.loc N sc k fn) (.Raise (some (.Call (.Name x p) (e :: es) [] pos)) none pos') (xRaise i z fl fa) := s_raise (gloOk_g h).1 hk E.loc ha (gloOk_g h).2.1 he hpl
theorem g_tried {x a en : Str} {st : Stmt} {nC : Nat} {hd : Hd} {c P : Addr} {q : Str} (TR : TrX G x a en st nC hd) (hg : gloOk sc x = true) (TB : TabB G.base G.mg c P) (hmT : (P, q ++ Str.ofString "<lambda>") ∈ G.K.T) (hu : ∀ p ∈ G.K.T, p.1 = P → p.2 = q ++ Str.ofString "<lambda>")
    (kk : Nat) (hk : kk + 2 ≤ k) {params : Arguments} {body : Expr} {scope : Scope} {p lpos pos : Pos} {fe : Fn D} (hL : lamSB sc scope = true) (he : SE ((G.wcd none).loc N scope kk (fun _ => false)) body fe)
    (hdef : ∀ env, defaultsOf params env = ([], []) := by intro _; rfl)
    (hbind : ∀ (q : Str) (cl : List (Str × Addr)) (pm cv ctv : Value), bindArgs (PySem.W.kla_fn "<lambda>" q params body scope cl pm cv ctv) ⟨[], []⟩ = pure [] := by intros; rfl) :
    SE ((G.wcd (some (c, q))).loc N sc k fn) (.Call (.Name x p) [.Lambda params body scope lpos] [] pos) (xTry nC hd fe) :=
  se_tried (L := (G.wcd (some (c, q))).loc N sc k fn) TR.w.loc (gloOk_g hg).1 (c := c) (P := P) (q := q) rfl TB hmT hu hk (lamS_by hL) he (gloOk_g hg).2.1 hdef hbind
/-- a def that makes lambdas -/
theorem def_fL {x : Str} {st : Stmt} {f c : Addr} {N ps : List Str} {k : Nat} {body : Fo} {oc dV kV doc pm ct : Value} {od an : Option Addr} {osl : Array (Option Value)} (lk : G.K.K.lookup f = some ⟨oc, od, .func (PySem.W.fnOf x x (defArgs st) (defBody st) (defScope st) dV kV doc pm an (.ref c) ct), osl⟩)
    (hcd : PySem.W.codeIn G.K.K (.ref c) x = true) (kp : PySem.W.keepIn G.K.K (.ref f) = true) (S : FnScope N ps (defScope st)) (hm : G.mg x = some (.ref f))
    (hb : SSs ((G.wcd (some (c, x ++ Str.ofString ".<locals>."))).loc N (defScope st) k fnAll) (defBody st) body) : FnR G x ps (k + 1) (fnSem N.length body) f (PySem.W.fnOf x x (defArgs st) (defBody st) (defScope st) dV kV doc pm an (.ref c) ct) :=
  ⟨hm, kp, def_okL (L := G.wcd (some (c, x ++ Str.ofString ".<locals>."))) lk hcd S hb rfl rfl⟩
/-! names of handlers -/
theorem nm_of {X : Cx} {x : Str} {c : Value} (hm : X.mg = G.mg) (hs : X.env.scope = sc) (h : gloOk sc x = true) (e : G.mg x = some c) : Names X x c := by
  obtain ⟨h1, h2, _⟩ := gloOk_g h
  exact ⟨by unfold Gl Env.kindOf; rw [hs]; exact h1, h2, .inl (by rw [hm]; exact e)⟩
end
/-! ### the end, with tables -/
theorem walkT {l : PySem.W.OpenLaw} {k : Nat} {q : Program} {loose : List Str} {XP : (Str → Option Value) → Heap → Prop} {YP : World → Heap → Prop} {d : DefRec} {K : Params → PySem.W.Frag} (hn : l.most = some 63) (hdf : d.params.defaults = []) (hr : Room k callerA)
    (hY : ∀ (w : World) (h : Heap), YP w h → (K w.params).In h)
    (F : ∀ (w : World) (mg : Str → Option Value) (fa : Addr) (h : Heap), YP w h → (K w.params).In h → h.Ns mainGlobals mg → mg d.name = some (.ref fa) →
      ∃ (fd : FuncData) (cs : List (Addr × Addr × Str)), (∀ p ∈ cs, h.get? p.2.1 = some { cls := .none, data := .fields #[] }) ∧ (∀ p ∈ cs, (K w.params).lookup p.2.1 = none) ∧ (∀ p ∈ cs, PySem.W.CodeHd h p.1 p.2.1) ∧
        (∀ (s : Shared) (u : Value), BindsTo s fd ⟨[u], []⟩ [("_law_script", u)]) ∧
        ∀ base : Heap, (K w.params).In base → base.Ns mainGlobals mg → (∀ p ∈ cs, TabB base mg p.1 p.2.1) → FnOk l.prog w (K w.params) mg base (L2.CX l.prog w) k fa fd ["_law_script"] (spLaw (K w.params) (cs.map (·.2)))) :
    PySem.W.WalkO q loose XP YP l.row.toRowW d [] (fun f vs => PySem.call f vs) :=
  walk_ofTs (n := 63) (k := k) (x := "_law_script") (CX := fun w => L2.CX l.prog w) hn (by decide) hdf hr hY (fun w mg fa h Y KX G hmg => by
    obtain ⟨fd, cs, h1, h2, h3, h4, h5⟩ := F w mg fa h Y KX G hmg
    refine ⟨fd, cs.map fun p => (p.1, p.2.1), spLaw (K w.params) (cs.map (·.2)), fun p hp => ?_, fun p hp => ?_, fun p hp => ?_, h4, fun H a ns hl _ hT hS => ⟨a, ns, rfl, hS, hl, fun p hp => ?_, fun _ => rfl⟩, fun base hK hN hTB => h5 base hK hN fun p hp => hTB (p.1, p.2.1) (List.mem_map.mpr ⟨p, hp, rfl⟩)⟩
    · obtain ⟨q, hq, rfl⟩ := List.mem_map.mp hp; exact h1 q hq
    · obtain ⟨q, hq, rfl⟩ := List.mem_map.mp hp; exact h2 q hq
    · obtain ⟨q, hq, rfl⟩ := List.mem_map.mp hp; exact h3 q hq
    · obtain ⟨q, hq, rfl⟩ := List.mem_map.mp hp
      exact TabS.nil (hT (q.1, q.2.1) (List.mem_map.mpr ⟨q, hq, rfl⟩))) fun _ _ _ _ _ h => by
    obtain ⟨_, _, _, _, _, _, _, _, _, _, _, _, z⟩ := h
    exact z
end CT
namespace CT
open PySem L2
/-! ## quotients of arrows -/
theorem sq_pos {u : Rat} (h : u ≠ 0) : 0 < u * u := by
  by_cases h1 : 0 < u
  rotate_left
  · have h2 : 0 < -u := by grind
    have := Rat.mul_pos h2 h2
    grind
  · exact Rat.mul_pos h1 h1
theorem sq_nn (u : Rat) : 0 ≤ u * u := by
  by_cases h : u = 0
  · subst h; grind
  · exact Rat.le_of_lt (sq_pos h)
theorem qv_zero {p : Q} (h : Lo p) (h0 : qv p = 0) : p = (0, 1) := qv_inj h lo_0 (by rw [h0, qv_0])
def partedA (a b : Ar) : Ar := oftenA (madeA a (mateA b)) (overF (1, 1) (weightA b))
section
variable {n k : Nat} {a b : Ar}
theorem qv_weight (h : GA n b) : qv (weightA b) = qv b.1 * qv b.1 + qv b.2 * qv b.2 := by
  unfold weightA
  rw [qv_plus (timesF_lo h.1.2 h.1.2) (timesF_lo h.2.2 h.2.2), qv_times h.1.2 h.1.2, qv_times h.2.2 h.2.2]
theorem weight_ne (h : GA n b) (hb : b ≠ ((0, 1), (0, 1))) : qv (weightA b) ≠ 0 := by
  rw [qv_weight h]
  intro z
  have h1 := sq_nn (qv b.1)
  have h2 := sq_nn (qv b.2)
  by_cases e1 : qv b.1 = 0
  · by_cases e2 : qv b.2 = 0
    · exact hb (Prod.ext (qv_zero h.1.2 e1) (qv_zero h.2.2 e2))
    · have := sq_pos e2
      grind
  · have := sq_pos e1
    grind
theorem weight_up (h : GA n b) (hb : b ≠ ((0, 1), (0, 1))) : (weightA b).1 ≠ 0 := fun z => weight_ne h hb (by
  unfold qv
  rw [z, Rat.intCast_zero, Rat.div_def, Rat.zero_mul])
theorem GA.parted (ha : GA n a) (hb : GA k b) (h0 : b ≠ ((0, 1), (0, 1))) : GA (2 * (n + k) + 1 + (1 + (4 * k + 1))) (partedA a b) :=
  (ha.made hb.mate).often (gd_1.over hb.weight (weight_up hb h0))
theorem parted_made (ha : GA n a) (hb : GA k b) (h0 : b ≠ ((0, 1), (0, 1))) : madeA (partedA a b) b = a := by
  have hw := weight_ne hb h0
  have hu := weight_up hb h0
  have hp := ha.parted hb h0
  have hm := ha.made hb.mate
  have lw := (hb.weight).2
  have q1 : qv (partedA a b).1 = (qv a.1 * qv b.1 + qv a.2 * qv b.2) * (1 / qv (weightA b)) := by
    show qv (timesF (madeA a (mateA b)).1 (overF (1, 1) (weightA b))) = _
    rw [qv_times hm.1.2 (overF_lo lo_1 hu), qv_over lo_1 lw hu]
    show qv (lessF (timesF a.1 b.1) (timesF a.2 (negP b.2))) * _ = _
    rw [qv_less (timesF_lo ha.1.2 hb.1.2) (timesF_lo ha.2.2 (negP_lo hb.2.2)), qv_times ha.1.2 hb.1.2, qv_times ha.2.2 (negP_lo hb.2.2), qv_neg hb.2.2, qv_int]
    grind
  have q2 : qv (partedA a b).2 = (qv a.2 * qv b.1 - qv a.1 * qv b.2) * (1 / qv (weightA b)) := by
    show qv (timesF (madeA a (mateA b)).2 (overF (1, 1) (weightA b))) = _
    rw [qv_times hm.2.2 (overF_lo lo_1 hu), qv_over lo_1 lw hu]
    show qv (plusF (timesF a.1 (negP b.2)) (timesF a.2 b.1)) * _ = _
    rw [qv_plus (timesF_lo ha.1.2 (negP_lo hb.2.2)) (timesF_lo ha.2.2 hb.1.2), qv_times ha.1.2 (negP_lo hb.2.2), qv_times ha.2.2 hb.1.2, qv_neg hb.2.2, qv_int]
    grind
  have hr := hp.made hb
  rw [qv_weight hb] at hw q1 q2
  refine Prod.ext (qv_inj hr.1.2 ha.1.2 ?_) (qv_inj hr.2.2 ha.2.2 ?_)
  · show qv (lessF (timesF (partedA a b).1 b.1) (timesF (partedA a b).2 b.2)) = _
    rw [qv_less (timesF_lo hp.1.2 hb.1.2) (timesF_lo hp.2.2 hb.2.2), qv_times hp.1.2 hb.1.2, qv_times hp.2.2 hb.2.2, q1, q2]
    generalize qv a.1 = x at *
    generalize qv a.2 = y at *
    generalize qv b.1 = u at *
    generalize qv b.2 = v at *
    have : (u * u + v * v) * (1 / (u * u + v * v)) = 1 := by grind
    grind
  · show qv (plusF (timesF (partedA a b).1 b.2) (timesF (partedA a b).2 b.1)) = _
    rw [qv_plus (timesF_lo hp.1.2 hb.2.2) (timesF_lo hp.2.2 hb.1.2), qv_times hp.1.2 hb.2.2, qv_times hp.2.2 hb.1.2, q1, q2]
    generalize qv a.1 = x at *
    generalize qv a.2 = y at *
    generalize qv b.1 = u at *
    generalize qv b.2 = v at *
    have : (u * u + v * v) * (1 / (u * u + v * v)) = 1 := by grind
    grind
end
end CT
namespace CT
open PySem PySem.Spec PyProof.Rows L2
/-! ## methods of a list that is a cell -/
def isL (m : Ms) (c : Nat) : Bool := match m[c]? with
  | some (.l _) => true
  | _ => false
/-- o.method(args): f tells of the list and the arguments what comes of it -/
def xMeth (f : List D → List D → Option (D × List D)) (o : Fn D) (as : Fn (List D)) : Fn D := fun σ m => (o σ m).bind fun d m1 => match d with
  | .cel c => if isL m1 c = true then (as σ m1).bind fun es m2 => match m2[c]? with
      | some (.l ds) => match f ds es with
        | some (r, ds') => if D.cfs 0 ds' = true then .ok r (m2.set c (.l ds')) else .bad
        | none => .bad
      | _ => .bad
    else .bad
  | _ => .bad
/-- the kit's rule tells the same -/
def MeS (r : V → List V → Hp → VK → Prop) (f : List D → List D → Option (D × List D)) : Prop :=
  ∀ (K : KK) (H : Hp) (α β : List Addr) (a : Addr) (vs us : List V) (ds es : List D) (rd : D) (ds' : List D) (Q : VK), H a = some (.lst vs) → Rps K H α β vs ds → Rps K H α β us es → f ds es = some (rd, ds') →
    (∀ rv vs', Rps K H α β vs' ds' → Rp K H α β rv rd → Q rv (upd H a (.lst vs'))) → r (.ref a) us H Q
theorem meth_core {L : Lc} {W : WX} {r : V → List V → Hp → VK → Prop} {f : List D → List D → Option (D × List D)} (hf : MeS r f) {fo : Fn D} {fa : Fn (List D)} {σ : L2.St} {H : Hp} {Q : VK} (h : tS L W (relV L) (xMeth f fo fa) σ H Q) :
    tBM L.K.K "list" r (tS L W (relV L) fo) (tS L W (relVs L) fa) σ H Q := by
  obtain ⟨α, β, σd, m, s, q⟩ := h
  refine ⟨α, β, σd, m, s, q.mp fun d m1 v H1 α1 e1 s1 r1 q => ?_⟩
  cases r1 with
  | @cel a c ea =>
    simp only at q
    split at q
    rotate_left
    · exact q.elim
    rename_i hl
    have hm1 : ∃ ds1, m1[c]? = some (.l ds1) := by
      unfold isL at hl
      split at hl
      · exact ⟨_, by assumption⟩
      · cases hl
    obtain ⟨ds1, em1⟩ := hm1
    obtain ⟨a', vs1, ev, ea1, hH1, rs1, zs1⟩ := s1.cr.cel_at (v := .ref a) (.cel ea) em1
    cases ev
    refine ⟨.inl ⟨rfl, vs1, .inl (.inl hH1)⟩, α1, β, σd, m1, s1, q.mp fun es m2 us H2 α2 e2 s2 r2 q => ?_⟩
    cases e3 : m2[c]? with
    | none => rw [e3] at q; exact q.elim
    | some ce =>
      rw [e3] at q
      cases ce with
      | o _ _ _ => exact q.elim
      | d => exact q.elim
      | l ds =>
        simp only at q
        cases e4 : f ds es with
        | none => rw [e4] at q; exact q.elim
        | some p =>
          obtain ⟨rd, ds'⟩ := p
          rw [e4] at q
          simp only at q
          split at q
          rotate_left
          · exact q.elim
          rename_i hz
          obtain ⟨a2, vs2, ev2, ea2, hH2, rs2, zs2⟩ := s2.cr.cel_at (v := .ref a) (.cel (e2.ix _ _ ea)) e3
          cases ev2
          refine hf L.K H2 α2 β _ vs2 us ds es rd ds' Q hH2 rs2 r2 e4 fun rv vs' rvs rr => ?_
          have x3 : Ext H2 α2 (upd H2 _ (.lst vs')) α2 := s2.cr.putX ea2
          exact q rv _ α2 x3 (s2.ext' x3 (s2.cr.put ea2 hz rvs)) (Rep.ext rr x3)
  | non => exact q.elim
  | bl => exact q.elim
  | int => exact q.elim
  | str => exact q.elim
  | tup _ _ => exact q.elim
  | lst _ _ => exact q.elim
  | lck _ _ => exact q.elim
  | ins _ _ _ => exact q.elim
  | dct => exact q.elim
  | fn => exact q.elim
  | tpl => exact q.elim
def fAppend : List D → List D → Option (D × List D)
  | ds, [d] => if ds.length < 100000 then some (.non, ds ++ [d]) else none
  | _, _ => none
theorem mes_append : MeS rAppend fAppend := by
  intro K H α β a vs us ds es rd ds' Q hH rs re e q
  unfold fAppend at e
  split at e
  · split at e
    · rename_i hl
      cases e
      cases re with
      | cons r t =>
        cases t
        exact ⟨a, vs, _, rfl, rfl, hH, by rw [rs.length]; exact Evl.sz_lt hl, q _ _ (rs.app (.cons r .nil)) .non⟩
    · cases e
  · cases e
theorem SAs.sa {L : Lc} {es : List Expr} {f : Fn (List D)} (h : SAs L es f) : SA L es f := fun W X hX => PAi (h W X hX) fun σ H Q ⟨α, β, σd, m, s, q⟩ => by
  refine ⟨α, β, σd, m, s, ?_⟩
  cases e : f σd m with
  | ok d m1 =>
    rw [e] at q
    exact fun v H2 α2 e2 s2 r => q v H2 α2 e2 s2 r.1
  | ex x m1 => rw [e] at q; exact q
  | bad => rw [e] at q; exact q
section
variable {L : Lc}
theorem se_append {o e : Expr} {fo fe : Fn D} {apos cpos : Pos} (ho : SE L o fo) (he : SE L e fe) (hbase : ∀ env, attributeBase o "append" env (eval o env) = eval o env := by intro _; rfl) (hs : ∀ env, starEach [e] env = (false, eval e env) :: starEach [] env := by intro _; rfl)
    (hfew : ∀ env, ((backTo cpos (starEach [e] env)).all (fun x => !x.1) && (backToKw cpos (keywordEach [] env)).all (fun x => x.1.isSome) && decide ([e].length + ([] : List Keyword).length + (if ([] : List Keyword).isEmpty then 0 else 1) < 30)) = true := by intro _; rfl)
    (hline : (apos.endLine == cpos.line) = true := by rfl) (hplain : ∀ env, (backTo cpos (starEach [] env)).any (·.1) = false := by intro _; rfl) :
    SE L (.Call (.Attribute o "append" apos) [e] [] cpos) (xMeth fAppend fo (xCons fe xNil)) := fun W X h =>
  PEi (pe_bm PySem.F.plainAttrs_list PySem.F.slot_list_append PySem.F.type_list_append mt_append (ho W X h) ((SAs.sa (sa_cons he sa_nil hs)) W X h) (hbase _) (hfew _) hline (hs _) (hplain _)) fun σ H Q q => by
    rw [h.K]
    exact meth_core mes_append q
end
end CT
namespace PySem
open Sem (wp)
open AutoSeq1 (wpAny_loadPart')
/-- enumerate of whatever begins, one argument -/
theorem meets_enumerate_new1 {v : Value} {o : Obj} {H : Heap → Prop} (B : Begins v o H) :
    Meets (Builtin.«enumerate.__new__» ⟨[.type "enumerate", v], []⟩) (fun _ R s => H s.heap ∧
      R (.ok (.ret (.ref (s.heap.push o).objs.size)))
        { s with heap := (s.heap.push o).push { cls := .type "enumerate", data := .fields #[.none, .bool false, .ref s.heap.objs.size, rawInt 0, .none, .none] } }) :=
  .of_wp fun prog w A R s h => by
    obtain ⟨hp, g, d, tk, os⟩ := s
    obtain ⟨hH, h⟩ := h
    have hsub := sub_enumerate
    have q1 : ∀ {A : Around} {E : Value → Shared → Prop} {Q : Value → Shared → Prop}, Q (.ref hp.objs.size) ⟨hp.push o, g, d, tk, os⟩ → wpAny (model prog w) A (pyIter v) Q E ⟨hp, g, d, tk, os⟩ := fun q => B.iter prog w _ _ ⟨hp, g, d, tk, os⟩ _ hH q
    wp_walk
    refine wpAny_stack_any fun st => wpAny_pure ?_
    split
    · rename_i c _ _ _ _ _
      cases (c == Value.type "enumerate")
      · wp_walk using q1
        exact ⟨_, rfl, h⟩
      · wp_walk using q1
        exact ⟨_, rfl, h⟩
    · wp_walk using q1
      exact ⟨_, rfl, h⟩
section
variable {prog : Program} {w : World} {A : Around} {E : Value → Shared → Prop} {s : Shared}
theorem call_enumerate_B {v : Value} {o : Obj} {H : Heap → Prop} {Q : Value → Shared → Prop} (B : Begins v o H) (h1 : H s.heap)
    (h : ∀ h', IsEnum h' (s.heap.objs.size + 1) s.heap.objs.size 0 .none → h'.get? s.heap.objs.size = some o → h'.objs.size = s.heap.objs.size + 2 →
      (∀ b o, s.heap.get? b = some o → h'.get? b = some o) → Q (.ref (s.heap.objs.size + 1)) { s with heap := h' }) :
    wpAny (model prog w) A (call (.type "enumerate") [v]) Q E s := by
  refine callType_new F.called_enumerate (by decide) (F.typeCall_enumerate_1 _) (F.newCall_enumerate_1 _) (fun obj => F.args_object_init_2 obj _) F.entry_enumerate_new
    (meets_enumerate_new1 B) ⟨h1, ?_⟩
  have hz : (s.heap.push o).objs.size = s.heap.objs.size + 1 := Heap.size_push ..
  show _ ∧ _
  rw [hz]
  have he : IsEnum ((s.heap.push o).push { cls := .type "enumerate", data := .fields #[.none, .bool false, .ref s.heap.objs.size, rawInt 0, .none, .none] }) (s.heap.objs.size + 1) s.heap.objs.size 0 .none := by
    have := Heap.get?_push_size (s.heap.push o) (o := { cls := .type "enumerate", data := .fields #[.none, .bool false, .ref s.heap.objs.size, rawInt 0, .none, .none] }) rfl
    rw [hz] at this; exact this
  exact ⟨⟨_, he, rfl⟩, h _ he (Heap.get?_push_of_some _ (Heap.get?_push_size _ B.free)) (by rw [Heap.size_push, hz]) fun b o x => Heap.get?_push_of_some _ (Heap.get?_push_of_some _ x)⟩
end
end PySem
namespace CT
open PySem PySem.Spec PyProof.Rows L2
/-- the tuple at a as it stands at each turn, each item in a new pair -/
def Itet (K : PySem.W.Frag) (a : Addr) : It :=
  ⟨fun i H => ∃ (xs : List V) (x : V), SqT K H a xs ∧ xs[i]? = some x, fun i H v H' => ∃ T x, v = .ref T ∧ H T = none ∧ H' = upd H T (.tup [.int (i : Nat), x]) ∧ ∀ xs, SqT K H a xs → xs[i]? = some x, fun i H => ∃ xs : List V, SqT K H a xs ∧ xs.length = i⟩
theorem turn_enumT {P : Program} {w : World} {K : PySem.W.Frag} {elts : List Expr} {kk : Nat} {tpos : Pos} (a e it : Addr) (hea : e ≠ a) (hia : a ≠ it) :
    Turn P w K (.Tuple elts kk tpos) (Itet K a) [e, it] e (fun i h => (∃ old, IsEnum h e it ((i : Nat) : Int) old) ∧ h.IsTupleIter it a i ∧ e ≠ it) where
  mem := by simp
  obj := fun i h st b hb => by
    obtain ⟨⟨old, he⟩, ⟨o, ho, hc, hd⟩, _⟩ := st
    have e' : b = e ∨ b = it := by simpa using hb
    rcases e' with z | z
    · rw [z]; exact ⟨_, he, fun v q => nomatch q⟩
    · rw [z]; exact ⟨o, ho, fun v q => by rw [hd] at q; cases q⟩
  keep := fun i h h' st k => let ⟨⟨old, he⟩, hi, hne⟩ := st; ⟨⟨old, k e (by simp) _ he⟩, hi.at fun o q => k it (by simp) o q, hne⟩
  item := by
    intro X hP hw hK hc i pins s σ H E I hf st hg
    subst hP hw hK
    obtain ⟨⟨old, he⟩, hit, hne⟩ := st
    obtain ⟨xs, x, hq, hx⟩ := hg
    obtain ⟨its, rv, p, hz⟩ := I.tuple hq
    obtain ⟨u, hu, ru⟩ := rv.get hx
    have hel : e < s.heap.objs.size := Heap.lt_size he
    have hil : it < s.heap.objs.size := by obtain ⟨_, q, _⟩ := hit; exact Heap.lt_size q
    have ht : s.heap.IsTuple a its.toArray := p
    have hh : X.A.in1.handled = none := I.ok.hd hc
    have hil' : i < its.toArray.size := by
      rw [List.size_toArray]
      exact (List.getElem?_eq_some_iff.mp hu).1
    refine wpAny_pyNext_enum_itemC (Draws.tuple hh it a hia its.toArray) he ⟨hit, ht⟩ hil' hne (by simp [hne, hea]) fun x' h' tk' hP ho hst' hT hsz hk => ?_
    have hx' : x' = u := by
      have h1 : its.toArray[i]? = some x' := hP
      rw [← Array.getElem?_toList, hu] at h1
      exact (Option.some.inj h1).symm
    subst hx'
    refine ⟨_, rfl, wpAny_letOwnedTupleGo_enum (s := { s with heap := h', toks := tk' + 1 }) ho fun h'' he' sb => ?_⟩
    have hT2 : h''.get? s.heap.objs.size = some { cls := .type "tuple", data := .seq #[.int i tk', x'] } := (sb.2 _ (Nat.ne_of_gt hel)).trans hT
    have new : ObjOk X.prog X.w (upd H s.heap.objs.size (.tup [.int (i : Nat), x])) h'' s.heap.objs.size (.tup [.int (i : Nat), x]) :=
      ⟨by show 2 ≤ sizeLine; decide, [.int i tk', x'], .cons ⟨_, rfl⟩ (.cons ru .nil), ⟨_, hT2, rfl, _, rfl⟩⟩
    have I1 : Inv X pins σ (upd H s.heap.objs.size (.tup [.int (i : Nat), x])) { s with heap := h'', toks := tk' + 1 } :=
      I.turnedNew (ch := [e, it]) (fun b ob hb q => (sb.2 b (fun z => hb (by simp [z]))).trans (hk b ob (fun z => hb (by simp [z])) (fun z => hb (by simp [z])) q)) hf (Nat.le_refl _) new
    refine ⟨.ref s.heap.objs.size, _, I1, rfl, ⟨_, x, rfl, I.hok.fresh (Nat.le_refl _), rfl, fun ys hy => by rw [I.tuple_inj hy hq]; exact hx⟩, ⟨⟨x', ?_⟩, hst'.1.at fun o q => (sb.2 it (Ne.symm hne)).trans q, hne⟩, fun b hb => ?_⟩
    · have e1 : ((i + 1 : Nat) : Int) = (i : Int) + 1 := by omega
      rw [e1]; exact he'
    · have hb' : b < s.heap.objs.size := by
        have e' : b = e ∨ b = it := by simpa using hb
        rcases e' with z | z
        · rw [z]; exact hel
        · rw [z]; exact hil
      rw [upd_ne (Nat.ne_of_lt hb')]
      exact (hf b hb).1
  done := by
    intro X hP hw hK hc i pins s σ H E I hf st hg
    subst hP hw hK
    obtain ⟨⟨old, he⟩, hit, hne⟩ := st
    obtain ⟨xs, hq, hx⟩ := hg
    obtain ⟨its, rv, p, hz⟩ := I.tuple hq
    obtain ⟨f0, f1, f2, f3, f4, f5⟩ := hf it (by simp)
    have hl := rv.length
    have ht : s.heap.IsTuple a its.toArray := p
    have hh : X.A.in1.handled = none := I.ok.hd hc
    have hi : i = its.toArray.size := by rw [List.size_toArray]; omega
    rw [hi] at hit
    exact wpAny_pyNext_enum_endD (Draws.tuple hh it a hia its.toArray) he ⟨hit, ht⟩ fun h' eb => ⟨rfl, I.turned (t' := s.toks) (fun b o hb q => eb b o hb q) f0 f1 f3 f4 f5⟩
  self := fun A i s Q E st h => let ⟨⟨_, he⟩, _⟩ := st; wpAny_pyIter_enum he h
def iEnumT (K : PySem.W.Frag) (ta : TA) : TI := fun σ H R => ta σ H fun vs H1 => ∃ a xs, vs = [.ref a] ∧ ((SqL K H1 a xs ∧ R (Ite K a) H1) ∨ (SqT K H1 a xs ∧ R (Itet K a) H1))
theorem pi_enumT {X : Cx} {e : Expr} {ta : TA} {p pos tpos : Pos} {elts : List Expr} {kk : Nat} (hg : Gl X "enumerate") (hm : X.mg "enumerate" = none) (ha : PA X [e] ta) (hs : starEach [e] X.env = [(false, eval e X.env)] := by rfl) :
    PI X (.Tuple elts kk tpos) (.Call (.Name "enumerate" p) [e] [] pos) (iEnumT X.K ta) := by
  refine ⟨fun pins s σ H R I h => ?_⟩
  refine Call_ (ld_blt I hg hm boot_enumerate (PyProof.Rows.callWith_type1 (thn (ha.run pos pins s σ H _ I h) fun us s1 ⟨vs, H1, I1, r1, q1⟩ => ?_) hs rfl))
  obtain ⟨a, xs, ex, q⟩ := q1
  subst ex
  cases r1 with
  | cons r rr =>
    cases rr
    cases r
    rcases q with ⟨hq, q⟩ | ⟨hq, q⟩
    · obtain ⟨its, rv, p', hz⟩ := I1.list hq
      refine call_enumerate_list p'.isList fun h' he hit hsz hk => wpAny_pyIter_enum he ?_
      have I2 : Inv X pins σ H1 { s1 with heap := h' } := I1.kept (t' := s1.toks) hk
      refine ⟨s1.heap.objs.size + 1, [s1.heap.objs.size + 1, s1.heap.objs.size], _, _, H1, rfl, I2, turn_enum a (s1.heap.objs.size + 1) s1.heap.objs.size, ⟨⟨.none, he⟩, hit, Nat.succ_ne_self _⟩, fun b hb => ?_, q⟩
      have e' : b = s1.heap.objs.size + 1 ∨ b = s1.heap.objs.size := by simpa using hb
      have hle : s1.heap.objs.size ≤ b := by
        rcases e' with z | z
        · rw [z]; exact Nat.le_add_right _ _
        · rw [z]; exact Nat.le_refl _
      exact I1.fpOk hle (I1.hok.fresh hle)
    · obtain ⟨its, rv, p', hz⟩ := I1.tuple hq
      have hal : a < s1.heap.objs.size := by
        obtain ⟨o, ho, _⟩ := p'
        exact Heap.lt_size ho
      refine call_enumerate_B (begins_tuple a its.toArray) p' fun h' he hit hsz hk => wpAny_pyIter_enum he ?_
      have I2 : Inv X pins σ H1 { s1 with heap := h' } := I1.kept (t' := s1.toks) hk
      refine ⟨s1.heap.objs.size + 1, [s1.heap.objs.size + 1, s1.heap.objs.size], _, _, H1, rfl, I2, turn_enumT a (s1.heap.objs.size + 1) s1.heap.objs.size (Nat.ne_of_gt (Nat.lt_succ_of_lt hal)) (Nat.ne_of_lt hal), ⟨⟨.none, he⟩, ⟨_, hit, rfl, rfl⟩, Nat.succ_ne_self _⟩, fun b hb => ?_, q⟩
      have e' : b = s1.heap.objs.size + 1 ∨ b = s1.heap.objs.size := by simpa using hb
      have hle : s1.heap.objs.size ≤ b := by
        rcases e' with z | z
        · rw [z]; exact Nat.le_add_right _ _
        · rw [z]; exact Nat.le_refl _
      exact I1.fpOk hle (I1.hok.fresh hle)
end CT
namespace CT
open PySem PySem.Spec PyProof.Rows L2
/-! ## enumerate of a list or a tuple -/
section
variable {L : Lc}
theorem itd_enumT {H : Hp} {α β : List Addr} {a : Addr} {vs : List V} {ds : List D} (h : SqT L.K (hid H (α ++ β)) a vs) (r : Rps L.K H α β vs ds) : ItD L H α β (enumD 0 ds) (Itet L.K a) := fun H1 α1 β1 m1 x c => by
  have hs : SqT L.K H1 a vs := sqt_mono hid_sub (sqt_mono x.h h)
  refine ⟨⟨vs, hs, by rw [enumD_length, r.length]⟩, fun i d e => ?_⟩
  rw [enumD_get] at e
  cases q : ds[i]? with
  | none => rw [q] at e; cases e
  | some d' =>
    rw [q] at e
    cases e
    obtain ⟨v, h1, h2⟩ := r.get q
    refine ⟨⟨vs, v, hs, h1⟩, fun y H2 z => ?_⟩
    obtain ⟨T, w, rfl, hT, rfl, z⟩ := z
    have := z vs hs
    rw [h1] at this
    cases this
    refine ⟨Ext.lay hT, c.lay hT, .tup (.inl (.inl (hid_mk upd_same (c.freshB hT)))) (.cons ?_ (.cons (Rep.ext (x.rep h2) (Ext.lay hT)) .nil))⟩
    rw [Nat.zero_add]
    exact .int
def xEnumA (f : Fn D) : Fn (List D) := fun σ m => (f σ m).bind fun d m1 => match d with
  | .lst ds => .ok (enumD 0 ds) m1
  | .lck ds => .ok (enumD 0 ds) m1
  | .tup ds => .ok (enumD 0 ds) m1
  | _ => .bad
@[simp] theorem ev_enumA {f : Fn D} {σ : Sd} {m : Ms} : xEnumA f σ m = (f σ m).bind fun d m1 => match d with | .lst ds => .ok (enumD 0 ds) m1 | .lck ds => .ok (enumD 0 ds) m1 | .tup ds => .ok (enumD 0 ds) m1 | _ => .bad := rfl
theorem si_enumA {elts : List Expr} {kk : Nat} {tpos : Pos} {a : Expr} {f : Fn D} {p pos : Pos} (hg : Glb L "enumerate") (hm : L.mg "enumerate" = none) (ha : SE L a f) (hs : ∀ env, starEach [a] env = (false, eval a env) :: starEach [] env := by intro _; rfl) : SI L (.Tuple elts kk tpos) (.Call (.Name "enumerate" p) [a] [] pos) (xEnumA f) := fun W X h =>
  PIi (pi_enumT (by unfold Gl Env.kindOf; rw [h.sc]; exact hg) (by rw [h.mg]; exact hm) (pa_cons (ha W X h) pa_nil (hs _)) (hs _)) fun σ H R ⟨α, β, σd, m, s, q⟩ => by
  refine ⟨α, β, σd, m, s, q.mp (rel' := relV L) fun d m1 v H1 α1 e1 s1 r1 q => ?_⟩
  rw [h.K]
  cases r1 with
  | lst hh r => exact ⟨_, _, rfl, .inl ⟨.inl (.inl (hid_of hh).1), q _ H1 α1 Ext.refl s1 (itd_enum (.inl (.inl hh)) r)⟩⟩
  | lck hh r => exact ⟨_, _, rfl, .inl ⟨sql_mono hid_sub hh, q _ H1 α1 Ext.refl s1 (itd_enum hh r)⟩⟩
  | tup hh r => exact ⟨_, _, rfl, .inr ⟨sqt_mono hid_sub hh, q _ H1 α1 Ext.refl s1 (itd_enumT hh r)⟩⟩
  | int => exact q.elim
  | non => exact q.elim
  | bl => exact q.elim
  | str => exact q.elim
  | cel _ => exact q.elim
  | ins _ _ _ => exact q.elim
  | dct => exact q.elim
  | fn => exact q.elim
  | tpl => exact q.elim
end
section
variable {G : Lc} {N : List Str} {sc : Scope} {k : Nat} {fn : Str → Bool}
theorem gi_enumA {elts : List Expr} {kk : Nat} {tpos : Pos} {a : Expr} {f : Fn D} {p pos : Pos} (h : gloOk sc "enumerate" = true) (hm : G.mg "enumerate" = none) (ha : SE (G.loc N sc k fn) a f) (hs : ∀ env, starEach [a] env = (false, eval a env) :: starEach [] env := by intro _; rfl) :
    SI (G.loc N sc k fn) (.Tuple elts kk tpos) (.Call (.Name "enumerate" p) [a] [] pos) (xEnumA f) := si_enumA (gloOk_g h).1 hm ha hs
end
end CT
namespace SrtO
open PySem PyProof.Rows Srt Calls
end SrtO
namespace CT
open PySem PySem.Spec PyProof.Rows L2 SrtO
end CT
namespace PySem
open Sem (wp)
end PySem
namespace CT
open PySem PySem.Spec PyProof.Rows L2 SrtO
/-! ## sorted, of ints or of texts -/
/-! ## list(range(..)) -/
/-- the ends of a range -/
def xEnd1 (f : Fn D) : Fn (Int × Int) := fun σ m => (f σ m).bind fun d m1 => match d with
  | .int j => .ok (0, j) m1
  | _ => .bad
def xEnd2 (f g : Fn D) : Fn (Int × Int) := fun σ m => (f σ m).bind fun d m1 => (g σ m1).bind fun e m2 => match d, e with
  | .int i, .int j => .ok (i, j) m2
  | _, _ => .bad
def xLstRg (r : Fn (Int × Int)) : Fn D := fun σ m => (r σ m).bind fun p m1 => if (-100000 ≤ p.1 ∧ p.1 ≤ 100000) ∧ -100000 ≤ p.2 ∧ p.2 ≤ 100000 then .ok (.lst (rngD p.1 (p.2 - p.1).toNat)) m1 else .bad
/-- .. that will be changed -/
def xCelRg (r : Fn (Int × Int)) : Fn D := fun σ m => (r σ m).bind fun p m1 => if (-100000 ≤ p.1 ∧ p.1 ≤ 100000) ∧ -100000 ≤ p.2 ∧ p.2 ≤ 100000 then .ok (.cel m1.length) (m1 ++ [.l (rngD p.1 (p.2 - p.1).toNat)]) else .bad
section
variable {σ : Sd} {m : Ms} {f g : Fn D} {r : Fn (Int × Int)}
@[simp] theorem ev_end1 : xEnd1 f σ m = (f σ m).bind fun d m1 => match d with | .int j => .ok ((0 : Int), j) m1 | _ => .bad := rfl
@[simp] theorem ev_end2 : xEnd2 f g σ m = (f σ m).bind fun d m1 => (g σ m1).bind fun e m2 => match d, e with | .int i, .int j => .ok (i, j) m2 | _, _ => .bad := rfl
@[simp] theorem ev_lstRg : xLstRg r σ m = (r σ m).bind fun p m1 => if (-100000 ≤ p.1 ∧ p.1 ≤ 100000) ∧ -100000 ≤ p.2 ∧ p.2 ≤ 100000 then .ok (.lst (rngD p.1 (p.2 - p.1).toNat)) m1 else .bad := rfl
@[simp] theorem ev_celRg : xCelRg r σ m = (r σ m).bind fun p m1 => if (-100000 ≤ p.1 ∧ p.1 ≤ 100000) ∧ -100000 ≤ p.2 ∧ p.2 ≤ 100000 then .ok (.cel m1.length) (m1 ++ [.l (rngD p.1 (p.2 - p.1).toNat)]) else .bad := rfl
end
/-! ## sum(.., start=0) -/
def xSumK (f z : Fn (List D)) : Fn D := fun σ m => (f σ m).bind fun ds m1 => (z σ m1).bind fun zs m2 => match ds, zs with
  | [.lst ds], [.int i] => if i = 0 then match intsOf ds with
    | some ns => .ok (.int ns.sum) m2
    | none => .bad
    else .bad
  | _, _ => .bad
@[simp] theorem ev_sumK {f z : Fn (List D)} {σ : Sd} {m : Ms} : xSumK f z σ m = (f σ m).bind fun ds m1 => (z σ m1).bind fun zs m2 => match ds, zs with
  | [.lst ds], [.int i] => if i = 0 then match intsOf ds with
    | some ns => .ok (.int ns.sum) m2
    | none => .bad
    else .bad
  | _, _ => .bad := rfl
/-! ## xs[::-1] -/
def xRevL (f : Fn D) : Fn D := fun σ m => (f σ m).bind fun d m1 => match dr m1 d with
  | .lst ds => .ok (.lst ds.reverse) m1
  | _ => .bad
@[simp] theorem ev_revL {f : Fn D} {σ : Sd} {m : Ms} : xRevL f σ m = (f σ m).bind fun d m1 => match dr m1 d with
  | .lst ds => .ok (.lst ds.reverse) m1
  | _ => .bad := rfl
end CT
namespace CT
open PySem L2
/-! ## dicts that are made -/
def hasK (ks : List Key) (k : Key) : Bool := ks.any fun x => decide (x = k)
def putKs (ks : List Key) (k : Key) : List Key := if hasK ks k = true then ks else ks ++ [k]
def replD : List Key → List D → Key → D → List D
  | k :: ks, d :: ds, q, x => (if k = q then x else d) :: replD ks ds q x
  | _, _, _, _ => []
def putDs (ks : List Key) (ds : List D) (k : Key) (d : D) : List D := if hasK ks k = true then replD ks ds k d else ds ++ [d]
def dcL (g : Fg) (c : Fn Bool) (ek ev : Fn D) (σ : Sd) : List D → Ms → List Key → List D → R D
  | [], m, ks, vs => .ok (.dct ks vs) m
  | d :: ds, m, ks, vs => match g d σ m with
    | none => .bad
    | some (σ1, m1) => match c σ1 m1 with
      | .ok true m2 => match ek σ1 m2 with
        | .ok y m3 => match keyD y with
          | some k => match ev σ1 m3 with
            | .ok z m4 => dcL g c ek ev σ ds m4 (putKs ks k) (putDs ks vs k z)
            | _ => .bad
          | none => .bad
        | _ => .bad
      | .ok false m2 => dcL g c ek ev σ ds m2 ks vs
      | _ => .bad
def xDc (src : Fn (List D)) (g : Fg) (c : Fn Bool) (ek ev : Fn D) (own : List Nat) : Fn D := fun σ m => (src σ m).bind fun items m1 => if items.length ≤ 100000 then dcL g c ek ev (wipeD σ own) items m1 [] [] else .bad
@[simp] theorem ev_dc {s : Fn (List D)} {h : Fg} {c : Fn Bool} {ek ev : Fn D} {own : List Nat} {σ : Sd} {m : Ms} : xDc s h c ek ev own σ m = (s σ m).bind fun items m1 => if items.length ≤ 100000 then dcL h c ek ev (wipeD σ own) items m1 [] [] else .bad := rfl
end CT
namespace CT
open PySem PySem.Spec PyProof.Rows L2
/-! ## objects of one's own -/
/-- a class: its name, its place -/
structure ClX (G : Lc) (x : Str) (C : Addr) (c : Nat) : Prop where
  m : G.mg x = some (.ref C)
  ct : G.K.ct c = C
  cl : Cls G.K.K C
/-- a method of it: its def -/
structure MeX (G : Lc) (C : Addr) (x : Str) (ps : List Str) (k : Nat) (gS : List D → Ms → R D) (f : Addr) (fd : FuncData) : Prop where
  at_ : Meth G.K.K C x f
  ok : FnOk G.P G.w G.K G.mg G.base (L2.CX G.P G.w) k f fd ps (spOf G ps.length gS)
def mkR (n : Nat) : R D → R D
  | .ok .non m3 => .ok (.cel n) m3
  | .ok _ _ => .bad
  | .ex x m3 => .ex x m3
  | .bad => .bad
@[simp] theorem mkR_ok {n : Nat} {m : Ms} : mkR n (.ok .non m) = .ok (.cel n) m := rfl
@[simp] theorem mkR_ex {n : Nat} {x : Xc} {m : Ms} : mkR n (.ex x m) = .ex x m := rfl
/-- C(a, .., k = v, ..) -/
def xMake (c : Nat) (g : List D → List D → List D) (gS : List D → Ms → R D) (a kw : Fn (List D)) : Fn D := fun σ m => (a σ m).bind fun ds m1 => (kw σ m1).bind fun es m2 => mkR m2.length (gS (g (.cel m2.length :: ds) es) (m2 ++ [.o c [] []]))
@[simp] theorem ev_make {c : Nat} {g : List D → List D → List D} {gS : List D → Ms → R D} {a kw : Fn (List D)} {σ : Sd} {m : Ms} : xMake c g gS a kw σ m = (a σ m).bind fun ds m1 => (kw σ m1).bind fun es m2 => mkR m2.length (gS (g (.cel m2.length :: ds) es) (m2 ++ [.o c [] []])) := rfl
section
variable {L : Lc} {x : Str} {ps ks : List Str} {k n : Nat} {g : List D → List D → List D} {gS : List D → Ms → R D} {f C : Addr} {fd : FuncData} {p pos : Pos} {c : Nat}
theorem KB.kbn (B : KB L fd ps n ks g) : ∃ gv gV, KBn L.K.K fd ps n ks gv gV ∧ ∀ H α β vs ds zs es, Rps L.K H α β vs ds → Rps L.K H α β zs es → vs.length = n → zs.length = ks.length → Rps L.K H α β (gV vs zs) (g ds es) ∧ (g ds es).length = ps.length := by
  obtain ⟨gv, gV, b1, b2, b3⟩ := B.ex
  refine ⟨fun us ws => if us.length = n ∧ ws.length = ks.length then gv us ws else [], fun vs zs => if vs.length = n ∧ zs.length = ks.length then gV vs zs else [], ⟨fun s us ws X l1 l2 => ?_, fun {vs us zs ws} r1 r2 => ?_⟩, fun H α β vs ds zs es r1 r2 l1 l2 => ?_⟩
  · rw [if_pos ⟨l1, l2⟩]
    exact b1 s us ws X l1 l2
  · by_cases h : vs.length = n ∧ zs.length = ks.length
    · rw [if_pos h, if_pos ⟨by rw [← r1.length]; exact h.1, by rw [← r2.length]; exact h.2⟩]
      exact b2 _ _ _ _ r1 r2 h.1 h.2
    · rw [if_neg h, if_neg (fun z => h ⟨by rw [r1.length]; exact z.1, by rw [r2.length]; exact z.2⟩)]
      exact .nil
  · simp only [l1, l2, and_self, if_true]
    exact b3 H α β vs ds zs es r1 r2 l1 l2
theorem mk_sp {W : WX} (hct : L.K.ct c = C) {gV : List V → List V → List V} (b3 : ∀ H α β vs ds zs es, Rps L.K H α β vs ds → Rps L.K H α β zs es → vs.length = n + 1 → zs.length = ks.length → Rps L.K H α β (gV vs zs) (g ds es) ∧ (g ds es).length = ps.length)
    {σ : L2.St} {H : Hp} {vs zs : List V} {ds es : List D} {α β : List Addr} {σd : Sd} {m : Ms} {Q : VK} (l1 : vs.length = n) (l2 : zs.length = ks.length) (sr : SR L.K H α β σ σd m) (rd : Rps L.K H α β vs ds) (re : Rps L.K H α β zs es) (q : PostR L W (relV L) σ σd H α β Q (mkR m.length (gS (g (.cel m.length :: ds) es) (m ++ [.o c [] []])))) :
    ∀ xa da, H xa = none → H da = none → da ≠ xa → spOf L ps.length gS (gV (.ref xa :: vs) zs) (upd (upd H da (.own xa)) xa (.ins C da [])) (fun v H2 => v = .non ∧ Q (.ref xa) H2) (WE W σ) := by
  intro xa da hxn hdn hne
  have hx1 : (upd H da (.own xa)) xa = none := by rw [upd_ne (Ne.symm hne)]; exact hxn
  have e1 : Ext H α (upd H da (.own xa)) α := Ext.lay hdn
  have c1 := sr.cr.lay (o := .own xa) hdn
  have e2 : Ext (upd H da (.own xa)) α (upd (upd H da (.own xa)) xa (.ins C da [])) (α ++ [xa]) := Ext.cel hx1
  have c2 := c1.celO (ce := .o c [] []) (o := .ins C da []) hx1 rfl (vs := []) ⟨da, [], by rw [hct], rfl, rfl⟩ .nil
  have e12 := e1.trans e2
  have hat : (α ++ [xa])[m.length]? = some xa := by rw [← sr.cr.len]; simp
  have rx : Rp L.K (upd (upd H da (.own xa)) xa (.ins C da [])) (α ++ [xa]) β (.ref xa) (.cel m.length) := .cel hat
  obtain ⟨b4, b5⟩ := b3 (upd (upd H da (.own xa)) xa (.ins C da [])) (α ++ [xa]) β (.ref xa :: vs) (.cel m.length :: ds) zs es (.cons rx (rd.ext e12)) (re.ext e12) (by rw [List.length_cons, l1]) l2
  refine ⟨α ++ [xa], β, m ++ [.o c [] []], _, c2, b4, b5, ?_⟩
  cases eg : gS (g (.cel m.length :: ds) es) (m ++ [.o c [] []]) with
  | bad => rw [eg] at q; exact q.elim
  | ex xx m3 =>
    rw [eg] at q
    intro cl dd H1 α1 ex cc xr
    exact q cl dd H1 α1 (e12.trans ex) (sr.ext' (e12.trans ex) cc) xr
  | ok d m3 =>
    rw [eg] at q
    cases d with
    | non =>
      intro v H1 α1 ex cc rv
      cases rv
      exact ⟨rfl, q (.ref xa) H1 α1 (e12.trans ex) (sr.ext' (e12.trans ex) cc) (.cel (ex.ix _ _ hat))⟩
    | _ => exact q.elim
theorem run_makeS {X : Cx} {CX : CXT} {sp : Sp} {E : XK} {gv : List Value → List Value → List Value} {gV : List V → List V → List V} {pins : List (Addr × Obj)} {σ : L2.St} {H : Hp} {s : Shared} {Q : VK} {us ws : List Value} {vs zs : List V} (M : Mk X.K C f) (F : FnOk X.prog X.w X.K X.mg X.base CX k f fd ps sp) (hr : Room (k + 1) X.A) (hb : KBn X.K fd ps (n + 1) ks gv gV)
    (hx : ∀ H s e s', Inv X pins σ H s → CX X.stack H s E e s' → X.xe e s')
    (I : Inv X pins σ H s) (r : Vals vs us) (rz : Vals zs ws) (l1 : vs.length = n) (l2 : zs.length = ks.length)
    (h : ∀ x dx, H x = none → H dx = none → dx ≠ x → sp (gV (.ref x :: vs) zs) (upd (upd H dx (.own x)) x (.ins C dx [])) (fun v H2 => v = .non ∧ Q (.ref x) H2) E) :
    wpAny (model X.prog X.w) X.A (call (.ref C) us (ks.zip ws)) (EP X pins σ Q) X.xe s := by
  have hq := h (s.heap.objs.size + 1) s.heap.objs.size (I.hok.fresh (Nat.le_succ _)) (I.hok.fresh (Nat.le_refl _)) (Nat.ne_of_lt (Nat.lt_succ_self _))
  have I2 := Inv.made (C := C) I
  have r1 : Vals (V.ref (s.heap.objs.size + 1) :: vs) (Value.ref (s.heap.objs.size + 1) :: us) := .cons rfl r
  have r2 := hb.rel r1 rz
  have n1 : (Value.ref (s.heap.objs.size + 1) :: us).length = n + 1 := by
    rw [List.length_cons, ← r.length, l1]
  refine wpAny_call (make_map (f := f) I.kIn M.makes M.init (beq_iff_eq.mp M.fn) (codeAny_mono (F.run _ X.stack _ _ ⟨Value.ref (s.heap.objs.size + 1) :: us, ks.zip ws⟩ (gv (Value.ref (s.heap.objs.size + 1) :: us) ws) _ _ E (hr.make C us (ks.zip ws))
    (I2.env0.make C us (ks.zip ws)) (hb.to _ (Value.ref (s.heap.objs.size + 1) :: us) ws I2.kIn n1 (rz.length.symm.trans l2)) r2 hq) fun r s' hq' => ?_))
  cases r with
  | error e => exact hx _ _ e s' I2 hq'
  | ok fl =>
    cases fl with
    | ret u =>
      obtain ⟨v, H', I3, rv, ev, q3⟩ := I2.after hq'
      subst ev
      exact ⟨rv, ⟨V.ref (s.heap.objs.size + 1), H', I3, rfl, q3⟩⟩
    | next => exact False.elim hq'
    | brk => exact False.elim hq'
    | cont => exact False.elim hq'
theorem cast_mk {W : WX} {X : Cx} (h : Ok L W X) (M : Mk L.K.K C f) : Mk X.K C f := by rw [h.K]; exact M
theorem se_mk {e : Expr} {es : List Expr} {kws : List Keyword} {fa fk : Fn (List D)} (CL : ClX L x C c) (M : Mk L.K.K C f) (F : FnOk L.P L.w L.K L.mg L.base (L2.CX L.P L.w) k f fd ps (spOf L ps.length gS)) (hk : k + 1 ≤ L.k) (B : KB L fd ps (es.length + 1 + 1) ks g) (hg : Glb L x) (ha : SAs L (e :: es) fa) (hkw : SK L kws fk) (hkl : kws.length = ks.length)
    (hdb : (x == ("__debug__" : Str)) = false := by decide) (hall : ∀ env, (backToKw pos (keywordEach kws env)).all (·.1.isSome) = true := by intro _; rfl) (hks : ∀ env, (backToKw pos (keywordEach kws env)).filterMap (·.1) = ks := by intro _; rfl)
    (he : ∀ env, starEach (e :: es) env = (false, eval e env) :: starEach es env := by intro _; rfl) (hpl : ∀ env, ((backTo pos (starEach (e :: es) env)).any (·.1) || (backToKw pos (keywordEach kws env)).any (·.1.isNone)) = false := by intro _; rfl) :
    SE L (.Call (.Name x p) (e :: es) kws pos) (xMake c g gS fa fk) := fun W X h => by
  obtain ⟨gv, gV, hb, b3⟩ := B.kbn
  refine ⟨fun pins s σ H Q I ⟨α, β, σd, m, sr, q⟩ => ?_⟩
  refine wpAny_Call_Name_kw (ld_glob I (by unfold Gl Env.kindOf; rw [h.sc]; exact hg) (by rw [h.mg]; exact CL.m) ?_ hdb)
  refine PySem.W.callWith_KW (h₀ := X.base) I.ok.mod.kin (by rw [h.K]; exact M.kp) (hall _) ?_ (hpl _) (he _)
  refine thn ((ha W X h).run pos pins s σ H (fun vs H1 => ∃ ds α1 m1, SR L.K H1 α1 β σ σd m1 ∧ Rps L.K H1 α1 β vs ds ∧ vs.length = es.length + 1 ∧ PostR L W (relV L) σ σd H1 α1 β Q ((fk σd m1).bind fun es m2 => mkR m2.length (gS (g (.cel m2.length :: ds) es) (m2 ++ [.o c [] []])))) I ⟨α, β, σd, m, sr, ?_⟩) ?_
  · exact q.mp fun ds m1 vs H1 α1 e1 s1 r1 q => ⟨ds, α1, m1, s1, r1.1, r1.2, q⟩
  · rintro us s1 ⟨vs, H1, I1, r, ds, α1, m1, sr1, rd, hl, q1⟩
    refine thn ((hkw W X h).run pos pins s1 σ H1 (fun zs H2 => ∃ es α2 m2, SR L.K H2 α2 β σ σd m2 ∧ Rps L.K H2 α2 β vs ds ∧ Rps L.K H2 α2 β zs es ∧ zs.length = ks.length ∧ PostR L W (relV L) σ σd H2 α2 β Q (mkR m2.length (gS (g (.cel m2.length :: ds) es) (m2 ++ [.o c [] []])))) I1 ⟨α1, β, σd, m1, sr1, ?_⟩) ?_
    · exact q1.mp fun es m2 zs H2 α2 e2 s2 r2 q => ⟨es, α2, m2, s2, rd.ext e2, r2.1, r2.2.trans hkl, q⟩
    · rintro ws s2 ⟨zs, H2, I2, rz, es', α2, m2, sr2, rd2, re2, hl2, q2⟩
      refine ⟨I2.kIn, ?_⟩
      rw [hks]
      exact run_makeS (cast_mk h M) (h.cast (by rw [h.prog, h.w]; exact F)) (h.room.mono hk) (by rw [h.K]; exact hb) (fun H s e s' I' hq' => passAt h.tk σ pins H s e s' I' hq') I2 r rz hl hl2 (mk_sp (W := W) CL.ct b3 hl hl2 sr2 rd2 re2 q2)
end
end CT
namespace CT
open PySem PySem.Spec PyProof.Rows L2
/-! ## fields and methods -/
def fget : List Str → List D → Str → Option D
  | n :: ns, d :: ds, f => if f == n then some d else fget ns ds f
  | _, _, _ => none
def oFld (c : Nat) (f : Str) : D → Ms → R D
  | .ins k ns ds, m => if k = c then match fget ns ds f with
    | some d => .ok d m
    | none => .bad
    else .bad
  | _, _ => .bad
def xFld (c : Nat) (f : Str) (o : Fn D) : Fn D := fun σ m => (o σ m).bind fun d m1 => oFld c f (dr m1 d) m1
@[simp] theorem ev_fld {c : Nat} {f : Str} {o : Fn D} {σ : Sd} {m : Ms} : xFld c f o σ m = (o σ m).bind fun d m1 => oFld c f (dr m1 d) m1 := rfl
theorem fget_v {K : KK} {G : Hp} {α : List Addr} : ∀ {fs : List (Str × V)} {ns : List Str} {ds : List D} {f : Str} {d : D}, fs.map (·.1) = ns → Reps K G α (fs.map (·.2)) ds → fget ns ds f = some d → ∃ v, fs.lookup f = some v ∧ Rep K G α v d
  | [], _, _, f, d, e, r, h => by
    subst e
    simp [fget] at h
  | (n1, v1) :: fs, _, _, f, d, e, .cons a r, h => by
    subst e
    simp only [List.map_cons, fget] at h
    by_cases hk : (f == n1) = true
    · rw [if_pos hk] at h
      cases h
      exact ⟨v1, by rw [List.lookup, hk], a⟩
    · rw [if_neg hk] at h
      obtain ⟨v, h1, h2⟩ := fget_v rfl r h
      have hk' : (f == n1) = false := by simpa using hk
      exact ⟨v, by rw [List.lookup, hk']; exact h1, h2⟩
theorem fget_none {fs : List (Str × V)} {ns : List Str} {ds : List D} {f : Str} (e : fs.map (·.1) = ns) (h : f ∉ ns) : fs.lookup f = none := by
  subst e
  induction fs with
  | nil => rfl
  | cons p fs ih =>
    obtain ⟨n1, v1⟩ := p
    simp only [List.map_cons, List.mem_cons, not_or] at h
    have hk : (f == n1) = false := by
      rw [beq_eq_false_iff_ne]
      exact h.1
    rw [List.lookup, hk]
    exact ih h.2
section
variable {L : Lc} {C : Addr} {c : Nat} {x : Str}
theorem se_fld {o : Expr} {fo : Fn D} {f : Str} {pos : Pos} (CL : ClX L x C c) (hn : NoAttr L.K.K C f) (ho : SE L o fo) (hb : ∀ env, attributeBase o f env (eval o env) = eval o env := by intro _; rfl) : SE L (.Attribute o f pos) (xFld c f fo) := fun W X h =>
  PEi (pe_fld (ho W X h) (hb _)) fun σ H Q ⟨α, β, σd, m, s, q⟩ => by
  refine ⟨α, β, σd, m, s, q.mp fun d m1 v H1 α1 e1 s1 r1 q => ?_⟩
  rw [h.K]
  have r2 := Rv.of s1.cr r1
  generalize dr m1 d = d' at r2 q
  cases r2 with
  | @ins a dx k fs ns ds hh n r =>
    by_cases hk : k = c
    rotate_left
    · simp only [oFld, if_neg hk] at q
      exact q.elim
    subst hk
    simp only [oFld, if_pos] at q
    cases e : fget ns ds f with
    | none => rw [e] at q; exact q.elim
    | some d2 =>
      rw [e] at q
      obtain ⟨v2, h1, h2⟩ := fget_v n r e
      refine ⟨a, C, dx, fs, v2, rfl, ?_, CL.cl, hn, h1, q _ H1 α1 Ext.refl s1 h2⟩
      rw [hh, CL.ct]
  | _ => exact q.elim
/-! ### o.f = e, while it is made -/
def putN (f : Str) : List Str → List Str
  | [] => [f]
  | n :: ns => if n = f then n :: ns else n :: putN f ns
def putL (f : Str) (d : D) : List Str → List D → List D
  | n :: ns, x :: ds => if n = f then d :: ds else x :: putL f d ns ds
  | _, _ => [d]
theorem put_fld {K : KK} {G : Hp} {α : List Addr} {f : Str} {v : V} {d : D} (a : Rep K G α v d) : ∀ {fs : List (Str × V)} {ds : List D}, Reps K G α (fs.map (·.2)) ds → (putF f v fs).map (·.1) = putN f (fs.map (·.1)) ∧ Reps K G α ((putF f v fs).map (·.2)) (putL f d (fs.map (·.1)) ds)
  | [], _, r => by
    cases r
    exact ⟨rfl, .cons a .nil⟩
  | (n, y) :: fs, _, .cons b r => by
    obtain ⟨h1, h2⟩ := put_fld (f := f) a r
    simp only [putF, List.map_cons, putN, putL]
    by_cases h : n = f
    · rw [if_pos h, if_pos h, if_pos h]
      exact ⟨rfl, .cons a r⟩
    · rw [if_neg h, if_neg h, if_neg h]
      exact ⟨by rw [List.map_cons, h1], .cons b h2⟩
def xPutF (c : Nat) (f : Str) (o e : Fn D) : Fo := fun σ m => (e σ m).go σ fun d m1 => (o σ m1).go σ fun od m2 => match od with
  | .cel i => match m2[i]? with
    | some (.o k ns ds) => if k = c ∧ d.cf 0 = true ∧ ns.length < 900 then .nx σ (m2.set i (.o k (putN f ns) (putL f d ns ds))) else .bad
    | _ => .bad
  | _ => .bad
@[simp] theorem ev_putF {c : Nat} {f : Str} {o e : Fn D} {σ : Sd} {m : Ms} : xPutF c f o e σ m = (e σ m).go σ fun d m1 => (o σ m1).go σ fun od m2 => match od with
  | .cel i => match m2[i]? with
    | some (.o k ns ds) => if k = c ∧ d.cf 0 = true ∧ ns.length < 900 then .nx σ (m2.set i (.o k (putN f ns) (putL f d ns ds))) else .bad
    | _ => .bad
  | _ => .bad := rfl
theorem putL_cf {f : Str} {d : D} (hd : d.cf 0 = true) : ∀ {ns : List Str} {ds : List D}, D.cfs 0 ds = true → D.cfs 0 (putL f d ns ds) = true
  | [], _, _ => by simp [putL, D.cfs, hd]
  | _ :: _, [], _ => by simp [putL, D.cfs, hd]
  | n :: ns, y :: ds, h => by
    simp only [D.cfs, Bool.and_eq_true] at h
    simp only [putL]
    split
    · simp only [D.cfs, Bool.and_eq_true]; exact ⟨hd, h.2⟩
    · simp only [D.cfs, Bool.and_eq_true]; exact ⟨h.1, putL_cf hd h.2⟩
theorem CR.obj_at {K : KK} {H : Hp} {α β : List Addr} {m : Ms} (cr : CR K H α β m) {v : V} {i k : Nat} {ns : List Str} {ds : List D} (r : Rp K H α β v (.cel i)) (e : m[i]? = some (.o k ns ds)) : ∃ a dx fs, v = .ref a ∧ α[i]? = some a ∧ H a = some (.ins (K.ct k) dx fs) ∧ fs.map (·.1) = ns ∧ Rps K H α β (fs.map (·.2)) ds ∧ D.cfs 0 ds = true := by
  cases r with
  | cel q =>
    obtain ⟨z, vs, o, h1, ho, h2⟩ := cr.cell i _ (.o k ns ds) q e
    obtain ⟨dx, fs, rfl, hn, rfl⟩ := ho
    exact ⟨_, dx, fs, rfl, q, h1, hn, h2, z⟩
theorem s_putF {o e : Expr} {fo fe : Fn D} {f : Str} {pos' pos : Pos} (CL : ClX L x C c) (hn : NoAttr L.K.K C f) (ho : SE L o fo) (he : SE L e fe) (hs : ∀ env : Env, env.scope = L.sc → swapsWith e (some (.Attribute o f pos')) pos.line env = pure false := by intro _ _; rfl) : SS L (.Assign [.Attribute o f pos'] e pos) (xPutF c f fo fe) := fun W X h =>
  PSi (ps_fld (ho W X h) (he W X h) (hs _ h.sc)) fun D σ H ⟨α, β, σd, m, s, q⟩ => by
  refine ⟨α, β, σd, m, s, q.mp fun d m1 v H1 α1 e1 s1 r1 q => ⟨α1, β, σd, m1, s1, q.mp fun od m2 u H2 α2 e2 s2 r2 q => ?_⟩⟩
  rw [h.K]
  cases od with
  | cel i =>
    simp only at q
    split at q
    rotate_left
    · exact q.elim
    rename_i k ns ds em
    split at q
    rotate_left
    · exact q.elim
    rename_i hk
    obtain ⟨hk, hd, hl⟩ := hk
    subst hk
    obtain ⟨a, dx, fs, rfl, ha, hH, hns, rf, zf⟩ := s2.cr.obj_at r2 em
    subst hns
    obtain ⟨p1, p2⟩ := put_fld (f := f) (r1.ext e2) rf
    refine ⟨a, C, dx, fs, rfl, by rw [hH, CL.ct], CL.cl, hn, by simp at hl; omega, ?_⟩
    have cc := s2.cr.putO (ce := .o k (putN f (fs.map (·.1))) (putL f d (fs.map (·.1)) ds)) (o := .ins C dx (putF f v fs)) ha (putL_cf hd zf) (vs := (putF f v fs).map (·.2)) ⟨dx, _, by rw [CL.ct], p1, rfl⟩ p2
    have x3 : Ext H2 α2 (upd H2 a (.ins C dx (putF f v fs))) α2 := s2.cr.putX ha
    exact q σ _ α2 x3 (s2.ext' x3 cc)
  | _ => exact q.elim
end
/-! ### o.m(..) -/
def xMth (c : Nat) (mx : Str) (g : List D → List D → List D) (gS : List D → Ms → R D) (o : Fn D) (a kw : Fn (List D)) : Fn D := fun σ m => (o σ m).bind fun d m1 => match dr m1 d with
  | .ins k ns _ => if k = c ∧ mx ∉ ns then (a σ m1).bind fun ds m2 => (kw σ m2).bind fun es m3 => gS (g (d :: ds) es) m3 else .bad
  | _ => .bad
@[simp] theorem ev_mth {c : Nat} {mx : Str} {g : List D → List D → List D} {gS : List D → Ms → R D} {o : Fn D} {a kw : Fn (List D)} {σ : Sd} {m : Ms} : xMth c mx g gS o a kw σ m = (o σ m).bind fun d m1 => match dr m1 d with
  | .ins k ns _ => if k = c ∧ mx ∉ ns then (a σ m1).bind fun ds m2 => (kw σ m2).bind fun es m3 => gS (g (d :: ds) es) m3 else .bad
  | _ => .bad := rfl
section
variable {L : Lc} {C : Addr} {c : Nat} {cx mx : Str} {ps ks : List Str} {k n : Nat} {g : List D → List D → List D} {gS : List D → Ms → R D} {f : Addr} {fd : FuncData} {p pos apos : Pos}
theorem run_kbM {W : WX} {X : Cx} (h : Ok L W X) (F : FnOk L.P L.w L.K L.mg L.base (L2.CX L.P L.w) k f fd ps (spOf L ps.length gS)) (hk : k ≤ L.k) (B : KB L fd ps n ks g) {pins : List (Addr × Obj)} {σ : L2.St} {H : Hp} {s : Shared} {us ws : List Value} {vs zs : List V} {ds es : List D} {α β : List Addr} {σd : Sd} {m : Ms} {Q : VK}
    (I : Inv X pins σ H s) (r : Vals vs us) (rz : Vals zs ws) (l1 : vs.length = n) (l2 : zs.length = ks.length) (sr : SR L.K H α β σ σd m) (rd : Rps L.K H α β vs ds) (re : Rps L.K H α β zs es) (q : PostR L W (relV L) σ σd H α β Q (gS (g ds es) m)) :
    wpAny (model X.prog X.w) X.A (call (.ref f) us (ks.zip ws)) (EP X pins σ Q) X.xe s := by
  obtain ⟨gv, gV, b1, b2, b3⟩ := B.ex
  obtain ⟨b4, b5⟩ := b3 H α β vs ds zs es rd re l1 l2
  have r2 := b2 vs us zs ws r rz l1 l2
  have kin : L.K.K.In s.heap := by rw [← h.K]; exact I.kIn
  have hsp : spOf L ps.length gS (gV vs zs) H Q (WE W σ) := ⟨α, β, m, _, sr.cr, b4, b5, ret_post sr q⟩
  have F' : FnOk X.prog X.w X.K X.mg X.base (L2.CX X.prog X.w) k f fd ps (spOf L ps.length gS) := h.cast (by rw [h.prog, h.w]; exact F)
  refine wpAny_call (codeAny_mono (F'.run X.A X.stack s H ⟨us, ks.zip ws⟩ (gv us ws) (gV vs zs) Q (WE W σ) (h.room.mono hk) I.env0 (b1 s us ws kin (r.length.symm.trans l1) (rz.length.symm.trans l2)) r2 hsp) ?_)
  intro rr s' hq
  cases rr with
  | error e => exact passAt h.tk σ pins H s e s' I hq
  | ok fl =>
    cases fl with
    | ret u => exact I.after hq
    | next => exact hq.elim
    | brk => exact hq.elim
    | cont => exact hq.elim
/-- what a receiver that fits gives -/
theorem recv {W : WX} {σ : L2.St} {σd : Sd} {H : Hp} {α β : List Addr} {Q : VK} {a kw : Fn (List D)} {d : D} {m1 : Ms} {v : V} (CL : ClX L cx C c) (s : SR L.K H α β σ σd m1) (r : Rp L.K H α β v d)
    (q : PostR L W (relV L) σ σd H α β Q (match dr m1 d with
      | .ins k ns _ => if k = c ∧ mx ∉ ns then (a σd m1).bind fun ds m2 => (kw σd m2).bind fun es m3 => gS (g (d :: ds) es) m3 else .bad
      | _ => .bad)) : ∃ ad dx fs, v = .ref ad ∧ H ad = some (.ins C dx fs) ∧ fs.lookup mx = none ∧ PostR L W (relV L) σ σd H α β Q ((a σd m1).bind fun ds m2 => (kw σd m2).bind fun es m3 => gS (g (d :: ds) es) m3) := by
  have r2 := Rv.of s.cr r
  generalize dr m1 d = d' at r2 q
  cases r2 with
  | @ins ad dx k fs ns ds hh n r =>
    simp only at q
    split at q
    rotate_left
    · exact q.elim
    rename_i hk
    obtain ⟨hk, hm⟩ := hk
    subst hk
    exact ⟨ad, dx, fs, rfl, by rw [hh, CL.ct], fget_none (ds := []) n hm, q⟩
  | _ => exact q.elim
theorem se_mth0 {o : Expr} {fo : Fn D} {pl : Env → Sem Bool} (CL : ClX L cx C c) (M : MeX L C mx ps k gS f fd) (hk : k ≤ L.k) (B : KB L fd ps 1 [] g) (ho : SE L o fo)
    (ht : ∀ env, eval (.Call (.Attribute o mx apos) [] [] pos) env = (do
      let ov ← eval o env
      standAt apos.atName
      let (f, first) ← holding [ov] (getMethod ov mx (pl env))
      callWith pos f first (backTo pos (starEach [] env)) (backToKw pos (keywordEach [] env))) := by intro _; rfl) :
    SE L (.Call (.Attribute o mx apos) [] [] pos) (xMth c mx g gS fo xNil xNil) := fun W X h => by
  refine ⟨fun pins s σ H Q I ⟨α, β, σd, m, sr, q⟩ => ?_⟩
  refine PySem.W.methodCall_KW (pl := pl _) (thn ((ho W X h).run pins s σ H (fun v H1 => ∃ d α1 m1, SR L.K H1 α1 β σ σd m1 ∧ Rp L.K H1 α1 β v d ∧ PostR L W (relV L) σ σd H1 α1 β Q (match dr m1 d with
      | .ins k ns _ => if k = c ∧ mx ∉ ns then gS (g [d] []) m1 else .bad
      | _ => .bad)) I ⟨α, β, σd, m, sr, ?_⟩) ?_) (ht _)
  · exact q.mp fun d m1 v H1 α1 e1 s1 r1 q => ⟨d, α1, m1, s1, r1, q⟩
  · rintro u s1 ⟨v, H1, I1, rv, d, α1, m1, sr1, rd, q1⟩
    obtain ⟨ad, dx, fs, rfl, ea, l, q2⟩ := recv (a := xNil) (kw := xNil) CL sr1 rd q1
    obtain rfl : u = Value.ref ad := rv
    have cl : Cls X.K C := by rw [h.K]; exact CL.cl
    have mt : Meth X.K C mx f := by rw [h.K]; exact M.at_
    refine getmeth_ok I1 ea cl mt l ?_
    exact PySem.W.callWith_K0 (first := [.ref ad]) I1.kIn mt.kp (run_kbM (us := [.ref ad]) (vs := [.ref ad]) (ws := []) (zs := []) h M.ok hk B I1 (.cons rfl .nil) .nil rfl rfl sr1 (.cons rd .nil) .nil q2)
theorem se_mth {o e : Expr} {es : List Expr} {fo : Fn D} {fa : Fn (List D)} {pl : Env → Sem Bool} (CL : ClX L cx C c) (M : MeX L C mx ps k gS f fd) (hk : k ≤ L.k) (B : KB L fd ps (es.length + 1 + 1) [] g) (ho : SE L o fo) (ha : SAs L (e :: es) fa)
    (hst : ∀ env, starEach (e :: es) env = (false, eval e env) :: starEach es env := by intro _; rfl) (hpl : ∀ env, (backTo pos (starEach es env)).any (·.1) = false := by intro _; rfl)
    (ht : ∀ env, eval (.Call (.Attribute o mx apos) (e :: es) [] pos) env = (do
      let ov ← eval o env
      standAt apos.atName
      let (f, first) ← holding [ov] (getMethod ov mx (pl env))
      callWith pos f first (backTo pos (starEach (e :: es) env)) (backToKw pos (keywordEach [] env))) := by intro _; rfl) :
    SE L (.Call (.Attribute o mx apos) (e :: es) [] pos) (xMth c mx g gS fo fa xNil) := fun W X h => by
  refine ⟨fun pins s σ H Q I ⟨α, β, σd, m, sr, q⟩ => ?_⟩
  refine PySem.W.methodCall_KW (pl := pl _) (thn ((ho W X h).run pins s σ H (fun v H1 => ∃ d α1 m1, SR L.K H1 α1 β σ σd m1 ∧ Rp L.K H1 α1 β v d ∧ PostR L W (relV L) σ σd H1 α1 β Q (match dr m1 d with
      | .ins k ns _ => if k = c ∧ mx ∉ ns then (fa σd m1).bind fun ds m2 => (xNil σd m2).bind fun es m3 => gS (g (d :: ds) es) m3 else .bad
      | _ => .bad)) I ⟨α, β, σd, m, sr, ?_⟩) ?_) (ht _)
  · exact q.mp fun d m1 v H1 α1 e1 s1 r1 q => ⟨d, α1, m1, s1, r1, q⟩
  · rintro u s1 ⟨v, H1, I1, rv, d, α1, m1, sr1, rd, q1⟩
    obtain ⟨ad, dx, fs, rfl, ea, l, q2⟩ := recv CL sr1 rd q1
    obtain rfl : u = Value.ref ad := rv
    have cl : Cls X.K C := by rw [h.K]; exact CL.cl
    have mt : Meth X.K C mx f := by rw [h.K]; exact M.at_
    refine getmeth_ok I1 ea cl mt l ?_
    refine PySem.W.callWith_K (first := [.ref ad]) (h₀ := X.base) I1.ok.mod.kin mt.kp ?_ (hst _) (hpl _)
    refine thn ((ha W X h).run pos pins s1 σ H1 (fun vs H2 => ∃ ds α2 m2, SR L.K H2 α2 β σ σd m2 ∧ Rp L.K H2 α2 β (.ref ad) d ∧ Rps L.K H2 α2 β vs ds ∧ vs.length = es.length + 1 ∧ PostR L W (relV L) σ σd H2 α2 β Q (gS (g (d :: ds) []) m2)) I1 ⟨α1, β, σd, m1, sr1, ?_⟩) ?_
    · exact q2.mp fun ds m2 vs H2 α2 e2 s2 r2 q => ⟨ds, α2, m2, s2, rd.ext e2, r2.1, r2.2, q⟩
    · rintro us s2 ⟨vs, H2, I2, r, ds, α2, m2, sr2, rd2, re2, hl, q3⟩
      exact ⟨I2.kIn, run_kbM (us := .ref ad :: us) (vs := .ref ad :: vs) (ws := []) (zs := []) h M.ok hk B I2 (.cons rfl r) .nil (by rw [List.length_cons, hl]) rfl sr2 (.cons rd2 re2) .nil q3⟩
end
end CT
namespace CT
open PySem PySem.Spec PyProof.Rows L2
/-! ## len(o) by an own __len__ -/
section
variable {prog : Program} {w : World} {A : Around} {E : Value → Shared → Prop} {s : Shared} {K : PySem.W.Frag} {x C f : Addr} {ox : Obj} {odd : Option Obj}
theorem len_own {Q : Value → Shared → Prop} (X : K.In s.heap) (I : PySem.W.InstAt s.heap x ox C odd) (hs : PySem.W.findIn K (.ref C) "__len__" = some (some (.ref f))) (hf : PySem.W.isFn K (.ref f) = true)
    (h : wpAny (model prog w) A.in1 (call (.ref f) [.ref x]) (fun r s₁ => ∃ n u, r = Value.int n u ∧ 0 ≤ n ∧ n < 2 ^ 63 ∧ ∀ t, Q (.int n t) { s₁ with toks := t + 1 }) E s) : wpAny (model prog w) A (call (.builtin "len") [.ref x]) Q E s := by
  refine Calls.call_function_entry PySem.kind_len PySem.plain_len PySem.entry_len (PySem.args_len1 _) ?_
  unfold Builtin.«len»
  refine wpAny_bind (m := oneArg "len" _) (wpAny_pure ?_)
  refine wpAny_bind (m := callSpecial? (.ref x) (Str.ofString "__len__")) (PySem.W.special_fn X I hs (beq_iff_eq.mp hf) (wpAny_mono h (fun r s' hr => ?_) fun _ _ y => y))
  obtain ⟨n, u, rfl, h0, h1, hq⟩ := hr
  obtain ⟨hp, g, d, tk, os⟩ := s'
  refine wpAny_bind (wpAny_holding (wpAny_pure ?_))
  refine wpAny_bind (wpAny_letGo ?_)
  have h0' : ¬ n < 0 := by omega
  have h1' : ¬ n ≥ 2 ^ 63 := by omega
  show wpAny _ _ (if n < 0 then _ else _) _ _ _
  rw [if_neg h0']
  show wpAny _ _ (if n ≥ 2 ^ 63 then _ else _) _ _ _
  rw [if_neg h1']
  exact wpAny_bind (wpAny_mkInt (wpAny_pure ⟨_, rfl, hq _⟩))
end
/-- a call of a def at any place around -/
theorem run_atS {X : Cx} {CX : CXT} {pins : List (Addr × Obj)} {σ : L2.St} {H : Hp} {s : Shared} {g : Addr} {n : Nat} {fd : FuncData} {ps : List Str} {sp : Sp} {E : XK} {A : Around} {Q : VK} {us : List Value} {ws : List V} (F : FnOk X.prog X.w X.K X.mg X.base CX n g fd ps sp) (hr : Room n A) (e0 : Env0 X.prog X.w X.K X.mg X.base A X.stack s H)
    (hb : BindsTo s fd ⟨us, []⟩ (ps.zip us)) (hx : ∀ H s e s', Inv X pins σ H s → CX X.stack H s E e s' → X.xe e s') (I : Inv X pins σ H s) (r : Vals ws us) (h : sp ws H Q E) :
    codeAny (model X.prog X.w) A (.call (.ref g) ⟨us, []⟩) (fun r s' => match r with | .ok (.ret v) => EP X pins σ Q v s' | .ok _ => False | .error e => X.xe e s') s := by
  refine codeAny_mono (F.run A X.stack s H ⟨us, []⟩ us ws Q E hr e0 hb r h) fun r s' hq => ?_
  cases r with
  | error e => exact hx H s e s' I hq
  | ok fl =>
    cases fl with
    | ret u => exact I.after hq
    | next => exact False.elim hq
    | brk => exact False.elim hq
    | cont => exact False.elim hq
theorem ins_instA {P : Program} {w : World} {H : Hp} {h : Heap} {a C dx : Addr} {fs : List (Str × V)} (hok : HOk P w H h) (e : H a = some (.ins C dx fs)) : ∃ ob od, PySem.W.InstAt h a ob C od := by
  obtain ⟨mA, O, _⟩ := ins_get hok e
  obtain ⟨od, J, _⟩ := O.look
  exact ⟨_, _, J⟩
/-- a def of one or two parameters, given all -/
structure Bnd (L : Lc) (fd : FuncData) (ps : List Str) : Prop where
  to : ∀ (s : Shared) (us : List Value), L.K.K.In s.heap → us.length = ps.length → BindsTo s fd ⟨us, []⟩ (ps.zip us)
theorem call_lenOwn {X : Cx} {CX : CXT} {C g : Addr} {n : Nat} {fd : FuncData} {ps : List Str} {sp : Sp} (hs : PySem.W.findIn X.K (.ref C) "__len__" = some (some (.ref g))) (hf : PySem.W.isFn X.K (.ref g) = true) (F : FnOk X.prog X.w X.K X.mg X.base CX n g fd ps sp) (hr : Room (n + 1) X.A)
    (hb : ∀ (s : Shared) (us : List Value), X.K.In s.heap → us.length = ps.length → BindsTo s fd ⟨us, []⟩ (ps.zip us)) (hl : ps.length = 1) (hx : Passes CX X (fun _ _ _ => False)) :
    CallR X (.builtin "len") (fun xs H Q => ∃ a dx fs, xs = [.ref a] ∧ H a = some (.ins C dx fs) ∧ sp [.ref a] H (fun z H' => ∃ i, z = .int i ∧ 0 ≤ i ∧ i < 2 ^ 63 ∧ Q z H') (fun _ _ _ => False)) := by
  intro pins s σ H xs us Q I r h
  obtain ⟨a, dx, fs, rfl, ha, q⟩ := h
  obtain ⟨u, rfl, ru⟩ := r.one
  cases (show u = Value.ref a from ru)
  obtain ⟨ob, od, J⟩ := ins_instA I.hok ha
  have hr2 : Room n X.A.in1 := hr.in1
  refine len_own I.kIn J hs hf (wpAny_mono (wpAny_call (run_atS (us := [.ref a]) (ws := [.ref a]) F hr2 I.env0.in1 (hb s [.ref a] I.kIn (by rw [hl]; rfl)) (fun H s e s' I' hq' => hx pins σ H s e s' I' hq') I (.cons rfl .nil) q)) (fun w s' z => ?_) fun _ _ x => x)
  obtain ⟨z', H', I', rz, i, ei, h0, h1, qz⟩ := z
  subst ei
  obtain ⟨t, e⟩ := (show ∃ t, w = Value.int i t from rz)
  cases e
  exact ⟨i, t, rfl, h0, h1, fun t2 => ⟨.int i, H', I'.tok _, ⟨_, rfl⟩, qz⟩⟩
/-- len(o): of an object by its def, else as it was -/
def xLenO (c : Nat) (gS : List D → Ms → R D) (f : Fn (List D)) : Fn D := fun σ m => (f σ m).bind fun ds m1 => match ds with
  | [d] => match dr m1 d with
    | .ins k _ _ => if k = c then match gS [d] m1 with
      | .ok (.int i) m2 => if 0 ≤ i ∧ i < 2 ^ 62 then .ok (.int i) m2 else .bad
      | _ => .bad
      else .bad
    | _ => bLen (ds.map (dr m1)) m1
  | ds => bLen (ds.map (dr m1)) m1
@[simp] theorem ev_lenO {c : Nat} {gS : List D → Ms → R D} {f : Fn (List D)} {σ : Sd} {m : Ms} : xLenO c gS f σ m = (f σ m).bind fun ds m1 => match ds with
  | [d] => match dr m1 d with
    | .ins k _ _ => if k = c then match gS [d] m1 with
      | .ok (.int i) m2 => if 0 ≤ i ∧ i < 2 ^ 62 then .ok (.int i) m2 else .bad
      | _ => .bad
      else .bad
    | _ => bLen (ds.map (dr m1)) m1
  | ds => bLen (ds.map (dr m1)) m1 := rfl
section
variable {L : Lc} {C : Addr} {c : Nat} {cx : Str} {ps : List Str} {k : Nat} {gS : List D → Ms → R D} {g : Addr} {fd : FuncData}
theorem se_lenO {e : Expr} {f : Fn (List D)} {p pos : Pos} (CL : ClX L cx C c) (M : MeX L C "__len__" ps k gS g fd) (hk : k + 1 ≤ L.k) (hb : Bnd L fd ps) (hl : ps.length = 1) (hg : Glb L "len") (hm : L.mg "len" = none) (ha : SAs L [e] f)
    (he : ∀ env, starEach [e] env = (false, eval e env) :: starEach [] env := by intro _; rfl) : SE L (.Call (.Name "len" p) [e] [] pos) (xLenO c gS f) := fun W X h => by
  have F : FnOk X.prog X.w X.K X.mg X.base (L2.CX L.P L.w) k g fd ps (spOf L ps.length gS) := h.cast M.ok
  have co := call_lenOwn (C := C) (by rw [h.K]; exact M.at_.at_) (by rw [h.K]; exact M.at_.fn) F (h.room.mono hk) (by rw [h.K]; exact hb.to) hl (by rw [← h.prog, ← h.w]; exact passes_call h.tk fun _ _ _ _ z => z.elim)
  refine PEi (pe_callB ((call_len_seq.or call_len_str).or co) (by unfold Gl Env.kindOf; rw [h.sc]; exact hg) (by rw [h.mg]; exact hm) PySem.boot_len (ha W X h) (by decide) (by decide) (he _)) fun σ H Q ⟨α, β, σd, m, s, q⟩ => ?_
  refine ⟨α, β, σd, m, s, q.mp fun ds m1 vs H1 α1 e1 s1 r1 q => ?_⟩
  have old : ∀ (q : PostR L W (relV L) σ σd H1 α1 β Q (bLen (ds.map (dr m1)) m1)), ((∃ p ys, vs = [V.ref p] ∧ (SqL X.K H1 p ys ∨ SqT X.K H1 p ys) ∧ Q (.int ys.length) H1) ∨ ∃ z, vs = [V.str z] ∧ z.length ≤ sizeLine ∧ Q (.int z.length) H1) := fun q => by
    have := calB_len (L := L) W H1 α1 β σ σd m1 vs _ Q s1 (Rvs.of s1.cr r1.1) q
    rw [h.K]
    exact this
  cases r1.1 with
  | nil => exact q.elim
  | @cons v d vs ds a t =>
    cases t with
    | cons b t =>
      simp only at q
      exact .inl (old q)
    | nil =>
      have r2 := Rv.of s1.cr a
      cases e : dr m1 d with
      | ins kk ns es =>
        rw [e] at r2
        simp only [e] at q
        cases r2 with
        | @ins ad dx _ fs _ _ hh n r =>
        by_cases hk2 : kk = c
        rotate_left
        · simp only [if_neg hk2] at q
          exact q.elim
        simp only [if_pos hk2] at q
        refine .inr ⟨ad, dx, fs, rfl, by rw [hh, hk2, CL.ct], α1, β, m1, _, s1.cr, .cons a .nil, by rw [hl]; rfl, ?_⟩
        cases eg : gS [d] m1 with
        | bad => rw [eg] at q; exact q.elim
        | ex x m2 => rw [eg] at q; exact q.elim
        | ok d2 m2 =>
          rw [eg] at q
          cases d2 with
          | int i =>
            simp only at q
            split at q
            rotate_left
            · exact q.elim
            rename_i hi
            intro v H2 α2 ex cc rv
            cases rv
            exact ⟨i, rfl, hi.1, by omega, q _ H2 α2 ex (s1.ext' ex cc) .int⟩
          | _ => exact q.elim
      | _ =>
        simp only [e] at q
        exact .inl (old (by simpa only [e, List.map] using q))
end
end CT
namespace CT
open PySem L2
/-! ## methods: defs of another full name -/
def FunQ (G : Lc) (x q : Str) (st : Stmt) (dds : List D) (kds : List (Str × D)) (f : Addr) (fd : FuncData) : Prop :=
  ∃ dvs kws, FunD G.K x q (defArgs st) (defBody st) (defScope st) dvs kws f fd ∧ DfD G dvs dds ∧ kws.map (·.1) = kds.map (·.1) ∧ DfD G (kws.map (·.2)) (kds.map (·.2))
section
variable {G : Lc}
theorem kbxQ {x q : Str} {st : Stmt} {f : Addr} {fd : FuncData} {ps ks : List Str} {n : Nat} {spec : List Src} {kds : List (Str × D)} (F : FunQ G x q st [] kds f fd) (hs : spec.all (Src.ok n 0 ks.length) = true) (hl : spec.length = ps.length)
    (h : ∀ (kV doc pm : Value) (an : Option Addr) (cdv ct : Value) (us ws : List Value), us.length = n → ws.length = ks.length → bindArgs (PySem.W.fnOf x q (defArgs st) (defBody st) (defScope st) .none kV doc pm an cdv ct) ⟨us, ks.zip ws⟩ = pure (ps.zip (sel spec us [] ws))) :
    KB G fd ps n ks (fun ds es => sel spec ds [] es) := by
  obtain ⟨dvs, kws, F, hd, _⟩ := F
  have := (hd (fun _ => none) [] []).nil_l
  subst this
  exact kb_plain F hs hl h
end
section
variable {G : Lc} {x q : Str} {st : Stmt} {f : Addr} {oc : Value} {od an : Option Addr} {osl : Array (Option Value)} {kV dV doc pm cdv ct : Value}
theorem funx_mkQ (l : G.K.K.lookup f = some ⟨oc, od, .func (PySem.W.fnOf x q (defArgs st) (defBody st) (defScope st) .none kV doc pm an cdv ct), osl⟩) (c : PySem.W.codeIn G.K cdv q = true) (k : PySem.W.keepIn G.K (.ref f) = true) :
    FunQ G x q st [] [] f (PySem.W.fnOf x q (defArgs st) (defBody st) (defScope st) .none kV doc pm an cdv ct) :=
  ⟨[], [], ⟨⟨oc, od, .none, kV, doc, pm, an, cdv, ct, osl, rfl, l, c, .inl ⟨rfl, rfl⟩, .inl rfl⟩, k⟩, dfd_nil, rfl, dfd_nil⟩
theorem funx_mkKQ {D1 : Addr} {nm : Str} {u : Value} {d : D} (l : G.K.K.lookup f = some ⟨oc, od, .func (PySem.W.fnOf x q (defArgs st) (defBody st) (defScope st) .none (.ref D1) doc pm an cdv ct), osl⟩) (c : PySem.W.codeIn G.K cdv q = true) (k : PySem.W.keepIn G.K (.ref f) = true)
    (hq : PySem.W.nsIn G.K D1 nm = some (some u)) (h : CV G u d) : FunQ G x q st [] [(nm, d)] f (PySem.W.fnOf x q (defArgs st) (defBody st) (defScope st) .none (.ref D1) doc pm an cdv ct) := by
  obtain ⟨v, r, h⟩ := h
  refine ⟨[], [(nm, v)], ⟨⟨oc, od, .none, .ref D1, doc, pm, an, cdv, ct, osl, rfl, l, c, .inl ⟨rfl, rfl⟩, .inr ⟨D1, rfl, fun m hm => ?_⟩⟩, k⟩, dfd_nil, rfl, fun H α β => .cons (h H α β) .nil⟩
  rw [List.mem_singleton.mp hm]
  exact ⟨u, by assumption, r⟩
end
section
variable {G : Lc} {N : List Str} {sc : Scope} {k : Nat} {fn : Str → Bool}
theorem mdef_f {x q : Str} {st : Stmt} {f C : Addr} {fd : FuncData} {N ps : List Str} {k : Nat} {body : Fo} {dds : List D} {kds : List (Str × D)} (F : FunQ G x q st dds kds f fd) (S : FnScope N ps (defScope st)) (hm : Meth G.K.K C x f) (hc : G.cd = none)
    (hb : SSs (G.loc N (defScope st) k fnAll) (defBody st) body) : MeX G C x ps (k + 1) (fnSem N.length body) f fd := by
  obtain ⟨dvs, kws, F, _⟩ := F
  exact ⟨hm, def_ok F S hb rfl hc⟩
/-- how objects of a class are begun -/
structure InX (G : Lc) (C : Addr) (ps : List Str) (k : Nat) (gS : List D → Ms → R D) (f : Addr) (fd : FuncData) : Prop where
  made : Mk G.K.K C f
  ok : FnOk G.P G.w G.K G.mg G.base (L2.CX G.P G.w) k f fd ps (spOf G ps.length gS)
theorem idef_f {q : Str} {st : Stmt} {f C : Addr} {fd : FuncData} {N ps : List Str} {k : Nat} {body : Fo} {dds : List D} {kds : List (Str × D)} (F : FunQ G "__init__" q st dds kds f fd) (S : FnScope N ps (defScope st)) (hm : Mk G.K.K C f) (hc : G.cd = none)
    (hb : SSs (G.loc N (defScope st) k fnAll) (defBody st) body) : InX G C ps (k + 1) (fnSem N.length body) f fd := by
  obtain ⟨dvs, kws, F, _⟩ := F
  exact ⟨hm, def_ok F S hb rfl hc⟩
theorem ClX.to {x : Str} {C : Addr} {c : Nat} (h : ClX G x C c) : ClX (G.loc N sc k fn) x C c := ⟨h.m, h.ct, h.cl⟩
theorem ClX.w {o : Option (Addr × Str)} {x : Str} {C : Addr} {c : Nat} (h : ClX G x C c) : ClX (G.wcd o) x C c := ⟨h.m, h.ct, h.cl⟩
theorem MeX.to {C : Addr} {x : Str} {ps : List Str} {k' : Nat} {gS : List D → Ms → R D} {f : Addr} {fd : FuncData} (h : MeX G C x ps k' gS f fd) : MeX (G.loc N sc k fn) C x ps k' gS f fd := ⟨h.at_, h.ok⟩
theorem MeX.w {o : Option (Addr × Str)} {C : Addr} {x : Str} {ps : List Str} {k' : Nat} {gS : List D → Ms → R D} {f : Addr} {fd : FuncData} (h : MeX G C x ps k' gS f fd) : MeX (G.wcd o) C x ps k' gS f fd := ⟨h.at_, h.ok⟩
theorem InX.w {o : Option (Addr × Str)} {C : Addr} {ps : List Str} {k' : Nat} {gS : List D → Ms → R D} {f : Addr} {fd : FuncData} (h : InX G C ps k' gS f fd) : InX (G.wcd o) C ps k' gS f fd := ⟨h.made, h.ok⟩
theorem Bnd.w {o : Option (Addr × Str)} {fd : FuncData} {ps : List Str} (h : Bnd G fd ps) : Bnd (G.wcd o) fd ps := ⟨h.to⟩
theorem Bnd.toL {fd : FuncData} {ps : List Str} (h : Bnd G fd ps) : Bnd (G.loc N sc k fn) fd ps := ⟨h.to⟩
section
variable {C : Addr} {c : Nat} {cx mx : Str} {ps ks : List Str} {k' : Nat} {g : List D → List D → List D} {gS : List D → Ms → R D} {f : Addr} {fd : FuncData} {p pos apos : Pos}
theorem g_fld {o : Expr} {fo : Fn D} {fx : Str} {pos : Pos} (CL : ClX G cx C c) (hn : NoAttr G.K.K C fx) (ho : SE (G.loc N sc k fn) o fo) (hb : ∀ env, attributeBase o fx env (eval o env) = eval o env := by intro _; rfl) : SE (G.loc N sc k fn) (.Attribute o fx pos) (xFld c fx fo) := se_fld CL.to hn ho hb
theorem g_putF {o e : Expr} {fo fe : Fn D} {fx : Str} {pos' pos : Pos} (CL : ClX G cx C c) (hn : NoAttr G.K.K C fx) (ho : SE (G.loc N sc k fn) o fo) (he : SE (G.loc N sc k fn) e fe) (hs : ∀ env : Env, env.scope = sc → swapsWith e (some (.Attribute o fx pos')) pos.line env = pure false := by intro env h; cases env; cases h; rfl) : SS (G.loc N sc k fn) (.Assign [.Attribute o fx pos'] e pos) (xPutF c fx fo fe) := s_putF CL.to hn ho he hs
theorem g_mth0 {o : Expr} {fo : Fn D} {pl : Env → Sem Bool} (CL : ClX G cx C c) (M : MeX G C mx ps k' gS f fd) (hk : k' ≤ k) (B : KB G fd ps 1 [] g) (ho : SE (G.loc N sc k fn) o fo)
    (ht : ∀ env, eval (.Call (.Attribute o mx apos) [] [] pos) env = (do
      let ov ← eval o env
      standAt apos.atName
      let (f, first) ← holding [ov] (getMethod ov mx (pl env))
      callWith pos f first (backTo pos (starEach [] env)) (backToKw pos (keywordEach [] env))) := by intro _; rfl) :
    SE (G.loc N sc k fn) (.Call (.Attribute o mx apos) [] [] pos) (xMth c mx g gS fo xNil xNil) := se_mth0 CL.to M.to hk B.to ho ht
theorem g_mth {o e : Expr} {es : List Expr} {fo : Fn D} {fa : Fn (List D)} {pl : Env → Sem Bool} (CL : ClX G cx C c) (M : MeX G C mx ps k' gS f fd) (hk : k' ≤ k) (B : KB G fd ps (es.length + 1 + 1) [] g) (ho : SE (G.loc N sc k fn) o fo) (ha : SAs (G.loc N sc k fn) (e :: es) fa)
    (hst : ∀ env, starEach (e :: es) env = (false, eval e env) :: starEach es env := by intro _; rfl) (hpl : ∀ env, (backTo pos (starEach es env)).any (·.1) = false := by intro _; rfl)
    (ht : ∀ env, eval (.Call (.Attribute o mx apos) (e :: es) [] pos) env = (do
      let ov ← eval o env
      standAt apos.atName
      let (f, first) ← holding [ov] (getMethod ov mx (pl env))
      callWith pos f first (backTo pos (starEach (e :: es) env)) (backToKw pos (keywordEach [] env))) := by intro _; rfl) :
    SE (G.loc N sc k fn) (.Call (.Attribute o mx apos) (e :: es) [] pos) (xMth c mx g gS fo fa xNil) := se_mth CL.to M.to hk B.to ho ha hst hpl ht
theorem g_mk {e : Expr} {es : List Expr} {kws : List Keyword} {fa fk : Fn (List D)} (CL : ClX G cx C c) (M : InX G C ps k' gS f fd) (h : gloOk sc cx = true) (hk : k' + 1 ≤ k) (B : KB G fd ps (es.length + 1 + 1) ks g) (ha : SAs (G.loc N sc k fn) (e :: es) fa) (hkw : SK (G.loc N sc k fn) kws fk) (hkl : kws.length = ks.length := by rfl)
    (hall : ∀ env, (backToKw pos (keywordEach kws env)).all (·.1.isSome) = true := by intro _; rfl) (hks : ∀ env, (backToKw pos (keywordEach kws env)).filterMap (·.1) = ks := by intro _; rfl)
    (he : ∀ env, starEach (e :: es) env = (false, eval e env) :: starEach es env := by intro _; rfl) (hpl : ∀ env, ((backTo pos (starEach (e :: es) env)).any (·.1) || (backToKw pos (keywordEach kws env)).any (·.1.isNone)) = false := by intro _; rfl) :
    SE (G.loc N sc k fn) (.Call (.Name cx p) (e :: es) kws pos) (xMake c g gS fa fk) := se_mk (L := G.loc N sc k fn) CL.to M.made M.ok hk B.to (gloOk_g h).1 ha hkw hkl (gloOk_g h).2.1 hall hks he hpl
theorem g_lenO {e : Expr} {fe : Fn (List D)} (CL : ClX G cx C c) (M : MeX G C "__len__" ps k' gS f fd) (hk : k' + 1 ≤ k) (hb : Bnd G fd ps) (hl : ps.length = 1) (h : gloOk sc "len" = true) (hm : G.mg "len" = none) (ha : SAs (G.loc N sc k fn) [e] fe)
    (he : ∀ env, starEach [e] env = (false, eval e env) :: starEach [] env := by intro _; rfl) : SE (G.loc N sc k fn) (.Call (.Name "len" p) [e] [] pos) (xLenO c gS fe) := se_lenO CL.to M.to hk hb.toL hl (gloOk_g h).1 hm ha he
end
end
end CT
namespace CT
open PySem L2
theorem bndQ {G : Lc} {x q : Str} {st : Stmt} {f : Addr} {fd : FuncData} {ps : List Str} (F : FunQ G x q st [] [] f fd)
    (h : ∀ (kV doc pm : Value) (an : Option Addr) (cdv ct : Value) (us : List Value), us.length = ps.length → bindArgs (PySem.W.fnOf x q (defArgs st) (defBody st) (defScope st) .none kV doc pm an cdv ct) ⟨us, []⟩ = pure (ps.zip us)) : Bnd G fd ps := by
  obtain ⟨dvs, kws, F, hd, _⟩ := F
  have := (hd (fun _ => none) [] []).nil_l
  subst this
  obtain ⟨oc, od, dV, kV, doc, pm, an, cdv, ct, osl, rfl, lk, hcd, hD, hK⟩ := F.ex
  rcases hD with ⟨_, rfl⟩ | ⟨e, _⟩
  · exact ⟨fun s us _ l => .of_eq (h kV doc pm an cdv ct us l)⟩
  · exact absurd rfl e
end CT
namespace CT
open PySem PySem.Spec PyProof.Rows L2
/-! ## == of own objects -/
end CT
namespace CT
open PySem PySem.Spec PyProof.Rows L2 C8
/-! ## isinstance(o, C) of an own object -/
end CT
namespace CT
open PySem PySem.Spec PyProof.Rows L2
/-! ## a def that hands back a pair of new lists, as cells -/
/-! ## clear, reverse -/
end CT
namespace CT
open PySem PySem.Spec PySem.Calls PyProof.Rows L2 LamX
/-! ## a lambda with one default, called without an argument -/
end CT
namespace CT
open PySem PySem.Spec PyProof.Rows L2 LamX
end CT
namespace CT
open PySem PySem.Spec PyProof.Rows L2
/-! ## dict(..) of a list of pairs, each key once -/
def prsD : List D → Option (List Key × List D)
  | [] => some ([], [])
  | .tup [k, v] :: ds => match keyD k with
    | some q => (prsD ds).map fun p => (q :: p.1, v :: p.2)
    | none => none
  | _ :: _ => none
def onceB : List Key → Bool
  | [] => true
  | k :: ks => !hasK ks k && onceB ks
def bDict : List D → Ms → R D
  | [.lst ds], m => match prsD ds with
    | some p => if onceB p.1 = true then .ok (.dct p.1 p.2) m else .bad
    | none => .bad
  | _, _ => .bad
section
variable {G : Lc} {N : List Str} {sc : Scope} {k : Nat} {fn : Str → Bool}
@[simp] theorem ev_bDict {ds : List D} {m : Ms} : bDict [.lst ds] m = match prsD ds with
    | some p => if onceB p.1 = true then .ok (.dct p.1 p.2) m else .bad
    | none => .bad := rfl
end
end CT
namespace CT
open PySem PySem.Spec PyProof.Rows L2
/-- xs[::-1], as a cell -/
def xRevC (f : Fn D) : Fn D := fun σ m => (f σ m).bind fun d m1 => match dr m1 d with
  | .lst ds => if D.cfs 0 ds.reverse = true then .ok (.cel m1.length) (m1 ++ [.l ds.reverse]) else .bad
  | _ => .bad
@[simp] theorem ev_revC {f : Fn D} {σ : Sd} {m : Ms} : xRevC f σ m = (f σ m).bind fun d m1 => match dr m1 d with
  | .lst ds => if D.cfs 0 ds.reverse = true then .ok (.cel m1.length) (m1 ++ [.l ds.reverse]) else .bad
  | _ => .bad := rfl
end CT
namespace CT
open PySem PySem.Spec PyProof.Rows L2
/-! ## a comprehension over a list that may change, but does not while it is walked -/
open Classical in
noncomputable def lcK (cc : Nat) (its : List D) (fin : Ms → List D → R D) (g : Fg) (c : Fn Bool) (e : Fn D) (σ : Sd) : List D → Ms → List D → R D
  | [], m, acc => if m[cc]? = some (.l its) then fin m acc else .bad
  | d :: ds, m, acc => if m[cc]? = some (.l its) then (match g d σ m with
    | none => .bad
    | some (σ1, m1) => match c σ1 m1 with
      | .ok true m2 => match e σ1 m2 with
        | .ok y m3 => lcK cc its fin g c e σ ds m3 (acc ++ [y])
        | _ => .bad
      | .ok false m2 => lcK cc its fin g c e σ ds m2 acc
      | _ => .bad) else .bad
noncomputable def xLcKF (fin : Ms → List D → R D) (src : Fn (Nat × List D)) (g : Fg) (c : Fn Bool) (e : Fn D) (own : List Nat) : Fn D := fun σ m => (src σ m).bind fun p m1 => if p.2.length ≤ 100000 then lcK p.1 p.2 fin g c e (wipeD σ own) p.2 m1 [] else .bad
def xItC (f : Fn D) : Fn (Nat × List D) := fun σ m => (f σ m).bind fun d m1 => match d with
  | .cel c => match m1[c]? with
    | some (.l ds) => .ok (c, ds) m1
    | _ => .bad
  | _ => .bad
section
@[simp] theorem ev_itC {f : Fn D} {σ : Sd} {m : Ms} : xItC f σ m = (f σ m).bind fun d m1 => match d with
  | .cel c => match m1[c]? with
    | some (.l ds) => .ok (c, ds) m1
    | _ => .bad
  | _ => .bad := rfl
@[simp] theorem ev_lcK {fin : Ms → List D → R D} {s : Fn (Nat × List D)} {h : Fg} {e : Fn D} {t : Fn Bool} {own : List Nat} {σ : Sd} {m : Ms} : xLcKF fin s h t e own σ m = (s σ m).bind fun p m1 => if p.2.length ≤ 100000 then lcK p.1 p.2 fin h t e (wipeD σ own) p.2 m1 [] else .bad := rfl
end
end CT
namespace CT
open PySem PySem.Spec PyProof.Rows L2
/-! ## a loop over any list, also one that may change, but does not while it is walked -/
def okK (cc : Option Nat) (its : List D) (m : Ms) : Prop := ∀ c, cc = some c → m[c]? = some (.l its)
open Classical in
noncomputable def forK (cc : Option Nat) (its : List D) (g : Fg) (b : Fo) : List D → Sd → Ms → O
  | [], σ, m => if okK cc its m then .nx σ m else .bad
  | d :: ds, σ, m => if okK cc its m then (match g d σ m with
    | none => .bad
    | some (σ1, m1) => oLoop (b σ1 m1) (forK cc its g b ds)) else .bad
noncomputable def xForE (src : Fn (Option Nat × List D)) (g : Fg) (b : Fo) : Fo := fun σ m => (src σ m).go σ fun p m1 => forK p.1 p.2 g b p.2 σ m1
def xItE (f : Fn D) : Fn (Option Nat × List D) := fun σ m => (f σ m).bind fun d m1 => match d with
  | .lst ds => .ok (none, ds) m1
  | .tup ds => .ok (none, ds) m1
  | .lck ds => .ok (none, ds) m1
  | .str z => .ok (none, charsD z) m1
  | .cel c => match m1[c]? with
    | some (.l ds) => .ok (some c, ds) m1
    | _ => .bad
  | _ => .bad
section
@[simp] theorem ev_itE {f : Fn D} {σ : Sd} {m : Ms} : xItE f σ m = (f σ m).bind fun d m1 => match d with
  | .lst ds => .ok (none, ds) m1
  | .tup ds => .ok (none, ds) m1
  | .lck ds => .ok (none, ds) m1
  | .str z => .ok (none, charsD z) m1
  | .cel c => match m1[c]? with
    | some (.l ds) => .ok (some c, ds) m1
    | _ => .bad
  | _ => .bad := rfl
@[simp] theorem ev_forE {s : Fn (Option Nat × List D)} {h : Fg} {f : Fo} {σ : Sd} {m : Ms} : xForE s h f σ m = (s σ m).go σ fun p m1 => forK p.1 p.2 h f p.2 σ m1 := rfl
end
end CT
namespace CT
open PySem PySem.Spec PyProof.Rows L2
/-! ## a tuple that tuple(..) makes: nothing but a tuple -/
def bTupP : List D → Ms → R D
  | [.lst ds], m => .ok (.tpl ds) m
  | [.lck ds], m => .ok (.tpl ds) m
  | _, _ => .bad
/-! ## .index of a list or a tuple of texts -/
def posS (z : Str) : List Str → Option Nat
  | [] => none
  | w :: ws => if w = z then some 0 else (posS z ws).map (· + 1)
theorem posS_get {z : Str} : ∀ {ws : List Str} {j : Nat}, posS z ws = some j → ws[j]? = some z ∧ ∀ m, m < j → ws[m]? ≠ some z
  | [], _, h => by cases h
  | w :: ws, j, h => by
    rw [posS] at h
    split at h
    · rename_i e
      cases h
      exact ⟨by rw [← e]; rfl, fun m hm => absurd hm (Nat.not_lt_zero _)⟩
    · rename_i e
      cases q : posS z ws with
      | none => rw [q] at h; cases h
      | some i =>
        rw [q] at h
        cases h
        obtain ⟨h1, h2⟩ := posS_get q
        refine ⟨by simpa using h1, fun m hm => ?_⟩
        cases m with
        | zero => exact fun z => e (by simpa using z)
        | succ m =>
          have hm' : m + 1 < i + 1 := hm
          simpa using h2 m (by omega)
def oIdx : D → List D → Ms → R D
  | .lst ds, [.str z], m => match strsOf ds with
    | some ws => match posS z ws with
      | some j => .ok (.int (j : Nat)) m
      | none => .bad
    | none => .bad
  | .tpl ds, [.str z], m => match strsOf ds with
    | some ws => match posS z ws with
      | some j => .ok (.int (j : Nat)) m
      | none => .bad
    | none => .bad
  | _, _, _ => .bad
def isSq : D → Bool
  | .lst _ => true
  | .tpl _ => true
  | _ => false
def xIdx (o : Fn D) (as : Fn (List D)) : Fn D := fun σ m => (o σ m).bind fun d m1 => if isSq d = true then (as σ m1).bind fun es m2 => oIdx d es m2 else .bad
def isPT (x : V) (H : Hp) : Prop := ∃ p ob vs, x = .ref p ∧ H p = some (.frz ob (.tup vs)) ∧ ob.cls = .type "tuple" ∧ ob.dict = .none
def rTI (K : PySem.W.Frag) : V → List V → Hp → VK → Prop := fun x xs H Q => ∃ p, ∃ ys : List Str, ∃ z j, x = .ref p ∧ xs = [.str z] ∧ SqT K H p (ys.map V.str) ∧ ys[j]? = some z ∧ (∀ m, m < j → ys[m]? ≠ some z) ∧ Q (.int (j : Nat)) H
def tIdx (K : PySem.W.Frag) (to : TE) (t : TA) : TE := fun σ H Q => to σ H fun x H1 => (tyV K "list" x H1 ∧ t σ H1 fun xs H2 => rIndex K x xs H2 Q) ∨ (isPT x H1 ∧ t σ H1 fun xs H2 => rTI K x xs H2 Q)
theorem pe_idx {X : Cx} {o e : Expr} {to : TE} {t : TA} {apos cpos : Pos} (ho : PE X o to) (ha : PA X [e] t)
    (hbase : attributeBase o "index" X.env (eval o X.env) = eval o X.env := by rfl)
    (hfew : ((backTo cpos (starEach [e] X.env)).all (fun x => !x.1) && (backToKw cpos (keywordEach [] X.env)).all (fun x => x.1.isSome)
      && decide ([e].length + ([] : List Keyword).length + (if ([] : List Keyword).isEmpty then 0 else 1) < 30)) = true := by rfl)
    (hline : (apos.endLine == cpos.line) = true := by rfl) (hs : starEach [e] X.env = (false, eval e X.env) :: starEach [] X.env := by rfl) (hplain : (backTo cpos (starEach [] X.env)).any (·.1) = false := by rfl) :
    PE X (.Call (.Attribute o "index" apos) [e] [] cpos) (tIdx X.K to t) := by
  refine ⟨fun pins s σ H Q I h => ?_⟩
  refine wpAny_Call_method_late hbase hfew hline rfl (thn (ho.run pins s σ H _ I h) fun v s1 ⟨x, H1, I1, r1, q1⟩ => ?_)
  rcases q1 with ⟨ty, q1⟩ | ⟨⟨p, ob, vs, rfl, hp, hc, hd⟩, q1⟩
  · obtain ⟨h1, h2⟩ := tyV_is I1 r1 ty
    refine ⟨"list", "list.index", PySem.F.plainAttrs_list, PySem.F.slot_list_index, PySem.F.type_list_index, h1, h2, ?_⟩
    have hA := ha.run cpos pins s1 σ H1 _ I1 q1
    rw [hs] at hA ⊢
    refine Calls.callWith_builtin (by show (false || (backTo cpos (starEach [] X.env)).any (·.1)) = false; rw [hplain] <;> rfl) (Calls.evalArgs_plain ?_)
    exact thn hA fun us s2 ⟨vs, H2, I2, r2, q2⟩ => mt_index pins s2 σ H2 x vs v us Q I2 r1 r2 q2
  · cases r1
    obtain ⟨hg, _⟩ := I1.hok p _ hp
    refine ⟨"tuple", "tuple.index", PySem.F.plainAttrs_tuple, PySem.F.slot_tuple_index, PySem.F.type_tuple_index, ⟨ob, hg, hc⟩, fun a e => by cases e; exact ⟨ob, hg, hd⟩, ?_⟩
    have hA := ha.run cpos pins s1 σ H1 _ I1 q1
    rw [hs] at hA ⊢
    refine Calls.callWith_builtin (by show (false || (backTo cpos (starEach [] X.env)).any (·.1)) = false; rw [hplain] <;> rfl) (Calls.evalArgs_plain ?_)
    exact thn hA fun us s2 ⟨vs, H2, I2, r2, q2⟩ => mt_tup_index pins s2 σ H2 (.ref p) vs (.ref p) us Q I2 rfl r2 q2
section
variable {L : Lc}
theorem se_index {o e : Expr} {fo fe : Fn D} {apos cpos : Pos} (ho : SE L o fo) (he : SE L e fe) (hbase : ∀ env, attributeBase o "index" env (eval o env) = eval o env := by intro _; rfl) (hs : ∀ env, starEach [e] env = (false, eval e env) :: starEach [] env := by intro _; rfl)
    (hfew : ∀ env, ((backTo cpos (starEach [e] env)).all (fun x => !x.1) && (backToKw cpos (keywordEach [] env)).all (fun x => x.1.isSome) && decide ([e].length + ([] : List Keyword).length + (if ([] : List Keyword).isEmpty then 0 else 1) < 30)) = true := by intro _; rfl)
    (hline : (apos.endLine == cpos.line) = true := by rfl) (hplain : ∀ env, (backTo cpos (starEach [] env)).any (·.1) = false := by intro _; rfl) :
    SE L (.Call (.Attribute o "index" apos) [e] [] cpos) (xIdx fo (xCons fe xNil)) := fun W X h =>
  PEi (pe_idx (ho W X h) ((SAs.sa (sa_cons he sa_nil hs)) W X h) (hbase _) (hfew _) hline (hs _) (hplain _)) fun σ H Q q => by
    rw [h.K]
    obtain ⟨α, β, σd, m, s, q⟩ := q
    refine ⟨α, β, σd, m, s, q.mp fun d m1 v H1 α1 e1 s1 r1 q => ?_⟩
    cases r1 with
    | lst hh rr =>
      rw [if_pos (show isSq _ = true from rfl)] at q
      refine .inl ⟨.inl ⟨rfl, _, .inl (.inl (hid_of hh).1)⟩, α1, β, σd, m1, s1, q.mp fun es m2 us H2 α2 e2 s2 r2 q => ?_⟩
      have hx := Rep.ext (Rep.lst hh rr) e2
      cases r2 with
      | nil => exact q.elim
      | cons ra rb =>
        cases rb with
        | cons _ _ => cases ra <;> exact q.elim
        | nil =>
          cases ra with
          | @str z =>
            rename_i ds _
            cases e3 : strsOf ds with
            | none => simp only [oIdx, e3] at q; exact q.elim
            | some ws =>
              cases e4 : posS z ws with
              | none => simp only [oIdx, e3, e4] at q; exact q.elim
              | some j =>
                simp only [oIdx, e3, e4] at q
                obtain ⟨h1, h2⟩ := posS_get e4
                cases hx with
                | lst hh2 rr2 =>
                  have ev := strs_rep rr2 e3
                  subst ev
                  refine ⟨_, ws.map V.str, .str z, j, .str z, rfl, rfl, .inl (.inl (hid_of hh2).1), rfl, flat_strs ws, by rw [List.getElem?_map, h1]; rfl, by show (z == z) = true; exact beq_self_eq_true z, fun mm z' hm hz => ?_, q _ H2 α2 Ext.refl s2 .int⟩
                  rw [List.getElem?_map] at hz
                  cases hw : ws[mm]? with
                  | none => rw [hw] at hz; cases hz
                  | some w =>
                    rw [hw] at hz
                    cases hz
                    show (w == z) = false
                    exact beq_false_of_ne fun e => h2 mm hm (by rw [hw, e])
          | _ => exact q.elim
    | tpl hh hc hd rr =>
      rw [if_pos (show isSq _ = true from rfl)] at q
      refine .inr ⟨⟨_, _, _, rfl, (hid_of hh).1, hc, hd⟩, α1, β, σd, m1, s1, q.mp fun es m2 us H2 α2 e2 s2 r2 q => ?_⟩
      have hx := Rep.ext (Rep.tpl hh hc hd rr) e2
      cases r2 with
      | nil => exact q.elim
      | cons ra rb =>
        cases rb with
        | cons _ _ => cases ra <;> exact q.elim
        | nil =>
          cases ra with
          | @str z =>
            rename_i ds _
            cases e3 : strsOf ds with
            | none => simp only [oIdx, e3] at q; exact q.elim
            | some ws =>
              cases e4 : posS z ws with
              | none => simp only [oIdx, e3, e4] at q; exact q.elim
              | some j =>
                simp only [oIdx, e3, e4] at q
                obtain ⟨h1, h2⟩ := posS_get e4
                cases hx with
                | tpl hh2 _ _ rr2 =>
                  have ev := strs_rep rr2 e3
                  subst ev
                  exact ⟨_, ws, z, j, rfl, rfl, .inl (.inr ⟨_, (hid_of hh2).1⟩), h1, h2, q _ H2 α2 Ext.refl s2 .int⟩
          | _ => exact q.elim
    | _ => exact q.elim
end
section
@[simp] theorem ev_idx {o : Fn D} {as : Fn (List D)} {σ : Sd} {m : Ms} : xIdx o as σ m = (o σ m).bind fun d m1 => if isSq d = true then (as σ m1).bind fun es m2 => oIdx d es m2 else .bad := rfl
@[simp] theorem b_tupP {ds : List D} {m : Ms} : bTupP [.lst ds] m = .ok (.tpl ds) m := rfl
@[simp] theorem dr_tpl {ds : List D} {m : Ms} : dr m (.tpl ds) = .tup ds := rfl
@[simp] theorem cf_tpl {n : Nat} {ds : List D} : D.cf n (.tpl ds) = D.cfs n ds := rfl
end
end CT
namespace CT
open PySem PySem.Spec PyProof.Rows L2
/-! ## a comprehension of two fors -/
/-- the inner loop: what is behind it, what has come of it -/
def lcI (g : Fg) (c : Fn Bool) (e : Fn D) (σ : Sd) : List D → Ms → List D → Option (Ms × List D)
  | [], m, acc => some (m, acc)
  | d :: ds, m, acc => match g d σ m with
    | none => none
    | some (σ1, m1) => match c σ1 m1 with
      | .ok true m2 => match e σ1 m2 with
        | .ok y m3 => lcI g c e σ ds m3 (acc ++ [y])
        | _ => none
      | .ok false m2 => lcI g c e σ ds m2 acc
      | _ => none
def lcO (fin : Ms → List D → R D) (g : Fg) (c : Fn Bool) (s1 : Fn (List D)) (g1 : Fg) (c1 : Fn Bool) (e : Fn D) (own1 : List Nat) (σ : Sd) : List D → Ms → List D → R D
  | [], m, acc => fin m acc
  | d :: ds, m, acc => match g d σ m with
    | none => .bad
    | some (σ1, m1) => match c σ1 m1 with
      | .ok true m2 => match s1 σ1 m2 with
        | .ok its m3 => if acc.length + its.length ≤ 100000 then (match lcI g1 c1 e (wipeD σ1 own1) its m3 acc with
          | some (m4, acc') => lcO fin g c s1 g1 c1 e own1 σ ds m4 acc'
          | none => .bad) else .bad
        | _ => .bad
      | .ok false m2 => lcO fin g c s1 g1 c1 e own1 σ ds m2 acc
      | _ => .bad
def xLc2F (fin : Ms → List D → R D) (src : Fn (List D)) (g : Fg) (c : Fn Bool) (s1 : Fn (List D)) (g1 : Fg) (c1 : Fn Bool) (e : Fn D) (own own1 : List Nat) : Fn D := fun σ m => (src σ m).bind fun items m1 => lcO fin g c s1 g1 c1 e own1 (wipeD σ own) items m1 []
section
@[simp] theorem ev_lc2 {fin : Ms → List D → R D} {src : Fn (List D)} {g : Fg} {c : Fn Bool} {s1 : Fn (List D)} {g1 : Fg} {c1 : Fn Bool} {e : Fn D} {own own1 : List Nat} {σ : Sd} {m : Ms} : xLc2F fin src g c s1 g1 c1 e own own1 σ m = (src σ m).bind fun items m1 => lcO fin g c s1 g1 c1 e own1 (wipeD σ own) items m1 [] := rfl
end
end CT
namespace CT
open PySem PySem.Spec PyProof.Rows L2 PySem.W
/-! ## a, *b = a list or a tuple; a, b = a list -/
def sqD : D → Option (List D)
  | .tup ds => some ds
  | .lst ds => some ds
  | .lck ds => some ds
  | .tpl ds => some ds
  | _ => none
/-! ## a def as a value; a call of a variable that holds one -/
/-- which defs a variable may hold -/
abbrev Tb := Nat → Option (List D → Ms → R D)
def xCalV (tb : Tb) (f : Fn D) (a : Fn (List D)) : Fn D := fun σ m => (f σ m).bind fun d m1 => match d with
  | .fn k => match tb k with
    | some gS => (a σ m1).bind fun ds m2 => gS ds m2
    | none => .bad
  | _ => .bad
section
variable {G : Lc} {N : List Str} {sc : Scope} {k : Nat} {fn : Str → Bool}
def tbOne (j0 : Nat) (s : List D → Ms → R D) : Tb := fun k => if k = j0 then some s else none
end
/-! ## x in a list or a tuple of data of any depth -/
@[simp] theorem ev_calV {tb : Tb} {f : Fn D} {a : Fn (List D)} {σ : Sd} {m : Ms} : xCalV tb f a σ m = (f σ m).bind fun d m1 => match d with
  | .fn k => match tb k with
    | some gS => (a σ m1).bind fun ds m2 => gS ds m2
    | none => .bad
  | _ => .bad := rfl
@[simp] theorem tbOne_ev {j0 : Nat} {s : List D → Ms → R D} : tbOne j0 s j0 = some s := by unfold tbOne; rw [if_pos rfl]
@[simp] theorem dr_fn {m : Ms} {k : Nat} : dr m (.fn k) = .fn k := rfl
@[simp] theorem cf_fn {n k : Nat} : D.cf n (.fn k) = true := rfl
@[simp] theorem sqD_lst {ds : List D} : sqD (.lst ds) = some ds := rfl
@[simp] theorem sqD_tup {ds : List D} : sqD (.tup ds) = some ds := rfl
end CT
namespace CT
open PySem PySem.Spec PyProof.Rows L2
/-! ## a comprehension over any list, also one that may change, but does not while it is walked -/
open Classical in
noncomputable def lcE (cc : Option Nat) (its : List D) (fin : Ms → List D → R D) (g : Fg) (c : Fn Bool) (e : Fn D) (σ : Sd) : List D → Ms → List D → R D
  | [], m, acc => if okK cc its m then fin m acc else .bad
  | d :: ds, m, acc => if okK cc its m then (match g d σ m with
    | none => .bad
    | some (σ1, m1) => match c σ1 m1 with
      | .ok true m2 => match e σ1 m2 with
        | .ok y m3 => lcE cc its fin g c e σ ds m3 (acc ++ [y])
        | _ => .bad
      | .ok false m2 => lcE cc its fin g c e σ ds m2 acc
      | _ => .bad) else .bad
noncomputable def xLcEF (fin : Ms → List D → R D) (src : Fn (Option Nat × List D)) (g : Fg) (c : Fn Bool) (e : Fn D) (own : List Nat) : Fn D := fun σ m => (src σ m).bind fun p m1 => if p.2.length ≤ 100000 then lcE p.1 p.2 fin g c e (wipeD σ own) p.2 m1 [] else .bad
section
@[simp] theorem ev_lcE {fin : Ms → List D → R D} {s : Fn (Option Nat × List D)} {h : Fg} {e : Fn D} {t : Fn Bool} {own : List Nat} {σ : Sd} {m : Ms} : xLcEF fin s h t e own σ m = (s σ m).bind fun p m1 => if p.2.length ≤ 100000 then lcE p.1 p.2 fin h t e (wipeD σ own) p.2 m1 [] else .bad := rfl
end
/-! ## len(set(xs)), xs a list of pairs of ints -/
def pairI : D → Option (List Int)
  | .tup [.int a, .int b] => some [a, b]
  | _ => none
def pairsI : List D → Option (List (List Int))
  | [] => some []
  | d :: ds => match pairI d with
    | some p => (pairsI ds).map (p :: ·)
    | none => none
/-- how many unlike ones -/
def uniq : List (List Int) → List (List Int)
  | [] => []
  | p :: ps => if p ∈ ps then uniq ps else p :: uniq ps
def xLenSet (f : Fn D) : Fn D := fun σ m => (f σ m).bind fun d m1 => match dr m1 d with
  | .lst ds => match pairsI ds with
    | some kk => if ds.length < 64 then .ok (.int (uniq kk).length) m1 else .bad
    | none => .bad
  | _ => .bad
@[simp] theorem ev_lenSet {f : Fn D} {σ : Sd} {m : Ms} : xLenSet f σ m = (f σ m).bind fun d m1 => match dr m1 d with
  | .lst ds => match pairsI ds with
    | some kk => if ds.length < 64 then .ok (.int (uniq kk).length) m1 else .bad
    | none => .bad
  | _ => .bad := rfl
/-! ## own exceptions of two fields -/
end CT
namespace CT
open PySem PySem.Spec PyProof.Rows L2
/-! ## pop(), insert, extend -/
end CT
/-! ## // where the divisor or the quotient is not too great -/
namespace L2
open PySem PySem.Spec PyProof.Rows
end L2
namespace CT
open PySem PySem.Spec PyProof.Rows L2
def divOkX (i j : Int) : Bool := decide (0 < j ∧ (j.natAbs.log2 < 9000 ∨ i.natAbs.log2 ≤ j.natAbs.log2 + 4400))
def oDivX : D → D → Ms → R D
  | .int i, .int j, m => if divOkX i j = true then .ok (.int (i / j)) m else .bad
  | _, _, _ => .bad
@[simp] theorem o_divX {i j : Int} {m : Ms} : oDivX (.int i) (.int j) m = if divOkX i j = true then .ok (.int (i / j)) m else .bad := rfl
end CT
namespace CT
open PySem PySem.Spec PyProof.Rows L2
/-! ## methods called with keywords -/
/-! ## a part of a list as a list that changes -/
def xSlC (a : Fn D) (lo hi : Fn (Option Int)) : Fn D := fun σ m => (a σ m).bind fun x m1 => (lo σ m1).bind fun l m2 => (hi σ m2).bind fun u m3 => match dr m3 x with
  | .lst ds => if D.cfs 0 (cutL ds l u) = true then .ok (.cel m3.length) (m3 ++ [.l (cutL ds l u)]) else .bad
  | _ => .bad
@[simp] theorem ev_slC {a : Fn D} {lo hi : Fn (Option Int)} {σ : Sd} {m : Ms} : xSlC a lo hi σ m = (a σ m).bind fun x m1 => (lo σ m1).bind fun l m2 => (hi σ m2).bind fun u m3 => match dr m3 x with
  | .lst ds => if D.cfs 0 (cutL ds l u) = true then .ok (.cel m3.length) (m3 ++ [.l (cutL ds l u)]) else .bad
  | _ => .bad := rfl
/-! ## enumerate of any list, also one that may change, but does not while it is walked -/
noncomputable def xForN (src : Fn (Option Nat × List D)) (g : Fg) (b : Fo) : Fo := fun σ m => (src σ m).go σ fun p m1 => forK p.1 p.2 g b (enumD 0 p.2) σ m1
def xItN (f : Fn D) : Fn (Option Nat × List D) := fun σ m => (f σ m).bind fun d m1 => match d with
  | .lst ds => .ok (none, ds) m1
  | .tup ds => .ok (none, ds) m1
  | .lck ds => .ok (none, ds) m1
  | .cel c => match m1[c]? with
    | some (.l ds) => .ok (some c, ds) m1
    | _ => .bad
  | _ => .bad
@[simp] theorem ev_itN {f : Fn D} {σ : Sd} {m : Ms} : xItN f σ m = (f σ m).bind fun d m1 => match d with
  | .lst ds => .ok (none, ds) m1
  | .tup ds => .ok (none, ds) m1
  | .lck ds => .ok (none, ds) m1
  | .cel c => match m1[c]? with
    | some (.l ds) => .ok (some c, ds) m1
    | _ => .bad
  | _ => .bad := rfl
@[simp] theorem ev_forN {s : Fn (Option Nat × List D)} {h : Fg} {f : Fo} {σ : Sd} {m : Ms} : xForN s h f σ m = (s σ m).go σ fun p m1 => forK p.1 p.2 h f (enumD 0 p.2) σ m1 := rfl
end CT
namespace CT
open PySem PySem.Spec PyProof.Rows L2
/-! ## comprehensions that make sets of any things: O tells the set at an address, can what may be put in, nxt what comes of it -/
/-! ### sets of tuples of whole numbers -/
/-! ### sorted({e for ..}), e a pair of whole numbers not below nought -/
def leP (p q : List Int) : Bool := decide (p.getD 0 0 < q.getD 0 0 ∨ p.getD 0 0 = q.getD 0 0 ∧ p.getD 1 0 ≤ q.getD 1 0)
def sortU (kk : List (List Int)) : List (List Int) := (uniq kk).mergeSort leP
def dI (k : List Int) : D := .tup (k.map .int)
def okP (k : List Int) : Bool := decide (k.length = 2) && k.all fun i => decide (0 ≤ i)
def lcS (g : Fg) (c : Fn Bool) (e : Fn D) (σ : Sd) : List D → Ms → List (List Int) → R D
  | [], m, kk => .ok (.lst ((sortU kk).map dI)) m
  | d :: ds, m, kk => match g d σ m with
    | none => .bad
    | some (σ1, m1) => match c σ1 m1 with
      | .ok true m2 => match e σ1 m2 with
        | .ok y m3 => match pairI y with
          | some k => if okP k = true ∧ kk.length < 60 then lcS g c e σ ds m3 (kk ++ [k]) else .bad
          | none => .bad
        | _ => .bad
      | .ok false m2 => lcS g c e σ ds m2 kk
      | _ => .bad
def xSortS (src : Fn (List D)) (g : Fg) (c : Fn Bool) (e : Fn D) (own : List Nat) : Fn D := fun σ m => (src σ m).bind fun items m1 => lcS g c e (wipeD σ own) items m1 []
@[simp] theorem ev_sortS {s : Fn (List D)} {h : Fg} {e : Fn D} {t : Fn Bool} {own : List Nat} {σ : Sd} {m : Ms} : xSortS s h t e own σ m = (s σ m).bind fun items m1 => lcS h t e (wipeD σ own) items m1 [] := rfl
end CT
namespace CT
open PySem PySem.Spec PyProof.Rows L2
/-! ## sorted, of a list of tuples that can be compared place by place -/
def isTP : PyData → Bool
  | .tuple (_ :: _) => true
  | _ => false
def sgOk (ds : List D) : Bool := ds.all (fun d => d.cf 0 && (toP d).canLay0 && decide ((toP d).depth ≤ 50) && isTP (toP d)) && ds.all (fun d => ds.all fun e => PySem.W.alike (toP d) (toP e)) && decide (ds.length ≤ 1000)
noncomputable def leG (d e : D) : Bool := PySem.W.dataLe false toP d e
noncomputable def sortG (ds : List D) : List D := ds.mergeSort leG
noncomputable def bSortG : List D → Ms → R D
  | [.lst ds], m => if sgOk ds = true then .ok (.lst (sortG ds)) m else .bad
  | _, _ => .bad
def rSortG (K : PySem.W.Frag) : List V → Hp → VK → Prop := fun vs H Q => ∃ (a : Addr) (bs : List (V × D)), vs = [V.ref a] ∧ SqL K H a (bs.map (·.1)) ∧ (∀ b ∈ bs, Dp K H b.1 (toP b.2)) ∧ sgOk (bs.map (·.2)) = true ∧
  ∀ p, H p = none → Q (.ref p) (upd H p (.lst ((bs.mergeSort (PySem.W.dataLe false fun b => toP b.2)).map (·.1))))
theorem each_vals : ∀ {bs : List (V × D)} {us : List Value}, Vals (bs.map (·.1)) us → PySem.W.EachIs (fun v (b : V × D) => RelV b.1 v) us bs
  | [], _, r => by cases r; exact .nil
  | b :: bs, _, r => by
    cases r with
    | cons a r => exact .cons a (each_vals r)
theorem vals_each : ∀ {bs : List (V × D)} {us : List Value}, PySem.W.EachIs (fun v (b : V × D) => RelV b.1 v) us bs → Vals (bs.map (·.1)) us
  | _, _, .nil => .nil
  | _, _, .cons a r => .cons a (vals_each r)
theorem each_dp {X : Cx} {pins : List (Addr × Obj)} {σ : L2.St} {H : Hp} {s : Shared} (I : Inv X pins σ H s) : ∀ {bs : List (V × D)} {us : List Value}, Vals (bs.map (·.1)) us → (∀ b ∈ bs, Dp X.K H b.1 (toP b.2)) → PySem.W.EachIs (fun v (b : V × D) => ∃ as, Reads s.heap v (toP b.2) as) us bs
  | [], _, r, _ => by cases r; exact .nil
  | b :: bs, _, r, h => by
    cases r with
    | cons a r => exact .cons (Dp.reads I _ _ _ (h b (List.mem_cons_self ..)) a) (each_dp I r fun x hx => h x (List.mem_cons_of_mem _ hx))
theorem sgOk_d {ds : List D} (h : sgOk ds = true) : (∀ d ∈ ds, d.cf 0 = true ∧ (toP d).canLay0 = true ∧ (toP d).depth ≤ 50 ∧ isTP (toP d) = true) ∧ (∀ d ∈ ds, ∀ e ∈ ds, PySem.W.alike (toP d) (toP e) = true) ∧ ds.length ≤ 1000 := by
  unfold sgOk at h
  rw [Bool.and_eq_true, Bool.and_eq_true] at h
  obtain ⟨⟨h1, h2⟩, h3⟩ := h
  refine ⟨fun d hd => ?_, fun d hd e he => ?_, of_decide_eq_true h3⟩
  · have := List.all_eq_true.mp h1 d hd
    simp only [Bool.and_eq_true, decide_eq_true_eq] at this
    exact ⟨this.1.1.1, this.1.1.2, this.1.2, this.2⟩
  · exact List.all_eq_true.mp (List.all_eq_true.mp h2 d hd) e he
theorem isTP_ex {d : PyData} (h : isTP d = true) : ∃ x r, d = .tuple (x :: r) := by
  unfold isTP at h
  split at h
  · exact ⟨_, _, rfl⟩
  · cases h
theorem cr_sortG {X : Cx} (hu : X.A.units + 64 < cLine) : CallR X (.builtin "sorted") (rSortG X.K) := by
  intro pins s σ H vs us Q I r h
  obtain ⟨a, bs, rfl, hs, hd, hg, q⟩ := h
  obtain ⟨its, rv, hl, hz⟩ := I.list hs
  obtain ⟨g1, g2, g3⟩ := sgOk_d hg
  have gm : ∀ b ∈ bs, b.2 ∈ bs.map (·.2) := fun b hb => List.mem_map.mpr ⟨b, hb, rfl⟩
  rw [Vals.ref1 r]
  refine PySem.W.sorted_data (enc := fun b : V × D => toP b.2) (R := fun v (b : V × D) => RelV b.1 v) hl.isList (each_vals rv) (each_dp I rv hd) ?_ ?_ ?_ ?_ fun out ho eo => ?_
  · intro d hd d' hd'
    obtain ⟨b, hb, rfl⟩ := List.mem_map.mp hd
    obtain ⟨c, hc, rfl⟩ := List.mem_map.mp hd'
    exact g2 _ (gm b hb) _ (gm c hc)
  · refine .inl fun d hd => ?_
    obtain ⟨b, hb, rfl⟩ := List.mem_map.mp hd
    exact isTP_ex (g1 _ (gm b hb)).2.2.2
  · rw [List.length_map] at g3
    rw [sizeLine_eq]; omega
  · intro b hb
    have := (g1 _ (gm b hb)).2.2.1
    omega
  · obtain ⟨ep, he'⟩ := PyProof.Rows.sortedAll_at s.heap its out.toArray
    have hlen : ((bs.mergeSort (PySem.W.dataLe false fun b => toP b.2)).map (·.1)).length ≤ sizeLine := by
      rw [List.length_map, (List.mergeSort_perm _ _).length_eq]
      rw [List.length_map] at g3
      rw [sizeLine_eq]; omega
    exact ⟨.ref _, upd H (s.heap.objs.size + 1) (.lst ((bs.mergeSort (PySem.W.dataLe false fun b => toP b.2)).map (·.1))), I.laid (t' := s.toks) (fun _ _ => PyProof.Rows.sortedAll_old) (Nat.le_succ _) ⟨hlen, out, ep, vals_each eo, he'⟩, rfl, q _ (I.hok.fresh (Nat.le_succ _))⟩
theorem reps_zip {K : KK} {G : Hp} {α : List Addr} : ∀ {vs : List V} {ds : List D}, Reps K G α vs ds → ∃ bs : List (V × D), bs.map (·.1) = vs ∧ bs.map (·.2) = ds ∧ ∀ b ∈ bs, Rep K G α b.1 b.2
  | _, _, .nil => ⟨[], rfl, rfl, by simp⟩
  | _, _, .cons a r => by
    obtain ⟨bs, rfl, rfl, h⟩ := reps_zip r
    refine ⟨(_, _) :: bs, rfl, rfl, fun b hb => ?_⟩
    rcases List.mem_cons.mp hb with rfl | hb
    · exact a
    · exact h b hb
theorem zip_reps {K : KK} {G : Hp} {α : List Addr} : ∀ {bs : List (V × D)}, (∀ b ∈ bs, Rep K G α b.1 b.2) → Reps K G α (bs.map (·.1)) (bs.map (·.2))
  | [], _ => .nil
  | b :: bs, h => .cons (h b (List.mem_cons_self ..)) (zip_reps fun c hc => h c (List.mem_cons_of_mem _ hc))
section
variable {L : Lc}
theorem calB_sortG : CalS L (rSortG L.K) bSortG := by
  intro W H α β σ σd m vs ds Q s r q
  cases r with
  | nil => exact q.elim
  | cons a r =>
    cases r with
    | cons b r => cases a <;> exact q.elim
    | nil =>
      cases a with
      | lst h r =>
        obtain ⟨c, q⟩ := if_elim q
        obtain ⟨bs, rfl, rfl, hb⟩ := reps_zip r
        obtain ⟨g1, g2, g3⟩ := sgOk_d c
        refine ⟨_, bs, rfl, .inl (.inl h), fun b hm => ?_, c, fun p hp => ?_⟩
        · have := g1 b.2 (List.mem_map.mpr ⟨b, hm, rfl⟩)
          exact Rep.dp hid_sub this.1 this.2.1 (hb b hm)
        · have e : sortG (bs.map (·.2)) = (bs.mergeSort (PySem.W.dataLe false fun b => toP b.2)).map (·.2) := by
            unfold sortG
            exact (List.map_mergeSort (f := fun b : V × D => b.2) (fun a _ b _ => rfl)).symm
          rw [e] at q
          have hb' : ∀ b ∈ bs.mergeSort (PySem.W.dataLe false fun b : V × D => toP b.2), Rep L.K (hid H (α ++ β)) α b.1 b.2 := fun b hm => hb b ((List.mergeSort_perm _ _).mem_iff.mp hm)
          obtain ⟨h1, h2⟩ := lay_lst s hp (zip_reps hb')
          exact q _ _ _ (Ext.lay hp) h1 h2
      | _ => exact q.elim
theorem se_sortG {e : Expr} {es : List Expr} {f : Fn (List D)} {p pos : Pos} (hg : Glb L "sorted") (hm : L.mg "sorted" = none) (ha : SAs L (e :: es) f) (he : ∀ env, starEach (e :: es) env = (false, eval e env) :: starEach es env := by intro _; rfl) (hpl : ∀ env, (backTo pos (starEach es env)).any (·.1) = false := by intro _; rfl) : SE L (.Call (.Name "sorted" p) (e :: es) [] pos) (xCalB bSortG f) :=
  se_callB (fun W X h => by rw [← h.K]; exact cr_sortG (room64 h)) calB_sortG hg hm (by decide +kernel) ha (by decide) (by decide) he hpl
end
@[simp] theorem b_sortG {ds : List D} {m : Ms} : bSortG [.lst ds] m = if sgOk ds = true then .ok (.lst (sortG ds)) m else .bad := rfl
section
variable {G : Lc} {N : List Str} {sc : Scope} {k : Nat} {fn : Str → Bool}
theorem g_sortG {e : Expr} {es : List Expr} {f : Fn (List D)} {p pos : Pos} (h : gloOk sc "sorted" = true) (hm : G.mg "sorted" = none) (ha : SAs (G.loc N sc k fn) (e :: es) f) (he : ∀ env, starEach (e :: es) env = (false, eval e env) :: starEach es env := by intro _; rfl) (hpl : ∀ env, (backTo pos (starEach es env)).any (·.1) = false := by intro _; rfl) :
    SE (G.loc N sc k fn) (.Call (.Name "sorted" p) (e :: es) [] pos) (xCalB bSortG f) := se_sortG (gloOk_g h).1 hm ha he hpl
end
/-! sorted lists of one and the same bag are alike -/
theorem sortG_perm (ds : List D) : (sortG ds).Perm ds := List.mergeSort_perm _ _
theorem sortG_eq {ds es : List D} (h : ds.Perm es) (inj : ∀ d ∈ ds, ∀ e ∈ ds, PySem.W.keyToks (toP d) = PySem.W.keyToks (toP e) → d = e) : sortG ds = sortG es := by
  have T := PySem.W.sortLe_total (PyProof.Rows.listOrd PyProof.Rows.itemOrd) false fun b : D => PySem.W.keyToks (toP b)
  have pw : ∀ l : List D, (l.mergeSort leG).Pairwise fun a b => leG a b = true := fun l => List.pairwise_mergeSort (fun a b c => T.trans a b c) (fun a b => by
    rw [Bool.or_eq_true]
    exact T.total a b) l
  refine List.Perm.eq_of_pairwise (le := fun a b => leG a b = true) (fun a b ha hb h1 h2 => ?_) (pw _) (pw _) (((sortG_perm ds).trans h).trans (sortG_perm es).symm)
  have ha := (sortG_perm ds).mem_iff.mp ha
  have hb := h.mem_iff.mpr ((sortG_perm es).mem_iff.mp hb)
  refine inj a ha b hb ?_
  have h1 : (!(PyProof.Rows.listOrd PyProof.Rows.itemOrd).blt (PySem.W.keyToks (toP b)) (PySem.W.keyToks (toP a))) = true := h1
  have h2 : (!(PyProof.Rows.listOrd PyProof.Rows.itemOrd).blt (PySem.W.keyToks (toP a)) (PySem.W.keyToks (toP b))) = true := h2
  exact (PyProof.Rows.listOrd PyProof.Rows.itemOrd).total _ _ (by simpa using h2) (by simpa using h1)
end CT
namespace Law
open PySem PyProof.Rows L2 CT
def top (i : Nat) : Stmt := PySem.Challenge.pw_cornertrade_k15_whole_no_trade_changes_t.main.body.getD i (.Pass ⟨0, 0, 0, 0⟩)
abbrev t_wall : Stmt := top 0
abbrev t_shared_by : Stmt := top 23
abbrev N_shared_by : List Str := ["one", "other"]
theorem S_shared_by : FnScope N_shared_by ["one", "other"] (defScope t_shared_by) := ⟨by decide +kernel, by decide +kernel, by decide +kernel, by decide +kernel, by decide +kernel, by decide +kernel, by decide +kernel⟩
abbrev t_part : Stmt := top 24
abbrev N_part : List Str := ["over", "under", "low", "sign"]
theorem S_part : FnScope N_part ["over", "under"] (defScope t_part) := ⟨by decide +kernel, by decide +kernel, by decide +kernel, by decide +kernel, by decide +kernel, by decide +kernel, by decide +kernel⟩
abbrev t_plus : Stmt := top 25
abbrev N_plus : List Str := ["one", "other"]
theorem S_plus : FnScope N_plus ["one", "other"] (defScope t_plus) := ⟨by decide +kernel, by decide +kernel, by decide +kernel, by decide +kernel, by decide +kernel, by decide +kernel, by decide +kernel⟩
abbrev t_less : Stmt := top 26
abbrev N_less : List Str := ["one", "other"]
theorem S_less : FnScope N_less ["one", "other"] (defScope t_less) := ⟨by decide +kernel, by decide +kernel, by decide +kernel, by decide +kernel, by decide +kernel, by decide +kernel, by decide +kernel⟩
abbrev t_times : Stmt := top 27
abbrev N_times : List Str := ["one", "other"]
theorem S_times : FnScope N_times ["one", "other"] (defScope t_times) := ⟨by decide +kernel, by decide +kernel, by decide +kernel, by decide +kernel, by decide +kernel, by decide +kernel, by decide +kernel⟩
abbrev t_over : Stmt := top 28
abbrev N_over : List Str := ["one", "other"]
theorem S_over : FnScope N_over ["one", "other"] (defScope t_over) := ⟨by decide +kernel, by decide +kernel, by decide +kernel, by decide +kernel, by decide +kernel, by decide +kernel, by decide +kernel⟩
abbrev t_summed : Stmt := top 32
abbrev N_summed : List Str := ["one", "other"]
theorem S_summed : FnScope N_summed ["one", "other"] (defScope t_summed) := ⟨by decide +kernel, by decide +kernel, by decide +kernel, by decide +kernel, by decide +kernel, by decide +kernel, by decide +kernel⟩
abbrev t_off : Stmt := top 33
abbrev N_off : List Str := ["one", "other"]
theorem S_off : FnScope N_off ["one", "other"] (defScope t_off) := ⟨by decide +kernel, by decide +kernel, by decide +kernel, by decide +kernel, by decide +kernel, by decide +kernel, by decide +kernel⟩
abbrev t_mate : Stmt := top 34
abbrev N_mate : List Str := ["one"]
theorem S_mate : FnScope N_mate ["one"] (defScope t_mate) := ⟨by decide +kernel, by decide +kernel, by decide +kernel, by decide +kernel, by decide +kernel, by decide +kernel, by decide +kernel⟩
abbrev t_made : Stmt := top 35
abbrev N_made : List Str := ["one", "other", "x", "y", "u", "v"]
theorem S_made : FnScope N_made ["one", "other"] (defScope t_made) := ⟨by decide +kernel, by decide +kernel, by decide +kernel, by decide +kernel, by decide +kernel, by decide +kernel, by decide +kernel⟩
abbrev t_often : Stmt := top 36
abbrev N_often : List Str := ["one", "many"]
theorem S_often : FnScope N_often ["one", "many"] (defScope t_often) := ⟨by decide +kernel, by decide +kernel, by decide +kernel, by decide +kernel, by decide +kernel, by decide +kernel, by decide +kernel⟩
abbrev t_weight : Stmt := top 37
abbrev N_weight : List Str := ["one"]
theorem S_weight : FnScope N_weight ["one"] (defScope t_weight) := ⟨by decide +kernel, by decide +kernel, by decide +kernel, by decide +kernel, by decide +kernel, by decide +kernel, by decide +kernel⟩
abbrev t_parted : Stmt := top 38
abbrev N_parted : List Str := ["one", "other"]
theorem S_parted : FnScope N_parted ["one", "other"] (defScope t_parted) := ⟨by decide +kernel, by decide +kernel, by decide +kernel, by decide +kernel, by decide +kernel, by decide +kernel, by decide +kernel⟩
abbrev t_copied : Stmt := top 39
abbrev N_copied : List Str := ["one", "x", "y"]
theorem S_copied : FnScope N_copied ["one"] (defScope t_copied) := ⟨by decide +kernel, by decide +kernel, by decide +kernel, by decide +kernel, by decide +kernel, by decide +kernel, by decide +kernel⟩
abbrev t_entry : Stmt := top 41
abbrev N_entry : List Str := ["row", "at"]
theorem S_entry : FnScope N_entry ["row", "at"] (defScope t_entry) := ⟨by decide +kernel, by decide +kernel, by decide +kernel, by decide +kernel, by decide +kernel, by decide +kernel, by decide +kernel⟩
abbrev t_grown_by : Stmt := top 42
abbrev N_grown_by : List Str := ["whole", "z", "low", "high", "p", "q", "at"]
theorem S_grown_by : FnScope N_grown_by ["whole", "z"] (defScope t_grown_by) := ⟨by decide +kernel, by decide +kernel, by decide +kernel, by decide +kernel, by decide +kernel, by decide +kernel, by decide +kernel⟩
abbrev t_whole_of : Stmt := top 43
abbrev N_whole_of : List Str := ["rods", "found", "name", "arrow"]
theorem S_whole_of : FnScope N_whole_of ["rods"] (defScope t_whole_of) := ⟨by decide +kernel, by decide +kernel, by decide +kernel, by decide +kernel, by decide +kernel, by decide +kernel, by decide +kernel⟩
abbrev t_Row_rods : Stmt := csub (top 54) 4
abbrev N_Row_rods : List Str := ["self"]
theorem S_Row_rods : FnScope N_Row_rods ["self"] (defScope t_Row_rods) := ⟨by decide +kernel, by decide +kernel, by decide +kernel, by decide +kernel, by decide +kernel, by decide +kernel, by decide +kernel⟩
abbrev t_whole : Stmt := top 44
abbrev N_whole : List Str := ["row"]
theorem S_whole : FnScope N_whole ["row"] (defScope t_whole) := ⟨by decide +kernel, by decide +kernel, by decide +kernel, by decide +kernel, by decide +kernel, by decide +kernel, by decide +kernel⟩
abbrev t_is_name : Stmt := top 49
abbrev N_is_name : List Str := ["text", "sign"]
theorem S_is_name : FnScope N_is_name ["text"] (defScope t_is_name) := ⟨by decide +kernel, by decide +kernel, by decide +kernel, by decide +kernel, by decide +kernel, by decide +kernel, by decide +kernel⟩
abbrev t_need_rods : Stmt := top 50
abbrev N_need_rods : List Str := ["rods", "names", "at", "name", "arrow"]
theorem S_need_rods : FnScope N_need_rods ["rods"] (defScope t_need_rods) := ⟨by decide +kernel, by decide +kernel, by decide +kernel, by decide +kernel, by decide +kernel, by decide +kernel, by decide +kernel⟩
abbrev t_exchanged : Stmt := top 51
abbrev N_exchanged : List Str := ["one", "other", "both", "low"]
theorem S_exchanged : FnScope N_exchanged ["one", "other"] (defScope t_exchanged) := ⟨by decide +kernel, by decide +kernel, by decide +kernel, by decide +kernel, by decide +kernel, by decide +kernel, by decide +kernel⟩
abbrev t_rods_traded : Stmt := top 52
abbrev N_rods_traded : List Str := ["rods", "at", "arrows", "ahead", "behind"]
theorem S_rods_traded : FnScope N_rods_traded ["rods", "at"] (defScope t_rods_traded) := ⟨by decide +kernel, by decide +kernel, by decide +kernel, by decide +kernel, by decide +kernel, by decide +kernel, by decide +kernel⟩
abbrev t_corners_of : Stmt := top 53
abbrev N_corners_of : List Str := ["rods", "start", "found", "name", "arrow"]
theorem S_corners_of : FnScope N_corners_of ["rods", "start"] (defScope t_corners_of) := ⟨by decide +kernel, by decide +kernel, by decide +kernel, by decide +kernel, by decide +kernel, by decide +kernel, by decide +kernel⟩
abbrev t_l_box : Stmt := top 56
abbrev N_l_box : List Str := ["_law_script"]
theorem S_l_box : FnScope N_l_box ["_law_script"] (defScope t_l_box) := ⟨by decide +kernel, by decide +kernel, by decide +kernel, by decide +kernel, by decide +kernel, by decide +kernel, by decide +kernel⟩
abbrev t_l_draw : Stmt := top 57
abbrev N_l_draw : List Str := ["_law_box_here", "_law_many", "_law_cell", "_law_got"]
theorem S_l_draw : FnScope N_l_draw ["_law_box_here", "_law_many"] (defScope t_l_draw) := ⟨by decide +kernel, by decide +kernel, by decide +kernel, by decide +kernel, by decide +kernel, by decide +kernel, by decide +kernel⟩
abbrev t_l_of : Stmt := top 58
abbrev N_l_of : List Str := ["_law_box_here", "_law_some"]
theorem S_l_of : FnScope N_l_of ["_law_box_here", "_law_some"] (defScope t_l_of) := ⟨by decide +kernel, by decide +kernel, by decide +kernel, by decide +kernel, by decide +kernel, by decide +kernel, by decide +kernel⟩
abbrev t_l_names : Stmt := top 59
abbrev N_l_names : List Str := ["_law_box_here", "_law_many", "_law_letters", "_law_found", "_law_k", "_law_my_start", "_law_step", "_law_tail", "_law_pick", "_law_sign"]
theorem S_l_names : FnScope N_l_names ["_law_box_here", "_law_many"] (defScope t_l_names) := ⟨by decide +kernel, by decide +kernel, by decide +kernel, by decide +kernel, by decide +kernel, by decide +kernel, by decide +kernel⟩
abbrev t_l_low : Stmt := top 60
abbrev N_l_low : List Str := ["_law_above", "_law_beneath", "_law_side", "_law_one", "_law_other"]
theorem S_l_low : FnScope N_l_low ["_law_above", "_law_beneath"] (defScope t_l_low) := ⟨by decide +kernel, by decide +kernel, by decide +kernel, by decide +kernel, by decide +kernel, by decide +kernel, by decide +kernel⟩
abbrev t_l_small : Stmt := top 61
abbrev N_l_small : List Str := ["_law_box_here"]
theorem S_l_small : FnScope N_l_small ["_law_box_here"] (defScope t_l_small) := ⟨by decide +kernel, by decide +kernel, by decide +kernel, by decide +kernel, by decide +kernel, by decide +kernel, by decide +kernel⟩
abbrev t_l_spot : Stmt := top 62
abbrev N_l_spot : List Str := ["_law_box_here"]
theorem S_l_spot : FnScope N_l_spot ["_law_box_here"] (defScope t_l_spot) := ⟨by decide +kernel, by decide +kernel, by decide +kernel, by decide +kernel, by decide +kernel, by decide +kernel, by decide +kernel⟩
abbrev t_l_arrow : Stmt := top 63
abbrev N_l_arrow : List Str := ["_law_box_here", "_law_found", "_law_x", "_law_y"]
theorem S_l_arrow : FnScope N_l_arrow ["_law_box_here"] (defScope t_l_arrow) := ⟨by decide +kernel, by decide +kernel, by decide +kernel, by decide +kernel, by decide +kernel, by decide +kernel, by decide +kernel⟩
abbrev t_l_rods : Stmt := top 64
abbrev N_l_rods : List Str := ["_law_box_here", "_law_low_here", "_law_most", "_law_names_here", "_law_rods_here", "_law_at", "_law_name", "_law_x", "_law_y"]
theorem S_l_rods : FnScope N_l_rods ["_law_box_here", "_law_low_here", "_law_most"] (defScope t_l_rods) := ⟨by decide +kernel, by decide +kernel, by decide +kernel, by decide +kernel, by decide +kernel, by decide +kernel, by decide +kernel⟩
abbrev t_l_like : Stmt := top 66
abbrev N_l_like : List Str := ["_law_found", "_law_due", "_law_k"]
theorem S_l_like : FnScope N_l_like ["_law_found", "_law_due"] (defScope t_l_like) := ⟨by decide +kernel, by decide +kernel, by decide +kernel, by decide +kernel, by decide +kernel, by decide +kernel, by decide +kernel⟩
abbrev t_Row___init : Stmt := csub (top 54) 0
abbrev N_Row___init : List Str := ["self", "rods", "start", "name", "arrow"]
theorem S_Row___init : FnScope N_Row___init ["self", "rods", "start"] (defScope t_Row___init) := ⟨by decide +kernel, by decide +kernel, by decide +kernel, by decide +kernel, by decide +kernel, by decide +kernel, by decide +kernel⟩
abbrev t_Row_corners : Stmt := csub (top 54) 6
abbrev N_Row_corners : List Str := ["self"]
theorem S_Row_corners : FnScope N_Row_corners ["self"] (defScope t_Row_corners) := ⟨by decide +kernel, by decide +kernel, by decide +kernel, by decide +kernel, by decide +kernel, by decide +kernel, by decide +kernel⟩
abbrev t_Row_end : Stmt := csub (top 54) 9
abbrev N_Row_end : List Str := ["self"]
theorem S_Row_end : FnScope N_Row_end ["self"] (defScope t_Row_end) := ⟨by decide +kernel, by decide +kernel, by decide +kernel, by decide +kernel, by decide +kernel, by decide +kernel, by decide +kernel⟩
abbrev t_Row_names : Stmt := csub (top 54) 5
abbrev N_Row_names : List Str := ["self", "name", "arrow"]
theorem S_Row_names : FnScope N_Row_names ["self"] (defScope t_Row_names) := ⟨by decide +kernel, by decide +kernel, by decide +kernel, by decide +kernel, by decide +kernel, by decide +kernel, by decide +kernel⟩
abbrev t_Row_traded : Stmt := csub (top 54) 11
abbrev N_Row_traded : List Str := ["self", "at", "rods"]
theorem S_Row_traded : FnScope N_Row_traded ["self", "at"] (defScope t_Row_traded) := ⟨by decide +kernel, by decide +kernel, by decide +kernel, by decide +kernel, by decide +kernel, by decide +kernel, by decide +kernel⟩
abbrev t_Row_weights : Stmt := csub (top 54) 7
abbrev N_Row_weights : List Str := ["self", "name", "arrow"]
theorem S_Row_weights : FnScope N_Row_weights ["self"] (defScope t_Row_weights) := ⟨by decide +kernel, by decide +kernel, by decide +kernel, by decide +kernel, by decide +kernel, by decide +kernel, by decide +kernel⟩
abbrev t_Row___len : Stmt := csub (top 54) 1
abbrev N_Row___len : List Str := ["self"]
theorem S_Row___len : FnScope N_Row___len ["self"] (defScope t_Row___len) := ⟨by decide +kernel, by decide +kernel, by decide +kernel, by decide +kernel, by decide +kernel, by decide +kernel, by decide +kernel⟩
abbrev t_law : Stmt := top 67
abbrev N_law : List Str := ["_law_script", "_law_box_here", "_law_turn", "_law_row", "_law_book", "_law_step", "_law_due", "_law_ended", "_law_told", "_law_name"]
theorem S_law : FnScope N_law ["_law_script"] (defScope t_law) := ⟨by decide +kernel, by decide +kernel, by decide +kernel, by decide +kernel, by decide +kernel, by decide +kernel, by decide +kernel⟩
abbrev k_Row : Nat := 7
abbrev ti_BadPart : Stmt := csub (top 4) 0
theorem Si_BadPart : FnScope ["self"] ["self"] (defScope ti_BadPart) := ⟨by decide +kernel, by decide +kernel, by decide +kernel, by decide +kernel, by decide +kernel, by decide +kernel, by decide +kernel⟩
abbrev ti_BadName : Stmt := csub (top 5) 0
theorem Si_BadName : FnScope ["self", "name"] ["self", "name"] (defScope ti_BadName) := ⟨by decide +kernel, by decide +kernel, by decide +kernel, by decide +kernel, by decide +kernel, by decide +kernel, by decide +kernel⟩
abbrev ti_Nought : Stmt := csub (top 8) 0
theorem Si_Nought : FnScope ["self", "at"] ["self", "at"] (defScope ti_Nought) := ⟨by decide +kernel, by decide +kernel, by decide +kernel, by decide +kernel, by decide +kernel, by decide +kernel, by decide +kernel⟩
abbrev ti_Twice : Stmt := csub (top 7) 0
theorem Si_Twice : FnScope ["self", "name"] ["self", "name"] (defScope ti_Twice) := ⟨by decide +kernel, by decide +kernel, by decide +kernel, by decide +kernel, by decide +kernel, by decide +kernel, by decide +kernel⟩
abbrev ti_BadRow : Stmt := csub (top 6) 0
theorem Si_BadRow : FnScope ["self", "many"] ["self", "many"] (defScope ti_BadRow) := ⟨by decide +kernel, by decide +kernel, by decide +kernel, by decide +kernel, by decide +kernel, by decide +kernel, by decide +kernel⟩
abbrev ti_BadCorner : Stmt := csub (top 9) 0
theorem Si_BadCorner : FnScope ["self", "at"] ["self", "at"] (defScope ti_BadCorner) := ⟨by decide +kernel, by decide +kernel, by decide +kernel, by decide +kernel, by decide +kernel, by decide +kernel, by decide +kernel⟩
abbrev ti_Flat : Stmt := csub (top 10) 0
theorem Si_Flat : FnScope ["self", "at"] ["self", "at"] (defScope ti_Flat) := ⟨by decide +kernel, by decide +kernel, by decide +kernel, by decide +kernel, by decide +kernel, by decide +kernel, by decide +kernel⟩
abbrev t_l_tried : Stmt := top 65
def nCx : Nat := 7
def hdx : Hd := [(fun c => ([false, true, false, true, false, false, false] : List Bool).getD c false, ["called", "name"]), (fun c => ([false, false, true, false, false, true, true] : List Bool).getD c false, ["called", "at"]), (fun c => ([false, false, false, false, false, false, false] : List Bool).getD c false, ["called", "weight"]), (fun c => ([false, false, false, false, true, false, false] : List Bool).getD c false, ["called", "many"]), (fun c => ([false, false, false, false, false, false, false] : List Bool).getD c false, ["called", "most"]), (fun c => ([false, false, false, false, false, false, false] : List Bool).getD c false, ["called", "word"]), (fun c => ([true, true, true, true, true, true, true] : List Bool).getD c false, ["called"])]
theorem S_l_tried : FnScope ["_law_act", "e"] ["_law_act"] (defScope t_l_tried) := ⟨by decide +kernel, by decide +kernel, by decide +kernel, by decide +kernel, by decide +kernel, by decide +kernel, by decide +kernel⟩
def c_ZERO : D := (.tup [(.int (0)), (.int (1))])
def c_ORIGIN : D := (.tup [(.tup [(.int (0)), (.int (1))]), (.tup [(.int (0)), (.int (1))])])
def c_ONE : D := (.tup [(.int (1)), (.int (1))])
def c_LONE : D := (.tup [(.tup [(.int (1)), (.int (1))]), (.tup [(.int (0)), (.int (1))])])
def c_MOST_NAME : D := (.int (6))
def c_LETTERS : D := (.str "abcdefghijklmnopqrstuvwxyz")
def c_MOST_RODS : D := (.int (8))
noncomputable section
def b_shared_by : Fo := (xSeq (xWhile (xTest (xOp oNe (xVar 1) (xVal (.int (0))))) (xPar 0 1 (xVar 1) (xOp oMod (xVar 0) (xVar 1))))
  (xRet (xVar 0)))
def s_shared_by : List D → Ms → R D := fnSem 2 b_shared_by
def b_part : Fo := (xSeq (xIfS (xTest (xOp oEq (xVar 1) (xVal (.int (0))))) (xRaise 0 "BadPart" [] xNil) xPass)
  (xSeq (xAsg (gN 2) (xCal (fun ds es => sel [.p 0, .p 1] ds [] es) s_shared_by (xCons (xCalB bAbs (xCons (xVar 0) xNil)) (xCons (xCalB bAbs (xCons (xVar 1) xNil)) xNil)) xNil))
  (xSeq (xAsg (gN 3) (xIf (xTest (xOp oGt (xVar 1) (xVal (.int (0))))) (xVal (.int (1))) (xUn oNeg (xVal (.int (1))))))
  (xRet (xTup (xCons (xOp oDiv (xOp oMul (xVar 3) (xVar 0)) (xVar 2)) (xCons (xOp oDiv (xOp oMul (xVar 3) (xVar 1)) (xVar 2)) xNil)))))))
def s_part : List D → Ms → R D := fnSem 4 b_part
def b_plus : Fo := (xRet (xCal (fun ds es => sel [.p 0, .p 1] ds [(.int (1))] es) s_part (xCons (xOp oAdd (xOp oMul (xOp oIx (xVar 0) (xVal (.int (0)))) (xOp oIx (xVar 1) (xVal (.int (1))))) (xOp oMul (xOp oIx (xVar 1) (xVal (.int (0)))) (xOp oIx (xVar 0) (xVal (.int (1)))))) (xCons (xOp oMul (xOp oIx (xVar 0) (xVal (.int (1)))) (xOp oIx (xVar 1) (xVal (.int (1))))) xNil)) xNil))
def s_plus : List D → Ms → R D := fnSem 2 b_plus
def b_less : Fo := (xRet (xCal (fun ds es => sel [.p 0, .p 1] ds [(.int (1))] es) s_part (xCons (xOp oSub (xOp oMul (xOp oIx (xVar 0) (xVal (.int (0)))) (xOp oIx (xVar 1) (xVal (.int (1))))) (xOp oMul (xOp oIx (xVar 1) (xVal (.int (0)))) (xOp oIx (xVar 0) (xVal (.int (1)))))) (xCons (xOp oMul (xOp oIx (xVar 0) (xVal (.int (1)))) (xOp oIx (xVar 1) (xVal (.int (1))))) xNil)) xNil))
def s_less : List D → Ms → R D := fnSem 2 b_less
def b_times : Fo := (xRet (xCal (fun ds es => sel [.p 0, .p 1] ds [(.int (1))] es) s_part (xCons (xOp oMul (xOp oIx (xVar 0) (xVal (.int (0)))) (xOp oIx (xVar 1) (xVal (.int (0))))) (xCons (xOp oMul (xOp oIx (xVar 0) (xVal (.int (1)))) (xOp oIx (xVar 1) (xVal (.int (1))))) xNil)) xNil))
def s_times : List D → Ms → R D := fnSem 2 b_times
def b_over : Fo := (xSeq (xIfS (xTest (xOp oEq (xOp oIx (xVar 1) (xVal (.int (0)))) (xVal (.int (0))))) (xRaise 0 "BadPart" [] xNil) xPass)
  (xRet (xCal (fun ds es => sel [.p 0, .p 1] ds [(.int (1))] es) s_part (xCons (xOp oMul (xOp oIx (xVar 0) (xVal (.int (0)))) (xOp oIx (xVar 1) (xVal (.int (1))))) (xCons (xOp oMul (xOp oIx (xVar 0) (xVal (.int (1)))) (xOp oIx (xVar 1) (xVal (.int (0))))) xNil)) xNil)))
def s_over : List D → Ms → R D := fnSem 2 b_over
def b_summed : Fo := (xRet (xTup (xCons (xCal (fun ds es => sel [.p 0, .p 1] ds [] es) s_plus (xCons (xOp oIx (xVar 0) (xVal (.int (0)))) (xCons (xOp oIx (xVar 1) (xVal (.int (0)))) xNil)) xNil) (xCons (xCal (fun ds es => sel [.p 0, .p 1] ds [] es) s_plus (xCons (xOp oIx (xVar 0) (xVal (.int (1)))) (xCons (xOp oIx (xVar 1) (xVal (.int (1)))) xNil)) xNil) xNil))))
def s_summed : List D → Ms → R D := fnSem 2 b_summed
def b_off : Fo := (xRet (xTup (xCons (xCal (fun ds es => sel [.p 0, .p 1] ds [] es) s_less (xCons (xOp oIx (xVar 0) (xVal (.int (0)))) (xCons (xOp oIx (xVar 1) (xVal (.int (0)))) xNil)) xNil) (xCons (xCal (fun ds es => sel [.p 0, .p 1] ds [] es) s_less (xCons (xOp oIx (xVar 0) (xVal (.int (1)))) (xCons (xOp oIx (xVar 1) (xVal (.int (1)))) xNil)) xNil) xNil))))
def s_off : List D → Ms → R D := fnSem 2 b_off
def b_mate : Fo := (xRet (xTup (xCons (xOp oIx (xVar 0) (xVal (.int (0)))) (xCons (xCal (fun ds es => sel [.p 0, .p 1] ds [] es) s_less (xCons (xVal c_ZERO) (xCons (xOp oIx (xVar 0) (xVal (.int (1)))) xNil)) xNil) xNil))))
def s_mate : List D → Ms → R D := fnSem 1 b_mate
def b_made : Fo := (xSeq (xAsg (gT 2 (gCons (gN 2) (gCons (gN 3) gNil))) (xVar 0))
  (xSeq (xAsg (gT 2 (gCons (gN 4) (gCons (gN 5) gNil))) (xVar 1))
  (xRet (xTup (xCons (xCal (fun ds es => sel [.p 0, .p 1] ds [] es) s_less (xCons (xCal (fun ds es => sel [.p 0, .p 1] ds [] es) s_times (xCons (xVar 2) (xCons (xVar 4) xNil)) xNil) (xCons (xCal (fun ds es => sel [.p 0, .p 1] ds [] es) s_times (xCons (xVar 3) (xCons (xVar 5) xNil)) xNil) xNil)) xNil) (xCons (xCal (fun ds es => sel [.p 0, .p 1] ds [] es) s_plus (xCons (xCal (fun ds es => sel [.p 0, .p 1] ds [] es) s_times (xCons (xVar 2) (xCons (xVar 5) xNil)) xNil) (xCons (xCal (fun ds es => sel [.p 0, .p 1] ds [] es) s_times (xCons (xVar 3) (xCons (xVar 4) xNil)) xNil) xNil)) xNil) xNil))))))
def s_made : List D → Ms → R D := fnSem 6 b_made
def b_often : Fo := (xRet (xTup (xCons (xCal (fun ds es => sel [.p 0, .p 1] ds [] es) s_times (xCons (xOp oIx (xVar 0) (xVal (.int (0)))) (xCons (xVar 1) xNil)) xNil) (xCons (xCal (fun ds es => sel [.p 0, .p 1] ds [] es) s_times (xCons (xOp oIx (xVar 0) (xVal (.int (1)))) (xCons (xVar 1) xNil)) xNil) xNil))))
def s_often : List D → Ms → R D := fnSem 2 b_often
def b_weight : Fo := (xRet (xCal (fun ds es => sel [.p 0, .p 1] ds [] es) s_plus (xCons (xCal (fun ds es => sel [.p 0, .p 1] ds [] es) s_times (xCons (xOp oIx (xVar 0) (xVal (.int (0)))) (xCons (xOp oIx (xVar 0) (xVal (.int (0)))) xNil)) xNil) (xCons (xCal (fun ds es => sel [.p 0, .p 1] ds [] es) s_times (xCons (xOp oIx (xVar 0) (xVal (.int (1)))) (xCons (xOp oIx (xVar 0) (xVal (.int (1)))) xNil)) xNil) xNil)) xNil))
def s_weight : List D → Ms → R D := fnSem 1 b_weight
def b_parted : Fo := (xSeq (xIfS (xTest (xOp oEq (xVar 1) (xVal c_ORIGIN))) (xRaise 0 "BadPart" [] xNil) xPass)
  (xRet (xCal (fun ds es => sel [.p 0, .p 1] ds [] es) s_often (xCons (xCal (fun ds es => sel [.p 0, .p 1] ds [] es) s_made (xCons (xVar 0) (xCons (xCal (fun ds es => sel [.p 0] ds [] es) s_mate (xCons (xVar 1) xNil) xNil) xNil)) xNil) (xCons (xCal (fun ds es => sel [.p 0, .p 1] ds [] es) s_over (xCons (xVal c_ONE) (xCons (xCal (fun ds es => sel [.p 0] ds [] es) s_weight (xCons (xVar 1) xNil) xNil) xNil)) xNil) xNil)) xNil)))
def s_parted : List D → Ms → R D := fnSem 2 b_parted
def b_copied : Fo := (xSeq (xAsg (gT 2 (gCons (gN 1) (gCons (gN 2) gNil))) (xVar 0))
  (xRet (xTup (xCons (xCalB bTup (xCons (xVar 1) xNil)) (xCons (xCalB bTup (xCons (xVar 2) xNil)) xNil)))))
def s_copied : List D → Ms → R D := fnSem 3 b_copied
def b_entry : Fo := (xRet (xIf (xTest (xChain oLe oLt (xVal (.int (0))) (xVar 1) (xCalB bLen (xCons (xVar 0) xNil)))) (xOp oIx (xVar 0) (xVar 1)) (xVal c_ORIGIN)))
def s_entry : List D → Ms → R D := fnSem 2 b_entry
def v_grown_by_1 : Fn D := (xCal (fun ds es => sel [.p 0, .p 1] ds [] es) s_off (xCons (xCal (fun ds es => sel [.p 0, .p 1] ds [] es) s_entry (xCons (xVar 4) (xCons (xOp oSub (xVar 6) (xVal (.int (1)))) xNil)) xNil) (xCons (xCal (fun ds es => sel [.p 0, .p 1] ds [] es) s_made (xCons (xCal (fun ds es => sel [.p 0, .p 1] ds [] es) s_entry (xCons (xVar 5) (xCons (xVar 6) xNil)) xNil) (xCons (xCal (fun ds es => sel [.p 0] ds [] es) s_mate (xCons (xVar 1) xNil) xNil) xNil)) xNil) xNil)) xNil)
def v_grown_by_2 : Fn D := (xCal (fun ds es => sel [.p 0, .p 1] ds [] es) s_summed (xCons (xCal (fun ds es => sel [.p 0, .p 1] ds [] es) s_made (xCons (xCal (fun ds es => sel [.p 0, .p 1] ds [] es) s_entry (xCons (xVar 4) (xCons (xVar 6) xNil)) xNil) (xCons (xVar 1) xNil)) xNil) (xCons (xCal (fun ds es => sel [.p 0, .p 1] ds [] es) s_entry (xCons (xVar 5) (xCons (xOp oSub (xVar 6) (xVal (.int (1)))) xNil)) xNil) xNil)) xNil)
def b_grown_by : Fo := (xSeq (xAsg (gT 2 (gCons (gN 4) (gCons (gN 5) gNil))) (xVar 0))
  (xSeq (xAsg (gN 2) (xLc (xRng1 (xOp oAdd (xCalB bLen (xCons (xVar 4) xNil)) (xVal (.int (1))))) (gN 6) xYes v_grown_by_1 [6]))
  (xSeq (xAsg (gN 3) (xLc (xRng1 (xOp oAdd (xCalB bLen (xCons (xVar 5) xNil)) (xVal (.int (1))))) (gN 6) xYes v_grown_by_2 [6]))
  (xRet (xTup (xCons (xVar 2) (xCons (xVar 3) xNil)))))))
def s_grown_by : List D → Ms → R D := fnSem 7 b_grown_by
def w_whole_of_1 : Fo := (xAsg (gN 1) (xCal (fun ds es => sel [.p 0, .p 1] ds [] es) s_grown_by (xCons (xVar 1) (xCons (xVar 3) xNil)) xNil))
def b_whole_of : Fo := (xSeq (xAsg (gN 1) (xTup (xCons (xLst (xCons (xVal c_LONE) xNil)) (xCons (xLst xNil) xNil))))
  (xSeq (xFor (xIt (xVar 0)) (gT 2 (gCons (gN 2) (gCons (gN 3) gNil))) w_whole_of_1)
  (xRet (xVar 1))))
def s_whole_of : List D → Ms → R D := fnSem 4 b_whole_of
def b_Row_rods : Fo := (xRet (xCalB bList (xCons (xFld k_Row "lot" (xVar 0)) xNil)))
def s_Row_rods : List D → Ms → R D := fnSem 1 b_Row_rods
def b_whole : Fo := (xRet (xCal (fun ds es => sel [.p 0] ds [] es) s_whole_of (xCons (xMth k_Row "rods" (fun ds es => sel [.p 0] ds [] es) s_Row_rods (xVar 0) xNil xNil) xNil) xNil))
def s_whole : List D → Ms → R D := fnSem 1 b_whole
def v_is_name_1 : Fn D := (xOp oIn (xVar 1) (xVal c_LETTERS))
def b_is_name : Fo := (xRet (xAndV (xChain oLe oLe (xVal (.int (1))) (xCalB bLen (xCons (xVar 0) xNil)) (xVal c_MOST_NAME)) (xCalB bAll (xCons (xLc (xIt (xVar 0)) (gN 1) xYes v_is_name_1 [1]) xNil))))
def s_is_name : List D → Ms → R D := fnSem 2 b_is_name
def w_need_rods_1 : Fo := (xSeq (xIfS (xNot (xTest (xCal (fun ds es => sel [.p 0] ds [] es) s_is_name (xCons (xVar 3) xNil) xNil))) (xRaise 1 "BadName" ["name"] (xCons (xVar 3) xNil)) xPass)
  (xIfS (xTest (xOp oEq (xCal (fun ds es => sel [.p 0] ds [] es) s_copied (xCons (xVar 4) xNil) xNil) (xVal c_ORIGIN))) (xRaise 2 "Nought" ["at"] (xCons (xVar 2) xNil)) xPass))
def w_need_rods_2 : Fo := (xSeq (xIfS (xTest (xOp oIn (xVar 3) (xVar 1))) (xRaise 3 "Twice" ["name"] (xCons (xVar 3) xNil)) xPass)
  (xDrop (xMeth fAppend (xVar 1) (xCons (xVar 3) xNil))))
def b_need_rods : Fo := (xSeq (xFor (xEnumA (xVar 0)) (gT 2 (gCons (gN 2) (gCons (gT 2 (gCons (gN 3) (gCons (gN 4) gNil))) gNil))) w_need_rods_1)
  (xSeq (xAsg (gN 1) (xCel xNil))
  (xFor (xIt (xVar 0)) (gT 2 (gCons (gN 3) (gCons (gN 4) gNil))) w_need_rods_2)))
def s_need_rods : List D → Ms → R D := fnSem 5 b_need_rods
def b_exchanged : Fo := (xSeq (xAsg (gN 2) (xCal (fun ds es => sel [.p 0, .p 1] ds [] es) s_summed (xCons (xVar 0) (xCons (xVar 1) xNil)) xNil))
  (xSeq (xIfS (xTest (xOp oEq (xVar 2) (xVal c_ORIGIN))) (xRet (xVal .non)) xPass)
  (xSeq (xAsg (gN 3) (xCal (fun ds es => sel [.p 0, .p 1] ds [] es) s_parted (xCons (xVar 2) (xCons (xCal (fun ds es => sel [.p 0] ds [] es) s_mate (xCons (xVar 2) xNil) xNil) xNil)) xNil))
  (xRet (xTup (xCons (xCal (fun ds es => sel [.p 0, .p 1] ds [] es) s_made (xCons (xVar 3) (xCons (xCal (fun ds es => sel [.p 0] ds [] es) s_mate (xCons (xVar 1) xNil) xNil) xNil)) xNil) (xCons (xCal (fun ds es => sel [.p 0, .p 1] ds [] es) s_made (xCons (xVar 3) (xCons (xCal (fun ds es => sel [.p 0] ds [] es) s_mate (xCons (xVar 0) xNil) xNil) xNil)) xNil) xNil)))))))
def s_exchanged : List D → Ms → R D := fnSem 4 b_exchanged
def b_rods_traded : Fo := (xSeq (xPar 3 4 (xOp oIx (xVar 0) (xVar 1)) (xOp oIx (xVar 0) (xOp oAdd (xVar 1) (xVal (.int (1))))))
  (xSeq (xAsg (gN 2) (xCal (fun ds es => sel [.p 0, .p 1] ds [] es) s_exchanged (xCons (xOp oIx (xVar 3) (xVal (.int (1)))) (xCons (xOp oIx (xVar 4) (xVal (.int (1)))) xNil)) xNil))
  (xSeq (xIfS (xTest (xOp oIsN (xVar 2) (xVal .non))) (xRet (xVal .non)) xPass)
  (xRet (xOp oAdd (xOp oAdd (xSl (xVar 0) xNoP (xPart (xVar 1))) (xLst (xCons (xTup (xCons (xOp oIx (xVar 4) (xVal (.int (0)))) (xCons (xOp oIx (xVar 2) (xVal (.int (0)))) xNil))) (xCons (xTup (xCons (xOp oIx (xVar 3) (xVal (.int (0)))) (xCons (xOp oIx (xVar 2) (xVal (.int (1)))) xNil))) xNil)))) (xSl (xVar 0) (xPart (xOp oAdd (xVar 1) (xVal (.int (2))))) xNoP))))))
def s_rods_traded : List D → Ms → R D := fnSem 5 b_rods_traded
def w_corners_of_1 : Fo := (xDrop (xMeth fAppend (xVar 2) (xCons (xCal (fun ds es => sel [.p 0, .p 1] ds [] es) s_summed (xCons (xOp oIx (xVar 2) (xUn oNeg (xVal (.int (1))))) (xCons (xVar 4) xNil)) xNil) xNil)))
def b_corners_of : Fo := (xSeq (xAsg (gN 2) (xCel (xCons (xVar 1) xNil)))
  (xSeq (xFor (xIt (xVar 0)) (gT 2 (gCons (gN 3) (gCons (gN 4) gNil))) w_corners_of_1)
  (xRet (xVar 2))))
def s_corners_of : List D → Ms → R D := fnSem 5 b_corners_of
def b_l_box : Fo := (xRet (xCel (xCons (xCalB bList (xCons (xSl (xVar 0) xNoP (xPart (xVal (.int (63))))) xNil)) (xCons (xVal (.int (0))) (xCons (xVal (.int (0))) (xCons (xVal (.int (53))) (xCons (xVal (.int (0))) xNil)))))))
def s_l_box : List D → Ms → R D := fnSemC 1 b_l_box
def b_l_draw : Fo := (xSeq (xIfS (xAnd (xTest (xOp oLt (xOp oIx (xVar 0) (xVal (.int (2)))) (xVal (.int (1))))) (xTest (xOp oLt (xOp oIx (xVar 0) (xVal (.int (1)))) (xCalB bLen (xCons (xOp oIx (xVar 0) (xVal (.int (0)))) xNil))))) (xSeq (xAsg (gN 2) (xOp oIx (xOp oIx (xVar 0) (xVal (.int (0)))) (xOp oIx (xVar 0) (xVal (.int (1))))))
  (xSeq (xAsg (gS (xVar 0) (xVal (.int (1)))) (xOp oAdd (xOp oIx (xVar 0) (xVal (.int (1)))) (xVal (.int (1)))))
  (xSeq (xAsg (gS (xVar 0) (xVal (.int (2)))) (xCalB bMax (xCons (xVal (.int (0))) (xCons (xOp oSub (xVar 2) (xOp oPow (xVal (.int (10))) (xVal (.int (18))))) xNil))))
  (xAsg (gS (xVar 0) (xVal (.int (3)))) (xOp oMod (xOp oAdd (xOp oAdd (xOp oMul (xOp oIx (xVar 0) (xVal (.int (3)))) (xVal (.int (48271)))) (xOp oMul (xOp oMod (xVar 2) (xVal (.int (2147483629)))) (xVal (.int (7))))) (xVal (.int (11)))) (xVal (.int (2147483629)))))))) xPass)
  (xSeq (xIfS (xTest (xOp oGt (xOp oIx (xVar 0) (xVal (.int (2)))) (xVal (.int (0))))) (xSeq (xAsg (gN 3) (xOp oMod (xOp oIx (xVar 0) (xVal (.int (2)))) (xVar 1)))
  (xSeq (xAsg (gS (xVar 0) (xVal (.int (2)))) (xOp oDiv (xOp oIx (xVar 0) (xVal (.int (2)))) (xVar 1)))
  (xRet (xVar 3)))) xPass)
  (xSeq (xAsg (gS (xVar 0) (xVal (.int (4)))) (xOp oAdd (xOp oIx (xVar 0) (xVal (.int (4)))) (xVal (.int (1)))))
  (xSeq (xAsg (gS (xVar 0) (xVal (.int (3)))) (xOp oMod (xOp oAdd (xOp oAdd (xOp oPow (xOp oIx (xVar 0) (xVal (.int (3)))) (xVal (.int (3)))) (xOp oMul (xVal (.int (69621))) (xOp oIx (xVar 0) (xVal (.int (4)))))) (xVal (.int (9453)))) (xVal (.int (2147483629)))))
  (xRet (xOp oMod (xOp oDiv (xOp oIx (xVar 0) (xVal (.int (3)))) (xVal (.int (64)))) (xVar 1)))))))
def s_l_draw : List D → Ms → R D := fnSem 4 b_l_draw
def b_l_of : Fo := (xRet (xOp oIx (xVar 1) (xCal (fun ds es => sel [.p 0, .p 1] ds [] es) s_l_draw (xCons (xVar 0) (xCons (xCalB bLen (xCons (xVar 1) xNil)) xNil)) xNil)))
def s_l_of : List D → Ms → R D := fnSem 2 b_l_of
def w_l_names_1 : Fo := (xSeq (xAsg (gN 9) (xOp oIx (xVar 2) (xOp oMod (xOp oAdd (xVar 5) (xOp oMul (xVar 6) (xVar 4))) (xVal (.int (26))))))
  (xDrop (xMeth fAppend (xVar 3) (xCons (xOp oIx (xLst (xCons (xOp oAdd (xVar 9) (xVar 7)) (xCons (xOp oAdd (xVar 7) (xVar 9)) (xCons (xOp oAdd (xVar 9) (xOp oMul (xVar 7) (xOp oMod (xVar 4) (xVal (.int (2)))))) xNil)))) (xVar 8)) xNil))))
def b_l_names : Fo := (xSeq (xAsg (gN 2) (xVal (.str "abcdefghijklmnopqrstuvwxyz")))
  (xSeq (xPar 5 6 (xCal (fun ds es => sel [.p 0, .p 1] ds [] es) s_l_draw (xCons (xVar 0) (xCons (xVal (.int (26))) xNil)) xNil) (xCal (fun ds es => sel [.p 0, .p 1] ds [] es) s_l_of (xCons (xVar 0) (xCons (xLst (xCons (xVal (.int (1))) (xCons (xVal (.int (3))) (xCons (xVal (.int (5))) (xCons (xVal (.int (7))) (xCons (xVal (.int (9))) (xCons (xVal (.int (11))) xNil))))))) xNil)) xNil))
  (xSeq (xPar 7 8 (xCal (fun ds es => sel [.p 0, .p 1] ds [] es) s_l_of (xCons (xVar 0) (xCons (xLst (xCons (xVal (.str "")) (xCons (xVal (.str "q")) (xCons (xVal (.str "zz")) (xCons (xVal (.str "rod")) (xCons (xVal (.str "ended")) xNil)))))) xNil)) xNil) (xCal (fun ds es => sel [.p 0, .p 1] ds [] es) s_l_draw (xCons (xVar 0) (xCons (xVal (.int (3))) xNil)) xNil))
  (xSeq (xAsg (gN 3) (xCel xNil))
  (xSeq (xFor (xRng1 (xVar 1)) (gN 4) w_l_names_1)
  (xRet (xVar 3)))))))
def s_l_names : List D → Ms → R D := fnSem 10 b_l_names
def b_l_low : Fo := (xSeq (xPar 3 4 (xCalB bAbs (xCons (xVar 0) xNil)) (xCalB bAbs (xCons (xVar 1) xNil)))
  (xSeq (xWhile (xTest (xOp oNe (xVar 4) (xVal (.int (0))))) (xPar 3 4 (xVar 4) (xOp oMod (xVar 3) (xVar 4))))
  (xSeq (xAsg (gN 2) (xIf (xTest (xOp oGt (xVar 1) (xVal (.int (0))))) (xVal (.int (1))) (xUn oNeg (xVal (.int (1))))))
  (xRet (xTup (xCons (xOp oDiv (xOp oMul (xVar 2) (xVar 0)) (xVar 3)) (xCons (xOp oDiv (xOp oMul (xVar 2) (xVar 1)) (xVar 3)) xNil)))))))
def s_l_low : List D → Ms → R D := fnSem 5 b_l_low
def b_l_small : Fo := (xRet (xCal (fun ds es => sel [.p 0, .p 1] ds [] es) s_l_low (xCons (xOp oSub (xCal (fun ds es => sel [.p 0, .p 1] ds [] es) s_l_draw (xCons (xVar 0) (xCons (xVal (.int (13))) xNil)) xNil) (xVal (.int (6)))) (xCons (xCal (fun ds es => sel [.p 0, .p 1] ds [] es) s_l_of (xCons (xVar 0) (xCons (xLst (xCons (xVal (.int (1))) (xCons (xVal (.int (1))) (xCons (xVal (.int (1))) (xCons (xVal (.int (2))) (xCons (xVal (.int (3))) xNil)))))) xNil)) xNil) xNil)) xNil))
def s_l_small : List D → Ms → R D := fnSem 1 b_l_small
def b_l_spot : Fo := (xRet (xTup (xCons (xCal (fun ds es => sel [.p 0] ds [] es) s_l_small (xCons (xVar 0) xNil) xNil) (xCons (xCal (fun ds es => sel [.p 0] ds [] es) s_l_small (xCons (xVar 0) xNil) xNil) xNil))))
def s_l_spot : List D → Ms → R D := fnSem 1 b_l_spot
def b_l_arrow : Fo := (xSeq (xIfS (xTest (xOp oEq (xCal (fun ds es => sel [.p 0, .p 1] ds [] es) s_l_draw (xCons (xVar 0) (xCons (xVal (.int (3))) xNil)) xNil) (xVal (.int (0))))) (xSeq (xAsg (gT 2 (gCons (gN 2) (gCons (gN 3) gNil))) (xCal (fun ds es => sel [.p 0, .p 1] ds [] es) s_l_of (xCons (xVar 0) (xCons (xLst (xCons (xTup (xCons (xVal (.int (3))) (xCons (xVal (.int (4))) xNil))) (xCons (xTup (xCons (xVal (.int (4))) (xCons (xVal (.int (3))) xNil))) (xCons (xTup (xCons (xVal (.int (5))) (xCons (xVal (.int (0))) xNil))) (xCons (xTup (xCons (xVal (.int (0))) (xCons (xVal (.int (5))) xNil))) (xCons (xTup (xCons (xUn oNeg (xVal (.int (3)))) (xCons (xVal (.int (4))) xNil))) (xCons (xTup (xCons (xUn oNeg (xVal (.int (5)))) (xCons (xVal (.int (0))) xNil))) (xCons (xTup (xCons (xVal (.int (4))) (xCons (xUn oNeg (xVal (.int (3)))) xNil))) (xCons (xTup (xCons (xVal (.int (0))) (xCons (xUn oNeg (xVal (.int (5)))) xNil))) (xCons (xTup (xCons (xVal (.int (1))) (xCons (xVal (.int (0))) xNil))) (xCons (xTup (xCons (xUn oNeg (xVal (.int (1)))) (xCons (xVal (.int (0))) xNil))) xNil))))))))))) xNil)) xNil))
  (xRet (xTup (xCons (xTup (xCons (xVar 2) (xCons (xVal (.int (1))) xNil))) (xCons (xTup (xCons (xVar 3) (xCons (xVal (.int (1))) xNil))) xNil))))) xPass)
  (xSeq (xAsg (gN 1) (xCal (fun ds es => sel [.p 0] ds [] es) s_l_spot (xCons (xVar 0) xNil) xNil))
  (xRet (xIf (xTest (xOp oNe (xVar 1) (xTup (xCons (xTup (xCons (xVal (.int (0))) (xCons (xVal (.int (1))) xNil))) (xCons (xTup (xCons (xVal (.int (0))) (xCons (xVal (.int (1))) xNil))) xNil))))) (xVar 1) (xTup (xCons (xTup (xCons (xVal (.int (2))) (xCons (xVal (.int (1))) xNil))) (xCons (xTup (xCons (xVal (.int (0))) (xCons (xVal (.int (1))) xNil))) xNil)))))))
def s_l_arrow : List D → Ms → R D := fnSem 4 b_l_arrow
def v_l_rods_1 : Fn D := (xTup (xCons (xVar 6) (xCons (xCal (fun ds es => sel [.p 0] ds [] es) s_l_arrow (xCons (xVar 0) xNil) xNil) xNil)))
def z_l_rods_1 : Fo := (xIfS (xAnd (xTest (xOp oGt (xCalB bLen (xCons (xVar 4) xNil)) (xVal (.int (1))))) (xTest (xOp oEq (xCal (fun ds es => sel [.p 0, .p 1] ds [] es) s_l_draw (xCons (xVar 0) (xCons (xVal (.int (6))) xNil)) xNil) (xVal (.int (0)))))) (xSeq (xAsg (gN 5) (xOp oAdd (xVal (.int (1))) (xCal (fun ds es => sel [.p 0, .p 1] ds [] es) s_l_draw (xCons (xVar 0) (xCons (xOp oSub (xCalB bLen (xCons (xVar 4) xNil)) (xVal (.int (1)))) xNil)) xNil)))
  (xSeq (xAsg (gT 2 (gCons (gN 7) (gCons (gN 8) gNil))) (xOp oIx (xOp oIx (xVar 4) (xCal (fun ds es => sel [.p 0, .p 1] ds [] es) s_l_draw (xCons (xVar 0) (xCons (xVar 5) xNil)) xNil)) (xVal (.int (1)))))
  (xAsg (gS (xVar 4) (xVar 5)) (xTup (xCons (xOp oIx (xOp oIx (xVar 4) (xVar 5)) (xVal (.int (0)))) (xCons (xTup (xCons (xTup (xCons (xOp oSub (xVal (.int (0))) (xOp oIx (xVar 7) (xVal (.int (0))))) (xCons (xOp oIx (xVar 7) (xVal (.int (1)))) xNil))) (xCons (xTup (xCons (xOp oSub (xVal (.int (0))) (xOp oIx (xVar 8) (xVal (.int (0))))) (xCons (xOp oIx (xVar 8) (xVal (.int (1)))) xNil))) xNil))) xNil)))))) xPass)
def b_l_rods : Fo := (xSeq (xAsg (gN 3) (xCal (fun ds es => sel [.p 0, .p 1] ds [] es) s_l_names (xCons (xVar 0) (xCons (xOp oAdd (xVar 1) (xCal (fun ds es => sel [.p 0, .p 1] ds [] es) s_l_draw (xCons (xVar 0) (xCons (xOp oAdd (xOp oSub (xVar 2) (xVar 1)) (xVal (.int (1)))) xNil)) xNil)) xNil)) xNil))
  (xSeq (xAsg (gN 4) (xLcC (xIt (xVar 3)) (gN 6) xYes v_l_rods_1 [6]))
  (xSeq z_l_rods_1
  (xRet (xVar 4)))))
def s_l_rods : List D → Ms → R D := fnSem 9 b_l_rods
def b_l_like (rec : List D → Ms → R D) : Fo := (xSeq (xIfS (xTest (xIsi2 "list" "tuple" (xVar 1))) (xSeq (xIfS (xOr (xTest (xOp oNe (xIsi "list" (xVar 0)) (xIsi "list" (xVar 1)))) (xTest (xOp oNe (xIsi "tuple" (xVar 0)) (xIsi "tuple" (xVar 1))))) (xRet (xVal (.bl false))) xPass)
  (xRet (xAndV (xOp oEq (xCalB bLen (xCons (xVar 0) xNil)) (xCalB bLen (xCons (xVar 1) xNil))) (xCalB bAll (xCons (xLc (xRng1 (xCalB bLen (xCons (xVar 1) xNil))) (gN 2) xYes (xCal (fun ds es => sel [.p 0, .p 1] ds [] es) rec (xCons (xOp oIx (xVar 0) (xVar 2)) (xCons (xOp oIx (xVar 1) (xVar 2)) xNil)) xNil) [2]) xNil))))) xPass)
  (xSeq (xIfS (xOr (xTest (xOp oNe (xIsi "bool" (xVar 0)) (xIsi "bool" (xVar 1)))) (xTest (xOp oNe (xIsi "int" (xVar 0)) (xIsi "int" (xVar 1))))) (xRet (xVal (.bl false))) xPass)
  (xRet (xAndV (xOp oEq (xIsi "str" (xVar 0)) (xIsi "str" (xVar 1))) (xOp oEq (xVar 0) (xVar 1))))))
def s_l_like : Nat → List D → Ms → R D
  | 0 => fun _ _ => .bad
  | n + 1 => fnSem 3 (b_l_like (s_l_like n))
def v_Row___init_1 : Fn D := (xTup (xCons (xVar 3) (xCons (xCal (fun ds es => sel [.p 0] ds [] es) s_copied (xCons (xVar 4) xNil) xNil) xNil)))
def b_Row___init : Fo := (xSeq (xIfS (xNot (xTest (xChain oLe oLe (xVal (.int (1))) (xCalB bLen (xCons (xVar 1) xNil)) (xVal c_MOST_RODS)))) (xRaise 4 "BadRow" ["many"] (xCons (xCalB bLen (xCons (xVar 1) xNil)) xNil)) xPass)
  (xSeq (xDrop (xCal (fun ds es => sel [.p 0] ds [] es) s_need_rods (xCons (xVar 1) xNil) xNil))
  (xSeq (xPutF k_Row "lot" (xVar 0) (xLc (xIt (xVar 1)) (gT 2 (gCons (gN 3) (gCons (gN 4) gNil))) xYes v_Row___init_1 [3, 4]))
  (xPutF k_Row "first" (xVar 0) (xCal (fun ds es => sel [.p 0] ds [] es) s_copied (xCons (xVar 2) xNil) xNil)))))
def s_Row___init : List D → Ms → R D := fnSem 5 b_Row___init
def b_Row_corners : Fo := (xRet (xCal (fun ds es => sel [.p 0, .p 1] ds [] es) s_corners_of (xCons (xFld k_Row "lot" (xVar 0)) (xCons (xFld k_Row "first" (xVar 0)) xNil)) xNil))
def s_Row_corners : List D → Ms → R D := fnSem 1 b_Row_corners
def b_Row_end : Fo := (xRet (xOp oIx (xMth k_Row "corners" (fun ds es => sel [.p 0] ds [] es) s_Row_corners (xVar 0) xNil xNil) (xUn oNeg (xVal (.int (1))))))
def s_Row_end : List D → Ms → R D := fnSem 1 b_Row_end
def v_Row_names_1 : Fn D := (xVar 1)
def b_Row_names : Fo := (xRet (xLc (xIt (xFld k_Row "lot" (xVar 0))) (gT 2 (gCons (gN 1) (gCons (gN 2) gNil))) xYes v_Row_names_1 [1, 2]))
def s_Row_names : List D → Ms → R D := fnSem 3 b_Row_names
def b_Row_traded : Fo := (xSeq (xIfS (xNot (xTest (xChain oLe oLt (xVal (.int (1))) (xVar 1) (xCalB bLen (xCons (xFld k_Row "lot" (xVar 0)) xNil))))) (xRaise 5 "BadCorner" ["at"] (xCons (xVar 1) xNil)) xPass)
  (xSeq (xAsg (gN 2) (xCal (fun ds es => sel [.p 0, .p 1] ds [] es) s_rods_traded (xCons (xFld k_Row "lot" (xVar 0)) (xCons (xOp oSub (xVar 1) (xVal (.int (1)))) xNil)) xNil))
  (xSeq (xIfS (xTest (xOp oIsN (xVar 2) (xVal .non))) (xRaise 6 "Flat" ["at"] (xCons (xVar 1) xNil)) xPass)
  (xRet (xMake k_Row (fun ds es => sel [.p 0, .p 1, .k 0] ds [] es) s_Row___init (xCons (xVar 2) xNil) (xCons (xFld k_Row "first" (xVar 0)) xNil))))))
def s_Row_traded : List D → Ms → R D := fnSem 3 b_Row_traded
def v_Row_weights_1 : Fn D := (xCal (fun ds es => sel [.p 0] ds [] es) s_weight (xCons (xVar 2) xNil) xNil)
def b_Row_weights : Fo := (xRet (xLc (xIt (xFld k_Row "lot" (xVar 0))) (gT 2 (gCons (gN 1) (gCons (gN 2) gNil))) xYes v_Row_weights_1 [1, 2]))
def s_Row_weights : List D → Ms → R D := fnSem 3 b_Row_weights
def b_Row___len : Fo := (xRet (xCalB bLen (xCons (xFld k_Row "lot" (xVar 0)) xNil)))
def s_Row___len : List D → Ms → R D := fnSem 1 b_Row___len
def v_law_1 : Fn D := (xTup (xCons (xVar 9) (xCons (xOp oIx (xMth k_Row "weights" (fun ds es => sel [.p 0] ds [] es) s_Row_weights (xVar 3) xNil xNil) (xIdx (xMth k_Row "names" (fun ds es => sel [.p 0] ds [] es) s_Row_names (xVar 3) xNil xNil) (xCons (xVar 9) xNil))) xNil)))
def y_law_1 : Fn D := (xMth k_Row "traded" (fun ds es => sel [.p 0, .p 1] ds [] es) s_Row_traded (xVar 3) (xCons (xOp oAdd (xVal (.int (1))) (xCal (fun ds es => sel [.p 0, .p 1] ds [] es) s_l_draw (xCons (xVar 1) (xCons (xOp oSub (xLenO k_Row s_Row___len (xCons (xVar 3) xNil)) (xVal (.int (1)))) xNil)) xNil)) xNil) xNil)
def v_law_2 : Fn D := (xTup (xCons (xVar 9) (xCons (xOp oIx (xMth k_Row "weights" (fun ds es => sel [.p 0] ds [] es) s_Row_weights (xVar 3) xNil xNil) (xIdx (xMth k_Row "names" (fun ds es => sel [.p 0] ds [] es) s_Row_names (xVar 3) xNil xNil) (xCons (xVar 9) xNil))) xNil)))
def w_law_1 : Fo := (xSeq (xAsg (gN 8) (xTry nCx hdx y_law_1))
  (xSeq (xAsg (gN 3) (xIf (xTest (xOp oEq (xOp oIx (xVar 8) (xVal (.int (0)))) (xVal (.str "told")))) (xOp oIx (xVar 8) (xVal (.int (1)))) (xVar 3)))
  (xSeq (xIfS (xNot (xTest (xCal (fun ds es => sel [.p 0, .p 1] ds [] es) (s_l_like 6) (xCons (xLst (xCons (xCal (fun ds es => sel [.p 0] ds [] es) s_whole (xCons (xVar 3) xNil) xNil) (xCons (xMth k_Row "end" (fun ds es => sel [.p 0] ds [] es) s_Row_end (xVar 3) xNil xNil) xNil))) (xCons (xLst (xCons (xVar 6) (xCons (xVar 7) xNil))) xNil)) xNil))) (xRet (xVal (.bl false))) xPass)
  (xIfS (xTest (xOp oNe (xCalB bSortG (xCons (xLc (xIt (xMth k_Row "names" (fun ds es => sel [.p 0] ds [] es) s_Row_names (xVar 3) xNil xNil)) (gN 9) xYes v_law_2 [9]) xNil)) (xVar 4))) (xRet (xVal (.bl false))) xPass))))
def w_law_2 : Fo := (xSeq (xAsg (gN 3) (xMake k_Row (fun ds es => sel [.p 0, .p 1, .k 0] ds [] es) s_Row___init (xCons (xCal (fun ds es => sel [.p 0, .p 1, .p 2] ds [] es) s_l_rods (xCons (xVar 1) (xCons (xVal (.int (2))) (xCons (xVal (.int (8))) xNil))) xNil) xNil) (xCons (xCal (fun ds es => sel [.p 0] ds [] es) s_l_spot (xCons (xVar 1) xNil) xNil) xNil)))
  (xSeq (xPar 6 7 (xCal (fun ds es => sel [.p 0] ds [] es) s_whole (xCons (xVar 3) xNil) xNil) (xMth k_Row "end" (fun ds es => sel [.p 0] ds [] es) s_Row_end (xVar 3) xNil xNil))
  (xSeq (xAsg (gN 4) (xCalB bSortG (xCons (xLc (xIt (xMth k_Row "names" (fun ds es => sel [.p 0] ds [] es) s_Row_names (xVar 3) xNil xNil)) (gN 9) xYes v_law_1 [9]) xNil)))
  (xFor (xRng1 (xVal (.int (10)))) (gN 5) w_law_1))))
def b_law : Fo := (xSeq (xAsg (gN 1) (xCal (fun ds es => sel [.p 0] ds [] es) s_l_box (xCons (xVar 0) xNil) xNil))
  (xSeq (xFor (xRng1 (xVal (.int (2)))) (gN 2) w_law_2)
  (xRet (xVal (.bl true)))))
def s_law : List D → Ms → R D := fnSem 10 b_law
end
structure Txt (G : Lc) (fa : Nat → Addr) (fd : Nat → FuncData) (cL PL : Addr) : Prop where
  X_BadPart : ExX G "BadPart" (G.K.ct 0) 0 "BadPart" []
  X_BadName : ExX G "BadName" (G.K.ct 1) 1 "BadName" ["name"]
  X_Nought : ExX G "Nought" (G.K.ct 2) 2 "Nought" ["at"]
  X_Twice : ExX G "Twice" (G.K.ct 3) 3 "Twice" ["name"]
  X_BadRow : ExX G "BadRow" (G.K.ct 4) 4 "BadRow" ["many"]
  X_BadCorner : ExX G "BadCorner" (G.K.ct 5) 5 "BadCorner" ["at"]
  X_Flat : ExX G "Flat" (G.K.ct 6) 6 "Flat" ["at"]
  tried : TrX G "_law_tried" "_law_act" "e" t_l_tried nCx hdx
  tb : LamX.TabB G.base G.mg cL PL
  tT : G.K.T = [(PL, ("law" : Str) ++ Str.ofString ".<locals>." ++ Str.ofString "<lambda>")]
  cd0 : G.cd = none
  CL_Row : ClX G "Row" (G.K.ct k_Row) k_Row
  A_Row_lot : NoAttr G.K.K (G.K.ct k_Row) "lot"
  A_Row_first : NoAttr G.K.K (G.K.ct k_Row) "first"
  F_wall : FunX G "_wall" t_wall [] [] (fa 0) (fd 0)
  m_wall : G.mg "_wall" = some (.ref (fa 0))
  F_shared_by : FunX G "shared_by" t_shared_by [] [] (fa 1) (fd 1)
  m_shared_by : G.mg "shared_by" = some (.ref (fa 1))
  F_part : FunX G "part" t_part [(.int (1))] [] (fa 2) (fd 2)
  m_part : G.mg "part" = some (.ref (fa 2))
  F_plus : FunX G "plus" t_plus [] [] (fa 3) (fd 3)
  m_plus : G.mg "plus" = some (.ref (fa 3))
  F_less : FunX G "less" t_less [] [] (fa 4) (fd 4)
  m_less : G.mg "less" = some (.ref (fa 4))
  F_times : FunX G "times" t_times [] [] (fa 5) (fd 5)
  m_times : G.mg "times" = some (.ref (fa 5))
  F_over : FunX G "over" t_over [] [] (fa 6) (fd 6)
  m_over : G.mg "over" = some (.ref (fa 6))
  F_summed : FunX G "summed" t_summed [] [] (fa 7) (fd 7)
  m_summed : G.mg "summed" = some (.ref (fa 7))
  F_off : FunX G "off" t_off [] [] (fa 8) (fd 8)
  m_off : G.mg "off" = some (.ref (fa 8))
  F_mate : FunX G "mate" t_mate [] [] (fa 9) (fd 9)
  m_mate : G.mg "mate" = some (.ref (fa 9))
  F_made : FunX G "made" t_made [] [] (fa 10) (fd 10)
  m_made : G.mg "made" = some (.ref (fa 10))
  F_often : FunX G "often" t_often [] [] (fa 11) (fd 11)
  m_often : G.mg "often" = some (.ref (fa 11))
  F_weight : FunX G "weight" t_weight [] [] (fa 12) (fd 12)
  m_weight : G.mg "weight" = some (.ref (fa 12))
  F_parted : FunX G "parted" t_parted [] [] (fa 13) (fd 13)
  m_parted : G.mg "parted" = some (.ref (fa 13))
  F_copied : FunX G "copied" t_copied [] [] (fa 14) (fd 14)
  m_copied : G.mg "copied" = some (.ref (fa 14))
  F_entry : FunX G "entry" t_entry [] [] (fa 15) (fd 15)
  m_entry : G.mg "entry" = some (.ref (fa 15))
  F_grown_by : FunX G "grown_by" t_grown_by [] [] (fa 16) (fd 16)
  m_grown_by : G.mg "grown_by" = some (.ref (fa 16))
  F_whole_of : FunX G "whole_of" t_whole_of [] [] (fa 17) (fd 17)
  m_whole_of : G.mg "whole_of" = some (.ref (fa 17))
  F_Row_rods : FunQ G "rods" "Row.rods" t_Row_rods [] [] (fa 18) (fd 18)
  M_Row_rods : Meth G.K.K (G.K.ct k_Row) "rods" (fa 18)
  F_whole : FunX G "whole" t_whole [] [] (fa 19) (fd 19)
  m_whole : G.mg "whole" = some (.ref (fa 19))
  F_is_name : FunX G "is_name" t_is_name [] [] (fa 20) (fd 20)
  m_is_name : G.mg "is_name" = some (.ref (fa 20))
  F_need_rods : FunX G "need_rods" t_need_rods [] [] (fa 21) (fd 21)
  m_need_rods : G.mg "need_rods" = some (.ref (fa 21))
  F_exchanged : FunX G "exchanged" t_exchanged [] [] (fa 22) (fd 22)
  m_exchanged : G.mg "exchanged" = some (.ref (fa 22))
  F_rods_traded : FunX G "rods_traded" t_rods_traded [] [] (fa 23) (fd 23)
  m_rods_traded : G.mg "rods_traded" = some (.ref (fa 23))
  F_corners_of : FunX G "corners_of" t_corners_of [] [] (fa 24) (fd 24)
  m_corners_of : G.mg "corners_of" = some (.ref (fa 24))
  F_l_box : FunX G "_law_box" t_l_box [] [] (fa 25) (fd 25)
  m_l_box : G.mg "_law_box" = some (.ref (fa 25))
  F_l_draw : FunX G "_law_draw" t_l_draw [] [] (fa 26) (fd 26)
  m_l_draw : G.mg "_law_draw" = some (.ref (fa 26))
  F_l_of : FunX G "_law_of" t_l_of [] [] (fa 27) (fd 27)
  m_l_of : G.mg "_law_of" = some (.ref (fa 27))
  F_l_names : FunX G "_law_names" t_l_names [] [] (fa 28) (fd 28)
  m_l_names : G.mg "_law_names" = some (.ref (fa 28))
  F_l_low : FunX G "_law_low" t_l_low [] [] (fa 29) (fd 29)
  m_l_low : G.mg "_law_low" = some (.ref (fa 29))
  F_l_small : FunX G "_law_small" t_l_small [] [] (fa 30) (fd 30)
  m_l_small : G.mg "_law_small" = some (.ref (fa 30))
  F_l_spot : FunX G "_law_spot" t_l_spot [] [] (fa 31) (fd 31)
  m_l_spot : G.mg "_law_spot" = some (.ref (fa 31))
  F_l_arrow : FunX G "_law_arrow" t_l_arrow [] [] (fa 32) (fd 32)
  m_l_arrow : G.mg "_law_arrow" = some (.ref (fa 32))
  F_l_rods : FunX G "_law_rods" t_l_rods [] [] (fa 33) (fd 33)
  m_l_rods : G.mg "_law_rods" = some (.ref (fa 33))
  F_l_like : FunX G "_law_like" t_l_like [] [] (fa 34) (fd 34)
  m_l_like : G.mg "_law_like" = some (.ref (fa 34))
  F_Row___init : FunQ G "__init__" "Row.__init__" t_Row___init [] [("start", (.tup [(.tup [(.int (0)), (.int (1))]), (.tup [(.int (0)), (.int (1))])]))] (fa 35) (fd 35)
  M_Row___init : Mk G.K.K (G.K.ct k_Row) (fa 35)
  F_Row_corners : FunQ G "corners" "Row.corners" t_Row_corners [] [] (fa 36) (fd 36)
  M_Row_corners : Meth G.K.K (G.K.ct k_Row) "corners" (fa 36)
  F_Row_end : FunQ G "end" "Row.end" t_Row_end [] [] (fa 37) (fd 37)
  M_Row_end : Meth G.K.K (G.K.ct k_Row) "end" (fa 37)
  F_Row_names : FunQ G "names" "Row.names" t_Row_names [] [] (fa 38) (fd 38)
  M_Row_names : Meth G.K.K (G.K.ct k_Row) "names" (fa 38)
  F_Row_traded : FunQ G "traded" "Row.traded" t_Row_traded [] [] (fa 39) (fd 39)
  M_Row_traded : Meth G.K.K (G.K.ct k_Row) "traded" (fa 39)
  F_Row_weights : FunQ G "weights" "Row.weights" t_Row_weights [] [] (fa 40) (fd 40)
  M_Row_weights : Meth G.K.K (G.K.ct k_Row) "weights" (fa 40)
  F_Row___len : FunQ G "__len__" "Row.__len__" t_Row___len [] [] (fa 41) (fd 41)
  M_Row___len : Meth G.K.K (G.K.ct k_Row) "__len__" (fa 41)
  L_law : ∃ (oc dV kV doc pm ct : Value) (od an : Option Addr) (osl : Array (Option Value)), G.K.K.lookup (fa 42) = some ⟨oc, od, .func (fd 42), osl⟩ ∧ fd 42 = PySem.W.fnOf "law" "law" (defArgs t_law) (defBody t_law) (defScope t_law) dV kV doc pm an (.ref cL) ct ∧ PySem.W.codeIn G.K.K (.ref cL) "law" = true ∧ PySem.W.keepIn G.K.K (.ref (fa 42)) = true
  m_law : G.mg "law" = some (.ref (fa 42))
  n_abs : G.mg "abs" = none
  n_all : G.mg "all" = none
  n_bool : G.mg "bool" = none
  n_enumerate : G.mg "enumerate" = none
  n_int : G.mg "int" = none
  n_isinstance : G.mg "isinstance" = none
  n_len : G.mg "len" = none
  n_list : G.mg "list" = none
  n_max : G.mg "max" = none
  n_range : G.mg "range" = none
  n_sorted : G.mg "sorted" = none
  n_str : G.mg "str" = none
  n_tuple : G.mg "tuple" = none
  c_ZERO : Gcon G "ZERO" c_ZERO
  c_ORIGIN : Gcon G "ORIGIN" c_ORIGIN
  c_ONE : Gcon G "ONE" c_ONE
  c_LONE : Gcon G "LONE" c_LONE
  c_MOST_NAME : Gcon G "MOST_NAME" c_MOST_NAME
  c_LETTERS : Gcon G "LETTERS" c_LETTERS
  c_MOST_RODS : Gcon G "MOST_RODS" c_MOST_RODS
section
variable {G : Lc} {fa : Nat → Addr} {fd : Nat → FuncData} {cL PL : Addr}
theorem kb_0_shared_by (T : Txt G fa fd cL PL) : KB G (fd 1) ["one", "other"] 2 [] (fun ds es => sel [.p 0, .p 1] ds [] es) := kbx T.F_shared_by (by decide) rfl (fun _ _ _ _ _ _ us ws h1 h2 => match us, ws, h1, h2 with | [_, _], [], _, _ => rfl)
theorem kb_1_part (T : Txt G fa fd cL PL) : KB G (fd 2) ["over", "under"] 2 [] (fun ds es => sel [.p 0, .p 1] ds [(.int (1))] es) := kbx_d T.F_part (by simp) (by decide) rfl (fun _ _ _ _ _ _ _ us its ws h1 h2 h3 => match us, its, ws, h1, h2, h3 with | [_, _], [_], [], _, _, _ => ⟨_, rfl, rfl⟩)
theorem kb_2_plus (T : Txt G fa fd cL PL) : KB G (fd 3) ["one", "other"] 2 [] (fun ds es => sel [.p 0, .p 1] ds [] es) := kbx T.F_plus (by decide) rfl (fun _ _ _ _ _ _ us ws h1 h2 => match us, ws, h1, h2 with | [_, _], [], _, _ => rfl)
theorem kb_3_less (T : Txt G fa fd cL PL) : KB G (fd 4) ["one", "other"] 2 [] (fun ds es => sel [.p 0, .p 1] ds [] es) := kbx T.F_less (by decide) rfl (fun _ _ _ _ _ _ us ws h1 h2 => match us, ws, h1, h2 with | [_, _], [], _, _ => rfl)
theorem kb_4_times (T : Txt G fa fd cL PL) : KB G (fd 5) ["one", "other"] 2 [] (fun ds es => sel [.p 0, .p 1] ds [] es) := kbx T.F_times (by decide) rfl (fun _ _ _ _ _ _ us ws h1 h2 => match us, ws, h1, h2 with | [_, _], [], _, _ => rfl)
theorem kb_5_often (T : Txt G fa fd cL PL) : KB G (fd 11) ["one", "many"] 2 [] (fun ds es => sel [.p 0, .p 1] ds [] es) := kbx T.F_often (by decide) rfl (fun _ _ _ _ _ _ us ws h1 h2 => match us, ws, h1, h2 with | [_, _], [], _, _ => rfl)
theorem kb_6_over (T : Txt G fa fd cL PL) : KB G (fd 6) ["one", "other"] 2 [] (fun ds es => sel [.p 0, .p 1] ds [] es) := kbx T.F_over (by decide) rfl (fun _ _ _ _ _ _ us ws h1 h2 => match us, ws, h1, h2 with | [_, _], [], _, _ => rfl)
theorem kb_7_weight (T : Txt G fa fd cL PL) : KB G (fd 12) ["one"] 1 [] (fun ds es => sel [.p 0] ds [] es) := kbx T.F_weight (by decide) rfl (fun _ _ _ _ _ _ us ws h1 h2 => match us, ws, h1, h2 with | [_], [], _, _ => rfl)
theorem kb_8_made (T : Txt G fa fd cL PL) : KB G (fd 10) ["one", "other"] 2 [] (fun ds es => sel [.p 0, .p 1] ds [] es) := kbx T.F_made (by decide) rfl (fun _ _ _ _ _ _ us ws h1 h2 => match us, ws, h1, h2 with | [_, _], [], _, _ => rfl)
theorem kb_9_mate (T : Txt G fa fd cL PL) : KB G (fd 9) ["one"] 1 [] (fun ds es => sel [.p 0] ds [] es) := kbx T.F_mate (by decide) rfl (fun _ _ _ _ _ _ us ws h1 h2 => match us, ws, h1, h2 with | [_], [], _, _ => rfl)
theorem kb_10_off (T : Txt G fa fd cL PL) : KB G (fd 8) ["one", "other"] 2 [] (fun ds es => sel [.p 0, .p 1] ds [] es) := kbx T.F_off (by decide) rfl (fun _ _ _ _ _ _ us ws h1 h2 => match us, ws, h1, h2 with | [_, _], [], _, _ => rfl)
theorem kb_11_entry (T : Txt G fa fd cL PL) : KB G (fd 15) ["row", "at"] 2 [] (fun ds es => sel [.p 0, .p 1] ds [] es) := kbx T.F_entry (by decide) rfl (fun _ _ _ _ _ _ us ws h1 h2 => match us, ws, h1, h2 with | [_, _], [], _, _ => rfl)
theorem kb_12_summed (T : Txt G fa fd cL PL) : KB G (fd 7) ["one", "other"] 2 [] (fun ds es => sel [.p 0, .p 1] ds [] es) := kbx T.F_summed (by decide) rfl (fun _ _ _ _ _ _ us ws h1 h2 => match us, ws, h1, h2 with | [_, _], [], _, _ => rfl)
theorem kb_13_grown_by (T : Txt G fa fd cL PL) : KB G (fd 16) ["whole", "z"] 2 [] (fun ds es => sel [.p 0, .p 1] ds [] es) := kbx T.F_grown_by (by decide) rfl (fun _ _ _ _ _ _ us ws h1 h2 => match us, ws, h1, h2 with | [_, _], [], _, _ => rfl)
theorem kb_14_whole_of (T : Txt G fa fd cL PL) : KB G (fd 17) ["rods"] 1 [] (fun ds es => sel [.p 0] ds [] es) := kbx T.F_whole_of (by decide) rfl (fun _ _ _ _ _ _ us ws h1 h2 => match us, ws, h1, h2 with | [_], [], _, _ => rfl)
theorem kb_15_Row_rods (T : Txt G fa fd cL PL) : KB G (fd 18) ["self"] 1 [] (fun ds es => sel [.p 0] ds [] es) := kbxQ T.F_Row_rods (by decide) rfl (fun _ _ _ _ _ _ us ws h1 h2 => match us, ws, h1, h2 with | [_], [], _, _ => rfl)
theorem kb_16_is_name (T : Txt G fa fd cL PL) : KB G (fd 20) ["text"] 1 [] (fun ds es => sel [.p 0] ds [] es) := kbx T.F_is_name (by decide) rfl (fun _ _ _ _ _ _ us ws h1 h2 => match us, ws, h1, h2 with | [_], [], _, _ => rfl)
theorem kb_17_copied (T : Txt G fa fd cL PL) : KB G (fd 14) ["one"] 1 [] (fun ds es => sel [.p 0] ds [] es) := kbx T.F_copied (by decide) rfl (fun _ _ _ _ _ _ us ws h1 h2 => match us, ws, h1, h2 with | [_], [], _, _ => rfl)
theorem kb_18_parted (T : Txt G fa fd cL PL) : KB G (fd 13) ["one", "other"] 2 [] (fun ds es => sel [.p 0, .p 1] ds [] es) := kbx T.F_parted (by decide) rfl (fun _ _ _ _ _ _ us ws h1 h2 => match us, ws, h1, h2 with | [_, _], [], _, _ => rfl)
theorem kb_19_exchanged (T : Txt G fa fd cL PL) : KB G (fd 22) ["one", "other"] 2 [] (fun ds es => sel [.p 0, .p 1] ds [] es) := kbx T.F_exchanged (by decide) rfl (fun _ _ _ _ _ _ us ws h1 h2 => match us, ws, h1, h2 with | [_, _], [], _, _ => rfl)
theorem kb_20_l_draw (T : Txt G fa fd cL PL) : KB G (fd 26) ["_law_box_here", "_law_many"] 2 [] (fun ds es => sel [.p 0, .p 1] ds [] es) := kbx T.F_l_draw (by decide) rfl (fun _ _ _ _ _ _ us ws h1 h2 => match us, ws, h1, h2 with | [_, _], [], _, _ => rfl)
theorem kb_21_l_of (T : Txt G fa fd cL PL) : KB G (fd 27) ["_law_box_here", "_law_some"] 2 [] (fun ds es => sel [.p 0, .p 1] ds [] es) := kbx T.F_l_of (by decide) rfl (fun _ _ _ _ _ _ us ws h1 h2 => match us, ws, h1, h2 with | [_, _], [], _, _ => rfl)
theorem kb_22_l_low (T : Txt G fa fd cL PL) : KB G (fd 29) ["_law_above", "_law_beneath"] 2 [] (fun ds es => sel [.p 0, .p 1] ds [] es) := kbx T.F_l_low (by decide) rfl (fun _ _ _ _ _ _ us ws h1 h2 => match us, ws, h1, h2 with | [_, _], [], _, _ => rfl)
theorem kb_23_l_small (T : Txt G fa fd cL PL) : KB G (fd 30) ["_law_box_here"] 1 [] (fun ds es => sel [.p 0] ds [] es) := kbx T.F_l_small (by decide) rfl (fun _ _ _ _ _ _ us ws h1 h2 => match us, ws, h1, h2 with | [_], [], _, _ => rfl)
theorem kb_24_l_spot (T : Txt G fa fd cL PL) : KB G (fd 31) ["_law_box_here"] 1 [] (fun ds es => sel [.p 0] ds [] es) := kbx T.F_l_spot (by decide) rfl (fun _ _ _ _ _ _ us ws h1 h2 => match us, ws, h1, h2 with | [_], [], _, _ => rfl)
theorem kb_25_l_names (T : Txt G fa fd cL PL) : KB G (fd 28) ["_law_box_here", "_law_many"] 2 [] (fun ds es => sel [.p 0, .p 1] ds [] es) := kbx T.F_l_names (by decide) rfl (fun _ _ _ _ _ _ us ws h1 h2 => match us, ws, h1, h2 with | [_, _], [], _, _ => rfl)
theorem kb_26_l_arrow (T : Txt G fa fd cL PL) : KB G (fd 32) ["_law_box_here"] 1 [] (fun ds es => sel [.p 0] ds [] es) := kbx T.F_l_arrow (by decide) rfl (fun _ _ _ _ _ _ us ws h1 h2 => match us, ws, h1, h2 with | [_], [], _, _ => rfl)
theorem kb_27_l_like (T : Txt G fa fd cL PL) : KB G (fd 34) ["_law_found", "_law_due"] 2 [] (fun ds es => sel [.p 0, .p 1] ds [] es) := kbx T.F_l_like (by decide) rfl (fun _ _ _ _ _ _ us ws h1 h2 => match us, ws, h1, h2 with | [_, _], [], _, _ => rfl)
theorem kb_28_need_rods (T : Txt G fa fd cL PL) : KB G (fd 21) ["rods"] 1 [] (fun ds es => sel [.p 0] ds [] es) := kbx T.F_need_rods (by decide) rfl (fun _ _ _ _ _ _ us ws h1 h2 => match us, ws, h1, h2 with | [_], [], _, _ => rfl)
theorem kb_29_corners_of (T : Txt G fa fd cL PL) : KB G (fd 24) ["rods", "start"] 2 [] (fun ds es => sel [.p 0, .p 1] ds [] es) := kbx T.F_corners_of (by decide) rfl (fun _ _ _ _ _ _ us ws h1 h2 => match us, ws, h1, h2 with | [_, _], [], _, _ => rfl)
theorem kb_30_Row_corners (T : Txt G fa fd cL PL) : KB G (fd 36) ["self"] 1 [] (fun ds es => sel [.p 0] ds [] es) := kbxQ T.F_Row_corners (by decide) rfl (fun _ _ _ _ _ _ us ws h1 h2 => match us, ws, h1, h2 with | [_], [], _, _ => rfl)
theorem kb_31_rods_traded (T : Txt G fa fd cL PL) : KB G (fd 23) ["rods", "at"] 2 [] (fun ds es => sel [.p 0, .p 1] ds [] es) := kbx T.F_rods_traded (by decide) rfl (fun _ _ _ _ _ _ us ws h1 h2 => match us, ws, h1, h2 with | [_, _], [], _, _ => rfl)
theorem kb_32_Row___init (T : Txt G fa fd cL PL) : KB G (fd 35) ["self", "rods", "start"] 2 ["start"] (fun ds es => sel [.p 0, .p 1, .k 0] ds [] es) := kbxQ T.F_Row___init (by decide) rfl (fun _ _ _ _ _ _ us ws h1 h2 => match us, ws, h1, h2 with | [_, _], [_], _, _ => rfl)
theorem kb_33_l_box (T : Txt G fa fd cL PL) : KB G (fd 25) ["_law_script"] 1 [] (fun ds es => sel [.p 0] ds [] es) := kbx T.F_l_box (by decide) rfl (fun _ _ _ _ _ _ us ws h1 h2 => match us, ws, h1, h2 with | [_], [], _, _ => rfl)
theorem kb_34_l_rods (T : Txt G fa fd cL PL) : KB G (fd 33) ["_law_box_here", "_law_low_here", "_law_most"] 3 [] (fun ds es => sel [.p 0, .p 1, .p 2] ds [] es) := kbx T.F_l_rods (by decide) rfl (fun _ _ _ _ _ _ us ws h1 h2 => match us, ws, h1, h2 with | [_, _, _], [], _, _ => rfl)
theorem kb_35_whole (T : Txt G fa fd cL PL) : KB G (fd 19) ["row"] 1 [] (fun ds es => sel [.p 0] ds [] es) := kbx T.F_whole (by decide) rfl (fun _ _ _ _ _ _ us ws h1 h2 => match us, ws, h1, h2 with | [_], [], _, _ => rfl)
theorem kb_36_Row_end (T : Txt G fa fd cL PL) : KB G (fd 37) ["self"] 1 [] (fun ds es => sel [.p 0] ds [] es) := kbxQ T.F_Row_end (by decide) rfl (fun _ _ _ _ _ _ us ws h1 h2 => match us, ws, h1, h2 with | [_], [], _, _ => rfl)
theorem kb_37_Row_names (T : Txt G fa fd cL PL) : KB G (fd 38) ["self"] 1 [] (fun ds es => sel [.p 0] ds [] es) := kbxQ T.F_Row_names (by decide) rfl (fun _ _ _ _ _ _ us ws h1 h2 => match us, ws, h1, h2 with | [_], [], _, _ => rfl)
theorem kb_38_Row_weights (T : Txt G fa fd cL PL) : KB G (fd 40) ["self"] 1 [] (fun ds es => sel [.p 0] ds [] es) := kbxQ T.F_Row_weights (by decide) rfl (fun _ _ _ _ _ _ us ws h1 h2 => match us, ws, h1, h2 with | [_], [], _, _ => rfl)
theorem kb_39_Row_traded (T : Txt G fa fd cL PL) : KB G (fd 39) ["self", "at"] 2 [] (fun ds es => sel [.p 0, .p 1] ds [] es) := kbxQ T.F_Row_traded (by decide) rfl (fun _ _ _ _ _ _ us ws h1 h2 => match us, ws, h1, h2 with | [_, _], [], _, _ => rfl)
theorem bn_Row___len (T : Txt G fa fd cL PL) : Bnd G (fd 41) ["self"] := bndQ T.F_Row___len (fun _ _ _ _ _ _ us h1 => match us, h1 with | [_], _ => rfl)
theorem ok_shared_by (T : Txt G fa fd cL PL) : FnR G "shared_by" ["one", "other"] 1 s_shared_by (fa 1) (fd 1) := def_f T.F_shared_by S_shared_by T.m_shared_by T.cd0 (k := 0)
  (ss_cons (s_while (t_cmp cs_ne (g_var (by decide +kernel)) se_int (nomark _)) (ss_one (g_par S_shared_by.nd (by decide +kernel) (g_var (by decide +kernel)) (se_mod (g_var (by decide +kernel)) (g_var (by decide +kernel))))))
  (ss_one (s_ret (g_var (by decide +kernel)))))
theorem ok_part (T : Txt G fa fd cL PL) : FnR G "part" ["over", "under"] 3 s_part (fa 2) (fd 2) := def_f T.F_part S_part T.m_part T.cd0 (k := 2)
  (ss_cons (s_if (t_cmp cs_eq (g_var (by decide +kernel)) se_int (nomark _)) (ss_one (g_raise0 (by decide +kernel) (by omega) T.X_BadPart)) ss_nil)
  (ss_cons (g_set S_part.nd (by decide +kernel) (g_call (ok_shared_by T) (kb_0_shared_by T) (by decide +kernel) (by omega) (sa_cons (g_abs (by decide +kernel) T.n_abs (sa_cons (g_var (by decide +kernel)) sa_nil)) (sa_cons (g_abs (by decide +kernel) T.n_abs (sa_cons (g_var (by decide +kernel)) sa_nil)) sa_nil))))
  (ss_cons (g_set S_part.nd (by decide +kernel) (se_if (t_cmp cs_gt (g_var (by decide +kernel)) se_int (nomark _)) se_int (se_neg se_int)))
  (ss_one (s_ret (se_tup (sa_cons (se_div (se_mul (g_var (by decide +kernel)) (g_var (by decide +kernel))) (g_var (by decide +kernel))) (sa_cons (se_div (se_mul (g_var (by decide +kernel)) (g_var (by decide +kernel))) (g_var (by decide +kernel))) sa_nil))))))))
theorem ok_plus (T : Txt G fa fd cL PL) : FnR G "plus" ["one", "other"] 4 s_plus (fa 3) (fd 3) := def_f T.F_plus S_plus T.m_plus T.cd0 (k := 3)
  (ss_one (s_ret (g_call (ok_part T) (kb_1_part T) (by decide +kernel) (by omega) (sa_cons (se_add (se_mul (se_ix (g_var (by decide +kernel)) se_int) (se_ix (g_var (by decide +kernel)) se_int)) (se_mul (se_ix (g_var (by decide +kernel)) se_int) (se_ix (g_var (by decide +kernel)) se_int))) (sa_cons (se_mul (se_ix (g_var (by decide +kernel)) se_int) (se_ix (g_var (by decide +kernel)) se_int)) sa_nil)))))
theorem ok_less (T : Txt G fa fd cL PL) : FnR G "less" ["one", "other"] 4 s_less (fa 4) (fd 4) := def_f T.F_less S_less T.m_less T.cd0 (k := 3)
  (ss_one (s_ret (g_call (ok_part T) (kb_1_part T) (by decide +kernel) (by omega) (sa_cons (se_sub (se_mul (se_ix (g_var (by decide +kernel)) se_int) (se_ix (g_var (by decide +kernel)) se_int)) (se_mul (se_ix (g_var (by decide +kernel)) se_int) (se_ix (g_var (by decide +kernel)) se_int))) (sa_cons (se_mul (se_ix (g_var (by decide +kernel)) se_int) (se_ix (g_var (by decide +kernel)) se_int)) sa_nil)))))
theorem ok_times (T : Txt G fa fd cL PL) : FnR G "times" ["one", "other"] 4 s_times (fa 5) (fd 5) := def_f T.F_times S_times T.m_times T.cd0 (k := 3)
  (ss_one (s_ret (g_call (ok_part T) (kb_1_part T) (by decide +kernel) (by omega) (sa_cons (se_mul (se_ix (g_var (by decide +kernel)) se_int) (se_ix (g_var (by decide +kernel)) se_int)) (sa_cons (se_mul (se_ix (g_var (by decide +kernel)) se_int) (se_ix (g_var (by decide +kernel)) se_int)) sa_nil)))))
theorem ok_over (T : Txt G fa fd cL PL) : FnR G "over" ["one", "other"] 4 s_over (fa 6) (fd 6) := def_f T.F_over S_over T.m_over T.cd0 (k := 3)
  (ss_cons (s_if (t_cmp cs_eq (se_ix (g_var (by decide +kernel)) se_int) se_int (nomark _)) (ss_one (g_raise0 (by decide +kernel) (by omega) T.X_BadPart)) ss_nil)
  (ss_one (s_ret (g_call (ok_part T) (kb_1_part T) (by decide +kernel) (by omega) (sa_cons (se_mul (se_ix (g_var (by decide +kernel)) se_int) (se_ix (g_var (by decide +kernel)) se_int)) (sa_cons (se_mul (se_ix (g_var (by decide +kernel)) se_int) (se_ix (g_var (by decide +kernel)) se_int)) sa_nil))))))
theorem ok_summed (T : Txt G fa fd cL PL) : FnR G "summed" ["one", "other"] 5 s_summed (fa 7) (fd 7) := def_f T.F_summed S_summed T.m_summed T.cd0 (k := 4)
  (ss_one (s_ret (se_tup (sa_cons (g_call (ok_plus T) (kb_2_plus T) (by decide +kernel) (by omega) (sa_cons (se_ix (g_var (by decide +kernel)) se_int) (sa_cons (se_ix (g_var (by decide +kernel)) se_int) sa_nil))) (sa_cons (g_call (ok_plus T) (kb_2_plus T) (by decide +kernel) (by omega) (sa_cons (se_ix (g_var (by decide +kernel)) se_int) (sa_cons (se_ix (g_var (by decide +kernel)) se_int) sa_nil))) sa_nil)))))
theorem ok_off (T : Txt G fa fd cL PL) : FnR G "off" ["one", "other"] 5 s_off (fa 8) (fd 8) := def_f T.F_off S_off T.m_off T.cd0 (k := 4)
  (ss_one (s_ret (se_tup (sa_cons (g_call (ok_less T) (kb_3_less T) (by decide +kernel) (by omega) (sa_cons (se_ix (g_var (by decide +kernel)) se_int) (sa_cons (se_ix (g_var (by decide +kernel)) se_int) sa_nil))) (sa_cons (g_call (ok_less T) (kb_3_less T) (by decide +kernel) (by omega) (sa_cons (se_ix (g_var (by decide +kernel)) se_int) (sa_cons (se_ix (g_var (by decide +kernel)) se_int) sa_nil))) sa_nil)))))
theorem ok_mate (T : Txt G fa fd cL PL) : FnR G "mate" ["one"] 5 s_mate (fa 9) (fd 9) := def_f T.F_mate S_mate T.m_mate T.cd0 (k := 4)
  (ss_one (s_ret (se_tup (sa_cons (se_ix (g_var (by decide +kernel)) se_int) (sa_cons (g_call (ok_less T) (kb_3_less T) (by decide +kernel) (by omega) (sa_cons (g_con T.c_ZERO (by decide +kernel)) (sa_cons (se_ix (g_var (by decide +kernel)) se_int) sa_nil))) sa_nil)))))
theorem ok_made (T : Txt G fa fd cL PL) : FnR G "made" ["one", "other"] 5 s_made (fa 10) (fd 10) := def_f T.F_made S_made T.m_made T.cd0 (k := 4)
  (ss_cons (s_asg (g_var (by decide +kernel)) (sg_tup (sgs_cons (gt_name S_made.nd (by decide +kernel)) (sgs_cons (gt_name S_made.nd (by decide +kernel)) sgs_nil))) (by intro env h; cases env; cases h; rfl) (by intro env h; cases env; cases h; rfl))
  (ss_cons (s_asg (g_var (by decide +kernel)) (sg_tup (sgs_cons (gt_name S_made.nd (by decide +kernel)) (sgs_cons (gt_name S_made.nd (by decide +kernel)) sgs_nil))) (by intro env h; cases env; cases h; rfl) (by intro env h; cases env; cases h; rfl))
  (ss_one (s_ret (se_tup (sa_cons (g_call (ok_less T) (kb_3_less T) (by decide +kernel) (by omega) (sa_cons (g_call (ok_times T) (kb_4_times T) (by decide +kernel) (by omega) (sa_cons (g_var (by decide +kernel)) (sa_cons (g_var (by decide +kernel)) sa_nil))) (sa_cons (g_call (ok_times T) (kb_4_times T) (by decide +kernel) (by omega) (sa_cons (g_var (by decide +kernel)) (sa_cons (g_var (by decide +kernel)) sa_nil))) sa_nil))) (sa_cons (g_call (ok_plus T) (kb_2_plus T) (by decide +kernel) (by omega) (sa_cons (g_call (ok_times T) (kb_4_times T) (by decide +kernel) (by omega) (sa_cons (g_var (by decide +kernel)) (sa_cons (g_var (by decide +kernel)) sa_nil))) (sa_cons (g_call (ok_times T) (kb_4_times T) (by decide +kernel) (by omega) (sa_cons (g_var (by decide +kernel)) (sa_cons (g_var (by decide +kernel)) sa_nil))) sa_nil))) sa_nil)))))))
theorem ok_often (T : Txt G fa fd cL PL) : FnR G "often" ["one", "many"] 5 s_often (fa 11) (fd 11) := def_f T.F_often S_often T.m_often T.cd0 (k := 4)
  (ss_one (s_ret (se_tup (sa_cons (g_call (ok_times T) (kb_4_times T) (by decide +kernel) (by omega) (sa_cons (se_ix (g_var (by decide +kernel)) se_int) (sa_cons (g_var (by decide +kernel)) sa_nil))) (sa_cons (g_call (ok_times T) (kb_4_times T) (by decide +kernel) (by omega) (sa_cons (se_ix (g_var (by decide +kernel)) se_int) (sa_cons (g_var (by decide +kernel)) sa_nil))) sa_nil)))))
theorem ok_weight (T : Txt G fa fd cL PL) : FnR G "weight" ["one"] 5 s_weight (fa 12) (fd 12) := def_f T.F_weight S_weight T.m_weight T.cd0 (k := 4)
  (ss_one (s_ret (g_call (ok_plus T) (kb_2_plus T) (by decide +kernel) (by omega) (sa_cons (g_call (ok_times T) (kb_4_times T) (by decide +kernel) (by omega) (sa_cons (se_ix (g_var (by decide +kernel)) se_int) (sa_cons (se_ix (g_var (by decide +kernel)) se_int) sa_nil))) (sa_cons (g_call (ok_times T) (kb_4_times T) (by decide +kernel) (by omega) (sa_cons (se_ix (g_var (by decide +kernel)) se_int) (sa_cons (se_ix (g_var (by decide +kernel)) se_int) sa_nil))) sa_nil)))))
theorem ok_parted (T : Txt G fa fd cL PL) : FnR G "parted" ["one", "other"] 6 s_parted (fa 13) (fd 13) := def_f T.F_parted S_parted T.m_parted T.cd0 (k := 5)
  (ss_cons (s_if (t_cmp cs_eq (g_var (by decide +kernel)) (g_con T.c_ORIGIN (by decide +kernel)) (nomark _)) (ss_one (g_raise0 (by decide +kernel) (by omega) T.X_BadPart)) ss_nil)
  (ss_one (s_ret (g_call (ok_often T) (kb_5_often T) (by decide +kernel) (by omega) (sa_cons (g_call (ok_made T) (kb_8_made T) (by decide +kernel) (by omega) (sa_cons (g_var (by decide +kernel)) (sa_cons (g_call (ok_mate T) (kb_9_mate T) (by decide +kernel) (by omega) (sa_cons (g_var (by decide +kernel)) sa_nil)) sa_nil))) (sa_cons (g_call (ok_over T) (kb_6_over T) (by decide +kernel) (by omega) (sa_cons (g_con T.c_ONE (by decide +kernel)) (sa_cons (g_call (ok_weight T) (kb_7_weight T) (by decide +kernel) (by omega) (sa_cons (g_var (by decide +kernel)) sa_nil)) sa_nil))) sa_nil))))))
theorem ok_copied (T : Txt G fa fd cL PL) : FnR G "copied" ["one"] 1 s_copied (fa 14) (fd 14) := def_f T.F_copied S_copied T.m_copied T.cd0 (k := 0)
  (ss_cons (s_asg (g_var (by decide +kernel)) (sg_tup (sgs_cons (gt_name S_copied.nd (by decide +kernel)) (sgs_cons (gt_name S_copied.nd (by decide +kernel)) sgs_nil))) (by intro env h; cases env; cases h; rfl) (by intro env h; cases env; cases h; rfl))
  (ss_one (s_ret (se_tup (sa_cons (g_tuple (by decide +kernel) T.n_tuple (sa_cons (g_var (by decide +kernel)) sa_nil)) (sa_cons (g_tuple (by decide +kernel) T.n_tuple (sa_cons (g_var (by decide +kernel)) sa_nil)) sa_nil))))))
theorem ok_entry (T : Txt G fa fd cL PL) : FnR G "entry" ["row", "at"] 1 s_entry (fa 15) (fd 15) := def_f T.F_entry S_entry T.m_entry T.cd0 (k := 0)
  (ss_one (s_ret (se_if (t_chain cs_le cs_lt se_int (g_var (by decide +kernel)) (g_len (by decide +kernel) T.n_len (sa_cons (g_var (by decide +kernel)) sa_nil))) (se_ix (g_var (by decide +kernel)) (g_var (by decide +kernel))) (g_con T.c_ORIGIN (by decide +kernel)))))
theorem ok_grown_by (T : Txt G fa fd cL PL) : FnR G "grown_by" ["whole", "z"] 6 s_grown_by (fa 16) (fd 16) := def_f T.F_grown_by S_grown_by T.m_grown_by T.cd0 (k := 5)
  (ss_cons (s_asg (g_var (by decide +kernel)) (sg_tup (sgs_cons (gt_name S_grown_by.nd (by decide +kernel)) (sgs_cons (gt_name S_grown_by.nd (by decide +kernel)) sgs_nil))) (by intro env h; cases env; cases h; rfl) (by intro env h; cases env; cases h; rfl))
  (ss_cons (g_setLc fin_l [("at", 6)] S_grown_by.nd (by decide +kernel) (by decide +kernel) (gi_rng1 (by decide +kernel) T.n_range (se_add (g_len (by decide +kernel) T.n_len (sa_cons (g_var (by decide +kernel)) sa_nil)) se_int)) (gt_name S_grown_by.nd (by decide +kernel)) sif_nil (g_call (ok_off T) (kb_10_off T) (by decide +kernel) (by omega) (sa_cons (g_call (ok_entry T) (kb_11_entry T) (by decide +kernel) (by omega) (sa_cons (g_var (by decide +kernel)) (sa_cons (se_sub (g_var (by decide +kernel)) se_int) sa_nil))) (sa_cons (g_call (ok_made T) (kb_8_made T) (by decide +kernel) (by omega) (sa_cons (g_call (ok_entry T) (kb_11_entry T) (by decide +kernel) (by omega) (sa_cons (g_var (by decide +kernel)) (sa_cons (g_var (by decide +kernel)) sa_nil))) (sa_cons (g_call (ok_mate T) (kb_9_mate T) (by decide +kernel) (by omega) (sa_cons (g_var (by decide +kernel)) sa_nil)) sa_nil))) sa_nil))))
  (ss_cons (g_setLc fin_l [("at", 6)] S_grown_by.nd (by decide +kernel) (by decide +kernel) (gi_rng1 (by decide +kernel) T.n_range (se_add (g_len (by decide +kernel) T.n_len (sa_cons (g_var (by decide +kernel)) sa_nil)) se_int)) (gt_name S_grown_by.nd (by decide +kernel)) sif_nil (g_call (ok_summed T) (kb_12_summed T) (by decide +kernel) (by omega) (sa_cons (g_call (ok_made T) (kb_8_made T) (by decide +kernel) (by omega) (sa_cons (g_call (ok_entry T) (kb_11_entry T) (by decide +kernel) (by omega) (sa_cons (g_var (by decide +kernel)) (sa_cons (g_var (by decide +kernel)) sa_nil))) (sa_cons (g_var (by decide +kernel)) sa_nil))) (sa_cons (g_call (ok_entry T) (kb_11_entry T) (by decide +kernel) (by omega) (sa_cons (g_var (by decide +kernel)) (sa_cons (se_sub (g_var (by decide +kernel)) se_int) sa_nil))) sa_nil))))
  (ss_one (s_ret (se_tup (sa_cons (g_var (by decide +kernel)) (sa_cons (g_var (by decide +kernel)) sa_nil))))))))
theorem ok_whole_of (T : Txt G fa fd cL PL) : FnR G "whole_of" ["rods"] 7 s_whole_of (fa 17) (fd 17) := def_f T.F_whole_of S_whole_of T.m_whole_of T.cd0 (k := 6)
  (ss_cons (g_set S_whole_of.nd (by decide +kernel) (se_tup (sa_cons (se_lst (sa_cons (g_con T.c_LONE (by decide +kernel)) sa_nil)) (sa_cons (se_lst sa_nil) sa_nil))))
  (ss_cons (s_for (si_any (g_var (by decide +kernel))) (sg_tup (sgs_cons (gt_name S_whole_of.nd (by decide +kernel)) (sgs_cons (gt_name S_whole_of.nd (by decide +kernel)) sgs_nil))) (ss_one (g_set S_whole_of.nd (by decide +kernel) (g_call (ok_grown_by T) (kb_13_grown_by T) (by decide +kernel) (by omega) (sa_cons (g_var (by decide +kernel)) (sa_cons (g_var (by decide +kernel)) sa_nil))))))
  (ss_one (s_ret (g_var (by decide +kernel))))))
theorem ok_Row_rods (T : Txt G fa fd cL PL) : MeX G (G.K.ct k_Row) "rods" ["self"] 1 s_Row_rods (fa 18) (fd 18) := mdef_f T.F_Row_rods S_Row_rods T.M_Row_rods T.cd0 (k := 0)
  (ss_one (s_ret (g_list (by decide +kernel) T.n_list (sa_cons (g_fld T.CL_Row T.A_Row_lot (g_var (by decide +kernel))) sa_nil))))
theorem ok_whole (T : Txt G fa fd cL PL) : FnR G "whole" ["row"] 8 s_whole (fa 19) (fd 19) := def_f T.F_whole S_whole T.m_whole T.cd0 (k := 7)
  (ss_one (s_ret (g_call (ok_whole_of T) (kb_14_whole_of T) (by decide +kernel) (by omega) (sa_cons (g_mth0 T.CL_Row (ok_Row_rods T) (by omega) (kb_15_Row_rods T) (g_var (by decide +kernel))) sa_nil))))
theorem ok_is_name (T : Txt G fa fd cL PL) : FnR G "is_name" ["text"] 1 s_is_name (fa 20) (fd 20) := def_f T.F_is_name S_is_name T.m_is_name T.cd0 (k := 0)
  (ss_one (s_ret (se_and (e_chain cs_le cs_le se_int (g_len (by decide +kernel) T.n_len (sa_cons (g_var (by decide +kernel)) sa_nil)) (g_con T.c_MOST_NAME (by decide +kernel))) (se_one (g_all (by decide +kernel) T.n_all (sa_cons (g_lc fin_l [("sign", 1)] S_is_name.nd (by decide +kernel) (si_any (g_var (by decide +kernel))) (gt_name S_is_name.nd (by decide +kernel)) sif_nil (e_cmp cs_in (g_var (by decide +kernel)) (g_con T.c_LETTERS (by decide +kernel)) (by with_unfolding_all rfl))) sa_nil))))))
theorem ok_need_rods (T : Txt G fa fd cL PL) : FnR G "need_rods" ["rods"] 3 s_need_rods (fa 21) (fd 21) := def_f T.F_need_rods S_need_rods T.m_need_rods T.cd0 (k := 2)
  (ss_cons (s_for (gi_enumA (by decide +kernel) T.n_enumerate (g_var (by decide +kernel))) (sg_tup (sgs_cons (gt_name S_need_rods.nd (by decide +kernel)) (sgs_cons (sg_tup (sgs_cons (gt_name S_need_rods.nd (by decide +kernel)) (sgs_cons (gt_name S_need_rods.nd (by decide +kernel)) sgs_nil))) sgs_nil))) (ss_cons (s_if (st_not (st_val (g_call (ok_is_name T) (kb_16_is_name T) (by decide +kernel) (by omega) (sa_cons (g_var (by decide +kernel)) sa_nil)))) (ss_one (g_raise (by decide +kernel) (by omega) T.X_BadName (SAs.sa (sa_cons (g_var (by decide +kernel)) sa_nil)))) ss_nil)
  (ss_one (s_if (t_cmp cs_eq (g_call (ok_copied T) (kb_17_copied T) (by decide +kernel) (by omega) (sa_cons (g_var (by decide +kernel)) sa_nil)) (g_con T.c_ORIGIN (by decide +kernel)) (nomark _)) (ss_one (g_raise (by decide +kernel) (by omega) T.X_Nought (SAs.sa (sa_cons (g_var (by decide +kernel)) sa_nil)))) ss_nil))))
  (ss_cons (g_set S_need_rods.nd (by decide +kernel) (se_cel sa_nil))
  (ss_one (s_for (si_any (g_var (by decide +kernel))) (sg_tup (sgs_cons (gt_name S_need_rods.nd (by decide +kernel)) (sgs_cons (gt_name S_need_rods.nd (by decide +kernel)) sgs_nil))) (ss_cons (s_if (t_cmp cs_in (g_var (by decide +kernel)) (g_var (by decide +kernel)) (by with_unfolding_all rfl)) (ss_one (g_raise (by decide +kernel) (by omega) T.X_Twice (SAs.sa (sa_cons (g_var (by decide +kernel)) sa_nil)))) ss_nil)
  (ss_one (s_expr (se_append (g_var (by decide +kernel)) (g_var (by decide +kernel))))))))))
theorem ok_exchanged (T : Txt G fa fd cL PL) : FnR G "exchanged" ["one", "other"] 7 s_exchanged (fa 22) (fd 22) := def_f T.F_exchanged S_exchanged T.m_exchanged T.cd0 (k := 6)
  (ss_cons (g_set S_exchanged.nd (by decide +kernel) (g_call (ok_summed T) (kb_12_summed T) (by decide +kernel) (by omega) (sa_cons (g_var (by decide +kernel)) (sa_cons (g_var (by decide +kernel)) sa_nil))))
  (ss_cons (s_if (t_cmp cs_eq (g_var (by decide +kernel)) (g_con T.c_ORIGIN (by decide +kernel)) (nomark _)) (ss_one (s_ret se_non)) ss_nil)
  (ss_cons (g_set S_exchanged.nd (by decide +kernel) (g_call (ok_parted T) (kb_18_parted T) (by decide +kernel) (by omega) (sa_cons (g_var (by decide +kernel)) (sa_cons (g_call (ok_mate T) (kb_9_mate T) (by decide +kernel) (by omega) (sa_cons (g_var (by decide +kernel)) sa_nil)) sa_nil))))
  (ss_one (s_ret (se_tup (sa_cons (g_call (ok_made T) (kb_8_made T) (by decide +kernel) (by omega) (sa_cons (g_var (by decide +kernel)) (sa_cons (g_call (ok_mate T) (kb_9_mate T) (by decide +kernel) (by omega) (sa_cons (g_var (by decide +kernel)) sa_nil)) sa_nil))) (sa_cons (g_call (ok_made T) (kb_8_made T) (by decide +kernel) (by omega) (sa_cons (g_var (by decide +kernel)) (sa_cons (g_call (ok_mate T) (kb_9_mate T) (by decide +kernel) (by omega) (sa_cons (g_var (by decide +kernel)) sa_nil)) sa_nil))) sa_nil))))))))
theorem ok_rods_traded (T : Txt G fa fd cL PL) : FnR G "rods_traded" ["rods", "at"] 8 s_rods_traded (fa 23) (fd 23) := def_f T.F_rods_traded S_rods_traded T.m_rods_traded T.cd0 (k := 7)
  (ss_cons (g_par S_rods_traded.nd (by decide +kernel) (se_ix (g_var (by decide +kernel)) (g_var (by decide +kernel))) (se_ix (g_var (by decide +kernel)) (se_add (g_var (by decide +kernel)) se_int)))
  (ss_cons (g_set S_rods_traded.nd (by decide +kernel) (g_call (ok_exchanged T) (kb_19_exchanged T) (by decide +kernel) (by omega) (sa_cons (se_ix (g_var (by decide +kernel)) se_int) (sa_cons (se_ix (g_var (by decide +kernel)) se_int) sa_nil))))
  (ss_cons (s_if (t_cmp cs_is (g_var (by decide +kernel)) se_non (nomark _)) (ss_one (s_ret se_non)) ss_nil)
  (ss_one (s_ret (se_add (se_add (se_slice (g_var (by decide +kernel)) so_none (so_some (g_var (by decide +kernel)))) (se_lst (sa_cons (se_tup (sa_cons (se_ix (g_var (by decide +kernel)) se_int) (sa_cons (se_ix (g_var (by decide +kernel)) se_int) sa_nil))) (sa_cons (se_tup (sa_cons (se_ix (g_var (by decide +kernel)) se_int) (sa_cons (se_ix (g_var (by decide +kernel)) se_int) sa_nil))) sa_nil)))) (se_slice (g_var (by decide +kernel)) (so_some (se_add (g_var (by decide +kernel)) se_int)) so_none)))))))
theorem ok_corners_of (T : Txt G fa fd cL PL) : FnR G "corners_of" ["rods", "start"] 6 s_corners_of (fa 24) (fd 24) := def_f T.F_corners_of S_corners_of T.m_corners_of T.cd0 (k := 5)
  (ss_cons (g_set S_corners_of.nd (by decide +kernel) (se_cel (sa_cons (g_var (by decide +kernel)) sa_nil)))
  (ss_cons (s_for (si_any (g_var (by decide +kernel))) (sg_tup (sgs_cons (gt_name S_corners_of.nd (by decide +kernel)) (sgs_cons (gt_name S_corners_of.nd (by decide +kernel)) sgs_nil))) (ss_one (s_expr (se_append (g_var (by decide +kernel)) (g_call (ok_summed T) (kb_12_summed T) (by decide +kernel) (by omega) (sa_cons (se_ix (g_var (by decide +kernel)) (se_neg se_int)) (sa_cons (g_var (by decide +kernel)) sa_nil)))))))
  (ss_one (s_ret (g_var (by decide +kernel))))))
theorem ok_l_box (T : Txt G fa fd cL PL) : FnR G "_law_box" ["_law_script"] 1 s_l_box (fa 25) (fd 25) := def_c T.F_l_box S_l_box T.m_l_box T.cd0 (k := 0)
  (ss_one (s_ret (se_cel (sa_cons (g_list (by decide +kernel) T.n_list (sa_cons (se_slice (g_var (by decide +kernel)) so_none (so_some se_int)) sa_nil)) (sa_cons se_int (sa_cons se_int (sa_cons se_int (sa_cons se_int sa_nil))))))))
theorem ok_l_draw (T : Txt G fa fd cL PL) : FnR G "_law_draw" ["_law_box_here", "_law_many"] 1 s_l_draw (fa 26) (fd 26) := def_f T.F_l_draw S_l_draw T.m_l_draw T.cd0 (k := 0)
  (ss_cons (s_if (SW.st (sw_and (t_cmp cs_lt (se_ix (g_var (by decide +kernel)) se_int) se_int (nomark _)) (sw_and1 (t_cmp cs_lt (se_ix (g_var (by decide +kernel)) se_int) (g_len (by decide +kernel) T.n_len (sa_cons (se_ix (g_var (by decide +kernel)) se_int) sa_nil)) (nomark _))))) (ss_cons (g_set S_l_draw.nd (by decide +kernel) (se_ix (se_ix (g_var (by decide +kernel)) se_int) (se_ix (g_var (by decide +kernel)) se_int)))
  (ss_cons (s_asg (se_add (se_ix (g_var (by decide +kernel)) se_int) se_int) (sg_sub (g_var (by decide +kernel)) se_int))
  (ss_cons (s_asg (g_max (by decide +kernel) T.n_max (sa_cons se_int (sa_cons (se_sub (g_var (by decide +kernel)) (se_pow se_int se_int)) sa_nil))) (sg_sub (g_var (by decide +kernel)) se_int))
  (ss_one (s_asg (se_mod (se_add (se_add (se_mul (se_ix (g_var (by decide +kernel)) se_int) se_int) (se_mul (se_mod (g_var (by decide +kernel)) se_int) se_int)) se_int) se_int) (sg_sub (g_var (by decide +kernel)) se_int)))))) ss_nil)
  (ss_cons (s_if (t_cmp cs_gt (se_ix (g_var (by decide +kernel)) se_int) se_int (nomark _)) (ss_cons (g_set S_l_draw.nd (by decide +kernel) (se_mod (se_ix (g_var (by decide +kernel)) se_int) (g_var (by decide +kernel))))
  (ss_cons (s_asg (se_div (se_ix (g_var (by decide +kernel)) se_int) (g_var (by decide +kernel))) (sg_sub (g_var (by decide +kernel)) se_int))
  (ss_one (s_ret (g_var (by decide +kernel)))))) ss_nil)
  (ss_cons (s_asg (se_add (se_ix (g_var (by decide +kernel)) se_int) se_int) (sg_sub (g_var (by decide +kernel)) se_int))
  (ss_cons (s_asg (se_mod (se_add (se_add (se_pow (se_ix (g_var (by decide +kernel)) se_int) se_int) (se_mul se_int (se_ix (g_var (by decide +kernel)) se_int))) se_int) se_int) (sg_sub (g_var (by decide +kernel)) se_int))
  (ss_one (s_ret (se_mod (se_div (se_ix (g_var (by decide +kernel)) se_int) se_int) (g_var (by decide +kernel)))))))))
theorem ok_l_of (T : Txt G fa fd cL PL) : FnR G "_law_of" ["_law_box_here", "_law_some"] 2 s_l_of (fa 27) (fd 27) := def_f T.F_l_of S_l_of T.m_l_of T.cd0 (k := 1)
  (ss_one (s_ret (se_ix (g_var (by decide +kernel)) (g_call (ok_l_draw T) (kb_20_l_draw T) (by decide +kernel) (by omega) (sa_cons (g_var (by decide +kernel)) (sa_cons (g_len (by decide +kernel) T.n_len (sa_cons (g_var (by decide +kernel)) sa_nil)) sa_nil))))))
theorem ok_l_names (T : Txt G fa fd cL PL) : FnR G "_law_names" ["_law_box_here", "_law_many"] 3 s_l_names (fa 28) (fd 28) := def_f T.F_l_names S_l_names T.m_l_names T.cd0 (k := 2)
  (ss_cons (g_set S_l_names.nd (by decide +kernel) se_str)
  (ss_cons (g_par S_l_names.nd (by decide +kernel) (g_call (ok_l_draw T) (kb_20_l_draw T) (by decide +kernel) (by omega) (sa_cons (g_var (by decide +kernel)) (sa_cons se_int sa_nil))) (g_call (ok_l_of T) (kb_21_l_of T) (by decide +kernel) (by omega) (sa_cons (g_var (by decide +kernel)) (sa_cons (se_lst (sa_cons se_int (sa_cons se_int (sa_cons se_int (sa_cons se_int (sa_cons se_int (sa_cons se_int sa_nil))))))) sa_nil))))
  (ss_cons (g_par S_l_names.nd (by decide +kernel) (g_call (ok_l_of T) (kb_21_l_of T) (by decide +kernel) (by omega) (sa_cons (g_var (by decide +kernel)) (sa_cons (se_lst (sa_cons se_str (sa_cons se_str (sa_cons se_str (sa_cons se_str (sa_cons se_str sa_nil)))))) sa_nil))) (g_call (ok_l_draw T) (kb_20_l_draw T) (by decide +kernel) (by omega) (sa_cons (g_var (by decide +kernel)) (sa_cons se_int sa_nil))))
  (ss_cons (g_set S_l_names.nd (by decide +kernel) (se_cel sa_nil))
  (ss_cons (s_for (gi_rng1 (by decide +kernel) T.n_range (g_var (by decide +kernel))) (gt_name S_l_names.nd (by decide +kernel)) (ss_cons (g_set S_l_names.nd (by decide +kernel) (se_ix (g_var (by decide +kernel)) (se_mod (se_add (g_var (by decide +kernel)) (se_mul (g_var (by decide +kernel)) (g_var (by decide +kernel)))) se_int)))
  (ss_one (s_expr (se_append (g_var (by decide +kernel)) (se_ix (se_lst (sa_cons (se_add (g_var (by decide +kernel)) (g_var (by decide +kernel))) (sa_cons (se_add (g_var (by decide +kernel)) (g_var (by decide +kernel))) (sa_cons (se_add (g_var (by decide +kernel)) (se_mul (g_var (by decide +kernel)) (se_mod (g_var (by decide +kernel)) se_int))) sa_nil)))) (g_var (by decide +kernel))))))))
  (ss_one (s_ret (g_var (by decide +kernel)))))))))
theorem ok_l_low (T : Txt G fa fd cL PL) : FnR G "_law_low" ["_law_above", "_law_beneath"] 1 s_l_low (fa 29) (fd 29) := def_f T.F_l_low S_l_low T.m_l_low T.cd0 (k := 0)
  (ss_cons (g_par S_l_low.nd (by decide +kernel) (g_abs (by decide +kernel) T.n_abs (sa_cons (g_var (by decide +kernel)) sa_nil)) (g_abs (by decide +kernel) T.n_abs (sa_cons (g_var (by decide +kernel)) sa_nil)))
  (ss_cons (s_while (t_cmp cs_ne (g_var (by decide +kernel)) se_int (nomark _)) (ss_one (g_par S_l_low.nd (by decide +kernel) (g_var (by decide +kernel)) (se_mod (g_var (by decide +kernel)) (g_var (by decide +kernel))))))
  (ss_cons (g_set S_l_low.nd (by decide +kernel) (se_if (t_cmp cs_gt (g_var (by decide +kernel)) se_int (nomark _)) se_int (se_neg se_int)))
  (ss_one (s_ret (se_tup (sa_cons (se_div (se_mul (g_var (by decide +kernel)) (g_var (by decide +kernel))) (g_var (by decide +kernel))) (sa_cons (se_div (se_mul (g_var (by decide +kernel)) (g_var (by decide +kernel))) (g_var (by decide +kernel))) sa_nil))))))))
theorem ok_l_small (T : Txt G fa fd cL PL) : FnR G "_law_small" ["_law_box_here"] 3 s_l_small (fa 30) (fd 30) := def_f T.F_l_small S_l_small T.m_l_small T.cd0 (k := 2)
  (ss_one (s_ret (g_call (ok_l_low T) (kb_22_l_low T) (by decide +kernel) (by omega) (sa_cons (se_sub (g_call (ok_l_draw T) (kb_20_l_draw T) (by decide +kernel) (by omega) (sa_cons (g_var (by decide +kernel)) (sa_cons se_int sa_nil))) se_int) (sa_cons (g_call (ok_l_of T) (kb_21_l_of T) (by decide +kernel) (by omega) (sa_cons (g_var (by decide +kernel)) (sa_cons (se_lst (sa_cons se_int (sa_cons se_int (sa_cons se_int (sa_cons se_int (sa_cons se_int sa_nil)))))) sa_nil))) sa_nil)))))
theorem ok_l_spot (T : Txt G fa fd cL PL) : FnR G "_law_spot" ["_law_box_here"] 4 s_l_spot (fa 31) (fd 31) := def_f T.F_l_spot S_l_spot T.m_l_spot T.cd0 (k := 3)
  (ss_one (s_ret (se_tup (sa_cons (g_call (ok_l_small T) (kb_23_l_small T) (by decide +kernel) (by omega) (sa_cons (g_var (by decide +kernel)) sa_nil)) (sa_cons (g_call (ok_l_small T) (kb_23_l_small T) (by decide +kernel) (by omega) (sa_cons (g_var (by decide +kernel)) sa_nil)) sa_nil)))))
theorem ok_l_arrow (T : Txt G fa fd cL PL) : FnR G "_law_arrow" ["_law_box_here"] 5 s_l_arrow (fa 32) (fd 32) := def_f T.F_l_arrow S_l_arrow T.m_l_arrow T.cd0 (k := 4)
  (ss_cons (s_if (t_cmp cs_eq (g_call (ok_l_draw T) (kb_20_l_draw T) (by decide +kernel) (by omega) (sa_cons (g_var (by decide +kernel)) (sa_cons se_int sa_nil))) se_int (nomark _)) (ss_cons (s_asg (g_call (ok_l_of T) (kb_21_l_of T) (by decide +kernel) (by omega) (sa_cons (g_var (by decide +kernel)) (sa_cons (se_lst (sa_cons (se_tup (sa_cons se_int (sa_cons se_int sa_nil))) (sa_cons (se_tup (sa_cons se_int (sa_cons se_int sa_nil))) (sa_cons (se_tup (sa_cons se_int (sa_cons se_int sa_nil))) (sa_cons (se_tup (sa_cons se_int (sa_cons se_int sa_nil))) (sa_cons (se_tup (sa_cons (se_neg se_int) (sa_cons se_int sa_nil))) (sa_cons (se_tup (sa_cons (se_neg se_int) (sa_cons se_int sa_nil))) (sa_cons (se_tup (sa_cons se_int (sa_cons (se_neg se_int) sa_nil))) (sa_cons (se_tup (sa_cons se_int (sa_cons (se_neg se_int) sa_nil))) (sa_cons (se_tup (sa_cons se_int (sa_cons se_int sa_nil))) (sa_cons (se_tup (sa_cons (se_neg se_int) (sa_cons se_int sa_nil))) sa_nil))))))))))) sa_nil))) (sg_tup (sgs_cons (gt_name S_l_arrow.nd (by decide +kernel)) (sgs_cons (gt_name S_l_arrow.nd (by decide +kernel)) sgs_nil))) (by intro env h; cases env; cases h; rfl) (by intro env h; cases env; cases h; rfl))
  (ss_one (s_ret (se_tup (sa_cons (se_tup (sa_cons (g_var (by decide +kernel)) (sa_cons se_int sa_nil))) (sa_cons (se_tup (sa_cons (g_var (by decide +kernel)) (sa_cons se_int sa_nil))) sa_nil)))))) ss_nil)
  (ss_cons (g_set S_l_arrow.nd (by decide +kernel) (g_call (ok_l_spot T) (kb_24_l_spot T) (by decide +kernel) (by omega) (sa_cons (g_var (by decide +kernel)) sa_nil)))
  (ss_one (s_ret (se_if (t_cmp cs_ne (g_var (by decide +kernel)) (se_tup (sa_cons (se_tup (sa_cons se_int (sa_cons se_int sa_nil))) (sa_cons (se_tup (sa_cons se_int (sa_cons se_int sa_nil))) sa_nil))) (nomark _)) (g_var (by decide +kernel)) (se_tup (sa_cons (se_tup (sa_cons se_int (sa_cons se_int sa_nil))) (sa_cons (se_tup (sa_cons se_int (sa_cons se_int sa_nil))) sa_nil))))))))
theorem ok_l_rods (T : Txt G fa fd cL PL) : FnR G "_law_rods" ["_law_box_here", "_law_low_here", "_law_most"] 6 s_l_rods (fa 33) (fd 33) := def_f T.F_l_rods S_l_rods T.m_l_rods T.cd0 (k := 5)
  (ss_cons (g_set S_l_rods.nd (by decide +kernel) (g_call (ok_l_names T) (kb_25_l_names T) (by decide +kernel) (by omega) (sa_cons (g_var (by decide +kernel)) (sa_cons (se_add (g_var (by decide +kernel)) (g_call (ok_l_draw T) (kb_20_l_draw T) (by decide +kernel) (by omega) (sa_cons (g_var (by decide +kernel)) (sa_cons (se_add (se_sub (g_var (by decide +kernel)) (g_var (by decide +kernel))) se_int) sa_nil)))) sa_nil))))
  (ss_cons (g_setLc fin_c [("_law_name", 6)] S_l_rods.nd (by decide +kernel) (by decide +kernel) (si_any (g_var (by decide +kernel))) (gt_name S_l_rods.nd (by decide +kernel)) sif_nil (se_tup (sa_cons (g_var (by decide +kernel)) (sa_cons (g_call (ok_l_arrow T) (kb_26_l_arrow T) (by decide +kernel) (by omega) (sa_cons (g_var (by decide +kernel)) sa_nil)) sa_nil))))
  (ss_cons (s_if (SW.st (sw_and (t_cmp cs_gt (g_len (by decide +kernel) T.n_len (sa_cons (g_var (by decide +kernel)) sa_nil)) se_int (nomark _)) (sw_and1 (t_cmp cs_eq (g_call (ok_l_draw T) (kb_20_l_draw T) (by decide +kernel) (by omega) (sa_cons (g_var (by decide +kernel)) (sa_cons se_int sa_nil))) se_int (nomark _))))) (ss_cons (g_set S_l_rods.nd (by decide +kernel) (se_add se_int (g_call (ok_l_draw T) (kb_20_l_draw T) (by decide +kernel) (by omega) (sa_cons (g_var (by decide +kernel)) (sa_cons (se_sub (g_len (by decide +kernel) T.n_len (sa_cons (g_var (by decide +kernel)) sa_nil)) se_int) sa_nil)))))
  (ss_cons (s_asg (se_ix (se_ix (g_var (by decide +kernel)) (g_call (ok_l_draw T) (kb_20_l_draw T) (by decide +kernel) (by omega) (sa_cons (g_var (by decide +kernel)) (sa_cons (g_var (by decide +kernel)) sa_nil)))) se_int) (sg_tup (sgs_cons (gt_name S_l_rods.nd (by decide +kernel)) (sgs_cons (gt_name S_l_rods.nd (by decide +kernel)) sgs_nil))) (by intro env h; cases env; cases h; rfl) (by intro env h; cases env; cases h; rfl))
  (ss_one (s_asg (se_tup (sa_cons (se_ix (se_ix (g_var (by decide +kernel)) (g_var (by decide +kernel))) se_int) (sa_cons (se_tup (sa_cons (se_tup (sa_cons (se_sub se_int (se_ix (g_var (by decide +kernel)) se_int)) (sa_cons (se_ix (g_var (by decide +kernel)) se_int) sa_nil))) (sa_cons (se_tup (sa_cons (se_sub se_int (se_ix (g_var (by decide +kernel)) se_int)) (sa_cons (se_ix (g_var (by decide +kernel)) se_int) sa_nil))) sa_nil))) sa_nil))) (sg_sub (g_var (by decide +kernel)) (g_var (by decide +kernel))))))) ss_nil)
  (ss_one (s_ret (g_var (by decide +kernel)))))))
theorem ok_l_like (T : Txt G fa fd cL PL) : ∀ n : Nat, FnR G "_law_like" ["_law_found", "_law_due"] (0 + n + 1) (s_l_like n) (fa 34) (fd 34)
  | 0 => def_0 T.F_l_like S_l_like T.m_l_like (k := 0 + 0)
  | n + 1 => by
    have ih := ok_l_like T n
    exact def_f T.F_l_like S_l_like T.m_l_like T.cd0 (k := 0 + (n + 1)) ((ss_cons (s_if (st_val (g_isi2 "list" "tuple" (by decide +kernel) T.n_isinstance (by decide +kernel) T.n_list (by decide +kernel) (by decide) (by decide +kernel) T.n_tuple (by decide +kernel) (by decide) (g_var (by decide +kernel)))) (ss_cons (s_if (SW.st (sw_or (t_cmp cs_ne (g_isi "list" (by decide +kernel) T.n_isinstance (by decide +kernel) T.n_list (by decide +kernel) (by decide) (g_var (by decide +kernel))) (g_isi "list" (by decide +kernel) T.n_isinstance (by decide +kernel) T.n_list (by decide +kernel) (by decide) (g_var (by decide +kernel))) (nomark _)) (sw_or1 (t_cmp cs_ne (g_isi "tuple" (by decide +kernel) T.n_isinstance (by decide +kernel) T.n_tuple (by decide +kernel) (by decide) (g_var (by decide +kernel))) (g_isi "tuple" (by decide +kernel) T.n_isinstance (by decide +kernel) T.n_tuple (by decide +kernel) (by decide) (g_var (by decide +kernel))) (nomark _))))) (ss_one (s_ret se_bl)) ss_nil)   (ss_one (s_ret (se_and (e_cmp cs_eq (g_len (by decide +kernel) T.n_len (sa_cons (g_var (by decide +kernel)) sa_nil)) (g_len (by decide +kernel) T.n_len (sa_cons (g_var (by decide +kernel)) sa_nil)) (nomark _)) (se_one (g_all (by decide +kernel) T.n_all (sa_cons (g_lc fin_l [("_law_k", 2)] S_l_like.nd (by decide +kernel) (gi_rng1 (by decide +kernel) T.n_range (g_len (by decide +kernel) T.n_len (sa_cons (g_var (by decide +kernel)) sa_nil))) (gt_name S_l_like.nd (by decide +kernel)) sif_nil (g_call ih (kb_27_l_like T) (by decide +kernel) (by omega) (sa_cons (se_ix (g_var (by decide +kernel)) (g_var (by decide +kernel))) (sa_cons (se_ix (g_var (by decide +kernel)) (g_var (by decide +kernel))) sa_nil)))) sa_nil))))))) ss_nil)   (ss_cons (s_if (SW.st (sw_or (t_cmp cs_ne (g_isi "bool" (by decide +kernel) T.n_isinstance (by decide +kernel) T.n_bool (by decide +kernel) (by decide) (g_var (by decide +kernel))) (g_isi "bool" (by decide +kernel) T.n_isinstance (by decide +kernel) T.n_bool (by decide +kernel) (by decide) (g_var (by decide +kernel))) (nomark _)) (sw_or1 (t_cmp cs_ne (g_isi "int" (by decide +kernel) T.n_isinstance (by decide +kernel) T.n_int (by decide +kernel) (by decide) (g_var (by decide +kernel))) (g_isi "int" (by decide +kernel) T.n_isinstance (by decide +kernel) T.n_int (by decide +kernel) (by decide) (g_var (by decide +kernel))) (nomark _))))) (ss_one (s_ret se_bl)) ss_nil)   (ss_one (s_ret (se_and (e_cmp cs_eq (g_isi "str" (by decide +kernel) T.n_isinstance (by decide +kernel) T.n_str (by decide +kernel) (by decide) (g_var (by decide +kernel))) (g_isi "str" (by decide +kernel) T.n_isinstance (by decide +kernel) T.n_str (by decide +kernel) (by decide) (g_var (by decide +kernel))) (nomark _)) (se_one (e_cmp cs_eq (g_var (by decide +kernel)) (g_var (by decide +kernel)) (nomark _)))))))))
theorem ok_Row___init (T : Txt G fa fd cL PL) : InX G (G.K.ct k_Row) ["self", "rods", "start"] 4 s_Row___init (fa 35) (fd 35) := idef_f T.F_Row___init S_Row___init T.M_Row___init T.cd0 (k := 3)
  (ss_cons (s_if (st_not (t_chain cs_le cs_le se_int (g_len (by decide +kernel) T.n_len (sa_cons (g_var (by decide +kernel)) sa_nil)) (g_con T.c_MOST_RODS (by decide +kernel)))) (ss_one (g_raise (by decide +kernel) (by omega) T.X_BadRow (SAs.sa (sa_cons (g_len (by decide +kernel) T.n_len (sa_cons (g_var (by decide +kernel)) sa_nil)) sa_nil)))) ss_nil)
  (ss_cons (s_expr (g_call (ok_need_rods T) (kb_28_need_rods T) (by decide +kernel) (by omega) (sa_cons (g_var (by decide +kernel)) sa_nil)))
  (ss_cons (g_putF T.CL_Row T.A_Row_lot (g_var (by decide +kernel)) (g_lc fin_l [("name", 3), ("arrow", 4)] S_Row___init.nd (by decide +kernel) (si_any (g_var (by decide +kernel))) (sg_tup (sgs_cons (gt_name S_Row___init.nd (by decide +kernel)) (sgs_cons (gt_name S_Row___init.nd (by decide +kernel)) sgs_nil))) sif_nil (se_tup (sa_cons (g_var (by decide +kernel)) (sa_cons (g_call (ok_copied T) (kb_17_copied T) (by decide +kernel) (by omega) (sa_cons (g_var (by decide +kernel)) sa_nil)) sa_nil)))))
  (ss_one (g_putF T.CL_Row T.A_Row_first (g_var (by decide +kernel)) (g_call (ok_copied T) (kb_17_copied T) (by decide +kernel) (by omega) (sa_cons (g_var (by decide +kernel)) sa_nil)))))))
theorem ok_Row_corners (T : Txt G fa fd cL PL) : MeX G (G.K.ct k_Row) "corners" ["self"] 7 s_Row_corners (fa 36) (fd 36) := mdef_f T.F_Row_corners S_Row_corners T.M_Row_corners T.cd0 (k := 6)
  (ss_one (s_ret (g_call (ok_corners_of T) (kb_29_corners_of T) (by decide +kernel) (by omega) (sa_cons (g_fld T.CL_Row T.A_Row_lot (g_var (by decide +kernel))) (sa_cons (g_fld T.CL_Row T.A_Row_first (g_var (by decide +kernel))) sa_nil)))))
theorem ok_Row_end (T : Txt G fa fd cL PL) : MeX G (G.K.ct k_Row) "end" ["self"] 8 s_Row_end (fa 37) (fd 37) := mdef_f T.F_Row_end S_Row_end T.M_Row_end T.cd0 (k := 7)
  (ss_one (s_ret (se_ix (g_mth0 T.CL_Row (ok_Row_corners T) (by omega) (kb_30_Row_corners T) (g_var (by decide +kernel))) (se_neg se_int))))
theorem ok_Row_names (T : Txt G fa fd cL PL) : MeX G (G.K.ct k_Row) "names" ["self"] 1 s_Row_names (fa 38) (fd 38) := mdef_f T.F_Row_names S_Row_names T.M_Row_names T.cd0 (k := 0)
  (ss_one (s_ret (g_lc fin_l [("name", 1), ("arrow", 2)] S_Row_names.nd (by decide +kernel) (si_any (g_fld T.CL_Row T.A_Row_lot (g_var (by decide +kernel)))) (sg_tup (sgs_cons (gt_name S_Row_names.nd (by decide +kernel)) (sgs_cons (gt_name S_Row_names.nd (by decide +kernel)) sgs_nil))) sif_nil (g_var (by decide +kernel)))))
theorem ok_Row_traded (T : Txt G fa fd cL PL) : MeX G (G.K.ct k_Row) "traded" ["self", "at"] 9 s_Row_traded (fa 39) (fd 39) := mdef_f T.F_Row_traded S_Row_traded T.M_Row_traded T.cd0 (k := 8)
  (ss_cons (s_if (st_not (t_chain cs_le cs_lt se_int (g_var (by decide +kernel)) (g_len (by decide +kernel) T.n_len (sa_cons (g_fld T.CL_Row T.A_Row_lot (g_var (by decide +kernel))) sa_nil)))) (ss_one (g_raise (by decide +kernel) (by omega) T.X_BadCorner (SAs.sa (sa_cons (g_var (by decide +kernel)) sa_nil)))) ss_nil)
  (ss_cons (g_set S_Row_traded.nd (by decide +kernel) (g_call (ok_rods_traded T) (kb_31_rods_traded T) (by decide +kernel) (by omega) (sa_cons (g_fld T.CL_Row T.A_Row_lot (g_var (by decide +kernel))) (sa_cons (se_sub (g_var (by decide +kernel)) se_int) sa_nil))))
  (ss_cons (s_if (t_cmp cs_is (g_var (by decide +kernel)) se_non (nomark _)) (ss_one (g_raise (by decide +kernel) (by omega) T.X_Flat (SAs.sa (sa_cons (g_var (by decide +kernel)) sa_nil)))) ss_nil)
  (ss_one (s_ret (g_mk T.CL_Row (ok_Row___init T) (by decide +kernel) (by omega) (kb_32_Row___init T) (sa_cons (g_var (by decide +kernel)) sa_nil) (sk_cons (g_fld T.CL_Row T.A_Row_first (g_var (by decide +kernel))) sk_nil)))))))
theorem ok_Row_weights (T : Txt G fa fd cL PL) : MeX G (G.K.ct k_Row) "weights" ["self"] 6 s_Row_weights (fa 40) (fd 40) := mdef_f T.F_Row_weights S_Row_weights T.M_Row_weights T.cd0 (k := 5)
  (ss_one (s_ret (g_lc fin_l [("name", 1), ("arrow", 2)] S_Row_weights.nd (by decide +kernel) (si_any (g_fld T.CL_Row T.A_Row_lot (g_var (by decide +kernel)))) (sg_tup (sgs_cons (gt_name S_Row_weights.nd (by decide +kernel)) (sgs_cons (gt_name S_Row_weights.nd (by decide +kernel)) sgs_nil))) sif_nil (g_call (ok_weight T) (kb_7_weight T) (by decide +kernel) (by omega) (sa_cons (g_var (by decide +kernel)) sa_nil)))))
theorem ok_Row___len (T : Txt G fa fd cL PL) : MeX G (G.K.ct k_Row) "__len__" ["self"] 1 s_Row___len (fa 41) (fd 41) := mdef_f T.F_Row___len S_Row___len T.M_Row___len T.cd0 (k := 0)
  (ss_one (s_ret (g_len (by decide +kernel) T.n_len (sa_cons (g_fld T.CL_Row T.A_Row_lot (g_var (by decide +kernel))) sa_nil))))
theorem ok_law (T : Txt G fa fd cL PL) : FnR G "law" ["_law_script"] 12 s_law (fa 42) (fd 42) := by
  obtain ⟨oc, dV, kV, doc, pm, ct, od, an, osl, h1, h2, h3, h4⟩ := T.L_law
  rw [h2] at h1 ⊢
  exact def_fL h1 h3 h4 S_law T.m_law (k := 11) ((ss_cons (g_set S_law.nd (by decide +kernel) (g_call (ok_l_box T).w (kb_33_l_box T).w (by decide +kernel) (by omega) (sa_cons (g_var (by decide +kernel)) sa_nil)))   (ss_cons (s_for (gi_rng1 (by decide +kernel) T.n_range se_int) (gt_name S_law.nd (by decide +kernel)) (ss_cons (g_set S_law.nd (by decide +kernel) (g_mk T.CL_Row.w (ok_Row___init T).w (by decide +kernel) (by omega) (kb_32_Row___init T).w (sa_cons (g_call (ok_l_rods T).w (kb_34_l_rods T).w (by decide +kernel) (by omega) (sa_cons (g_var (by decide +kernel)) (sa_cons se_int (sa_cons se_int sa_nil)))) sa_nil) (sk_cons (g_call (ok_l_spot T).w (kb_24_l_spot T).w (by decide +kernel) (by omega) (sa_cons (g_var (by decide +kernel)) sa_nil)) sk_nil)))   (ss_cons (g_par S_law.nd (by decide +kernel) (g_call (ok_whole T).w (kb_35_whole T).w (by decide +kernel) (by omega) (sa_cons (g_var (by decide +kernel)) sa_nil)) (g_mth0 T.CL_Row.w (ok_Row_end T).w (by omega) (kb_36_Row_end T).w (g_var (by decide +kernel))))   (ss_cons (g_set S_law.nd (by decide +kernel) (g_sortG (by decide +kernel) T.n_sorted (sa_cons (g_lc fin_l [("_law_name", 9)] S_law.nd (by decide +kernel) (si_any (g_mth0 T.CL_Row.w (ok_Row_names T).w (by omega) (kb_37_Row_names T).w (g_var (by decide +kernel)))) (gt_name S_law.nd (by decide +kernel)) sif_nil (se_tup (sa_cons (g_var (by decide +kernel)) (sa_cons (se_ix (g_mth0 T.CL_Row.w (ok_Row_weights T).w (by omega) (kb_38_Row_weights T).w (g_var (by decide +kernel))) (se_index (g_mth0 T.CL_Row.w (ok_Row_names T).w (by omega) (kb_37_Row_names T).w (g_var (by decide +kernel))) (g_var (by decide +kernel)))) sa_nil)))) sa_nil)))   (ss_one (s_for (gi_rng1 (by decide +kernel) T.n_range se_int) (gt_name S_law.nd (by decide +kernel)) (ss_cons (g_set S_law.nd (by decide +kernel) (g_tried T.tried (by decide +kernel) T.tb (by rw [T.tT]; exact List.mem_singleton.mpr rfl) (by rw [T.tT]; intro p hp _; rw [List.mem_singleton.mp hp]) 9 (by omega) (by decide +kernel) (g_mth T.CL_Row.w (ok_Row_traded T).w (by omega) (kb_39_Row_traded T).w (g_var (by decide +kernel)) (sa_cons (se_add se_int (g_call (ok_l_draw T).w (kb_20_l_draw T).w (by decide +kernel) (by omega) (sa_cons (g_var (by decide +kernel)) (sa_cons (se_sub (g_lenO T.CL_Row.w (ok_Row___len T).w (by omega) (bn_Row___len T).w rfl (by decide +kernel) T.n_len (sa_cons (g_var (by decide +kernel)) sa_nil)) se_int) sa_nil)))) sa_nil))))   (ss_cons (g_set S_law.nd (by decide +kernel) (se_if (t_cmp cs_eq (se_ix (g_var (by decide +kernel)) se_int) se_str (nomark _)) (se_ix (g_var (by decide +kernel)) se_int) (g_var (by decide +kernel))))   (ss_cons (s_if (st_not (st_val (g_call (ok_l_like T 6).w (kb_27_l_like T).w (by decide +kernel) (by omega) (sa_cons (se_lst (sa_cons (g_call (ok_whole T).w (kb_35_whole T).w (by decide +kernel) (by omega) (sa_cons (g_var (by decide +kernel)) sa_nil)) (sa_cons (g_mth0 T.CL_Row.w (ok_Row_end T).w (by omega) (kb_36_Row_end T).w (g_var (by decide +kernel))) sa_nil))) (sa_cons (se_lst (sa_cons (g_var (by decide +kernel)) (sa_cons (g_var (by decide +kernel)) sa_nil))) sa_nil))))) (ss_one (s_ret se_bl)) ss_nil)   (ss_one (s_if (t_cmp cs_ne (g_sortG (by decide +kernel) T.n_sorted (sa_cons (g_lc fin_l [("_law_name", 9)] S_law.nd (by decide +kernel) (si_any (g_mth0 T.CL_Row.w (ok_Row_names T).w (by omega) (kb_37_Row_names T).w (g_var (by decide +kernel)))) (gt_name S_law.nd (by decide +kernel)) sif_nil (se_tup (sa_cons (g_var (by decide +kernel)) (sa_cons (se_ix (g_mth0 T.CL_Row.w (ok_Row_weights T).w (by omega) (kb_38_Row_weights T).w (g_var (by decide +kernel))) (se_index (g_mth0 T.CL_Row.w (ok_Row_names T).w (by omega) (kb_37_Row_names T).w (g_var (by decide +kernel))) (g_var (by decide +kernel)))) sa_nil)))) sa_nil)) (g_var (by decide +kernel)) (nomark _)) (ss_one (s_ret se_bl)) ss_nil)))))))))))   (ss_one (s_ret se_bl)))))
end
theorem all_mk {l : PySem.W.OpenLaw} {w : World} {K : PySem.W.Frag} {h : Heap} {mg : Str → Option Value} {fl : Addr} (X : K.In h) (G : h.Ns mainGlobals mg) (hfa : mg "law" = some (.ref fl))
    {CR_Row : Addr}
    {f0 : Addr} {oc0 dc0 pm0 ct0 : Value} {od0 an0 : Option Addr} {sl0 : Array (Option Value)} {cd0 : Value} {kV0 : Value}
    {f1 : Addr} {oc1 dc1 pm1 ct1 : Value} {od1 an1 : Option Addr} {sl1 : Array (Option Value)} {cd1 : Value} {kV1 : Value}
    {f2 : Addr} {oc2 dc2 pm2 ct2 : Value} {od2 an2 : Option Addr} {sl2 : Array (Option Value)} {cd2 : Value} {kV2 : Value}
    {T2 : Addr} {Tc2 : Value} {Tod2 : Option Addr} {Tn2 : Nat} {Tsl2 : Array (Option Value)}
    {tk1 : Tok}
    {f3 : Addr} {oc3 dc3 pm3 ct3 : Value} {od3 an3 : Option Addr} {sl3 : Array (Option Value)} {cd3 : Value} {kV3 : Value}
    {f4 : Addr} {oc4 dc4 pm4 ct4 : Value} {od4 an4 : Option Addr} {sl4 : Array (Option Value)} {cd4 : Value} {kV4 : Value}
    {f5 : Addr} {oc5 dc5 pm5 ct5 : Value} {od5 an5 : Option Addr} {sl5 : Array (Option Value)} {cd5 : Value} {kV5 : Value}
    {f6 : Addr} {oc6 dc6 pm6 ct6 : Value} {od6 an6 : Option Addr} {sl6 : Array (Option Value)} {cd6 : Value} {kV6 : Value}
    {f7 : Addr} {oc7 dc7 pm7 ct7 : Value} {od7 an7 : Option Addr} {sl7 : Array (Option Value)} {cd7 : Value} {kV7 : Value}
    {f8 : Addr} {oc8 dc8 pm8 ct8 : Value} {od8 an8 : Option Addr} {sl8 : Array (Option Value)} {cd8 : Value} {kV8 : Value}
    {f9 : Addr} {oc9 dc9 pm9 ct9 : Value} {od9 an9 : Option Addr} {sl9 : Array (Option Value)} {cd9 : Value} {kV9 : Value}
    {f10 : Addr} {oc10 dc10 pm10 ct10 : Value} {od10 an10 : Option Addr} {sl10 : Array (Option Value)} {cd10 : Value} {kV10 : Value}
    {f11 : Addr} {oc11 dc11 pm11 ct11 : Value} {od11 an11 : Option Addr} {sl11 : Array (Option Value)} {cd11 : Value} {kV11 : Value}
    {f12 : Addr} {oc12 dc12 pm12 ct12 : Value} {od12 an12 : Option Addr} {sl12 : Array (Option Value)} {cd12 : Value} {kV12 : Value}
    {f13 : Addr} {oc13 dc13 pm13 ct13 : Value} {od13 an13 : Option Addr} {sl13 : Array (Option Value)} {cd13 : Value} {kV13 : Value}
    {f14 : Addr} {oc14 dc14 pm14 ct14 : Value} {od14 an14 : Option Addr} {sl14 : Array (Option Value)} {cd14 : Value} {kV14 : Value}
    {f15 : Addr} {oc15 dc15 pm15 ct15 : Value} {od15 an15 : Option Addr} {sl15 : Array (Option Value)} {cd15 : Value} {kV15 : Value}
    {f16 : Addr} {oc16 dc16 pm16 ct16 : Value} {od16 an16 : Option Addr} {sl16 : Array (Option Value)} {cd16 : Value} {kV16 : Value}
    {f17 : Addr} {oc17 dc17 pm17 ct17 : Value} {od17 an17 : Option Addr} {sl17 : Array (Option Value)} {cd17 : Value} {kV17 : Value}
    {f18 : Addr} {oc18 dc18 pm18 ct18 : Value} {od18 an18 : Option Addr} {sl18 : Array (Option Value)} {cd18 : Value} {kV18 : Value}
    {f19 : Addr} {oc19 dc19 pm19 ct19 : Value} {od19 an19 : Option Addr} {sl19 : Array (Option Value)} {cd19 : Value} {kV19 : Value}
    {f20 : Addr} {oc20 dc20 pm20 ct20 : Value} {od20 an20 : Option Addr} {sl20 : Array (Option Value)} {cd20 : Value} {kV20 : Value}
    {f21 : Addr} {oc21 dc21 pm21 ct21 : Value} {od21 an21 : Option Addr} {sl21 : Array (Option Value)} {cd21 : Value} {kV21 : Value}
    {f22 : Addr} {oc22 dc22 pm22 ct22 : Value} {od22 an22 : Option Addr} {sl22 : Array (Option Value)} {cd22 : Value} {kV22 : Value}
    {f23 : Addr} {oc23 dc23 pm23 ct23 : Value} {od23 an23 : Option Addr} {sl23 : Array (Option Value)} {cd23 : Value} {kV23 : Value}
    {f24 : Addr} {oc24 dc24 pm24 ct24 : Value} {od24 an24 : Option Addr} {sl24 : Array (Option Value)} {cd24 : Value} {kV24 : Value}
    {f25 : Addr} {oc25 dc25 pm25 ct25 : Value} {od25 an25 : Option Addr} {sl25 : Array (Option Value)} {cd25 : Value} {kV25 : Value}
    {f26 : Addr} {oc26 dc26 pm26 ct26 : Value} {od26 an26 : Option Addr} {sl26 : Array (Option Value)} {cd26 : Value} {kV26 : Value}
    {f27 : Addr} {oc27 dc27 pm27 ct27 : Value} {od27 an27 : Option Addr} {sl27 : Array (Option Value)} {cd27 : Value} {kV27 : Value}
    {f28 : Addr} {oc28 dc28 pm28 ct28 : Value} {od28 an28 : Option Addr} {sl28 : Array (Option Value)} {cd28 : Value} {kV28 : Value}
    {f29 : Addr} {oc29 dc29 pm29 ct29 : Value} {od29 an29 : Option Addr} {sl29 : Array (Option Value)} {cd29 : Value} {kV29 : Value}
    {f30 : Addr} {oc30 dc30 pm30 ct30 : Value} {od30 an30 : Option Addr} {sl30 : Array (Option Value)} {cd30 : Value} {kV30 : Value}
    {f31 : Addr} {oc31 dc31 pm31 ct31 : Value} {od31 an31 : Option Addr} {sl31 : Array (Option Value)} {cd31 : Value} {kV31 : Value}
    {f32 : Addr} {oc32 dc32 pm32 ct32 : Value} {od32 an32 : Option Addr} {sl32 : Array (Option Value)} {cd32 : Value} {kV32 : Value}
    {f33 : Addr} {oc33 dc33 pm33 ct33 : Value} {od33 an33 : Option Addr} {sl33 : Array (Option Value)} {cd33 : Value} {kV33 : Value}
    {f34 : Addr} {oc34 dc34 pm34 ct34 : Value} {od34 an34 : Option Addr} {sl34 : Array (Option Value)} {cd34 : Value} {kV34 : Value}
    {f35 : Addr} {oc35 dc35 pm35 ct35 : Value} {od35 an35 : Option Addr} {sl35 : Array (Option Value)} {cd35 : Value}
    {KD35 : Addr}
    {tp2 : Addr} {tod2 : Option Addr} {tn2 : Nat} {tsl2 : Array (Option Value)}
    {tp3 : Addr} {tod3 : Option Addr} {tn3 : Nat} {tsl3 : Array (Option Value)}
    {tk4 : Tok}
    {tk5 : Tok}
    {tp6 : Addr} {tod6 : Option Addr} {tn6 : Nat} {tsl6 : Array (Option Value)}
    {tk7 : Tok}
    {tk8 : Tok}
    {f36 : Addr} {oc36 dc36 pm36 ct36 : Value} {od36 an36 : Option Addr} {sl36 : Array (Option Value)} {cd36 : Value} {kV36 : Value}
    {f37 : Addr} {oc37 dc37 pm37 ct37 : Value} {od37 an37 : Option Addr} {sl37 : Array (Option Value)} {cd37 : Value} {kV37 : Value}
    {f38 : Addr} {oc38 dc38 pm38 ct38 : Value} {od38 an38 : Option Addr} {sl38 : Array (Option Value)} {cd38 : Value} {kV38 : Value}
    {f39 : Addr} {oc39 dc39 pm39 ct39 : Value} {od39 an39 : Option Addr} {sl39 : Array (Option Value)} {cd39 : Value} {kV39 : Value}
    {f40 : Addr} {oc40 dc40 pm40 ct40 : Value} {od40 an40 : Option Addr} {sl40 : Array (Option Value)} {cd40 : Value} {kV40 : Value}
    {f41 : Addr} {oc41 dc41 pm41 ct41 : Value} {od41 an41 : Option Addr} {sl41 : Array (Option Value)} {cd41 : Value} {kV41 : Value}
    {f42 : Addr} {oc42 dc42 pm42 ct42 : Value} {od42 an42 : Option Addr} {sl42 : Array (Option Value)} {kV42 : Value}
    {tp9 : Addr} {tod9 : Option Addr} {tn9 : Nat} {tsl9 : Array (Option Value)}
    {tk10 : Tok}
    {tk11 : Tok}
    {tp12 : Addr} {tod12 : Option Addr} {tn12 : Nat} {tsl12 : Array (Option Value)}
    {tp13 : Addr} {tod13 : Option Addr} {tn13 : Nat} {tsl13 : Array (Option Value)}
    {tk14 : Tok}
    {tk15 : Tok}
    {tp16 : Addr} {tod16 : Option Addr} {tn16 : Nat} {tsl16 : Array (Option Value)}
    {tk17 : Tok}
    {tk18 : Tok}
    {tp19 : Addr} {tod19 : Option Addr} {tn19 : Nat} {tsl19 : Array (Option Value)}
    {tk20 : Tok}
    {tk21 : Tok}
    {tp22 : Addr} {tod22 : Option Addr} {tn22 : Nat} {tsl22 : Array (Option Value)}
    {tp23 : Addr} {tod23 : Option Addr} {tn23 : Nat} {tsl23 : Array (Option Value)}
    {tk24 : Tok}
    {tk25 : Tok}
    {tp26 : Addr} {tod26 : Option Addr} {tn26 : Nat} {tsl26 : Array (Option Value)}
    {tk27 : Tok}
    {tk28 : Tok}
    {tk29 : Tok}
    {tk30 : Tok}
    {tk31 : Tok}
    {XC0 XI0 : Addr} {xnm0 xq0 : Str} {xN0 : Addr} {xbs0 xbm0 : List Value} {xsn0 : List Str} {xsu0 : List Value} {xab0 : Bool} {xco0 : Option Bool} {xdd0 : Option Addr} {xka0 xkb0 xkc0 xkd0 xke0 : Option Value}
    {xoc0 xkV0 xdc0 xpm0 xcd0 xct0 : Value} {xod0 xan0 : Option Addr} {xsl0 : Array (Option Value)}
    {XC1 XI1 : Addr} {xnm1 xq1 : Str} {xN1 : Addr} {xbs1 xbm1 : List Value} {xsn1 : List Str} {xsu1 : List Value} {xab1 : Bool} {xco1 : Option Bool} {xdd1 : Option Addr} {xka1 xkb1 xkc1 xkd1 xke1 : Option Value}
    {xoc1 xkV1 xdc1 xpm1 xcd1 xct1 : Value} {xod1 xan1 : Option Addr} {xsl1 : Array (Option Value)}
    {XC2 XI2 : Addr} {xnm2 xq2 : Str} {xN2 : Addr} {xbs2 xbm2 : List Value} {xsn2 : List Str} {xsu2 : List Value} {xab2 : Bool} {xco2 : Option Bool} {xdd2 : Option Addr} {xka2 xkb2 xkc2 xkd2 xke2 : Option Value}
    {xoc2 xkV2 xdc2 xpm2 xcd2 xct2 : Value} {xod2 xan2 : Option Addr} {xsl2 : Array (Option Value)}
    {XC3 XI3 : Addr} {xnm3 xq3 : Str} {xN3 : Addr} {xbs3 xbm3 : List Value} {xsn3 : List Str} {xsu3 : List Value} {xab3 : Bool} {xco3 : Option Bool} {xdd3 : Option Addr} {xka3 xkb3 xkc3 xkd3 xke3 : Option Value}
    {xoc3 xkV3 xdc3 xpm3 xcd3 xct3 : Value} {xod3 xan3 : Option Addr} {xsl3 : Array (Option Value)}
    {XC4 XI4 : Addr} {xnm4 xq4 : Str} {xN4 : Addr} {xbs4 xbm4 : List Value} {xsn4 : List Str} {xsu4 : List Value} {xab4 : Bool} {xco4 : Option Bool} {xdd4 : Option Addr} {xka4 xkb4 xkc4 xkd4 xke4 : Option Value}
    {xoc4 xkV4 xdc4 xpm4 xcd4 xct4 : Value} {xod4 xan4 : Option Addr} {xsl4 : Array (Option Value)}
    {XC5 XI5 : Addr} {xnm5 xq5 : Str} {xN5 : Addr} {xbs5 xbm5 : List Value} {xsn5 : List Str} {xsu5 : List Value} {xab5 : Bool} {xco5 : Option Bool} {xdd5 : Option Addr} {xka5 xkb5 xkc5 xkd5 xke5 : Option Value}
    {xoc5 xkV5 xdc5 xpm5 xcd5 xct5 : Value} {xod5 xan5 : Option Addr} {xsl5 : Array (Option Value)}
    {XC6 XI6 : Addr} {xnm6 xq6 : Str} {xN6 : Addr} {xbs6 xbm6 : List Value} {xsn6 : List Str} {xsu6 : List Value} {xab6 : Bool} {xco6 : Option Bool} {xdd6 : Option Addr} {xka6 xkb6 xkc6 xkd6 xke6 : Option Value}
    {xoc6 xkV6 xdc6 xpm6 xcd6 xct6 : Value} {xod6 xan6 : Option Addr} {xsl6 : Array (Option Value)}
    {Y_BadName : Addr}
    {Y_Twice : Addr}
    {Y_Taken : Addr}
    {Y_InUse : Addr}
    {Y_NoRow : Addr}
    {Y_NoWatch : Addr}
    {Y_Nought : Addr}
    {Y_BadCorner : Addr}
    {Y_Flat : Addr}
    {Y_Unbuilt : Addr}
    {Y_BadText : Addr}
    {Y_Folded : Addr}
    {Y_BadRow : Addr}
    {Y_Full : Addr}
    {Y_BadDeed : Addr}
    {Y_RodError : Addr}
    {Y_Missing : Addr}
    {fT : Addr} {ocT kVT dcT pmT cdT ctT : Value} {odT anT : Option Addr} {slT : Array (Option Value)}
    {cL PL : Addr}
    (a0 : PySem.W.nsIn K mainGlobals "_wall" = some (some (.ref f0)))
    (a1 : PySem.W.nsIn K mainGlobals "shared_by" = some (some (.ref f1)))
    (a2 : PySem.W.nsIn K mainGlobals "part" = some (some (.ref f2)))
    (a3 : PySem.W.nsIn K mainGlobals "plus" = some (some (.ref f3)))
    (a4 : PySem.W.nsIn K mainGlobals "less" = some (some (.ref f4)))
    (a5 : PySem.W.nsIn K mainGlobals "times" = some (some (.ref f5)))
    (a6 : PySem.W.nsIn K mainGlobals "over" = some (some (.ref f6)))
    (a7 : PySem.W.nsIn K mainGlobals "summed" = some (some (.ref f7)))
    (a8 : PySem.W.nsIn K mainGlobals "off" = some (some (.ref f8)))
    (a9 : PySem.W.nsIn K mainGlobals "mate" = some (some (.ref f9)))
    (a10 : PySem.W.nsIn K mainGlobals "made" = some (some (.ref f10)))
    (a11 : PySem.W.nsIn K mainGlobals "often" = some (some (.ref f11)))
    (a12 : PySem.W.nsIn K mainGlobals "weight" = some (some (.ref f12)))
    (a13 : PySem.W.nsIn K mainGlobals "parted" = some (some (.ref f13)))
    (a14 : PySem.W.nsIn K mainGlobals "copied" = some (some (.ref f14)))
    (a15 : PySem.W.nsIn K mainGlobals "entry" = some (some (.ref f15)))
    (a16 : PySem.W.nsIn K mainGlobals "grown_by" = some (some (.ref f16)))
    (a17 : PySem.W.nsIn K mainGlobals "whole_of" = some (some (.ref f17)))
    (a19 : PySem.W.nsIn K mainGlobals "whole" = some (some (.ref f19)))
    (a20 : PySem.W.nsIn K mainGlobals "is_name" = some (some (.ref f20)))
    (a21 : PySem.W.nsIn K mainGlobals "need_rods" = some (some (.ref f21)))
    (a22 : PySem.W.nsIn K mainGlobals "exchanged" = some (some (.ref f22)))
    (a23 : PySem.W.nsIn K mainGlobals "rods_traded" = some (some (.ref f23)))
    (a24 : PySem.W.nsIn K mainGlobals "corners_of" = some (some (.ref f24)))
    (a25 : PySem.W.nsIn K mainGlobals "_law_box" = some (some (.ref f25)))
    (a26 : PySem.W.nsIn K mainGlobals "_law_draw" = some (some (.ref f26)))
    (a27 : PySem.W.nsIn K mainGlobals "_law_of" = some (some (.ref f27)))
    (a28 : PySem.W.nsIn K mainGlobals "_law_names" = some (some (.ref f28)))
    (a29 : PySem.W.nsIn K mainGlobals "_law_low" = some (some (.ref f29)))
    (a30 : PySem.W.nsIn K mainGlobals "_law_small" = some (some (.ref f30)))
    (a31 : PySem.W.nsIn K mainGlobals "_law_spot" = some (some (.ref f31)))
    (a32 : PySem.W.nsIn K mainGlobals "_law_arrow" = some (some (.ref f32)))
    (a33 : PySem.W.nsIn K mainGlobals "_law_rods" = some (some (.ref f33)))
    (a34 : PySem.W.nsIn K mainGlobals "_law_like" = some (some (.ref f34)))
    (a42 : PySem.W.nsIn K mainGlobals "law" = some (some (.ref f42)))
    (z_abs : PySem.W.nsIn K mainGlobals "abs" = some none)
    (z_all : PySem.W.nsIn K mainGlobals "all" = some none)
    (z_bool : PySem.W.nsIn K mainGlobals "bool" = some none)
    (z_enumerate : PySem.W.nsIn K mainGlobals "enumerate" = some none)
    (z_int : PySem.W.nsIn K mainGlobals "int" = some none)
    (z_isinstance : PySem.W.nsIn K mainGlobals "isinstance" = some none)
    (z_len : PySem.W.nsIn K mainGlobals "len" = some none)
    (z_list : PySem.W.nsIn K mainGlobals "list" = some none)
    (z_max : PySem.W.nsIn K mainGlobals "max" = some none)
    (z_range : PySem.W.nsIn K mainGlobals "range" = some none)
    (z_sorted : PySem.W.nsIn K mainGlobals "sorted" = some none)
    (z_str : PySem.W.nsIn K mainGlobals "str" = some none)
    (z_tuple : PySem.W.nsIn K mainGlobals "tuple" = some none)
    (g_ZERO : PySem.W.nsIn K mainGlobals "ZERO" = some (some (.ref tp9)))
    (g_ORIGIN : PySem.W.nsIn K mainGlobals "ORIGIN" = some (some (.ref tp12)))
    (g_ONE : PySem.W.nsIn K mainGlobals "ONE" = some (some (.ref tp19)))
    (g_LONE : PySem.W.nsIn K mainGlobals "LONE" = some (some (.ref tp22)))
    (g_MOST_NAME : PySem.W.nsIn K mainGlobals "MOST_NAME" = some (some (.int (6) tk29)))
    (g_LETTERS : PySem.W.nsIn K mainGlobals "LETTERS" = some (some (.str "abcdefghijklmnopqrstuvwxyz" tk30)))
    (g_MOST_RODS : PySem.W.nsIn K mainGlobals "MOST_RODS" = some (some (.int (8) tk31)))
    (ra_Row : PySem.W.nsIn K mainGlobals "Row" = some (some (.ref CR_Row)))
    (ri_Row : PySem.W.findIn K (.ref CR_Row) "__init__" = some (some (.ref f35)))
    (am18 : PySem.W.findIn K (.ref CR_Row) "rods" = some (some (.ref f18)))
    (am36 : PySem.W.findIn K (.ref CR_Row) "corners" = some (some (.ref f36)))
    (am37 : PySem.W.findIn K (.ref CR_Row) "end" = some (some (.ref f37)))
    (am38 : PySem.W.findIn K (.ref CR_Row) "names" = some (some (.ref f38)))
    (am39 : PySem.W.findIn K (.ref CR_Row) "traded" = some (some (.ref f39)))
    (am40 : PySem.W.findIn K (.ref CR_Row) "weights" = some (some (.ref f40)))
    (am41 : PySem.W.findIn K (.ref CR_Row) "__len__" = some (some (.ref f41)))
    (kf18 : PySem.W.isFn K (.ref f18) = true)
    (kf35 : PySem.W.isFn K (.ref f35) = true)
    (kf36 : PySem.W.isFn K (.ref f36) = true)
    (kf37 : PySem.W.isFn K (.ref f37) = true)
    (kf38 : PySem.W.isFn K (.ref f38) = true)
    (kf39 : PySem.W.isFn K (.ref f39) = true)
    (kf40 : PySem.W.isFn K (.ref f40) = true)
    (kf41 : PySem.W.isFn K (.ref f41) = true)
    (rp_Row : PySem.W.plainGet K CR_Row Str.empty = true)
    (rh_Row : PySem.W.hasDictIn K CR_Row = true)
    (ro_Row : PySem.W.plainOver K CR_Row = true)
    (rs_Row : PySem.W.findIn K (.ref CR_Row) "__setattr__" = some (some (.builtin "object.__setattr__")))
    (rm_Row : PySem.W.makesIn K CR_Row = true)
    (rk_Row : PySem.W.keepIn K (.ref CR_Row) = true)
    (rf_Row_lot : PySem.W.findIn K (.ref CR_Row) "lot" = some none)
    (rf_Row_first : PySem.W.findIn K (.ref CR_Row) "first" = some none)
    (l0 : K.lookup f0 = some ⟨oc0, od0, .func (PySem.W.fnOf "_wall" "_wall" (defArgs t_wall) (defBody t_wall) (defScope t_wall) .none kV0 dc0 pm0 an0 cd0 ct0), sl0⟩)
    (c0 : PySem.W.codeIn K cd0 "_wall" = true)
    (k0 : PySem.W.keepIn K (.ref f0) = true)
    (l1 : K.lookup f1 = some ⟨oc1, od1, .func (PySem.W.fnOf "shared_by" "shared_by" (defArgs t_shared_by) (defBody t_shared_by) (defScope t_shared_by) .none kV1 dc1 pm1 an1 cd1 ct1), sl1⟩)
    (c1 : PySem.W.codeIn K cd1 "shared_by" = true)
    (k1 : PySem.W.keepIn K (.ref f1) = true)
    (l2 : K.lookup f2 = some ⟨oc2, od2, .func (PySem.W.fnOf "part" "part" (defArgs t_part) (defBody t_part) (defScope t_part) (.ref T2) kV2 dc2 pm2 an2 cd2 ct2), sl2⟩)
    (c2 : PySem.W.codeIn K cd2 "part" = true)
    (k2 : PySem.W.keepIn K (.ref f2) = true)
    (l3 : K.lookup f3 = some ⟨oc3, od3, .func (PySem.W.fnOf "plus" "plus" (defArgs t_plus) (defBody t_plus) (defScope t_plus) .none kV3 dc3 pm3 an3 cd3 ct3), sl3⟩)
    (c3 : PySem.W.codeIn K cd3 "plus" = true)
    (k3 : PySem.W.keepIn K (.ref f3) = true)
    (l4 : K.lookup f4 = some ⟨oc4, od4, .func (PySem.W.fnOf "less" "less" (defArgs t_less) (defBody t_less) (defScope t_less) .none kV4 dc4 pm4 an4 cd4 ct4), sl4⟩)
    (c4 : PySem.W.codeIn K cd4 "less" = true)
    (k4 : PySem.W.keepIn K (.ref f4) = true)
    (l5 : K.lookup f5 = some ⟨oc5, od5, .func (PySem.W.fnOf "times" "times" (defArgs t_times) (defBody t_times) (defScope t_times) .none kV5 dc5 pm5 an5 cd5 ct5), sl5⟩)
    (c5 : PySem.W.codeIn K cd5 "times" = true)
    (k5 : PySem.W.keepIn K (.ref f5) = true)
    (l6 : K.lookup f6 = some ⟨oc6, od6, .func (PySem.W.fnOf "over" "over" (defArgs t_over) (defBody t_over) (defScope t_over) .none kV6 dc6 pm6 an6 cd6 ct6), sl6⟩)
    (c6 : PySem.W.codeIn K cd6 "over" = true)
    (k6 : PySem.W.keepIn K (.ref f6) = true)
    (l7 : K.lookup f7 = some ⟨oc7, od7, .func (PySem.W.fnOf "summed" "summed" (defArgs t_summed) (defBody t_summed) (defScope t_summed) .none kV7 dc7 pm7 an7 cd7 ct7), sl7⟩)
    (c7 : PySem.W.codeIn K cd7 "summed" = true)
    (k7 : PySem.W.keepIn K (.ref f7) = true)
    (l8 : K.lookup f8 = some ⟨oc8, od8, .func (PySem.W.fnOf "off" "off" (defArgs t_off) (defBody t_off) (defScope t_off) .none kV8 dc8 pm8 an8 cd8 ct8), sl8⟩)
    (c8 : PySem.W.codeIn K cd8 "off" = true)
    (k8 : PySem.W.keepIn K (.ref f8) = true)
    (l9 : K.lookup f9 = some ⟨oc9, od9, .func (PySem.W.fnOf "mate" "mate" (defArgs t_mate) (defBody t_mate) (defScope t_mate) .none kV9 dc9 pm9 an9 cd9 ct9), sl9⟩)
    (c9 : PySem.W.codeIn K cd9 "mate" = true)
    (k9 : PySem.W.keepIn K (.ref f9) = true)
    (l10 : K.lookup f10 = some ⟨oc10, od10, .func (PySem.W.fnOf "made" "made" (defArgs t_made) (defBody t_made) (defScope t_made) .none kV10 dc10 pm10 an10 cd10 ct10), sl10⟩)
    (c10 : PySem.W.codeIn K cd10 "made" = true)
    (k10 : PySem.W.keepIn K (.ref f10) = true)
    (l11 : K.lookup f11 = some ⟨oc11, od11, .func (PySem.W.fnOf "often" "often" (defArgs t_often) (defBody t_often) (defScope t_often) .none kV11 dc11 pm11 an11 cd11 ct11), sl11⟩)
    (c11 : PySem.W.codeIn K cd11 "often" = true)
    (k11 : PySem.W.keepIn K (.ref f11) = true)
    (l12 : K.lookup f12 = some ⟨oc12, od12, .func (PySem.W.fnOf "weight" "weight" (defArgs t_weight) (defBody t_weight) (defScope t_weight) .none kV12 dc12 pm12 an12 cd12 ct12), sl12⟩)
    (c12 : PySem.W.codeIn K cd12 "weight" = true)
    (k12 : PySem.W.keepIn K (.ref f12) = true)
    (l13 : K.lookup f13 = some ⟨oc13, od13, .func (PySem.W.fnOf "parted" "parted" (defArgs t_parted) (defBody t_parted) (defScope t_parted) .none kV13 dc13 pm13 an13 cd13 ct13), sl13⟩)
    (c13 : PySem.W.codeIn K cd13 "parted" = true)
    (k13 : PySem.W.keepIn K (.ref f13) = true)
    (l14 : K.lookup f14 = some ⟨oc14, od14, .func (PySem.W.fnOf "copied" "copied" (defArgs t_copied) (defBody t_copied) (defScope t_copied) .none kV14 dc14 pm14 an14 cd14 ct14), sl14⟩)
    (c14 : PySem.W.codeIn K cd14 "copied" = true)
    (k14 : PySem.W.keepIn K (.ref f14) = true)
    (l15 : K.lookup f15 = some ⟨oc15, od15, .func (PySem.W.fnOf "entry" "entry" (defArgs t_entry) (defBody t_entry) (defScope t_entry) .none kV15 dc15 pm15 an15 cd15 ct15), sl15⟩)
    (c15 : PySem.W.codeIn K cd15 "entry" = true)
    (k15 : PySem.W.keepIn K (.ref f15) = true)
    (l16 : K.lookup f16 = some ⟨oc16, od16, .func (PySem.W.fnOf "grown_by" "grown_by" (defArgs t_grown_by) (defBody t_grown_by) (defScope t_grown_by) .none kV16 dc16 pm16 an16 cd16 ct16), sl16⟩)
    (c16 : PySem.W.codeIn K cd16 "grown_by" = true)
    (k16 : PySem.W.keepIn K (.ref f16) = true)
    (l17 : K.lookup f17 = some ⟨oc17, od17, .func (PySem.W.fnOf "whole_of" "whole_of" (defArgs t_whole_of) (defBody t_whole_of) (defScope t_whole_of) .none kV17 dc17 pm17 an17 cd17 ct17), sl17⟩)
    (c17 : PySem.W.codeIn K cd17 "whole_of" = true)
    (k17 : PySem.W.keepIn K (.ref f17) = true)
    (l18 : K.lookup f18 = some ⟨oc18, od18, .func (PySem.W.fnOf "rods" "Row.rods" (defArgs t_Row_rods) (defBody t_Row_rods) (defScope t_Row_rods) .none kV18 dc18 pm18 an18 cd18 ct18), sl18⟩)
    (c18 : PySem.W.codeIn K cd18 "Row.rods" = true)
    (k18 : PySem.W.keepIn K (.ref f18) = true)
    (l19 : K.lookup f19 = some ⟨oc19, od19, .func (PySem.W.fnOf "whole" "whole" (defArgs t_whole) (defBody t_whole) (defScope t_whole) .none kV19 dc19 pm19 an19 cd19 ct19), sl19⟩)
    (c19 : PySem.W.codeIn K cd19 "whole" = true)
    (k19 : PySem.W.keepIn K (.ref f19) = true)
    (l20 : K.lookup f20 = some ⟨oc20, od20, .func (PySem.W.fnOf "is_name" "is_name" (defArgs t_is_name) (defBody t_is_name) (defScope t_is_name) .none kV20 dc20 pm20 an20 cd20 ct20), sl20⟩)
    (c20 : PySem.W.codeIn K cd20 "is_name" = true)
    (k20 : PySem.W.keepIn K (.ref f20) = true)
    (l21 : K.lookup f21 = some ⟨oc21, od21, .func (PySem.W.fnOf "need_rods" "need_rods" (defArgs t_need_rods) (defBody t_need_rods) (defScope t_need_rods) .none kV21 dc21 pm21 an21 cd21 ct21), sl21⟩)
    (c21 : PySem.W.codeIn K cd21 "need_rods" = true)
    (k21 : PySem.W.keepIn K (.ref f21) = true)
    (l22 : K.lookup f22 = some ⟨oc22, od22, .func (PySem.W.fnOf "exchanged" "exchanged" (defArgs t_exchanged) (defBody t_exchanged) (defScope t_exchanged) .none kV22 dc22 pm22 an22 cd22 ct22), sl22⟩)
    (c22 : PySem.W.codeIn K cd22 "exchanged" = true)
    (k22 : PySem.W.keepIn K (.ref f22) = true)
    (l23 : K.lookup f23 = some ⟨oc23, od23, .func (PySem.W.fnOf "rods_traded" "rods_traded" (defArgs t_rods_traded) (defBody t_rods_traded) (defScope t_rods_traded) .none kV23 dc23 pm23 an23 cd23 ct23), sl23⟩)
    (c23 : PySem.W.codeIn K cd23 "rods_traded" = true)
    (k23 : PySem.W.keepIn K (.ref f23) = true)
    (l24 : K.lookup f24 = some ⟨oc24, od24, .func (PySem.W.fnOf "corners_of" "corners_of" (defArgs t_corners_of) (defBody t_corners_of) (defScope t_corners_of) .none kV24 dc24 pm24 an24 cd24 ct24), sl24⟩)
    (c24 : PySem.W.codeIn K cd24 "corners_of" = true)
    (k24 : PySem.W.keepIn K (.ref f24) = true)
    (l25 : K.lookup f25 = some ⟨oc25, od25, .func (PySem.W.fnOf "_law_box" "_law_box" (defArgs t_l_box) (defBody t_l_box) (defScope t_l_box) .none kV25 dc25 pm25 an25 cd25 ct25), sl25⟩)
    (c25 : PySem.W.codeIn K cd25 "_law_box" = true)
    (k25 : PySem.W.keepIn K (.ref f25) = true)
    (l26 : K.lookup f26 = some ⟨oc26, od26, .func (PySem.W.fnOf "_law_draw" "_law_draw" (defArgs t_l_draw) (defBody t_l_draw) (defScope t_l_draw) .none kV26 dc26 pm26 an26 cd26 ct26), sl26⟩)
    (c26 : PySem.W.codeIn K cd26 "_law_draw" = true)
    (k26 : PySem.W.keepIn K (.ref f26) = true)
    (l27 : K.lookup f27 = some ⟨oc27, od27, .func (PySem.W.fnOf "_law_of" "_law_of" (defArgs t_l_of) (defBody t_l_of) (defScope t_l_of) .none kV27 dc27 pm27 an27 cd27 ct27), sl27⟩)
    (c27 : PySem.W.codeIn K cd27 "_law_of" = true)
    (k27 : PySem.W.keepIn K (.ref f27) = true)
    (l28 : K.lookup f28 = some ⟨oc28, od28, .func (PySem.W.fnOf "_law_names" "_law_names" (defArgs t_l_names) (defBody t_l_names) (defScope t_l_names) .none kV28 dc28 pm28 an28 cd28 ct28), sl28⟩)
    (c28 : PySem.W.codeIn K cd28 "_law_names" = true)
    (k28 : PySem.W.keepIn K (.ref f28) = true)
    (l29 : K.lookup f29 = some ⟨oc29, od29, .func (PySem.W.fnOf "_law_low" "_law_low" (defArgs t_l_low) (defBody t_l_low) (defScope t_l_low) .none kV29 dc29 pm29 an29 cd29 ct29), sl29⟩)
    (c29 : PySem.W.codeIn K cd29 "_law_low" = true)
    (k29 : PySem.W.keepIn K (.ref f29) = true)
    (l30 : K.lookup f30 = some ⟨oc30, od30, .func (PySem.W.fnOf "_law_small" "_law_small" (defArgs t_l_small) (defBody t_l_small) (defScope t_l_small) .none kV30 dc30 pm30 an30 cd30 ct30), sl30⟩)
    (c30 : PySem.W.codeIn K cd30 "_law_small" = true)
    (k30 : PySem.W.keepIn K (.ref f30) = true)
    (l31 : K.lookup f31 = some ⟨oc31, od31, .func (PySem.W.fnOf "_law_spot" "_law_spot" (defArgs t_l_spot) (defBody t_l_spot) (defScope t_l_spot) .none kV31 dc31 pm31 an31 cd31 ct31), sl31⟩)
    (c31 : PySem.W.codeIn K cd31 "_law_spot" = true)
    (k31 : PySem.W.keepIn K (.ref f31) = true)
    (l32 : K.lookup f32 = some ⟨oc32, od32, .func (PySem.W.fnOf "_law_arrow" "_law_arrow" (defArgs t_l_arrow) (defBody t_l_arrow) (defScope t_l_arrow) .none kV32 dc32 pm32 an32 cd32 ct32), sl32⟩)
    (c32 : PySem.W.codeIn K cd32 "_law_arrow" = true)
    (k32 : PySem.W.keepIn K (.ref f32) = true)
    (l33 : K.lookup f33 = some ⟨oc33, od33, .func (PySem.W.fnOf "_law_rods" "_law_rods" (defArgs t_l_rods) (defBody t_l_rods) (defScope t_l_rods) .none kV33 dc33 pm33 an33 cd33 ct33), sl33⟩)
    (c33 : PySem.W.codeIn K cd33 "_law_rods" = true)
    (k33 : PySem.W.keepIn K (.ref f33) = true)
    (l34 : K.lookup f34 = some ⟨oc34, od34, .func (PySem.W.fnOf "_law_like" "_law_like" (defArgs t_l_like) (defBody t_l_like) (defScope t_l_like) .none kV34 dc34 pm34 an34 cd34 ct34), sl34⟩)
    (c34 : PySem.W.codeIn K cd34 "_law_like" = true)
    (k34 : PySem.W.keepIn K (.ref f34) = true)
    (l35 : K.lookup f35 = some ⟨oc35, od35, .func (PySem.W.fnOf "__init__" "Row.__init__" (defArgs t_Row___init) (defBody t_Row___init) (defScope t_Row___init) .none (.ref KD35) dc35 pm35 an35 cd35 ct35), sl35⟩)
    (c35 : PySem.W.codeIn K cd35 "Row.__init__" = true)
    (k35 : PySem.W.keepIn K (.ref f35) = true)
    (l36 : K.lookup f36 = some ⟨oc36, od36, .func (PySem.W.fnOf "corners" "Row.corners" (defArgs t_Row_corners) (defBody t_Row_corners) (defScope t_Row_corners) .none kV36 dc36 pm36 an36 cd36 ct36), sl36⟩)
    (c36 : PySem.W.codeIn K cd36 "Row.corners" = true)
    (k36 : PySem.W.keepIn K (.ref f36) = true)
    (l37 : K.lookup f37 = some ⟨oc37, od37, .func (PySem.W.fnOf "end" "Row.end" (defArgs t_Row_end) (defBody t_Row_end) (defScope t_Row_end) .none kV37 dc37 pm37 an37 cd37 ct37), sl37⟩)
    (c37 : PySem.W.codeIn K cd37 "Row.end" = true)
    (k37 : PySem.W.keepIn K (.ref f37) = true)
    (l38 : K.lookup f38 = some ⟨oc38, od38, .func (PySem.W.fnOf "names" "Row.names" (defArgs t_Row_names) (defBody t_Row_names) (defScope t_Row_names) .none kV38 dc38 pm38 an38 cd38 ct38), sl38⟩)
    (c38 : PySem.W.codeIn K cd38 "Row.names" = true)
    (k38 : PySem.W.keepIn K (.ref f38) = true)
    (l39 : K.lookup f39 = some ⟨oc39, od39, .func (PySem.W.fnOf "traded" "Row.traded" (defArgs t_Row_traded) (defBody t_Row_traded) (defScope t_Row_traded) .none kV39 dc39 pm39 an39 cd39 ct39), sl39⟩)
    (c39 : PySem.W.codeIn K cd39 "Row.traded" = true)
    (k39 : PySem.W.keepIn K (.ref f39) = true)
    (l40 : K.lookup f40 = some ⟨oc40, od40, .func (PySem.W.fnOf "weights" "Row.weights" (defArgs t_Row_weights) (defBody t_Row_weights) (defScope t_Row_weights) .none kV40 dc40 pm40 an40 cd40 ct40), sl40⟩)
    (c40 : PySem.W.codeIn K cd40 "Row.weights" = true)
    (k40 : PySem.W.keepIn K (.ref f40) = true)
    (l41 : K.lookup f41 = some ⟨oc41, od41, .func (PySem.W.fnOf "__len__" "Row.__len__" (defArgs t_Row___len) (defBody t_Row___len) (defScope t_Row___len) .none kV41 dc41 pm41 an41 cd41 ct41), sl41⟩)
    (c41 : PySem.W.codeIn K cd41 "Row.__len__" = true)
    (k41 : PySem.W.keepIn K (.ref f41) = true)
    (l42 : K.lookup f42 = some ⟨oc42, od42, .func (PySem.W.fnOf "law" "law" (defArgs t_law) (defBody t_law) (defScope t_law) .none kV42 dc42 pm42 an42 (.ref cL) ct42), sl42⟩)
    (c42 : PySem.W.codeIn K (.ref cL) "law" = true)
    (k42 : PySem.W.keepIn K (.ref f42) = true)
    (T_2 : K.lookup T2 = some ⟨Tc2, Tod2, .seq ([(.int (1) tk1)] : List Value).toArray Tn2, Tsl2⟩)
    (q35 : PySem.W.nsIn K KD35 "start" = some (some (.ref tp2)))
    (lt2 : K.lookup tp2 = some ⟨.type "tuple", tod2, .seq ([(.ref tp3), (.ref tp6)] : List Value).toArray tn2, tsl2⟩)
    (lt3 : K.lookup tp3 = some ⟨.type "tuple", tod3, .seq ([(.int (0) tk4), (.int (1) tk5)] : List Value).toArray tn3, tsl3⟩)
    (lt6 : K.lookup tp6 = some ⟨.type "tuple", tod6, .seq ([(.int (0) tk7), (.int (1) tk8)] : List Value).toArray tn6, tsl6⟩)
    (lt9 : K.lookup tp9 = some ⟨.type "tuple", tod9, .seq ([(.int (0) tk10), (.int (1) tk11)] : List Value).toArray tn9, tsl9⟩)
    (lt12 : K.lookup tp12 = some ⟨.type "tuple", tod12, .seq ([(.ref tp13), (.ref tp16)] : List Value).toArray tn12, tsl12⟩)
    (lt13 : K.lookup tp13 = some ⟨.type "tuple", tod13, .seq ([(.int (0) tk14), (.int (1) tk15)] : List Value).toArray tn13, tsl13⟩)
    (lt16 : K.lookup tp16 = some ⟨.type "tuple", tod16, .seq ([(.int (0) tk17), (.int (1) tk18)] : List Value).toArray tn16, tsl16⟩)
    (lt19 : K.lookup tp19 = some ⟨.type "tuple", tod19, .seq ([(.int (1) tk20), (.int (1) tk21)] : List Value).toArray tn19, tsl19⟩)
    (lt22 : K.lookup tp22 = some ⟨.type "tuple", tod22, .seq ([(.ref tp23), (.ref tp26)] : List Value).toArray tn22, tsl22⟩)
    (lt23 : K.lookup tp23 = some ⟨.type "tuple", tod23, .seq ([(.int (1) tk24), (.int (1) tk25)] : List Value).toArray tn23, tsl23⟩)
    (lt26 : K.lookup tp26 = some ⟨.type "tuple", tod26, .seq ([(.int (0) tk27), (.int (1) tk28)] : List Value).toArray tn26, tsl26⟩)
    (xa0 : PySem.W.nsIn K mainGlobals "BadPart" = some (some (.ref XC0)))
    (xl0 : K.lookup XC0 = some (excClassObj xnm0 xq0 XC0 xN0 xbs0 xbm0 true xsn0 xsu0 xab0 xco0 xdd0 xka0 xkb0 xkc0 xkd0 xke0 "ValueError.__new__"))
    (xb0 : PySem.HandSPX.refsVE xbm0 = true)
    (xs0 : PySem.W.findIn K (.ref XC0) "__setattr__" = some (some (.builtin "object.__setattr__")))
    (xe0 : PySem.W.subIn K (.ref XC0) (.type "BaseException") = some true)
    (xt0 : PySem.W.typeIn K (.ref XC0) = some (.type "type"))
    (xk0 : PySem.W.keepIn K (.ref XC0) = true)
    (xi0 : PySem.W.findIn K (.ref XC0) "__init__" = some (some (.ref XI0)))
    (xj0 : PySem.W.typeIn K (.ref XI0) = some (.type "function"))
    (xm0 : K.lookup XI0 = some ⟨xoc0, xod0, .func (PySem.W.fnOf "__init__" "BadPart.__init__" (defArgs ti_BadPart) (defBody ti_BadPart) (defScope ti_BadPart) .none xkV0 xdc0 xpm0 xan0 xcd0 xct0), xsl0⟩)
    (xc0 : PySem.W.codeIn K xcd0 "BadPart.__init__" = true)
    (xf0_called : PySem.W.findIn K (.ref XC0) "called" = some none)
    (xa1 : PySem.W.nsIn K mainGlobals "BadName" = some (some (.ref XC1)))
    (xl1 : K.lookup XC1 = some (excClassObj xnm1 xq1 XC1 xN1 xbs1 xbm1 true xsn1 xsu1 xab1 xco1 xdd1 xka1 xkb1 xkc1 xkd1 xke1 "ValueError.__new__"))
    (xb1 : PySem.HandSPX.refsVE xbm1 = true)
    (xs1 : PySem.W.findIn K (.ref XC1) "__setattr__" = some (some (.builtin "object.__setattr__")))
    (xe1 : PySem.W.subIn K (.ref XC1) (.type "BaseException") = some true)
    (xt1 : PySem.W.typeIn K (.ref XC1) = some (.type "type"))
    (xk1 : PySem.W.keepIn K (.ref XC1) = true)
    (xi1 : PySem.W.findIn K (.ref XC1) "__init__" = some (some (.ref XI1)))
    (xj1 : PySem.W.typeIn K (.ref XI1) = some (.type "function"))
    (xm1 : K.lookup XI1 = some ⟨xoc1, xod1, .func (PySem.W.fnOf "__init__" "BadName.__init__" (defArgs ti_BadName) (defBody ti_BadName) (defScope ti_BadName) .none xkV1 xdc1 xpm1 xan1 xcd1 xct1), xsl1⟩)
    (xc1 : PySem.W.codeIn K xcd1 "BadName.__init__" = true)
    (xf1_called : PySem.W.findIn K (.ref XC1) "called" = some none)
    (xf1_name : PySem.W.findIn K (.ref XC1) "name" = some none)
    (xa2 : PySem.W.nsIn K mainGlobals "Nought" = some (some (.ref XC2)))
    (xl2 : K.lookup XC2 = some (excClassObj xnm2 xq2 XC2 xN2 xbs2 xbm2 true xsn2 xsu2 xab2 xco2 xdd2 xka2 xkb2 xkc2 xkd2 xke2 "ValueError.__new__"))
    (xb2 : PySem.HandSPX.refsVE xbm2 = true)
    (xs2 : PySem.W.findIn K (.ref XC2) "__setattr__" = some (some (.builtin "object.__setattr__")))
    (xe2 : PySem.W.subIn K (.ref XC2) (.type "BaseException") = some true)
    (xt2 : PySem.W.typeIn K (.ref XC2) = some (.type "type"))
    (xk2 : PySem.W.keepIn K (.ref XC2) = true)
    (xi2 : PySem.W.findIn K (.ref XC2) "__init__" = some (some (.ref XI2)))
    (xj2 : PySem.W.typeIn K (.ref XI2) = some (.type "function"))
    (xm2 : K.lookup XI2 = some ⟨xoc2, xod2, .func (PySem.W.fnOf "__init__" "Nought.__init__" (defArgs ti_Nought) (defBody ti_Nought) (defScope ti_Nought) .none xkV2 xdc2 xpm2 xan2 xcd2 xct2), xsl2⟩)
    (xc2 : PySem.W.codeIn K xcd2 "Nought.__init__" = true)
    (xf2_called : PySem.W.findIn K (.ref XC2) "called" = some none)
    (xf2_at : PySem.W.findIn K (.ref XC2) "at" = some none)
    (xa3 : PySem.W.nsIn K mainGlobals "Twice" = some (some (.ref XC3)))
    (xl3 : K.lookup XC3 = some (excClassObj xnm3 xq3 XC3 xN3 xbs3 xbm3 true xsn3 xsu3 xab3 xco3 xdd3 xka3 xkb3 xkc3 xkd3 xke3 "ValueError.__new__"))
    (xb3 : PySem.HandSPX.refsVE xbm3 = true)
    (xs3 : PySem.W.findIn K (.ref XC3) "__setattr__" = some (some (.builtin "object.__setattr__")))
    (xe3 : PySem.W.subIn K (.ref XC3) (.type "BaseException") = some true)
    (xt3 : PySem.W.typeIn K (.ref XC3) = some (.type "type"))
    (xk3 : PySem.W.keepIn K (.ref XC3) = true)
    (xi3 : PySem.W.findIn K (.ref XC3) "__init__" = some (some (.ref XI3)))
    (xj3 : PySem.W.typeIn K (.ref XI3) = some (.type "function"))
    (xm3 : K.lookup XI3 = some ⟨xoc3, xod3, .func (PySem.W.fnOf "__init__" "Twice.__init__" (defArgs ti_Twice) (defBody ti_Twice) (defScope ti_Twice) .none xkV3 xdc3 xpm3 xan3 xcd3 xct3), xsl3⟩)
    (xc3 : PySem.W.codeIn K xcd3 "Twice.__init__" = true)
    (xf3_called : PySem.W.findIn K (.ref XC3) "called" = some none)
    (xf3_name : PySem.W.findIn K (.ref XC3) "name" = some none)
    (xa4 : PySem.W.nsIn K mainGlobals "BadRow" = some (some (.ref XC4)))
    (xl4 : K.lookup XC4 = some (excClassObj xnm4 xq4 XC4 xN4 xbs4 xbm4 true xsn4 xsu4 xab4 xco4 xdd4 xka4 xkb4 xkc4 xkd4 xke4 "ValueError.__new__"))
    (xb4 : PySem.HandSPX.refsVE xbm4 = true)
    (xs4 : PySem.W.findIn K (.ref XC4) "__setattr__" = some (some (.builtin "object.__setattr__")))
    (xe4 : PySem.W.subIn K (.ref XC4) (.type "BaseException") = some true)
    (xt4 : PySem.W.typeIn K (.ref XC4) = some (.type "type"))
    (xk4 : PySem.W.keepIn K (.ref XC4) = true)
    (xi4 : PySem.W.findIn K (.ref XC4) "__init__" = some (some (.ref XI4)))
    (xj4 : PySem.W.typeIn K (.ref XI4) = some (.type "function"))
    (xm4 : K.lookup XI4 = some ⟨xoc4, xod4, .func (PySem.W.fnOf "__init__" "BadRow.__init__" (defArgs ti_BadRow) (defBody ti_BadRow) (defScope ti_BadRow) .none xkV4 xdc4 xpm4 xan4 xcd4 xct4), xsl4⟩)
    (xc4 : PySem.W.codeIn K xcd4 "BadRow.__init__" = true)
    (xf4_called : PySem.W.findIn K (.ref XC4) "called" = some none)
    (xf4_many : PySem.W.findIn K (.ref XC4) "many" = some none)
    (xa5 : PySem.W.nsIn K mainGlobals "BadCorner" = some (some (.ref XC5)))
    (xl5 : K.lookup XC5 = some (excClassObj xnm5 xq5 XC5 xN5 xbs5 xbm5 true xsn5 xsu5 xab5 xco5 xdd5 xka5 xkb5 xkc5 xkd5 xke5 "ValueError.__new__"))
    (xb5 : PySem.HandSPX.refsVE xbm5 = true)
    (xs5 : PySem.W.findIn K (.ref XC5) "__setattr__" = some (some (.builtin "object.__setattr__")))
    (xe5 : PySem.W.subIn K (.ref XC5) (.type "BaseException") = some true)
    (xt5 : PySem.W.typeIn K (.ref XC5) = some (.type "type"))
    (xk5 : PySem.W.keepIn K (.ref XC5) = true)
    (xi5 : PySem.W.findIn K (.ref XC5) "__init__" = some (some (.ref XI5)))
    (xj5 : PySem.W.typeIn K (.ref XI5) = some (.type "function"))
    (xm5 : K.lookup XI5 = some ⟨xoc5, xod5, .func (PySem.W.fnOf "__init__" "BadCorner.__init__" (defArgs ti_BadCorner) (defBody ti_BadCorner) (defScope ti_BadCorner) .none xkV5 xdc5 xpm5 xan5 xcd5 xct5), xsl5⟩)
    (xc5 : PySem.W.codeIn K xcd5 "BadCorner.__init__" = true)
    (xf5_called : PySem.W.findIn K (.ref XC5) "called" = some none)
    (xf5_at : PySem.W.findIn K (.ref XC5) "at" = some none)
    (xa6 : PySem.W.nsIn K mainGlobals "Flat" = some (some (.ref XC6)))
    (xl6 : K.lookup XC6 = some (excClassObj xnm6 xq6 XC6 xN6 xbs6 xbm6 true xsn6 xsu6 xab6 xco6 xdd6 xka6 xkb6 xkc6 xkd6 xke6 "ValueError.__new__"))
    (xb6 : PySem.HandSPX.refsVE xbm6 = true)
    (xs6 : PySem.W.findIn K (.ref XC6) "__setattr__" = some (some (.builtin "object.__setattr__")))
    (xe6 : PySem.W.subIn K (.ref XC6) (.type "BaseException") = some true)
    (xt6 : PySem.W.typeIn K (.ref XC6) = some (.type "type"))
    (xk6 : PySem.W.keepIn K (.ref XC6) = true)
    (xi6 : PySem.W.findIn K (.ref XC6) "__init__" = some (some (.ref XI6)))
    (xj6 : PySem.W.typeIn K (.ref XI6) = some (.type "function"))
    (xm6 : K.lookup XI6 = some ⟨xoc6, xod6, .func (PySem.W.fnOf "__init__" "Flat.__init__" (defArgs ti_Flat) (defBody ti_Flat) (defScope ti_Flat) .none xkV6 xdc6 xpm6 xan6 xcd6 xct6), xsl6⟩)
    (xc6 : PySem.W.codeIn K xcd6 "Flat.__init__" = true)
    (xf6_called : PySem.W.findIn K (.ref XC6) "called" = some none)
    (xf6_at : PySem.W.findIn K (.ref XC6) "at" = some none)
    (xg0 : PySem.W.findIn K (.ref XC0) "__getattribute__" = some (some (.builtin "BaseException.__getattribute__")))
    (xh0 : PySem.W.findIn K (.ref XC0) "__getattr__" = some none)
    (xd0 : PySem.W.hasDictIn K XC0 = true)
    (xg1 : PySem.W.findIn K (.ref XC1) "__getattribute__" = some (some (.builtin "BaseException.__getattribute__")))
    (xh1 : PySem.W.findIn K (.ref XC1) "__getattr__" = some none)
    (xd1 : PySem.W.hasDictIn K XC1 = true)
    (xg2 : PySem.W.findIn K (.ref XC2) "__getattribute__" = some (some (.builtin "BaseException.__getattribute__")))
    (xh2 : PySem.W.findIn K (.ref XC2) "__getattr__" = some none)
    (xd2 : PySem.W.hasDictIn K XC2 = true)
    (xg3 : PySem.W.findIn K (.ref XC3) "__getattribute__" = some (some (.builtin "BaseException.__getattribute__")))
    (xh3 : PySem.W.findIn K (.ref XC3) "__getattr__" = some none)
    (xd3 : PySem.W.hasDictIn K XC3 = true)
    (xg4 : PySem.W.findIn K (.ref XC4) "__getattribute__" = some (some (.builtin "BaseException.__getattribute__")))
    (xh4 : PySem.W.findIn K (.ref XC4) "__getattr__" = some none)
    (xd4 : PySem.W.hasDictIn K XC4 = true)
    (xg5 : PySem.W.findIn K (.ref XC5) "__getattribute__" = some (some (.builtin "BaseException.__getattribute__")))
    (xh5 : PySem.W.findIn K (.ref XC5) "__getattr__" = some none)
    (xd5 : PySem.W.hasDictIn K XC5 = true)
    (xg6 : PySem.W.findIn K (.ref XC6) "__getattribute__" = some (some (.builtin "BaseException.__getattribute__")))
    (xh6 : PySem.W.findIn K (.ref XC6) "__getattr__" = some none)
    (xd6 : PySem.W.hasDictIn K XC6 = true)
    (y_BadName : PySem.W.nsIn K mainGlobals "BadName" = some (some (.ref Y_BadName)))
    (y_Twice : PySem.W.nsIn K mainGlobals "Twice" = some (some (.ref Y_Twice)))
    (y_Taken : PySem.W.nsIn K mainGlobals "Taken" = some (some (.ref Y_Taken)))
    (y_InUse : PySem.W.nsIn K mainGlobals "InUse" = some (some (.ref Y_InUse)))
    (y_NoRow : PySem.W.nsIn K mainGlobals "NoRow" = some (some (.ref Y_NoRow)))
    (y_NoWatch : PySem.W.nsIn K mainGlobals "NoWatch" = some (some (.ref Y_NoWatch)))
    (y_Nought : PySem.W.nsIn K mainGlobals "Nought" = some (some (.ref Y_Nought)))
    (y_BadCorner : PySem.W.nsIn K mainGlobals "BadCorner" = some (some (.ref Y_BadCorner)))
    (y_Flat : PySem.W.nsIn K mainGlobals "Flat" = some (some (.ref Y_Flat)))
    (y_Unbuilt : PySem.W.nsIn K mainGlobals "Unbuilt" = some (some (.ref Y_Unbuilt)))
    (y_BadText : PySem.W.nsIn K mainGlobals "BadText" = some (some (.ref Y_BadText)))
    (y_Folded : PySem.W.nsIn K mainGlobals "Folded" = some (some (.ref Y_Folded)))
    (y_BadRow : PySem.W.nsIn K mainGlobals "BadRow" = some (some (.ref Y_BadRow)))
    (y_Full : PySem.W.nsIn K mainGlobals "Full" = some (some (.ref Y_Full)))
    (y_BadDeed : PySem.W.nsIn K mainGlobals "BadDeed" = some (some (.ref Y_BadDeed)))
    (y_RodError : PySem.W.nsIn K mainGlobals "RodError" = some (some (.ref Y_RodError)))
    (y_Missing : PySem.W.nsIn K mainGlobals "Missing" = some (some (.ref Y_Missing)))
    (aT : PySem.W.nsIn K mainGlobals "_law_tried" = some (some (.ref fT)))
    (lT : K.lookup fT = some ⟨ocT, odT, .func (PySem.W.fnOf "_law_tried" "_law_tried" (defArgs t_l_tried) (defBody t_l_tried) (defScope t_l_tried) .none kVT dcT pmT anT cdT ctT), slT⟩)
    (cT : PySem.W.codeIn K cdT "_law_tried" = true)
    (kT : PySem.W.keepIn K (.ref fT) = true)
    (e0_0 : PySem.W.exmAny K (.ref XC0) [.ref Y_BadName, .ref Y_Twice, .ref Y_Taken, .ref Y_InUse, .ref Y_NoRow, .ref Y_NoWatch] = some false)
    (e0_1 : PySem.W.exmAny K (.ref XC1) [.ref Y_BadName, .ref Y_Twice, .ref Y_Taken, .ref Y_InUse, .ref Y_NoRow, .ref Y_NoWatch] = some true)
    (e0_2 : PySem.W.exmAny K (.ref XC2) [.ref Y_BadName, .ref Y_Twice, .ref Y_Taken, .ref Y_InUse, .ref Y_NoRow, .ref Y_NoWatch] = some false)
    (e0_3 : PySem.W.exmAny K (.ref XC3) [.ref Y_BadName, .ref Y_Twice, .ref Y_Taken, .ref Y_InUse, .ref Y_NoRow, .ref Y_NoWatch] = some true)
    (e0_4 : PySem.W.exmAny K (.ref XC4) [.ref Y_BadName, .ref Y_Twice, .ref Y_Taken, .ref Y_InUse, .ref Y_NoRow, .ref Y_NoWatch] = some false)
    (e0_5 : PySem.W.exmAny K (.ref XC5) [.ref Y_BadName, .ref Y_Twice, .ref Y_Taken, .ref Y_InUse, .ref Y_NoRow, .ref Y_NoWatch] = some false)
    (e0_6 : PySem.W.exmAny K (.ref XC6) [.ref Y_BadName, .ref Y_Twice, .ref Y_Taken, .ref Y_InUse, .ref Y_NoRow, .ref Y_NoWatch] = some false)
    (e1_0 : PySem.W.exmAny K (.ref XC0) [.ref Y_Nought, .ref Y_BadCorner, .ref Y_Flat, .ref Y_Unbuilt, .ref Y_BadText] = some false)
    (e1_1 : PySem.W.exmAny K (.ref XC1) [.ref Y_Nought, .ref Y_BadCorner, .ref Y_Flat, .ref Y_Unbuilt, .ref Y_BadText] = some false)
    (e1_2 : PySem.W.exmAny K (.ref XC2) [.ref Y_Nought, .ref Y_BadCorner, .ref Y_Flat, .ref Y_Unbuilt, .ref Y_BadText] = some true)
    (e1_3 : PySem.W.exmAny K (.ref XC3) [.ref Y_Nought, .ref Y_BadCorner, .ref Y_Flat, .ref Y_Unbuilt, .ref Y_BadText] = some false)
    (e1_4 : PySem.W.exmAny K (.ref XC4) [.ref Y_Nought, .ref Y_BadCorner, .ref Y_Flat, .ref Y_Unbuilt, .ref Y_BadText] = some false)
    (e1_5 : PySem.W.exmAny K (.ref XC5) [.ref Y_Nought, .ref Y_BadCorner, .ref Y_Flat, .ref Y_Unbuilt, .ref Y_BadText] = some true)
    (e1_6 : PySem.W.exmAny K (.ref XC6) [.ref Y_Nought, .ref Y_BadCorner, .ref Y_Flat, .ref Y_Unbuilt, .ref Y_BadText] = some true)
    (e2_0 : PySem.W.exmAny K (.ref XC0) [.ref Y_Folded] = some false)
    (e2_1 : PySem.W.exmAny K (.ref XC1) [.ref Y_Folded] = some false)
    (e2_2 : PySem.W.exmAny K (.ref XC2) [.ref Y_Folded] = some false)
    (e2_3 : PySem.W.exmAny K (.ref XC3) [.ref Y_Folded] = some false)
    (e2_4 : PySem.W.exmAny K (.ref XC4) [.ref Y_Folded] = some false)
    (e2_5 : PySem.W.exmAny K (.ref XC5) [.ref Y_Folded] = some false)
    (e2_6 : PySem.W.exmAny K (.ref XC6) [.ref Y_Folded] = some false)
    (e3_0 : PySem.W.exmAny K (.ref XC0) [.ref Y_BadRow] = some false)
    (e3_1 : PySem.W.exmAny K (.ref XC1) [.ref Y_BadRow] = some false)
    (e3_2 : PySem.W.exmAny K (.ref XC2) [.ref Y_BadRow] = some false)
    (e3_3 : PySem.W.exmAny K (.ref XC3) [.ref Y_BadRow] = some false)
    (e3_4 : PySem.W.exmAny K (.ref XC4) [.ref Y_BadRow] = some true)
    (e3_5 : PySem.W.exmAny K (.ref XC5) [.ref Y_BadRow] = some false)
    (e3_6 : PySem.W.exmAny K (.ref XC6) [.ref Y_BadRow] = some false)
    (e4_0 : PySem.W.exmAny K (.ref XC0) [.ref Y_Full] = some false)
    (e4_1 : PySem.W.exmAny K (.ref XC1) [.ref Y_Full] = some false)
    (e4_2 : PySem.W.exmAny K (.ref XC2) [.ref Y_Full] = some false)
    (e4_3 : PySem.W.exmAny K (.ref XC3) [.ref Y_Full] = some false)
    (e4_4 : PySem.W.exmAny K (.ref XC4) [.ref Y_Full] = some false)
    (e4_5 : PySem.W.exmAny K (.ref XC5) [.ref Y_Full] = some false)
    (e4_6 : PySem.W.exmAny K (.ref XC6) [.ref Y_Full] = some false)
    (e5_0 : PySem.W.exmAny K (.ref XC0) [.ref Y_BadDeed] = some false)
    (e5_1 : PySem.W.exmAny K (.ref XC1) [.ref Y_BadDeed] = some false)
    (e5_2 : PySem.W.exmAny K (.ref XC2) [.ref Y_BadDeed] = some false)
    (e5_3 : PySem.W.exmAny K (.ref XC3) [.ref Y_BadDeed] = some false)
    (e5_4 : PySem.W.exmAny K (.ref XC4) [.ref Y_BadDeed] = some false)
    (e5_5 : PySem.W.exmAny K (.ref XC5) [.ref Y_BadDeed] = some false)
    (e5_6 : PySem.W.exmAny K (.ref XC6) [.ref Y_BadDeed] = some false)
    (e6_0 : PySem.W.exmAny K (.ref XC0) [.ref Y_RodError, .ref Y_Missing] = some true)
    (e6_1 : PySem.W.exmAny K (.ref XC1) [.ref Y_RodError, .ref Y_Missing] = some true)
    (e6_2 : PySem.W.exmAny K (.ref XC2) [.ref Y_RodError, .ref Y_Missing] = some true)
    (e6_3 : PySem.W.exmAny K (.ref XC3) [.ref Y_RodError, .ref Y_Missing] = some true)
    (e6_4 : PySem.W.exmAny K (.ref XC4) [.ref Y_RodError, .ref Y_Missing] = some true)
    (e6_5 : PySem.W.exmAny K (.ref XC5) [.ref Y_RodError, .ref Y_Missing] = some true)
    (e6_6 : PySem.W.exmAny K (.ref XC6) [.ref Y_RodError, .ref Y_Missing] = some true)
    (hP : h.get? PL = some { cls := .none, data := .fields #[] })
    (hK : K.lookup PL = none)
    (hC : PySem.W.codeHdIn K cL PL = true)
    (LAW : ∀ ns : List Int, ns.length ≤ 63 → trueR (s_law [.lck (ns.map .int)] [])) :
    ∃ (fd : FuncData) (cs : List (Addr × Addr × Str)), (∀ p ∈ cs, h.get? p.2.1 = some { cls := .none, data := .fields #[] }) ∧ (∀ p ∈ cs, K.lookup p.2.1 = none) ∧ (∀ p ∈ cs, PySem.W.CodeHd h p.1 p.2.1) ∧
      (∀ (s : Shared) (v : Value), BindsTo s fd ⟨[v], []⟩ [("_law_script", v)]) ∧ ∀ base : Heap, K.In base → base.Ns mainGlobals mg → (∀ p ∈ cs, LamX.TabB base mg p.1 p.2.1) → FnOk l.prog w K mg base (L2.CX l.prog w) 12 fl fd ["_law_script"] (spLaw K (cs.map (·.2))) := by
  have e : fl = f42 := Value.ref.inj (Option.some.inj (hfa.symm.trans (PySem.W.mg_of X G a42)))
  rw [e]
  have O0 : OexC K XC0 := ⟨⟨_, _, _, _, _, _, _, _, _, _, _, _, _, _, _, xl0, xb0⟩, xs0, xe0, xt0, xk0⟩
  have O1 : OexC K XC1 := ⟨⟨_, _, _, _, _, _, _, _, _, _, _, _, _, _, _, xl1, xb1⟩, xs1, xe1, xt1, xk1⟩
  have O2 : OexC K XC2 := ⟨⟨_, _, _, _, _, _, _, _, _, _, _, _, _, _, _, xl2, xb2⟩, xs2, xe2, xt2, xk2⟩
  have O3 : OexC K XC3 := ⟨⟨_, _, _, _, _, _, _, _, _, _, _, _, _, _, _, xl3, xb3⟩, xs3, xe3, xt3, xk3⟩
  have O4 : OexC K XC4 := ⟨⟨_, _, _, _, _, _, _, _, _, _, _, _, _, _, _, xl4, xb4⟩, xs4, xe4, xt4, xk4⟩
  have O5 : OexC K XC5 := ⟨⟨_, _, _, _, _, _, _, _, _, _, _, _, _, _, _, xl5, xb5⟩, xs5, xe5, xt5, xk5⟩
  have O6 : OexC K XC6 := ⟨⟨_, _, _, _, _, _, _, _, _, _, _, _, _, _, _, xl6, xb6⟩, xs6, xe6, xt6, xk6⟩
  have HD : HdOk K (fun i => ([XC0, XC1, XC2, XC3, XC4, XC5, XC6, CR_Row] : List Addr).getD i 0) nCx [([.ref Y_BadName, .ref Y_Twice, .ref Y_Taken, .ref Y_InUse, .ref Y_NoRow, .ref Y_NoWatch], ["called", "name"]), ([.ref Y_Nought, .ref Y_BadCorner, .ref Y_Flat, .ref Y_Unbuilt, .ref Y_BadText], ["called", "at"]), ([.ref Y_Folded], ["called", "weight"]), ([.ref Y_BadRow], ["called", "many"]), ([.ref Y_Full], ["called", "most"]), ([.ref Y_BadDeed], ["called", "word"]), ([.ref Y_RodError, .ref Y_Missing], ["called"])] hdx := (.cons (fun c hc => by
      match c, hc with
      | 0, _ => exact e0_0
      | 1, _ => exact e0_1
      | 2, _ => exact e0_2
      | 3, _ => exact e0_3
      | 4, _ => exact e0_4
      | 5, _ => exact e0_5
      | 6, _ => exact e0_6
      | c + 7, h => exact absurd h (by unfold nCx; omega)) (fun c hc ht => by
      match c, hc, ht with
      | 0, _, ht => exact absurd ht (by decide)
      | 1, _, _ => intro f hf; simp at hf; rcases hf with rfl | rfl <;> first | exact xf1_called | exact xf1_name
      | 2, _, ht => exact absurd ht (by decide)
      | 3, _, _ => intro f hf; simp at hf; rcases hf with rfl | rfl <;> first | exact xf3_called | exact xf3_name
      | 4, _, ht => exact absurd ht (by decide)
      | 5, _, ht => exact absurd ht (by decide)
      | 6, _, ht => exact absurd ht (by decide)
      | c + 7, h, _ => exact absurd h (by unfold nCx; omega)) (.cons (fun c hc => by
      match c, hc with
      | 0, _ => exact e1_0
      | 1, _ => exact e1_1
      | 2, _ => exact e1_2
      | 3, _ => exact e1_3
      | 4, _ => exact e1_4
      | 5, _ => exact e1_5
      | 6, _ => exact e1_6
      | c + 7, h => exact absurd h (by unfold nCx; omega)) (fun c hc ht => by
      match c, hc, ht with
      | 0, _, ht => exact absurd ht (by decide)
      | 1, _, ht => exact absurd ht (by decide)
      | 2, _, _ => intro f hf; simp at hf; rcases hf with rfl | rfl <;> first | exact xf2_called | exact xf2_at
      | 3, _, ht => exact absurd ht (by decide)
      | 4, _, ht => exact absurd ht (by decide)
      | 5, _, _ => intro f hf; simp at hf; rcases hf with rfl | rfl <;> first | exact xf5_called | exact xf5_at
      | 6, _, _ => intro f hf; simp at hf; rcases hf with rfl | rfl <;> first | exact xf6_called | exact xf6_at
      | c + 7, h, _ => exact absurd h (by unfold nCx; omega)) (.cons (fun c hc => by
      match c, hc with
      | 0, _ => exact e2_0
      | 1, _ => exact e2_1
      | 2, _ => exact e2_2
      | 3, _ => exact e2_3
      | 4, _ => exact e2_4
      | 5, _ => exact e2_5
      | 6, _ => exact e2_6
      | c + 7, h => exact absurd h (by unfold nCx; omega)) (fun c hc ht => by
      match c, hc, ht with
      | 0, _, ht => exact absurd ht (by decide)
      | 1, _, ht => exact absurd ht (by decide)
      | 2, _, ht => exact absurd ht (by decide)
      | 3, _, ht => exact absurd ht (by decide)
      | 4, _, ht => exact absurd ht (by decide)
      | 5, _, ht => exact absurd ht (by decide)
      | 6, _, ht => exact absurd ht (by decide)
      | c + 7, h, _ => exact absurd h (by unfold nCx; omega)) (.cons (fun c hc => by
      match c, hc with
      | 0, _ => exact e3_0
      | 1, _ => exact e3_1
      | 2, _ => exact e3_2
      | 3, _ => exact e3_3
      | 4, _ => exact e3_4
      | 5, _ => exact e3_5
      | 6, _ => exact e3_6
      | c + 7, h => exact absurd h (by unfold nCx; omega)) (fun c hc ht => by
      match c, hc, ht with
      | 0, _, ht => exact absurd ht (by decide)
      | 1, _, ht => exact absurd ht (by decide)
      | 2, _, ht => exact absurd ht (by decide)
      | 3, _, ht => exact absurd ht (by decide)
      | 4, _, _ => intro f hf; simp at hf; rcases hf with rfl | rfl <;> first | exact xf4_called | exact xf4_many
      | 5, _, ht => exact absurd ht (by decide)
      | 6, _, ht => exact absurd ht (by decide)
      | c + 7, h, _ => exact absurd h (by unfold nCx; omega)) (.cons (fun c hc => by
      match c, hc with
      | 0, _ => exact e4_0
      | 1, _ => exact e4_1
      | 2, _ => exact e4_2
      | 3, _ => exact e4_3
      | 4, _ => exact e4_4
      | 5, _ => exact e4_5
      | 6, _ => exact e4_6
      | c + 7, h => exact absurd h (by unfold nCx; omega)) (fun c hc ht => by
      match c, hc, ht with
      | 0, _, ht => exact absurd ht (by decide)
      | 1, _, ht => exact absurd ht (by decide)
      | 2, _, ht => exact absurd ht (by decide)
      | 3, _, ht => exact absurd ht (by decide)
      | 4, _, ht => exact absurd ht (by decide)
      | 5, _, ht => exact absurd ht (by decide)
      | 6, _, ht => exact absurd ht (by decide)
      | c + 7, h, _ => exact absurd h (by unfold nCx; omega)) (.cons (fun c hc => by
      match c, hc with
      | 0, _ => exact e5_0
      | 1, _ => exact e5_1
      | 2, _ => exact e5_2
      | 3, _ => exact e5_3
      | 4, _ => exact e5_4
      | 5, _ => exact e5_5
      | 6, _ => exact e5_6
      | c + 7, h => exact absurd h (by unfold nCx; omega)) (fun c hc ht => by
      match c, hc, ht with
      | 0, _, ht => exact absurd ht (by decide)
      | 1, _, ht => exact absurd ht (by decide)
      | 2, _, ht => exact absurd ht (by decide)
      | 3, _, ht => exact absurd ht (by decide)
      | 4, _, ht => exact absurd ht (by decide)
      | 5, _, ht => exact absurd ht (by decide)
      | 6, _, ht => exact absurd ht (by decide)
      | c + 7, h, _ => exact absurd h (by unfold nCx; omega)) (.cons (fun c hc => by
      match c, hc with
      | 0, _ => exact e6_0
      | 1, _ => exact e6_1
      | 2, _ => exact e6_2
      | 3, _ => exact e6_3
      | 4, _ => exact e6_4
      | 5, _ => exact e6_5
      | 6, _ => exact e6_6
      | c + 7, h => exact absurd h (by unfold nCx; omega)) (fun c hc ht => by
      match c, hc, ht with
      | 0, _, _ => intro f hf; simp at hf; subst hf; exact xf0_called
      | 1, _, _ => intro f hf; simp at hf; subst hf; exact xf1_called
      | 2, _, _ => intro f hf; simp at hf; subst hf; exact xf2_called
      | 3, _, _ => intro f hf; simp at hf; subst hf; exact xf3_called
      | 4, _, _ => intro f hf; simp at hf; subst hf; exact xf4_called
      | 5, _, _ => intro f hf; simp at hf; subst hf; exact xf5_called
      | 6, _, _ => intro f hf; simp at hf; subst hf; exact xf6_called
      | c + 7, h, _ => exact absurd h (by unfold nCx; omega)) .nil)))))))
  refine ⟨(PySem.W.fnOf "law" "law" (defArgs t_law) (defBody t_law) (defScope t_law) .none kV42 dc42 pm42 an42 (.ref cL) ct42), [(cL, PL, ("law" : Str) ++ Str.ofString ".<locals>." ++ Str.ofString "<lambda>")], fun p hp => ?_, fun p hp => ?_, fun p hp => ?_, fun s v => .of_eq rfl, fun base _ _ hTB => ?_⟩
  · rw [List.mem_singleton.mp hp]; exact hP
  · rw [List.mem_singleton.mp hp]; exact hK
  · rw [List.mem_singleton.mp hp]; exact PySem.W.codeHd_of_K X hC
  have T : Txt (mkG l.prog w K mg base (fun i => ([XC0, XC1, XC2, XC3, XC4, XC5, XC6, CR_Row] : List Addr).getD i 0) [(PL, ("law" : Str) ++ Str.ofString ".<locals>." ++ Str.ofString "<lambda>")]) (fun i => ([f0, f1, f2, f3, f4, f5, f6, f7, f8, f9, f10, f11, f12, f13, f14, f15, f16, f17, f18, f19, f20, f21, f22, f23, f24, f25, f26, f27, f28, f29, f30, f31, f32, f33, f34, f35, f36, f37, f38, f39, f40, f41, f42] : List Addr).getD i f0)
      (fun i => ([(PySem.W.fnOf "_wall" "_wall" (defArgs t_wall) (defBody t_wall) (defScope t_wall) .none kV0 dc0 pm0 an0 cd0 ct0), (PySem.W.fnOf "shared_by" "shared_by" (defArgs t_shared_by) (defBody t_shared_by) (defScope t_shared_by) .none kV1 dc1 pm1 an1 cd1 ct1), (PySem.W.fnOf "part" "part" (defArgs t_part) (defBody t_part) (defScope t_part) (.ref T2) kV2 dc2 pm2 an2 cd2 ct2), (PySem.W.fnOf "plus" "plus" (defArgs t_plus) (defBody t_plus) (defScope t_plus) .none kV3 dc3 pm3 an3 cd3 ct3), (PySem.W.fnOf "less" "less" (defArgs t_less) (defBody t_less) (defScope t_less) .none kV4 dc4 pm4 an4 cd4 ct4), (PySem.W.fnOf "times" "times" (defArgs t_times) (defBody t_times) (defScope t_times) .none kV5 dc5 pm5 an5 cd5 ct5), (PySem.W.fnOf "over" "over" (defArgs t_over) (defBody t_over) (defScope t_over) .none kV6 dc6 pm6 an6 cd6 ct6), (PySem.W.fnOf "summed" "summed" (defArgs t_summed) (defBody t_summed) (defScope t_summed) .none kV7 dc7 pm7 an7 cd7 ct7), (PySem.W.fnOf "off" "off" (defArgs t_off) (defBody t_off) (defScope t_off) .none kV8 dc8 pm8 an8 cd8 ct8), (PySem.W.fnOf "mate" "mate" (defArgs t_mate) (defBody t_mate) (defScope t_mate) .none kV9 dc9 pm9 an9 cd9 ct9), (PySem.W.fnOf "made" "made" (defArgs t_made) (defBody t_made) (defScope t_made) .none kV10 dc10 pm10 an10 cd10 ct10), (PySem.W.fnOf "often" "often" (defArgs t_often) (defBody t_often) (defScope t_often) .none kV11 dc11 pm11 an11 cd11 ct11), (PySem.W.fnOf "weight" "weight" (defArgs t_weight) (defBody t_weight) (defScope t_weight) .none kV12 dc12 pm12 an12 cd12 ct12), (PySem.W.fnOf "parted" "parted" (defArgs t_parted) (defBody t_parted) (defScope t_parted) .none kV13 dc13 pm13 an13 cd13 ct13), (PySem.W.fnOf "copied" "copied" (defArgs t_copied) (defBody t_copied) (defScope t_copied) .none kV14 dc14 pm14 an14 cd14 ct14), (PySem.W.fnOf "entry" "entry" (defArgs t_entry) (defBody t_entry) (defScope t_entry) .none kV15 dc15 pm15 an15 cd15 ct15), (PySem.W.fnOf "grown_by" "grown_by" (defArgs t_grown_by) (defBody t_grown_by) (defScope t_grown_by) .none kV16 dc16 pm16 an16 cd16 ct16), (PySem.W.fnOf "whole_of" "whole_of" (defArgs t_whole_of) (defBody t_whole_of) (defScope t_whole_of) .none kV17 dc17 pm17 an17 cd17 ct17), (PySem.W.fnOf "rods" "Row.rods" (defArgs t_Row_rods) (defBody t_Row_rods) (defScope t_Row_rods) .none kV18 dc18 pm18 an18 cd18 ct18), (PySem.W.fnOf "whole" "whole" (defArgs t_whole) (defBody t_whole) (defScope t_whole) .none kV19 dc19 pm19 an19 cd19 ct19), (PySem.W.fnOf "is_name" "is_name" (defArgs t_is_name) (defBody t_is_name) (defScope t_is_name) .none kV20 dc20 pm20 an20 cd20 ct20), (PySem.W.fnOf "need_rods" "need_rods" (defArgs t_need_rods) (defBody t_need_rods) (defScope t_need_rods) .none kV21 dc21 pm21 an21 cd21 ct21), (PySem.W.fnOf "exchanged" "exchanged" (defArgs t_exchanged) (defBody t_exchanged) (defScope t_exchanged) .none kV22 dc22 pm22 an22 cd22 ct22), (PySem.W.fnOf "rods_traded" "rods_traded" (defArgs t_rods_traded) (defBody t_rods_traded) (defScope t_rods_traded) .none kV23 dc23 pm23 an23 cd23 ct23), (PySem.W.fnOf "corners_of" "corners_of" (defArgs t_corners_of) (defBody t_corners_of) (defScope t_corners_of) .none kV24 dc24 pm24 an24 cd24 ct24), (PySem.W.fnOf "_law_box" "_law_box" (defArgs t_l_box) (defBody t_l_box) (defScope t_l_box) .none kV25 dc25 pm25 an25 cd25 ct25), (PySem.W.fnOf "_law_draw" "_law_draw" (defArgs t_l_draw) (defBody t_l_draw) (defScope t_l_draw) .none kV26 dc26 pm26 an26 cd26 ct26), (PySem.W.fnOf "_law_of" "_law_of" (defArgs t_l_of) (defBody t_l_of) (defScope t_l_of) .none kV27 dc27 pm27 an27 cd27 ct27), (PySem.W.fnOf "_law_names" "_law_names" (defArgs t_l_names) (defBody t_l_names) (defScope t_l_names) .none kV28 dc28 pm28 an28 cd28 ct28), (PySem.W.fnOf "_law_low" "_law_low" (defArgs t_l_low) (defBody t_l_low) (defScope t_l_low) .none kV29 dc29 pm29 an29 cd29 ct29), (PySem.W.fnOf "_law_small" "_law_small" (defArgs t_l_small) (defBody t_l_small) (defScope t_l_small) .none kV30 dc30 pm30 an30 cd30 ct30), (PySem.W.fnOf "_law_spot" "_law_spot" (defArgs t_l_spot) (defBody t_l_spot) (defScope t_l_spot) .none kV31 dc31 pm31 an31 cd31 ct31), (PySem.W.fnOf "_law_arrow" "_law_arrow" (defArgs t_l_arrow) (defBody t_l_arrow) (defScope t_l_arrow) .none kV32 dc32 pm32 an32 cd32 ct32), (PySem.W.fnOf "_law_rods" "_law_rods" (defArgs t_l_rods) (defBody t_l_rods) (defScope t_l_rods) .none kV33 dc33 pm33 an33 cd33 ct33), (PySem.W.fnOf "_law_like" "_law_like" (defArgs t_l_like) (defBody t_l_like) (defScope t_l_like) .none kV34 dc34 pm34 an34 cd34 ct34), (PySem.W.fnOf "__init__" "Row.__init__" (defArgs t_Row___init) (defBody t_Row___init) (defScope t_Row___init) .none (.ref KD35) dc35 pm35 an35 cd35 ct35), (PySem.W.fnOf "corners" "Row.corners" (defArgs t_Row_corners) (defBody t_Row_corners) (defScope t_Row_corners) .none kV36 dc36 pm36 an36 cd36 ct36), (PySem.W.fnOf "end" "Row.end" (defArgs t_Row_end) (defBody t_Row_end) (defScope t_Row_end) .none kV37 dc37 pm37 an37 cd37 ct37), (PySem.W.fnOf "names" "Row.names" (defArgs t_Row_names) (defBody t_Row_names) (defScope t_Row_names) .none kV38 dc38 pm38 an38 cd38 ct38), (PySem.W.fnOf "traded" "Row.traded" (defArgs t_Row_traded) (defBody t_Row_traded) (defScope t_Row_traded) .none kV39 dc39 pm39 an39 cd39 ct39), (PySem.W.fnOf "weights" "Row.weights" (defArgs t_Row_weights) (defBody t_Row_weights) (defScope t_Row_weights) .none kV40 dc40 pm40 an40 cd40 ct40), (PySem.W.fnOf "__len__" "Row.__len__" (defArgs t_Row___len) (defBody t_Row___len) (defScope t_Row___len) .none kV41 dc41 pm41 an41 cd41 ct41), (PySem.W.fnOf "law" "law" (defArgs t_law) (defBody t_law) (defScope t_law) .none kV42 dc42 pm42 an42 (.ref cL) ct42)] : List FuncData).getD i (PySem.W.fnOf "_wall" "_wall" (defArgs t_wall) (defBody t_wall) (defScope t_wall) .none kV0 dc0 pm0 an0 cd0 ct0)) cL PL := {
    F_wall := funx_mk l0 c0 k0
    m_wall := PySem.W.mg_of X G a0
    F_shared_by := funx_mk l1 c1 k1
    m_shared_by := PySem.W.mg_of X G a1
    F_part := funx_mkD l2 c2 k2 T_2 (.cons cv_int .nil) (by simp)
    m_part := PySem.W.mg_of X G a2
    F_plus := funx_mk l3 c3 k3
    m_plus := PySem.W.mg_of X G a3
    F_less := funx_mk l4 c4 k4
    m_less := PySem.W.mg_of X G a4
    F_times := funx_mk l5 c5 k5
    m_times := PySem.W.mg_of X G a5
    F_over := funx_mk l6 c6 k6
    m_over := PySem.W.mg_of X G a6
    F_summed := funx_mk l7 c7 k7
    m_summed := PySem.W.mg_of X G a7
    F_off := funx_mk l8 c8 k8
    m_off := PySem.W.mg_of X G a8
    F_mate := funx_mk l9 c9 k9
    m_mate := PySem.W.mg_of X G a9
    F_made := funx_mk l10 c10 k10
    m_made := PySem.W.mg_of X G a10
    F_often := funx_mk l11 c11 k11
    m_often := PySem.W.mg_of X G a11
    F_weight := funx_mk l12 c12 k12
    m_weight := PySem.W.mg_of X G a12
    F_parted := funx_mk l13 c13 k13
    m_parted := PySem.W.mg_of X G a13
    F_copied := funx_mk l14 c14 k14
    m_copied := PySem.W.mg_of X G a14
    F_entry := funx_mk l15 c15 k15
    m_entry := PySem.W.mg_of X G a15
    F_grown_by := funx_mk l16 c16 k16
    m_grown_by := PySem.W.mg_of X G a16
    F_whole_of := funx_mk l17 c17 k17
    m_whole_of := PySem.W.mg_of X G a17
    F_Row_rods := funx_mkQ l18 c18 k18
    M_Row_rods := ⟨am18, kf18, k18⟩
    F_whole := funx_mk l19 c19 k19
    m_whole := PySem.W.mg_of X G a19
    F_is_name := funx_mk l20 c20 k20
    m_is_name := PySem.W.mg_of X G a20
    F_need_rods := funx_mk l21 c21 k21
    m_need_rods := PySem.W.mg_of X G a21
    F_exchanged := funx_mk l22 c22 k22
    m_exchanged := PySem.W.mg_of X G a22
    F_rods_traded := funx_mk l23 c23 k23
    m_rods_traded := PySem.W.mg_of X G a23
    F_corners_of := funx_mk l24 c24 k24
    m_corners_of := PySem.W.mg_of X G a24
    F_l_box := funx_mk l25 c25 k25
    m_l_box := PySem.W.mg_of X G a25
    F_l_draw := funx_mk l26 c26 k26
    m_l_draw := PySem.W.mg_of X G a26
    F_l_of := funx_mk l27 c27 k27
    m_l_of := PySem.W.mg_of X G a27
    F_l_names := funx_mk l28 c28 k28
    m_l_names := PySem.W.mg_of X G a28
    F_l_low := funx_mk l29 c29 k29
    m_l_low := PySem.W.mg_of X G a29
    F_l_small := funx_mk l30 c30 k30
    m_l_small := PySem.W.mg_of X G a30
    F_l_spot := funx_mk l31 c31 k31
    m_l_spot := PySem.W.mg_of X G a31
    F_l_arrow := funx_mk l32 c32 k32
    m_l_arrow := PySem.W.mg_of X G a32
    F_l_rods := funx_mk l33 c33 k33
    m_l_rods := PySem.W.mg_of X G a33
    F_l_like := funx_mk l34 c34 k34
    m_l_like := PySem.W.mg_of X G a34
    F_Row___init := funx_mkKQ l35 c35 k35 q35 (cv_tup lt2 (.cons (cv_tup lt3 (.cons cv_int (.cons cv_int .nil))) (.cons (cv_tup lt6 (.cons cv_int (.cons cv_int .nil))) .nil)))
    M_Row___init := ⟨rm_Row, ri_Row, kf35, rk_Row⟩
    F_Row_corners := funx_mkQ l36 c36 k36
    M_Row_corners := ⟨am36, kf36, k36⟩
    F_Row_end := funx_mkQ l37 c37 k37
    M_Row_end := ⟨am37, kf37, k37⟩
    F_Row_names := funx_mkQ l38 c38 k38
    M_Row_names := ⟨am38, kf38, k38⟩
    F_Row_traded := funx_mkQ l39 c39 k39
    M_Row_traded := ⟨am39, kf39, k39⟩
    F_Row_weights := funx_mkQ l40 c40 k40
    M_Row_weights := ⟨am40, kf40, k40⟩
    F_Row___len := funx_mkQ l41 c41 k41
    M_Row___len := ⟨am41, kf41, k41⟩
    L_law := ⟨_, _, _, _, _, _, _, _, _, l42, rfl, c42, k42⟩
    m_law := PySem.W.mg_of X G a42
    n_abs := PySem.W.mg_none_of X G z_abs
    n_all := PySem.W.mg_none_of X G z_all
    n_bool := PySem.W.mg_none_of X G z_bool
    n_enumerate := PySem.W.mg_none_of X G z_enumerate
    n_int := PySem.W.mg_none_of X G z_int
    n_isinstance := PySem.W.mg_none_of X G z_isinstance
    n_len := PySem.W.mg_none_of X G z_len
    n_list := PySem.W.mg_none_of X G z_list
    n_max := PySem.W.mg_none_of X G z_max
    n_range := PySem.W.mg_none_of X G z_range
    n_sorted := PySem.W.mg_none_of X G z_sorted
    n_str := PySem.W.mg_none_of X G z_str
    n_tuple := PySem.W.mg_none_of X G z_tuple
    c_ZERO := CV.gcon (PySem.W.mg_of X G g_ZERO) (cv_tup lt9 (.cons cv_int (.cons cv_int .nil)))
    c_ORIGIN := CV.gcon (PySem.W.mg_of X G g_ORIGIN) (cv_tup lt12 (.cons (cv_tup lt13 (.cons cv_int (.cons cv_int .nil))) (.cons (cv_tup lt16 (.cons cv_int (.cons cv_int .nil))) .nil)))
    c_ONE := CV.gcon (PySem.W.mg_of X G g_ONE) (cv_tup lt19 (.cons cv_int (.cons cv_int .nil)))
    c_LONE := CV.gcon (PySem.W.mg_of X G g_LONE) (cv_tup lt22 (.cons (cv_tup lt23 (.cons cv_int (.cons cv_int .nil))) (.cons (cv_tup lt26 (.cons cv_int (.cons cv_int .nil))) .nil)))
    c_MOST_NAME := CV.gcon (PySem.W.mg_of X G g_MOST_NAME) cv_int
    c_LETTERS := CV.gcon (PySem.W.mg_of X G g_LETTERS) cv_str
    c_MOST_RODS := CV.gcon (PySem.W.mg_of X G g_MOST_RODS) cv_int
    A_Row_lot := rf_Row_lot
    A_Row_first := rf_Row_first
    CL_Row := ⟨PySem.W.mg_of X G ra_Row, rfl, ⟨rp_Row, rh_Row, ro_Row, rs_Row⟩⟩
    X_BadPart := ⟨PySem.W.mg_of X G xa0, rfl, O0, XI0, _, _, xi0, xj0, ini0 xm0 xc0 Si_BadPart O0 xf0_called (.inl (by decide +kernel)) rfl, fun s us _ l => by match us, l with | [u], _ => exact .of_eq rfl⟩
    X_BadName := ⟨PySem.W.mg_of X G xa1, rfl, O1, XI1, _, _, xi1, xj1, ini1 xm1 xc1 Si_BadName O1 xf1_called xf1_name (.inl (by decide +kernel)) (.inl (by decide +kernel)) (by decide) (by decide) rfl, fun s us _ l => by match us, l with | [u, v], _ => exact .of_eq rfl⟩
    X_Nought := ⟨PySem.W.mg_of X G xa2, rfl, O2, XI2, _, _, xi2, xj2, ini1 xm2 xc2 Si_Nought O2 xf2_called xf2_at (.inl (by decide +kernel)) (.inl (by decide +kernel)) (by decide) (by decide) rfl, fun s us _ l => by match us, l with | [u, v], _ => exact .of_eq rfl⟩
    X_Twice := ⟨PySem.W.mg_of X G xa3, rfl, O3, XI3, _, _, xi3, xj3, ini1 xm3 xc3 Si_Twice O3 xf3_called xf3_name (.inl (by decide +kernel)) (.inl (by decide +kernel)) (by decide) (by decide) rfl, fun s us _ l => by match us, l with | [u, v], _ => exact .of_eq rfl⟩
    X_BadRow := ⟨PySem.W.mg_of X G xa4, rfl, O4, XI4, _, _, xi4, xj4, ini1 xm4 xc4 Si_BadRow O4 xf4_called xf4_many (.inl (by decide +kernel)) (.inl (by decide +kernel)) (by decide) (by decide) rfl, fun s us _ l => by match us, l with | [u, v], _ => exact .of_eq rfl⟩
    X_BadCorner := ⟨PySem.W.mg_of X G xa5, rfl, O5, XI5, _, _, xi5, xj5, ini1 xm5 xc5 Si_BadCorner O5 xf5_called xf5_at (.inl (by decide +kernel)) (.inl (by decide +kernel)) (by decide) (by decide) rfl, fun s us _ l => by match us, l with | [u, v], _ => exact .of_eq rfl⟩
    X_Flat := ⟨PySem.W.mg_of X G xa6, rfl, O6, XI6, _, _, xi6, xj6, ini1 xm6 xc6 Si_Flat O6 xf6_called xf6_at (.inl (by decide +kernel)) (.inl (by decide +kernel)) (by decide) (by decide) rfl, fun s us _ l => by match us, l with | [u, v], _ => exact .of_eq rfl⟩
    tried := ⟨by decide, by decide +kernel, .inl (by decide +kernel), S_l_tried, by decide, by decide, by decide, by decide, ⟨fT, ocT, .none, kVT, dcT, pmT, cdT, ctT, odT, anT, slT, _, _, _, _, _, _, _, _, _, _, [([.ref Y_BadName, .ref Y_Twice, .ref Y_Taken, .ref Y_InUse, .ref Y_NoRow, .ref Y_NoWatch], ["called", "name"]), ([.ref Y_Nought, .ref Y_BadCorner, .ref Y_Flat, .ref Y_Unbuilt, .ref Y_BadText], ["called", "at"]), ([.ref Y_Folded], ["called", "weight"]), ([.ref Y_BadRow], ["called", "many"]), ([.ref Y_Full], ["called", "most"]), ([.ref Y_BadDeed], ["called", "word"]), ([.ref Y_RodError, .ref Y_Missing], ["called"])], PySem.W.mg_of X G aT, kT, lT, cT, fun s us _ l => (by match us, l with | [u], _ => exact .of_eq rfl), rfl, fun X' hm hs => (.cons (.tup (.cons (nm_of (G := mkG l.prog w K mg base (fun i => ([XC0, XC1, XC2, XC3, XC4, XC5, XC6, CR_Row] : List Addr).getD i 0) [(PL, ("law" : Str) ++ Str.ofString ".<locals>." ++ Str.ofString "<lambda>")]) hm hs (by decide +kernel) (PySem.W.mg_of X G y_BadName)) (.cons (nm_of (G := mkG l.prog w K mg base (fun i => ([XC0, XC1, XC2, XC3, XC4, XC5, XC6, CR_Row] : List Addr).getD i 0) [(PL, ("law" : Str) ++ Str.ofString ".<locals>." ++ Str.ofString "<lambda>")]) hm hs (by decide +kernel) (PySem.W.mg_of X G y_Twice)) (.cons (nm_of (G := mkG l.prog w K mg base (fun i => ([XC0, XC1, XC2, XC3, XC4, XC5, XC6, CR_Row] : List Addr).getD i 0) [(PL, ("law" : Str) ++ Str.ofString ".<locals>." ++ Str.ofString "<lambda>")]) hm hs (by decide +kernel) (PySem.W.mg_of X G y_Taken)) (.cons (nm_of (G := mkG l.prog w K mg base (fun i => ([XC0, XC1, XC2, XC3, XC4, XC5, XC6, CR_Row] : List Addr).getD i 0) [(PL, ("law" : Str) ++ Str.ofString ".<locals>." ++ Str.ofString "<lambda>")]) hm hs (by decide +kernel) (PySem.W.mg_of X G y_InUse)) (.cons (nm_of (G := mkG l.prog w K mg base (fun i => ([XC0, XC1, XC2, XC3, XC4, XC5, XC6, CR_Row] : List Addr).getD i 0) [(PL, ("law" : Str) ++ Str.ofString ".<locals>." ++ Str.ofString "<lambda>")]) hm hs (by decide +kernel) (PySem.W.mg_of X G y_NoRow)) (.cons (nm_of (G := mkG l.prog w K mg base (fun i => ([XC0, XC1, XC2, XC3, XC4, XC5, XC6, CR_Row] : List Addr).getD i 0) [(PL, ("law" : Str) ++ Str.ofString ".<locals>." ++ Str.ofString "<lambda>")]) hm hs (by decide +kernel) (PySem.W.mg_of X G y_NoWatch)) .nil)))))) (by simp)) (.cons (.cons .nil)) (.cons (.tup (.cons (nm_of (G := mkG l.prog w K mg base (fun i => ([XC0, XC1, XC2, XC3, XC4, XC5, XC6, CR_Row] : List Addr).getD i 0) [(PL, ("law" : Str) ++ Str.ofString ".<locals>." ++ Str.ofString "<lambda>")]) hm hs (by decide +kernel) (PySem.W.mg_of X G y_Nought)) (.cons (nm_of (G := mkG l.prog w K mg base (fun i => ([XC0, XC1, XC2, XC3, XC4, XC5, XC6, CR_Row] : List Addr).getD i 0) [(PL, ("law" : Str) ++ Str.ofString ".<locals>." ++ Str.ofString "<lambda>")]) hm hs (by decide +kernel) (PySem.W.mg_of X G y_BadCorner)) (.cons (nm_of (G := mkG l.prog w K mg base (fun i => ([XC0, XC1, XC2, XC3, XC4, XC5, XC6, CR_Row] : List Addr).getD i 0) [(PL, ("law" : Str) ++ Str.ofString ".<locals>." ++ Str.ofString "<lambda>")]) hm hs (by decide +kernel) (PySem.W.mg_of X G y_Flat)) (.cons (nm_of (G := mkG l.prog w K mg base (fun i => ([XC0, XC1, XC2, XC3, XC4, XC5, XC6, CR_Row] : List Addr).getD i 0) [(PL, ("law" : Str) ++ Str.ofString ".<locals>." ++ Str.ofString "<lambda>")]) hm hs (by decide +kernel) (PySem.W.mg_of X G y_Unbuilt)) (.cons (nm_of (G := mkG l.prog w K mg base (fun i => ([XC0, XC1, XC2, XC3, XC4, XC5, XC6, CR_Row] : List Addr).getD i 0) [(PL, ("law" : Str) ++ Str.ofString ".<locals>." ++ Str.ofString "<lambda>")]) hm hs (by decide +kernel) (PySem.W.mg_of X G y_BadText)) .nil))))) (by simp)) (.cons (.cons .nil)) (.cons (.one (nm_of (G := mkG l.prog w K mg base (fun i => ([XC0, XC1, XC2, XC3, XC4, XC5, XC6, CR_Row] : List Addr).getD i 0) [(PL, ("law" : Str) ++ Str.ofString ".<locals>." ++ Str.ofString "<lambda>")]) hm hs (by decide +kernel) (PySem.W.mg_of X G y_Folded))) (.cons (.cons .nil)) (.cons (.one (nm_of (G := mkG l.prog w K mg base (fun i => ([XC0, XC1, XC2, XC3, XC4, XC5, XC6, CR_Row] : List Addr).getD i 0) [(PL, ("law" : Str) ++ Str.ofString ".<locals>." ++ Str.ofString "<lambda>")]) hm hs (by decide +kernel) (PySem.W.mg_of X G y_BadRow))) (.cons (.cons .nil)) (.cons (.one (nm_of (G := mkG l.prog w K mg base (fun i => ([XC0, XC1, XC2, XC3, XC4, XC5, XC6, CR_Row] : List Addr).getD i 0) [(PL, ("law" : Str) ++ Str.ofString ".<locals>." ++ Str.ofString "<lambda>")]) hm hs (by decide +kernel) (PySem.W.mg_of X G y_Full))) (.cons (.cons .nil)) (.cons (.one (nm_of (G := mkG l.prog w K mg base (fun i => ([XC0, XC1, XC2, XC3, XC4, XC5, XC6, CR_Row] : List Addr).getD i 0) [(PL, ("law" : Str) ++ Str.ofString ".<locals>." ++ Str.ofString "<lambda>")]) hm hs (by decide +kernel) (PySem.W.mg_of X G y_BadDeed))) (.cons (.cons .nil)) (.cons (.tup (.cons (nm_of (G := mkG l.prog w K mg base (fun i => ([XC0, XC1, XC2, XC3, XC4, XC5, XC6, CR_Row] : List Addr).getD i 0) [(PL, ("law" : Str) ++ Str.ofString ".<locals>." ++ Str.ofString "<lambda>")]) hm hs (by decide +kernel) (PySem.W.mg_of X G y_RodError)) (.cons (nm_of (G := mkG l.prog w K mg base (fun i => ([XC0, XC1, XC2, XC3, XC4, XC5, XC6, CR_Row] : List Addr).getD i 0) [(PL, ("law" : Str) ++ Str.ofString ".<locals>." ++ Str.ofString "<lambda>")]) hm hs (by decide +kernel) (PySem.W.mg_of X G y_Missing)) .nil)) (by simp)) (.cons .nil) .nil))))))), HD⟩, fun c hc => by
      match c, hc with
      | 0, _ => exact ⟨xg0, xh0, xe0, xd0⟩
      | 1, _ => exact ⟨xg1, xh1, xe1, xd1⟩
      | 2, _ => exact ⟨xg2, xh2, xe2, xd2⟩
      | 3, _ => exact ⟨xg3, xh3, xe3, xd3⟩
      | 4, _ => exact ⟨xg4, xh4, xe4, xd4⟩
      | 5, _ => exact ⟨xg5, xh5, xe5, xd5⟩
      | 6, _ => exact ⟨xg6, xh6, xe6, xd6⟩
      | c + 7, h => exact absurd h (by unfold nCx; omega)⟩
    tb := hTB _ (List.mem_singleton.mpr rfl)
    tT := rfl
    cd0 := rfl }
  exact law_end (ok_law T) rfl LAW
end Law
namespace Law
open PySem L2 CT
theorem fn_ex {N : Nat} {body : Fo} {ds : List D} {m m' : Ms} {x : Xc} {σ' : Sd} (h : body (ds.map some ++ List.replicate (N - ds.length) none) m = .ex x σ' m') (hd : cfF x.fs = true) (hm : m'.length = m.length) : fnSem N body ds m = .ex x m' := by
  unfold fnSem
  rw [h]
  simp only [hd, if_true]
  rw [List.take_of_length_le (by omega)]
theorem fn_rtC {N : Nat} {body : Fo} {ds : List D} {m m' : Ms} {c : Nat} {ce : Ce} (h : body (ds.map some ++ List.replicate (N - ds.length) none) m = .rt (.cel c) m') (hc : m.length ≤ c) (e : m'[c]? = some ce) : fnSem N body ds m = .ok ce.fz (m'.take m.length) := by
  have z : ¬ D.cf m.length (.cel c) = true := by simp; omega
  unfold fnSem
  rw [h]
  simp only [frz, z, e, Option.map_some]
  simp
/-- a list made in a def and handed back -/
theorem fn_new {N : Nat} {body : Fo} {ds es : List D} {m : Ms} (h : body (ds.map some ++ List.replicate (N - ds.length) none) m = .rt (.cel m.length) (m ++ [.l es])) : fnSem N body ds m = .ok (.lst es) m := by
  rw [fn_rtC h (Nat.le_refl _) (by simp : (m ++ [Ce.l es])[m.length]? = some (.l es))]
  simp [Ce.fz]
theorem seq_nx {f g : Fo} {σ σ1 : Sd} {m m1 : Ms} {r : O} (h1 : f σ m = .nx σ1 m1) (h2 : g σ1 m1 = r) : xSeq f g σ m = r := by
  rw [ev_seq, h1]
  exact h2
/-- the box: the script's cells, the place, what is left of a cell, the seed, the count -/
def bx (cs : List Int) (i a s c : Int) : List D := [.lst (cs.map .int), .int i, .int a, .int s, .int c]
section
variable {cs : List Int} {i a s c x : Int}
theorem bx0 : atI (bx cs i a s c) 0 = some (.lst (cs.map .int)) := rfl
theorem bx1 : atI (bx cs i a s c) 1 = some (.int i) := rfl
theorem bx2 : atI (bx cs i a s c) 2 = some (.int a) := rfl
theorem bx3 : atI (bx cs i a s c) 3 = some (.int s) := rfl
theorem bx4 : atI (bx cs i a s c) 4 = some (.int c) := rfl
theorem bxl1 : ixN (bx cs i a s c).length 1 = some 1 := rfl
theorem bxl2 : ixN (bx cs i a s c).length 2 = some 2 := rfl
theorem bxl3 : ixN (bx cs i a s c).length 3 = some 3 := rfl
theorem bxl4 : ixN (bx cs i a s c).length 4 = some 4 := rfl
theorem bxs1 : (bx cs i a s c).set 1 (.int x) = bx cs x a s c := rfl
theorem bxs2 : (bx cs i a s c).set 2 (.int x) = bx cs i x s c := rfl
theorem bxs3 : (bx cs i a s c).set 3 (.int x) = bx cs i a x c := rfl
theorem bxs4 : (bx cs i a s c).set 4 (.int x) = bx cs i a s x := rfl
end
theorem atI_map {cs : List Int} {i : Int} (h0 : 0 ≤ i) (h : i < (cs.length : Int)) : atI (cs.map D.int) i = some (.int (cs.getD i.toNat 0)) := by
  have e : i.toNat < cs.length := by omega
  unfold atI ixN
  rw [if_pos h0, if_pos (by rw [List.length_map]; exact h)]
  simp [List.getElem?_map, List.getElem?_eq_getElem e, List.getD_eq_getElem?_getD]
/-- how a number is drawn -/
def pP : Int := 2147483629
def drawA (cs : List Int) (i a s c : Int) : Int × Int × Int :=
  if a < 1 ∧ i < (cs.length : Int) then (i + 1, (if cs.getD i.toNat 0 - 10 ^ 18 > 0 then cs.getD i.toNat 0 - 10 ^ 18 else 0), (s * 48271 + (cs.getD i.toNat 0).fmod pP * 7 + 11).fmod pP) else (i, a, s)
theorem draw_eq {cs : List Int} {i a s c many : Int} {rest : Ms} (hi : 0 ≤ i) (hs : s.natAbs < 2 ^ 64) (hs' : (drawA cs i a s c).2.2.natAbs < 2 ^ 32) (hc : (c + 1).natAbs < 2 ^ 64) (hm : 0 < many) (hm2 : many.natAbs < 2 ^ 60) :
    s_l_draw [.cel 0, .int many] (bx cs i a s c :: rest) =
      if 0 < (drawA cs i a s c).2.1 then .ok (.int ((drawA cs i a s c).2.1.fmod many)) (bx cs (drawA cs i a s c).1 ((drawA cs i a s c).2.1 / many) (drawA cs i a s c).2.2 c :: rest)
      else .ok (.int (((((drawA cs i a s c).2.2 ^ 3 + 69621 * (c + 1) + 9453).fmod pP) / 64).fmod many)) (bx cs (drawA cs i a s c).1 (drawA cs i a s c).2.1 (((drawA cs i a s c).2.2 ^ 3 + 69621 * (c + 1) + 9453).fmod pP) (c + 1) :: rest) := by
  have hne : many ≠ 0 := by omega
  have k1 : mulOk s 48271 = true := mulOk_of 64 32 hs (by decide)
  have k3 : divOk many = true := divOk_of 60 hm hm2
  have k4 : mulOk 69621 (c + 1) = true := mulOk_of 32 64 (by decide) hc
  have k5 : divOk 64 = true := by decide +kernel
  have k6 : powOk 10 18 = true := by decide +kernel
  have k7 : ∀ x : Int, x.natAbs < 2 ^ 32 → powOk x 3 = true := fun x h => by
    unfold powOk
    refine decide_eq_true ⟨by decide, by decide, by omega⟩
  have ePow : (10 : Int) ^ (Int.toNat 18) = 1000000000000000000 := by decide +kernel
  by_cases c1 : a < 1 ∧ i < (cs.length : Int)
  · have ed : drawA cs i a s c = (i + 1, (if cs.getD i.toNat 0 - 10 ^ 18 > 0 then cs.getD i.toNat 0 - 10 ^ 18 else 0), (s * 48271 + (cs.getD i.toNat 0).fmod pP * 7 + 11).fmod pP) := by unfold drawA; rw [if_pos c1]
    rw [ed] at hs' ⊢
    have k2 : mulOk ((cs.getD i.toNat 0).fmod 2147483629) 7 = true := by
      refine mulOk_of 64 32 ?_ (by decide)
      have h1 := Int.fmod_nonneg_of_pos (cs.getD i.toNat 0) (show (0 : Int) < 2147483629 by decide)
      have h2 := Int.fmod_lt_of_pos (cs.getD i.toNat 0) (show (0 : Int) < 2147483629 by decide)
      omega
    have hat : atI (cs.map D.int) i = some (.int (cs.getD i.toNat 0)) := atI_map hi c1.2
    generalize cs.getD i.toNat 0 = x at *
    have c1a : a < 1 := c1.1
    have c1b : i < (cs.length : Int) := c1.2
    generalize ha' : (if x - 10 ^ 18 > 0 then x - 10 ^ 18 else 0) = a' at *
    have ha2 : (if 1000000000000000000 < x then x - 1000000000000000000 else 0) = a' := by rw [← ha']; split <;> split <;> omega
    generalize hs2 : (s * 48271 + x.fmod pP * 7 + 11).fmod pP = s' at *
    have hs2' : (s * 48271 + x.fmod 2147483629 * 7 + 11).fmod 2147483629 = s' := hs2
    have k8 := k7 s' hs'
    by_cases c2 : 0 < a'
    · simp only [s_l_draw, fnSem, b_l_draw]
      simp [bx0, bx1, bx2, bx3, bx4, bxl1, bxl2, bxl3, bxl4, bxs1, bxs2, bxs3, bxs4, c1a, c1b, c2, hne, k1, k2, k3, k6, hat, ha2, hs2', ePow, frz_cf]
    · simp only [s_l_draw, fnSem, b_l_draw]
      simp [bx0, bx1, bx2, bx3, bx4, bxl1, bxl2, bxl3, bxl4, bxs1, bxs2, bxs3, bxs4, c1a, c1b, c2, hne, k1, k2, k3, k4, k5, k6, k8, hat, ha2, hs2', ePow, frz_cf, pP]
  · have ed : drawA cs i a s c = (i, a, s) := by unfold drawA; rw [if_neg c1]
    rw [ed] at hs' ⊢
    have k8 := k7 s hs'
    by_cases c1a : a < 1
    · have c1b : ¬ i < (cs.length : Int) := fun z => c1 ⟨c1a, z⟩
      by_cases c2 : 0 < a
      · omega
      · simp only [s_l_draw, fnSem, b_l_draw]
        simp [bx0, bx1, bx2, bx3, bx4, bxl1, bxl2, bxl3, bxl4, bxs1, bxs2, bxs3, bxs4, c1a, c1b, c2, hne, k4, k5, k8, frz_cf, pP]
    · by_cases c2 : 0 < a
      · simp only [s_l_draw, fnSem, b_l_draw]
        simp [bx0, bx1, bx2, bx3, bx4, bxl1, bxl2, bxl3, bxl4, bxs1, bxs2, bxs3, bxs4, c1a, c2, hne, k3, frz_cf]
      · omega
theorem cut_take (ns : List Int) : cutL (ns.map D.int) none (some 63) = (ns.take 63).map D.int := by
  unfold cutL HT.sIx
  simp
/-- what the box may be -/
def Box (b : Int) (ds : Ce) : Prop := ∃ cs i a s c, ds = .l (bx cs i a s c) ∧ 0 ≤ i ∧ 0 ≤ a ∧ 0 ≤ s ∧ s < pP ∧ 0 ≤ c ∧ c ≤ b
theorem Box.mono {b b' : Int} {ds : Ce} (h : Box b ds) (hb : b ≤ b') : Box b' ds := by
  obtain ⟨cs, i, a, s, c, e, h1, h2, h3, h4, h5, h6⟩ := h
  exact ⟨cs, i, a, s, c, e, h1, h2, h3, h4, h5, by omega⟩
theorem drawA_ok {cs : List Int} {i a s c : Int} (h1 : 0 ≤ i) (h2 : 0 ≤ a) (h3 : 0 ≤ s) (h4 : s < pP) : 0 ≤ (drawA cs i a s c).1 ∧ 0 ≤ (drawA cs i a s c).2.1 ∧ 0 ≤ (drawA cs i a s c).2.2 ∧ (drawA cs i a s c).2.2 < pP := by
  unfold drawA
  split
  · refine ⟨?_, ?_, Int.fmod_nonneg_of_pos _ (by decide), Int.fmod_lt_of_pos _ (by decide)⟩
    · simp only; omega
    · simp only; split <;> omega
  · exact ⟨h1, h2, h3, h4⟩
theorem draw_ok {b many : Int} {ds : Ce} {rest : Ms} (h : Box b ds) (hb : b < 1000000000) (hm : 0 < many) (hm2 : many.natAbs < 2 ^ 60) :
    ∃ r ds', s_l_draw [.cel 0, .int many] (ds :: rest) = .ok (.int r) (ds' :: rest) ∧ Box (b + 1) ds' ∧ 0 ≤ r ∧ r < many := by
  obtain ⟨cs, i, a, s, c, rfl, h1, h2, h3, h4, h5, h6⟩ := h
  obtain ⟨q1, q2, q3, q4⟩ := drawA_ok (cs := cs) (c := c) h1 h2 h3 h4
  have hp : pP = 2147483629 := rfl
  rw [draw_eq h1 (by omega) (by omega) (by omega) hm hm2]
  split
  · exact ⟨_, _, rfl, ⟨_, _, _, _, _, rfl, q1, Int.ediv_nonneg q2 (by omega), q3, q4, h5, by omega⟩, Int.fmod_nonneg_of_pos _ hm, Int.fmod_lt_of_pos _ hm⟩
  · exact ⟨_, _, rfl, ⟨_, _, _, _, _, rfl, q1, q2, Int.fmod_nonneg_of_pos _ (by decide), Int.fmod_lt_of_pos _ (by decide), by omega, by omega⟩, Int.fmod_nonneg_of_pos _ hm, Int.fmod_lt_of_pos _ hm⟩
theorem box_ok (ns : List Int) : ∃ ds, s_l_box [.lck (ns.map .int)] [] = .ok (.cel 0) [ds] ∧ Box 0 ds := by
  refine ⟨.l (bx (ns.take 63) 0 0 53 0), ?_, _, _, _, _, _, rfl, by decide, by decide, by decide, by decide, by decide, by decide⟩
  have e : cutL (ns.map D.int) none (some 63) = (ns.take 63).map D.int := cut_take ns
  simp [s_l_box, fnSemC, b_l_box, e, bx, -List.map_take]
/-! the greatest common part, lowest terms -/
theorem shared_by_ok (x y : Nat) (m : Ms) : s_shared_by [.int (x : Nat), .int (y : Nat)] m = .ok (.int (Nat.gcd x y : Nat)) m := by
  have h := gcd_while (i := 0) (j := 1) (by decide) (x := x) (y := y) (σ := [some (.int (x : Nat)), some (.int (y : Nat))]) (m := m) rfl rfl
  refine fn_rt' (m' := m) ?_ rfl rfl
  simp only [b_shared_by, ev_seq]
  show oSeq (xWhile _ _ [some (.int (x : Nat)), some (.int (y : Nat))] m) _ = _
  rw [h]
  rfl
theorem abs_nat (a : Int) : (if a < 0 then -a else a) = ((a.natAbs : Nat) : Int) := by split <;> omega
theorem part_ok {a b : Int} {n : Nat} (ha : a.natAbs < 2 ^ n) (hb : b.natAbs < 2 ^ n) (hn : 0 < n) (hn2 : n ≤ 8900) (h0 : b ≠ 0) (m : Ms) : s_part [.int a, .int b] m = .ok (dP (lowF a b)) m := by
  have hg : 0 < Int.gcd a b := Int.gcd_pos_of_ne_zero_right _ h0
  have hgb : ((Int.gcd a b : Nat) : Int).natAbs < 2 ^ n := by
    have := Int.gcd_le_natAbs_right (a := a) (b := b) h0
    simp; omega
  have k1 : divOk ((Int.gcd a b : Nat) : Int) = true := divOk_of n (by omega) hgb hn (by omega)
  have e1 : ((Nat.gcd a.natAbs b.natAbs : Nat) : Int) = ((Int.gcd a b : Nat) : Int) := rfl
  have k2 : ∀ s x : Int, (s = 1 ∨ s = -1) → x.natAbs < 2 ^ n → mulOk s x = true := fun s x hs hx => mulOk_of 2 n (by rcases hs with rfl | rfl <;> decide) hx (by decide) hn (by omega)
  refine fn_rt' (m' := m) ?_ rfl rfl
  by_cases hb0 : 0 < b
  · have k3 := k2 1 a (.inl rfl) ha
    have k4 := k2 1 b (.inl rfl) hb
    simp [b_part, h0, abs_nat, shared_by_ok, hb0, k1, k3, k4, e1, dP, lowF]
  · have k3 := k2 (-1) a (.inr rfl) ha
    have k4 := k2 (-1) b (.inr rfl) hb
    simp [b_part, h0, abs_nat, shared_by_ok, hb0, k1, k3, k4, e1, dP, lowF]
theorem low_ok {a b : Int} {n : Nat} (ha : a.natAbs < 2 ^ n) (hb : b.natAbs < 2 ^ n) (hn : 0 < n) (hn2 : n ≤ 8900) (h0 : b ≠ 0) (m : Ms) : s_l_low [.int a, .int b] m = .ok (dP (lowF a b)) m := by
  have hg : 0 < Int.gcd a b := Int.gcd_pos_of_ne_zero_right _ h0
  have hgb : ((Int.gcd a b : Nat) : Int).natAbs < 2 ^ n := by
    have := Int.gcd_le_natAbs_right (a := a) (b := b) h0
    simp; omega
  have k1 : divOk ((Int.gcd a b : Nat) : Int) = true := divOk_of n (by omega) hgb hn (by omega)
  have e1 : ((Nat.gcd a.natAbs b.natAbs : Nat) : Int) = ((Int.gcd a b : Nat) : Int) := rfl
  have k2 : ∀ s x : Int, (s = 1 ∨ s = -1) → x.natAbs < 2 ^ n → mulOk s x = true := fun s x hs hx => mulOk_of 2 n (by rcases hs with rfl | rfl <;> decide) hx (by decide) hn (by omega)
  refine fn_rt' (m' := m) ?_ rfl rfl
  have hw := gcd_while (i := 3) (j := 4) (by decide) (x := a.natAbs) (y := b.natAbs) (σ := [some (.int a), some (.int b), none, some (.int (a.natAbs : Nat)), some (.int (b.natAbs : Nat))]) (m := m) rfl rfl
  by_cases hb0 : 0 < b
  · have k3 := k2 1 a (.inl rfl) ha
    have k4 := k2 1 b (.inl rfl) hb
    simp [b_l_low, h0, abs_nat, hw, hb0, k1, k3, k4, e1, dP, lowF]
  · have k3 := k2 (-1) a (.inr rfl) ha
    have k4 := k2 (-1) b (.inr rfl) hb
    simp [b_l_low, h0, abs_nat, hw, hb0, k1, k3, k4, e1, dP, lowF]
theorem mul_bits {a b : Int} {n k : Nat} (ha : a.natAbs < 2 ^ n) (hb : b.natAbs < 2 ^ k) : (a * b).natAbs < 2 ^ (n + k) := wide_lt ha hb
theorem add_bits {a b : Int} {n : Nat} (ha : a.natAbs < 2 ^ n) (hb : b.natAbs < 2 ^ n) : (a + b).natAbs < 2 ^ (n + 1) := by
  have := Int.natAbs_add_le a b
  rw [Nat.pow_succ]
  omega
theorem bits_pos {n : Nat} {p : Int × Int} (h : Bits n p) : 0 < n := by
  rcases Nat.eq_zero_or_pos n with rfl | h0
  · have := h.2.1; have := h.2.2; simp at *; omega
  · exact h0
theorem plus_args {p q : Int × Int} {n k : Nat} (hp : Bits n p) (hq : Bits k q) (hn : n + k + 1 ≤ 8900) :
    mulOk p.1 q.2 = true ∧ mulOk q.1 p.2 = true ∧ mulOk p.2 q.2 = true ∧ (p.1 * q.2 + q.1 * p.2).natAbs < 2 ^ (n + k + 1) ∧ (p.2 * q.2).natAbs < 2 ^ (n + k + 1) ∧ p.2 * q.2 ≠ 0 :=
  ⟨mulOk_of n k hp.1 hq.2.1 (bits_pos hp) (bits_pos hq) (by omega), mulOk_of k n hq.1 hp.2.1 (bits_pos hq) (bits_pos hp) (by omega), mulOk_of n k hp.2.1 hq.2.1 (bits_pos hp) (bits_pos hq) (by omega),
    add_bits (mul_bits hp.1 hq.2.1) (by rw [Nat.add_comm]; exact mul_bits hq.1 hp.2.1), Nat.lt_of_lt_of_le (mul_bits hp.2.1 hq.2.1) (Nat.pow_le_pow_right (by decide) (by omega)), Int.ne_of_gt (Int.mul_pos hp.2.2 hq.2.2)⟩
theorem plus_ok {p q : Int × Int} {n k : Nat} (hp : Bits n p) (hq : Bits k q) (hn : n + k + 1 ≤ 8900) (m : Ms) : s_plus [dP p, dP q] m = .ok (dP (plusF p q)) m := by
  obtain ⟨k1, k2, k3, h1, h2, h3⟩ := plus_args hp hq hn
  refine fn_rt' (m' := m) ?_ rfl rfl
  have := part_ok h1 h2 (by omega) hn h3 m
  simp [b_plus, dP, k1, k2, k3, this, plusF]
def likeAll (rec : List D → Ms → R D) : Fn D := xCalB bAll (xCons (xLc (xRng1 (xCalB bLen (xCons (xVar 1) xNil))) (gN 2) xYes (xCal (fun ds es => sel [.p 0, .p 1] ds [] es) rec (xCons (xOp oIx (xVar 0) (xVar 2)) (xCons (xOp oIx (xVar 1) (xVar 2)) xNil)) xNil) [2]) xNil)
theorem like_loop {n : Nat} {ds : List D} {x : D} {m : Ms} (hn : ds.length ≤ 100000) (hx : x = .lst ds ∨ x = .tup ds ∨ x = .tpl ds) (h : ∀ d ∈ ds, s_l_like n [d, d] m = .ok (.bl true) m) :
    likeAll (s_l_like n) [some x, some x, none] m = .ok (.bl true) m := by
  have hl : bLen [dr m x] m = .ok (.int (ds.length : Nat)) m := by rcases hx with rfl | rfl | rfl <;> rfl
  have hi : ∀ k : Nat, (e : k < ds.length) → oIx (dr m x) (.int (k : Nat)) m = .ok ds[k] m := fun k e => by
    have : atI ds ((k : Nat) : Int) = some ds[k] := by
      unfold atI ixN
      rw [if_pos (by omega), if_pos (by omega)]
      simp [e]
    rcases hx with rfl | rfl | rfl
    · rw [dr_lst, o_ixL, this]
    · rw [dr_tup, o_ixT, this]
    · rw [dr_tpl, o_ixT, this]
  have key : lcL finL (gN 2) xYes (xCal (fun ds es => sel [.p 0, .p 1] ds [] es) (s_l_like n) (xCons (xOp oIx (xVar 0) (xVar 2)) (xCons (xOp oIx (xVar 1) (xVar 2)) xNil)) xNil) [some x, some x, none] (rngD 0 ds.length) m [] = finL m ([] ++ (rngD 0 ds.length).map fun _ => D.bl true) := by
    refine lcL_map (F := fun _ => D.bl true) _ _ fun d hd' => ?_
    unfold rngD at hd'
    obtain ⟨k, hk, rfl⟩ := List.mem_map.mp hd'
    have hk' : k < ds.length := List.mem_range.mp hk
    refine ⟨_, rfl, ?_⟩
    have e0 : (0 : Int) + ((k : Nat) : Int) = (k : Nat) := by omega
    have := h _ (List.getElem_mem hk')
    simp [e0, hi k hk', this]
  have hb : ∀ (l : List D), boolsOf (l.map fun _ => D.bl true) = some (l.map fun _ => true) := fun l => by
    induction l with
    | nil => rfl
    | cons a l ih => simp [boolsOf, ih]
  have hlen : (rngD 0 ds.length).length ≤ 100000 := by unfold rngD; simpa using hn
  have hb2 : -100000 ≤ (ds.length : Int) := by omega
  have hb4 : (ds.length : Int) ≤ 100000 := by omega
  have hb3 : (rngD 0 ds.length).length = ds.length := by simp [rngD]
  simp only [List.nil_append] at key
  simp [likeAll, xLc, hl, hn, hb2, hb3, hb4, wipeD, key, bAll, hb]
theorem like_ok : ∀ (n : Nat) (d : D) (m : Ms), Pl n d → n ≤ 64 → s_l_like (n + 1) [d, d] m = .ok (.bl true) m
  | n, d, m, h, hn => by
    refine fn_rt' (m' := m) ?_ rfl rfl
    show b_l_like (s_l_like n) [some d, some d, none] m = _
    have e0 : xCalB bAll (xCons (xLc (xRng1 (xCalB bLen (xCons (xVar 1) xNil))) (gN 2) xYes (xCal (fun ds es => sel [.p 0, .p 1] ds [] es) (s_l_like n) (xCons (xOp oIx (xVar 0) (xVar 2)) (xCons (xOp oIx (xVar 1) (xVar 2)) xNil)) xNil) [2]) xNil) = likeAll (s_l_like n) := rfl
    simp only [b_l_like, e0]
    cases d with
    | lst ds =>
      cases n with
      | zero => exact h.elim
      | succ n =>
        have := like_loop (n := n + 1) (x := .lst ds) (m := m) h.1 (.inl rfl) fun d hd => like_ok n d m (h.2 d hd) (by omega)
        simp [isK, tyN, tyI, this]
    | tup ds =>
      cases n with
      | zero => exact h.elim
      | succ n =>
        have := like_loop (n := n + 1) (x := .tup ds) (m := m) h.1 (.inr (.inl rfl)) fun d hd => like_ok n d m (h.2 d hd) (by omega)
        simp [isK, tyN, tyI, this]
    | tpl ds =>
      cases n with
      | zero => exact h.elim
      | succ n =>
        have := like_loop (n := n + 1) (x := .tpl ds) (m := m) h.1 (.inr (.inr rfl)) fun d hd => like_ok n d m (h.2 d hd) (by omega)
        simp [isK, tyN, tyI, this]
    | int i => simp [isK, tyN, tyI]
    | bl b => simp [isK, tyN, tyI]
    | str s =>
      have e := eq_self (m := m) h hn
      simp [isK, tyN, tyI, e]
    | non =>
      have e := eq_self (m := m) h hn
      simp [isK, tyN, tyI, e]
    | _ => cases n <;> exact h.elim
theorem less_ok {p q : Q} {n k : Nat} (hp : Bits n p) (hq : Bits k q) (hn : n + k + 1 ≤ 8900) (m : Ms) : s_less [dP p, dP q] m = .ok (dP (lessF p q)) m := by
  have k1 := k_12 hp hq (by omega)
  have k2 := k_12 hq hp (by omega)
  have k3 := k_22 hp hq (by omega)
  refine fn_rt' (m' := m) ?_ rfl rfl
  have := part_ok (n := n + k + 1) (bz_less0 hp hq) (c_up (bz_un hp hq) (by omega)) (by have := hp.pos; omega) hn (bz_ne hp hq) m
  simp [b_less, k1, k2, k3, this, lessF]
theorem times_ok {p q : Q} {n k : Nat} (hp : Bits n p) (hq : Bits k q) (hn : n + k ≤ 8900) (m : Ms) : s_times [dP p, dP q] m = .ok (dP (timesF p q)) m := by
  have k1 := k_11 hp hq (by omega)
  have k3 := k_22 hp hq (by omega)
  refine fn_rt' (m' := m) ?_ rfl rfl
  have := part_ok (n := n + k) (c_mul hp.1 hq.1) (bz_un hp hq) (by have := hp.pos; omega) hn (bz_ne hp hq) m
  simp [b_times, k1, k3, this, timesF]
theorem summed_ok {a b : Ar} {n k : Nat} (ha : GA n a) (hb : GA k b) (hn : n + k + 1 ≤ 8900) (m : Ms) : s_summed [dA a, dA b] m = .ok (dA (sumA a b)) m := by
  refine fn_rt' (m' := m) ?_ rfl rfl
  simp [b_summed, plus_ok ha.1.1 hb.1.1 hn, plus_ok ha.2.1 hb.2.1 hn, sumA, dA]
theorem mate_ok {a : Ar} {n : Nat} (ha : GA n a) (hn : 1 + n + 1 ≤ 8900) (m : Ms) : s_mate [dA a] m = .ok (dA (mateA a)) m := by
  refine fn_rt' (m' := m) ?_ rfl rfl
  have h := less_ok gd_0.1 ha.2.1 hn m
  rw [less_0 ha.2.2] at h
  have h' : s_less [c_ZERO, dP a.2] m = .ok (dP (negP a.2)) m := h
  simp [b_mate, h', mateA, dA]
theorem made_ok {a b : Ar} {n k : Nat} (ha : GA n a) (hb : GA k b) (hn : 2 * (n + k) + 1 ≤ 8900) (m : Ms) : s_made [dA a, dA b] m = .ok (dA (madeA a b)) m := by
  refine fn_rt' (m' := m) ?_ rfl rfl
  have h1 := less_ok (bz_times ha.1.1 hb.1.1) (bz_times ha.2.1 hb.2.1) (by omega) m
  have h2 := plus_ok (bz_times ha.1.1 hb.2.1) (bz_times ha.2.1 hb.1.1) (by omega) m
  simp [b_made, gT_dA, times_ok ha.1.1 hb.1.1 (by omega), times_ok ha.2.1 hb.2.1 (by omega), times_ok ha.1.1 hb.2.1 (by omega), times_ok ha.2.1 hb.1.1 (by omega), h1, h2, madeA, dA]
theorem often_ok {a : Ar} {p : Q} {n k : Nat} (ha : GA n a) (hp : Gd k p) (hn : n + k ≤ 8900) (m : Ms) : s_often [dA a, dP p] m = .ok (dA (oftenA a p)) m := by
  refine fn_rt' (m' := m) ?_ rfl rfl
  simp [b_often, times_ok ha.1.1 hp.1 hn, times_ok ha.2.1 hp.1 hn, oftenA, dA]
theorem weight_ok {a : Ar} {n : Nat} (ha : GA n a) (hn : 4 * n + 1 ≤ 8900) (m : Ms) : s_weight [dA a] m = .ok (dP (weightA a)) m := by
  refine fn_rt' (m' := m) ?_ rfl rfl
  have h2 := plus_ok (bz_times ha.1.1 ha.1.1) (bz_times ha.2.1 ha.2.1) (by omega) m
  simp [b_weight, times_ok ha.1.1 ha.1.1 (by omega), times_ok ha.2.1 ha.2.1 (by omega), h2, weightA]
theorem l_of_ok {b : Int} {ds : Ce} {es : List D} {rest : Ms} (h : Box b ds) (hb : b < 1000000000) (h0 : es ≠ []) (hl : es.length < 100000) (hc : ∀ x ∈ es, x.cf (rest.length + 1) = true) :
    ∃ x ds', s_l_of [.cel 0, .lst es] (ds :: rest) = .ok x (ds' :: rest) ∧ Box (b + 1) ds' ∧ x ∈ es := by
  have hp : 0 < es.length := List.length_pos_iff.mpr h0
  obtain ⟨r, d1, e1, b1, l1, u1⟩ := draw_ok (many := (es.length : Nat)) (rest := rest) h hb (by omega) (by omega)
  have hr : r.toNat < es.length := by omega
  have hat : atI es r = some es[r.toNat] := by
    unfold atI ixN
    rw [if_pos l1, if_pos u1]
    simp [hr]
  refine ⟨es[r.toNat], d1, ?_, b1, List.getElem_mem hr⟩
  refine fn_rt' (m' := d1 :: rest) ?_ (by simpa using hc _ (List.getElem_mem hr)) rfl
  simp [b_l_of, e1, hat]
theorem l_small_ok {b : Int} {ds : Ce} {rest : Ms} (h : Box b ds) (hb : b < 999999990) : ∃ p ds', s_l_small [.cel 0] (ds :: rest) = .ok (dP p) (ds' :: rest) ∧ Box (b + 2) ds' ∧ Gd 3 p := by
  obtain ⟨r, d1, e1, b1, l1, u1⟩ := draw_ok (many := 13) (rest := rest) h (by omega) (by decide) (by decide)
  obtain ⟨x, d2, e2, b2, hx⟩ := l_of_ok (es := [.int 1, .int 1, .int 1, .int 2, .int 3]) (rest := rest) b1 (by omega) (by simp) (by simp) (by simp)
  obtain ⟨u, rfl, hu, hu2⟩ : ∃ u : Int, x = .int u ∧ 0 < u ∧ u < 4 := by
    simp at hx
    rcases hx with rfl | rfl | rfl <;> exact ⟨_, rfl, by decide, by decide⟩
  have hl := low_ok (a := r - 6) (b := u) (n := 3) (by omega) (by omega) (by decide) (by decide) (by omega) (d2 :: rest)
  refine ⟨_, d2, ?_, b2.mono (by omega), gd_low (a := r - 6) (b := u) (by omega) (by omega) (by omega)⟩
  refine fn_rt' (m' := d2 :: rest) ?_ rfl rfl
  simp [b_l_small, e1, e2, hl]
theorem l_spot_ok {b : Int} {ds : Ce} {rest : Ms} (h : Box b ds) (hb : b < 999999980) : ∃ a ds', s_l_spot [.cel 0] (ds :: rest) = .ok (dA a) (ds' :: rest) ∧ Box (b + 4) ds' ∧ GA 3 a := by
  obtain ⟨p, d1, e1, b1, g1⟩ := l_small_ok (rest := rest) h (by omega)
  obtain ⟨q, d2, e2, b2, g2⟩ := l_small_ok (rest := rest) b1 (by omega)
  refine ⟨(p, q), d2, ?_, b2.mono (by omega), g1, g2⟩
  refine fn_rt' (m' := d2 :: rest) ?_ rfl rfl
  simp [b_l_spot, e1, e2, dA]
theorem l_arrow_ok {b : Int} {ds : Ce} {rest : Ms} (h : Box b ds) (hb : b < 999999970) : ∃ a ds', s_l_arrow [.cel 0] (ds :: rest) = .ok (dA a) (ds' :: rest) ∧ Box (b + 5) ds' ∧ GA 3 a ∧ a ≠ ((0, 1), (0, 1)) := by
  obtain ⟨r, d1, e1, b1, l1, u1⟩ := draw_ok (many := 3) (rest := rest) h (by omega) (by decide) (by decide)
  by_cases hr : r = 0
  · obtain ⟨x, d2, e2, b2, hx⟩ := l_of_ok (es := [.tup [.int 3, .int 4], .tup [.int 4, .int 3], .tup [.int 5, .int 0], .tup [.int 0, .int 5], .tup [.int (-3), .int 4], .tup [.int (-5), .int 0], .tup [.int 4, .int (-3)], .tup [.int 0, .int (-5)], .tup [.int 1, .int 0], .tup [.int (-1), .int 0]]) (rest := rest) b1 (by omega) (by simp) (by simp) (by simp)
    obtain ⟨u, v, rfl, hu, hv, hz⟩ : ∃ u v : Int, x = .tup [.int u, .int v] ∧ u.natAbs < 2 ^ 3 ∧ v.natAbs < 2 ^ 3 ∧ ((u, 1), (v, 1)) ≠ (((0, 1), (0, 1)) : Ar) := by
      simp at hx
      rcases hx with rfl | rfl | rfl | rfl | rfl | rfl | rfl | rfl | rfl | rfl <;> exact ⟨_, _, rfl, by decide, by decide, by decide⟩
    refine ⟨((u, 1), (v, 1)), d2, ?_, b2.mono (by omega), ⟨gd_int hu (by decide), gd_int hv (by decide)⟩, hz⟩
    refine fn_rt' (m' := d2 :: rest) ?_ rfl rfl
    simp [b_l_arrow, e1, hr, e2, dA, dP]
  · obtain ⟨a, d2, e2, b2, g2⟩ := l_spot_ok (rest := rest) b1 (by omega)
    have z : (.tup [.tup [.int 0, .int 1], .tup [.int 0, .int 1]] : D) = dA ((0, 1), (0, 1)) := rfl
    have z2 : (.tup [.tup [.int 2, .int 1], .tup [.int 0, .int 1]] : D) = dA ((2, 1), (0, 1)) := rfl
    by_cases ha : a = ((0, 1), (0, 1))
    · subst ha
      refine ⟨((2, 1), (0, 1)), d2, ?_, b2.mono (by omega), ⟨gd_int (by decide) (by decide), gd_int (by decide) (by decide)⟩, by decide⟩
      refine fn_rt' (m' := d2 :: rest) ?_ rfl rfl
      simp [b_l_arrow, e1, hr, e2, z, z2]
    · refine ⟨a, d2, ?_, b2.mono (by omega), g2, ha⟩
      refine fn_rt' (m' := d2 :: rest) ?_ rfl rfl
      simp [b_l_arrow, e1, hr, e2, z, z2, ha]
theorem over_ok {p q : Q} {n k : Nat} (hp : Bits n p) (hq : Bits k q) (h0 : q.1 ≠ 0) (hn : n + k ≤ 8900) (m : Ms) : s_over [dP p, dP q] m = .ok (dP (overF p q)) m := by
  have k1 := k_12 hp hq (by omega)
  have k2 := k_21 hp hq (by omega)
  refine fn_rt' (m' := m) ?_ rfl rfl
  have := part_ok (n := n + k) (c_mul hp.1 hq.2.1) (c_mul hp.2.1 hq.1) (by have := hp.pos; omega) hn (Int.mul_ne_zero (Int.ne_of_gt hp.2.2) h0) m
  simp [b_over, h0, k1, k2, this, overF]
theorem parted_ok {a b : Ar} {n k : Nat} (ha : GA n a) (hb : GA k b) (h0 : b ≠ ((0, 1), (0, 1))) (hn : 2 * (n + k) + 1 + (1 + (4 * k + 1)) ≤ 8900) (m : Ms) : s_parted [dA a, dA b] m = .ok (dA (partedA a b)) m := by
  refine fn_rt' (m' := m) ?_ rfl rfl
  have z : c_ORIGIN = dA ((0, 1), (0, 1)) := rfl
  have z1 : c_ONE = dP (1, 1) := rfl
  have f1 := mate_ok hb (by omega) m
  have f2 := made_ok ha hb.mate (by omega) m
  have f3 := weight_ok hb (by omega) m
  have f4 := over_ok gd_1.1 hb.weight.1 (weight_up hb h0) (by omega) m
  have f5 := often_ok (ha.made hb.mate) (gd_1.over hb.weight (weight_up hb h0)) (by omega) m
  simp [b_parted, z, z1, h0, f1, f2, f3, f4, f5, partedA]
theorem try_ok {nC : Nat} {hd : Hd} {f : Fn D} {σ : Sd} {m m' : Ms} {d : D} (h : f σ m = .ok d m') : xTry nC hd f σ m = .ok (.tup [.str (Str.ofString "told"), d]) m' := by
  unfold xTry
  rw [h]
theorem try_ex {nC : Nat} {hd : Hd} {f : Fn D} {σ : Sd} {m m' : Ms} {x : Xc} {ds : List D} (h : f σ m = .ex x m') (hc : x.c < nC) (hh : hdD x.fs x.c hd = some ds) (hl : ds.length ≤ 1000 := by decide) : xTry nC hd f σ m = .ok (.tup ds) m' := by
  unfold xTry
  rw [h]
  simp only [hc, if_true, hh, hl]
/-- the law's turns, where lists of the law's own are left behind -/
theorem turnsR {x : D} {w : Fo} {N n : Nat} {B : Int} (hB0 : 0 ≤ B) (hB : B * n < 600000000)
    (h : ∀ (o : List (Option D)) (b : Int) (ds : Ce) (rest : Ms), o.length = N → Box b ds → 0 ≤ b → b < 600000000 → ∃ o' ds' rest', (w (some x :: some (.cel 0) :: o) (ds :: rest) = .nx (some x :: some (.cel 0) :: o') (ds' :: rest') ∨ w (some x :: some (.cel 0) :: o) (ds :: rest) = .ct (some x :: some (.cel 0) :: o') (ds' :: rest')) ∧ o'.length = N ∧ Box (b + B) ds')
    {o : List (Option D)} {ds : Ce} {rest : Ms} (ho : o.length = N) (hb : Box 0 ds) : ∃ o' ds' rest', forL (gN 2) w (rngD 0 n) (some x :: some (.cel 0) :: o) (ds :: rest) = .nx (some x :: some (.cel 0) :: o') (ds' :: rest') ∧ o'.length = N ∧ Box (B * n) ds' := by
  have hl : (rngD 0 n).length = n := by simp [rngD]
  obtain ⟨σ', m', e, o', ds', rest', r1, r2, r3, r4⟩ := forL_all (g := gN 2) (b := w) (fun i σ m => ∃ o ds rest, σ = some x :: some (.cel 0) :: o ∧ m = ds :: rest ∧ o.length = N ∧ Box (B * i) ds) (rngD 0 n) (fun i d σ m hi ⟨o, ds, rest, hσ, hm, ho, hb⟩ => by
    subst hσ hm
    have hi' : i < n := by
      have := (List.getElem?_eq_some_iff.mp hi).1
      omega
    have hbi : B * (i : Int) < 600000000 := Int.lt_of_le_of_lt (Int.mul_le_mul_of_nonneg_left (by omega) hB0) hB
    obtain ⟨o', ds', rest', e, ho', hb'⟩ := h (o.set 0 (some d)) (B * i) ds rest (by simpa using ho) hb (Int.mul_nonneg hB0 (by omega)) hbi
    refine ⟨_, _, _, _, rfl, e, o', ds', rest', rfl, rfl, ho', hb'.mono ?_⟩
    rw [Int.natCast_add, Int.mul_add]
    simp) (σ := some x :: some (.cel 0) :: o) (m := ds :: rest) ⟨o, ds, rest, rfl, rfl, ho, by simpa using hb⟩
  subst r1 r2
  exact ⟨o', ds', rest', e, r3, by rw [hl] at r4; exact r4⟩
/-! rods, names -/
abbrev Rod := Str × Ar
def dR (r : Rod) : D := .tup [.str r.1, dA r.2]
def lettersS : Str := "abcdefghijklmnopqrstuvwxyz"
def alphB (z : Str) : Bool := z.cps.toList.all fun c => occB ⟨#[c]⟩ lettersS
def nameG (z : Str) : Bool := decide (1 ≤ (z.length : Int) ∧ (z.length : Int) ≤ 6) && alphB z
def fL : D → D
  | .str u => .bl (occB u lettersS)
  | _ => .non
theorem bools_fL (z : Str) : boolsOf ((charsD z).map fL) = some (z.cps.toList.map fun c => occB ⟨#[c]⟩ lettersS) := by
  unfold charsD
  induction z.cps.toList with
  | nil => rfl
  | cons c l ih =>
    simp only [List.map_cons]
    show (boolsOf _).map _ = _
    rw [ih]
    rfl
theorem charsD_len (z : Str) : (charsD z).length = z.length := by simp [charsD, Str.length]
/-- all([sign in LETTERS for sign in text]) -/
def allX (i j : Nat) (v : Fn D) : Fn D := xCalB bAll (xCons (xLc (xIt (xVar i)) (gN j) xYes v [j]) xNil)
theorem alph_lc {v : Fn D} {σ : Sd} {i j : Nat} {z : Str} {m : Ms} (hi : σ[i]? = some (some (.str z))) (hj : j < σ.length) (hz : z.length ≤ 100000) (hv : ∀ u : Str, v (σ.set j (some (.str u))) m = .ok (.bl (occB u lettersS)) m) :
    allX i j v σ m = .ok (.bl (alphB z)) m := by
  have key : lcL finL (gN j) xYes v (wipeD σ [j]) (charsD z) m [] = finL m ([] ++ (charsD z).map fL) := lcL_map _ _ fun d hd => by
    obtain ⟨c, _, rfl⟩ : ∃ c, c ∈ z.cps.toList ∧ D.str ⟨#[c]⟩ = d := by simpa [charsD] using hd
    refine ⟨_, rfl, ?_⟩
    have : (wipeD σ [j]).set j (some (.str ⟨#[c]⟩)) = σ.set j (some (.str ⟨#[c]⟩)) := by simp [wipeD]
    rw [this, hv]
    rfl
  have h1 : (charsD z).length ≤ 100000 := by rw [charsD_len]; exact hz
  rw [List.nil_append] at key
  have h2 : ((charsD z).map fL).length = z.length := by rw [List.length_map, charsD_len]
  have h3 : bAll [.lst ((charsD z).map fL)] m = .ok (.bl (alphB z)) m := by
    unfold bAll
    simp only [bools_fL]
    simp [alphB, List.all_map, Function.comp_def]
  have e1 : xVar i σ m = .ok (.str z) m := ev_var hi
  have e2 : xLc (xIt (xVar i)) (gN j) xYes v [j] σ m = .ok (.lst ((charsD z).map fL)) m := by
    simp [e1, h1, key, finL]
  generalize hx : xLc (xIt (xVar i)) (gN j) xYes v [j] = X at e2
  simp [allX, hx, e2, h3]
theorem b_lenS {x : Str} {m : Ms} (h : x.length ≤ 100000) : bLen [.str x] m = .ok (.int (x.length : Nat)) m := by
  show (if x.length ≤ 100000 then _ else _) = _
  rw [if_pos h]
theorem copied_ok (a : Ar) (m : Ms) : s_copied [dA a] m = .ok (dA a) m := by
  refine fn_rt' (m' := m) ?_ (by simp) rfl
  simp [b_copied, dA, dP, gT]
theorem is_name_ok {z : Str} (hz : z.length ≤ 1000) (m : Ms) : s_is_name [.str z] m = .ok (.bl (nameG z)) m := by
  refine fn_rt' (m' := m) ?_ (by simp) rfl
  have key := alph_lc (v := v_is_name_1) (σ := [some (.str z), none]) (i := 0) (j := 1) (z := z) (m := m) rfl (by simp) (by omega) (fun u => by simp [v_is_name_1, c_LETTERS, oIn, lettersS])
  have e0 : xCalB bAll (xCons (xLc (xIt (xVar 0)) (gN 1) xYes v_is_name_1 [1]) xNil) = allX 0 1 v_is_name_1 := rfl
  have e1 : bLen [.str z] m = .ok (.int (z.length : Nat)) m := b_lenS (by omega)
  simp only [b_is_name, e0]
  by_cases h1 : 1 ≤ (z.length : Int) <;> by_cases h2 : (z.length : Int) ≤ 6 <;> simp [key, e1, c_MOST_NAME, h1, h2, nameG]
def xName (z : Str) : Xc := ⟨1, [(Str.ofString "name", .str z), (Str.ofString "called", .str (Str.ofString "BadName"))]⟩
def xNought (k : Nat) : Xc := ⟨2, [(Str.ofString "at", .int (k : Nat)), (Str.ofString "called", .str (Str.ofString "Nought"))]⟩
def xTwice (z : Str) : Xc := ⟨3, [(Str.ofString "name", .str z), (Str.ofString "called", .str (Str.ofString "Twice"))]⟩
def xMany (n : Nat) : Xc := ⟨4, [(Str.ofString "many", .int (n : Nat)), (Str.ofString "called", .str (Str.ofString "BadRow"))]⟩
/-- the first fault of names and arrows -/
inductive Ft where
  | name (z : Str)
  | nought (k : Nat)
  | twice (z : Str)
  | many (n : Nat)
def Ft.x : Ft → Xc
  | .name z => xName z
  | .nought k => xNought k
  | .twice z => xTwice z
  | .many n => xMany n
def chk1 : Nat → List Rod → Option Ft
  | _, [] => none
  | k, r :: rs => if nameG r.1 = true then (if r.2 = ((0, 1), (0, 1)) then some (.nought k) else chk1 (k + 1) rs) else some (.name r.1)
def chk2 : List Str → List Rod → Option Ft
  | _, [] => none
  | ns, r :: rs => if r.1 ∈ ns then some (.twice r.1) else chk2 (ns ++ [r.1]) rs
def chk (rs : List Rod) : Option Ft := match chk1 0 rs with
  | some x => some x
  | none => chk2 [] rs
theorem need_1 {x0 : Option D} {m : Ms} : ∀ (rs : List Rod) (k : Nat) (o1 o2 o3 o4 : Option D), (∀ r ∈ rs, r.1.length ≤ 1000) →
    ∃ σ', (match chk1 k rs with | none => ∃ p2 p3 p4, σ' = [x0, o1, p2, p3, p4] | some _ => True) ∧ forL (gT 2 (gCons (gN 2) (gCons (gT 2 (gCons (gN 3) (gCons (gN 4) gNil))) gNil))) w_need_rods_1 (enumD k (rs.map dR)) [x0, o1, o2, o3, o4] m = match chk1 k rs with
      | none => .nx σ' m
      | some x => .ex x.x σ' m
  | [], k, o1, o2, o3, o4, _ => ⟨[x0, o1, o2, o3, o4], ⟨_, _, _, rfl⟩, rfl⟩
  | r :: rs, k, o1, o2, o3, o4, h => by
    obtain ⟨z, a⟩ := r
    have hz : z.length ≤ 1000 := h _ (List.mem_cons_self ..)
    have e1 := is_name_ok hz m
    have e2 := copied_ok a m
    have z0 : c_ORIGIN = dA ((0, 1), (0, 1)) := rfl
    have hg : (gT 2 (gCons (gN 2) (gCons (gT 2 (gCons (gN 3) (gCons (gN 4) gNil))) gNil))) (.tup [.int (k : Nat), dR (z, a)]) [x0, o1, o2, o3, o4] m = some ([x0, o1, some (.int (k : Nat)), some (.str z), some (dA a)], m) := by
      simp [gT, dR]
    simp only [List.map_cons, enumD]
    rw [forL_cons, hg]
    simp only
    by_cases c1 : nameG z = true
    · by_cases c2 : a = ((0, 1), (0, 1))
      · subst c2
        refine ⟨[x0, o1, some (.int (k : Nat)), some (.str z), some (dA ((0, 1), (0, 1)))], by simp [chk1, c1], ?_⟩
        simp [w_need_rods_1, e1, e2, z0, c1, chk1, Ft.x, xNought, fsE, xRaise]
      · obtain ⟨σ', hs, e⟩ := need_1 (x0 := x0) (m := m) rs (k + 1) o1 (some (.int (k : Nat))) (some (.str z)) (some (dA a)) fun r hr => h r (List.mem_cons_of_mem _ hr)
        have hc : chk1 k ((z, a) :: rs) = chk1 (k + 1) rs := by simp [chk1, c1, c2]
        rw [hc]
        refine ⟨σ', hs, ?_⟩
        rw [← e]
        simp [w_need_rods_1, e1, e2, z0, c1, c2]
    · refine ⟨[x0, o1, some (.int (k : Nat)), some (.str z), some (dA a)], by simp [chk1, c1], ?_⟩
      simp [w_need_rods_1, e1, c1, chk1, Ft.x, xName, fsE, xRaise]
theorem inD_str (z : Str) : ∀ ns : List Str, inD (.str z) (ns.map D.str) = decide (z ∈ ns)
  | [] => rfl
  | n :: ns => by
    have ih := inD_str z ns
    unfold inD at ih ⊢
    rw [List.map_cons, List.any_cons, ih]
    show (n == z || decide (z ∈ ns)) = _
    by_cases h : n = z
    · subst h; simp
    · have h' : ¬ z = n := fun e => h e.symm
      simp [h, h']
theorem in_names (z : Str) (ns : List Str) (m : Ms) : oIn (.str z) (.lst (ns.map D.str)) m = .ok (.bl (decide (z ∈ ns))) m := by
  have h : (flatD (.str z) && (ns.map D.str).all flatD) = true := by simp [flatD]
  unfold oIn
  simp only [h, if_true, inD_str]
theorem strs_cf (n : Nat) (ns : List Str) : D.cfs n (ns.map D.str) = true := cfs_all fun d hd => by
  obtain ⟨r, _, rfl⟩ := List.mem_map.mp hd
  rfl
theorem need_2 {x0 : Option D} {m : Ms} : ∀ (rs : List Rod) (ns : List Str) (o2 o3 o4 : Option D), ns.length + rs.length ≤ 2000 →
    ∃ σ' m', m'.take m.length = m ∧ (match chk2 ns rs with | none => True | some _ => True) ∧ forL (gT 2 (gCons (gN 3) (gCons (gN 4) gNil))) w_need_rods_2 (rs.map dR) [x0, some (.cel m.length), o2, o3, o4] (m ++ [.l (ns.map D.str)]) = match chk2 ns rs with
      | none => .nx σ' m'
      | some x => .ex x.x σ' m'
  | [], ns, o2, o3, o4, _ => ⟨_, m ++ [.l (ns.map D.str)], by simp, trivial, rfl⟩
  | r :: rs, ns, o2, o3, o4, hl => by
    have hl' : ns.length + (rs.length + 1) ≤ 2000 := hl
    obtain ⟨z, a⟩ := r
    have hg : (gT 2 (gCons (gN 3) (gCons (gN 4) gNil))) (dR (z, a)) [x0, some (.cel m.length), o2, o3, o4] (m ++ [.l (ns.map D.str)]) = some ([x0, some (.cel m.length), o2, some (.str z), some (dA a)], m ++ [.l (ns.map D.str)]) := by
      simp [gT, dR]
    have hi := in_names z ns (m ++ [.l (ns.map D.str)])
    simp only [List.map_cons]
    rw [forL_cons, hg]
    simp only
    by_cases c1 : z ∈ ns
    · refine ⟨[x0, some (.cel m.length), o2, some (.str z), some (dA a)], m ++ [.l (ns.map D.str)], by simp, by simp [chk2, c1], ?_⟩
      simp [w_need_rods_2, hi, c1, chk2, Ft.x, xTwice, fsE, xRaise]
    · obtain ⟨σ', m', h1, hs, e⟩ := need_2 (x0 := x0) (m := m) rs (ns ++ [z]) o2 (some (.str z)) (some (dA a)) (by simp; omega)
      have hc : chk2 ns ((z, a) :: rs) = chk2 (ns ++ [z]) rs := by simp [chk2, c1]
      rw [hc]
      refine ⟨σ', m', h1, hs, ?_⟩
      rw [← e]
      have h2 : ns.length < 100000 := by omega
      have h3 := strs_cf 0 (ns ++ [z])
      simp at h3
      simp [w_need_rods_2, hi, c1, xMeth, isL, fAppend, h2, h3, List.set_append]
theorem ft_cf (x : Ft) : cfF x.x.fs = true := by cases x <;> rfl
theorem need_ok {rs : List Rod} (h : ∀ r ∈ rs, r.1.length ≤ 1000) (hl : rs.length ≤ 1000) (m : Ms) : s_need_rods [.lst (rs.map dR)] m = match chk rs with
    | none => .ok .non m
    | some x => .ex x.x m := by
  obtain ⟨σ1, s1, e1⟩ := need_1 (x0 := some (.lst (rs.map dR))) (m := m) rs 0 none none none none h
  unfold chk
  cases c : chk1 0 rs with
  | some x =>
    rw [c] at e1
    simp only at e1 ⊢
    refine fn_ex (σ' := σ1) ?_ (ft_cf x) rfl
    simp [b_need_rods, e1]
  | none =>
    rw [c] at e1 s1
    obtain ⟨p2, p3, p4, rfl⟩ := s1
    simp only at e1 ⊢
    obtain ⟨σ2, m2, h2, _, e2⟩ := need_2 (x0 := some (.lst (rs.map dR))) (m := m) rs [] p2 p3 p4 (by simp; omega)
    rw [List.map_nil] at e2
    cases c2 : chk2 [] rs with
    | none =>
      rw [c2] at e2
      simp only at e2 ⊢
      have hb : b_need_rods [some (.lst (rs.map dR)), none, none, none, none] m = .nx σ2 m2 := by simp [b_need_rods, e1, e2]
      unfold s_need_rods fnSem
      show (match b_need_rods [some (.lst (rs.map dR)), none, none, none, none] m with | .nx _ m' => R.ok D.non (m'.take m.length) | .rt d m' => _ | .ex x _ m' => _ | _ => _) = _
      rw [hb]
      simp only [h2]
    | some x =>
      rw [c2] at e2
      simp only at e2 ⊢
      have hb : b_need_rods [some (.lst (rs.map dR)), none, none, none, none] m = .ex x.x σ2 m2 := by simp [b_need_rods, e1, e2]
      unfold s_need_rods fnSem
      show (match b_need_rods [some (.lst (rs.map dR)), none, none, none, none] m with | .nx _ m' => R.ok D.non (m'.take m.length) | .rt d m' => _ | .ex x _ m' => _ | _ => _) = _
      rw [hb]
      simp only [h2, ft_cf, if_true]
/-! a row is made -/
def dRow (rs : List Rod) (a : Ar) : Ce := .o k_Row [Str.ofString "lot", Str.ofString "first"] [.lst (rs.map dR), dA a]
def rowF (rs : List Rod) : Option Ft := if 1 ≤ rs.length ∧ rs.length ≤ 8 then chk rs else some (.many rs.length)
theorem dR_cf (n : Nat) (rs : List Rod) : D.cfs n (rs.map dR) = true := cfs_all fun d hd => by
  obtain ⟨r, _, rfl⟩ := List.mem_map.mp hd
  simp [dR, dA, dP]
theorem init_ok {rs : List Rod} {a : Ar} (h : ∀ r ∈ rs, r.1.length ≤ 1000) (hl : rs.length ≤ 1000) (m : Ms) : s_Row___init [.cel m.length, .lst (rs.map dR), dA a] (m ++ [.o k_Row [] []]) = match rowF rs with
    | none => .ok .non (m ++ [dRow rs a])
    | some x => .ex x.x (m ++ [.o k_Row [] []]) := by
  have hl2 : rs.length ≤ 100000 := by omega
  unfold rowF
  by_cases c1 : 1 ≤ rs.length ∧ rs.length ≤ 8
  · rw [if_pos c1]
    have c1a : (1 : Int) ≤ (rs.length : Nat) := by omega
    have c1b : ((rs.length : Nat) : Int) ≤ 8 := by omega
    have e1 := need_ok h hl (m ++ [.o k_Row [] []])
    cases c : chk rs with
    | some x =>
      rw [c] at e1
      simp only at e1 ⊢
      refine fn_ex (σ' := [some (.cel m.length), some (.lst (rs.map dR)), some (dA a), none, none]) ?_ (ft_cf x) rfl
      simp [b_Row___init, c_MOST_RODS, c1a, c1b, e1, xRaise]
    | none =>
      rw [c] at e1
      simp only at e1 ⊢
      have key : ∀ M : Ms, lcL finL (gT 2 (gCons (gN 3) (gCons (gN 4) gNil))) xYes v_Row___init_1 [some (.cel m.length), some (.lst (rs.map dR)), some (dA a), none, none] (rs.map dR) M [] = finL M ([] ++ (rs.map dR).map id) := fun M => lcL_map _ _ fun d hd => by
        obtain ⟨r, _, rfl⟩ := List.mem_map.mp hd
        obtain ⟨z, b⟩ := r
        exact ⟨[some (.cel m.length), some (.lst (rs.map dR)), some (dA a), some (.str z), some (dA b)], by simp [gT, dR], by simp [v_Row___init_1, copied_ok, dR]⟩
      rw [List.nil_append, List.map_id] at key
      have e2 := copied_ok a
      have cfR : D.cfs 0 (rs.map dR) = true := dR_cf 0 rs
      have cfA : (dA a).cf 0 = true := by simp [dA, dP]
      generalize hP : rs.map dR = P at *
      have hPl : P.length = rs.length := by rw [← hP]; simp
      have hne : ¬ Str.ofString "lot" = Str.ofString "first" := by decide +kernel
      have hb : b_Row___init [some (.cel m.length), some (.lst P), some (dA a), none, none] (m ++ [.o k_Row [] []]) = .nx [some (.cel m.length), some (.lst P), some (dA a), none, none] (m ++ [dRow rs a]) := by
        simp [b_Row___init, c_MOST_RODS, hPl, c1a, c1b, e1, wipeD, hl2, key, finL, e2, dRow, hP, cfR, cfA, putN, putL, hne]
      unfold s_Row___init fnSem
      show (match b_Row___init [some (.cel m.length), some (.lst P), some (dA a), none, none] (m ++ [.o k_Row [] []]) with | .nx _ m' => R.ok D.non (m'.take (m ++ [Ce.o k_Row [] []]).length) | .rt d m' => _ | .ex x _ m' => _ | _ => _) = _
      rw [hb]
      simp only
      rw [List.take_of_length_le (by simp)]
  · rw [if_neg c1]
    simp only
    have hz : ¬ ((1 : Int) ≤ (rs.length : Nat) ∧ ((rs.length : Nat) : Int) ≤ 8) := by omega
    refine fn_ex (σ' := [some (.cel m.length), some (.lst (rs.map dR)), some (dA a), none, none]) ?_ (ft_cf (.many rs.length)) rfl
    by_cases c2 : (1 : Int) ≤ (rs.length : Nat)
    · have c3 : ¬ ((rs.length : Nat) : Int) ≤ 8 := fun z => hz ⟨c2, z⟩
      simp [b_Row___init, c_MOST_RODS, c2, c3, Ft.x, xMany, fsE, xRaise]
    · simp [b_Row___init, c_MOST_RODS, c2, Ft.x, xMany, fsE, xRaise]
theorem rngD_succ (lo : Int) (n : Nat) : rngD lo (n + 1) = .int lo :: rngD (lo + 1) n := by
  unfold rngD
  rw [List.range_succ_eq_map]
  simp [Function.comp_def]
  intro a _
  omega
def sgnF (i : Int) : Str := ⟨#[lettersS.cps.toList.getD i.toNat 0]⟩
theorem ix_letters {i : Int} (h0 : 0 ≤ i) (h : i < 26) (m : Ms) : oIx (.str lettersS) (.int i) m = .ok (.str (sgnF i)) m := by
  have hl : lettersS.cps.toList.length = 26 := by decide +kernel
  have h1 : lettersS.length ≤ 100000 := by decide +kernel
  have h2 : atI lettersS.cps.toList i = some (lettersS.cps.toList.getD i.toNat 0) := by
    unfold atI ixN
    rw [if_pos h0, if_pos (by rw [hl]; exact h)]
    have : i.toNat < lettersS.cps.toList.length := by omega
    simp only [Option.bind_some, List.getD_eq_getElem?_getD, List.getElem?_eq_getElem this, Option.getD_some]
  show (if lettersS.length ≤ 100000 then match atI lettersS.cps.toList i with | some c => R.ok (D.str ⟨#[c]⟩) m | none => R.bad else R.bad) = _
  rw [if_pos h1, h2]
  rfl
def nmF (s st : Int) (tl : Str) (pk : Int) (k : Nat) : Str :=
  if pk = 0 then sgnF ((s + st * k).fmod 26) ++ tl else if pk = 1 then tl ++ sgnF ((s + st * k).fmod 26) else sgnF ((s + st * k).fmod 26) ++ (if (k : Int).fmod 2 = 0 then Str.empty else tl)
theorem sgn_len (i : Int) : (sgnF i).length = 1 := rfl
theorem str_app_len (x y : Str) : (x ++ y).length = x.length + y.length := by
  show (x.cps ++ y.cps).size = _
  rw [Array.size_append]
  rfl
theorem nm_len {s st pk : Int} {tl : Str} {k : Nat} (h : tl.length ≤ 5) : (nmF s st tl pk k).length ≤ 6 := by
  unfold nmF
  have h0 : Str.empty.length = 0 := rfl
  split
  · rw [str_app_len, sgn_len]; omega
  · split
    · rw [str_app_len, sgn_len]; omega
    · rw [str_app_len, sgn_len]; split <;> omega
theorem names_turn {n : D} {s st pk : Int} {tl : Str} {k : Nat} {o9 : Option D} {rest : Ms} {d : Ce} {ns : List Str} (hs : 0 ≤ s) (hs2 : s < 26) (ht : 0 < st) (ht2 : st < 12) (hk : k < 100) (htl : tl.length ≤ 5) (hp : pk = 0 ∨ pk = 1 ∨ pk = 2) (hl : ns.length ≤ 1000) :
    ∃ p9, w_l_names_1 [some (.cel 0), some n, some (.str lettersS), some (.cel (rest.length + 1)), some (.int (k : Nat)), some (.int s), some (.int st), some (.str tl), some (.int pk), o9] (d :: (rest ++ [.l (ns.map D.str)])) =
      .nx [some (.cel 0), some n, some (.str lettersS), some (.cel (rest.length + 1)), some (.int (k : Nat)), some (.int s), some (.int st), some (.str tl), some (.int pk), p9] (d :: (rest ++ [.l ((ns ++ [nmF s st tl pk k]).map D.str)])) := by
  have km : mulOk st (k : Nat) = true := mulOk_of 64 64 (by omega) (by omega)
  have h1 := Int.fmod_nonneg_of_pos (s + st * (k : Nat)) (show (0 : Int) < 26 by decide)
  have h2 := Int.fmod_lt_of_pos (s + st * (k : Nat)) (show (0 : Int) < 26 by decide)
  have e1 := fun m => ix_letters h1 h2 m
  have h3 : ((k : Nat) : Int).fmod 2 = 0 ∨ ((k : Nat) : Int).fmod 2 = 1 := by
    have := Int.fmod_nonneg_of_pos ((k : Nat) : Int) (show (0 : Int) < 2 by decide)
    have := Int.fmod_lt_of_pos ((k : Nat) : Int) (show (0 : Int) < 2 by decide)
    omega
  have l0 : Str.empty.length = 0 := rfl
  have l1 := sgn_len ((s + st * (k : Nat)).fmod 26)
  have hm : ∀ m : Ms, oMul (.str tl) (.int (((k : Nat) : Int).fmod 2)) m = .ok (.str (if ((k : Nat) : Int).fmod 2 = 0 then Str.empty else tl)) m := fun m => by
    show (if ((k : Nat) : Int).fmod 2 = 0 ∨ ((k : Nat) : Int).fmod 2 = 1 then _ else _) = _
    rw [if_pos h3]
  have hc := strs_cf 0 (ns ++ [nmF s st tl pk k])
  have hl2 : ns.length < 100000 := by omega
  have ha : ∀ (x y : Str) (m : Ms), x.length ≤ 100 → y.length ≤ 100 → oAdd (.str x) (.str y) m = .ok (.str (x ++ y)) m := fun x y m h h' => by
    show okLen (x.length + y.length) _ = _
    rw [okLen_of (by omega)]
  have hq : ∀ q : Str, q = (if ((k : Nat) : Int).fmod 2 = 0 then Str.empty else tl) → q.length ≤ 5 := fun q e => by subst e; split <;> omega
  generalize hG : (s + st * (k : Nat)).fmod 26 = g at *
  generalize hQ : (if ((k : Nat) : Int).fmod 2 = 0 then Str.empty else tl) = q at *
  have hq := hq q rfl
  have a1 := fun m => ha (sgnF g) tl m (by omega) (by omega)
  have a2 := fun m => ha tl (sgnF g) m (by omega) (by omega)
  have a3 := fun m => ha (sgnF g) q m (by omega) (by omega)
  have hcc : D.cfs 0 (ns.map D.str ++ [D.str (nmF s st tl pk k)]) = true := by simpa using hc
  refine ⟨some (.str (sgnF g)), ?_⟩
  rcases hp with rfl | rfl | rfl
  · have en : nmF s st tl 0 k = sgnF g ++ tl := by unfold nmF; rw [if_pos rfl, hG]
    rw [en] at hcc ⊢
    simp [w_l_names_1, km, hG, e1, hm, a1, a2, a3, xMeth, isL, fAppend, hl2, hcc, List.set_append, atI, ixN]
  · have en : nmF s st tl 1 k = tl ++ sgnF g := by unfold nmF; rw [if_neg (by decide), if_pos rfl, hG]
    rw [en] at hcc ⊢
    simp [w_l_names_1, km, hG, e1, hm, a1, a2, a3, xMeth, isL, fAppend, hl2, hcc, List.set_append, atI, ixN]
  · have en : nmF s st tl 2 k = sgnF g ++ q := by unfold nmF; rw [if_neg (by decide), if_neg (by decide), hG, hQ]
    rw [en] at hcc ⊢
    simp [w_l_names_1, km, hG, e1, hm, a1, a2, a3, xMeth, isL, fAppend, hl2, hcc, List.set_append, atI, ixN]
theorem names_loop {n : D} {s st pk : Int} {tl : Str} {rest : Ms} {d : Ce} (hs : 0 ≤ s) (hs2 : s < 26) (ht : 0 < st) (ht2 : st < 12) (htl : tl.length ≤ 5) (hp : pk = 0 ∨ pk = 1 ∨ pk = 2) : ∀ (j k : Nat) (o4 o9 : Option D) (ns : List Str), k + j ≤ 90 → ns.length = k →
    ∃ p4 p9, forL (gN 4) w_l_names_1 (rngD (k : Nat) j) [some (.cel 0), some n, some (.str lettersS), some (.cel (rest.length + 1)), o4, some (.int s), some (.int st), some (.str tl), some (.int pk), o9] (d :: (rest ++ [.l (ns.map D.str)])) =
      .nx [some (.cel 0), some n, some (.str lettersS), some (.cel (rest.length + 1)), p4, some (.int s), some (.int st), some (.str tl), some (.int pk), p9] (d :: (rest ++ [.l ((ns ++ (List.range' k j).map (nmF s st tl pk)).map D.str)]))
  | 0, k, o4, o9, ns, _, _ => ⟨o4, o9, by simp [rngD, forL]⟩
  | j + 1, k, o4, o9, ns, h, hk => by
    obtain ⟨p9, e1⟩ := names_turn (n := n) (o9 := o9) (rest := rest) (d := d) (ns := ns) hs hs2 ht ht2 (k := k) (by omega) htl hp (by omega)
    obtain ⟨q4, q9, e2⟩ := names_loop (n := n) (rest := rest) (d := d) hs hs2 ht ht2 htl hp j (k + 1) (some (.int (k : Nat))) p9 (ns ++ [nmF s st tl pk k]) (by omega) (by simp [hk])
    refine ⟨q4, q9, ?_⟩
    have hc : ((k : Nat) : Int) + 1 = ((k + 1 : Nat) : Int) := by omega
    rw [rngD_succ, forL_cons, hc]
    simp only [ev_gN]
    show oLoop (w_l_names_1 [some (.cel 0), some n, some (.str lettersS), some (.cel (rest.length + 1)), some (.int (k : Nat)), some (.int s), some (.int st), some (.str tl), some (.int pk), o9] _) _ = _
    rw [e1]
    rw [List.range'_succ]
    simpa using e2
theorem l_names_ok {b : Int} {ds : Ce} {rest : Ms} {n : Nat} (h : Box b ds) (hb : b < 900000000) (hn : n ≤ 90) :
    ∃ s st tl pk ds', s_l_names [.cel 0, .int (n : Nat)] (ds :: rest) = .ok (.lst (((List.range n).map (nmF s st tl pk)).map D.str)) (ds' :: rest) ∧ Box (b + 4) ds' ∧ 0 ≤ s ∧ s < 26 ∧ st ∈ [(1 : Int), 3, 5, 7, 9, 11] ∧ tl ∈ [("" : Str), "q", "zz", "rod", "ended"] ∧ pk ∈ [(0 : Int), 1, 2] := by
  obtain ⟨s, d1, e1, b1, l1, u1⟩ := draw_ok (many := 26) (rest := rest) h (by omega) (by decide) (by decide)
  obtain ⟨x, d2, e2, b2, hx⟩ := l_of_ok (es := [.int 1, .int 3, .int 5, .int 7, .int 9, .int 11]) (rest := rest) b1 (by omega) (by simp) (by simp) (by simp)
  obtain ⟨st, rfl, hst⟩ : ∃ u : Int, x = .int u ∧ u ∈ [(1 : Int), 3, 5, 7, 9, 11] := by
    simp at hx
    rcases hx with rfl | rfl | rfl | rfl | rfl | rfl <;> exact ⟨_, rfl, by decide⟩
  obtain ⟨y, d3, e3, b3, hy⟩ := l_of_ok (es := [.str "", .str "q", .str "zz", .str "rod", .str "ended"]) (rest := rest) b2 (by omega) (by simp) (by simp) (by simp)
  obtain ⟨tl, rfl, htl⟩ : ∃ u : Str, y = .str u ∧ u ∈ [("" : Str), "q", "zz", "rod", "ended"] := by
    simp only [List.mem_cons, List.not_mem_nil, or_false] at hy
    rcases hy with rfl | rfl | rfl | rfl | rfl
    · exact ⟨_, rfl, by simp⟩
    · exact ⟨_, rfl, by simp⟩
    · exact ⟨_, rfl, by simp⟩
    · exact ⟨_, rfl, by simp⟩
    · exact ⟨_, rfl, by simp⟩
  obtain ⟨pk, d4, e4, b4, l4, u4⟩ := draw_ok (many := 3) (rest := rest) b3 (by omega) (by decide) (by decide)
  have hst0 : 0 < st ∧ st < 12 := by
    simp only [List.mem_cons, List.not_mem_nil, or_false] at hst
    rcases hst with rfl | rfl | rfl | rfl | rfl | rfl <;> decide
  have ht5 : tl.length ≤ 5 := by
    simp only [List.mem_cons, List.not_mem_nil, or_false] at htl
    rcases htl with rfl | rfl | rfl | rfl | rfl <;> decide +kernel
  obtain ⟨p4, p9, e5⟩ := names_loop (n := .int (n : Nat)) (s := s) (st := st) (tl := tl) (pk := pk) (rest := rest) (d := d4) l1 u1 hst0.1 hst0.2 ht5 (by omega) n 0 none none [] (by omega) rfl
  refine ⟨s, st, tl, pk, d4, ?_, b4.mono (by omega), l1, u1, hst, htl, by simp; omega⟩
  have hb : b_l_names ([.cel 0, .int (n : Nat)].map some ++ List.replicate (10 - 2) none) (ds :: rest) = .rt (.cel (ds :: rest).length) (d4 :: rest ++ [.l (((List.range n).map (nmF s st tl pk)).map D.str)]) := by
    have h1 : (n : Int) ≤ 100000 := by omega
    have h2 : (-100000 : Int) ≤ (n : Int) := by omega
    have hL : (D.str "abcdefghijklmnopqrstuvwxyz") = .str lettersS := rfl
    have e5' : forL (gN 4) w_l_names_1 (rngD 0 n) [some (.cel 0), some (.int (n : Nat)), some (.str lettersS), some (.cel (rest.length + 1)), none, some (.int s), some (.int st), some (.str tl), some (.int pk), none] (d4 :: (rest ++ [.l []])) = _ := e5
    rw [List.nil_append, ← List.range_eq_range'] at e5'
    simp only [b_l_names, hL]
    simp [e1, e2, e3, e4, h1, h2, e5']
  have := fn_rtC (N := 10) (body := b_l_names) (ds := [.cel 0, .int (n : Nat)]) (m := ds :: rest) (ce := .l (((List.range n).map (nmF s st tl pk)).map D.str)) hb (Nat.le_refl _) (by simp)
  unfold s_l_names
  rw [this]
  simp [Ce.fz]
/-! names that may stand in data -/
def NmOk (z : Str) : Prop := z.length ≤ 100 ∧ PyData.strOk z = true
theorem strOk_app {x y : Str} (hx : PyData.strOk x = true) (hy : PyData.strOk y = true) : PyData.strOk (x ++ y) = true := by
  unfold PyData.strOk at *
  show (x.cps ++ y.cps).all _ = true
  rw [Array.all_append, hx, hy]
  rfl
theorem sgn_ok (i : Int) : PyData.strOk (sgnF i) = true := by
  have hall : ∀ c ∈ lettersS.cps.toList, c < 0x110000 := by
    have : (lettersS.cps.toList.all fun c => decide (c < 0x110000)) = true := by decide +kernel
    intro c hc
    exact of_decide_eq_true (List.all_eq_true.mp this c hc)
  have h : lettersS.cps.toList.getD i.toNat 0 < 0x110000 := by
    rw [List.getD_eq_getElem?_getD]
    cases e : lettersS.cps.toList[i.toNat]? with
    | none => simp
    | some c => exact hall c (List.mem_of_getElem? e)
  unfold sgnF PyData.strOk
  generalize lettersS.cps.toList.getD i.toNat 0 = x at h ⊢
  rw [← Array.all_toList]
  simpa using h
theorem nm_ok {s st pk : Int} {tl : Str} {k : Nat} (h : tl.length ≤ 5) (ht : PyData.strOk tl = true) : NmOk (nmF s st tl pk k) := by
  refine ⟨Nat.le_trans (nm_len h) (by decide), ?_⟩
  have h0 : PyData.strOk Str.empty = true := by decide +kernel
  unfold nmF
  split
  · exact strOk_app (sgn_ok _) ht
  · split
    · exact strOk_app ht (sgn_ok _)
    · refine strOk_app (sgn_ok _) ?_
      split
      · exact h0
      · exact ht
theorem tails_ok {tl : Str} (h : tl ∈ [("" : Str), "q", "zz", "rod", "ended"]) : tl.length ≤ 5 ∧ PyData.strOk tl = true := by
  simp only [List.mem_cons, List.not_mem_nil, or_false] at h
  rcases h with rfl | rfl | rfl | rfl | rfl <;> exact ⟨by decide +kernel, by decide +kernel⟩
theorem names_ok {rs : List Rod} {s st pk : Int} {tl : Str} (h : rs.map (·.1) = (List.range rs.length).map (nmF s st tl pk)) (ht : tl ∈ [("" : Str), "q", "zz", "rod", "ended"]) : ∀ r ∈ rs, NmOk r.1 := fun r hr => by
  have h1 : r.1 ∈ rs.map (·.1) := List.mem_map.mpr ⟨r, hr, rfl⟩
  rw [h] at h1
  obtain ⟨k, _, hk⟩ := List.mem_map.mp h1
  rw [← hk]
  exact nm_ok (tails_ok ht).1 (tails_ok ht).2
theorem ix_at {ds : List D} {k : Nat} (h : k < ds.length) (m : Ms) : oIx (.lst ds) (.int (k : Nat)) m = .ok ds[k] m := by
  have : atI ds (k : Nat) = some ds[k] := by
    unfold atI ixN
    rw [if_pos (by omega), if_pos (by omega)]
    simp [h]
  rw [o_ixL, this]
theorem ixN_at {n k : Nat} (h : k < n) : ixN n (k : Nat) = some k := by
  unfold ixN
  rw [if_pos (by omega), if_pos (by omega)]
  simp
def RdOk (r : Rod) : Prop := GA 3 r.2 ∧ r.2 ≠ ((0, 1), (0, 1))
theorem rods_lc {fin : Ms → List D → R D} {lo hi nms : D} {rest : Ms} : ∀ (ns : List Str) (b : Int) (ds : Ce) (acc : List D), Box b ds → b + 5 * ns.length < 900000000 →
    ∃ (rs : List Rod) (ds' : Ce), lcL fin (gN 6) xYes v_l_rods_1 [some (.cel 0), some lo, some hi, some nms, none, none, none, none, none] (ns.map D.str) (ds :: rest) acc = fin (ds' :: rest) (acc ++ rs.map dR) ∧ rs.map (·.1) = ns ∧ Box (b + 5 * ns.length) ds' ∧ ∀ r ∈ rs, RdOk r
  | [], b, ds, acc, h, _ => ⟨[], ds, by simp [lcL], rfl, by simpa using h, by simp⟩
  | z :: ns, b, ds, acc, h, hb => by
    have hic : (z :: ns).length = ns.length + 1 := rfl
    rw [hic] at hb ⊢
    obtain ⟨a, d1, e1, b1, g1, n1⟩ := l_arrow_ok (rest := rest) h (by omega)
    obtain ⟨rs, d2, e2, l2, b2, h2⟩ := rods_lc (fin := fin) (lo := lo) (hi := hi) (nms := nms) (rest := rest) ns (b + 5) d1 (acc ++ [dR (z, a)]) b1 (by omega)
    refine ⟨(z, a) :: rs, d2, ?_, by simp [l2], b2.mono (by omega), ?_⟩
    · rw [List.map_cons, lcL]
      have hv : v_l_rods_1 [some (.cel 0), some lo, some hi, some nms, none, none, some (.str z), none, none] (ds :: rest) = .ok (dR (z, a)) (d1 :: rest) := by simp [v_l_rods_1, e1, dR]
      simp only [ev_gN, ev_yes]
      have hset : ([some (.cel 0), some lo, some hi, some nms, none, none, none, none, none] : Sd).set 6 (some (.str z)) = [some (.cel 0), some lo, some hi, some nms, none, none, some (.str z), none, none] := rfl
      rw [hset, hv]
      simp only
      rw [e2]
      simp
    · intro q hq
      rcases List.mem_cons.mp hq with rfl | hq
      · exact ⟨g1, n1⟩
      · exact h2 q hq
def negA (a : Ar) : Ar := ((0 - a.1.1, a.1.2), (0 - a.2.1, a.2.2))
theorem gd_neg {n : Nat} {p : Q} (h : Gd n p) : Gd n (0 - p.1, p.2) := by
  obtain ⟨⟨h1, h2, h3⟩, h4⟩ := h
  refine ⟨⟨?_, h2, h3⟩, ?_⟩
  · show (0 - p.1).natAbs < _
    omega
  · unfold Lo at h4 ⊢
    simpa using h4
theorem neg_ok {a : Ar} (h : GA 3 a) (hn : a ≠ ((0, 1), (0, 1))) : GA 3 (negA a) ∧ negA a ≠ ((0, 1), (0, 1)) := by
  refine ⟨⟨gd_neg h.1, gd_neg h.2⟩, fun e => hn ?_⟩
  obtain ⟨⟨x, y⟩, ⟨u, v⟩⟩ := a
  unfold negA at e
  simp only [Prod.mk.injEq] at e ⊢
  omega
theorem l_rods_ok {b : Int} {ds : Ce} {rest : Ms} {lo hi : Int} (h : Box b ds) (hb : b < 800000000) (hl : 1 ≤ lo) (hh : lo ≤ hi) (hh2 : hi ≤ 8) :
    ∃ (rs : List Rod) (ds' : Ce) (s st : Int) (tl : Str) (pk : Int), s_l_rods [.cel 0, .int lo, .int hi] (ds :: rest) = .ok (.lst (rs.map dR)) (ds' :: rest) ∧ Box (b + 60) ds' ∧ (lo ≤ rs.length ∧ (rs.length : Int) ≤ hi) ∧ (∀ r ∈ rs, RdOk r) ∧
      rs.map (·.1) = (List.range rs.length).map (nmF s st tl pk) ∧ 0 ≤ s ∧ s < 26 ∧ st ∈ [(1 : Int), 3, 5, 7, 9, 11] ∧ tl ∈ [("" : Str), "q", "zz", "rod", "ended"] ∧ pk ∈ [(0 : Int), 1, 2] := by
  obtain ⟨q, d1, e1, b1, l1, u1⟩ := draw_ok (many := hi - lo + 1) (rest := rest) h (by omega) (by omega) (by omega)
  obtain ⟨n, hn⟩ : ∃ n : Nat, (n : Int) = lo + q := ⟨(lo + q).toNat, by omega⟩
  obtain ⟨s, st, tl, pk, d2, e2, b2, hs⟩ := l_names_ok (n := n) (rest := rest) b1 (by omega) (by omega)
  generalize hN : (List.range n).map (nmF s st tl pk) = ns at *
  have hNl : ns.length = n := by rw [← hN]; simp
  obtain ⟨rs, d3, e3, n3, b3, g3⟩ := rods_lc (fin := finC) (lo := .int lo) (hi := .int hi) (nms := .lst (ns.map D.str)) (rest := rest) ns _ d2 [] b2 (by omega)
  rw [hNl] at b3
  have hrl : rs.length = n := by rw [← hNl, ← n3, List.length_map]
  have cfR := dR_cf 0 rs
  have k1 : (ns.map D.str).length ≤ 100000 := by rw [List.length_map]; omega
  -- now and then a rod lies back
  obtain ⟨rs', d4, e4, b4, l4, n4, g4⟩ : ∃ (rs' : List Rod) (d4 : Ce), (∃ p5 p7 p8, z_l_rods_1 [some (.cel 0), some (.int lo), some (.int hi), some (.lst (ns.map D.str)), some (.cel (rest.length + 1)), none, none, none, none] (d3 :: (rest ++ [.l (rs.map dR)])) = .nx [some (.cel 0), some (.int lo), some (.int hi), some (.lst (ns.map D.str)), some (.cel (rest.length + 1)), p5, none, p7, p8] (d4 :: (rest ++ [.l (rs'.map dR)]))) ∧ Box (b + 60) d4 ∧ rs'.length = rs.length ∧ rs'.map (·.1) = rs.map (·.1) ∧ ∀ r ∈ rs', RdOk r := by
    by_cases c1 : (1 : Int) < (rs.length : Nat)
    rotate_left
    · exact ⟨rs, d3, ⟨none, none, none, by simp [z_l_rods_1, c1]⟩, b3.mono (by omega), rfl, rfl, g3⟩
    obtain ⟨r4, d4, e4, b4, l4, u4⟩ := draw_ok (many := 6) (rest := rest ++ [.l (rs.map dR)]) b3 (by omega) (by decide) (by decide)
    by_cases c2 : r4 = 0
    rotate_left
    · exact ⟨rs, d4, ⟨none, none, none, by simp [z_l_rods_1, c1, e4, c2]⟩, b4.mono (by omega), rfl, rfl, g3⟩
    obtain ⟨r5, d5, e5, b5, l5, u5⟩ := draw_ok (many := (rs.length : Nat) - 1) (rest := rest ++ [.l (rs.map dR)]) b4 (by omega) (by omega) (by omega)
    obtain ⟨at_, hat⟩ : ∃ k : Nat, (k : Int) = 1 + r5 := ⟨(1 + r5).toNat, by omega⟩
    obtain ⟨r6, d6, e6, b6, l6, u6⟩ := draw_ok (many := (at_ : Nat)) (rest := rest ++ [.l (rs.map dR)]) b5 (by omega) (by omega) (by omega)
    obtain ⟨j, hj⟩ : ∃ k : Nat, (k : Int) = r6 := ⟨r6.toNat, by omega⟩
    have hal : at_ < rs.length := by omega
    have hjl : j < rs.length := by omega
    have a1 : ∀ m : Ms, oIx (.lst (rs.map dR)) (.int (at_ : Nat)) m = .ok (dR rs[at_]) m := fun m => by rw [ix_at (by simpa using hal)]; simp
    have a2 : ∀ m : Ms, oIx (.lst (rs.map dR)) (.int (j : Nat)) m = .ok (dR rs[j]) m := fun m => by rw [ix_at (by simpa using hjl)]; simp
    have hx : ixN rs.length (at_ : Nat) = some at_ := ixN_at hal
    have hset : (rs.set at_ (rs[at_].1, negA rs[j].2)).map dR = (rs.map dR).set at_ (dR (rs[at_].1, negA rs[j].2)) := by rw [List.map_set]
    have cf2 := dR_cf 0 (rs.set at_ (rs[at_].1, negA rs[j].2))
    have gj := g3 _ (List.getElem_mem hjl)
    have hnz := neg_ok gj.1 gj.2
    refine ⟨rs.set at_ (rs[at_].1, negA rs[j].2), d6, ⟨some (.int (at_ : Nat)), some (dP rs[j].2.1), some (dP rs[j].2.2), ?_⟩, b6.mono (by omega), by simp, ?_, ?_⟩
    · rw [hset] at cf2
      rw [hset]
      rw [← hj] at e6
      generalize hA : rs[at_] = ra at *
      generalize hB : rs[j] = rb at *
      obtain ⟨za, xa⟩ := ra
      obtain ⟨zb, ⟨⟨x1, x2⟩, ⟨y1, y2⟩⟩⟩ := rb
      simp only [dR, dA, dP, negA] at a1 a2 cf2 ⊢
      simp [z_l_rods_1, c1, e4, c2, e5, ← hat, e6, a1, a2, gT, hx, List.set_append, cf2]
    · rw [List.map_set]
      apply List.ext_getElem (by simp)
      intro i h1 h2
      simp only [List.getElem_set, List.getElem_map]
      split
      · rename_i e; subst e; rfl
      · rfl
    · intro r hr
      rcases List.mem_or_eq_of_mem_set hr with hr | rfl
      · exact g3 r hr
      · exact hnz
  obtain ⟨p5, p7, p8, e4⟩ := e4
  have hb : b_l_rods ([.cel 0, .int lo, .int hi].map some ++ List.replicate (9 - 3) none) (ds :: rest) = .rt (.cel (ds :: rest).length) (d4 :: rest ++ [.l (rs'.map dR)]) := by
    have e2' : s_l_names [.cel 0, .int (n : Nat)] (d1 :: rest) = .ok (.lst (ns.map D.str)) (d2 :: rest) := e2
    rw [hn] at e2'
    rw [List.nil_append] at e3
    generalize ns.map D.str = NS at *
    simp [b_l_rods, e1, e2', k1, wipeD, e3, finC, cfR]
    try simp at e4
    simp [e4]
  have := fn_rtC (N := 9) (body := b_l_rods) (ds := [.cel 0, .int lo, .int hi]) (m := ds :: rest) (ce := .l (rs'.map dR)) hb (Nat.le_refl _) (by simp)
  refine ⟨rs', d4, s, st, tl, pk, ?_, b4, by omega, g4, ?_, hs⟩
  · unfold s_l_rods
    rw [this]
    simp [Ce.fz]
  · rw [n4, n3, l4, hrl, hN]
theorem cutL_to {κ : Type} {xs : List κ} {i : Int} {k : Nat} (hi : i = (k : Nat)) : cutL xs none (some i) = xs.take k := by
  subst hi
  unfold cutL
  rw [HT.sIx_nat]
  simp [HT.sIx]
theorem cutL_from {κ : Type} {xs : List κ} {i : Int} {k : Nat} (hi : i = (k : Nat)) : cutL xs (some i) none = xs.drop k := by
  subst hi
  unfold cutL
  rw [HT.sIx_nat]
  by_cases h : k ≤ xs.length
  · rw [Nat.min_eq_left h, HT.sIx_none, List.take_of_length_le (by simp)]
  · rw [Nat.min_eq_right (by omega), HT.sIx_none, List.drop_eq_nil_of_le (show xs.length ≤ k by omega), List.drop_eq_nil_of_le (Nat.le_refl _)]
    simp
/-! drawn names are names, each another -/
theorem alphB_app (x y : Str) : alphB (x ++ y) = (alphB x && alphB y) := by
  unfold alphB
  show ((x.cps ++ y.cps).toList.all _) = _
  rw [Array.toList_append, List.all_append]
theorem sgn_nat {i : Int} (h0 : 0 ≤ i) (h : i < 26) : ∃ k : Nat, k < 26 ∧ i.toNat = k := ⟨i.toNat, by omega, rfl⟩
theorem alph_sgn {i : Int} (h0 : 0 ≤ i) (h : i < 26) : alphB (sgnF i) = true := by
  have key : ∀ k : Fin 26, alphB ⟨#[lettersS.cps.toList.getD k.val 0]⟩ = true := by decide +kernel
  obtain ⟨k, hk, e⟩ := sgn_nat h0 h
  have := key ⟨k, hk⟩
  unfold sgnF
  rw [e]
  exact this
theorem tails_alph {tl : Str} (h : tl ∈ [("" : Str), "q", "zz", "rod", "ended"]) : alphB tl = true := by
  simp only [List.mem_cons, List.not_mem_nil, or_false] at h
  rcases h with rfl | rfl | rfl | rfl | rfl <;> decide +kernel
def ixF (s st : Int) (k : Nat) : Int := (s + st * k).fmod 26
theorem ixF_bd (s st : Int) (k : Nat) : 0 ≤ ixF s st k ∧ ixF s st k < 26 := ⟨Int.fmod_nonneg_of_pos _ (by decide), Int.fmod_lt_of_pos _ (by decide)⟩
theorem nm_good {s st pk : Int} {tl : Str} {k : Nat} (h : tl ∈ [("" : Str), "q", "zz", "rod", "ended"]) : nameG (nmF s st tl pk k) = true := by
  obtain ⟨h1, h2⟩ := ixF_bd s st k
  have a1 := alph_sgn h1 h2
  have a2 := tails_alph h
  have a3 : alphB Str.empty = true := by decide +kernel
  have l5 := (tails_ok h).1
  have l0 : Str.empty.length = 0 := rfl
  unfold ixF at a1
  have hl : 1 ≤ ((nmF s st tl pk k).length : Int) ∧ ((nmF s st tl pk k).length : Int) ≤ 6 := by
    unfold nmF
    split
    · rw [str_app_len, sgn_len]; omega
    · split
      · rw [str_app_len, sgn_len]; omega
      · rw [str_app_len, sgn_len]; split <;> omega
  have ha : alphB (nmF s st tl pk k) = true := by
    unfold nmF
    split
    · rw [alphB_app, a1, a2]; rfl
    · split
      · rw [alphB_app, a1, a2]; rfl
      · rw [alphB_app, a1]
        split
        · rw [a3]; rfl
        · rw [a2]; rfl
  unfold nameG
  rw [ha, decide_eq_true hl]
  rfl
/-- the sign of a name that tells it from the others -/
def codeF (i : Int) : Nat := lettersS.cps.toList.getD i.toNat 0
theorem code_inj {i j : Int} (hi : 0 ≤ i) (hi2 : i < 26) (hj : 0 ≤ j) (hj2 : j < 26) (h : codeF i = codeF j) : i = j := by
  have key : ∀ k l : Fin 26, lettersS.cps.toList.getD k.val 0 = lettersS.cps.toList.getD l.val 0 → k = l := by decide +kernel
  obtain ⟨k, hk, e⟩ := sgn_nat hi hi2
  obtain ⟨l, hl, e'⟩ := sgn_nat hj hj2
  unfold codeF at h
  rw [e, e'] at h
  have := key ⟨k, hk⟩ ⟨l, hl⟩ h
  simp at this
  omega
theorem nm_code {s st pk : Int} {tl : Str} {k l : Nat} (h : nmF s st tl pk k = nmF s st tl pk l) : codeF (ixF s st k) = codeF (ixF s st l) := by
  have hl : ∀ (i : Int) (t : Str), (sgnF i ++ t).cps.toList = codeF i :: t.cps.toList := fun i t => by
    show ((sgnF i).cps ++ t.cps).toList = _
    rw [Array.toList_append]
    rfl
  have hr : ∀ (i : Int) (t : Str), (t ++ sgnF i).cps.toList = t.cps.toList ++ [codeF i] := fun i t => by
    show (t.cps ++ (sgnF i).cps).toList = _
    rw [Array.toList_append]
    rfl
  have h : (nmF s st tl pk k).cps.toList = (nmF s st tl pk l).cps.toList := congrArg (fun z : Str => z.cps.toList) h
  unfold nmF at h
  split at h
  · rw [hl, hl] at h
    exact (List.cons.inj h).1
  · split at h
    · rw [hr, hr] at h
      have := List.append_cancel_left h
      simpa [ixF] using this
    · rw [hl, hl] at h
      exact (List.cons.inj h).1
theorem ixF_inj {s st : Int} {k l : Nat} (ht : st ∈ [(1 : Int), 3, 5, 7, 9, 11]) (hk : k < 8) (hl : l < 8) (h : ixF s st k = ixF s st l) : k = l := by
  have e : ∀ x : Int, x.fmod 26 = x % 26 := fun x => Int.fmod_eq_emod_of_nonneg x (by decide)
  unfold ixF at h
  rw [e, e] at h
  simp only [List.mem_cons, List.not_mem_nil, or_false] at ht
  rcases ht with rfl | rfl | rfl | rfl | rfl | rfl <;> omega
theorem names_nodup {s st pk : Int} {tl : Str} {n : Nat} (ht : st ∈ [(1 : Int), 3, 5, 7, 9, 11]) (hn : n ≤ 8) : ((List.range n).map (nmF s st tl pk)).Nodup := by
  rw [List.nodup_iff_pairwise_ne, List.pairwise_map]
  refine List.Pairwise.imp_of_mem ?_ (List.nodup_iff_pairwise_ne.mp List.nodup_range)
  intro k l hk hl hne e
  have hk' := List.mem_range.mp hk
  have hl' := List.mem_range.mp hl
  obtain ⟨a1, a2⟩ := ixF_bd s st k
  obtain ⟨b1, b2⟩ := ixF_bd s st l
  exact hne (ixF_inj ht (by omega) (by omega) (code_inj a1 a2 b1 b2 (nm_code e)))
theorem chk1_none : ∀ (rs : List Rod) (k : Nat), (∀ r ∈ rs, nameG r.1 = true ∧ r.2 ≠ ((0, 1), (0, 1))) → chk1 k rs = none
  | [], _, _ => rfl
  | r :: rs, k, h => by
    have h1 := h r (List.mem_cons_self ..)
    unfold chk1
    rw [if_pos h1.1, if_neg h1.2]
    exact chk1_none rs (k + 1) fun q hq => h q (List.mem_cons_of_mem _ hq)
theorem chk2_none : ∀ (rs : List Rod) (ns : List Str), (ns ++ rs.map (·.1)).Nodup → chk2 ns rs = none
  | [], _, _ => rfl
  | r :: rs, ns, h => by
    have h1 : ¬ r.1 ∈ ns := fun z => by
      rw [List.map_cons, List.nodup_append] at h
      exact h.2.2 _ z _ (List.mem_cons_self ..) rfl
    unfold chk2
    rw [if_neg h1]
    exact chk2_none rs (ns ++ [r.1]) (by simpa using h)
/-- a row that is let -/
structure Good (n : Nat) (rs : List Rod) : Prop where
  l1 : 1 ≤ rs.length
  l8 : rs.length ≤ 8
  nm : ∀ r ∈ rs, nameG r.1 = true
  ok : ∀ r ∈ rs, NmOk r.1
  nd : (rs.map (·.1)).Nodup
  ar : ∀ r ∈ rs, GA n r.2 ∧ r.2 ≠ ((0, 1), (0, 1))
theorem Good.rowF {n : Nat} {rs : List Rod} (h : Good n rs) : rowF rs = none := by
  unfold Law.rowF chk
  rw [if_pos ⟨h.l1, h.l8⟩, chk1_none rs 0 fun r hr => ⟨h.nm r hr, (h.ar r hr).2⟩]
  exact chk2_none rs [] (by simpa using h.nd)
theorem Good.mono {n k : Nat} {rs : List Rod} (h : Good n rs) (hk : n ≤ k) : Good k rs := ⟨h.l1, h.l8, h.nm, h.ok, h.nd, fun r hr => ⟨(h.ar r hr).1.mono hk, (h.ar r hr).2⟩⟩
theorem good_of {rs : List Rod} {s st pk : Int} {tl : Str} (h1 : 1 ≤ rs.length) (h8 : rs.length ≤ 8) (hn : rs.map (·.1) = (List.range rs.length).map (nmF s st tl pk)) (ht : st ∈ [(1 : Int), 3, 5, 7, 9, 11]) (htl : tl ∈ [("" : Str), "q", "zz", "rod", "ended"]) {n : Nat} (ha : ∀ r ∈ rs, GA n r.2 ∧ r.2 ≠ ((0, 1), (0, 1))) : Good n rs := by
  refine ⟨h1, h8, fun r hr => ?_, names_ok hn htl, by rw [hn]; exact names_nodup ht h8, ha⟩
  have hm : r.1 ∈ rs.map (·.1) := List.mem_map.mpr ⟨r, hr, rfl⟩
  rw [hn] at hm
  obtain ⟨k, _, hk⟩ := List.mem_map.mp hm
  rw [← hk]
  exact nm_good htl
/-! products that are not nought -/
theorem weight_made {n k : Nat} {a b : Ar} (ha : GA n a) (hb : GA k b) : qv (weightA (madeA a b)) = qv (weightA a) * qv (weightA b) := by
  rw [qv_weight (ha.made hb), qv_weight ha, qv_weight hb]
  have e1 : qv (madeA a b).1 = qv a.1 * qv b.1 - qv a.2 * qv b.2 := by
    show qv (lessF _ _) = _
    rw [qv_less (timesF_lo ha.1.2 hb.1.2) (timesF_lo ha.2.2 hb.2.2), qv_times ha.1.2 hb.1.2, qv_times ha.2.2 hb.2.2]
  have e2 : qv (madeA a b).2 = qv a.1 * qv b.2 + qv a.2 * qv b.1 := by
    show qv (plusF _ _) = _
    rw [qv_plus (timesF_lo ha.1.2 hb.2.2) (timesF_lo ha.2.2 hb.1.2), qv_times ha.1.2 hb.2.2, qv_times ha.2.2 hb.1.2]
  rw [e1, e2]
  grind
theorem weight_0 : qv (weightA ((0, 1), (0, 1))) = 0 := by
  have h : GA 1 (((0, 1), (0, 1)) : Ar) := ⟨gd_0, gd_0⟩
  rw [qv_weight h, qv_0]
  grind
theorem made_nz {n k : Nat} {a b : Ar} (ha : GA n a) (hb : GA k b) (h1 : a ≠ ((0, 1), (0, 1))) (h2 : b ≠ ((0, 1), (0, 1))) : madeA a b ≠ ((0, 1), (0, 1)) := fun e => by
  have h := weight_made ha hb
  rw [e, weight_0] at h
  have w1 := weight_ne ha h1
  have w2 := weight_ne hb h2
  rcases Rat.mul_eq_zero.mp h.symm with h | h
  · exact w1 h
  · exact w2 h
theorem mate_nz {n : Nat} {a : Ar} (ha : GA n a) (h1 : a ≠ ((0, 1), (0, 1))) : mateA a ≠ ((0, 1), (0, 1)) := fun e => h1 (by
  obtain ⟨⟨x, y⟩, ⟨u, v⟩⟩ := a
  unfold mateA negP at e
  simp only [Prod.mk.injEq] at e ⊢
  omega)
theorem parted_nz {n k : Nat} {a b : Ar} (ha : GA n a) (hb : GA k b) (h1 : a ≠ ((0, 1), (0, 1))) (h2 : b ≠ ((0, 1), (0, 1))) : partedA a b ≠ ((0, 1), (0, 1)) := fun e => by
  have h := parted_made ha hb h2
  rw [e] at h
  have w := weight_made (a := ((0, 1), (0, 1))) (n := 1) ⟨gd_0, gd_0⟩ hb
  rw [h, weight_0, Rat.zero_mul] at w
  exact weight_ne ha h1 w
theorem eq_str {a b : Str} {m : Ms} (ha : PyData.strOk a = true) (hb : PyData.strOk b = true) : oEq (.str a) (.str b) m = .ok (.bl (decide (a = b))) m := by
  have h1 : Pl 0 (.str a) := pl_str ha
  have h2 : Pl 0 (.str b) := pl_str hb
  unfold oEq
  rw [h1.eqOk, h2.eqOk, Bool.and_self, if_pos rfl]
  show R.ok (D.bl (a == b)) m = _
  rfl
/-! parts over a common under: how big a whole's arrows are -/
structure Fr (D b : Nat) (p : Q) : Prop where
  lo : Lo p
  ex : ∃ i : Int, qv p * (((D : Nat) : Int) : Rat) = (i : Rat) ∧ i.natAbs < 2 ^ b
theorem Fr.gd {D b n : Nat} {p : Q} (h : Fr D b p) (hD : 0 < D) (hc : D < 2 ^ n) (hb : b ≤ n) : Gd n p := by
  obtain ⟨i, e, hi⟩ := h.ex
  have hne := h.lo.ne
  have hp := h.lo.1
  have e1 : (p.1 : Rat) * (((D : Nat) : Int) : Rat) = (i : Rat) * (p.2 : Rat) := by
    unfold qv at e
    grind
  have e2 : p.1 * ((D : Nat) : Int) = i * p.2 := by
    rw [← Rat.intCast_mul, ← Rat.intCast_mul] at e1
    exact Rat.intCast_inj.mp e1
  have dv : p.2 ∣ ((D : Nat) : Int) := by
    have g' : Nat.Coprime p.2.natAbs p.1.natAbs := by
      rw [Nat.coprime_comm]
      exact h.lo.2
    refine Int.natAbs_dvd_natAbs.mp (Nat.Coprime.dvd_of_dvd_mul_left g' ?_)
    rw [← Int.natAbs_mul, e2, Int.natAbs_mul]
    exact Nat.dvd_mul_left ..
  have le := Int.le_of_dvd (by omega) dv
  obtain ⟨f, hf⟩ := dv
  have hf0 : 0 < f := by
    rcases Int.lt_or_le 0 f with z | z
    · exact z
    · have := Int.mul_nonpos_of_nonneg_of_nonpos (Int.le_of_lt hp) z
      omega
  have e3 : p.1 * f = i := by
    rw [hf, ← Int.mul_assoc, Int.mul_comm p.1 p.2, Int.mul_assoc] at e2
    rw [Int.mul_comm i p.2] at e2
    exact Int.eq_of_mul_eq_mul_left (by omega) e2
  refine ⟨⟨?_, ?_, hp⟩, h.lo⟩
  · have h1 : p.1.natAbs ≤ i.natAbs := by
      rw [← e3, Int.natAbs_mul]
      exact Nat.le_mul_of_pos_right _ (by omega)
    exact Nat.lt_of_le_of_lt h1 (Nat.lt_of_lt_of_le hi (Nat.pow_le_pow_right (by decide) hb))
  · omega
theorem Fr.plus {D b : Nat} {p q : Q} (hp : Fr D b p) (hq : Fr D b q) : Fr D (b + 1) (plusF p q) := by
  obtain ⟨i, e, hi⟩ := hp.ex
  obtain ⟨j, f, hj⟩ := hq.ex
  refine ⟨plusF_lo hp.lo hq.lo, i + j, ?_, c_add hi hj⟩
  rw [qv_plus hp.lo hq.lo, Rat.intCast_add]
  grind
theorem Fr.less {D b : Nat} {p q : Q} (hp : Fr D b p) (hq : Fr D b q) : Fr D (b + 1) (lessF p q) := by
  obtain ⟨i, e, hi⟩ := hp.ex
  obtain ⟨j, f, hj⟩ := hq.ex
  refine ⟨lessF_lo hp.lo hq.lo, i - j, ?_, c_sub hi hj⟩
  rw [qv_less hp.lo hq.lo, Rat.intCast_sub]
  grind
theorem Fr.times {D E b c : Nat} {p q : Q} (hp : Fr D b p) (hq : Fr E c q) : Fr (D * E) (b + c) (timesF p q) := by
  obtain ⟨i, e, hi⟩ := hp.ex
  obtain ⟨j, f, hj⟩ := hq.ex
  refine ⟨timesF_lo hp.lo hq.lo, i * j, ?_, c_mul hi hj⟩
  rw [qv_times hp.lo hq.lo, Rat.intCast_mul, Int.natCast_mul, Rat.intCast_mul, ← e, ← f]
  grind
theorem Fr.neg {D b : Nat} {p : Q} (hp : Fr D b p) : Fr D b (negP p) := by
  obtain ⟨i, e, hi⟩ := hp.ex
  refine ⟨negP_lo hp.lo, -i, ?_, by simpa using hi⟩
  rw [qv_neg hp.lo, Rat.intCast_neg]
  grind
theorem fr_0 {D b : Nat} : Fr D b (0, 1) := ⟨lo_0, 0, by rw [qv_0, Rat.zero_mul]; rfl, by simp; exact Nat.two_pow_pos b⟩
def FrA (D b : Nat) (a : Ar) : Prop := Fr D b a.1 ∧ Fr D b a.2
theorem FrA.ga {D b n : Nat} {a : Ar} (h : FrA D b a) (hD : 0 < D) (hc : D < 2 ^ n) (hb : b ≤ n) : GA n a := ⟨h.1.gd hD hc hb, h.2.gd hD hc hb⟩
theorem FrA.made {D E b c : Nat} {a z : Ar} (ha : FrA D b a) (hz : FrA E c z) : FrA (D * E) (b + c + 1) (madeA a z) := ⟨(ha.1.times hz.1).less (ha.2.times hz.2), (ha.1.times hz.2).plus (ha.2.times hz.1)⟩
theorem FrA.off {D b : Nat} {a c : Ar} (ha : FrA D b a) (hc : FrA D b c) : FrA D (b + 1) (offA a c) := ⟨ha.1.less hc.1, ha.2.less hc.2⟩
theorem FrA.sum {D b : Nat} {a c : Ar} (ha : FrA D b a) (hc : FrA D b c) : FrA D (b + 1) (sumA a c) := ⟨ha.1.plus hc.1, ha.2.plus hc.2⟩
theorem FrA.mate {D b : Nat} {a : Ar} (ha : FrA D b a) : FrA D b (mateA a) := ⟨ha.1, ha.2.neg⟩
/-! a whole -/
def A0 : Ar := ((0, 1), (0, 1))
def entF (P : List Ar) (k : Int) : Ar := if 0 ≤ k ∧ k < (P.length : Nat) then P.getD k.toNat A0 else A0
def lowG (P Q : List Ar) (z : Ar) : List Ar := (List.range (P.length + 1)).map fun k : Nat => offA (entF P ((k : Int) - 1)) (madeA (entF Q k) (mateA z))
def highG (P Q : List Ar) (z : Ar) : List Ar := (List.range (Q.length + 1)).map fun k : Nat => sumA (madeA (entF P k) z) (entF Q ((k : Int) - 1))
def wholeF (w : List Ar × List Ar) : List Rod → List Ar × List Ar
  | [] => w
  | r :: rs => wholeF (lowG w.1 w.2 r.2, highG w.1 w.2 r.2) rs
structure WOk (k : Nat) (w : List Ar × List Ar) : Prop where
  l1 : w.1.length = k + 1
  l2 : w.2.length = k
  fr : ∃ D, 0 < D ∧ D < 2 ^ (80 * k + 1) ∧ (∀ a ∈ w.1, FrA D (82 * k + 1) a) ∧ ∀ a ∈ w.2, FrA D (82 * k + 1) a
theorem ent_of {C : Ar → Prop} {P : List Ar} (h : ∀ a ∈ P, C a) (h0 : C A0) (k : Int) : C (entF P k) := by
  unfold entF
  split
  · rename_i c
    have : k.toNat < P.length := by omega
    rw [List.getD_eq_getElem?_getD, List.getElem?_eq_getElem this]
    exact h _ (List.getElem_mem this)
  · exact h0
theorem fra_0 {D b : Nat} : FrA D b A0 := ⟨fr_0, fr_0⟩
theorem WOk.ga {k : Nat} {w : List Ar × List Ar} (h : WOk k w) (hk : k ≤ 8) : (∀ i, GA 657 (entF w.1 i)) ∧ ∀ i, GA 657 (entF w.2 i) := by
  obtain ⟨D, d0, d1, f1, f2⟩ := h.fr
  have hD : D < 2 ^ 657 := Nat.lt_of_lt_of_le d1 (Nat.pow_le_pow_right (by decide) (by omega))
  exact ⟨fun i => (ent_of f1 fra_0 i).ga d0 hD (by omega), fun i => (ent_of f2 fra_0 i).ga d0 hD (by omega)⟩
/-! a trade -/
def lowA (a b : Ar) : Ar := partedA (sumA a b) (mateA (sumA a b))
def firstA (a b : Ar) : Ar := madeA (lowA a b) (mateA b)
def secondA (a b : Ar) : Ar := madeA (lowA a b) (mateA a)
theorem ga_low {n : Nat} {a b : Ar} (ha : GA n a) (hb : GA n b) (h : sumA a b ≠ ((0, 1), (0, 1))) : GA (8 * (n + n + 1) + 3) (lowA a b) := by
  have hs : GA (n + n + 1) (sumA a b) := ha.sum hb
  exact (hs.parted hs.mate (mate_nz hs h)).mono (by omega)
theorem ga_first {n : Nat} {a b : Ar} (ha : GA n a) (hb : GA n b) (h : sumA a b ≠ ((0, 1), (0, 1))) : GA (2 * (8 * (n + n + 1) + 3 + n) + 1) (firstA a b) := ((ga_low ha hb h).made hb.mate).mono (by omega)
theorem ga_second {n : Nat} {a b : Ar} (ha : GA n a) (hb : GA n b) (h : sumA a b ≠ ((0, 1), (0, 1))) : GA (2 * (8 * (n + n + 1) + 3 + n) + 1) (secondA a b) := ((ga_low ha hb h).made ha.mate).mono (by omega)
theorem nz_low {n : Nat} {a b : Ar} (ha : GA n a) (hb : GA n b) (h : sumA a b ≠ ((0, 1), (0, 1))) : lowA a b ≠ ((0, 1), (0, 1)) := by
  have hs : GA (n + n + 1) (sumA a b) := ha.sum hb
  exact parted_nz hs hs.mate h (mate_nz hs h)
theorem nz_first {n : Nat} {a b : Ar} (ha : GA n a) (hb : GA n b) (h : sumA a b ≠ ((0, 1), (0, 1))) (h2 : b ≠ ((0, 1), (0, 1))) : firstA a b ≠ ((0, 1), (0, 1)) := made_nz (ga_low ha hb h) hb.mate (nz_low ha hb h) (mate_nz hb h2)
theorem nz_second {n : Nat} {a b : Ar} (ha : GA n a) (hb : GA n b) (h : sumA a b ≠ ((0, 1), (0, 1))) (h2 : a ≠ ((0, 1), (0, 1))) : secondA a b ≠ ((0, 1), (0, 1)) := made_nz (ga_low ha hb h) ha.mate (nz_low ha hb h) (mate_nz ha h2)
def tradeO (rs : List Rod) (k : Nat) : Option (List Rod) := match rs[k]?, rs[k + 1]? with
  | some x, some y => if sumA x.2 y.2 = ((0, 1), (0, 1)) then none else some (rs.take k ++ [(y.1, firstA x.2 y.2), (x.1, secondA x.2 y.2)] ++ rs.drop (k + 2))
  | _, _ => none
def tradeD (o : Option (List Rod)) : D := match o with
  | none => .non
  | some rs => .lst (rs.map dR)
/-! what a trade does to places, by the parts' values -/
section
variable {n k : Nat} {a b : Ar}
theorem q_sum1 (ha : GA n a) (hb : GA k b) : qv (sumA a b).1 = qv a.1 + qv b.1 := qv_plus ha.1.2 hb.1.2
theorem q_sum2 (ha : GA n a) (hb : GA k b) : qv (sumA a b).2 = qv a.2 + qv b.2 := qv_plus ha.2.2 hb.2.2
theorem q_off1 (ha : GA n a) (hb : GA k b) : qv (offA a b).1 = qv a.1 - qv b.1 := qv_less ha.1.2 hb.1.2
theorem q_off2 (ha : GA n a) (hb : GA k b) : qv (offA a b).2 = qv a.2 - qv b.2 := qv_less ha.2.2 hb.2.2
theorem q_made1 (ha : GA n a) (hb : GA k b) : qv (madeA a b).1 = qv a.1 * qv b.1 - qv a.2 * qv b.2 := by
  show qv (lessF _ _) = _
  rw [qv_less (timesF_lo ha.1.2 hb.1.2) (timesF_lo ha.2.2 hb.2.2), qv_times ha.1.2 hb.1.2, qv_times ha.2.2 hb.2.2]
theorem q_made2 (ha : GA n a) (hb : GA k b) : qv (madeA a b).2 = qv a.1 * qv b.2 + qv a.2 * qv b.1 := by
  show qv (plusF _ _) = _
  rw [qv_plus (timesF_lo ha.1.2 hb.2.2) (timesF_lo ha.2.2 hb.1.2), qv_times ha.1.2 hb.2.2, qv_times ha.2.2 hb.1.2]
theorem q_mate1 : qv (mateA a).1 = qv a.1 := rfl
theorem q_mate2 (ha : GA n a) : qv (mateA a).2 = - qv a.2 := qv_neg ha.2.2
theorem ar_ext (ha : GA n a) (hb : GA k b) (h1 : qv a.1 = qv b.1) (h2 : qv a.2 = qv b.2) : a = b := Prod.ext (qv_inj ha.1.2 hb.1.2 h1) (qv_inj ha.2.2 hb.2.2 h2)
theorem weight_ext (ha : GA n a) (hb : GA k b) (h : qv a.1 * qv a.1 + qv a.2 * qv a.2 = qv b.1 * qv b.1 + qv b.2 * qv b.2) : weightA a = weightA b := qv_inj ha.weight.2 hb.weight.2 (by rw [qv_weight ha, qv_weight hb, h])
theorem parted_q (ha : GA n a) (hb : GA k b) (h0 : b ≠ ((0, 1), (0, 1))) : qv (partedA a b).1 = (qv a.1 * qv b.1 + qv a.2 * qv b.2) * (1 / (qv b.1 * qv b.1 + qv b.2 * qv b.2)) ∧ qv (partedA a b).2 = (qv a.2 * qv b.1 - qv a.1 * qv b.2) * (1 / (qv b.1 * qv b.1 + qv b.2 * qv b.2)) := by
  have hu := weight_up hb h0
  have hm := ha.made hb.mate
  have lw := (hb.weight).2
  rw [← qv_weight hb]
  constructor
  · show qv (timesF (madeA a (mateA b)).1 (overF (1, 1) (weightA b))) = _
    rw [qv_times hm.1.2 (overF_lo lo_1 hu), qv_over lo_1 lw hu, q_made1 ha hb.mate, q_mate1, q_mate2 hb, qv_int]
    grind
  · show qv (timesF (madeA a (mateA b)).2 (overF (1, 1) (weightA b))) = _
    rw [qv_times hm.2.2 (overF_lo lo_1 hu), qv_over lo_1 lw hu, q_made2 ha hb.mate, q_mate1, q_mate2 hb, qv_int]
    grind
end
theorem alg_fs {x1 x2 y1 y2 k f1 f2 : Rat} (hk : ((x1 + y1) * (x1 + y1) + (x2 + y2) * (x2 + y2)) * k = 1)
    (h1 : f1 = (((x1 + y1) * (x1 + y1) - (x2 + y2) * (x2 + y2)) * y1 + 2 * (x1 + y1) * (x2 + y2) * y2) * k) (h2 : f2 = (2 * (x1 + y1) * (x2 + y2) * y1 - ((x1 + y1) * (x1 + y1) - (x2 + y2) * (x2 + y2)) * y2) * k) :
    (x1 + y1) * f1 + (x2 + y2) * f2 = (x1 + y1) * y1 + (x2 + y2) * y2 ∧ (x2 + y2) * f1 - (x1 + y1) * f2 = (x1 + y1) * y2 - (x2 + y2) * y1 := by
  generalize x1 + y1 = p at *
  generalize x2 + y2 = q at *
  constructor
  · have e : p * f1 + q * f2 = (p * y1 + q * y2) * ((p * p + q * q) * k) := by rw [h1, h2]; grind
    rw [e, hk]; grind
  · have e : q * f1 - p * f2 = (p * y2 - q * y1) * ((p * p + q * q) * k) := by rw [h1, h2]; grind
    rw [e, hk]; grind
/-- the two laws of the first new arrow -/
structure Fs (x y f : Ar) : Prop where
  re : (qv x.1 + qv y.1) * qv f.1 + (qv x.2 + qv y.2) * qv f.2 = (qv x.1 + qv y.1) * qv y.1 + (qv x.2 + qv y.2) * qv y.2
  im : (qv x.2 + qv y.2) * qv f.1 - (qv x.1 + qv y.1) * qv f.2 = (qv x.1 + qv y.1) * qv y.2 - (qv x.2 + qv y.2) * qv y.1
theorem sum_w {n : Nat} {x y : Ar} (hx : GA n x) (hy : GA n y) (h : sumA x y ≠ ((0, 1), (0, 1))) : (qv x.1 + qv y.1) * (qv x.1 + qv y.1) + (qv x.2 + qv y.2) * (qv x.2 + qv y.2) ≠ 0 := by
  have hs : GA (n + n + 1) (sumA x y) := hx.sum hy
  have := weight_ne hs h
  rw [qv_weight hs, q_sum1 hx hy, q_sum2 hx hy] at this
  exact this
theorem low_q {n : Nat} {x y : Ar} (hx : GA n x) (hy : GA n y) (h : sumA x y ≠ ((0, 1), (0, 1))) :
    qv (lowA x y).1 = ((qv x.1 + qv y.1) * (qv x.1 + qv y.1) - (qv x.2 + qv y.2) * (qv x.2 + qv y.2)) * (1 / ((qv x.1 + qv y.1) * (qv x.1 + qv y.1) + (qv x.2 + qv y.2) * (qv x.2 + qv y.2))) ∧
    qv (lowA x y).2 = 2 * (qv x.1 + qv y.1) * (qv x.2 + qv y.2) * (1 / ((qv x.1 + qv y.1) * (qv x.1 + qv y.1) + (qv x.2 + qv y.2) * (qv x.2 + qv y.2))) := by
  have hs : GA (n + n + 1) (sumA x y) := hx.sum hy
  obtain ⟨e1, e2⟩ := parted_q hs hs.mate (mate_nz hs h)
  rw [q_mate1, q_mate2 hs, q_sum1 hx hy, q_sum2 hx hy] at e1 e2
  generalize qv x.1 + qv y.1 = p at *
  generalize qv x.2 + qv y.2 = q at *
  have hd : p * p + -q * -q = p * p + q * q := by grind
  rw [hd] at e1 e2
  constructor
  · show qv (partedA (sumA x y) (mateA (sumA x y))).1 = _
    rw [e1]; grind
  · show qv (partedA (sumA x y) (mateA (sumA x y))).2 = _
    rw [e2]; grind
theorem first_fs {n : Nat} {x y : Ar} (hx : GA n x) (hy : GA n y) (h : sumA x y ≠ ((0, 1), (0, 1))) : Fs x y (firstA x y) := by
  obtain ⟨l1, l2⟩ := low_q hx hy h
  have hw := sum_w hx hy h
  have hl := ga_low hx hy h
  have f1 := q_made1 hl hy.mate
  have f2 := q_made2 hl hy.mate
  rw [q_mate1, q_mate2 hy, l1, l2] at f1 f2
  have := alg_fs (x1 := qv x.1) (x2 := qv x.2) (y1 := qv y.1) (y2 := qv y.2) (f1 := qv (firstA x y).1) (f2 := qv (firstA x y).2) (k := 1 / ((qv x.1 + qv y.1) * (qv x.1 + qv y.1) + (qv x.2 + qv y.2) * (qv x.2 + qv y.2))) (by
    generalize (qv x.1 + qv y.1) * (qv x.1 + qv y.1) + (qv x.2 + qv y.2) * (qv x.2 + qv y.2) = w at *
    grind) (by
    show qv (madeA (lowA x y) (mateA y)).1 = _
    rw [f1]; grind) (by
    show qv (madeA (lowA x y) (mateA y)).2 = _
    rw [f2]; grind)
  exact ⟨this.1, this.2⟩
theorem second_fs {n : Nat} {x y : Ar} (hx : GA n x) (hy : GA n y) (h : sumA x y ≠ ((0, 1), (0, 1))) : Fs y x (secondA x y) := by
  obtain ⟨l1, l2⟩ := low_q hx hy h
  have hw := sum_w hx hy h
  have hl := ga_low hx hy h
  have f1 := q_made1 hl hx.mate
  have f2 := q_made2 hl hx.mate
  rw [q_mate1, q_mate2 hx, l1, l2] at f1 f2
  have c1 : qv x.1 + qv y.1 = qv y.1 + qv x.1 := by grind
  have c2 : qv x.2 + qv y.2 = qv y.2 + qv x.2 := by grind
  rw [c1, c2] at f1 f2 hw
  have := alg_fs (x1 := qv y.1) (x2 := qv y.2) (y1 := qv x.1) (y2 := qv x.2) (f1 := qv (secondA x y).1) (f2 := qv (secondA x y).2) (k := 1 / ((qv y.1 + qv x.1) * (qv y.1 + qv x.1) + (qv y.2 + qv x.2) * (qv y.2 + qv x.2))) (by
    generalize (qv y.1 + qv x.1) * (qv y.1 + qv x.1) + (qv y.2 + qv x.2) * (qv y.2 + qv x.2) = w at *
    grind) (by
    show qv (madeA (lowA x y) (mateA x)).1 = _
    rw [f1]; grind) (by
    show qv (madeA (lowA x y) (mateA x)).2 = _
    rw [f2]; grind)
  exact ⟨this.1, this.2⟩
theorem alg_cancel {w a b : Rat} (hw : w ≠ 0) (h : w * a = w * b) : a = b := by
  have : w * (a - b) = 0 := by grind
  rcases Rat.mul_eq_zero.mp this with h | h
  · exact absurd h hw
  · grind
theorem Fs.weight {x y f : Ar} (F : Fs x y f) (hw : (qv x.1 + qv y.1) * (qv x.1 + qv y.1) + (qv x.2 + qv y.2) * (qv x.2 + qv y.2) ≠ 0) : qv f.1 * qv f.1 + qv f.2 * qv f.2 = qv y.1 * qv y.1 + qv y.2 * qv y.2 := by
  obtain ⟨h1, h2⟩ := F
  generalize qv x.1 + qv y.1 = p at *
  generalize qv x.2 + qv y.2 = q at *
  generalize qv f.1 = f1 at *
  generalize qv f.2 = f2 at *
  generalize qv y.1 = y1 at *
  generalize qv y.2 = y2 at *
  refine alg_cancel hw ?_
  have e1 : (p * p + q * q) * (f1 * f1 + f2 * f2) = (p * f1 + q * f2) * (p * f1 + q * f2) + (q * f1 - p * f2) * (q * f1 - p * f2) := by grind
  rw [e1, h1, h2]
  grind
theorem fs_sum {x y f s : Ar} (F : Fs x y f) (S : Fs y x s) (hw : (qv x.1 + qv y.1) * (qv x.1 + qv y.1) + (qv x.2 + qv y.2) * (qv x.2 + qv y.2) ≠ 0) : qv f.1 + qv s.1 = qv x.1 + qv y.1 ∧ qv f.2 + qv s.2 = qv x.2 + qv y.2 := by
  obtain ⟨h1, h2⟩ := F
  obtain ⟨h3, h4⟩ := S
  generalize qv x.1 = x1 at *
  generalize qv x.2 = x2 at *
  generalize qv f.1 = f1 at *
  generalize qv f.2 = f2 at *
  generalize qv y.1 = y1 at *
  generalize qv y.2 = y2 at *
  generalize qv s.1 = s1 at *
  generalize qv s.2 = s2 at *
  constructor
  · refine alg_cancel hw ?_
    have e1 : ((x1 + y1) * (x1 + y1) + (x2 + y2) * (x2 + y2)) * (f1 + s1) = (x1 + y1) * (((x1 + y1) * f1 + (x2 + y2) * f2) + ((y1 + x1) * s1 + (y2 + x2) * s2)) + (x2 + y2) * (((x2 + y2) * f1 - (x1 + y1) * f2) + ((y2 + x2) * s1 - (y1 + x1) * s2)) := by grind
    rw [e1, h1, h2, h3, h4]
    grind
  · refine alg_cancel hw ?_
    have e1 : ((x1 + y1) * (x1 + y1) + (x2 + y2) * (x2 + y2)) * (f2 + s2) = (x2 + y2) * (((x1 + y1) * f1 + (x2 + y2) * f2) + ((y1 + x1) * s1 + (y2 + x2) * s2)) - (x1 + y1) * (((x2 + y2) * f1 - (x1 + y1) * f2) + ((y2 + x2) * s1 - (y1 + x1) * s2)) := by grind
    rw [e1, h1, h2, h3, h4]
    grind
/-! a trade twice -/
theorem split_at {rs : List Rod} {k : Nat} (hk : k + 1 < rs.length) : ∃ A x y B, rs = A ++ x :: y :: B ∧ A.length = k := by
  refine ⟨rs.take k, rs[k], rs[k + 1], rs.drop (k + 2), ?_, by simp; omega⟩
  rw [← List.drop_eq_getElem_cons hk, ← List.drop_eq_getElem_cons (by omega : k < rs.length), List.take_append_drop]
theorem tradeO_split {A B : List Rod} {x y : Rod} {k : Nat} (hA : A.length = k) : tradeO (A ++ x :: y :: B) k = if sumA x.2 y.2 = ((0, 1), (0, 1)) then none else some (A ++ [(y.1, firstA x.2 y.2), (x.1, secondA x.2 y.2)] ++ B) := by
  subst hA
  unfold tradeO
  have h1 : (A ++ x :: y :: B)[A.length]? = some x := by simp
  have h2 : (A ++ x :: y :: B)[A.length + 1]? = some y := by
    rw [List.getElem?_append_right (by omega)]
    simp
  have h3 : (A ++ x :: y :: B).take A.length = A := by simp
  have h4 : (A ++ x :: y :: B).drop (A.length + 2) = B := by
    rw [List.drop_append]
    simp
  rw [h1, h2, h3, h4]
section
/-! arrows as numbers x + y√-1; sums of powers of s, where s z is z's mate made by s -/
structure Cx where
  re : Rat
  im : Rat
deriving DecidableEq
namespace Cx
@[ext] theorem ext' {a b : Cx} (h1 : a.re = b.re) (h2 : a.im = b.im) : a = b := by
  cases a; cases b; simp at h1 h2; simp [h1, h2]
def add (a b : Cx) : Cx := ⟨a.re + b.re, a.im + b.im⟩
def sub (a b : Cx) : Cx := ⟨a.re - b.re, a.im - b.im⟩
def neg (a : Cx) : Cx := ⟨-a.re, -a.im⟩
def mul (a b : Cx) : Cx := ⟨a.re * b.re - a.im * b.im, a.re * b.im + a.im * b.re⟩
def cj (a : Cx) : Cx := ⟨a.re, -a.im⟩
def nat (n : Nat) : Cx := ⟨(n : Rat), 0⟩
def int (n : Int) : Cx := ⟨(n : Rat), 0⟩
def npow (a : Cx) : Nat → Cx
  | 0 => nat 1
  | n + 1 => mul (npow a n) a
instance : Add Cx := ⟨add⟩
instance : Sub Cx := ⟨sub⟩
instance : Neg Cx := ⟨neg⟩
instance : Mul Cx := ⟨mul⟩
instance : NatCast Cx := ⟨nat⟩
instance : IntCast Cx := ⟨int⟩
instance (n : Nat) : OfNat Cx n := ⟨nat n⟩
instance : Pow Cx Nat := ⟨npow⟩
instance : SMul Nat Cx := ⟨fun n a => nat n * a⟩
instance : SMul Int Cx := ⟨fun n a => int n * a⟩
theorem add_re (a b : Cx) : (a + b).re = a.re + b.re := rfl
theorem add_im (a b : Cx) : (a + b).im = a.im + b.im := rfl
theorem sub_re (a b : Cx) : (a - b).re = a.re - b.re := rfl
theorem sub_im (a b : Cx) : (a - b).im = a.im - b.im := rfl
theorem neg_re (a : Cx) : (-a).re = -a.re := rfl
theorem neg_im (a : Cx) : (-a).im = -a.im := rfl
theorem mul_re (a b : Cx) : (a * b).re = a.re * b.re - a.im * b.im := rfl
theorem mul_im (a b : Cx) : (a * b).im = a.re * b.im + a.im * b.re := rfl
theorem zero_re : (0 : Cx).re = 0 := rfl
theorem zero_im : (0 : Cx).im = 0 := rfl
theorem one_re : (1 : Cx).re = 1 := rfl
theorem one_im : (1 : Cx).im = 0 := rfl
theorem cj_re (a : Cx) : (cj a).re = a.re := rfl
theorem cj_im (a : Cx) : (cj a).im = -a.im := rfl
instance : Lean.Grind.CommRing Cx where
  add_zero a := by apply ext' <;> simp only [add_re, add_im, zero_re, zero_im] <;> grind
  add_comm a b := by apply ext' <;> simp only [add_re, add_im] <;> grind
  add_assoc a b c := by apply ext' <;> simp only [add_re, add_im] <;> grind
  mul_assoc a b c := by apply ext' <;> simp only [mul_re, mul_im] <;> grind
  mul_one a := by apply ext' <;> simp only [mul_re, mul_im, one_re, one_im] <;> grind
  one_mul a := by apply ext' <;> simp only [mul_re, mul_im, one_re, one_im] <;> grind
  left_distrib a b c := by apply ext' <;> simp only [mul_re, mul_im, add_re, add_im] <;> grind
  right_distrib a b c := by apply ext' <;> simp only [mul_re, mul_im, add_re, add_im] <;> grind
  zero_mul a := by apply ext' <;> simp only [mul_re, mul_im, zero_re, zero_im] <;> grind
  mul_zero a := by apply ext' <;> simp only [mul_re, mul_im, zero_re, zero_im] <;> grind
  mul_comm a b := by apply ext' <;> simp only [mul_re, mul_im] <;> grind
  pow_zero a := rfl
  pow_succ a n := rfl
  neg_add_cancel a := by apply ext' <;> simp only [add_re, add_im, neg_re, neg_im, zero_re, zero_im] <;> grind
  sub_eq_add_neg a b := by apply ext' <;> simp only [add_re, add_im, sub_re, sub_im, neg_re, neg_im] <;> grind
  ofNat_succ n := by
    apply ext'
    · show ((n + 1 : Nat) : Rat) = (n : Rat) + 1
      exact Rat.natCast_add n 1
    · show (0 : Rat) = 0 + 0
      grind
  ofNat_eq_natCast n := rfl
  nsmul_eq_natCast_mul n a := rfl
  zsmul_natCast_eq_nsmul n a := by
    show int (n : Nat) * a = nat n * a
    have : int ((n : Nat) : Int) = nat n := by
      apply ext'
      · exact Rat.intCast_natCast n
      · rfl
    rw [this]
  neg_zsmul i a := by
    show int (-i) * a = -(int i * a)
    apply ext' <;> simp only [mul_re, mul_im, neg_re, neg_im]
    · show ((-i : Int) : Rat) * _ - 0 * _ = _
      rw [Rat.intCast_neg]
      show _ = -((i : Rat) * a.re - 0 * a.im)
      grind
    · show ((-i : Int) : Rat) * _ + 0 * _ = _
      rw [Rat.intCast_neg]
      show _ = -((i : Rat) * a.im + 0 * a.re)
      grind
  intCast_neg i := by
    apply ext'
    · exact Rat.intCast_neg i
    · show (0 : Rat) = -0
      grind
  intCast_ofNat n := by
    apply ext'
    · exact Rat.intCast_natCast n
    · rfl
theorem cj_cj (a : Cx) : cj (cj a) = a := by apply ext' <;> simp only [cj_re, cj_im]; grind
theorem cj_add (a b : Cx) : cj (a + b) = cj a + cj b := by apply ext' <;> simp only [cj_re, cj_im, add_re, add_im]; grind
theorem cj_mul (a b : Cx) : cj (a * b) = cj a * cj b := by apply ext' <;> simp only [cj_re, cj_im, mul_re, mul_im] <;> grind
theorem cj_neg (a : Cx) : cj (-a) = -cj a := by apply ext' <;> simp only [cj_re, cj_im, neg_re, neg_im]
theorem cj_zero : cj 0 = 0 := by apply ext' <;> simp only [cj_re, cj_im, zero_re, zero_im]; grind
theorem sq_nn (x : Rat) : 0 ≤ x * x := by
  rcases (Rat.le_total : 0 ≤ x ∨ x ≤ 0) with h | h
  · exact Rat.mul_nonneg h h
  · have h2 : 0 ≤ -x := by grind
    have := Rat.mul_nonneg h2 h2
    grind
theorem sq_zero {x y : Rat} (h : x * x + y * y = 0) : x = 0 ∧ y = 0 := by
  have h1 := sq_nn x
  have h2 := sq_nn y
  have e1 : x * x = 0 := by grind
  have e2 : y * y = 0 := by grind
  exact ⟨(Rat.mul_eq_zero.mp e1).elim id id, (Rat.mul_eq_zero.mp e2).elim id id⟩
theorem mul_eq_zero {a b : Cx} (h : a * b = 0) : a = 0 ∨ b = 0 := by
  have h1 : a.re * b.re - a.im * b.im = 0 := congrArg Cx.re h
  have h2 : a.re * b.im + a.im * b.re = 0 := congrArg Cx.im h
  have h3 : (a.re * a.re + a.im * a.im) * (b.re * b.re + b.im * b.im) = 0 := by
    have : (a.re * a.re + a.im * a.im) * (b.re * b.re + b.im * b.im) = (a.re * b.re - a.im * b.im) * (a.re * b.re - a.im * b.im) + (a.re * b.im + a.im * b.re) * (a.re * b.im + a.im * b.re) := by grind
    rw [this, h1, h2]; grind
  rcases Rat.mul_eq_zero.mp h3 with h | h
  · obtain ⟨p, q⟩ := sq_zero h
    exact .inl (ext' p q)
  · obtain ⟨p, q⟩ := sq_zero h
    exact .inr (ext' p q)
end Cx
/-- z, or its mate at odd powers -/
def sg : Nat → Cx → Cx
  | 0, z => z
  | k + 1, z => Cx.cj (sg k z)
theorem sg_add (k : Nat) (a b : Cx) : sg k (a + b) = sg k a + sg k b := by
  induction k with
  | zero => rfl
  | succ k ih => simp only [sg, ih, Cx.cj_add]
theorem sg_mul (k : Nat) (a b : Cx) : sg k (a * b) = sg k a * sg k b := by
  induction k with
  | zero => rfl
  | succ k ih => simp only [sg, ih, Cx.cj_mul]
theorem sg_neg (k : Nat) (a : Cx) : sg k (-a) = -sg k a := by
  induction k with
  | zero => rfl
  | succ k ih => simp only [sg, ih, Cx.cj_neg]
theorem sg_cj (k : Nat) (a : Cx) : sg k (Cx.cj a) = Cx.cj (sg k a) := by
  induction k with
  | zero => rfl
  | succ k ih => simp only [sg, ih]
theorem sg_eq0 {k : Nat} {a : Cx} (h : sg k a = 0) : a = 0 := by
  induction k with
  | zero => exact h
  | succ k ih =>
    refine ih ?_
    have : Cx.cj (Cx.cj (sg k a)) = Cx.cj 0 := congrArg Cx.cj h
    rwa [Cx.cj_cj, Cx.cj_zero] at this
abbrev Se := Nat → Cx
/-- a sum of powers made by 1 + z s -/
def mulS (Y : Se) (z : Cx) : Se
  | 0 => Y 0
  | k + 1 => Y (k + 1) + Y k * sg k z
/-- parted by 1 - z s -/
def divS (Y : Se) (z : Cx) : Se
  | 0 => Y 0
  | k + 1 => Y (k + 1) + divS Y z k * sg k z
theorem mul_mul {a b c d : Cx} (h : a + b = c + d) (h2 : a * Cx.cj b = c * Cx.cj d) (Y : Se) : mulS (mulS Y a) b = mulS (mulS Y c) d := by
  funext k
  match k with
  | 0 => rfl
  | 1 =>
    show Y 1 + Y 0 * a + Y 0 * b = Y 1 + Y 0 * c + Y 0 * d
    grind
  | k + 2 =>
    have e1 : sg (k + 1) (a + b) = sg (k + 1) (c + d) := by rw [h]
    have e2 : sg k (a * Cx.cj b) = sg k (c * Cx.cj d) := by rw [h2]
    rw [sg_add, sg_add] at e1
    rw [sg_mul, sg_mul, sg_cj, sg_cj] at e2
    show Y (k + 2) + Y (k + 1) * sg (k + 1) a + (Y (k + 1) + Y k * sg k a) * sg (k + 1) b = Y (k + 2) + Y (k + 1) * sg (k + 1) c + (Y (k + 1) + Y k * sg k c) * sg (k + 1) d
    have e3 : sg k a * sg (k + 1) b = sg k c * sg (k + 1) d := e2
    grind
theorem mul_div (Y : Se) (z : Cx) : mulS (divS Y z) (-z) = Y := by
  funext k
  match k with
  | 0 => rfl
  | k + 1 =>
    show Y (k + 1) + divS Y z k * sg k z + divS Y z k * sg k (-z) = Y (k + 1)
    rw [sg_neg]
    grind
theorem div_mul (Y : Se) (z : Cx) : divS (mulS Y (-z)) z = Y := by
  funext k
  induction k with
  | zero => rfl
  | succ k ih =>
    show Y (k + 1) + Y k * sg k (-z) + divS (mulS Y (-z)) z k * sg k z = Y (k + 1)
    rw [ih, sg_neg]
    grind
theorem neg_neg' (z : Cx) : - -z = z := by grind
theorem mul_inj {Y X : Se} {z : Cx} (h : mulS Y z = mulS X z) : Y = X := by
  have := congrArg (fun V => divS V (-z)) h
  have e := div_mul Y (-z)
  have e2 := div_mul X (-z)
  rw [neg_neg'] at e e2
  rw [← e, ← e2]
  exact this
/-- a trade: the rods a, b become c (of b's) and d (of a's) -/
structure Tr2 (a b c d : Cx) : Prop where
  s : a + b = c + d
  p : a * Cx.cj b = c * Cx.cj d
  q : c * Cx.cj a = d * Cx.cj b
  n : a + b ≠ 0
theorem cj_eq {a b : Cx} (h : a = b) : Cx.cj a = Cx.cj b := by rw [h]
theorem cjm {a b c d : Cx} (h : a * Cx.cj b = c * Cx.cj d) : Cx.cj a * b = Cx.cj c * d := by
  have := cj_eq h
  rwa [Cx.cj_mul, Cx.cj_mul, Cx.cj_cj, Cx.cj_cj] at this
theorem div_div {a b c d : Cx} (h : Tr2 a b c d) (Y : Se) : divS (divS Y a) b = divS (divS Y c) d := by
  have e1 : mulS (mulS (divS (divS Y a) b) (-b)) (-a) = Y := by rw [mul_div, mul_div]
  have e2 : mulS (mulS (divS (divS Y c) d) (-d)) (-c) = Y := by rw [mul_div, mul_div]
  have e3 := mul_mul (a := -b) (b := -a) (c := -d) (d := -c) (by have := h.s; grind) (by have := cjm h.p; rw [Cx.cj_neg, Cx.cj_neg]; grind) (divS (divS Y c) d)
  exact mul_inj (mul_inj (e1.trans (e2.symm.trans e3.symm)))
theorem mul_dv {a b c d : Cx} (h : Tr2 a b c d) (Y : Se) : divS (mulS Y a) b = mulS (divS Y c) d := by
  have e1 : mulS (divS (mulS Y a) b) (-b) = mulS Y a := mul_div _ _
  have e2 : mulS (divS Y c) (-c) = Y := mul_div _ _
  have e3 := mul_mul (a := -c) (b := a) (c := d) (d := -b) (by have := h.s; grind) (by have := h.q; rw [Cx.cj_neg]; grind) (divS Y c)
  refine mul_inj (z := -b) ?_
  rw [e1, ← e3, e2]
theorem dv_mul {a b c d : Cx} (h : Tr2 a b c d) (Y : Se) : mulS (divS Y a) b = divS (mulS Y c) d := by
  have e1 : mulS (divS (mulS Y c) d) (-d) = mulS Y c := mul_div _ _
  have e2 : mulS (divS Y a) (-a) = Y := mul_div _ _
  have e3 := mul_mul (a := -a) (b := c) (c := b) (d := -d) (by have := h.s; grind) (by have := cjm h.q; rw [Cx.cj_neg]; grind) (divS Y a)
  refine mul_inj (z := -d) ?_
  rw [e1, ← e3, e2]
/-! a row with marks: parting by the marked rods leaves nothing -/
def cnt {β : Type} (f : β → Bool) (rs : List (β × Cx)) : Nat := (rs.filter fun r => f r.1).length
def Ch {β : Type} (f : β → Bool) : List (β × Cx) → Nat → Se → Prop
  | [], _, _ => True
  | x :: rs, u, Y => if f x.1 = true then (∀ k, 1 + u + cnt f rs ≤ k → divS Y x.2 k = 0) ∧ Ch f rs u (divS Y x.2) else Ch f rs (u + 1) (mulS Y x.2)
/-- as much as what is left is 0 -/
def Up (M : Nat) (Y : Se) : Prop := ∀ k, M ≤ k → Y k = 0
theorem Up.mul {M : Nat} {Y : Se} (h : Up M Y) (z : Cx) : Up (M + 1) (mulS Y z) := fun k hk => by
  match k, hk with
  | k + 1, hk =>
    show Y (k + 1) + Y k * sg k z = 0
    rw [h k (by omega), h (k + 1) (by omega)]
    grind
theorem Up.mono {M N : Nat} {Y : Se} (h : Up M Y) (hn : M ≤ N) : Up N Y := fun k hk => h k (by omega)
variable {β : Type} {f : β → Bool}
theorem cnt_cons (x : β × Cx) (rs : List (β × Cx)) : cnt f (x :: rs) = (if f x.1 = true then 1 else 0) + cnt f rs := by
  unfold cnt
  rw [List.filter_cons]
  split <;> simp <;> omega
/-- the heart: a trade of two neighbours leaves it so -/
theorem ch_trade {x y : β} {a b c d : Cx} {rs : List (β × Cx)} {u : Nat} {Y : Se} (h : Tr2 a b c d) (hu : Up (1 + u + cnt f ((x, a) :: (y, b) :: rs)) Y) (hc : Ch f ((x, a) :: (y, b) :: rs) u Y) : Ch f ((y, c) :: (x, d) :: rs) u Y := by
  simp only [cnt_cons] at hu
  by_cases hx : f x = true <;> by_cases hy : f y = true
  · simp only [Ch, hx, hy, if_true, cnt_cons] at hc hu ⊢
    obtain ⟨h1, h2, h3⟩ := hc
    rw [div_div h] at h2 h3
    refine ⟨fun k hk => ?_, h2, h3⟩
    have e : divS Y c = mulS (divS (divS Y c) d) (-d) := (mul_div _ _).symm
    rw [e]
    exact (Up.mul (M := 1 + u + cnt f rs) h2 (-d)) k (by omega)
  · simp only [Ch, hx, hy, if_true, cnt_cons] at hc hu ⊢
    obtain ⟨h1, h2⟩ := hc
    rw [dv_mul h] at h2
    simp only [Bool.false_eq_true, if_false] at *
    refine ⟨fun k hk => ?_, h2⟩
    rw [← dv_mul h]
    exact (Up.mul (M := 1 + u + cnt f rs) (fun k hk => h1 k (by omega)) b) k (by omega)
  · simp only [Ch, hx, hy, if_true, cnt_cons] at hc hu ⊢
    simp only [Bool.false_eq_true, if_false] at *
    obtain ⟨h1, h2⟩ := hc
    rw [mul_dv h] at h1 h2
    refine ⟨fun k hk => ?_, h2⟩
    have e1 := h1 (k + 1) (by omega)
    have e2 : mulS (divS Y c) (-c) (k + 1) = 0 := by rw [mul_div]; exact hu (k + 1) (by omega)
    have e1 : divS Y c (k + 1) + divS Y c k * sg k d = 0 := e1
    have e2 : divS Y c (k + 1) + divS Y c k * sg k (-c) = 0 := e2
    rw [sg_neg] at e2
    have e3 : divS Y c k * (sg k d + sg k c) = 0 := by grind
    rw [← sg_add] at e3
    rcases Cx.mul_eq_zero e3 with z | z
    · exact z
    · have := sg_eq0 z
      exact absurd (by have := h.s; grind) h.n
  · simp only [Ch, hx, hy, if_true, cnt_cons] at hc hu ⊢
    simp only [Bool.false_eq_true, if_false] at *
    rwa [mul_mul h.s h.p] at hc
end
section
variable {β : Type} {f : β → Bool}
/-! ways of trades -/
inductive Step1 {β : Type} : List (β × Cx) → List (β × Cx) → Prop
  | here {x y : β} {a b c d : Cx} {rs : List (β × Cx)} (h : Tr2 a b c d) : Step1 ((x, a) :: (y, b) :: rs) ((y, c) :: (x, d) :: rs)
  | skip {x : β × Cx} {rs rs' : List (β × Cx)} (h : Step1 rs rs') : Step1 (x :: rs) (x :: rs')
inductive Way {β : Type} : List (β × Cx) → List (β × Cx) → Prop
  | refl (rs : List (β × Cx)) : Way rs rs
  | snoc {rs rs' rs'' : List (β × Cx)} (h : Way rs rs') (s : Step1 rs' rs'') : Way rs rs''
theorem step_cnt {rs rs' : List (β × Cx)} (h : Step1 rs rs') : cnt f rs' = cnt f rs := by
  induction h with
  | here _ => simp only [cnt_cons]; omega
  | skip _ ih => simp only [cnt_cons, ih]
theorem ch_step {rs rs' : List (β × Cx)} (h : Step1 rs rs') : ∀ {u : Nat} {Y : Se}, Up (1 + u + cnt f rs) Y → Ch f rs u Y → Ch f rs' u Y := by
  induction h with
  | here t => exact fun hu hc => ch_trade t hu hc
  | @skip x rs rs' s ih =>
    intro u Y hu hc
    have e := step_cnt (f := f) s
    simp only [Ch] at hc ⊢
    rw [cnt_cons] at hu
    split
    · rename_i hx
      rw [if_pos hx] at hc hu
      rw [e]
      exact ⟨hc.1, ih hc.1 hc.2⟩
    · rename_i hx
      rw [if_neg hx] at hc hu
      refine ih (fun k hk => ?_) hc
      exact (Up.mul hu x.2) k (by omega)
theorem way_cnt {rs rs' : List (β × Cx)} (h : Way rs rs') : cnt f rs' = cnt f rs := by
  induction h with
  | refl => rfl
  | snoc _ s ih => rw [step_cnt s, ih]
theorem ch_way {rs rs' : List (β × Cx)} (h : Way rs rs') {u : Nat} {Y : Se} (hu : Up (1 + u + cnt f rs) Y) (hc : Ch f rs u Y) : Ch f rs' u Y := by
  induction h with
  | refl => exact hc
  | snoc w s ih =>
    refine ch_step s ?_ ih
    rw [way_cnt w]
    exact hu
/-- the sum of arrows -/
def sumC {β : Type} : List (β × Cx) → Cx
  | [] => 0
  | x :: rs => x.2 + sumC rs
theorem se_ext0 {z : Cx} {Y : Se} (h : ∀ k, divS Y z k = 0) : ∀ k, Y k = 0 := fun k => by
  have e : Y = mulS (divS Y z) (-z) := (mul_div Y z).symm
  rw [e]
  match k with
  | 0 => exact h 0
  | k + 1 =>
    show divS Y z (k + 1) + divS Y z k * sg k (-z) = 0
    rw [h, h]; grind
theorem ch_end : ∀ (A B : List (β × Cx)) (Y : Se), (∀ x ∈ A, f x.1 = true) → (∀ x ∈ B, f x.1 = false) → Up (1 + cnt f (A ++ B)) Y → Ch f (A ++ B) 0 Y → Y 1 + Y 0 * sumC A = 0 ∧ (Y 0 = 0 → ∀ k, Y k = 0)
  | [], B, Y, _, hB, hu, _ => by
    have e : cnt f B = 0 := by
      unfold cnt
      rw [List.filter_eq_nil_iff.mpr (fun x hx => by simp [hB x hx])]
      rfl
    rw [List.nil_append, e] at hu
    have h1 : ∀ k, Y (k + 1) = 0 := fun k => hu (k + 1) (by omega)
    refine ⟨?_, fun h k => ?_⟩
    · show Y (0 + 1) + Y 0 * 0 = 0
      rw [h1 0]; grind
    · match k with
      | 0 => exact h
      | k + 1 => exact h1 k
  | x :: A, B, Y, hA, hB, hu, hc => by
    simp only [List.cons_append, Ch, hA x (List.mem_cons_self ..), if_true] at hc
    obtain ⟨h1, h2⟩ := hc
    obtain ⟨i1, i2⟩ := ch_end A B (divS Y x.2) (fun y hy => hA y (List.mem_cons_of_mem _ hy)) hB (fun k hk => h1 k (by omega)) h2
    refine ⟨?_, fun h => se_ext0 (i2 h)⟩
    have e : Y 1 + Y 0 * x.2 + Y 0 * sumC A = 0 := i1
    show Y 1 + Y 0 * (x.2 + sumC A) = 0
    grind
/-! what is left at a parting, as numbers -/
def divT (m : Nat) (Y : Se) (z : Cx) : Se := fun k => if k < m then divS Y z k else 0
def res {β : Type} (f : β → Bool) : List (β × Cx) → Nat → Se → List Cx
  | [], _, _ => []
  | x :: rs, u, Y => if f x.1 = true then divS Y x.2 (1 + u + cnt f rs) :: res f rs u (divT (1 + u + cnt f rs) Y x.2) else res f rs (u + 1) (mulS Y x.2)
theorem div_up {m : Nat} {Y : Se} {z : Cx} (hu : Up (m + 1) Y) (h : divS Y z m = 0) : Up m (divS Y z) := by
  intro k hk
  induction k with
  | zero =>
    have : m = 0 := by omega
    rw [← this]; exact h
  | succ k ih =>
    by_cases e : m = k + 1
    · rw [← e]; exact h
    · show Y (k + 1) + divS Y z k * sg k z = 0
      rw [ih (by omega), hu (k + 1) (by omega)]
      grind
theorem ch_of_res : ∀ (rs : List (β × Cx)) (u : Nat) (Y : Se), Up (1 + u + cnt f rs) Y → (∀ r ∈ res f rs u Y, r = 0) → Ch f rs u Y
  | [], _, _, _, _ => trivial
  | x :: rs, u, Y, hu, h => by
    rw [cnt_cons] at hu
    simp only [Ch, res] at h ⊢
    split
    · rename_i hx
      rw [if_pos hx] at h hu
      have h0 := h _ (List.mem_cons_self ..)
      have up := div_up (m := 1 + u + cnt f rs) (fun k hk => hu k (by omega)) h0
      have e : divT (1 + u + cnt f rs) Y x.2 = divS Y x.2 := by
        funext k
        unfold divT
        split
        · rfl
        · rename_i hk
          exact (up k (by omega)).symm
      rw [e] at h
      exact ⟨up, ch_of_res rs u _ up fun r hr => h r (List.mem_cons_of_mem _ hr)⟩
    · rename_i hx
      rw [if_neg hx] at h hu
      exact ch_of_res rs (u + 1) _ (fun k hk => (Up.mul hu x.2) k (by omega)) h
def subS (Y X : Se) : Se := fun k => Y k - X k
theorem mul_sub (Y X : Se) (z : Cx) : mulS (subS Y X) z = subS (mulS Y z) (mulS X z) := by
  funext k
  match k with
  | 0 => rfl
  | k + 1 =>
    show Y (k + 1) - X (k + 1) + (Y k - X k) * sg k z = Y (k + 1) + Y k * sg k z - (X (k + 1) + X k * sg k z)
    grind
theorem div_sub (Y X : Se) (z : Cx) : divS (subS Y X) z = subS (divS Y z) (divS X z) := by
  funext k
  induction k with
  | zero => rfl
  | succ k ih =>
    show Y (k + 1) - X (k + 1) + divS (subS Y X) z k * sg k z = Y (k + 1) + divS Y z k * sg k z - (X (k + 1) + divS X z k * sg k z)
    rw [ih]
    unfold subS
    grind
theorem divT_sub (m : Nat) (Y X : Se) (z : Cx) : divT m (subS Y X) z = subS (divT m Y z) (divT m X z) := by
  funext k
  show (if k < m then divS (subS Y X) z k else 0) = (if k < m then divS Y z k else 0) - (if k < m then divS X z k else 0)
  rw [div_sub]
  split
  · rfl
  · grind
theorem res_sub : ∀ (rs : List (β × Cx)) (u : Nat) (Y X : Se), res f rs u Y = res f rs u X → ∀ r ∈ res f rs u (subS Y X), r = 0
  | [], _, _, _, _ => by simp [res]
  | x :: rs, u, Y, X, h => by
    intro r hr
    simp only [res] at h hr
    split at h
    · rename_i hx
      rw [if_pos hx] at hr
      obtain ⟨h1, h2⟩ := List.cons.inj h
      rcases List.mem_cons.mp hr with rfl | hr
      · rw [div_sub]
        show divS Y x.2 _ - divS X x.2 _ = 0
        rw [h1]; grind
      · rw [divT_sub] at hr
        exact res_sub rs u _ _ h2 r hr
    · rename_i hx
      rw [if_neg hx, mul_sub] at hr
      exact res_sub rs (u + 1) _ _ h r hr
end
section
variable {β : Type} {f : β → Bool}
/-! whole numbers over powers of a whole number: how big -/
structure Sz (D : Int) (C k : Nat) (c : Cx) : Prop where
  ex : ∃ i j : Int, c.re * ((D ^ k : Int) : Rat) = (i : Rat) ∧ c.im * ((D ^ k : Int) : Rat) = (j : Rat) ∧ i.natAbs ≤ C ∧ j.natAbs ≤ C
structure SzZ (D : Int) (R : Nat) (z : Cx) : Prop where
  ex : ∃ i j : Int, z.re * (D : Rat) = (i : Rat) ∧ z.im * (D : Rat) = (j : Rat) ∧ i.natAbs + j.natAbs ≤ R
variable {D : Int} {R M C k : Nat}
theorem Sz.mono {c : Cx} {C' : Nat} (h : Sz D C k c) (hc : C ≤ C') : Sz D C' k c := by
  obtain ⟨i, j, e, f, hi, hj⟩ := h
  exact ⟨i, j, e, f, by omega, by omega⟩
theorem sz_0 : Sz D C k 0 := ⟨0, 0, by rw [Cx.zero_re]; show (0 : Rat) * _ = 0; grind, by rw [Cx.zero_im]; show (0 : Rat) * _ = 0; grind, by simp, by simp⟩
theorem Sz.add {c d : Cx} {C' : Nat} (h : Sz D C k c) (h' : Sz D C' k d) : Sz D (C + C') k (c + d) := by
  obtain ⟨i, j, e, f, hi, hj⟩ := h
  obtain ⟨i', j', e', f', hi', hj'⟩ := h'
  refine ⟨i + i', j + j', ?_, ?_, by omega, by omega⟩
  · rw [Cx.add_re, Rat.intCast_add]; grind
  · rw [Cx.add_im, Rat.intCast_add]; grind
theorem SzZ.cj {z : Cx} (h : SzZ D R z) : SzZ D R (Cx.cj z) := by
  obtain ⟨i, j, e, f, hi⟩ := h
  refine ⟨i, -j, e, ?_, by omega⟩
  rw [Cx.cj_im, Rat.intCast_neg]; grind
theorem SzZ.sg {z : Cx} (h : SzZ D R z) (n : Nat) : SzZ D R (sg n z) := by
  induction n with
  | zero => exact h
  | succ n ih => exact ih.cj
theorem nat_mul_le {a b : Int} {C : Nat} (h : a.natAbs ≤ C) : (a * b).natAbs ≤ C * b.natAbs := by
  rw [Int.natAbs_mul]
  exact Nat.mul_le_mul_right _ h
theorem Sz.mul {c z : Cx} (h : Sz D C k c) (hz : SzZ D R z) : Sz D (C * R) (k + 1) (c * z) := by
  obtain ⟨i, j, e, f, hi, hj⟩ := h
  obtain ⟨x, y, e', f', hR⟩ := hz
  have hp : ((D ^ (k + 1) : Int) : Rat) = ((D ^ k : Int) : Rat) * (D : Rat) := by rw [Int.pow_succ, Rat.intCast_mul]
  have hR2 : C * x.natAbs + C * y.natAbs ≤ C * R := by
    rw [← Nat.mul_add]
    exact Nat.mul_le_mul_left _ hR
  have a1 := nat_mul_le (b := x) hi
  have a2 := nat_mul_le (b := y) hi
  have a3 := nat_mul_le (b := x) hj
  have a4 := nat_mul_le (b := y) hj
  generalize C * x.natAbs = p1 at *
  generalize C * y.natAbs = p2 at *
  generalize C * R = p3 at *
  refine ⟨i * x - j * y, i * y + j * x, ?_, ?_, by omega, by omega⟩
  · rw [Cx.mul_re, hp, Rat.intCast_sub, Rat.intCast_mul, Rat.intCast_mul, ← e, ← f, ← e', ← f']; grind
  · rw [Cx.mul_im, hp, Rat.intCast_add, Rat.intCast_mul, Rat.intCast_mul, ← e, ← f, ← e', ← f']; grind
def In (D : Int) (R M : Nat) (Y : Se) : Prop := ∀ k, Sz D (M * R ^ k) k (Y k)
theorem In.mul {Y : Se} {z : Cx} (h : In D R M Y) (hz : SzZ D R z) : In D R (2 * M) (mulS Y z) := fun k => by
  match k with
  | 0 => exact (h 0).mono (Nat.mul_le_mul_right _ (by omega))
  | k + 1 =>
    have := (h (k + 1)).add ((h k).mul (hz.sg k))
    refine this.mono ?_
    rw [Nat.pow_succ]
    have e : M * R ^ k * R = M * (R ^ k * R) := by rw [Nat.mul_assoc]
    have e2 : 2 * M * (R ^ k * R) = 2 * (M * (R ^ k * R)) := by rw [Nat.mul_assoc]
    rw [e, e2]
    omega
theorem In.div {Y : Se} {z : Cx} (h : In D R M Y) (hz : SzZ D R z) : ∀ k, Sz D ((k + 1) * M * R ^ k) k (divS Y z k)
  | 0 => (h 0).mono (Nat.mul_le_mul_right _ (by omega))
  | k + 1 => by
    have := (h (k + 1)).add ((In.div h hz k).mul (hz.sg k))
    refine this.mono ?_
    rw [Nat.pow_succ]
    have e : (k + 1) * M * R ^ k * R = (k + 1) * M * (R ^ k * R) := by rw [Nat.mul_assoc]
    have e2 : (k + 1 + 1) * M * (R ^ k * R) = M * (R ^ k * R) + (k + 1) * M * (R ^ k * R) := by rw [show k + 1 + 1 = 1 + (k + 1) by omega, Nat.add_mul, Nat.add_mul, Nat.one_mul]
    rw [e, e2]
    omega
theorem In.divT {Y : Se} {z : Cx} (h : In D R M Y) (hz : SzZ D R z) (m : Nat) : In D R (m * M) (divT m Y z) := fun k => by
  unfold Law.divT
  split
  · refine (h.div hz k).mono ?_
    exact Nat.mul_le_mul_right _ (Nat.mul_le_mul_right _ (by omega))
  · exact sz_0
/-- marks alone -/
def cntB (bs : List Bool) : Nat := (bs.filter id).length
/-- how big the rests are: powers and bounds -/
def rb (R : Nat) : List Bool → Nat → Nat → List (Nat × Nat)
  | [], _, _ => []
  | true :: bs, u, M => (1 + u + cntB bs, (1 + u + cntB bs + 1) * M * R ^ (1 + u + cntB bs)) :: rb R bs u ((1 + u + cntB bs) * M)
  | false :: bs, u, M => rb R bs (u + 1) (2 * M)
def marks {β : Type} (f : β → Bool) (rs : List (β × Cx)) : List Bool := rs.map fun r => f r.1
theorem cnt_marks (rs : List (β × Cx)) : cntB (marks f rs) = cnt f rs := by
  unfold cntB marks cnt
  rw [List.filter_map, List.length_map]
  rfl
inductive All2 {α γ : Type} (P : α → γ → Prop) : List α → List γ → Prop
  | nil : All2 P [] []
  | cons {a : α} {c : γ} {as : List α} {cs : List γ} (h : P a c) (hs : All2 P as cs) : All2 P (a :: as) (c :: cs)
theorem res_sz : ∀ (rs : List (β × Cx)) (u M : Nat) (Y : Se), In D R M Y → (∀ r ∈ rs, SzZ D R r.2) → All2 (fun r (p : Nat × Nat) => Sz D p.2 p.1 r) (res f rs u Y) (rb R (marks f rs) u M)
  | [], _, _, _, _, _ => .nil
  | x :: rs, u, M, Y, h, hz => by
    have hx := hz x (List.mem_cons_self ..)
    have ht := fun r hr => hz r (List.mem_cons_of_mem _ hr)
    have em : marks f (x :: rs) = f x.1 :: marks f rs := rfl
    rw [em]
    simp only [res]
    cases e : f x.1
    · simp only [Bool.false_eq_true, if_false, rb]
      exact res_sz rs (u + 1) _ _ (h.mul hx) ht
    · simp only [if_true, rb, cnt_marks]
      refine .cons (h.div hx _) ?_
      exact res_sz rs u _ _ (h.divT hx _) ht
/-! pigeons -/
theorem len_sub {α : Type} [DecidableEq α] : ∀ (A B : List α), A.Nodup → (∀ x ∈ A, x ∈ B) → A.length ≤ B.length
  | [], _, _, _ => Nat.zero_le _
  | x :: A, B, h, hs => by
    obtain ⟨h1, h2⟩ := List.nodup_cons.mp h
    have hx : x ∈ B := hs x (List.mem_cons_self ..)
    have := len_sub A (B.erase x) h2 fun y hy => by
      have hne : y ≠ x := fun e => h1 (e ▸ hy)
      exact (List.mem_erase_of_ne hne).mpr (hs y (List.mem_cons_of_mem _ hy))
    rw [List.length_erase_of_mem hx] at this
    have := List.length_pos_of_mem hx
    simp only [List.length_cons]
    omega
theorem pigeon {α γ : Type} [DecidableEq γ] (A : List α) (g : α → γ) (B : List γ) (h : A.Nodup) (hs : ∀ x ∈ A, g x ∈ B) (hl : B.length < A.length) : ∃ x ∈ A, ∃ y ∈ A, x ≠ y ∧ g x = g y := by
  refine Classical.byContradiction fun hn => ?_
  have inj : ∀ x ∈ A, ∀ y ∈ A, g x = g y → x = y := fun x hx y hy e => Classical.byContradiction fun ne => hn ⟨x, hx, y, hy, ne, e⟩
  have nd : (A.map g).Nodup := by
    rw [List.nodup_iff_pairwise_ne, List.pairwise_map]
    refine List.Pairwise.imp_of_mem ?_ (List.nodup_iff_pairwise_ne.mp h)
    intro x y hx hy hne e
    exact hne (inj x hx y hy e)
  have := len_sub (A.map g) B nd fun z hz => by
    obtain ⟨x, hx, rfl⟩ := List.mem_map.mp hz
    exact hs x hx
  rw [List.length_map] at this
  omega
/-- all rows of things out of lists -/
def prods {γ : Type} : List (List γ) → List (List γ)
  | [] => [[]]
  | v :: vs => v.flatMap fun x => (prods vs).map (x :: ·)
def plen {γ : Type} : List (List γ) → Nat
  | [] => 1
  | v :: vs => v.length * plen vs
theorem prods_len {γ : Type} : ∀ vs : List (List γ), (prods vs).length = plen vs
  | [] => rfl
  | v :: vs => by
    have ih := prods_len vs
    simp only [prods, plen]
    rw [← ih]
    clear ih
    induction v with
    | nil => simp
    | cons x v ih2 => simp only [List.flatMap_cons, List.length_append, List.length_map, ih2, List.length_cons]; rw [Nat.add_mul, Nat.one_mul, Nat.add_comm]
theorem mem_prods {γ : Type} {l : List γ} {vs : List (List γ)} (h : All2 (fun x v => x ∈ v) l vs) : l ∈ prods vs := by
  induction h with
  | nil => simp [prods]
  | @cons x v l vs hx _ ih =>
    simp only [prods]
    rw [List.mem_flatMap]
    exact ⟨x, hx, List.mem_map.mpr ⟨l, ih, rfl⟩⟩
theorem of_prods {γ : Type} : ∀ (vs : List (List γ)) (l : List γ), l ∈ prods vs → All2 (fun x v => x ∈ v) l vs
  | [], l, h => by
    simp [prods] at h
    rw [h]; exact .nil
  | v :: vs, l, h => by
    simp only [prods, List.mem_flatMap, List.mem_map] at h
    obtain ⟨x, hx, l', hl, rfl⟩ := h
    exact .cons hx (of_prods vs l' hl)
theorem prods_nd {γ : Type} : ∀ vs : List (List γ), (∀ v ∈ vs, v.Nodup) → (prods vs).Nodup
  | [], _ => by simp [prods]
  | v :: vs, h => by
    have ih := prods_nd vs fun w hw => h w (List.mem_cons_of_mem _ hw)
    have hv := h v (List.mem_cons_self ..)
    simp only [prods]
    clear h
    induction v with
    | nil => simp
    | cons x v ih2 =>
      obtain ⟨h1, h2⟩ := List.nodup_cons.mp hv
      rw [List.flatMap_cons, List.nodup_append]
      refine ⟨?_, ih2 h2, ?_⟩
      · rw [List.nodup_iff_pairwise_ne, List.pairwise_map]
        refine List.Pairwise.imp ?_ (List.nodup_iff_pairwise_ne.mp ih)
        intro a b hne e
        exact hne (List.cons.inj e).2
      · intro a ha b hb e
        obtain ⟨l, _, rfl⟩ := List.mem_map.mp ha
        rw [List.mem_flatMap] at hb
        obtain ⟨y, hy, hb⟩ := hb
        obtain ⟨l', _, rfl⟩ := List.mem_map.mp hb
        exact h1 ((List.cons.inj e).1 ▸ hy)
end
section
variable {β : Type} {f : β → Bool}
/-! small sums: where the corners lie -/
def cellC (D : Int) (k C : Nat) : List Cx := (List.range (2 * C + 1)).flatMap fun a => (List.range (2 * C + 1)).map fun b => ⟨(((a : Nat) : Int) - (C : Nat) : Int) / ((D ^ k : Int) : Rat), (((b : Nat) : Int) - (C : Nat) : Int) / ((D ^ k : Int) : Rat)⟩
theorem flatMap_const {α γ : Type} (l : List α) (g : α → List γ) (n : Nat) (h : ∀ x ∈ l, (g x).length = n) : (l.flatMap g).length = l.length * n := by
  induction l with
  | nil => simp
  | cons x l ih =>
    rw [List.flatMap_cons, List.length_append, h x (List.mem_cons_self ..), ih fun y hy => h y (List.mem_cons_of_mem _ hy), List.length_cons, Nat.add_mul, Nat.one_mul, Nat.add_comm]
theorem cellC_len (D : Int) (k C : Nat) : (cellC D k C).length = (2 * C + 1) * (2 * C + 1) := by
  unfold cellC
  rw [flatMap_const _ _ (2 * C + 1) (fun x _ => by simp)]
  simp
theorem div_eq_of {a b c : Rat} (hb : b ≠ 0) (h : a * b = c) : a = c / b := by
  rw [← h]
  rw [Rat.div_def, Rat.mul_assoc, Rat.mul_inv_cancel b hb, Rat.mul_one]
theorem pow_ne {D : Int} (hD : D ≠ 0) (k : Nat) : ((D ^ k : Int) : Rat) ≠ 0 := by
  have : D ^ k ≠ 0 := Int.pow_ne_zero hD
  intro h
  have h2 : ((D ^ k : Int) : Rat) = ((0 : Int) : Rat) := h
  exact this (Rat.intCast_inj.mp h2)
theorem mem_cellC {D : Int} (hD : D ≠ 0) {k C : Nat} {c : Cx} (h : Sz D C k c) : c ∈ cellC D k C := by
  obtain ⟨i, j, e, f, hi, hj⟩ := h
  unfold cellC
  rw [List.mem_flatMap]
  refine ⟨(i + (C : Nat)).toNat, by rw [List.mem_range]; omega, ?_⟩
  rw [List.mem_map]
  refine ⟨(j + (C : Nat)).toNat, by rw [List.mem_range]; omega, ?_⟩
  have e1 : (((i + (C : Nat)).toNat : Nat) : Int) - (C : Nat) = i := by omega
  have e2 : (((j + (C : Nat)).toNat : Nat) : Int) - (C : Nat) = j := by omega
  rw [e1, e2]
  apply Cx.ext'
  · exact (div_eq_of (pow_ne hD k) e).symm
  · exact (div_eq_of (pow_ne hD k) f).symm
def box (N : Nat) : List (Nat × Nat) := (List.range N).flatMap fun a => (List.range N).map fun b => (a, b)
theorem box_len (N : Nat) : (box N).length = N * N := by
  unfold box
  rw [flatMap_const _ _ N (fun x _ => by simp)]
  simp
theorem mem_box {N : Nat} {p : Nat × Nat} (h : p ∈ box N) : p.1 < N ∧ p.2 < N := by
  unfold box at h
  rw [List.mem_flatMap] at h
  obtain ⟨a, ha, h⟩ := h
  obtain ⟨b, hb, rfl⟩ := List.mem_map.mp h
  exact ⟨List.mem_range.mp ha, List.mem_range.mp hb⟩
theorem box_nd (N : Nat) : (box N).Nodup := by
  unfold box
  have h : (List.range N).Nodup := List.nodup_range
  generalize List.range N = L at h ⊢
  have key : ∀ K : List Nat, K.Nodup → (K.flatMap fun a => L.map fun b => (a, b)).Nodup := fun K hK => by
    induction K with
    | nil => simp
    | cons x K ih =>
      obtain ⟨h1, h2⟩ := List.nodup_cons.mp hK
      rw [List.flatMap_cons, List.nodup_append]
      refine ⟨?_, ih h2, ?_⟩
      · rw [List.nodup_iff_pairwise_ne, List.pairwise_map]
        refine List.Pairwise.imp ?_ (List.nodup_iff_pairwise_ne.mp h)
        intro a b hne e
        exact hne (Prod.mk.inj e).2
      · intro a ha b hb e
        obtain ⟨l, _, rfl⟩ := List.mem_map.mp ha
        rw [List.mem_flatMap] at hb
        obtain ⟨y, hy, hb⟩ := hb
        obtain ⟨l', _, rfl⟩ := List.mem_map.mp hb
        exact h1 ((Prod.mk.inj e).1 ▸ hy)
  exact key L h
/-- a row of pairs as a sum of powers -/
def ofV (D : Int) (v : List (Nat × Nat)) : Se := fun k => match v[k]? with
  | some p => ⟨((p.1 : Nat) : Int) / ((D ^ k : Int) : Rat), ((p.2 : Nat) : Int) / ((D ^ k : Int) : Rat)⟩
  | none => 0
def boxes (R B : Nat) : Nat → Nat → List (List (Nat × Nat))
  | _, 0 => []
  | k, n + 1 => box (B * R ^ k) :: boxes R B (k + 1) n
theorem boxes_nd (R B : Nat) : ∀ n k, ∀ v ∈ boxes R B k n, v.Nodup
  | 0, _, v, h => by simp [boxes] at h
  | n + 1, k, v, h => by
    rcases List.mem_cons.mp h with rfl | h
    · exact box_nd _
    · exact boxes_nd R B n (k + 1) v h
theorem boxes_get (R B : Nat) : ∀ (n k : Nat) (v : List (Nat × Nat)), All2 (fun x w => x ∈ w) v (boxes R B k n) → v.length = n ∧ ∀ i p, v[i]? = some p → p.1 < B * R ^ (k + i) ∧ p.2 < B * R ^ (k + i)
  | 0, k, v, h => by
    cases h
    exact ⟨rfl, by simp⟩
  | n + 1, k, v, h => by
    rw [boxes] at h
    cases h with
    | cons hx hs =>
      obtain ⟨h1, h2⟩ := boxes_get R B n (k + 1) _ hs
      refine ⟨by simp [h1], fun i p hp => ?_⟩
      match i, hp with
      | 0, hp =>
        have := mem_box hx
        simp at hp
        rw [← hp]; exact this
      | i + 1, hp =>
        have := h2 i p (by simpa using hp)
        rwa [show k + 1 + i = k + (i + 1) by omega] at this
theorem div_mul_self {a b : Rat} (hb : b ≠ 0) : a / b * b = a := by
  rw [Rat.div_def, Rat.mul_assoc, Rat.inv_mul_cancel b hb, Rat.mul_one]
theorem ofV_in {D : Int} (hD : D ≠ 0) {R B n : Nat} {v : List (Nat × Nat)} (h : All2 (fun x w => x ∈ w) v (boxes R B 0 n)) : In D R B (ofV D v) ∧ Up n (ofV D v) := by
  obtain ⟨h1, h2⟩ := boxes_get R B n 0 v h
  refine ⟨fun k => ?_, fun k hk => ?_⟩
  · unfold ofV
    split
    · rename_i p hp
      have := h2 k p hp
      rw [Nat.zero_add] at this
      exact ⟨p.1, p.2, div_mul_self (pow_ne hD k), div_mul_self (pow_ne hD k), by omega, by omega⟩
    · exact sz_0
  · unfold ofV
    rw [List.getElem?_eq_none (by omega)]
theorem sub_sz {D : Int} (hD : D ≠ 0) {R B n : Nat} {v w : List (Nat × Nat)} (hv : All2 (fun x w => x ∈ w) v (boxes R B 0 n)) (hw : All2 (fun x w => x ∈ w) w (boxes R B 0 n)) : In D R B (subS (ofV D v) (ofV D w)) := by
  obtain ⟨v1, v2⟩ := boxes_get R B n 0 v hv
  obtain ⟨w1, w2⟩ := boxes_get R B n 0 w hw
  intro k
  unfold subS ofV
  by_cases hk : k < n
  · rw [List.getElem?_eq_getElem (by omega : k < v.length), List.getElem?_eq_getElem (by omega : k < w.length)]
    have a := v2 k _ (List.getElem?_eq_getElem (by omega : k < v.length))
    have b := w2 k _ (List.getElem?_eq_getElem (by omega : k < w.length))
    rw [Nat.zero_add] at a b
    simp only
    generalize v[k] = p at *
    generalize w[k] = q at *
    have hd := pow_ne hD k
    refine ⟨((p.1 : Nat) : Int) - ((q.1 : Nat) : Int), ((p.2 : Nat) : Int) - ((q.2 : Nat) : Int), ?_, ?_, by omega, by omega⟩
    · show (_ / _ - _ / _) * _ = _
      rw [Rat.intCast_sub]
      have e1 := div_mul_self (a := (((p.1 : Nat) : Int) : Rat)) hd
      have e2 := div_mul_self (a := (((q.1 : Nat) : Int) : Rat)) hd
      grind
    · show (_ / _ - _ / _) * _ = _
      rw [Rat.intCast_sub]
      have e1 := div_mul_self (a := (((p.2 : Nat) : Int) : Rat)) hd
      have e2 := div_mul_self (a := (((q.2 : Nat) : Int) : Rat)) hd
      grind
  · rw [List.getElem?_eq_none (by omega), List.getElem?_eq_none (by omega)]
    have : (0 : Cx) - 0 = 0 := by grind
    simp only
    rw [this]
    exact sz_0
theorem ofV_inj {D : Int} (hD : D ≠ 0) {v w : List (Nat × Nat)} (hl : v.length = w.length) (h : ∀ k, subS (ofV D v) (ofV D w) k = 0) : v = w := by
  refine List.ext_getElem hl fun k h1 h2 => ?_
  have := h k
  unfold subS ofV at this
  rw [List.getElem?_eq_getElem h1, List.getElem?_eq_getElem h2] at this
  simp only at this
  generalize v[k] = p at *
  generalize w[k] = q at *
  have hd := pow_ne hD k
  have e1 : (((p.1 : Nat) : Int) : Rat) / ((D ^ k : Int) : Rat) - (((q.1 : Nat) : Int) : Rat) / ((D ^ k : Int) : Rat) = 0 := congrArg Cx.re this
  have e2 : (((p.2 : Nat) : Int) : Rat) / ((D ^ k : Int) : Rat) - (((q.2 : Nat) : Int) : Rat) / ((D ^ k : Int) : Rat) = 0 := congrArg Cx.im this
  have key : ∀ a b : Nat, (((a : Nat) : Int) : Rat) / ((D ^ k : Int) : Rat) - (((b : Nat) : Int) : Rat) / ((D ^ k : Int) : Rat) = 0 → a = b := fun a b e => by
    have f1 := div_mul_self (a := (((a : Nat) : Int) : Rat)) hd
    have f2 := div_mul_self (a := (((b : Nat) : Int) : Rat)) hd
    have : (((a : Nat) : Int) : Rat) = (((b : Nat) : Int) : Rat) := by
      rw [← f1, ← f2]
      have : (((a : Nat) : Int) : Rat) / ((D ^ k : Int) : Rat) = (((b : Nat) : Int) : Rat) / ((D ^ k : Int) : Rat) := by grind
      rw [this]
    have := Rat.intCast_inj.mp this
    omega
  exact Prod.ext (key _ _ e1) (key _ _ e2)
/-! numbers alone: whether a bound will do -/
def prodN (l : List Nat) : Nat := l.foldr (· * ·) 1
def capN (R B : Nat) (bs : List Bool) : Nat := prodN ((rb R bs 0 B).map fun p => (2 * p.2 + 1) * (2 * p.2 + 1))
def roomN (R B : Nat) : Nat → Nat → Nat
  | _, 0 => 1
  | k, n + 1 => B * R ^ k * (B * R ^ k) * roomN R B (k + 1) n
def fits (R B : Nat) (bs : List Bool) : Bool := decide (capN R B bs < roomN R B 0 (1 + cntB bs))
theorem plen_boxes (R B : Nat) : ∀ n k, plen (boxes R B k n) = roomN R B k n
  | 0, _ => rfl
  | n + 1, k => by simp only [boxes, plen, roomN, box_len, plen_boxes R B n (k + 1)]
theorem plen_cells (D : Int) : ∀ l : List (Nat × Nat), plen (l.map fun p => cellC D p.1 p.2) = prodN (l.map fun p => (2 * p.2 + 1) * (2 * p.2 + 1))
  | [] => rfl
  | p :: l => by
    have ih := plen_cells D l
    simp only [List.map_cons, plen, cellC_len, ih]
    rfl
theorem all2_map {α γ δ : Type} {P : α → γ → Prop} {Q : α → δ → Prop} {g : γ → δ} (hg : ∀ a c, P a c → Q a (g c)) {l : List α} {l' : List γ} (h : All2 P l l') : All2 Q l (l'.map g) := by
  induction h with
  | nil => exact .nil
  | cons h _ ih => exact .cons (hg _ _ h) ih
/-- a small sum of powers that the marked rods part -/
theorem small {D : Int} (hD : D ≠ 0) {R B : Nat} {rs : List (β × Cx)} (hz : ∀ r ∈ rs, SzZ D R r.2) (hf : fits R B (marks f rs) = true) : ∃ Z : Se, (∃ k, Z k ≠ 0) ∧ Up (1 + cnt f rs) Z ∧ Ch f rs 0 Z ∧ In D R B Z := by
  have hc := cnt_marks (f := f) rs
  have hlt : capN R B (marks f rs) < roomN R B 0 (1 + cntB (marks f rs)) := of_decide_eq_true hf
  rw [hc] at hlt
  obtain ⟨v, hv, w, hw, hne, e⟩ := pigeon (prods (boxes R B 0 (1 + cnt f rs))) (fun v => res f rs 0 (ofV D v)) (prods ((rb R (marks f rs) 0 B).map fun p => cellC D p.1 p.2)) (prods_nd _ (boxes_nd R B _ 0)) (fun v hv => by
    refine mem_prods ?_
    have := res_sz (f := f) rs 0 B _ (ofV_in hD (of_prods _ v hv)).1 hz
    exact all2_map (Q := fun a v => a ∈ v) (g := fun p : Nat × Nat => cellC D p.1 p.2) (fun a c (h : Sz D c.2 c.1 a) => mem_cellC hD h) this) (by
      rw [prods_len, prods_len, plen_boxes, plen_cells]
      exact hlt)
  have av := of_prods _ v hv
  have aw := of_prods _ w hw
  have up : Up (1 + cnt f rs) (subS (ofV D v) (ofV D w)) := fun k hk => by
    unfold subS
    rw [(ofV_in hD av).2 k hk, (ofV_in hD aw).2 k hk]; grind
  refine ⟨subS (ofV D v) (ofV D w), ?_, up, ?_, sub_sz hD av aw⟩
  · refine Classical.byContradiction fun hn => hne ?_
    refine ofV_inj hD (by rw [(boxes_get _ _ _ _ _ av).1, (boxes_get _ _ _ _ _ aw).1]) fun k => ?_
    exact Classical.byContradiction fun h => hn ⟨k, h⟩
  · refine ch_of_res rs 0 _ (fun k hk => up k (by omega)) ?_
    exact res_sub rs 0 _ _ e
/-- x + y√-1 made by D and by c is i + j√-1 -/
def Small (D : Int) (P Q : Nat) (c : Cx) : Prop := ∃ x y i j : Int, ¬ (x = 0 ∧ y = 0) ∧ x.natAbs ≤ P ∧ y.natAbs ≤ P ∧ i.natAbs ≤ Q ∧ j.natAbs ≤ Q ∧ ((x : Rat) * c.re - (y : Rat) * c.im) * (D : Rat) = (i : Rat) ∧ ((x : Rat) * c.im + (y : Rat) * c.re) * (D : Rat) = (j : Rat)
theorem fits_pos {R B : Nat} {bs : List Bool} (h : fits R B bs = true) : (1 : Int).natAbs ≤ B := by
  rcases Nat.eq_zero_or_pos B with z | z
  · exfalso
    rw [z] at h
    unfold fits at h
    have := of_decide_eq_true h
    rw [show 1 + cntB bs = cntB bs + 1 by omega] at this
    simp [roomN] at this
  · exact z
/-- where a corner lies hangs on which rods are ahead of it alone, and is told by small numbers -/
theorem corner_lot {D : Int} (hD : D ≠ 0) {R B : Nat} {rs : List (β × Cx)} (hz : ∀ r ∈ rs, SzZ D R r.2) (hf : fits R B (marks f rs) = true) :
    ∃ c : Cx, Small D B (B * R) c ∧ ∀ A T : List (β × Cx), Way rs (A ++ T) → (∀ x ∈ A, f x.1 = true) → (∀ x ∈ T, f x.1 = false) → sumC A = c := by
  obtain ⟨Z, ⟨k, hk⟩, up, ch, sz⟩ := small hD hz hf
  by_cases hn : ∃ A T : List (β × Cx), Way rs (A ++ T) ∧ (∀ x ∈ A, f x.1 = true) ∧ (∀ x ∈ T, f x.1 = false)
  · obtain ⟨A, T, hw, hA, hT⟩ := hn
    have gen : ∀ A T : List (β × Cx), Way rs (A ++ T) → (∀ x ∈ A, f x.1 = true) → (∀ x ∈ T, f x.1 = false) → Z 1 + Z 0 * sumC A = 0 ∧ (Z 0 = 0 → ∀ k, Z k = 0) := fun A T hw hA hT => by
      refine ch_end A T Z hA hT ?_ (ch_way hw (fun k hk => up k (by omega)) ch)
      rw [way_cnt hw]; exact up
    obtain ⟨h1, h2⟩ := gen A T hw hA hT
    have h0 : Z 0 ≠ 0 := fun e => hk (h2 e k)
    refine ⟨sumC A, ?_, fun A' T' hw' hA' hT' => ?_⟩
    · obtain ⟨x, y, ex, ey, hx, hy⟩ := sz 0
      obtain ⟨i, j, ei, ej, hi, hj⟩ := sz 1
      rw [Int.pow_zero] at ex ey
      rw [show D ^ 1 = D by rw [Int.pow_succ, Int.pow_zero, Int.one_mul]] at ei ej
      have e1 : (Z 0).re = (x : Rat) := by
        rw [← ex]
        show _ = _ * (1 : Rat)
        grind
      have e2 : (Z 0).im = (y : Rat) := by
        rw [← ey]
        show _ = _ * (1 : Rat)
        grind
      have g1 : (Z 1).re + ((Z 0).re * (sumC A).re - (Z 0).im * (sumC A).im) = 0 := congrArg Cx.re h1
      have g2 : (Z 1).im + ((Z 0).re * (sumC A).im + (Z 0).im * (sumC A).re) = 0 := congrArg Cx.im h1
      rw [e1, e2] at g1 g2
      rw [Nat.pow_zero, Nat.mul_one] at hx hy
      rw [Nat.pow_one] at hi hj
      refine ⟨x, y, -i, -j, fun h => h0 ?_, hx, hy, by omega, by omega, ?_, ?_⟩
      · apply Cx.ext'
        · rw [e1, h.1]; rfl
        · rw [e2, h.2]; rfl
      · rw [Rat.intCast_neg, ← ei]; grind
      · rw [Rat.intCast_neg, ← ej]; grind
    · obtain ⟨h1', _⟩ := gen A' T' hw' hA' hT'
      have : Z 0 * (sumC A' - sumC A) = 0 := by grind
      rcases Cx.mul_eq_zero this with z | z
      · exact absurd z h0
      · grind
  · refine ⟨0, ⟨1, 0, 0, 0, by simp, fits_pos hf, by simp, by simp, by simp, ?_, ?_⟩, fun A T a b c => absurd ⟨A, T, a, b, c⟩ hn⟩
    · rw [Cx.zero_re, Cx.zero_im]
      show _ = (0 : Rat)
      grind
    · rw [Cx.zero_re, Cx.zero_im]
      show _ = (0 : Rat)
      grind
end
/-! rows behind trades: how big they are, and that they hang on the order alone -/
def cx (a : Ar) : Cx := ⟨qv a.1, qv a.2⟩
def cr (r : Rod) : Str × Cx := (r.1, cx r.2)
def allB : Nat → List (List Bool)
  | 0 => [[]]
  | n + 1 => (allB n).flatMap fun b => [true :: b, false :: b]
theorem mem_allB : ∀ bs : List Bool, bs ∈ allB bs.length
  | [] => by simp [allB]
  | b :: bs => by
    rw [List.length_cons, allB, List.mem_flatMap]
    exact ⟨bs, mem_allB bs, by cases b <;> simp⟩
def RB : Nat := 5880
def BB : Nat := 2 ^ 250
theorem fits_all : ((List.range 9).all fun n => (allB n).all fun bs => fits RB BB bs) = true := by decide +kernel
theorem fits_8 {bs : List Bool} (h : bs.length ≤ 8) : fits RB BB bs = true := by
  have := List.all_eq_true.mp fits_all bs.length (List.mem_range.mpr (by omega))
  exact List.all_eq_true.mp this bs (mem_allB bs)
/-- drawn arrows over 420 -/
theorem szq {p : Q} (h : Gd 3 p) : ∃ i : Int, qv p * (((420 : Int)) : Rat) = (i : Rat) ∧ i.natAbs ≤ 2940 := by
  obtain ⟨⟨h1, h2, h3⟩, _⟩ := h
  obtain ⟨x, u⟩ := p
  simp only at h1 h2 h3
  have hu : u = 1 ∨ u = 2 ∨ u = 3 ∨ u = 4 ∨ u = 5 ∨ u = 6 ∨ u = 7 := by omega
  have key : ∀ v w : Int, v * w = 420 → 0 < v → w.natAbs ≤ 420 → ∃ i : Int, qv (x, v) * (((420 : Int)) : Rat) = (i : Rat) ∧ i.natAbs ≤ 2940 := fun v w e hv hw => by
    refine ⟨x * w, ?_, ?_⟩
    · rw [← e]
      unfold qv
      have hne : (v : Rat) ≠ 0 := cast_ne (by omega)
      rw [Rat.intCast_mul, Rat.intCast_mul]
      show (x : Rat) / (v : Rat) * ((v : Rat) * (w : Rat)) = _
      have := div_mul_self (a := (x : Rat)) hne
      grind
    · rw [Int.natAbs_mul]
      have : x.natAbs ≤ 7 := by omega
      exact Nat.le_trans (Nat.mul_le_mul this hw) (by decide)
  rcases hu with rfl | rfl | rfl | rfl | rfl | rfl | rfl
  · exact key 1 420 (by decide) (by decide) (by decide)
  · exact key 2 210 (by decide) (by decide) (by decide)
  · exact key 3 140 (by decide) (by decide) (by decide)
  · exact key 4 105 (by decide) (by decide) (by decide)
  · exact key 5 84 (by decide) (by decide) (by decide)
  · exact key 6 70 (by decide) (by decide) (by decide)
  · exact key 7 60 (by decide) (by decide) (by decide)
theorem szz {a : Ar} (h : GA 3 a) : SzZ 420 RB (cx a) := by
  obtain ⟨i, e, hi⟩ := szq h.1
  obtain ⟨j, f, hj⟩ := szq h.2
  exact ⟨i, j, e, f, by show _ ≤ 5880; omega⟩
theorem sq_nat {x y : Int} (h : ¬ (x = 0 ∧ y = 0)) : 0 < (x * x + y * y).natAbs ∧ (((x * x + y * y).natAbs : Nat) : Int) = x * x + y * y := by
  have hP : 0 ≤ x * x := by rw [← Int.natAbs_mul_self]; exact Int.natCast_nonneg _
  have hQ : 0 ≤ y * y := by rw [← Int.natAbs_mul_self]; exact Int.natCast_nonneg _
  have hN : 0 < x * x + y * y := by
    rcases Int.lt_or_eq_of_le hP with z | z
    · omega
    · rcases Int.lt_or_eq_of_le hQ with z2 | z2
      · omega
      · exact absurd ⟨(Int.mul_eq_zero.mp z.symm).elim id id, (Int.mul_eq_zero.mp z2.symm).elim id id⟩ h
  omega
/-- a small sum over a whole number -/
theorem small_over {D : Int} {P Q g : Nat} {c : Cx} (hD : 0 < D) (hc : Small D P Q c) (hP : P < 2 ^ g) (hQ : Q < 2 ^ (g + 13)) (hDl : D.natAbs < 2 ^ 9) : ∃ n : Nat, 0 < n ∧ n < 2 ^ (2 * g + 1) ∧ ∃ i j : Int, c.re * (((n : Nat) : Int) : Rat) * (D : Rat) = (i : Rat) ∧ c.im * (((n : Nat) : Int) : Rat) * (D : Rat) = (j : Rat) ∧ i.natAbs < 2 ^ (2 * g + 14) ∧ j.natAbs < 2 ^ (2 * g + 14) := by
  obtain ⟨x, y, i, j, h0, hx, hy, hi, hj, e, f⟩ := hc
  have hx : x.natAbs < 2 ^ g := by omega
  have hy : y.natAbs < 2 ^ g := by omega
  have hi : i.natAbs < 2 ^ (g + 13) := by omega
  have hj : j.natAbs < 2 ^ (g + 13) := by omega
  obtain ⟨n0, ne⟩ := sq_nat h0
  have b1 := c_add (c_mul hx hx) (c_mul hy hy)
  rw [show g + g + 1 = 2 * g + 1 by omega] at b1
  refine ⟨(x * x + y * y).natAbs, n0, b1, i * x + j * y, j * x - i * y, ?_, ?_, ?_, ?_⟩
  · rw [ne, Rat.intCast_add, Rat.intCast_mul, Rat.intCast_mul, Rat.intCast_add, Rat.intCast_mul, Rat.intCast_mul, ← e, ← f]; grind
  · rw [ne, Rat.intCast_add, Rat.intCast_mul, Rat.intCast_mul, Rat.intCast_sub, Rat.intCast_mul, Rat.intCast_mul, ← e, ← f]; grind
  · have := c_add (c_mul hi hx) (c_mul hj hy)
    rwa [show g + 13 + g + 1 = 2 * g + 14 by omega] at this
  · have := c_sub (c_mul hj hx) (c_mul hi hy)
    rwa [show g + 13 + g + 1 = 2 * g + 14 by omega] at this
/-- a difference of two small sums -/
theorem small_sub {D : Int} {P Q g : Nat} {c d : Cx} (hD : 0 < D) (hc : Small D P Q c) (hd : Small D P Q d) (hP : P < 2 ^ g) (hQ : Q < 2 ^ (g + 13)) (hDl : D.natAbs < 2 ^ 9) : ∃ N : Nat, 0 < N ∧ N < 2 ^ (4 * g + 11) ∧ ∃ i j : Int, (d.re - c.re) * (((N : Nat) : Int) : Rat) = (i : Rat) ∧ (d.im - c.im) * (((N : Nat) : Int) : Rat) = (j : Rat) ∧ i.natAbs < 2 ^ (4 * g + 16) ∧ j.natAbs < 2 ^ (4 * g + 16) := by
  obtain ⟨n, n0, nb, i, j, e, f, hi, hj⟩ := small_over hD hc hP hQ hDl
  obtain ⟨m, m0, mb, k, l, e2, f2, hk, hl⟩ := small_over hD hd hP hQ hDl
  have hn : ((n : Nat) : Int).natAbs < 2 ^ (2 * g + 1) := by simpa using nb
  have hm : ((m : Nat) : Int).natAbs < 2 ^ (2 * g + 1) := by simpa using mb
  have eN : (((D.natAbs * n * m : Nat)) : Int) = D * (n : Nat) * (m : Nat) := by
    rw [Int.natCast_mul, Int.natCast_mul]
    have : ((D.natAbs : Nat) : Int) = D := by omega
    rw [this]
  refine ⟨D.natAbs * n * m, Nat.mul_pos (Nat.mul_pos (by omega) n0) m0, ?_, k * (n : Nat) - i * (m : Nat), l * (n : Nat) - j * (m : Nat), ?_, ?_, ?_, ?_⟩
  · have := c_mul (c_mul hDl hn) hm
    rw [Int.natAbs_mul, Int.natAbs_mul] at this
    simp only [Int.natAbs_natCast] at this
    rwa [show 9 + (2 * g + 1) + (2 * g + 1) = 4 * g + 11 by omega] at this
  · rw [eN, Rat.intCast_mul, Rat.intCast_mul, Rat.intCast_sub, Rat.intCast_mul, Rat.intCast_mul, ← e, ← e2]; grind
  · rw [eN, Rat.intCast_mul, Rat.intCast_mul, Rat.intCast_sub, Rat.intCast_mul, Rat.intCast_mul, ← f, ← f2]; grind
  · have := c_sub (c_mul hk hn) (c_mul hi hm)
    rwa [show 2 * g + 14 + (2 * g + 1) + 1 = 4 * g + 16 by omega] at this
  · have := c_sub (c_mul hl hn) (c_mul hj hm)
    rwa [show 2 * g + 14 + (2 * g + 1) + 1 = 4 * g + 16 by omega] at this
/-! a trade is a trade -/
theorem tr2_of {n : Nat} {x y : Ar} (hx : GA n x) (hy : GA n y) (h : sumA x y ≠ ((0, 1), (0, 1))) : Tr2 (cx x) (cx y) (cx (firstA x y)) (cx (secondA x y)) := by
  have hw := sum_w hx hy h
  obtain ⟨l1, l2⟩ := low_q hx hy h
  have hl := ga_low hx hy h
  have f1 : qv (firstA x y).1 = _ := q_made1 hl hy.mate
  have f2 : qv (firstA x y).2 = _ := q_made2 hl hy.mate
  have s1 : qv (secondA x y).1 = _ := q_made1 hl hx.mate
  have s2 : qv (secondA x y).2 = _ := q_made2 hl hx.mate
  rw [q_mate1, q_mate2 hy] at f1 f2
  rw [q_mate1, q_mate2 hx] at s1 s2
  obtain ⟨t1, t2⟩ := fs_sum (first_fs hx hy h) (second_fs hx hy h) hw
  have hn : cx x + cx y ≠ 0 := fun e => by
    have e1 : qv x.1 + qv y.1 = 0 := congrArg Cx.re e
    have e2 : qv x.2 + qv y.2 = 0 := congrArg Cx.im e
    rw [e1, e2] at hw
    exact hw (by grind)
  have el : cx (lowA x y) * Cx.cj (cx (lowA x y)) = 1 := by
    have k1 : ((qv x.1 + qv y.1) * (qv x.1 + qv y.1) + (qv x.2 + qv y.2) * (qv x.2 + qv y.2)) * (1 / ((qv x.1 + qv y.1) * (qv x.1 + qv y.1) + (qv x.2 + qv y.2) * (qv x.2 + qv y.2))) = 1 := by
      generalize (qv x.1 + qv y.1) * (qv x.1 + qv y.1) + (qv x.2 + qv y.2) * (qv x.2 + qv y.2) = w at *
      grind
    have a1 : (cx (lowA x y)).re = qv (lowA x y).1 := rfl
    have a2 : (cx (lowA x y)).im = qv (lowA x y).2 := rfl
    generalize qv x.1 + qv y.1 = p at *
    generalize qv x.2 + qv y.2 = q at *
    generalize 1 / (p * p + q * q) = k at *
    apply Cx.ext'
    · rw [Cx.mul_re, Cx.cj_re, Cx.cj_im, a1, a2, l1, l2, Cx.one_re]
      have : (p * p - q * q) * k * ((p * p - q * q) * k) - 2 * p * q * k * -(2 * p * q * k) = ((p * p + q * q) * k) * ((p * p + q * q) * k) := by grind
      rw [this, k1]; grind
    · rw [Cx.mul_im, Cx.cj_re, Cx.cj_im, Cx.one_im]; grind
  have ef : cx (firstA x y) = cx (lowA x y) * Cx.cj (cx y) := by
    apply Cx.ext'
    · exact f1
    · exact f2
  have es : cx (secondA x y) = cx (lowA x y) * Cx.cj (cx x) := by
    apply Cx.ext'
    · exact s1
    · exact s2
  refine ⟨?_, ?_, ?_, hn⟩
  · apply Cx.ext'
    · exact t1.symm
    · exact t2.symm
  · rw [ef, es, Cx.cj_mul, Cx.cj_cj]
    have : cx (lowA x y) * Cx.cj (cx y) * (Cx.cj (cx (lowA x y)) * cx x) = (cx (lowA x y) * Cx.cj (cx (lowA x y))) * (cx x * Cx.cj (cx y)) := by grind
    rw [this, el]; grind
  · rw [ef, es]; grind
theorem step1_app {β : Type} {x y : β} {a b c d : Cx} (h : Tr2 a b c d) : ∀ (A B : List (β × Cx)), Step1 (A ++ (x, a) :: (y, b) :: B) (A ++ (y, c) :: (x, d) :: B)
  | [], _ => .here h
  | _ :: A, B => .skip (step1_app h A B)
/-- rows that trades lead to -/
inductive Rea : List Rod → List Rod → Prop
  | refl (rs : List Rod) : Rea rs rs
  | snoc {rs rs' rs'' : List Rod} {k : Nat} (h : Rea rs rs') (e : tradeO rs' k = some rs'') : Rea rs rs''
theorem Rea.trans {a b c : List Rod} (h : Rea a b) (h' : Rea b c) : Rea a c := by
  induction h' with
  | refl => exact h
  | snoc _ e ih => exact .snoc ih e
/-- lowest terms, no arrow nought -/
structure LoR (rs : List Rod) : Prop where
  nm : ∀ r ∈ rs, nameG r.1 = true
  ok : ∀ r ∈ rs, NmOk r.1
  nd : (rs.map (·.1)).Nodup
  ar : ∀ r ∈ rs, ∃ n, GA n r.2
  nz : ∀ r ∈ rs, r.2 ≠ ((0, 1), (0, 1))
theorem trade_cases {rs rs' : List Rod} {k : Nat} (h : tradeO rs k = some rs') : ∃ A x y B, rs = A ++ x :: y :: B ∧ A.length = k ∧ sumA x.2 y.2 ≠ ((0, 1), (0, 1)) ∧ rs' = A ++ (y.1, firstA x.2 y.2) :: (x.1, secondA x.2 y.2) :: B := by
  have hk : k + 1 < rs.length := by
    unfold tradeO at h
    split at h
    · rename_i hy
      exact (List.getElem?_eq_some_iff.mp hy).1
    · cases h
  obtain ⟨A, x, y, B, rfl, hA⟩ := split_at hk
  rw [tradeO_split hA] at h
  split at h
  · cases h
  rename_i c
  cases h
  exact ⟨A, x, y, B, rfl, hA, c, by simp⟩
theorem two_ga {x y : Ar} (hx : ∃ n, GA n x) (hy : ∃ n, GA n y) : ∃ n, GA n x ∧ GA n y := by
  obtain ⟨n, hn⟩ := hx
  obtain ⟨k, hk⟩ := hy
  exact ⟨n + k, hn.mono (by omega), hk.mono (by omega)⟩
theorem LoR.trade {rs rs' : List Rod} {k : Nat} (h : LoR rs) (e : tradeO rs k = some rs') : LoR rs' ∧ Step1 (rs.map cr) (rs'.map cr) ∧ (rs'.map (·.1)).Perm (rs.map (·.1)) ∧ rs'.length = rs.length := by
  obtain ⟨A, x, y, B, rfl, hA, c, rfl⟩ := trade_cases e
  obtain ⟨n, gx, gy⟩ := two_ga (h.ar x (by simp)) (h.ar y (by simp))
  have nx := h.nz x (by simp)
  have ny := h.nz y (by simp)
  have pm : ((A ++ (y.1, firstA x.2 y.2) :: (x.1, secondA x.2 y.2) :: B).map (·.1)).Perm ((A ++ x :: y :: B).map (·.1)) := by
    simp only [List.map_append, List.map_cons]
    exact List.Perm.append_left _ (List.Perm.swap ..)
  have mem : ∀ (P : Rod → Prop), (∀ r ∈ A ++ x :: y :: B, P r) → P (y.1, firstA x.2 y.2) → P (x.1, secondA x.2 y.2) → ∀ r ∈ A ++ (y.1, firstA x.2 y.2) :: (x.1, secondA x.2 y.2) :: B, P r := fun P hP p1 p2 r hr => by
    simp only [List.mem_append, List.mem_cons] at hr
    rcases hr with hr | rfl | rfl | hr
    · exact hP r (by simp [hr])
    · exact p1
    · exact p2
    · exact hP r (by simp [hr])
  refine ⟨⟨mem (fun r => nameG r.1 = true) h.nm (h.nm y (by simp)) (h.nm x (by simp)), mem (fun r => NmOk r.1) h.ok (h.ok y (by simp)) (h.ok x (by simp)), (List.Perm.nodup_iff pm).mpr h.nd, mem (fun r => ∃ n, GA n r.2) h.ar ⟨_, ga_first gx gy c⟩ ⟨_, ga_second gx gy c⟩, mem (fun r => r.2 ≠ ((0, 1), (0, 1))) h.nz (nz_first gx gy c ny) (nz_second gx gy c nx)⟩, ?_, pm, by simp⟩
  rw [List.map_append, List.map_append]
  exact step1_app (x := x.1) (y := y.1) (tr2_of gx gy c) (A.map cr) (B.map cr)
theorem Rea.lo {rs rs' : List Rod} (h : Rea rs rs') (h0 : LoR rs) : LoR rs' ∧ Way (rs.map cr) (rs'.map cr) ∧ (rs'.map (·.1)).Perm (rs.map (·.1)) ∧ rs'.length = rs.length := by
  induction h with
  | refl => exact ⟨h0, .refl _, List.Perm.refl _, rfl⟩
  | snoc _ e ih =>
    obtain ⟨a, b, c, d⟩ := ih
    obtain ⟨a', b', c', d'⟩ := a.trade e
    exact ⟨a', .snoc b b', c'.trans c, d'.trans d⟩
theorem Good.loR {n : Nat} {rs : List Rod} (h : Good n rs) : LoR rs := ⟨h.nm, h.ok, h.nd, fun r hr => ⟨n, (h.ar r hr).1⟩, fun r hr => (h.ar r hr).2⟩
/-- the sum of the arrows ahead of a corner -/
theorem sumC_app {β : Type} (A B : List (β × Cx)) : sumC (A ++ B) = sumC A + sumC B := by
  induction A with
  | nil => show _ = 0 + _; grind
  | cons x A ih => show x.2 + sumC (A ++ B) = x.2 + sumC A + sumC B; rw [ih]; grind
def inL (L : List Str) (z : Str) : Bool := decide (z ∈ L)
theorem lot_sum {rs : List Rod} (h : Good 3 rs) (L : List Str) : ∃ c : Cx, Small 420 BB (BB * RB) c ∧ ∀ A T : List Rod, Rea rs (A ++ T) → (∀ z, z ∈ A.map (·.1) → z ∈ L) → (∀ z, z ∈ T.map (·.1) → z ∉ L) → sumC (A.map cr) = c := by
  obtain ⟨c, hc, hw⟩ := corner_lot (D := 420) (by decide) (R := RB) (B := BB) (rs := rs.map cr) (f := inL L) (fun r hr => by
    obtain ⟨q, hq, rfl⟩ := List.mem_map.mp hr
    exact szz (h.ar q hq).1) (fits_8 (by simp [marks]; exact h.l8))
  refine ⟨c, hc, fun A T hr hA hT => ?_⟩
  have w := (hr.lo h.loR).2.1
  rw [List.map_append] at w
  refine hw _ _ w (fun x hx => ?_) (fun x hx => ?_)
  · obtain ⟨q, hq, rfl⟩ := List.mem_map.mp hx
    exact decide_eq_true (hA _ (List.mem_map.mpr ⟨q, hq, rfl⟩))
  · obtain ⟨q, hq, rfl⟩ := List.mem_map.mp hx
    exact decide_eq_false (hT _ (List.mem_map.mpr ⟨q, hq, rfl⟩))
theorem names_split {A T : List Rod} (h : ((A ++ T).map (·.1)).Nodup) : ∀ z, z ∈ T.map (·.1) → z ∉ A.map (·.1) := fun z hz hA => by
  rw [List.map_append, List.nodup_append] at h
  exact h.2.2 z hA z hz rfl
/-- arrows between two corners of a row behind trades -/
theorem mid_fr {rs A M T : List Rod} {a : Ar} (h : Good 3 rs) (hr : Rea rs (A ++ M ++ T)) (l1 : Lo a.1) (l2 : Lo a.2) (e : cx a = sumC (M.map cr)) : ∃ N, 0 < N ∧ N < 2 ^ 1015 ∧ FrA N 1020 a := by
  have hd := (hr.lo h.loR).1.nd
  obtain ⟨c, sc, hc⟩ := lot_sum h (A.map (·.1))
  obtain ⟨d, sd, hd'⟩ := lot_sum h ((A ++ M).map (·.1))
  have hA : sumC (A.map cr) = c := hc A (M ++ T) (by rw [← List.append_assoc]; exact hr) (fun _ z => z) (names_split (by rw [← List.append_assoc]; exact hd))
  have hM : sumC ((A ++ M).map cr) = d := hd' (A ++ M) T hr (fun _ z => z) (names_split hd)
  rw [List.map_append, sumC_app, hA] at hM
  have ea : cx a = d - c := by rw [e, ← hM]; grind
  obtain ⟨N, n0, nb, i, j, ei, ej, hi, hj⟩ := small_sub (g := 251) (by decide) sc sd (by unfold BB; decide) (by unfold BB RB; decide) (by decide)
  refine ⟨N, n0, nb, ⟨l1, i, ?_, hi⟩, ⟨l2, j, ?_, hj⟩⟩
  · rw [← ei]
    have : qv a.1 = d.re - c.re := congrArg Cx.re ea
    rw [this]
  · rw [← ej]
    have : qv a.2 = d.im - c.im := congrArg Cx.im ea
    rw [this]
/-! rows that trades lead to: small enough to reckon with -/
theorem low_frS {n D b : Nat} {x y : Ar} (hD : 0 < D) (hx : GA n x) (hy : GA n y) (fs : FrA D b (sumA x y)) (h : sumA x y ≠ ((0, 1), (0, 1))) : ∃ N, 0 < N ∧ N < 2 ^ (2 * b + 1) ∧ FrA N (2 * b + 1) (lowA x y) := by
  obtain ⟨l1, l2⟩ := low_q hx hy h
  have hw := sum_w hx hy h
  have hl := ga_low hx hy h
  obtain ⟨P, p1, q1⟩ := fs.1.ex
  obtain ⟨Q, p2, q2⟩ := fs.2.ex
  rw [q_sum1 hx hy] at p1
  rw [q_sum2 hx hy] at p2
  have hd : (((D : Nat) : Int) : Rat) ≠ 0 := cast_ne (by omega)
  generalize (((D : Nat) : Int) : Rat) = d at *
  generalize qv x.1 + qv y.1 = p at *
  generalize qv x.2 + qv y.2 = q at *
  have hN : ((P * P + Q * Q : Int) : Rat) = (p * p + q * q) * d * d := by
    rw [Rat.intCast_add, Rat.intCast_mul, Rat.intCast_mul, ← p1, ← p2]; grind
  have h0 : ¬ (P = 0 ∧ Q = 0) := fun z => by
    rw [z.1, z.2] at hN
    have hN : (p * p + q * q) * d * d = 0 := hN.symm
    rcases Rat.mul_eq_zero.mp hN with z | z
    · rcases Rat.mul_eq_zero.mp z with z | z
      · exact hw z
      · exact hd z
    · exact hd z
  obtain ⟨n0, ne⟩ := sq_nat h0
  have b1 : (P * P).natAbs < 2 ^ (b + b) := c_mul q1 q1
  have b2 : (Q * Q).natAbs < 2 ^ (b + b) := c_mul q2 q2
  have b3 : (P * Q).natAbs < 2 ^ (b + b) := c_mul q1 q2
  have eb : b + b + 1 = 2 * b + 1 := by omega
  have k1 : (p * p + q * q) * (1 / (p * p + q * q)) = 1 := by
    generalize p * p + q * q = w at *
    grind
  refine ⟨(P * P + Q * Q).natAbs, n0, ?_, ⟨hl.1.2, P * P - Q * Q, ?_, ?_⟩, ⟨hl.2.2, P * Q + P * Q, ?_, ?_⟩⟩
  · have := c_add b1 b2
    rwa [eb] at this
  · rw [ne, hN, l1, Rat.intCast_sub, Rat.intCast_mul, Rat.intCast_mul, ← p1, ← p2]
    generalize 1 / (p * p + q * q) = k at *
    have : (p * p - q * q) * k * ((p * p + q * q) * d * d) = (p * p - q * q) * d * d * ((p * p + q * q) * k) := by grind
    rw [this, k1]; grind
  · have := c_sub b1 b2
    rwa [eb] at this
  · rw [ne, hN, l2, Rat.intCast_add, Rat.intCast_mul, ← p1, ← p2]
    generalize 1 / (p * p + q * q) = k at *
    have : 2 * p * q * k * ((p * p + q * q) * d * d) = 2 * p * q * d * d * ((p * p + q * q) * k) := by grind
    rw [this, k1]; grind
  · have := c_add b3 b3
    rwa [eb] at this
structure Fine (rs : List Rod) : Prop where
  g : Good 1020 rs
  s : ∀ A x y B, rs = A ++ x :: y :: B → ∃ N, 0 < N ∧ N < 2 ^ 1015 ∧ FrA N 1020 (sumA x.2 y.2)
theorem sumC_one {β : Type} (x : β × Cx) : sumC [x] = x.2 := by show x.2 + 0 = x.2; grind
theorem sumC_two {β : Type} (x y : β × Cx) : sumC [x, y] = x.2 + y.2 := by show x.2 + (y.2 + 0) = _; grind
theorem cx_sum {n k : Nat} {a b : Ar} (ha : GA n a) (hb : GA k b) : cx (sumA a b) = cx a + cx b := Cx.ext' (q_sum1 ha hb) (q_sum2 ha hb)
theorem rea_ar {rs rs' : List Rod} (h : Good 3 rs) (hr : Rea rs rs') : ∀ r ∈ rs', GA 1020 r.2 := fun r hm => by
  obtain ⟨A, B, rfl⟩ := List.append_of_mem hm
  have e : A ++ r :: B = A ++ [r] ++ B := by simp
  have lo := (hr.lo h.loR).1
  obtain ⟨n, hn⟩ := lo.ar r (by simp)
  rw [e] at hr
  obtain ⟨N, n0, nb, f⟩ := mid_fr (M := [r]) h hr hn.1.2 hn.2.2 (sumC_one (cr r)).symm
  exact f.ga n0 (Nat.lt_of_lt_of_le nb (Nat.pow_le_pow_right (by decide) (by decide))) (Nat.le_refl _)
theorem rea_fine {rs rs' : List Rod} (h : Good 3 rs) (hr : Rea rs rs') : Fine rs' := by
  obtain ⟨lo, _, _, hl⟩ := hr.lo h.loR
  have ga := rea_ar h hr
  refine ⟨⟨by rw [hl]; exact h.l1, by rw [hl]; exact h.l8, lo.nm, lo.ok, lo.nd, fun r hm => ⟨ga r hm, lo.nz r hm⟩⟩, fun A x y B e => ?_⟩
  subst e
  have gx := ga x (by simp)
  have gy := ga y (by simp)
  have e : A ++ x :: y :: B = A ++ [x, y] ++ B := by simp
  rw [e] at hr
  have gs := gx.sum gy
  exact mid_fr (M := [x, y]) h hr gs.1.2 gs.2.2 (by rw [cx_sum gx gy]; exact (sumC_two (cr x) (cr y)).symm)
theorem Fine.pair {rs : List Rod} {k : Nat} (h : Fine rs) (hk : k + 1 < rs.length) : ∃ N, 0 < N ∧ N < 2 ^ 1015 ∧ FrA N 1020 (sumA (rs[k]'(by omega)).2 rs[k + 1].2) := by
  refine h.s (rs.take k) rs[k] rs[k + 1] (rs.drop (k + 2)) ?_
  rw [← List.drop_eq_getElem_cons hk, ← List.drop_eq_getElem_cons (by omega : k < rs.length), List.take_append_drop]
/-- what a trade of two arrows needs -/
structure Fx (x y : Ar) : Prop where
  gx : GA 1020 x
  gy : GA 1020 y
  gs : GA 1020 (sumA x y)
  gl : sumA x y ≠ ((0, 1), (0, 1)) → GA 2041 (lowA x y)
theorem fx_of {x y : Ar} {N : Nat} (hx : GA 1020 x) (hy : GA 1020 y) (n0 : 0 < N) (nb : N < 2 ^ 1015) (f : FrA N 1020 (sumA x y)) : Fx x y := by
  refine ⟨hx, hy, f.ga n0 (Nat.lt_of_lt_of_le nb (Nat.pow_le_pow_right (by decide) (by decide))) (Nat.le_refl _), fun c => ?_⟩
  obtain ⟨M, m0, mb, g⟩ := low_frS n0 hx hy f c
  exact g.ga m0 mb (Nat.le_refl _)
theorem exchanged_okF {a b : Ar} (F : Fx a b) (m : Ms) : s_exchanged [dA a, dA b] m = .ok (if sumA a b = ((0, 1), (0, 1)) then .non else .tup [dA (firstA a b), dA (secondA a b)]) m := by
  have z0 : c_ORIGIN = dA ((0, 1), (0, 1)) := rfl
  have hs := F.gs
  have e1 := summed_ok F.gx F.gy (by omega) m
  by_cases h : sumA a b = ((0, 1), (0, 1))
  · rw [if_pos h]
    rw [h] at e1
    refine fn_rt' (m' := m) ?_ rfl rfl
    simp [b_exchanged, e1, z0]
  · rw [if_neg h]
    refine fn_rt' (m' := m) ?_ rfl rfl
    have e2 := mate_ok hs (by omega) m
    have e3 := parted_ok hs hs.mate (mate_nz hs h) (by omega) m
    have e4 := mate_ok F.gx (by omega) m
    have e5 := mate_ok F.gy (by omega) m
    have e6 := made_ok (F.gl h) F.gy.mate (by omega) m
    have e7 := made_ok (F.gl h) F.gx.mate (by omega) m
    unfold firstA secondA
    unfold lowA at *
    simp [b_exchanged, e1, z0, h, e2, e3, e4, e5, e6, e7]
theorem rods_traded_okF {rs : List Rod} {k : Nat} (h : Fine rs) (hk : k + 1 < rs.length) (m : Ms) : s_rods_traded [.lst (rs.map dR), .int (k : Nat)] m = .ok (tradeD (tradeO rs k)) m := by
  have a1 : ∀ m : Ms, oIx (.lst (rs.map dR)) (.int (k : Nat)) m = .ok (dR rs[k]) m := fun m => by rw [ix_at (by simp; omega)]; simp
  have a2 : ∀ m : Ms, oIx (.lst (rs.map dR)) (.int ((k : Nat) + 1)) m = .ok (dR rs[k + 1]) m := fun m => by
    have : ((k : Nat) : Int) + 1 = ((k + 1 : Nat) : Int) := by omega
    rw [this, ix_at (by simp; omega)]; simp
  have g1 := (h.g.ar rs[k] (List.getElem_mem _)).1
  have g2 := (h.g.ar rs[k + 1] (List.getElem_mem _)).1
  obtain ⟨N, n0, nb, f⟩ := h.pair hk
  have F := fx_of g1 g2 n0 nb f
  have hx : rs[k]? = some rs[k] := List.getElem?_eq_getElem _
  have hy : rs[k + 1]? = some rs[k + 1] := List.getElem?_eq_getElem _
  unfold tradeO
  rw [hx, hy]
  generalize rs[k] = x at *
  generalize rs[k + 1] = y at *
  obtain ⟨zx, ax⟩ := x
  obtain ⟨zy, ay⟩ := y
  simp only [dR] at a1 a2 F ⊢
  have e1 := exchanged_okF F m
  by_cases c : sumA ax ay = ((0, 1), (0, 1))
  · rw [if_pos c]
    rw [if_pos c] at e1
    refine fn_rt' (m' := m) ?_ rfl rfl
    simp [-o_ixL, b_rods_traded, a1, a2, e1, tradeD, oIsN, isN]
  · rw [if_neg c]
    rw [if_neg c] at e1
    have c1 : cutL (rs.map dR) none (some ((k : Nat) : Int)) = (rs.map dR).take k := cutL_to rfl
    have c2 : cutL (rs.map dR) (some (((k : Nat) : Int) + 2)) none = (rs.map dR).drop (k + 2) := cutL_from (by omega)
    have h8 := h.g.l8
    have k1 : ((rs.map dR).take k).length + 2 ≤ 100000 := by simp; omega
    have k2 : ((rs.map dR).take k).length + 2 + ((rs.map dR).drop (k + 2)).length ≤ 100000 := by simp; omega
    have hR : (rs.take k ++ [(zy, firstA ax ay), (zx, secondA ax ay)] ++ rs.drop (k + 2)).map dR = (rs.map dR).take k ++ [dR (zy, firstA ax ay), dR (zx, secondA ax ay)] ++ (rs.map dR).drop (k + 2) := by simp [List.map_take, List.map_drop]
    refine fn_rt' (m' := m) ?_ (by unfold tradeD; show D.cfs _ _ = true; exact dR_cf _ _) rfl
    unfold tradeD
    simp only [hR]
    simp only [dR]
    generalize (rs.map dR).take k = A at *
    generalize (rs.map dR).drop (k + 2) = B at *
    generalize rs.map dR = P at *
    simp [-o_ixL, b_rods_traded, a1, a2, e1, c1, c2, okLen_of, k1, k2, oIsN, isN]
/-! the row's methods -/
def insR (rs : List Rod) (a : Ar) : D := .ins k_Row [Str.ofString "lot", Str.ofString "first"] [.lst (rs.map dR), dA a]
theorem dr_row (rs : List Rod) (a : Ar) (m : Ms) : dr (m ++ [dRow rs a]) (.cel m.length) = insR rs a := by simp [dRow, dr, Ce.fz, insR]
theorem dr_ins (rs : List Rod) (a : Ar) (m : Ms) : dr m (insR rs a) = insR rs a := rfl
theorem fld_lot {rs : List Rod} {a : Ar} {m : Ms} : oFld k_Row (Str.ofString "lot") (insR rs a) m = .ok (.lst (rs.map dR)) m := by
  simp [oFld, insR, fget]
theorem fld_first {rs : List Rod} {a : Ar} {m : Ms} : oFld k_Row (Str.ofString "first") (insR rs a) m = .ok (dA a) m := by
  have hne : ¬ Str.ofString "first" = Str.ofString "lot" := by decide +kernel
  simp [oFld, insR, fget, hne]
def xFlat (i : Int) : Xc := ⟨6, [(Str.ofString "at", .int i), (Str.ofString "called", .str (Str.ofString "Flat"))]⟩
theorem make_row {rs : List Rod} {a : Ar} {n : Nat} (h : Good n rs) (m : Ms) : s_Row___init [.cel m.length, .lst (rs.map dR), dA a] (m ++ [.o k_Row [] []]) = .ok .non (m ++ [dRow rs a]) := by
  have := init_ok (a := a) (fun r hr => Nat.le_trans (h.ok r hr).1 (by decide)) (by have := h.l8; omega) m
  rw [h.rowF] at this
  exact this
theorem mth_row {mx : Str} {g : List D → List D → List D} {gS : List D → Ms → R D} {o : Fn D} {a kw : Fn (List D)} {σ : Sd} {m m1 : Ms} {d : D} {rs : List Rod} {aa : Ar} (ho : o σ m = .ok d m1) (hd : dr m1 d = insR rs aa) (hx : mx ∉ [Str.ofString "lot", Str.ofString "first"]) : xMth k_Row mx g gS o a kw σ m = (a σ m1).bind fun ds m2 => (kw σ m2).bind fun es m3 => gS (g (d :: ds) es) m3 := by
  rw [ev_mth, ho]
  simp only [R.bind_ok, hd, insR]
  rw [if_pos ⟨trivial, hx⟩]
theorem n_traded : Str.ofString "traded" ∉ [Str.ofString "lot", Str.ofString "first"] := by decide +kernel
theorem n_end : Str.ofString "end" ∉ [Str.ofString "lot", Str.ofString "first"] := by decide +kernel
section
variable {β : Type} {f : β → Bool}
/-! the product of a row's rods -/
def conS (c : Cx) : Se
  | 0 => c
  | _ + 1 => 0
def UW : List (β × Cx) → Se
  | rs => rs.foldl (fun Y x => mulS Y x.2) (conS 1)
/-- the other way about, each arrow's sign turned -/
def US : List (β × Cx) → Se
  | [] => conS 1
  | x :: A => mulS (US A) (-x.2)
/-- made by 1 + z s from the left -/
def lmulS (z : Cx) (Y : Se) : Se
  | 0 => Y 0
  | k + 1 => Y (k + 1) + z * Cx.cj (Y k)
theorem cj_sg (k : Nat) (z : Cx) : Cx.cj (sg k z) = sg (k + 1) z := rfl
theorem lm_comm (a z : Cx) (Y : Se) : lmulS a (mulS Y z) = mulS (lmulS a Y) z := by
  funext k
  match k with
  | 0 => rfl
  | 1 =>
    show Y 1 + Y 0 * z + a * Cx.cj (Y 0) = Y 1 + a * Cx.cj (Y 0) + Y 0 * z
    grind
  | k + 2 =>
    show Y (k + 2) + Y (k + 1) * sg (k + 1) z + a * Cx.cj (Y (k + 1) + Y k * sg k z) = Y (k + 2) + a * Cx.cj (Y (k + 1)) + (Y (k + 1) + a * Cx.cj (Y k)) * sg (k + 1) z
    rw [Cx.cj_add, Cx.cj_mul, cj_sg]
    grind
theorem lm_con (a : Cx) : lmulS a (conS 1) = mulS (conS 1) a := by
  have h : Cx.cj (1 : Cx) = 1 := by
    apply Cx.ext'
    · rfl
    · show -(0 : Rat) = 0; grind
  funext k
  match k with
  | 0 => rfl
  | 1 =>
    show (0 : Cx) + a * Cx.cj 1 = 0 + 1 * a
    rw [h]; grind
  | k + 2 =>
    show (0 : Cx) + a * Cx.cj 0 = 0 + 0 * sg (k + 1) a
    rw [Cx.cj_zero]; grind
theorem US_snoc : ∀ (A : List (β × Cx)) (x : β × Cx), US (A ++ [x]) = lmulS (-x.2) (US A)
  | [], x => (lm_con (-x.2)).symm
  | y :: A, x => by
    show mulS (US (A ++ [x])) (-y.2) = lmulS (-x.2) (mulS (US A) (-y.2))
    rw [US_snoc A x, lm_comm]
/-- turned about -/
def starS (Y : Se) : Se := fun k => if k % 2 = 0 then Cx.cj (Y k) else -(Y k)
theorem sg_even {k : Nat} (h : k % 2 = 0) (z : Cx) : sg k z = z := by
  have key : ∀ j : Nat, sg (2 * j) z = z ∧ sg (2 * j + 1) z = Cx.cj z := fun j => by
    induction j with
    | zero => exact ⟨rfl, rfl⟩
    | succ j ih =>
      have e : sg (2 * j + 2) z = z := by show Cx.cj (sg (2 * j + 1) z) = z; rw [ih.2, Cx.cj_cj]
      exact ⟨e, by show Cx.cj (sg (2 * j + 2) z) = _; rw [e]⟩
  have := (key (k / 2)).1
  rwa [show 2 * (k / 2) = k by omega] at this
theorem sg_odd {k : Nat} (h : k % 2 = 1) (z : Cx) : sg k z = Cx.cj z := by
  match k, h with
  | k + 1, h =>
    show Cx.cj (sg k z) = _
    rw [sg_even (by omega)]
theorem star_mul (Y : Se) (z : Cx) : starS (mulS Y z) = lmulS (-z) (starS Y) := by
  funext k
  match k with
  | 0 => rfl
  | k + 1 =>
    show (if (k + 1) % 2 = 0 then Cx.cj (Y (k + 1) + Y k * sg k z) else -(Y (k + 1) + Y k * sg k z)) = (if (k + 1) % 2 = 0 then Cx.cj (Y (k + 1)) else -(Y (k + 1))) + -z * Cx.cj (if k % 2 = 0 then Cx.cj (Y k) else -(Y k))
    by_cases h : k % 2 = 0
    · rw [if_neg (by omega), if_neg (by omega), if_pos h, sg_even h, Cx.cj_cj]
      grind
    · rw [if_pos (by omega), if_pos (by omega), if_neg h, sg_odd (by omega), Cx.cj_add, Cx.cj_mul, Cx.cj_cj, Cx.cj_neg]
      grind
theorem star_con : starS (conS 1) = conS 1 := by
  funext k
  match k with
  | 0 =>
    show (if (0 : Nat) % 2 = 0 then Cx.cj 1 else -1) = (1 : Cx)
    rw [if_pos rfl]
    apply Cx.ext'
    · rfl
    · show -(0 : Rat) = 0; grind
  | k + 1 =>
    show (if (k + 1) % 2 = 0 then Cx.cj 0 else -0) = (0 : Cx)
    rw [Cx.cj_zero]
    split <;> grind
theorem UW_snoc (A : List (β × Cx)) (x : β × Cx) : UW (A ++ [x]) = mulS (UW A) x.2 := by simp [UW]
theorem snoc_ind {α : Type} {P : List α → Prop} (h0 : P []) (hs : ∀ A x, P A → P (A ++ [x])) (A : List α) : P A := by
  have key : ∀ n (A : List α), A.length = n → P A := fun n => by
    induction n with
    | zero => exact fun A h => List.eq_nil_of_length_eq_zero h ▸ h0
    | succ n ih =>
      intro A h
      have hne : A ≠ [] := fun e => by rw [e] at h; cases h
      rw [← List.dropLast_concat_getLast hne]
      exact hs _ _ (ih _ (by simp; omega))
  exact key _ A rfl
theorem US_star (A : List (β × Cx)) : US A = starS (UW A) := by
  refine snoc_ind (P := fun A : List (β × Cx) => US A = starS (UW A)) star_con.symm (fun A x ih => ?_) A
  rw [US_snoc, UW_snoc, star_mul, ih]
theorem mul_scale (c z : Cx) (Y : Se) : mulS (fun k => c * Y k) z = fun k => c * mulS Y z k := by
  funext k
  match k with
  | 0 => rfl
  | k + 1 =>
    show c * Y (k + 1) + c * Y k * sg k z = c * (Y (k + 1) + Y k * sg k z)
    grind
theorem ch_US : ∀ (A B : List (β × Cx)) (Y : Se), (∀ x ∈ A, f x.1 = true) → (∀ x ∈ B, f x.1 = false) → Up (1 + cnt f (A ++ B)) Y → Ch f (A ++ B) 0 Y → ∀ k, Y k = Y 0 * US A k
  | [], B, Y, _, hB, hu, _ => by
    have e : cnt f B = 0 := by
      unfold cnt
      rw [List.filter_eq_nil_iff.mpr (fun x hx => by simp [hB x hx])]
      rfl
    rw [List.nil_append, e] at hu
    intro k
    match k with
    | 0 => show Y 0 = Y 0 * 1; grind
    | k + 1 =>
      show Y (k + 1) = Y 0 * 0
      rw [hu (k + 1) (by omega)]; grind
  | x :: A, B, Y, hA, hB, hu, hc => by
    simp only [List.cons_append, Ch, hA x (List.mem_cons_self ..), if_true] at hc
    obtain ⟨h1, h2⟩ := hc
    have ih := ch_US A B (divS Y x.2) (fun y hy => hA y (List.mem_cons_of_mem _ hy)) hB (fun k hk => h1 k (by omega)) h2
    intro k
    have e : Y = mulS (divS Y x.2) (-x.2) := (mul_div Y x.2).symm
    have e2 : divS Y x.2 = fun k => Y 0 * US A k := by
      funext k
      rw [ih k]; rfl
    have e3 : Y k = mulS (divS Y x.2) (-x.2) k := congrFun e k
    rw [e3, e2, mul_scale]
    rfl
/-- the coefficients of what is ahead of a corner are small too -/
theorem US_small {D : Int} (hD : D ≠ 0) {R B : Nat} {rs A T : List (β × Cx)} (hz : ∀ r ∈ rs, SzZ D R r.2) (hf : fits R B (marks f rs) = true) (hw : Way rs (A ++ T)) (hA : ∀ x ∈ A, f x.1 = true) (hT : ∀ x ∈ T, f x.1 = false) (k : Nat) : Small (D ^ k) B (B * R ^ k) (US A k) := by
  obtain ⟨Z, ⟨k0, hk⟩, up, ch, sz⟩ := small hD hz hf
  have chw := ch_way hw (fun k hk => up k (by omega)) ch
  have upw : Up (1 + cnt f (A ++ T)) Z := by rw [way_cnt hw]; exact up
  have h0 : Z 0 ≠ 0 := fun e => hk ((ch_end A T Z hA hT upw chw).2 e k0)
  have hZ := ch_US A T Z hA hT upw chw k
  obtain ⟨x, y, ex, ey, hx, hy⟩ := sz 0
  obtain ⟨i, j, ei, ej, hi, hj⟩ := sz k
  rw [Int.pow_zero] at ex ey
  have e1 : (Z 0).re = (x : Rat) := by
    rw [← ex]
    show _ = _ * (1 : Rat)
    grind
  have e2 : (Z 0).im = (y : Rat) := by
    rw [← ey]
    show _ = _ * (1 : Rat)
    grind
  have g1 : (Z k).re = (Z 0).re * (US A k).re - (Z 0).im * (US A k).im := congrArg Cx.re hZ
  have g2 : (Z k).im = (Z 0).re * (US A k).im + (Z 0).im * (US A k).re := congrArg Cx.im hZ
  rw [e1, e2] at g1 g2
  rw [Nat.pow_zero, Nat.mul_one] at hx hy
  refine ⟨x, y, i, j, fun h => h0 ?_, hx, hy, hi, hj, ?_, ?_⟩
  · apply Cx.ext'
    · rw [e1, h.1]; rfl
    · rw [e2, h.2]; rfl
  · rw [← ei, g1]
  · rw [← ej, g2]
theorem UW_way {rs rs' : List (β × Cx)} (h : Way rs rs') : UW rs' = UW rs := by
  induction h with
  | refl => rfl
  | snoc _ s ih =>
    rw [← ih]
    have key : ∀ {rs rs' : List (β × Cx)}, Step1 rs rs' → ∀ Y : Se, rs'.foldl (fun Y x => mulS Y x.2) Y = rs.foldl (fun Y x => mulS Y x.2) Y := fun {rs rs'} s => by
      induction s with
      | here t => exact fun Y => by simp only [List.foldl_cons]; rw [mul_mul t.s t.p]
      | skip _ ih => exact fun Y => by simp only [List.foldl_cons]; exact ih _
    exact key s _
end
/-! the whole's arrows as a product's -/
def eps (i : Nat) (c : Cx) : Cx := if i / 2 % 2 = 0 then c else -c
def pC (a : Nat) (U : Se) (k : Int) : Cx := if 0 ≤ k ∧ k ≤ (a : Int) ∧ ((a : Int) - k) % 2 = 0 then eps ((a : Int) - k).toNat (U ((a : Int) - k).toNat) else 0
def qC (a : Nat) (U : Se) (k : Int) : Cx := if 0 ≤ k ∧ k ≤ (a : Int) ∧ ((a : Int) - k) % 2 = 1 then eps ((a : Int) - k).toNat (U ((a : Int) - k).toNat) else 0
theorem pC_grow {a : Nat} {U : Se} {z : Cx} (hu : Up (a + 1) U) {k : Int} (h0 : 0 ≤ k) (h1 : k ≤ (a : Int) + 1) : pC (a + 1) (mulS U z) k = pC a U (k - 1) - qC a U k * Cx.cj z := by
  unfold pC qC
  by_cases c : ((a : Int) + 1 - k) % 2 = 0
  · rw [if_pos ⟨h0, by omega, by omega⟩]
    obtain ⟨i, hi⟩ : ∃ i : Nat, ((a + 1 : Nat) : Int) - k = (i : Nat) := ⟨(((a + 1 : Nat) : Int) - k).toNat, by omega⟩
    rw [hi, Int.toNat_natCast]
    have hev : i % 2 = 0 := by omega
    by_cases hk : k = 0
    · subst hk
      have e1 : i = a + 1 := by omega
      subst e1
      rw [if_neg (by omega), if_pos ⟨by omega, by omega, by omega⟩]
      have e2 : ((a : Int) - 0).toNat = a := by omega
      rw [e2]
      show eps (a + 1) (U (a + 1) + U a * sg a z) = 0 - eps a (U a) * Cx.cj z
      rw [hu (a + 1) (by omega), sg_odd (by omega)]
      unfold eps
      by_cases c2 : (a + 1) / 2 % 2 = 0
      · rw [if_pos c2, if_neg (by omega)]; grind
      · rw [if_neg c2, if_pos (by omega)]; grind
    · rw [if_pos (⟨by omega, by omega, by omega⟩ : 0 ≤ k - 1 ∧ k - 1 ≤ (a : Int) ∧ ((a : Int) - (k - 1)) % 2 = 0)]
      have e1 : ((a : Int) - (k - 1)).toNat = i := by omega
      rw [e1]
      match i, hi, hev with
      | 0, hi, _ =>
        rw [if_neg (by omega)]
        show eps 0 (U 0) = eps 0 (U 0) - 0 * Cx.cj z
        grind
      | i + 1, hi, hev =>
        rw [if_pos ⟨by omega, by omega, by omega⟩]
        have e2 : ((a : Int) - k).toNat = i := by omega
        rw [e2]
        show eps (i + 1) (U (i + 1) + U i * sg i z) = eps (i + 1) (U (i + 1)) - eps i (U i) * Cx.cj z
        rw [sg_odd (by omega)]
        unfold eps
        by_cases c2 : (i + 1) / 2 % 2 = 0
        · rw [if_pos c2, if_pos c2, if_neg (by omega)]; grind
        · rw [if_neg c2, if_neg c2, if_pos (by omega)]; grind
  · rw [if_neg (by omega), if_neg (by omega), if_neg (by omega)]; grind
theorem qC_grow {a : Nat} {U : Se} {z : Cx} (hu : Up (a + 1) U) {k : Int} (h0 : 0 ≤ k) (h1 : k ≤ (a : Int)) : qC (a + 1) (mulS U z) k = pC a U k * z + qC a U (k - 1) := by
  unfold pC qC
  by_cases c : ((a : Int) + 1 - k) % 2 = 1
  · rw [if_pos ⟨h0, by omega, by omega⟩]
    obtain ⟨i, hi⟩ : ∃ i : Nat, ((a + 1 : Nat) : Int) - k = (i + 1 : Nat) := ⟨((a : Int) - k).toNat, by omega⟩
    rw [hi, Int.toNat_natCast]
    have hev : i % 2 = 0 := by omega
    rw [if_pos (⟨h0, h1, by omega⟩ : 0 ≤ k ∧ k ≤ (a : Int) ∧ ((a : Int) - k) % 2 = 0)]
    have e2 : ((a : Int) - k).toNat = i := by omega
    rw [e2]
    show eps (i + 1) (U (i + 1) + U i * sg i z) = eps i (U i) * z + _
    rw [sg_even (by omega)]
    have e3 : (i + 1) / 2 = i / 2 := by omega
    by_cases hk : k = 0
    · rw [if_neg (by omega), hu (i + 1) (by omega)]
      unfold eps
      rw [e3]
      by_cases c2 : i / 2 % 2 = 0
      · rw [if_pos c2, if_pos c2]; grind
      · rw [if_neg c2, if_neg c2]; grind
    · rw [if_pos ⟨by omega, by omega, by omega⟩]
      have e4 : ((a : Int) - (k - 1)).toNat = i + 1 := by omega
      rw [e4]
      unfold eps
      rw [e3]
      by_cases c2 : i / 2 % 2 = 0
      · rw [if_pos c2, if_pos c2, if_pos c2]; grind
      · rw [if_neg c2, if_neg c2, if_neg c2]; grind
  · rw [if_neg (by omega), if_neg (by omega), if_neg (by omega)]; grind
theorem UW_up {β : Type} (A : List (β × Cx)) : Up (A.length + 1) (UW A) := by
  refine snoc_ind (P := fun A : List (β × Cx) => Up (A.length + 1) (UW A)) ?_ (fun A x ih => ?_) A
  · intro k hk
    match k, hk with
    | k + 1, _ => rfl
  · rw [UW_snoc]
    have := Up.mul ih x.2
    simpa using this
def W0 : List Ar × List Ar := ([((1, 1), (0, 1))], [])
theorem wholeF_snoc : ∀ (A : List Rod) (w : List Ar × List Ar) (r : Rod), wholeF w (A ++ [r]) = (lowG (wholeF w A).1 (wholeF w A).2 r.2, highG (wholeF w A).1 (wholeF w A).2 r.2)
  | [], _, _ => rfl
  | x :: A, w, r => wholeF_snoc A _ r
/-- a whole that is as the product says -/
structure WV (n a : Nat) (U : Se) (w : List Ar × List Ar) : Prop where
  l1 : w.1.length = a + 1
  l2 : w.2.length = a
  g1 : ∀ x ∈ w.1, GA n x
  g2 : ∀ x ∈ w.2, GA n x
  v1 : ∀ k : Int, cx (entF w.1 k) = pC a U k
  v2 : ∀ k : Int, cx (entF w.2 k) = qC a U k
theorem cx_0 : cx A0 = 0 := by
  apply Cx.ext'
  · exact qv_0
  · exact qv_0
theorem cx_made {n k : Nat} {a b : Ar} (ha : GA n a) (hb : GA k b) : cx (madeA a b) = cx a * cx b := Cx.ext' (q_made1 ha hb) (q_made2 ha hb)
theorem cx_off {n k : Nat} {a b : Ar} (ha : GA n a) (hb : GA k b) : cx (offA a b) = cx a - cx b := Cx.ext' (q_off1 ha hb) (q_off2 ha hb)
theorem cx_mate {n : Nat} {a : Ar} (ha : GA n a) : cx (mateA a) = Cx.cj (cx a) := Cx.ext' rfl (q_mate2 ha)
theorem ga_A0 {n : Nat} (hn : 0 < n) : GA n A0 := by
  have : GA 1 A0 := ⟨gd_0, gd_0⟩
  exact this.mono hn
theorem WV.e1 {n a : Nat} {U : Se} {w : List Ar × List Ar} (h : WV n a U w) (hn : 0 < n) (k : Int) : GA n (entF w.1 k) := ent_of h.g1 (ga_A0 hn) k
theorem WV.e2 {n a : Nat} {U : Se} {w : List Ar × List Ar} (h : WV n a U w) (hn : 0 < n) (k : Int) : GA n (entF w.2 k) := ent_of h.g2 (ga_A0 hn) k
theorem ent_map {g : Nat → Ar} {N : Nat} (k : Int) : entF ((List.range N).map g) k = if 0 ≤ k ∧ k < (N : Int) then g k.toNat else A0 := by
  unfold entF
  rw [List.length_map, List.length_range]
  split
  · rename_i c
    have : k.toNat < N := by omega
    rw [List.getD_eq_getElem?_getD, List.getElem?_eq_getElem (by simpa using this)]
    simp
  · rfl
theorem WV.grow {n k a : Nat} {U : Se} {w : List Ar × List Ar} {z : Ar} (h : WV n a U w) (hn : 0 < n) (hu : Up (a + 1) U) (hz : GA k z) : WV (n + (2 * (n + k) + 1) + 1) (a + 1) (mulS U (cx z)) (lowG w.1 w.2 z, highG w.1 w.2 z) := by
  have m1 := fun i => (h.e2 hn i).made hz.mate
  have m2 := fun i => (h.e1 hn i).made hz
  refine ⟨by simp [lowG, h.l1], by simp [highG, h.l2], fun x hx => ?_, fun x hx => ?_, fun i => ?_, fun i => ?_⟩
  · obtain ⟨i, _, rfl⟩ := List.mem_map.mp hx
    exact (h.e1 hn _).off (m1 _)
  · obtain ⟨i, _, rfl⟩ := List.mem_map.mp hx
    exact ((m2 _).sum (h.e2 hn _)).mono (by omega)
  · show cx (entF (lowG w.1 w.2 z) i) = _
    unfold lowG
    rw [ent_map, h.l1]
    split
    · rename_i c
      have e : (i.toNat : Int) = i := by omega
      rw [e, cx_off (h.e1 hn _) (m1 _), cx_made (h.e2 hn _) hz.mate, cx_mate hz, h.v1, h.v2, pC_grow hu (by omega) (by omega)]
    · rename_i c
      rw [cx_0]
      unfold pC
      rw [if_neg (by omega)]
  · show cx (entF (highG w.1 w.2 z) i) = _
    unfold highG
    rw [ent_map, h.l2]
    split
    · rename_i c
      have e : (i.toNat : Int) = i := by omega
      rw [e, cx_sum (m2 _) (h.e2 hn _), cx_made (h.e1 hn _) hz, h.v1, h.v2, qC_grow hu (by omega) (by omega)]
    · rename_i c
      rw [cx_0]
      unfold qC
      by_cases c2 : i = (a : Int) + 1
      · rw [if_neg (by omega)]
      · rw [if_neg (by omega)]
theorem WV.zero : WV 1 0 (conS 1) W0 := by
  refine ⟨rfl, rfl, fun x hx => ?_, by simp [W0], fun k => ?_, fun k => ?_⟩
  · rw [List.mem_singleton.mp hx]
    exact ⟨gd_1, gd_0⟩
  · unfold entF pC
    by_cases c : k = 0
    · subst c
      rw [if_pos (by simp [W0])]
      show cx ((1, 1), (0, 1)) = eps 0 1
      apply Cx.ext'
      · show qv (1, 1) = 1
        rw [qv_int]; rfl
      · exact qv_0
    · rw [if_neg (by simp [W0]; omega), if_neg (by omega), cx_0]
  · unfold entF qC
    rw [if_neg (by simp [W0]), if_neg (by omega), cx_0]
/-- a small number over its under -/
theorem small_fr {n g : Nat} {a : Ar} {c : Cx} {D : Int} {P Q b : Nat} (hl1 : Lo a.1) (hl2 : Lo a.2) (hc : cx a = c ∨ cx a = -c ∨ cx a = Cx.cj c ∨ cx a = -Cx.cj c) (hD : 0 < D) (hs : Small D P Q c) (hP : P < 2 ^ g) (hQ : Q < 2 ^ b) (hDl : D.natAbs < 2 ^ n) : ∃ N, 0 < N ∧ N < 2 ^ (2 * g + 1 + n) ∧ FrA N (b + g + 1) a := by
  obtain ⟨x, y, i, j, h0, hx, hy, hi, hj, e, f⟩ := hs
  have hx : x.natAbs < 2 ^ g := by omega
  have hy : y.natAbs < 2 ^ g := by omega
  have hi : i.natAbs < 2 ^ b := by omega
  have hj : j.natAbs < 2 ^ b := by omega
  obtain ⟨n0, ne⟩ := sq_nat h0
  have b1 := c_add (c_mul hx hx) (c_mul hy hy)
  rw [show g + g + 1 = 2 * g + 1 by omega] at b1
  have eN : ((((x * x + y * y).natAbs * D.natAbs : Nat)) : Int) = (x * x + y * y) * D := by
    rw [Int.natCast_mul, ne]
    have : ((D.natAbs : Nat) : Int) = D := by omega
    rw [this]
  have r1 : c.re * (((x * x + y * y) * D : Int) : Rat) = ((i * x + j * y : Int) : Rat) := by
    rw [Rat.intCast_mul, Rat.intCast_add, Rat.intCast_mul, Rat.intCast_mul, Rat.intCast_add, Rat.intCast_mul, Rat.intCast_mul, ← e, ← f]; grind
  have r2 : c.im * (((x * x + y * y) * D : Int) : Rat) = ((j * x - i * y : Int) : Rat) := by
    rw [Rat.intCast_mul, Rat.intCast_add, Rat.intCast_mul, Rat.intCast_mul, Rat.intCast_sub, Rat.intCast_mul, Rat.intCast_mul, ← e, ← f]; grind
  have s1 := c_add (c_mul hi hx) (c_mul hj hy)
  have s2 := c_sub (c_mul hj hx) (c_mul hi hy)
  have neg1 : (-c).re = -c.re := rfl
  have neg2 : (-c).im = -c.im := rfl
  refine ⟨(x * x + y * y).natAbs * D.natAbs, Nat.mul_pos n0 (by omega), ?_, ⟨hl1, ?_⟩, ⟨hl2, ?_⟩⟩
  · rw [Nat.pow_add]
    exact Nat.mul_lt_mul_of_lt_of_lt b1 hDl
  · rw [eN]
    have hre : qv a.1 = c.re ∨ qv a.1 = -c.re := by
      rcases hc with h | h | h | h
      · exact .inl (congrArg Cx.re h)
      · exact .inr (congrArg Cx.re h)
      · exact .inl (congrArg Cx.re h)
      · exact .inr (congrArg Cx.re h)
    rcases hre with h | h
    · exact ⟨i * x + j * y, by rw [h]; exact r1, s1⟩
    · exact ⟨-(i * x + j * y), by rw [h, Rat.intCast_neg, ← r1]; grind, by rw [Int.natAbs_neg]; exact s1⟩
  · rw [eN]
    have him : qv a.2 = c.im ∨ qv a.2 = -c.im := by
      rcases hc with h | h | h | h
      · exact .inl (congrArg Cx.im h)
      · exact .inr (congrArg Cx.im h)
      · exact .inr (congrArg Cx.im h)
      · exact .inl ((congrArg Cx.im h).trans (by show -(-c.im) = c.im; grind))
    rcases him with h | h
    · exact ⟨j * x - i * y, by rw [h]; exact r2, s2⟩
    · exact ⟨-(j * x - i * y), by rw [h, Rat.intCast_neg, ← r2]; grind, by rw [Int.natAbs_neg]; exact s2⟩
theorem star_cases (U : Se) (k : Nat) : U k = starS U k ∨ U k = -starS U k ∨ U k = Cx.cj (starS U k) ∨ U k = -Cx.cj (starS U k) := by
  unfold starS
  split
  · exact .inr (.inr (.inl (Cx.cj_cj _).symm))
  · exact .inr (.inl (by grind))
theorem ent_cases {a : Nat} {U : Se} (i : Int) : (pC a U i = 0 ∨ ∃ k ≤ a, pC a U i = U k ∨ pC a U i = -U k) ∧ (qC a U i = 0 ∨ ∃ k ≤ a, qC a U i = U k ∨ qC a U i = -U k) := by
  constructor
  · unfold pC eps
    split
    · refine .inr ⟨((a : Int) - i).toNat, by omega, ?_⟩
      split
      · exact .inl rfl
      · exact .inr rfl
    · exact .inl rfl
  · unfold qC eps
    split
    · refine .inr ⟨((a : Int) - i).toNat, by omega, ?_⟩
      split
      · exact .inl rfl
      · exact .inr rfl
    · exact .inl rfl
/-! every whole on the way is small, and the whole stays -/
theorem ent_size {rs0 A T : List Rod} (h : Good 3 rs0) (hr : Rea rs0 (A ++ T)) {a : Ar} {k : Nat} (hk : k ≤ 8) (l1 : Lo a.1) (l2 : Lo a.2) (e : cx a = UW (A.map cr) k ∨ cx a = -UW (A.map cr) k) : GA 604 a := by
  obtain ⟨lo, w, _, _⟩ := hr.lo h.loR
  rw [List.map_append] at w
  have sm := US_small (D := 420) (by decide) (R := RB) (B := BB) (rs := rs0.map cr) (f := inL (A.map (·.1))) (fun r hr => by
    obtain ⟨q, hq, rfl⟩ := List.mem_map.mp hr
    exact szz (h.ar q hq).1) (fits_8 (by simp [marks]; exact h.l8)) w (fun x hx => by
      obtain ⟨q, hq, rfl⟩ := List.mem_map.mp hx
      exact decide_eq_true (List.mem_map.mpr ⟨q, hq, rfl⟩)) (fun x hx => by
      obtain ⟨q, hq, rfl⟩ := List.mem_map.mp hx
      exact decide_eq_false (names_split lo.nd _ (List.mem_map.mpr ⟨q, hq, rfl⟩))) k
  rw [US_star] at sm
  have hc : cx a = starS (UW (A.map cr)) k ∨ cx a = -starS (UW (A.map cr)) k ∨ cx a = Cx.cj (starS (UW (A.map cr)) k) ∨ cx a = -Cx.cj (starS (UW (A.map cr)) k) := by
    have := star_cases (UW (A.map cr)) k
    generalize starS (UW (A.map cr)) k = s at *
    generalize UW (A.map cr) k = u at *
    rcases this with rfl | rfl | rfl | rfl
    · rcases e with e | e
      · exact .inl e
      · exact .inr (.inl e)
    · rcases e with e | e
      · exact .inr (.inl e)
      · exact .inl (by rw [e]; grind)
    · rcases e with e | e
      · exact .inr (.inr (.inl e))
      · exact .inr (.inr (.inr e))
    · rcases e with e | e
      · exact .inr (.inr (.inr e))
      · exact .inr (.inr (.inl (by rw [e]; grind)))
  have hR : RB ^ k ≤ RB ^ 8 := Nat.pow_le_pow_right (by decide) hk
  have hQ : BB * RB ^ k < 2 ^ 352 := Nat.lt_of_le_of_lt (Nat.mul_le_mul_left _ hR) (by unfold BB RB; decide)
  have hD : (420 : Int) ^ k = ((420 ^ k : Nat) : Int) := by simp
  have hD2 : 420 ^ k ≤ 420 ^ 8 := Nat.pow_le_pow_right (by decide) hk
  have hD3 : 0 < 420 ^ k := Nat.pow_pos (by decide)
  rw [hD] at sm
  obtain ⟨N, n0, nb, f⟩ := small_fr (n := 70) (g := 251) (b := 352) l1 l2 hc (by omega) sm (by unfold BB; decide) hQ (by rw [Int.natAbs_natCast]; exact Nat.lt_of_le_of_lt hD2 (by decide))
  exact f.ga n0 (Nat.lt_of_lt_of_le nb (Nat.pow_le_pow_right (by decide) (by decide))) (Nat.le_refl _)
theorem ent_zero {a : Ar} (l1 : Lo a.1) (l2 : Lo a.2) (e : cx a = 0) : GA 604 a := by
  have h1 : qv a.1 = 0 := congrArg Cx.re e
  have h2 : qv a.2 = 0 := congrArg Cx.im e
  have e1 : a.1 = (0, 1) := qv_inj l1 (by exact ⟨by decide, by decide⟩) (h1.trans qv_0.symm)
  have e2 : a.2 = (0, 1) := qv_inj l2 (by exact ⟨by decide, by decide⟩) (h2.trans qv_0.symm)
  have : a = A0 := Prod.ext e1 e2
  rw [this]
  exact ga_A0 (by decide)
theorem mem_ent {P : List Ar} {a : Ar} (h : a ∈ P) : ∃ i : Int, a = entF P i := by
  obtain ⟨k, hk, rfl⟩ := List.mem_iff_getElem.mp h
  refine ⟨(k : Nat), ?_⟩
  unfold entF
  rw [if_pos ⟨by omega, by omega⟩, Int.toNat_natCast, List.getD_eq_getElem?_getD, List.getElem?_eq_getElem hk]
  rfl
theorem WV.tight {rs0 A T : List Rod} {n : Nat} {w : List Ar × List Ar} (h : Good 3 rs0) (hr : Rea rs0 (A ++ T)) (v : WV n A.length (UW (A.map cr)) w) : WV 604 A.length (UW (A.map cr)) w := by
  have hl : A.length ≤ 8 := by
    have := (hr.lo h.loR).2.2.2
    have := h.l8
    rw [List.length_append] at *
    omega
  refine ⟨v.l1, v.l2, fun x hx => ?_, fun x hx => ?_, v.v1, v.v2⟩
  · have g := v.g1 x hx
    obtain ⟨i, rfl⟩ := mem_ent hx
    have e := v.v1 i
    rcases (ent_cases (a := A.length) (U := UW (A.map cr)) i).1 with c | ⟨k, hk, c⟩
    · exact ent_zero g.1.2 g.2.2 (e.trans c)
    · exact ent_size (k := k) h hr (by omega) g.1.2 g.2.2 (by rw [e]; exact c)
  · have g := v.g2 x hx
    obtain ⟨i, rfl⟩ := mem_ent hx
    have e := v.v2 i
    rcases (ent_cases (a := A.length) (U := UW (A.map cr)) i).2 with c | ⟨k, hk, c⟩
    · exact ent_zero g.1.2 g.2.2 (e.trans c)
    · exact ent_size (k := k) h hr (by omega) g.1.2 g.2.2 (by rw [e]; exact c)
theorem whole_pre {rs0 : List Rod} (h : Good 3 rs0) (A : List Rod) : ∀ T, Rea rs0 (A ++ T) → WV 604 A.length (UW (A.map cr)) (wholeF W0 A) := by
  refine snoc_ind (P := fun A : List Rod => ∀ T, Rea rs0 (A ++ T) → WV 604 A.length (UW (A.map cr)) (wholeF W0 A)) (fun T hr => ?_) (fun A x ih T hr => ?_) A
  · exact WV.tight (A := []) h hr WV.zero
  · have e : A ++ [x] ++ T = A ++ x :: T := by simp
    have v := ih (x :: T) (e ▸ hr)
    have gx := rea_ar h hr x (by simp)
    have hu : Up (A.length + 1) (UW (A.map cr)) := by
      have := UW_up (A.map cr)
      rwa [List.length_map] at this
    have g := v.grow (by decide) hu gx
    refine WV.tight (n := 604 + (2 * (604 + 1020) + 1) + 1) h hr ?_
    rw [wholeF_snoc, List.map_append, List.map_cons, List.map_nil, UW_snoc, List.length_append]
    exact g
theorem ent_list {P Q : List Ar} (hl : P.length = Q.length) (h : ∀ i, entF P i = entF Q i) : P = Q := by
  refine List.ext_getElem hl fun k h1 h2 => ?_
  have := h (k : Nat)
  unfold entF at this
  rw [if_pos ⟨by omega, by omega⟩, if_pos ⟨by omega, by omega⟩, Int.toNat_natCast, List.getD_eq_getElem?_getD, List.getD_eq_getElem?_getD, List.getElem?_eq_getElem h1, List.getElem?_eq_getElem h2] at this
  exact this
theorem WV.uniq {n k a : Nat} {U : Se} {w w' : List Ar × List Ar} (hn : 0 < n) (hk : 0 < k) (v : WV n a U w) (v' : WV k a U w') : w = w' := by
  refine Prod.ext (ent_list (v.l1.trans v'.l1.symm) fun i => ?_) (ent_list (v.l2.trans v'.l2.symm) fun i => ?_)
  · have e : cx (entF w.1 i) = cx (entF w'.1 i) := (v.v1 i).trans (v'.v1 i).symm
    exact ar_ext (v.e1 hn i) (v'.e1 hk i) (congrArg Cx.re e) (congrArg Cx.im e)
  · have e : cx (entF w.2 i) = cx (entF w'.2 i) := (v.v2 i).trans (v'.v2 i).symm
    exact ar_ext (v.e2 hn i) (v'.e2 hk i) (congrArg Cx.re e) (congrArg Cx.im e)
/-- trades leave the whole as it is -/
theorem whole_same {rs0 rs : List Rod} (h : Good 3 rs0) (hr : Rea rs0 rs) : wholeF W0 rs = wholeF W0 rs0 := by
  have v := whole_pre h rs [] (by rwa [List.append_nil])
  have v0 := whole_pre h rs0 [] (by rw [List.append_nil]; exact .refl _)
  obtain ⟨_, w, _, l⟩ := hr.lo h.loR
  rw [UW_way w, l] at v
  exact v.uniq (by decide) (by decide) v0
/-! the walk of a whole whose lists stand still -/
theorem p_off_ok {a b : Ar} {n k : Nat} (ha : GA n a) (hb : GA k b) (hn : n + k + 1 ≤ 8900) (m : Ms) : s_off [dA a, dA b] m = .ok (dA (offA a b)) m := by
  refine fn_rt' (m' := m) ?_ rfl rfl
  simp [b_off, less_ok ha.1.1 hb.1.1 hn, less_ok ha.2.1 hb.2.1 hn, offA, dA]
theorem ix_ent {P : List Ar} {k : Int} (h : 0 ≤ k ∧ k < (P.length : Nat)) (m : Ms) : oIx (.lst (P.map dA)) (.int k) m = .ok (dA (entF P k)) m := by
  obtain ⟨j, rfl⟩ : ∃ j : Nat, k = (j : Nat) := ⟨k.toNat, by omega⟩
  have hj : j < P.length := by omega
  unfold entF
  rw [if_pos h, ix_at (by simpa using hj), List.getElem_map, Int.toNat_natCast, List.getD_eq_getElem?_getD, List.getElem?_eq_getElem hj]
  rfl
theorem ent_no {P : List Ar} {k : Int} (h : ¬ (0 ≤ k ∧ k < (P.length : Nat))) : entF P k = A0 := by
  unfold entF
  rw [if_neg h]
theorem entry_ok {d : D} {P : List Ar} {k : Int} {m : Ms} (hd : dr m d = .lst (P.map dA)) (hl : P.length ≤ 1000) : s_entry [d, .int k] m = .ok (dA (entF P k)) m := by
  refine fn_rt' (m' := m) ?_ rfl rfl
  have hPl : (P.map dA).length = P.length := List.length_map ..
  by_cases h : 0 ≤ k ∧ k < (P.length : Nat)
  · have e := ix_ent h m
    obtain ⟨h1, h2⟩ := h
    generalize entF P k = c at *
    generalize P.map dA = PP at *
    simp [-o_ixL, b_entry, hd, hPl, h1, h2, e]
  · have e := ent_no h
    rw [e]
    have z0 : c_ORIGIN = dA A0 := rfl
    generalize P.map dA = PP at *
    by_cases h1 : 0 ≤ k
    · have h2 : ¬ k < (P.length : Nat) := fun z => h ⟨h1, z⟩
      simp [b_entry, hd, hPl, h1, h2, z0]
    · simp [b_entry, hd, hPl, h1, z0]
theorem rng_map {f : Int → Ar} {n : Nat} : (rngD 0 n).map (fun d => match d with | .int i => dA (f i) | _ => .non) = ((List.range n).map fun k : Nat => f (k : Int)).map dA := by
  unfold rngD
  rw [List.map_map, List.map_map]
  refine List.map_congr_left fun k _ => ?_
  have e : (0 : Int) + (k : Nat) = (k : Nat) := by omega
  simp only [Function.comp_def, e]
theorem as_cf (n : Nat) (cs : List Ar) : D.cfs n (cs.map dA) = true := cfs_all fun d hd => by
  obtain ⟨r, _, rfl⟩ := List.mem_map.mp hd
  rfl
theorem grown_by_ok {a : Nat} {U : Se} {w : List Ar × List Ar} {z : Ar} {m : Ms} (hw : WV 604 a U w) (hk : a ≤ 8) (hz : GA 1020 z) : s_grown_by [.tup [.lst (w.1.map dA), .lst (w.2.map dA)], dA z] m = .ok (.tup [.lst ((lowG w.1 w.2 z).map dA), .lst ((highG w.1 w.2 z).map dA)]) m := by
  have g1 := hw.e1 (by decide)
  have g2 := hw.e2 (by decide)
  have l1 := hw.l1
  have l2 := hw.l2
  have em := fun m => mate_ok hz (by decide) m
  have lowL : ∀ (o2 o3 : Option D), lcL finL (gN 6) xYes v_grown_by_1 [some (.tup [.lst (w.1.map dA), .lst (w.2.map dA)]), some (dA z), o2, o3, some (.lst (w.1.map dA)), some (.lst (w.2.map dA)), none] (rngD 0 (a + 2)) m [] = finL m ((lowG w.1 w.2 z).map dA) := fun o2 o3 => by
    rw [lcL_map (F := fun d => match d with | .int i => dA (offA (entF w.1 (i - 1)) (madeA (entF w.2 i) (mateA z))) | _ => .non)]
    · rw [rng_map, List.nil_append]
      unfold lowG
      rw [l1]
    · intro d hd
      obtain ⟨i, hi, rfl⟩ := List.mem_map.mp hd
      have e0 : (0 : Int) + (i : Nat) = (i : Nat) := by omega
      rw [e0]
      refine ⟨[some (.tup [.lst (w.1.map dA), .lst (w.2.map dA)]), some (dA z), o2, o3, some (.lst (w.1.map dA)), some (.lst (w.2.map dA)), some (.int (i : Nat))], rfl, ?_⟩
      have a1 := entry_ok (d := .lst (w.1.map dA)) (m := m) (k := (i : Int) - 1) rfl (by omega)
      have a2 := entry_ok (d := .lst (w.2.map dA)) (m := m) (k := (i : Int)) rfl (by omega)
      have gm := (g2 (i : Int)).made hz.mate
      have a3 := made_ok (g2 (i : Int)) hz.mate (by decide) m
      have a4 := p_off_ok (g1 ((i : Int) - 1)) gm (by decide) m
      simp only
      generalize offA (entF w.1 ((i : Int) - 1)) (madeA (entF w.2 (i : Int)) (mateA z)) = R1 at *
      generalize madeA (entF w.2 (i : Int)) (mateA z) = R2 at *
      generalize entF w.1 ((i : Int) - 1) = R3 at *
      generalize entF w.2 (i : Int) = R4 at *
      generalize w.1.map dA = P1 at *
      generalize w.2.map dA = P2 at *
      simp [v_grown_by_1, a1, a2, em, a3, a4]
  have highL : ∀ (o2 o3 : Option D), lcL finL (gN 6) xYes v_grown_by_2 [some (.tup [.lst (w.1.map dA), .lst (w.2.map dA)]), some (dA z), o2, o3, some (.lst (w.1.map dA)), some (.lst (w.2.map dA)), none] (rngD 0 (a + 1)) m [] = finL m ((highG w.1 w.2 z).map dA) := fun o2 o3 => by
    rw [lcL_map (F := fun d => match d with | .int i => dA (sumA (madeA (entF w.1 i) z) (entF w.2 (i - 1))) | _ => .non)]
    · rw [rng_map, List.nil_append]
      unfold highG
      rw [l2]
    · intro d hd
      obtain ⟨i, hi, rfl⟩ := List.mem_map.mp hd
      have e0 : (0 : Int) + (i : Nat) = (i : Nat) := by omega
      rw [e0]
      refine ⟨[some (.tup [.lst (w.1.map dA), .lst (w.2.map dA)]), some (dA z), o2, o3, some (.lst (w.1.map dA)), some (.lst (w.2.map dA)), some (.int (i : Nat))], rfl, ?_⟩
      have a1 := entry_ok (d := .lst (w.2.map dA)) (m := m) (k := (i : Int) - 1) rfl (by omega)
      have a2 := entry_ok (d := .lst (w.1.map dA)) (m := m) (k := (i : Int)) rfl (by omega)
      have gm := (g1 (i : Int)).made hz
      have a3 := made_ok (g1 (i : Int)) hz (by decide) m
      have a4 := summed_ok gm (g2 ((i : Int) - 1)) (by decide) m
      simp only
      generalize sumA (madeA (entF w.1 (i : Int)) z) (entF w.2 ((i : Int) - 1)) = R1 at *
      generalize madeA (entF w.1 (i : Int)) z = R2 at *
      generalize entF w.2 ((i : Int) - 1) = R3 at *
      generalize entF w.1 (i : Int) = R4 at *
      generalize w.1.map dA = P1 at *
      generalize w.2.map dA = P2 at *
      simp [v_grown_by_2, a1, a2, a3, a4]
  have hL := lowL none none
  have hH := highL (some (.lst ((lowG w.1 w.2 z).map dA))) none
  have cL := as_cf m.length (lowG w.1 w.2 z)
  have cH := as_cf m.length (highG w.1 w.2 z)
  have r1 : (rngD 0 (a + 2)).length ≤ 100000 := by simp [rngD]; omega
  have r2 : (rngD 0 (a + 1)).length ≤ 100000 := by simp [rngD]; omega
  have p1 : (w.1.map dA).length = a + 1 := by simp [l1]
  have p2 : (w.2.map dA).length = a := by simp [l2]
  refine fn_rt' (m' := m) ?_ (by simp [cL, cH]) rfl
  show b_grown_by [some (.tup [.lst (w.1.map dA), .lst (w.2.map dA)]), some (dA z), none, none, none, none, none] m = _
  generalize (lowG w.1 w.2 z).map dA = LL at *
  generalize (highG w.1 w.2 z).map dA = HH at *
  generalize w.1.map dA = P1 at *
  generalize w.2.map dA = P2 at *
  have z1 : (((a : Nat) : Int) + 1 + 1).toNat = a + 2 := by omega
  have z2 : (((a : Nat) : Int) + 1).toNat = a + 1 := by omega
  have z3 : -100000 ≤ ((a : Nat) : Int) + 1 + 1 ∧ ((a : Nat) : Int) + 1 + 1 ≤ 100000 := by omega
  have z4 : -100000 ≤ ((a : Nat) : Int) + 1 ∧ ((a : Nat) : Int) + 1 ≤ 100000 := by omega
  unfold b_grown_by
  refine seq_nx (σ1 := [some (.tup [.lst P1, .lst P2]), some (dA z), none, none, some (.lst P1), some (.lst P2), none]) (m1 := m) (by simp [gT]) ?_
  refine seq_nx (σ1 := [some (.tup [.lst P1, .lst P2]), some (dA z), some (.lst LL), none, some (.lst P1), some (.lst P2), none]) (m1 := m) ?_ ?_
  · clear hH lowL highL
    simp [p1, z1, z3.1, z3.2, r1, wipeD, hL, finL]
  refine seq_nx (σ1 := [some (.tup [.lst P1, .lst P2]), some (dA z), some (.lst LL), some (.lst HH), some (.lst P1), some (.lst P2), none]) (m1 := m) ?_ ?_
  · clear hL lowL highL
    simp [p2, z2, z4.1, z4.2, r2, wipeD, hH, finL]
  · simp
def wD (w : List Ar × List Ar) : D := .tup [.lst (w.1.map dA), .lst (w.2.map dA)]
theorem whole_loop {rs0 : List Rod} (h : Good 3 rs0) {x0 : Option D} {m : Ms} : ∀ (B A : List Rod) (o2 o3 : Option D), Rea rs0 (A ++ B) →
    ∃ p2 p3, forL (gT 2 (gCons (gN 2) (gCons (gN 3) gNil))) w_whole_of_1 (B.map dR) [x0, some (wD (wholeF W0 A)), o2, o3] m = .nx [x0, some (wD (wholeF W0 (A ++ B))), p2, p3] m
  | [], A, o2, o3, _ => ⟨o2, o3, by rw [List.append_nil]; rfl⟩
  | r :: B, A, o2, o3, hr => by
    have v := whole_pre h A (r :: B) hr
    have gz := rea_ar h hr r (by simp)
    have hl : A.length ≤ 8 := by
      have := (hr.lo h.loR).2.2.2
      have := h.l8
      rw [List.length_append] at *
      omega
    have e := grown_by_ok (m := m) v hl gz
    have ea : A ++ r :: B = A ++ [r] ++ B := by simp
    have hr' := hr
    rw [ea] at hr'
    obtain ⟨p2, p3, ih⟩ := whole_loop h (x0 := x0) (m := m) B (A ++ [r]) (some (.str r.1)) (some (dA r.2)) hr'
    refine ⟨p2, p3, ?_⟩
    rw [ea, ← ih, wholeF_snoc]
    obtain ⟨y, z⟩ := r
    simp only at e gz ⊢
    have hgt : (gT 2 (gCons (gN 2) (gCons (gN 3) gNil))) (dR (y, z)) [x0, some (wD (wholeF W0 A)), o2, o3] m = some ([x0, some (wD (wholeF W0 A)), some (.str y), some (dA z)], m) := by
      generalize wD (wholeF W0 A) = W
      simp [gT, dR]
    rw [List.map_cons, forL_cons, hgt]
    simp only
    have hb : w_whole_of_1 [x0, some (wD (wholeF W0 A)), some (.str y), some (dA z)] m = .nx [x0, some (wD (lowG (wholeF W0 A).1 (wholeF W0 A).2 z, highG (wholeF W0 A).1 (wholeF W0 A).2 z)), some (.str y), some (dA z)] m := by
      unfold wD
      simp only
      generalize (lowG (wholeF W0 A).1 (wholeF W0 A).2 z).map dA = LL at *
      generalize (highG (wholeF W0 A).1 (wholeF W0 A).2 z).map dA = HH at *
      generalize (wholeF W0 A).1.map dA = P1 at *
      generalize (wholeF W0 A).2.map dA = P2 at *
      simp [w_whole_of_1, e]
    rw [hb]
    simp only [oLoop_nx]
theorem wD_cf (n : Nat) (w : List Ar × List Ar) : (wD w).cf n = true := by
  have c1 := as_cf n w.1
  have c2 := as_cf n w.2
  simp [wD, c1, c2]
theorem whole_of_ok {rs0 rs : List Rod} (h : Good 3 rs0) (hr : Rea rs0 rs) (m : Ms) : s_whole_of [.lst (rs.map dR)] m = .ok (wD (wholeF W0 rs0)) m := by
  obtain ⟨p2, p3, e⟩ := whole_loop h (x0 := some (.lst (rs.map dR))) (m := m) rs [] none none hr
  rw [List.nil_append, whole_same h hr] at e
  refine fn_rt' (m' := m) ?_ (wD_cf _ _) rfl
  show b_whole_of [some (.lst (rs.map dR)), none, none, none] m = _
  have c0 : c_LONE = dA ((1, 1), (0, 1)) := rfl
  have e0 : wD (wholeF W0 []) = .tup [.lst [dA ((1, 1), (0, 1))], .lst []] := rfl
  rw [e0] at e
  generalize wD (wholeF W0 rs0) = W at *
  generalize rs.map dR = PR at *
  generalize dA ((1, 1), (0, 1)) = L1 at *
  unfold b_whole_of
  refine seq_nx (σ1 := [some (.lst PR), some (.tup [.lst [L1], .lst []]), none, none]) (m1 := m) (by simp [c0]) ?_
  refine seq_nx (σ1 := [some (.lst PR), some W, p2, p3]) (m1 := m) ?_ (by simp)
  simp [e]
/-! trades leave each name its weight -/
theorem fs_weight {n k : Nat} {x y f : Ar} (F : Fs x y f) (hy : GA n y) (hf : GA k f) (hw : (qv x.1 + qv y.1) * (qv x.1 + qv y.1) + (qv x.2 + qv y.2) * (qv x.2 + qv y.2) ≠ 0) : weightA f = weightA y := by
  refine weight_ext hf hy ?_
  have h1 := F.re
  have h2 := F.im
  have key : ((qv x.1 + qv y.1) * (qv x.1 + qv y.1) + (qv x.2 + qv y.2) * (qv x.2 + qv y.2)) * (qv f.1 * qv f.1 + qv f.2 * qv f.2) = ((qv x.1 + qv y.1) * (qv x.1 + qv y.1) + (qv x.2 + qv y.2) * (qv x.2 + qv y.2)) * (qv y.1 * qv y.1 + qv y.2 * qv y.2) := by
    generalize qv x.1 + qv y.1 = p at *
    generalize qv x.2 + qv y.2 = q at *
    generalize qv f.1 = f1 at *
    generalize qv f.2 = f2 at *
    generalize qv y.1 = y1 at *
    generalize qv y.2 = y2 at *
    have e1 : (p * p + q * q) * (f1 * f1 + f2 * f2) = (p * f1 + q * f2) * (p * f1 + q * f2) + (q * f1 - p * f2) * (q * f1 - p * f2) := by grind
    have e2 : (p * p + q * q) * (y1 * y1 + y2 * y2) = (p * y1 + q * y2) * (p * y1 + q * y2) + (p * y2 - q * y1) * (p * y2 - q * y1) := by grind
    rw [e1, e2, h1, h2]
  generalize (qv x.1 + qv y.1) * (qv x.1 + qv y.1) + (qv x.2 + qv y.2) * (qv x.2 + qv y.2) = w at *
  generalize qv f.1 * qv f.1 + qv f.2 * qv f.2 = u at *
  generalize qv y.1 * qv y.1 + qv y.2 * qv y.2 = v at *
  have : w * (u - v) = 0 := by grind
  rcases Rat.mul_eq_zero.mp this with z | z
  · exact absurd z hw
  · grind
def nwG (r : Rod) : Str × Q := (r.1, weightA r.2)
theorem trade_nw {rs rs' : List Rod} {k : Nat} (h : LoR rs) (e : tradeO rs k = some rs') : (rs'.map nwG).Perm (rs.map nwG) := by
  obtain ⟨A, x, y, B, rfl, hA, c, rfl⟩ := trade_cases e
  obtain ⟨n, gx, gy⟩ := two_ga (h.ar x (by simp)) (h.ar y (by simp))
  have hw := sum_w gx gy c
  have w1 := fs_weight (first_fs gx gy c) gy (ga_first gx gy c) hw
  have w2 := fs_weight (second_fs gx gy c) gx (ga_second gx gy c) (by
    rw [Rat.add_comm (qv y.2.1), Rat.add_comm (qv y.2.2)]
    exact hw)
  simp only [List.map_append, List.map_cons]
  refine List.Perm.append_left _ ?_
  have e1 : nwG (y.1, firstA x.2 y.2) = nwG y := by unfold nwG; rw [w1]
  have e2 : nwG (x.1, secondA x.2 y.2) = nwG x := by unfold nwG; rw [w2]
  rw [e1, e2]
  exact List.Perm.swap ..
theorem Rea.nw {rs rs' : List Rod} (h : Rea rs rs') (h0 : LoR rs) : (rs'.map nwG).Perm (rs.map nwG) := by
  induction h with
  | refl => exact .refl _
  | snoc h e ih => exact (trade_nw (h.lo h0).1 e).trans ih
def cornF : Ar → List Rod → List Ar
  | a, [] => [a]
  | a, r :: rs => a :: cornF (sumA a r.2) rs
def endF : Ar → List Rod → Ar
  | a, [] => a
  | a, r :: rs => endF (sumA a r.2) rs
theorem cornF_app : ∀ (rs ss : List Rod) (a : Ar), cornF a (rs ++ ss) = (cornF a rs).take rs.length ++ cornF (endF a rs) ss
  | [], ss, a => by simp [endF]
  | r :: rs, ss, a => by simp [cornF, endF, cornF_app rs ss]
theorem endF_ga {n k : Nat} : ∀ (rs : List Rod) (a : Ar), GA k a → (∀ r ∈ rs, GA n r.2) → GA (k + (n + 1) * rs.length) (endF a rs)
  | [], a, h, _ => by simpa [endF] using h
  | r :: rs, a, h, hr => by
    have := endF_ga (n := n) (k := k + n + 1) rs (sumA a r.2) (h.sum (hr r (List.mem_cons_self ..))) fun q hq => hr q (List.mem_cons_of_mem _ hq)
    refine this.mono ?_
    rw [List.length_cons, Nat.mul_add]
    omega
/-! the corners of a row, and its end -/
theorem ix_last {cs : List Ar} {a : Ar} (m : Ms) : oIx (.lst ((cs ++ [a]).map dA)) (.int (-1)) m = .ok (dA a) m := by
  have : atI ((cs ++ [a]).map dA) (-1) = some (dA a) := by
    unfold atI ixN
    rw [if_neg (by decide)]
    have h1 : (1 : Int) ≤ (cs.length : Int) + 1 := by omega
    have h2 : (-1 + ((cs.length : Int) + 1)).toNat = cs.length := by omega
    simp [h1, h2]
  rw [o_ixL, this]
structure Runs (a : Ar) (rs : List Rod) : Prop where
  c : ∀ q ∈ cornF a rs, GA 2000 q
  r : ∀ r ∈ rs, GA 1400 r.2
theorem Runs.tl {a : Ar} {r : Rod} {rs : List Rod} (h : Runs a (r :: rs)) : Runs (sumA a r.2) rs := ⟨fun q hq => h.c q (List.mem_cons_of_mem _ hq), fun q hq => h.r q (List.mem_cons_of_mem _ hq)⟩
theorem corn_loop {w : Fo} {x0 x1 : Option D} {m : Ms} (hw : ∀ (cs : List Ar) (a : Ar) (z : Str) (b : Ar) (o3 o4 : Option D), GA 2000 a → GA 1400 b → cs.length ≤ 1000 → w [x0, x1, some (.cel m.length), some (.str z), some (dA b)] (m ++ [.l ((cs ++ [a]).map dA)]) = .nx [x0, x1, some (.cel m.length), some (.str z), some (dA b)] (m ++ [.l ((cs ++ [a] ++ [sumA a b]).map dA)])) :
    ∀ (rs : List Rod) (cs : List Ar) (a : Ar) (o3 o4 : Option D), Runs a rs → cs.length + rs.length ≤ 1000 →
    ∃ p3 p4, forL (gT 2 (gCons (gN 3) (gCons (gN 4) gNil))) w (rs.map dR) [x0, x1, some (.cel m.length), o3, o4] (m ++ [.l ((cs ++ [a]).map dA)]) = .nx [x0, x1, some (.cel m.length), p3, p4] (m ++ [.l ((cs ++ cornF a rs).map dA)])
  | [], cs, a, o3, o4, _, _ => ⟨o3, o4, rfl⟩
  | r :: rs, cs, a, o3, o4, h, hl => by
    obtain ⟨z, b⟩ := r
    have hl' : cs.length + (rs.length + 1) ≤ 1000 := hl
    obtain ⟨p3, p4, e⟩ := corn_loop hw rs (cs ++ [a]) (sumA a b) (some (.str z)) (some (dA b)) h.tl (by simp; omega)
    refine ⟨p3, p4, ?_⟩
    have hg : (gT 2 (gCons (gN 3) (gCons (gN 4) gNil))) (dR (z, b)) [x0, x1, some (.cel m.length), o3, o4] (m ++ [.l ((cs ++ [a]).map dA)]) = some ([x0, x1, some (.cel m.length), some (.str z), some (dA b)], m ++ [.l ((cs ++ [a]).map dA)]) := by simp [gT, dR]
    rw [List.map_cons, forL_cons, hg]
    simp only
    rw [hw cs a z b o3 o4 (h.c _ (List.mem_cons_self ..)) (h.r _ (List.mem_cons_self ..)) (by omega)]
    have : cs ++ cornF a ((z, b) :: rs) = cs ++ [a] ++ cornF (sumA a b) rs := by simp [cornF]
    rw [this]
    exact e
theorem corners_of_ok {a : Ar} {rs : List Rod} (h : Runs a rs) (hl : rs.length ≤ 100) (m : Ms) : s_corners_of [.lst (rs.map dR), dA a] m = .ok (.lst ((cornF a rs).map dA)) m := by
  obtain ⟨p3, p4, e⟩ := corn_loop (w := w_corners_of_1) (x0 := some (.lst (rs.map dR))) (x1 := some (dA a)) (m := m) (fun cs a z b o3 o4 ha hb hc => by
    have e1 := ix_last (cs := cs) (a := a)
    have e2 := summed_ok ha hb (by decide)
    have c1 := as_cf 0 (cs ++ [a] ++ [sumA a b])
    have c2 : ((cs ++ [a]).map dA).length < 100000 := by simp; omega
    rw [List.map_append (l₁ := cs ++ [a])] at c1 ⊢
    generalize (cs ++ [a]).map dA = P at *
    simp only [List.map_cons, List.map_nil] at c1 ⊢
    simp [-o_ixL, w_corners_of_1, e1, e2, xMeth, isL, fAppend, c1, c2, List.set_append]) rs [] a none none h (by simp; omega)
  refine fn_new (N := 5) (es := (cornF a rs).map dA) ?_
  simp only [List.nil_append, List.map_cons, List.map_nil] at e
  generalize rs.map dR = P at *
  have cfA : (dA a).cf 0 = true := rfl
  simp [b_corners_of, e]
theorem row_corners_ok {d : D} {rs : List Rod} {a : Ar} {m : Ms} (h : dr m d = insR rs a) (hr : Runs a rs) (hl : rs.length ≤ 100) : s_Row_corners [d] m = .ok (.lst ((cornF a rs).map dA)) m := by
  have e := corners_of_ok hr hl m
  refine fn_rt' (m' := m) ?_ (as_cf _ _) rfl
  simp [b_Row_corners, h, fld_lot, fld_first, e]
theorem pl_nextG {n j : Nat} {L x y : Ar} (hL : GA j L) (hx : GA n x) (hy : GA n y) (h : sumA x y ≠ ((0, 1), (0, 1))) : sumA (sumA L (firstA x y)) (secondA x y) = sumA (sumA L x) y := by
  have f := ga_first hx hy h
  have s := ga_second hx hy h
  obtain ⟨e1, e2⟩ := fs_sum (first_fs hx hy h) (second_fs hx hy h) (sum_w hx hy h)
  refine ar_ext ((hL.sum f).sum s) ((hL.sum hx).sum hy) ?_ ?_
  · rw [q_sum1 (hL.sum f) s, q_sum1 hL f, q_sum1 (hL.sum hx) hy, q_sum1 hL hx]; grind
  · rw [q_sum2 (hL.sum f) s, q_sum2 hL f, q_sum2 (hL.sum hx) hy, q_sum2 hL hx]; grind
theorem endF_app : ∀ (rs ss : List Rod) (a : Ar), endF a (rs ++ ss) = endF (endF a rs) ss
  | [], _, _ => rfl
  | r :: rs, ss, a => by simp [endF, endF_app rs ss]
theorem trade_endF {n j : Nat} {rs rs' : List Rod} {k : Nat} {a : Ar} (ha : GA j a) (hg : ∀ r ∈ rs, GA n r.2) (hk : k + 1 < rs.length) (h : tradeO rs k = some rs') : endF a rs' = endF a rs := by
  obtain ⟨A, x, y, B, rfl, hA⟩ := split_at hk
  rw [tradeO_split hA] at h
  split at h
  · exact absurd h (by simp)
  rename_i c
  cases h
  have hx := hg x (by simp)
  have hy := hg y (by simp)
  have hL := endF_ga (n := n) (k := j) A a ha fun r hr => hg r (by simp [hr])
  rw [List.append_assoc, endF_app A, endF_app A]
  show endF (sumA (sumA (endF a A) (firstA x.2 y.2)) (secondA x.2 y.2)) B = endF (sumA (sumA (endF a A) x.2) y.2) B
  rw [pl_nextG hL hx hy c]
theorem cornF_last (a : Ar) (rs : List Rod) : ∃ cs, cornF a rs = cs ++ [endF a rs] := by
  have := cornF_app rs [] a
  rw [List.append_nil] at this
  exact ⟨_, this⟩
theorem n_corners : Str.ofString "corners" ∉ [Str.ofString "lot", Str.ofString "first"] := by decide +kernel
theorem row_end_ok {d : D} {rs : List Rod} {a : Ar} {m : Ms} (h : dr m d = insR rs a) (hr : Runs a rs) (hl : rs.length ≤ 100) : s_Row_end [d] m = .ok (dA (endF a rs)) m := by
  have e := row_corners_ok h hr hl
  have v0 : xVar 0 [some d] m = .ok d m := ev_var rfl
  have e1 := mth_row (mx := "corners") (g := fun ds es => sel [.p 0] ds [] es) (gS := s_Row_corners) (a := xNil) (kw := xNil) v0 h n_corners
  have e2 : xMth k_Row "corners" (fun ds es => sel [.p 0] ds [] es) s_Row_corners (xVar 0) xNil xNil [some d] m = .ok (.lst ((cornF a rs).map dA)) m := by
    rw [e1]; simp [e]
  obtain ⟨cs, hc⟩ := cornF_last a rs
  have e3 := ix_last (cs := cs) (a := endF a rs) m
  rw [← hc] at e3
  refine fn_rt' (m' := m) ?_ rfl rfl
  show b_Row_end [some d] m = _
  unfold b_Row_end
  generalize xMth k_Row "corners" (fun ds es => sel [.p 0] ds [] es) s_Row_corners (xVar 0) xNil xNil = X at *
  generalize (cornF a rs).map dA = P at *
  simp [-o_ixL, e2, e3]
theorem row_names_ok {d : D} {rs : List Rod} {a : Ar} {m : Ms} (h : dr m d = insR rs a) (hl : rs.length ≤ 100) : s_Row_names [d] m = .ok (.lst ((rs.map (·.1)).map D.str)) m := by
  have key : lcL finL (gT 2 (gCons (gN 1) (gCons (gN 2) gNil))) xYes v_Row_names_1 [some d, none, none] (rs.map dR) m [] = finL m ([] ++ (rs.map dR).map fun d => match d with | .tup [x, _] => x | _ => .non) := lcL_map _ _ fun e he => by
    obtain ⟨r, _, rfl⟩ := List.mem_map.mp he
    obtain ⟨y, b⟩ := r
    exact ⟨[some d, some (.str y), some (dA b)], by simp [gT, dR], by simp [v_Row_names_1, dR]⟩
  have hm : ((rs.map dR).map fun d => match d with | .tup [x, _] => x | _ => .non) = (rs.map (·.1)).map D.str := by simp [Function.comp_def, dR]
  rw [hm, List.nil_append] at key
  have hl2 : (rs.map dR).length ≤ 100000 := by simp; omega
  refine fn_rt' (m' := m) ?_ (strs_cf _ _) rfl
  have hf := fld_lot (rs := rs) (a := a) (m := m)
  generalize (rs.map (·.1)).map D.str = NS at *
  generalize rs.map dR = P at *
  simp [b_Row_names, h, hf, wipeD, hl2, key, finL]
theorem row_weights_ok {d : D} {rs : List Rod} {a : Ar} {m : Ms} (h : dr m d = insR rs a) (hg : ∀ r ∈ rs, GA 1020 r.2) (hl : rs.length ≤ 100) : s_Row_weights [d] m = .ok (.lst (rs.map fun r => dP (weightA r.2))) m := by
  have key : ∀ rs : List Rod, (∀ r ∈ rs, GA 1020 r.2) → ∀ acc : List D, lcL finL (gT 2 (gCons (gN 1) (gCons (gN 2) gNil))) xYes v_Row_weights_1 [some d, none, none] (rs.map dR) m acc = finL m (acc ++ rs.map fun r => dP (weightA r.2)) := by
    intro rs
    induction rs with
    | nil => intro _ acc; simp [lcL]
    | cons r rs ih =>
      intro hg acc
      obtain ⟨y, b⟩ := r
      have e := weight_ok (hg _ (List.mem_cons_self ..)) (by decide) m
      have hgt : (gT 2 (gCons (gN 1) (gCons (gN 2) gNil))) (dR (y, b)) [some d, none, none] m = some ([some d, some (.str y), some (dA b)], m) := by simp [gT, dR]
      have hv : v_Row_weights_1 [some d, some (.str y), some (dA b)] m = .ok (dP (weightA b)) m := by simp [v_Row_weights_1, e]
      rw [List.map_cons, lcL, hgt]
      simp only [ev_yes]
      rw [hv]
      simp only
      rw [ih (fun q hq => hg q (List.mem_cons_of_mem _ hq))]
      simp
  have key := key rs hg []
  rw [List.nil_append] at key
  have hl2 : (rs.map dR).length ≤ 100000 := by simp; omega
  have hcf : D.cfs m.length (rs.map fun r => dP (weightA r.2)) = true := cfs_all fun d hd => by
    obtain ⟨r, _, rfl⟩ := List.mem_map.mp hd
    rfl
  refine fn_rt' (m' := m) ?_ hcf rfl
  have hf := fld_lot (rs := rs) (a := a) (m := m)
  generalize (rs.map fun r => dP (weightA r.2)) = NS at *
  generalize rs.map dR = P at *
  simp [b_Row_weights, h, hf, wipeD, hl2, key, finL]
/-! traded, behind trades -/
theorem traded_flat {d : D} {rs : List Rod} {a : Ar} {m : Ms} {k : Nat} (h : dr m d = insR rs a) (hg : Fine rs) (hg' : ∀ rs', tradeO rs k = some rs' → Good 1020 rs') (hk : k + 1 < rs.length) (ht : tradeO rs k = none) : s_Row_traded [d, .int ((k : Nat) + 1)] m = .ex (xFlat ((k : Nat) + 1)) m := by
  refine fn_ex (σ' := [some d, some (.int ((k : Nat) + 1)), some .non]) ?_ rfl rfl
  have e1 := rods_traded_okF hg hk m
  rw [ht] at e1
  have h1 : (1 : Int) ≤ (k : Nat) + 1 := by omega
  have h2 : ((k : Nat) : Int) + 1 < (rs.length : Int) := by omega
  have h3 : ((k : Nat) : Int) + 1 - 1 = (k : Nat) := by omega
  simp only [tradeD] at e1
  simp [b_Row_traded, h, fld_lot, h1, h2, h3, e1, oIsN, isN, xRaise, fsE, xFlat]
theorem traded_ok {d : D} {rs rs' : List Rod} {a : Ar} {m : Ms} {k : Nat} (h : dr m d = insR rs a) (hg : Fine rs) (hg' : ∀ rs', tradeO rs k = some rs' → Good 1020 rs') (hk : k + 1 < rs.length) (ht : tradeO rs k = some rs') : s_Row_traded [d, .int ((k : Nat) + 1)] m = .ok (insR rs' a) m := by
  have e1 := rods_traded_okF hg hk m
  rw [ht] at e1
  have h1 : (1 : Int) ≤ (k : Nat) + 1 := by omega
  have h2 : ((k : Nat) : Int) + 1 < (rs.length : Int) := by omega
  have h3 : ((k : Nat) : Int) + 1 - 1 = (k : Nat) := by omega
  have e2 := make_row (a := a) (hg' _ ht) m
  simp only [tradeD] at e1
  have hb : b_Row_traded ([d, .int ((k : Nat) + 1)].map some ++ List.replicate (3 - 2) none) m = .rt (.cel m.length) (m ++ [dRow rs' a]) := by
    simp [b_Row_traded, h, fld_lot, fld_first, h1, h2, h3, e1, oIsN, isN, e2]
  unfold s_Row_traded
  rw [fn_rtC (ds := [d, .int ((k : Nat) + 1)]) hb (Nat.le_refl _) (by simp : (m ++ [dRow rs' a])[m.length]? = some (dRow rs' a))]
  simp [dRow, Ce.fz, insR]
/-! the corners of rows behind trades are small, the end stays -/
theorem corn_mem : ∀ {rs : List Rod} {a q : Ar}, q ∈ cornF a rs → ∃ A T, rs = A ++ T ∧ q = endF a A
  | [], a, q, h => ⟨[], [], rfl, by
    have e : q = a := by simpa [cornF] using h
    exact e⟩
  | r :: rs, a, q, h => by
    rcases List.mem_cons.mp h with rfl | h
    · exact ⟨[], r :: rs, rfl, rfl⟩
    · obtain ⟨A, T, rfl, e⟩ := corn_mem h
      exact ⟨r :: A, T, rfl, e⟩
theorem endF_cx : ∀ (rs : List Rod) (a : Ar) (j : Nat), GA j a → (∀ r ∈ rs, ∃ n, GA n r.2) → (∃ n, GA n (endF a rs)) ∧ cx (endF a rs) = cx a + sumC (rs.map cr)
  | [], a, j, h, _ => ⟨⟨j, h⟩, by show cx a = cx a + 0; grind⟩
  | r :: rs, a, j, h, hr => by
    obtain ⟨n, hn⟩ := hr r (List.mem_cons_self ..)
    obtain ⟨h1, h2⟩ := endF_cx rs (sumA a r.2) _ (h.sum hn) fun q hq => hr q (List.mem_cons_of_mem _ hq)
    refine ⟨h1, ?_⟩
    show cx (endF (sumA a r.2) rs) = cx a + (cx r.2 + sumC (rs.map cr))
    rw [h2, cx_sum h hn]; grind
theorem corner_ga {rs0 A T : List Rod} {a : Ar} (h : Good 3 rs0) (ha : GA 3 a) (hr : Rea rs0 (A ++ T)) : GA 600 (endF a A) := by
  have lo := (hr.lo h.loR).1
  obtain ⟨⟨n, gn⟩, e⟩ := endF_cx A a 3 ha fun r hm => lo.ar r (List.mem_append_left _ hm)
  obtain ⟨c, sc, hc⟩ := lot_sum h (A.map (·.1))
  have hA : sumC (A.map cr) = c := hc A T hr (fun _ z => z) (names_split lo.nd)
  rw [hA] at e
  obtain ⟨m, m0, mb, i, j, ei, ej, hi, hj⟩ := small_over (g := 251) (by decide) sc (by unfold BB; decide) (by unfold BB RB; decide) (by decide)
  obtain ⟨p, ep, hp⟩ := szq ha.1
  obtain ⟨q, eq, hq⟩ := szq ha.2
  have r1 : qv (endF a A).1 = qv a.1 + c.re := congrArg Cx.re e
  have r2 : qv (endF a A).2 = qv a.2 + c.im := congrArg Cx.im e
  have eN : (((m * 420 : Nat) : Int) : Rat) = ((m : Nat) : Int) * (((420 : Int)) : Rat) := by
    rw [Int.natCast_mul, Rat.intCast_mul]; rfl
  have hm : ((m : Nat) : Int).natAbs < 2 ^ 503 := by simpa using mb
  have hp' : p.natAbs < 2 ^ 12 := by omega
  have hq' : q.natAbs < 2 ^ 12 := by omega
  have b1 := c_add (n := 516) (Nat.lt_of_lt_of_le (c_mul hp' hm) (Nat.pow_le_pow_right (by decide) (by decide))) hi
  have b2 := c_add (n := 516) (Nat.lt_of_lt_of_le (c_mul hq' hm) (Nat.pow_le_pow_right (by decide) (by decide))) hj
  have f : FrA (m * 420) 517 (endF a A) := by
    refine ⟨⟨gn.1.2, p * (m : Nat) + i, ?_, b1⟩, ⟨gn.2.2, q * (m : Nat) + j, ?_, b2⟩⟩
    · rw [r1, eN, Rat.intCast_add, Rat.intCast_mul, ← ep, ← ei]; grind
    · rw [r2, eN, Rat.intCast_add, Rat.intCast_mul, ← eq, ← ej]; grind
  refine f.ga (by omega) ?_ (by decide)
  have : m * 420 < 2 ^ 503 * 2 ^ 9 := Nat.mul_lt_mul_of_lt_of_lt mb (by decide)
  rw [← Nat.pow_add] at this
  exact Nat.lt_of_lt_of_le this (Nat.pow_le_pow_right (by decide) (by decide))
theorem runs_rea {rs0 rs : List Rod} {a : Ar} (h : Good 3 rs0) (ha : GA 3 a) (hr : Rea rs0 rs) : Runs a rs := by
  refine ⟨fun q hq => ?_, fun r hm => (rea_ar h hr r hm).mono (by decide)⟩
  obtain ⟨A, T, rfl, rfl⟩ := corn_mem hq
  exact (corner_ga h ha hr).mono (by decide)
theorem end_same {rs0 rs : List Rod} {a : Ar} (h : Good 3 rs0) (ha : GA 3 a) (hr : Rea rs0 rs) : endF a rs = endF a rs0 := by
  induction hr with
  | refl => rfl
  | @snoc rs' rs'' k hr e ih =>
    rw [← ih]
    obtain ⟨A, x, y, B, rfl, hA, c, rfl⟩ := trade_cases e
    refine trade_endF (k := k) (n := 1020) ha (rea_ar h hr) ?_ e
    subst hA
    simp
/-! whole -/
theorem n_rods : Str.ofString "rods" ∉ [Str.ofString "lot", Str.ofString "first"] := by decide +kernel
theorem n_names : Str.ofString "names" ∉ [Str.ofString "lot", Str.ofString "first"] := by decide +kernel
theorem n_weights : Str.ofString "weights" ∉ [Str.ofString "lot", Str.ofString "first"] := by decide +kernel
theorem rods_ok {d : D} {rs : List Rod} {a : Ar} {m : Ms} (h : dr m d = insR rs a) : s_Row_rods [d] m = .ok (.lst (rs.map dR)) m := by
  have c0 := dR_cf m.length rs
  refine fn_rt' (m' := m) ?_ (by show D.cfs _ _ = true; exact c0) rfl
  have f := fld_lot (rs := rs) (a := a) (m := m)
  generalize rs.map dR = P at *
  simp [b_Row_rods, h, f, bList]
theorem whole_ok {d : D} {rs0 rs : List Rod} {a : Ar} {m : Ms} (hd : dr m d = insR rs a) (h : Good 3 rs0) (hr : Rea rs0 rs) : s_whole [d] m = .ok (wD (wholeF W0 rs0)) m := by
  have e := whole_of_ok h hr m
  have e1 : xMth k_Row "rods" (fun ds es => sel [.p 0] ds [] es) s_Row_rods (xVar 0) xNil xNil [some d] m = .ok (.lst (rs.map dR)) m := by
    rw [mth_row (ev_var rfl) hd n_rods]
    have := rods_ok (m := m) hd
    simp [this]
  refine fn_rt' (m' := m) ?_ (wD_cf _ _) rfl
  show b_whole [some d] m = _
  unfold b_whole
  generalize xMth k_Row "rods" (fun ds es => sel [.p 0] ds [] es) s_Row_rods (xVar 0) xNil xNil = X1 at *
  generalize wD (wholeF W0 rs0) = W at *
  generalize rs.map dR = PR at *
  simp [e1, e]
theorem pl_As {n : Nat} {u : List Ar} (h : u.length ≤ 1000) : Pl (n + 3) (.lst (u.map dA)) := pl_lst (by simp; omega) fun x hx => by
  obtain ⟨a, _, rfl⟩ := List.mem_map.mp hx
  exact pl_dA
/-! the book of weights -/
theorem strs_map : ∀ zs : List Str, strsOf (zs.map D.str) = some zs
  | [] => rfl
  | z :: zs => by rw [List.map_cons, strsOf, strs_map zs]; rfl
theorem posS_nd : ∀ {ws : List Str} {j : Nat} (_ : ws.Nodup) (hj : j < ws.length), posS ws[j] ws = some j
  | [], _, _, hj => by simp at hj
  | w :: ws, 0, _, _ => by rw [posS]; simp
  | w :: ws, j + 1, nd, hj => by
    have hj' : j < ws.length := by simpa using hj
    have h1 := (List.nodup_cons.mp nd).1
    have hne : ¬ w = (w :: ws)[j + 1] := fun e => h1 (by rw [e]; exact List.getElem_mem hj')
    rw [posS, if_neg hne]
    show (posS ws[j] ws).map (· + 1) = some (j + 1)
    rw [posS_nd (List.nodup_cons.mp nd).2 hj']; rfl
def nwD (r : Rod) : D := .tup [.str r.1, dP (weightA r.2)]
theorem book_item {e : Fn D} {σ : Sd} {m : Ms} {d : D} {rs : List Rod} {a : Ar} {j : Nat} (hj : j < rs.length) (he : e = xTup (xCons (xVar 9) (xCons (xOp oIx (xMth k_Row "weights" (fun ds es => sel [.p 0] ds [] es) s_Row_weights (xVar 3) xNil xNil) (xIdx (xMth k_Row "names" (fun ds es => sel [.p 0] ds [] es) s_Row_names (xVar 3) xNil xNil) (xCons (xVar 9) xNil))) xNil)))
    (h3 : σ[3]? = some (some d)) (h9 : σ[9]? = some (some (.str rs[j].1))) (hd : dr m d = insR rs a) (F : Good 1020 rs) : e σ m = .ok (nwD rs[j]) m := by
  subst he
  have h8 := F.l8
  have v3 : xVar 3 σ m = .ok d m := ev_var h3
  have v9 : xVar 9 σ m = .ok (.str rs[j].1) m := ev_var h9
  have e1 : xMth k_Row "weights" (fun ds es => sel [.p 0] ds [] es) s_Row_weights (xVar 3) xNil xNil σ m = .ok (.lst (rs.map fun r => dP (weightA r.2))) m := by
    rw [mth_row v3 hd n_weights]
    have := row_weights_ok (m := m) hd (fun r hr => (F.ar r hr).1) (by omega)
    simp [this]
  have e2 : xMth k_Row "names" (fun ds es => sel [.p 0] ds [] es) s_Row_names (xVar 3) xNil xNil σ m = .ok (.lst ((rs.map (·.1)).map D.str)) m := by
    rw [mth_row v3 hd n_names]
    have := row_names_ok (m := m) hd (by omega)
    simp [this]
  have hp : posS rs[j].1 (rs.map (·.1)) = some j := by
    have := posS_nd F.nd (j := j) (by simpa using hj)
    rwa [List.getElem_map] at this
  have e3 : oIdx (.lst ((rs.map (·.1)).map D.str)) [.str rs[j].1] m = .ok (.int (j : Nat)) m := by
    unfold oIdx
    simp only [strs_map, hp]
  have e4 : oIx (.lst (rs.map fun r => dP (weightA r.2))) (.int (j : Nat)) m = .ok (dP (weightA rs[j].2)) m := by
    rw [ix_at (by simpa using hj), List.getElem_map]
  have hq : isSq (.lst ((rs.map (·.1)).map D.str)) = true := rfl
  generalize xMth k_Row "weights" (fun ds es => sel [.p 0] ds [] es) s_Row_weights (xVar 3) xNil xNil = X1 at *
  generalize xMth k_Row "names" (fun ds es => sel [.p 0] ds [] es) s_Row_names (xVar 3) xNil xNil = X2 at *
  generalize (rs.map (·.1)).map D.str = NS at *
  generalize (rs.map fun r => dP (weightA r.2)) = WS at *
  unfold nwD
  simp [-o_ixL, v9, e1, e2, hq, e3, e4]
theorem book_lc {v : Fn D} (he : v = xTup (xCons (xVar 9) (xCons (xOp oIx (xMth k_Row "weights" (fun ds es => sel [.p 0] ds [] es) s_Row_weights (xVar 3) xNil xNil) (xIdx (xMth k_Row "names" (fun ds es => sel [.p 0] ds [] es) s_Row_names (xVar 3) xNil xNil) (xCons (xVar 9) xNil))) xNil)))
    {σ : Sd} {m : Ms} {d : D} {rs : List Rod} {a : Ar} (h3 : σ[3]? = some (some d)) (hl : 9 < σ.length) (hd : dr m d = insR rs a) (F : Good 1020 rs) : lcL finL (gN 9) xYes v σ ((rs.map (·.1)).map D.str) m [] = finL m (rs.map nwD) := by
  have key : ∀ n (acc : List D), n ≤ rs.length → lcL finL (gN 9) xYes v σ (((rs.drop (rs.length - n)).map (·.1)).map D.str) m acc = finL m (acc ++ (rs.drop (rs.length - n)).map nwD) := fun n => by
    induction n with
    | zero => intro acc _; rw [Nat.sub_zero, List.drop_length]; simp [lcL]
    | succ n ih =>
      intro acc hn
      have hj : rs.length - (n + 1) < rs.length := by omega
      rw [List.drop_eq_getElem_cons hj]
      have e1 : rs.length - (n + 1) + 1 = rs.length - n := by omega
      rw [e1]
      have hv := book_item (σ := σ.set 9 (some (.str rs[rs.length - (n + 1)].1))) (m := m) hj he (by rw [List.getElem?_set_ne (by decide)]; exact h3) (by rw [List.getElem?_set_self hl]) hd F
      rw [List.map_cons, List.map_cons, lcL]
      have hg : gN 9 (.str rs[rs.length - (n + 1)].1) σ m = some (σ.set 9 (some (.str rs[rs.length - (n + 1)].1)), m) := rfl
      rw [hg]
      simp only [ev_yes]
      rw [hv]
      simp only
      rw [ih _ (by omega)]
      simp
  have := key rs.length [] (Nat.le_refl _)
  rw [Nat.sub_self] at this
  simpa using this
theorem sg_book {rs : List Rod} {n : Nat} (F : Good n rs) : sgOk (rs.map nwD) = true := by
  have h8 := F.l8
  unfold sgOk
  rw [Bool.and_eq_true, Bool.and_eq_true]
  refine ⟨⟨List.all_eq_true.mpr fun d hd => ?_, List.all_eq_true.mpr fun d hd => List.all_eq_true.mpr fun e he => ?_⟩, decide_eq_true (by rw [List.length_map]; omega)⟩
  · obtain ⟨r, hr, rfl⟩ := List.mem_map.mp hd
    have h1 := (F.ok r hr).2
    have z1 : (nwD r).cf 0 = true := rfl
    have z2 : (toP (nwD r)).canLay0 = true := by
      simp [nwD, dP, toP, toPs, PyData.canLay0, PyData.canLayAll0, h1]
    have z3 : decide ((toP (nwD r)).depth ≤ 50) = true := by
      refine decide_eq_true ?_
      simp [nwD, dP, toP, toPs, PyData.depth, PyData.depthAll]
    have z4 : isTP (toP (nwD r)) = true := rfl
    rw [z1, z2, z3, z4]; rfl
  · obtain ⟨r, hr, rfl⟩ := List.mem_map.mp hd
    obtain ⟨q, hq, rfl⟩ := List.mem_map.mp he
    rfl
theorem nw_inj {r q : Rod} (h : PySem.W.keyToks (toP (nwD r)) = PySem.W.keyToks (toP (nwD q))) : nwD r = nwD q := by
  have h : PySem.W.keyToks (.tuple [.str r.1, .tuple [.int (weightA r.2).1, .int (weightA r.2).2]]) = PySem.W.keyToks (.tuple [.str q.1, .tuple [.int (weightA q.2).1, .int (weightA q.2).2]]) := h
  simp only [PySem.W.keyToks, PySem.W.keyToksAll, List.cons_append, List.nil_append, List.cons.injEq, Sum.inr.injEq, Sum.inl.injEq, true_and, and_true] at h
  obtain ⟨h1, h2, h3⟩ := h
  have e1 := PySem.W.str_of_cps h1
  have e2 : weightA r.2 = weightA q.2 := Prod.ext h2 h3
  unfold nwD
  rw [e1, e2]
theorem book_same {rs0 rs : List Rod} (h : Good 3 rs0) (hr : Rea rs0 rs) : sortG (rs.map nwD) = sortG (rs0.map nwD) := by
  have p := (hr.nw h.loR).map fun x : Str × Q => D.tup [.str x.1, dP x.2]
  rw [List.map_map, List.map_map] at p
  refine sortG_eq p fun d hd e he hk => ?_
  obtain ⟨r, _, rfl⟩ := List.mem_map.mp hd
  obtain ⟨q, _, rfl⟩ := List.mem_map.mp he
  exact nw_inj hk
theorem pl_book {n : Nat} {rs : List Rod} (F : Good n rs) : Pl 4 (.lst (sortG (rs.map nwD))) := by
  have h8 := F.l8
  refine pl_lst (by rw [(sortG_perm _).length_eq, List.length_map]; omega) fun d hd => ?_
  obtain ⟨r, hr, rfl⟩ := List.mem_map.mp ((sortG_perm _).mem_iff.mp hd)
  refine pl_tup (by simp) fun y hy => ?_
  simp at hy
  rcases hy with rfl | rfl
  · exact pl_str (F.ok r hr).2
  · exact pl_dP
/-! the law -/
theorem len15 {M : Ms} {d : D} {rs : List Rod} {a : Ar} (hd : dr M d = insR rs a) (hl : rs.length ≤ 1000) : s_Row___len [d] M = .ok (.int (rs.length : Nat)) M := by
  refine fn_rt' (m' := M) ?_ (by simp) rfl
  have f := fld_lot (rs := rs) (a := a) (m := M)
  have hP : (rs.map dR).length = rs.length := List.length_map ..
  generalize rs.map dR = P at *
  simp [b_Row___len, hd, f, hP]
theorem tried15 {rs0 rs : List Rod} {σ : Sd} {ds : Ce} {Rm : Ms} {c : D} {a : Ar} {b : Int} (h1 : σ[1]? = some (some (.cel 0))) (h3 : σ[3]? = some (some c)) (hd : ∀ ds : Ce, dr (ds :: Rm) c = insR rs a) (hg : Good 3 rs0) (hr : Rea rs0 rs) (hl : 2 ≤ rs.length) (hB : Box b ds) (hb : b < 900000000) :
    ∃ (k : Nat) (ds' : Ce), k + 1 < rs.length ∧ Box (b + 1) ds' ∧ xTry nCx hdx y_law_1 σ (ds :: Rm) = .ok (match tradeO rs k with
    | none => .tup [.str "Flat", .int ((k : Nat) + 1)]
    | some rs' => .tup [.str "told", insR rs' a]) (ds' :: Rm) := by
  have F := rea_fine hg hr
  have h8 := F.g.l8
  obtain ⟨r, d1, e1, b1, l1, u1⟩ := draw_ok (many := (rs.length : Int) - 1) (rest := Rm) hB (by omega) (by omega) (by omega)
  obtain ⟨k, rfl⟩ : ∃ k : Nat, r = (k : Nat) := ⟨r.toNat, by omega⟩
  have hk : k + 1 < rs.length := by omega
  refine ⟨k, d1, hk, b1, ?_⟩
  have v1 : ∀ m, xVar 1 σ m = .ok (.cel 0) m := fun m => ev_var h1
  have v3 : ∀ m, xVar 3 σ m = .ok c m := fun m => ev_var h3
  have eL : xLenO k_Row s_Row___len (xCons (xVar 3) xNil) σ (ds :: Rm) = .ok (.int (rs.length : Nat)) (ds :: Rm) := by
    have el := len15 (hd ds) (by omega)
    have z1 : (0 : Int) ≤ (rs.length : Nat) ∧ ((rs.length : Nat) : Int) < 2 ^ 62 := by omega
    rw [ev_lenO, ev_cons, v3]
    simp only [R.bind_ok, ev_nil, hd ds, insR, el]
    rw [if_pos trivial, if_pos z1]
  have et : y_law_1 σ (ds :: Rm) = s_Row_traded [c, .int ((k : Nat) + 1)] (d1 :: Rm) := by
    unfold y_law_1
    rw [mth_row (v3 _) (hd ds) n_traded]
    generalize xLenO k_Row s_Row___len (xCons (xVar 3) xNil) = XL at *
    have e2 : (1 : Int) + (k : Nat) = (k : Nat) + 1 := by omega
    simp [v1, eL, e1, e2]
  have F' : ∀ rs', tradeO rs k = some rs' → Good 1020 rs' := fun rs' e => (rea_fine hg (.snoc hr e)).g
  cases ht : tradeO rs k with
  | none =>
    rw [traded_flat (hd d1) F F' hk ht] at et
    exact try_ex (x := xFlat ((k : Nat) + 1)) et (by show 6 < 7; decide) rfl (by simp)
  | some rs' =>
    rw [traded_ok (hd d1) F F' hk ht] at et
    exact try_ok et
noncomputable def bkD (rs : List Rod) : D := .lst (sortG (rs.map nwD))
theorem mth_names {σ : Sd} {M : Ms} {o : Fn D} {d : D} {rs : List Rod} {a : Ar} (ho : o σ M = .ok d M) (hd : dr M d = insR rs a) (hl : rs.length ≤ 100) : xMth k_Row "names" (fun ds es => sel [.p 0] ds [] es) s_Row_names o xNil xNil σ M = .ok (.lst ((rs.map (·.1)).map D.str)) M := by
  rw [mth_row ho hd n_names]
  have := row_names_ok (m := M) hd hl
  simp [this]
theorem mth_end {σ : Sd} {M : Ms} {o : Fn D} {d : D} {rs : List Rod} {a : Ar} (ho : o σ M = .ok d M) (hd : dr M d = insR rs a) (hr : Runs a rs) (hl : rs.length ≤ 100) : xMth k_Row "end" (fun ds es => sel [.p 0] ds [] es) s_Row_end o xNil xNil σ M = .ok (dA (endF a rs)) M := by
  rw [mth_row ho hd n_end]
  have := row_end_ok (m := M) hd hr hl
  simp [this]
theorem book_ev {v : Fn D} (he : v = xTup (xCons (xVar 9) (xCons (xOp oIx (xMth k_Row "weights" (fun ds es => sel [.p 0] ds [] es) s_Row_weights (xVar 3) xNil xNil) (xIdx (xMth k_Row "names" (fun ds es => sel [.p 0] ds [] es) s_Row_names (xVar 3) xNil xNil) (xCons (xVar 9) xNil))) xNil)))
    {σ : Sd} {m : Ms} {d : D} {rs : List Rod} {a : Ar} (h3 : σ[3]? = some (some d)) (hl : 9 < σ.length) (hd : dr m d = insR rs a) (F : Good 1020 rs) :
    xCalB bSortG (xCons (xLc (xIt (xMth k_Row "names" (fun ds es => sel [.p 0] ds [] es) s_Row_names (xVar 3) xNil xNil)) (gN 9) xYes v [9]) xNil) σ m = .ok (bkD rs) m := by
  have h8 := F.l8
  have e1 := mth_names (σ := σ) (o := xVar 3) (ev_var h3) hd (by omega)
  have lc := book_lc he (σ := wipeD σ [9]) (by
    show (σ.set 9 none)[3]? = _
    rw [List.getElem?_set_ne (by decide)]; exact h3) (by
    show 9 < (σ.set 9 none).length
    rw [List.length_set]; exact hl) hd F
  have sg := sg_book F
  have k1 : ((rs.map (·.1)).map D.str).length ≤ 100000 := by simp; omega
  unfold bkD
  generalize xMth k_Row "names" (fun ds es => sel [.p 0] ds [] es) s_Row_names (xVar 3) xNil xNil = X at *
  generalize (rs.map (·.1)).map D.str = NS at *
  generalize rs.map nwD = BK at *
  simp [e1, k1, lc, finL, sg]
theorem step15 {rs0 rs : List Rod} {x o2 o8 o9 : Option D} {ds : Ce} {Rm : Ms} {c d5 : D} {a : Ar} {b : Int} (hg : Good 3 rs0) (ha : GA 3 a) (hr : Rea rs0 rs) (hl : 2 ≤ rs.length) (hd : ∀ ds : Ce, dr (ds :: Rm) c = insR rs a) (hB : Box b ds) (hb : b < 900000000) :
    ∃ c' rs' p8 ds', w_law_1 [x, some (.cel 0), o2, some c, some (bkD rs0), some d5, some (wD (wholeF W0 rs0)), some (dA (endF a rs0)), o8, o9] (ds :: Rm) = .nx [x, some (.cel 0), o2, some c', some (bkD rs0), some d5, some (wD (wholeF W0 rs0)), some (dA (endF a rs0)), p8, o9] (ds' :: Rm) ∧ Rea rs0 rs' ∧ 2 ≤ rs'.length ∧ (∀ ds : Ce, dr (ds :: Rm) c' = insR rs' a) ∧ Box (b + 1) ds' := by
  obtain ⟨k, d1, hk, b1, t⟩ := tried15 (σ := [x, some (.cel 0), o2, some c, some (bkD rs0), some d5, some (wD (wholeF W0 rs0)), some (dA (endF a rs0)), o8, o9]) rfl rfl hd hg hr hl hB hb
  have v0 := whole_pre hg rs0 [] (by rw [List.append_nil]; exact .refl _)
  have h80 := hg.l8
  have lk : s_l_like 6 [.lst [wD (wholeF W0 rs0), dA (endF a rs0)], .lst [wD (wholeF W0 rs0), dA (endF a rs0)]] (d1 :: Rm) = .ok (.bl true) (d1 :: Rm) := like_ok 5 _ _ (pl_lst (by simp) fun y hy => by
    simp at hy
    rcases hy with rfl | rfl
    · refine pl_tup (by simp) fun y hy => ?_
      simp at hy
      rcases hy with rfl | rfl
      · exact pl_As (n := 0) (by rw [v0.l1]; omega)
      · exact pl_As (n := 0) (by rw [v0.l2]; omega)
    · exact pl_dA) (by decide)
  have nb : oNe (bkD rs0) (bkD rs0) (d1 :: Rm) = .ok (.bl false) (d1 :: Rm) := ne_self (pl_book hg) (by decide)
  -- what the row tells
  have tell : ∀ (rs' : List Rod) (c' : D) (p8 : Option D), Rea rs0 rs' → dr (d1 :: Rm) c' = insR rs' a →
      (s_whole [c'] (d1 :: Rm) = .ok (wD (wholeF W0 rs0)) (d1 :: Rm)) ∧
      (xMth k_Row "end" (fun ds es => sel [.p 0] ds [] es) s_Row_end (xVar 3) xNil xNil [x, some (.cel 0), o2, some c', some (bkD rs0), some d5, some (wD (wholeF W0 rs0)), some (dA (endF a rs0)), p8, o9] (d1 :: Rm) = .ok (dA (endF a rs0)) (d1 :: Rm)) ∧
      (xCalB bSortG (xCons (xLc (xIt (xMth k_Row "names" (fun ds es => sel [.p 0] ds [] es) s_Row_names (xVar 3) xNil xNil)) (gN 9) xYes v_law_2 [9]) xNil) [x, some (.cel 0), o2, some c', some (bkD rs0), some d5, some (wD (wholeF W0 rs0)), some (dA (endF a rs0)), p8, o9] (d1 :: Rm) = .ok (bkD rs0) (d1 :: Rm)) := fun rs' c' p8 hr' hd' => by
    have F := rea_fine hg hr'
    have h8 := F.g.l8
    refine ⟨whole_ok hd' hg hr', ?_, ?_⟩
    · rw [mth_end (ev_var rfl) hd' (runs_rea hg ha hr') (by omega), end_same hg ha hr']
    · rw [book_ev (v := v_law_2) rfl rfl (by simp) hd' F.g]
      unfold bkD
      rw [book_same hg hr']
  have fin : ∀ (rs' : List Rod) (c' q8 : D), Rea rs0 rs' → (∀ ds : Ce, dr (ds :: Rm) c' = insR rs' a) →
      xTry nCx hdx y_law_1 [x, some (.cel 0), o2, some c, some (bkD rs0), some d5, some (wD (wholeF W0 rs0)), some (dA (endF a rs0)), o8, o9] (ds :: Rm) = .ok q8 (d1 :: Rm) →
      xIf (xTest (xOp oEq (xOp oIx (xVar 8) (xVal (.int (0)))) (xVal (.str "told")))) (xOp oIx (xVar 8) (xVal (.int (1)))) (xVar 3) [x, some (.cel 0), o2, some c, some (bkD rs0), some d5, some (wD (wholeF W0 rs0)), some (dA (endF a rs0)), some q8, o9] (d1 :: Rm) = .ok c' (d1 :: Rm) →
      w_law_1 [x, some (.cel 0), o2, some c, some (bkD rs0), some d5, some (wD (wholeF W0 rs0)), some (dA (endF a rs0)), o8, o9] (ds :: Rm) = .nx [x, some (.cel 0), o2, some c', some (bkD rs0), some d5, some (wD (wholeF W0 rs0)), some (dA (endF a rs0)), some q8, o9] (d1 :: Rm) := fun rs' c' q8 hr' hd' t2 t3 => by
    obtain ⟨u1, u2, u3⟩ := tell rs' c' (some q8) hr' (hd' d1)
    have hdr : dr (d1 :: Rm) (bkD rs0) = bkD rs0 := rfl
    unfold w_law_1
    generalize xTry nCx hdx y_law_1 = X at *
    generalize xIf (xTest (xOp oEq (xOp oIx (xVar 8) (xVal (.int (0)))) (xVal (.str "told")))) (xOp oIx (xVar 8) (xVal (.int (1)))) (xVar 3) = X3 at *
    generalize xMth k_Row "end" (fun ds es => sel [.p 0] ds [] es) s_Row_end (xVar 3) xNil xNil = X1 at *
    generalize xCalB bSortG (xCons (xLc (xIt (xMth k_Row "names" (fun ds es => sel [.p 0] ds [] es) s_Row_names (xVar 3) xNil xNil)) (gN 9) xYes v_law_2 [9]) xNil) = X2 at *
    generalize bkD rs0 = BK at *
    generalize wD (wholeF W0 rs0) = WD at *
    generalize dA (endF a rs0) = ED at *
    clear tell t
    refine seq_nx (σ1 := [x, some (.cel 0), o2, some c, some BK, some d5, some WD, some ED, some q8, o9]) (m1 := d1 :: Rm) (by simp [t2]) ?_
    refine seq_nx (σ1 := [x, some (.cel 0), o2, some c', some BK, some d5, some WD, some ED, some q8, o9]) (m1 := d1 :: Rm) (by simp [t3]) ?_
    simp [xTest, xNot, u1, u2, u3, lk, hdr, nb]
  cases ht : tradeO rs k with
  | none =>
    rw [ht] at t
    simp only at t
    refine ⟨c, rs, some (.tup [.str "Flat", .int ((k : Nat) + 1)]), d1, fin rs c _ hr hd t ?_, hr, hl, hd, b1⟩
    have n2 : oEq (.str "Flat") (.str "told") (d1 :: Rm) = .ok (.bl false) (d1 :: Rm) := by
      rw [eq_str (by decide +kernel) (by decide +kernel)]
      rfl
    simp [xTest, n2]
  | some rs' =>
    rw [ht] at t
    simp only at t
    have hlen := trade_cases ht
    have hl' : 2 ≤ rs'.length := by
      have := ((Rea.snoc hr ht).lo hg.loR).2.2.2
      have := (hr.lo hg.loR).2.2.2
      omega
    refine ⟨insR rs' a, rs', some (.tup [.str "told", insR rs' a]), d1, fin rs' _ _ (.snoc hr ht) (fun ds => dr_ins rs' a _) t ?_, .snoc hr ht, hl', fun ds => dr_ins rs' a _, b1⟩
    have n2 : oEq (.str "told") (.str "told") (d1 :: Rm) = .ok (.bl true) (d1 :: Rm) := by
      rw [eq_str (by decide +kernel) (by decide +kernel)]
      rfl
    generalize insR rs' a = W at *
    simp [xTest, n2]
theorem turn_ok {x : D} (o : List (Option D)) (b : Int) (ds : Ce) (rest : Ms) (ho : o.length = 8) (h : Box b ds) (h0 : 0 ≤ b) (hb : b < 600000000) :
    ∃ o' ds' rest', (w_law_2 (some x :: some (.cel 0) :: o) (ds :: rest) = .nx (some x :: some (.cel 0) :: o') (ds' :: rest') ∨ w_law_2 (some x :: some (.cel 0) :: o) (ds :: rest) = .ct (some x :: some (.cel 0) :: o') (ds' :: rest')) ∧ o'.length = 8 ∧ Box (b + 1000) ds' := by
  obtain ⟨rs, d1, s, st, tl, pk, e1, b1, hl1, g1, n1, _, _, hst, htl, _⟩ := l_rods_ok (lo := 2) (hi := 8) (rest := rest) h (by omega) (by decide) (by decide) (by decide)
  have G : Good 3 rs := good_of (by omega) (by omega) n1 hst htl fun r hr => ⟨(g1 r hr).1.mono (by decide), (g1 r hr).2⟩
  obtain ⟨a, d4, e4, b4, g4⟩ := l_spot_ok (rest := rest) b1 (by omega)
  have e5 := make_row (a := a) G (d4 :: rest)
  have h8 := G.l8
  have hda : ∀ ds : Ce, dr (ds :: (rest ++ [dRow rs a])) (.cel (rest.length + 1)) = insR rs a := fun ds => dr_row rs a (ds :: rest)
  have ew := whole_ok (hda d4) G (.refl _)
  match o, ho with
  | [o2, o3, o4, o5, o6, o7, o8, o9], _ =>
  have ee := mth_end (σ := [some x, some (.cel 0), o2, some (.cel (rest.length + 1)), o4, o5, o6, o7, o8, o9]) (o := xVar 3) (ev_var rfl) (hda d4) (runs_rea G g4 (.refl _)) (by omega)
  have eb := book_ev (v := v_law_1) rfl (σ := [some x, some (.cel 0), o2, some (.cel (rest.length + 1)), o4, o5, some (wD (wholeF W0 rs)), some (dA (endF a rs)), o8, o9]) rfl (by simp) (hda d4) (rea_fine G (.refl _)).g
  obtain ⟨σ', m', el, c', rs', p5, p8, d6, rfl, rfl, _, _, _, b6⟩ := forL_all (g := gN 5) (b := w_law_1) (fun i σ m => ∃ c' rs' p5 p8 d6, σ = [some x, some (.cel 0), o2, some c', some (bkD rs), p5, some (wD (wholeF W0 rs)), some (dA (endF a rs)), p8, o9] ∧ m = d6 :: (rest ++ [dRow rs a]) ∧ Rea rs rs' ∧ 2 ≤ rs'.length ∧ (∀ ds : Ce, dr (ds :: (rest ++ [dRow rs a])) c' = insR rs' a) ∧ Box (b + 60 + 4 + i) d6) (rngD 0 10) (fun i d σ m hid ⟨c', rs', p5, p8, d6, hσ, hm, hr, hl, hd, hB⟩ => by
    subst hσ hm
    have hi : i < 10 := by
      have := (List.getElem?_eq_some_iff.mp hid).1
      simpa [rngD] using this
    obtain ⟨c2, rs2, q8, d7, e, hr2, hl2, hd2, hB2⟩ := step15 (x := some x) (o2 := o2) (o8 := p8) (o9 := o9) (d5 := d) G g4 hr hl hd hB (by omega)
    exact ⟨_, _, _, _, rfl, .inl e, c2, rs2, some d, q8, d7, rfl, rfl, hr2, hl2, hd2, hB2.mono (by omega)⟩) (σ := [some x, some (.cel 0), o2, some (.cel (rest.length + 1)), some (bkD rs), o5, some (wD (wholeF W0 rs)), some (dA (endF a rs)), o8, o9]) (m := d4 :: (rest ++ [dRow rs a])) ⟨.cel (rest.length + 1), rs, o5, o8, d4, rfl, rfl, .refl _, by omega, hda, b4.mono (by omega)⟩
  refine ⟨[o2, some c', some (bkD rs), p5, some (wD (wholeF W0 rs)), some (dA (endF a rs)), p8, o9], d6, rest ++ [dRow rs a], .inl ?_, rfl, b6.mono (by simp [rngD]; omega)⟩
  have e5' : s_Row___init [.cel (rest.length + 1), .lst (rs.map dR), dA a] (d4 :: (rest ++ [.o k_Row [] []])) = .ok .non (d4 :: (rest ++ [dRow rs a])) := e5
  have hrl : (rngD 0 10).length ≤ 100000 := by simp [rngD]
  unfold w_law_2
  generalize xMth k_Row "end" (fun ds es => sel [.p 0] ds [] es) s_Row_end (xVar 3) xNil xNil = X1 at *
  generalize xCalB bSortG (xCons (xLc (xIt (xMth k_Row "names" (fun ds es => sel [.p 0] ds [] es) s_Row_names (xVar 3) xNil xNil)) (gN 9) xYes v_law_1 [9]) xNil) = X2 at *
  generalize bkD rs = BK at *
  generalize wD (wholeF W0 rs) = WD at *
  generalize dA (endF a rs) = ED at *
  generalize rs.map dR = P at *
  refine seq_nx (σ1 := [some x, some (.cel 0), o2, some (.cel (rest.length + 1)), o4, o5, o6, o7, o8, o9]) (m1 := d4 :: (rest ++ [dRow rs a])) ?_ ?_
  · simp [e1, e4, e5']
  refine seq_nx (σ1 := [some x, some (.cel 0), o2, some (.cel (rest.length + 1)), o4, o5, some WD, some ED, o8, o9]) (m1 := d4 :: (rest ++ [dRow rs a])) ?_ ?_
  · simp [ew, ee]
  refine seq_nx (σ1 := [some x, some (.cel 0), o2, some (.cel (rest.length + 1)), some BK, o5, some WD, some ED, o8, o9]) (m1 := d4 :: (rest ++ [dRow rs a])) ?_ ?_
  · simp [eb]
  · have hz : (rngD 0 (Int.toNat 10)) = rngD 0 10 := rfl
    simp [el]
theorem LAW (ns : List Int) (_ : ns.length ≤ 63) : trueR (s_law [.lck (ns.map .int)] []) := by
  obtain ⟨d0, eb, B0⟩ := box_ok ns
  obtain ⟨o', ds, rest, e, ho, _⟩ := turnsR (x := .lck (ns.map .int)) (w := w_law_2) (N := 8) (n := 2) (B := 1000) (by decide) (by decide) turn_ok (o := List.replicate 8 none) (by simp) (rest := []) B0
  have key : s_law [.lck (ns.map .int)] [] = .ok (.bl true) [] := by
    refine fn_rt (m' := ds :: rest) ?_ rfl
    simp [b_law, eb]
    simp at e
    simp [e]
  rw [key]
  trivial
end Law
open PySem PySem.W PyProof.Rows in
set_option maxRecDepth 100003 in
set_option maxHeartbeats 0 in
theorem PySem.Challenge.cw_cornertrade_k15_whole_no_trade_changes_t_holds : PySem.Challenge.rw_cornertrade_k15_whole_no_trade_changes_t.Holds := by
  w_on; o_law; k_head; (case hw => w_witness2)
  k_fill
  refine CT.walkT (k := 12) (l := PySem.Challenge.rw_cornertrade_k15_whole_no_trade_changes_t) rfl rfl ⟨rfl, by decide, by decide⟩ (fun w h Y => PySem.W.km_in_of Y) ?F
  case F =>
    intro w mg fa h Y KX G hmg
    have hT8 := PySem.W.km_tabs_of Y
    refine' Law.all_mk KX G hmg ?a0 ?a1 ?a2 ?a3 ?a4 ?a5 ?a6 ?a7 ?a8 ?a9 ?a10 ?a11 ?a12 ?a13 ?a14 ?a15 ?a16 ?a17 ?a19 ?a20 ?a21 ?a22 ?a23 ?a24 ?a25 ?a26 ?a27 ?a28 ?a29 ?a30 ?a31 ?a32 ?a33 ?a34 ?a42 ?z_abs ?z_all ?z_bool ?z_enumerate ?z_int ?z_isinstance ?z_len ?z_list ?z_max ?z_range ?z_sorted ?z_str ?z_tuple ?g_ZERO ?g_ORIGIN ?g_ONE ?g_LONE ?g_MOST_NAME ?g_LETTERS ?g_MOST_RODS ?ra_Row ?ri_Row ?am18 ?am36 ?am37 ?am38 ?am39 ?am40 ?am41 ?kf18 ?kf35 ?kf36 ?kf37 ?kf38 ?kf39 ?kf40 ?kf41 ?rp_Row ?rh_Row ?ro_Row ?rs_Row ?rm_Row ?rk_Row ?rf_Row_lot ?rf_Row_first ?l0 ?c0 ?k0 ?l1 ?c1 ?k1 ?l2 ?c2 ?k2 ?l3 ?c3 ?k3 ?l4 ?c4 ?k4 ?l5 ?c5 ?k5 ?l6 ?c6 ?k6 ?l7 ?c7 ?k7 ?l8 ?c8 ?k8 ?l9 ?c9 ?k9 ?l10 ?c10 ?k10 ?l11 ?c11 ?k11 ?l12 ?c12 ?k12 ?l13 ?c13 ?k13 ?l14 ?c14 ?k14 ?l15 ?c15 ?k15 ?l16 ?c16 ?k16 ?l17 ?c17 ?k17 ?l18 ?c18 ?k18 ?l19 ?c19 ?k19 ?l20 ?c20 ?k20 ?l21 ?c21 ?k21 ?l22 ?c22 ?k22 ?l23 ?c23 ?k23 ?l24 ?c24 ?k24 ?l25 ?c25 ?k25 ?l26 ?c26 ?k26 ?l27 ?c27 ?k27 ?l28 ?c28 ?k28 ?l29 ?c29 ?k29 ?l30 ?c30 ?k30 ?l31 ?c31 ?k31 ?l32 ?c32 ?k32 ?l33 ?c33 ?k33 ?l34 ?c34 ?k34 ?l35 ?c35 ?k35 ?l36 ?c36 ?k36 ?l37 ?c37 ?k37 ?l38 ?c38 ?k38 ?l39 ?c39 ?k39 ?l40 ?c40 ?k40 ?l41 ?c41 ?k41 ?l42 ?c42 ?k42 ?T_2 ?q35 ?lt2 ?lt3 ?lt6 ?lt9 ?lt12 ?lt13 ?lt16 ?lt19 ?lt22 ?lt23 ?lt26 ?xa0 ?xl0 ?xb0 ?xs0 ?xe0 ?xt0 ?xk0 ?xi0 ?xj0 ?xm0 ?xc0 ?xf0_called ?xa1 ?xl1 ?xb1 ?xs1 ?xe1 ?xt1 ?xk1 ?xi1 ?xj1 ?xm1 ?xc1 ?xf1_called ?xf1_name ?xa2 ?xl2 ?xb2 ?xs2 ?xe2 ?xt2 ?xk2 ?xi2 ?xj2 ?xm2 ?xc2 ?xf2_called ?xf2_at ?xa3 ?xl3 ?xb3 ?xs3 ?xe3 ?xt3 ?xk3 ?xi3 ?xj3 ?xm3 ?xc3 ?xf3_called ?xf3_name ?xa4 ?xl4 ?xb4 ?xs4 ?xe4 ?xt4 ?xk4 ?xi4 ?xj4 ?xm4 ?xc4 ?xf4_called ?xf4_many ?xa5 ?xl5 ?xb5 ?xs5 ?xe5 ?xt5 ?xk5 ?xi5 ?xj5 ?xm5 ?xc5 ?xf5_called ?xf5_at ?xa6 ?xl6 ?xb6 ?xs6 ?xe6 ?xt6 ?xk6 ?xi6 ?xj6 ?xm6 ?xc6 ?xf6_called ?xf6_at ?xg0 ?xh0 ?xd0 ?xg1 ?xh1 ?xd1 ?xg2 ?xh2 ?xd2 ?xg3 ?xh3 ?xd3 ?xg4 ?xh4 ?xd4 ?xg5 ?xh5 ?xd5 ?xg6 ?xh6 ?xd6 ?y_BadName ?y_Twice ?y_Taken ?y_InUse ?y_NoRow ?y_NoWatch ?y_Nought ?y_BadCorner ?y_Flat ?y_Unbuilt ?y_BadText ?y_Folded ?y_BadRow ?y_Full ?y_BadDeed ?y_RodError ?y_Missing ?aT ?lT ?cT ?kT ?e0_0 ?e0_1 ?e0_2 ?e0_3 ?e0_4 ?e0_5 ?e0_6 ?e1_0 ?e1_1 ?e1_2 ?e1_3 ?e1_4 ?e1_5 ?e1_6 ?e2_0 ?e2_1 ?e2_2 ?e2_3 ?e2_4 ?e2_5 ?e2_6 ?e3_0 ?e3_1 ?e3_2 ?e3_3 ?e3_4 ?e3_5 ?e3_6 ?e4_0 ?e4_1 ?e4_2 ?e4_3 ?e4_4 ?e4_5 ?e4_6 ?e5_0 ?e5_1 ?e5_2 ?e5_3 ?e5_4 ?e5_5 ?e5_6 ?e6_0 ?e6_1 ?e6_2 ?e6_3 ?e6_4 ?e6_5 ?e6_6 ?hP ?hK ?hC Law.LAW
    (case a0 => k_is)
    (case a1 => k_is)
    (case a2 => k_is)
    (case a3 => k_is)
    (case a4 => k_is)
    (case a5 => k_is)
    (case a6 => k_is)
    (case a7 => k_is)
    (case a8 => k_is)
    (case a9 => k_is)
    (case a10 => k_is)
    (case a11 => k_is)
    (case a12 => k_is)
    (case a13 => k_is)
    (case a14 => k_is)
    (case a15 => k_is)
    (case a16 => k_is)
    (case a17 => k_is)
    (case a19 => k_is)
    (case a20 => k_is)
    (case a21 => k_is)
    (case a22 => k_is)
    (case a23 => k_is)
    (case a24 => k_is)
    (case a25 => k_is)
    (case a26 => k_is)
    (case a27 => k_is)
    (case a28 => k_is)
    (case a29 => k_is)
    (case a30 => k_is)
    (case a31 => k_is)
    (case a32 => k_is)
    (case a33 => k_is)
    (case a34 => k_is)
    (case a42 => k_is)
    (case z_abs => k_is)
    (case z_all => k_is)
    (case z_bool => k_is)
    (case z_enumerate => k_is)
    (case z_int => k_is)
    (case z_isinstance => k_is)
    (case z_len => k_is)
    (case z_list => k_is)
    (case z_max => k_is)
    (case z_range => k_is)
    (case z_sorted => k_is)
    (case z_str => k_is)
    (case z_tuple => k_is)
    (case g_ZERO => k_is)
    (case g_ORIGIN => k_is)
    (case g_ONE => k_is)
    (case g_LONE => k_is)
    (case g_MOST_NAME => k_is)
    (case g_LETTERS => k_is)
    (case g_MOST_RODS => k_is)
    (case ra_Row => k_is)
    (case ri_Row => k_is)
    (case am18 => k_is)
    (case am36 => k_is)
    (case am37 => k_is)
    (case am38 => k_is)
    (case am39 => k_is)
    (case am40 => k_is)
    (case am41 => k_is)
    (case kf18 => k_is)
    (case kf35 => k_is)
    (case kf36 => k_is)
    (case kf37 => k_is)
    (case kf38 => k_is)
    (case kf39 => k_is)
    (case kf40 => k_is)
    (case kf41 => k_is)
    (case rp_Row => k_is)
    (case rh_Row => k_is)
    (case ro_Row => k_is)
    (case rs_Row => k_is)
    (case rm_Row => k_is)
    (case rk_Row => k_is)
    (case rf_Row_lot => k_is)
    (case rf_Row_first => k_is)
    (case l0 => k_is)
    (case c0 => k_is)
    (case k0 => k_is)
    (case l1 => k_is)
    (case c1 => k_is)
    (case k1 => k_is)
    (case l2 => k_is)
    (case c2 => k_is)
    (case k2 => k_is)
    (case l3 => k_is)
    (case c3 => k_is)
    (case k3 => k_is)
    (case l4 => k_is)
    (case c4 => k_is)
    (case k4 => k_is)
    (case l5 => k_is)
    (case c5 => k_is)
    (case k5 => k_is)
    (case l6 => k_is)
    (case c6 => k_is)
    (case k6 => k_is)
    (case l7 => k_is)
    (case c7 => k_is)
    (case k7 => k_is)
    (case l8 => k_is)
    (case c8 => k_is)
    (case k8 => k_is)
    (case l9 => k_is)
    (case c9 => k_is)
    (case k9 => k_is)
    (case l10 => k_is)
    (case c10 => k_is)
    (case k10 => k_is)
    (case l11 => k_is)
    (case c11 => k_is)
    (case k11 => k_is)
    (case l12 => k_is)
    (case c12 => k_is)
    (case k12 => k_is)
    (case l13 => k_is)
    (case c13 => k_is)
    (case k13 => k_is)
    (case l14 => k_is)
    (case c14 => k_is)
    (case k14 => k_is)
    (case l15 => k_is)
    (case c15 => k_is)
    (case k15 => k_is)
    (case l16 => k_is)
    (case c16 => k_is)
    (case k16 => k_is)
    (case l17 => k_is)
    (case c17 => k_is)
    (case k17 => k_is)
    (case l18 => k_is)
    (case c18 => k_is)
    (case k18 => k_is)
    (case l19 => k_is)
    (case c19 => k_is)
    (case k19 => k_is)
    (case l20 => k_is)
    (case c20 => k_is)
    (case k20 => k_is)
    (case l21 => k_is)
    (case c21 => k_is)
    (case k21 => k_is)
    (case l22 => k_is)
    (case c22 => k_is)
    (case k22 => k_is)
    (case l23 => k_is)
    (case c23 => k_is)
    (case k23 => k_is)
    (case l24 => k_is)
    (case c24 => k_is)
    (case k24 => k_is)
    (case l25 => k_is)
    (case c25 => k_is)
    (case k25 => k_is)
    (case l26 => k_is)
    (case c26 => k_is)
    (case k26 => k_is)
    (case l27 => k_is)
    (case c27 => k_is)
    (case k27 => k_is)
    (case l28 => k_is)
    (case c28 => k_is)
    (case k28 => k_is)
    (case l29 => k_is)
    (case c29 => k_is)
    (case k29 => k_is)
    (case l30 => k_is)
    (case c30 => k_is)
    (case k30 => k_is)
    (case l31 => k_is)
    (case c31 => k_is)
    (case k31 => k_is)
    (case l32 => k_is)
    (case c32 => k_is)
    (case k32 => k_is)
    (case l33 => k_is)
    (case c33 => k_is)
    (case k33 => k_is)
    (case l34 => k_is)
    (case c34 => k_is)
    (case k34 => k_is)
    (case l35 => k_is)
    (case c35 => k_is)
    (case k35 => k_is)
    (case l36 => k_is)
    (case c36 => k_is)
    (case k36 => k_is)
    (case l37 => k_is)
    (case c37 => k_is)
    (case k37 => k_is)
    (case l38 => k_is)
    (case c38 => k_is)
    (case k38 => k_is)
    (case l39 => k_is)
    (case c39 => k_is)
    (case k39 => k_is)
    (case l40 => k_is)
    (case c40 => k_is)
    (case k40 => k_is)
    (case l41 => k_is)
    (case c41 => k_is)
    (case k41 => k_is)
    (case l42 => k_is)
    (case c42 => k_is)
    (case k42 => k_is)
    (case T_2 => k_is)
    (case q35 => k_is)
    (case lt2 => k_is)
    (case lt3 => k_is)
    (case lt6 => k_is)
    (case lt9 => k_is)
    (case lt12 => k_is)
    (case lt13 => k_is)
    (case lt16 => k_is)
    (case lt19 => k_is)
    (case lt22 => k_is)
    (case lt23 => k_is)
    (case lt26 => k_is)
    (case xa0 => k_is)
    (case xl0 => k_is)
    (case xb0 => exact rfl)
    (case xs0 => k_is)
    (case xe0 => k_is)
    (case xt0 => k_is)
    (case xk0 => k_is)
    (case xi0 => k_is)
    (case xj0 => k_is)
    (case xm0 => k_is)
    (case xc0 => k_is)
    (case xf0_called => k_is)
    (case xa1 => k_is)
    (case xl1 => k_is)
    (case xb1 => exact rfl)
    (case xs1 => k_is)
    (case xe1 => k_is)
    (case xt1 => k_is)
    (case xk1 => k_is)
    (case xi1 => k_is)
    (case xj1 => k_is)
    (case xm1 => k_is)
    (case xc1 => k_is)
    (case xf1_called => k_is)
    (case xf1_name => k_is)
    (case xa2 => k_is)
    (case xl2 => k_is)
    (case xb2 => exact rfl)
    (case xs2 => k_is)
    (case xe2 => k_is)
    (case xt2 => k_is)
    (case xk2 => k_is)
    (case xi2 => k_is)
    (case xj2 => k_is)
    (case xm2 => k_is)
    (case xc2 => k_is)
    (case xf2_called => k_is)
    (case xf2_at => k_is)
    (case xa3 => k_is)
    (case xl3 => k_is)
    (case xb3 => exact rfl)
    (case xs3 => k_is)
    (case xe3 => k_is)
    (case xt3 => k_is)
    (case xk3 => k_is)
    (case xi3 => k_is)
    (case xj3 => k_is)
    (case xm3 => k_is)
    (case xc3 => k_is)
    (case xf3_called => k_is)
    (case xf3_name => k_is)
    (case xa4 => k_is)
    (case xl4 => k_is)
    (case xb4 => exact rfl)
    (case xs4 => k_is)
    (case xe4 => k_is)
    (case xt4 => k_is)
    (case xk4 => k_is)
    (case xi4 => k_is)
    (case xj4 => k_is)
    (case xm4 => k_is)
    (case xc4 => k_is)
    (case xf4_called => k_is)
    (case xf4_many => k_is)
    (case xa5 => k_is)
    (case xl5 => k_is)
    (case xb5 => exact rfl)
    (case xs5 => k_is)
    (case xe5 => k_is)
    (case xt5 => k_is)
    (case xk5 => k_is)
    (case xi5 => k_is)
    (case xj5 => k_is)
    (case xm5 => k_is)
    (case xc5 => k_is)
    (case xf5_called => k_is)
    (case xf5_at => k_is)
    (case xa6 => k_is)
    (case xl6 => k_is)
    (case xb6 => exact rfl)
    (case xs6 => k_is)
    (case xe6 => k_is)
    (case xt6 => k_is)
    (case xk6 => k_is)
    (case xi6 => k_is)
    (case xj6 => k_is)
    (case xm6 => k_is)
    (case xc6 => k_is)
    (case xf6_called => k_is)
    (case xf6_at => k_is)
    (case xg0 => k_is)
    (case xh0 => k_is)
    (case xd0 => k_is)
    (case xg1 => k_is)
    (case xh1 => k_is)
    (case xd1 => k_is)
    (case xg2 => k_is)
    (case xh2 => k_is)
    (case xd2 => k_is)
    (case xg3 => k_is)
    (case xh3 => k_is)
    (case xd3 => k_is)
    (case xg4 => k_is)
    (case xh4 => k_is)
    (case xd4 => k_is)
    (case xg5 => k_is)
    (case xh5 => k_is)
    (case xd5 => k_is)
    (case xg6 => k_is)
    (case xh6 => k_is)
    (case xd6 => k_is)
    (case y_BadName => k_is)
    (case y_Twice => k_is)
    (case y_Taken => k_is)
    (case y_InUse => k_is)
    (case y_NoRow => k_is)
    (case y_NoWatch => k_is)
    (case y_Nought => k_is)
    (case y_BadCorner => k_is)
    (case y_Flat => k_is)
    (case y_Unbuilt => k_is)
    (case y_BadText => k_is)
    (case y_Folded => k_is)
    (case y_BadRow => k_is)
    (case y_Full => k_is)
    (case y_BadDeed => k_is)
    (case y_RodError => k_is)
    (case y_Missing => k_is)
    (case aT => k_is)
    (case lT => k_is)
    (case cT => k_is)
    (case kT => k_is)
    (case e0_0 => kts_exm)
    (case e0_1 => kts_exm)
    (case e0_2 => kts_exm)
    (case e0_3 => kts_exm)
    (case e0_4 => kts_exm)
    (case e0_5 => kts_exm)
    (case e0_6 => kts_exm)
    (case e1_0 => kts_exm)
    (case e1_1 => kts_exm)
    (case e1_2 => kts_exm)
    (case e1_3 => kts_exm)
    (case e1_4 => kts_exm)
    (case e1_5 => kts_exm)
    (case e1_6 => kts_exm)
    (case e2_0 => kts_exm)
    (case e2_1 => kts_exm)
    (case e2_2 => kts_exm)
    (case e2_3 => kts_exm)
    (case e2_4 => kts_exm)
    (case e2_5 => kts_exm)
    (case e2_6 => kts_exm)
    (case e3_0 => kts_exm)
    (case e3_1 => kts_exm)
    (case e3_2 => kts_exm)
    (case e3_3 => kts_exm)
    (case e3_4 => kts_exm)
    (case e3_5 => kts_exm)
    (case e3_6 => kts_exm)
    (case e4_0 => kts_exm)
    (case e4_1 => kts_exm)
    (case e4_2 => kts_exm)
    (case e4_3 => kts_exm)
    (case e4_4 => kts_exm)
    (case e4_5 => kts_exm)
    (case e4_6 => kts_exm)
    (case e5_0 => kts_exm)
    (case e5_1 => kts_exm)
    (case e5_2 => kts_exm)
    (case e5_3 => kts_exm)
    (case e5_4 => kts_exm)
    (case e5_5 => kts_exm)
    (case e5_6 => kts_exm)
    (case e6_0 => kts_exm)
    (case e6_1 => kts_exm)
    (case e6_2 => kts_exm)
    (case e6_3 => kts_exm)
    (case e6_4 => kts_exm)
    (case e6_5 => kts_exm)
    (case e6_6 => kts_exm)
    (case hP => exact hT8 _ (List.mem_cons_self ..))
    (case hK => exact rfl)
    (case hC => exact rfl)
